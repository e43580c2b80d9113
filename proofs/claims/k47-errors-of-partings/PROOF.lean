import PyProof.Rows.All
import Wide.All
import OpenK.AllK
import Wide.FinOn
import HandS.Base
import HandS.Call
import HandS.List
import HandS.Comp
import HandS.Ends
import HandS.Dict
import HandS.Iter
import HandS.Text
import HandS.IsInst
import HandS.Words
import HandS.Exc
import HandS.ExcInit
import HandS.ExcField
import HandS.ExcValue
import KE.KExcIs
import HandS.ExcCtx
import HandS.HotCalls
import HandS.Wide
import HandS.Style
import HandS.TupAny
import HandS.Small
import HandS.RaiseMore
import HandS.Star
import PyProof.ReprRoads
import PyProof.ReprLen
import HandS.Defaults
import PyProof.RowDictHeap
import KE.KRevSl
import HandS.Replace
import KE.DatumOrd
import HandS.FStr
import HandS.ExcOwn
import PyProof.StrOps2
import PyProof.Rows.StrFit
import PyProof.DictWalks
import PyProof.ConsumeWalk
import HandS.ExcIs
import KE.KDictZip
import KE.KItemsList
import HandS.Conv
import HandS.TupMul
import HandS.DictComp
import HandS.Steps
import PySem.Challenge.RW_squeezedkeyer_k47_errors_of_partings
set_option Elab.async false
set_option linter.all false
set_option maxRecDepth 100000
set_option maxHeartbeats 1000000
namespace TL
open PySem PySem.Spec PyProof.Rows L2
inductive T where
  | non | bl (b : Bool) | int (i : Int) | str (x : Str)
  | tup (xs : List T) | lst (o : Bool) (xs : List T) | dct (o : Bool) (kvs : List (Key × T)) | ins (o : Bool) (y : Str) (fs : List (Str × T))
  | fn (a : Addr) | ty (n : String)
  /-- an exception: where it stands, its class's name, its dict, its fields -/
  | exc (a : Addr) (x : Str) (od : Option Addr) (fs : List (Str × T))
  /-- an exception object held as a value: its class's name, its fields -/
  | exv (x : Str) (fs : List (Str × T))
deriving Inhabited
mutual
def frz : T → T
  | .tup xs => .tup (frzL xs)
  | .lst _ xs => .lst false (frzL xs)
  | .dct _ kvs => .dct false (frzK kvs)
  | .ins _ y fs => .ins false y (frzF fs)
  | .non => .non | .bl b => .bl b | .int i => .int i | .str x => .str x | .fn a => .fn a | .ty n => .ty n | .exc a x od fs => .exc a x od fs | .exv x fs => .exv x fs
def frzL : List T → List T
  | [] => []
  | t :: r => frz t :: frzL r
def frzK : List (Key × T) → List (Key × T)
  | [] => []
  | (k, t) :: r => (k, frz t) :: frzK r
def frzF : List (Str × T) → List (Str × T)
  | [] => []
  | (k, t) :: r => (k, frz t) :: frzF r
end
mutual
def closed : T → Bool
  | .tup xs => closedL xs
  | .lst o xs => !o && closedL xs
  | .dct o kvs => !o && closedK kvs
  | .ins o _ fs => !o && closedF fs
  | .non => true | .bl _ => true | .int _ => true | .str _ => true | .fn _ => true | .ty _ => true | .exc _ _ _ _ => true | .exv _ _ => true
def closedL : List T → Bool
  | [] => true
  | t :: r => closed t && closedL r
def closedK : List (Key × T) → Bool
  | [] => true
  | (_, t) :: r => closed t && closedK r
def closedF : List (Str × T) → Bool
  | [] => true
  | (_, t) :: r => closed t && closedF r
end
mutual
theorem frz_closed : ∀ t : T, closed t = true → frz t = t
  | .tup xs, h => by simp only [frz]; rw [frzL_closed xs (by simpa [closed] using h)]
  | .lst o xs, h => by
    simp only [closed, Bool.and_eq_true, Bool.not_eq_true'] at h
    simp only [frz]; rw [frzL_closed xs h.2, h.1]
  | .dct o kvs, h => by
    simp only [closed, Bool.and_eq_true, Bool.not_eq_true'] at h
    simp only [frz]; rw [frzK_closed kvs h.2, h.1]
  | .ins o C fs, h => by
    simp only [closed, Bool.and_eq_true, Bool.not_eq_true'] at h
    simp only [frz]; rw [frzF_closed fs h.2, h.1]
  | .non, _ => by simp only [frz]
  | .bl _, _ => by simp only [frz]
  | .int _, _ => by simp only [frz]
  | .str _, _ => by simp only [frz]
  | .fn _, _ => by simp only [frz]
  | .ty _, _ => by simp only [frz]
  | .exc _ _ _ _, _ => by simp only [frz]
  | .exv _ _, _ => by simp only [frz]
theorem frzL_closed : ∀ ts : List T, closedL ts = true → frzL ts = ts
  | [], _ => by simp only [frzL]
  | t :: r, h => by
    simp only [closedL, Bool.and_eq_true] at h
    simp only [frzL]; rw [frz_closed t h.1, frzL_closed r h.2]
theorem frzK_closed : ∀ ts : List (Key × T), closedK ts = true → frzK ts = ts
  | [], _ => by simp only [frzK]
  | (k, t) :: r, h => by
    simp only [closedK, Bool.and_eq_true] at h
    simp only [frzK]; rw [frz_closed t h.1, frzK_closed r h.2]
theorem frzF_closed : ∀ ts : List (Str × T), closedF ts = true → frzF ts = ts
  | [], _ => by simp only [frzF]
  | (k, t) :: r, h => by
    simp only [closedF, Bool.and_eq_true] at h
    simp only [frzF]; rw [frz_closed t h.1, frzF_closed r h.2]
end
theorem frzL_map : ∀ ts : List T, frzL ts = ts.map frz
  | [] => by simp only [frzL, List.map_nil]
  | t :: r => by simp only [frzL, List.map_cons]; rw [frzL_map r]
theorem frzK_map : ∀ ts : List (Key × T), frzK ts = ts.map fun p => (p.1, frz p.2)
  | [] => by simp only [frzK, List.map_nil]
  | (k, t) :: r => by simp only [frzK, List.map_cons]; rw [frzK_map r]
theorem frzF_map : ∀ ts : List (Str × T), frzF ts = ts.map fun p => (p.1, frz p.2)
  | [] => by simp only [frzF, List.map_nil]
  | (k, t) :: r => by simp only [frzF, List.map_cons]; rw [frzF_map r]
theorem closedL_iff : ∀ ts : List T, closedL ts = true ↔ ∀ t ∈ ts, closed t = true
  | [] => by simp [closedL]
  | t :: r => by simp [closedL, closedL_iff r]
theorem closedK_iff : ∀ ts : List (Key × T), closedK ts = true ↔ ∀ p ∈ ts, closed p.2 = true
  | [] => by simp [closedK]
  | (k, t) :: r => by simp [closedK, closedK_iff r]
theorem closedF_iff : ∀ ts : List (Str × T), closedF ts = true ↔ ∀ p ∈ ts, closed p.2 = true
  | [] => by simp [closedF]
  | (k, t) :: r => by simp [closedF, closedF_iff r]
abbrev Frag := PySem.W.Frag
/-- where the class of that name stands -/
def clsOf (K : Frag) (x : Str) : Addr := match PySem.W.nsIn K mainGlobals x with
  | some (some (.ref a)) => a
  | _ => 0
/-- at a: an exception of the class cls, its dict at d -/
def xvO (a : Addr) (cls : Value) (d : Option Addr) : HO := .ext fun h => ∃ (oe : Obj) (vs : Array Value), h.get? a = some oe ∧ Zc cls d oe ∧ oe.data = .fields vs
/-- a list that stands still: tracked, or an object of the written part, just so -/
def RdL (K : Frag) (B : Hp) (a : Addr) (vs : List V) : Prop := Rd B a (.lst vs) ∨ ∃ (its : Array Value) (n : Nat), K.lookup a = some { cls := .type "list", data := .seq its n } ∧ its.size ≤ sizeLine ∧ Vals vs its.toList
mutual
inductive Rp (K : Frag) (B H : Hp) : V → T → List Addr → Prop
  | non : Rp K B H .non .non []
  | bl (b : Bool) : Rp K B H (.bl b) (.bl b) []
  | int (i : Int) : Rp K B H (.int i) (.int i) []
  | str (x : Str) : Rp K B H (.str x) (.str x) []
  | fn (a : Addr) : Rp K B H (.ref a) (.fn a) []
  | ty (n : String) : Rp K B H (.ty n) (.ty n) []
  | exc0 (a : Addr) (x : Str) : Rp K B H (.ref a) (.exc a x none []) []
  | excD {a d : Addr} {x : Str} {fv : List (Str × V)} {ts : List (Str × T)} : B d = some (.xd fv) → fv.map (·.1) = ts.map (·.1) → RpL K B H (fv.map (·.2)) (ts.map (·.2)) [] → Rp K B H (.ref a) (.exc a x (some d) ts) []
  | exv0 {a : Addr} {x : Str} : B a = some (ExO (.ref (clsOf K x)) a) → Rp K B H (.ref a) (.exv x []) []
  | exvD {a d : Addr} {x : Str} {fv : List (Str × V)} {ts : List (Str × T)} : B a = some (xvO a (.ref (clsOf K x)) (some d)) → B d = some (.xd fv) → fv.map (·.1) = ts.map (·.1) → RpL K B H (fv.map (·.2)) (ts.map (·.2)) [] → Rp K B H (.ref a) (.exv x ts) []
  | tup {a : Addr} {vs : List V} {ts : List T} {F : List Addr} : SqT K B a vs → RpL K B H vs ts F → Rp K B H (.ref a) (.tup ts) F
  | lstF {a : Addr} {vs : List V} {ts : List T} : RdL K B a vs → RpL K B H vs ts [] → Rp K B H (.ref a) (.lst false ts) []
  | lstO {a : Addr} {vs : List V} {ts : List T} {F : List Addr} : H a = some (.lst vs) → RpL K B H vs ts F → Rp K B H (.ref a) (.lst true ts) (a :: F)
  | dctF {a : Addr} {kv : List (Key × V)} {ts : List (Key × T)} : Rd B a (.dK kv) → kv.map (·.1) = ts.map (·.1) → RpL K B H (kv.map (·.2)) (ts.map (·.2)) [] → Rp K B H (.ref a) (.dct false ts) []
  | dctO {a : Addr} {kv : List (Key × V)} {ts : List (Key × T)} {F : List Addr} : H a = some (.dK kv) → kv.map (·.1) = ts.map (·.1) → RpL K B H (kv.map (·.2)) (ts.map (·.2)) F → Rp K B H (.ref a) (.dct true ts) (a :: F)
  /-- the object itself stands still; its fields may be owned -/
  | insF {a dx : Addr} {y : Str} {fv : List (Str × V)} {ts : List (Str × T)} {F : List Addr} : B a = some (.ins (clsOf K y) dx fv) → fv.map (·.1) = ts.map (·.1) → RpL K B H (fv.map (·.2)) (ts.map (·.2)) F → Rp K B H (.ref a) (.ins false y ts) F
  | insO {a dx : Addr} {y : Str} {fv : List (Str × V)} {ts : List (Str × T)} {F : List Addr} : H a = some (.ins (clsOf K y) dx fv) → H dx = some (.own a) → fv.map (·.1) = ts.map (·.1) → RpL K B H (fv.map (·.2)) (ts.map (·.2)) F →
      Rp K B H (.ref a) (.ins true y ts) (a :: dx :: F)
inductive RpL (K : Frag) (B H : Hp) : List V → List T → List Addr → Prop
  | nil : RpL K B H [] [] []
  | cons {v : V} {vs : List V} {t : T} {ts : List T} {F G : List Addr} : Rp K B H v t F → RpL K B H vs ts G → RpL K B H (v :: vs) (t :: ts) (F ++ G)
end
/-- the frozen part only grows; a dict may be locked -/
def Le (B B' : Hp) : Prop := ∀ a o, B a = some o → B' a = some o ∨ ∃ kv od, o = .dK kv ∧ B' a = some (.frz od o)
theorem Le.refl (B : Hp) : Le B B := fun _ _ h => .inl h
theorem Le.trans {B C D : Hp} (h : Le B C) (k : Le C D) : Le B D := fun a o e => by
  rcases h a o e with e1 | ⟨kv, od, rfl, e1⟩
  · exact k a o e1
  · rcases k a _ e1 with e2 | ⟨_, _, z, _⟩
    · exact .inr ⟨kv, od, rfl, e2⟩
    · cases z
theorem Le.of_same {B B' : Hp} (h : Same B B') : Le B B' := fun a o e => .inl (h a o e)
theorem Le.ext {B B' : Hp} (h : Le B B') {a : Addr} {φ : Heap → Prop} (r : B a = some (.ext φ)) : B' a = some (.ext φ) := by
  rcases h a _ r with e | ⟨_, _, z, _⟩
  · exact e
  · cases z
def plainO : HO → Bool
  | .frz _ _ => false
  | _ => true
theorem Le.rd {B B' : Hp} (h : Le B B') {a : Addr} {u : HO} (hu : plainO u = true) (r : Rd B a u) : Rd B' a u := by
  rcases r with r | ⟨o, r⟩
  · rcases h a u r with e | ⟨kv, od, _, e⟩
    · exact .inl e
    · exact .inr ⟨od, e⟩
  · rcases h a _ r with e | ⟨kv, od, z, _⟩
    · exact .inr ⟨o, e⟩
    · cases z
theorem Le.sqT {K : Frag} {B B' : Hp} (h : Le B B') {a : Addr} {vs : List V} (r : SqT K B a vs) : SqT K B' a vs := r.elim (fun r => .inl (h.rd rfl r)) .inr
theorem Le.rdL {K : Frag} {B B' : Hp} (h : Le B B') {a : Addr} {vs : List V} (r : RdL K B a vs) : RdL K B' a vs := r.elim (fun r => .inl (h.rd rfl r)) .inr
theorem RdL.sq {K : Frag} {B : Hp} {a : Addr} {vs : List V} (r : RdL K B a vs) : SqL K B a vs := r.elim .inl fun ⟨its, n, e, z, r⟩ => .inr ⟨_, its, n, e, rfl, rfl, rfl, z, r⟩
section
variable {K : Frag} {B B' H H' : Hp}
mutual
theorem Rp.mono (hB : Le B B') : ∀ {v : V} {t : T} {F : List Addr}, Rp K B H v t F → (∀ a ∈ F, H' a = H a) → Rp K B' H' v t F
  | _, _, _, .non, _ => .non
  | _, _, _, .bl b, _ => .bl b
  | _, _, _, .int i, _ => .int i
  | _, _, _, .str x, _ => .str x
  | _, _, _, .fn a, _ => .fn a
  | _, _, _, .ty n, _ => .ty n
  | _, _, _, .exc0 a x, _ => .exc0 a x
  | _, _, _, .excD h1 h2 h3, _ => .excD (by rcases hB _ _ h1 with e | ⟨_, _, z, _⟩; exact e; cases z) h2 (RpL.mono hB h3 fun _ z => nomatch z)
  | _, _, _, .exv0 h1, _ => .exv0 (hB.ext h1)
  | _, _, _, .exvD h0 h1 h2 h3, _ => .exvD (hB.ext h0) (by rcases hB _ _ h1 with e | ⟨_, _, z, _⟩; exact e; cases z) h2 (RpL.mono hB h3 fun _ z => nomatch z)
  | _, _, _, .tup h1 h2, hF => .tup (hB.sqT h1) (RpL.mono hB h2 hF)
  | _, _, _, .lstF h1 h2, _ => .lstF (hB.rdL h1) (RpL.mono hB h2 fun _ z => nomatch z)
  | _, _, _, .lstO h1 h2, hF => .lstO ((hF _ List.mem_cons_self).trans h1) (RpL.mono hB h2 fun a z => hF a (List.mem_cons_of_mem _ z))
  | _, _, _, .dctF h1 h2 h3, _ => .dctF (hB.rd rfl h1) h2 (RpL.mono hB h3 fun _ z => nomatch z)
  | _, _, _, .dctO h1 h2 h3, hF => .dctO ((hF _ List.mem_cons_self).trans h1) h2 (RpL.mono hB h3 fun a z => hF a (List.mem_cons_of_mem _ z))
  | _, _, _, .insF h1 h2 h3, hF => .insF (by rcases hB _ _ h1 with e | ⟨_, _, z, _⟩; exact e; cases z) h2 (RpL.mono hB h3 hF)
  | _, _, _, .insO h1 h0 h2 h3, hF => .insO ((hF _ List.mem_cons_self).trans h1) ((hF _ (List.mem_cons_of_mem _ List.mem_cons_self)).trans h0) h2
      (RpL.mono hB h3 fun a z => hF a (List.mem_cons_of_mem _ (List.mem_cons_of_mem _ z)))
theorem RpL.mono (hB : Le B B') : ∀ {vs : List V} {ts : List T} {F : List Addr}, RpL K B H vs ts F → (∀ a ∈ F, H' a = H a) → RpL K B' H' vs ts F
  | _, _, _, .nil, _ => .nil
  | _, _, _, .cons h1 h2, hF => .cons (Rp.mono hB h1 fun a z => hF a (List.mem_append_left _ z)) (RpL.mono hB h2 fun a z => hF a (List.mem_append_right _ z))
end
mutual
/-- frozen: nothing is owned -/
theorem Rp.fr (hB : Le B B') : ∀ {v : V} {t : T} {F : List Addr}, Rp K B H v t F → (∀ a ∈ F, B' a = H a) → Rp K B' H' v (frz t) []
  | _, _, _, .non, _ => by simp only [frz]; exact .non
  | _, _, _, .bl b, _ => by simp only [frz]; exact .bl b
  | _, _, _, .int i, _ => by simp only [frz]; exact .int i
  | _, _, _, .str x, _ => by simp only [frz]; exact .str x
  | _, _, _, .fn a, _ => by simp only [frz]; exact .fn a
  | _, _, _, .ty n, _ => by simp only [frz]; exact .ty n
  | _, _, _, .exc0 a x, _ => by simp only [frz]; exact .exc0 a x
  | _, _, _, .excD h1 h2 h3, _ => by simp only [frz]; exact .excD (by rcases hB _ _ h1 with e | ⟨_, _, z, _⟩; exact e; cases z) h2 (RpL.mono hB h3 fun _ z => nomatch z)
  | _, _, _, .exv0 h1, _ => by simp only [frz]; exact .exv0 (hB.ext h1)
  | _, _, _, .exvD h0 h1 h2 h3, _ => by simp only [frz]; exact .exvD (hB.ext h0) (by rcases hB _ _ h1 with e | ⟨_, _, z, _⟩; exact e; cases z) h2 (RpL.mono hB h3 fun _ z => nomatch z)
  | _, _, _, .tup h1 h2, hF => by simp only [frz]; exact .tup (hB.sqT h1) (RpL.fr hB h2 hF)
  | _, _, _, .lstF h1 h2, _ => by simp only [frz]; exact .lstF (hB.rdL h1) (RpL.fr hB h2 fun _ z => nomatch z)
  | _, _, _, .lstO h1 h2, hF => by simp only [frz]; exact .lstF (.inl (.inl ((hF _ List.mem_cons_self).trans h1))) (RpL.fr hB h2 fun a z => hF a (List.mem_cons_of_mem _ z))
  | _, _, _, .dctF h1 h2 h3, _ => by
    simp only [frz]
    exact .dctF (hB.rd rfl h1) (by rw [h2, frzK_map, List.map_map]; rfl) (by have := RpL.fr hB h3 (fun _ z => nomatch z); rw [frzK_map, List.map_map]; rw [frzL_map, List.map_map] at this; exact this)
  | _, _, _, .dctO h1 h2 h3, hF => by
    simp only [frz]
    exact .dctF (.inl ((hF _ List.mem_cons_self).trans h1)) (by rw [h2, frzK_map, List.map_map]; rfl) (by have := RpL.fr hB h3 (fun a z => hF a (List.mem_cons_of_mem _ z)); rw [frzK_map, List.map_map]; rw [frzL_map, List.map_map] at this; exact this)
  | _, _, _, .insF h1 h2 h3, hF => by
    simp only [frz]
    exact .insF (by rcases hB _ _ h1 with e | ⟨_, _, z, _⟩; exact e; cases z) (by rw [h2, frzF_map, List.map_map]; rfl) (by have := RpL.fr hB h3 hF; rw [frzF_map, List.map_map]; rw [frzL_map, List.map_map] at this; exact this)
  | _, _, _, .insO h1 h0 h2 h3, hF => by
    simp only [frz]
    exact .insF ((hF _ List.mem_cons_self).trans h1) (by rw [h2, frzF_map, List.map_map]; rfl) (by have := RpL.fr hB h3 (fun a z => hF a (List.mem_cons_of_mem _ (List.mem_cons_of_mem _ z))); rw [frzF_map, List.map_map]; rw [frzL_map, List.map_map] at this; exact this)
theorem RpL.fr (hB : Le B B') : ∀ {vs : List V} {ts : List T} {F : List Addr}, RpL K B H vs ts F → (∀ a ∈ F, B' a = H a) → RpL K B' H' vs (frzL ts) []
  | _, _, _, .nil, _ => by simp only [frzL]; exact .nil
  | _, _, _, .cons h1 h2, hF => by
    simp only [frzL]
    exact RpL.cons (F := []) (G := []) (Rp.fr hB h1 fun a z => hF a (List.mem_append_left _ z)) (RpL.fr hB h2 fun a z => hF a (List.mem_append_right _ z))
end
mutual
theorem Rp.nil_of_closed : ∀ {v : V} {t : T} {F : List Addr}, Rp K B H v t F → closed t = true → F = []
  | _, _, _, .non, _ => rfl
  | _, _, _, .bl b, _ => rfl
  | _, _, _, .int i, _ => rfl
  | _, _, _, .str x, _ => rfl
  | _, _, _, .fn a, _ => rfl
  | _, _, _, .ty n, _ => rfl
  | _, _, _, .exc0 a x, _ => rfl
  | _, _, _, .excD h1 h2 h3, _ => rfl
  | _, _, _, .exv0 _, _ => rfl
  | _, _, _, .exvD _ _ _ _, _ => rfl
  | _, _, _, .tup h1 h2, h => RpL.nil_of_closed h2 (by simpa [closed] using h)
  | _, _, _, .lstF h1 h2, _ => rfl
  | _, _, _, .lstO h1 h2, h => by simp [closed] at h
  | _, _, _, .dctF h1 h2 h3, _ => rfl
  | _, _, _, .dctO h1 h2 h3, h => by simp [closed] at h
  | _, _, _, .insF h1 h2 h3, h => RpL.nil_of_closed h3 ((closedL_iff _).mpr fun t ht => by
    obtain ⟨p, hp, e⟩ := List.mem_map.mp ht
    rw [← e]
    exact (closedF_iff _).mp (by simpa [closed] using h) p hp)
  | _, _, _, .insO h1 h0 h2 h3, h => by simp [closed] at h
theorem RpL.nil_of_closed : ∀ {vs : List V} {ts : List T} {F : List Addr}, RpL K B H vs ts F → closedL ts = true → F = []
  | _, _, _, .nil, _ => rfl
  | _, _, _, .cons h1 h2, h => by
    simp only [closedL, Bool.and_eq_true] at h
    rw [Rp.nil_of_closed h1 h.1, RpL.nil_of_closed h2 h.2]; rfl
end
/-- nothing owned: H plays no part -/
theorem Rp.cl {v : V} {t : T} {F : List Addr} (h : Rp K B H v t F) (hc : closed t = true) (hB : Le B B') : Rp K B' H' v t [] := by
  have e := h.nil_of_closed hc
  subst e
  exact h.mono hB fun _ z => nomatch z
theorem RpL.cl {vs : List V} {ts : List T} {F : List Addr} (h : RpL K B H vs ts F) (hc : closedL ts = true) (hB : Le B B') : RpL K B' H' vs ts [] := by
  have e := h.nil_of_closed hc
  subst e
  exact h.mono hB fun _ z => nomatch z
theorem RpL.length : ∀ {vs : List V} {ts : List T} {F : List Addr}, RpL K B H vs ts F → vs.length = ts.length
  | _, _, _, .nil => rfl
  | _, _, _, .cons _ h => by simp [h.length]
theorem RpL.get' : ∀ {vs : List V} {ts : List T} {F : List Addr} {i : Nat} {v : V}, RpL K B H vs ts F → F = [] → vs[i]? = some v → ∃ t, ts[i]? = some t ∧ Rp K B H v t []
  | _, _, _, i, v, .nil, _, e => by simp at e
  | _, _, _, 0, v, .cons h1 h2, hF, e => by
    have hF := List.append_eq_nil_iff.mp hF
    simp at e; subst e
    have h3 := h1
    rw [hF.1] at h3
    exact ⟨_, rfl, h3⟩
  | _, _, _, i + 1, v, .cons h1 h2, hF, e => by
    have hF := List.append_eq_nil_iff.mp hF
    obtain ⟨t, e1, e2⟩ := RpL.get' (i := i) (v := v) h2 hF.2 (by simpa using e)
    exact ⟨t, by simpa using e1, e2⟩
theorem RpL.get {vs : List V} {ts : List T} {i : Nat} {v : V} (h : RpL K B H vs ts []) (e : vs[i]? = some v) : ∃ t, ts[i]? = some t ∧ Rp K B H v t [] := RpL.get' h rfl e
theorem RpL.get_t' : ∀ {vs : List V} {ts : List T} {F : List Addr} {i : Nat} {t : T}, RpL K B H vs ts F → F = [] → ts[i]? = some t → ∃ v, vs[i]? = some v ∧ Rp K B H v t []
  | _, _, _, i, t, .nil, _, e => by simp at e
  | _, _, _, 0, t, .cons h1 h2, hF, e => by
    have hF := List.append_eq_nil_iff.mp hF
    simp at e; subst e
    have h3 := h1
    rw [hF.1] at h3
    exact ⟨_, rfl, h3⟩
  | _, _, _, i + 1, t, .cons h1 h2, hF, e => by
    have hF := List.append_eq_nil_iff.mp hF
    obtain ⟨v, e1, e2⟩ := RpL.get_t' (i := i) (t := t) h2 hF.2 (by simpa using e)
    exact ⟨v, by simpa using e1, e2⟩
theorem RpL.get_t {vs : List V} {ts : List T} {i : Nat} {t : T} (h : RpL K B H vs ts []) (e : ts[i]? = some t) : ∃ v, vs[i]? = some v ∧ Rp K B H v t [] := RpL.get_t' h rfl e
theorem RpL.one {v : V} {vs : List V} {t : T} {ts : List T} {F : List Addr} (h : RpL K B H (v :: vs) (t :: ts) F) : ∃ F1 F2, F = F1 ++ F2 ∧ Rp K B H v t F1 ∧ RpL K B H vs ts F2 := by
  cases h with
  | cons h1 h2 => exact ⟨_, _, rfl, h1, h2⟩
theorem RpL.append : ∀ {vs ws : List V} {ts us : List T} {F G : List Addr}, RpL K B H vs ts F → RpL K B H ws us G → RpL K B H (vs ++ ws) (ts ++ us) (F ++ G)
  | _, _, _, _, _, _, .nil, h => h
  | _, _, _, _, _, _, .cons h1 h2, h => by rw [List.append_assoc]; exact .cons h1 (h2.append h)
theorem RpL.take0 : ∀ {vs : List V} {ts : List T} {F : List Addr} (n : Nat), RpL K B H vs ts F → F = [] → RpL K B H (vs.take n) (ts.take n) []
  | _, _, _, 0, _, _ => by simp; exact .nil
  | _, _, _, n + 1, .nil, _ => by simp; exact .nil
  | _, _, _, n + 1, .cons h1 h2, e => by
    have e := List.append_eq_nil_iff.mp e
    have h3 := h1
    rw [e.1] at h3
    simp only [List.take_succ_cons]
    exact RpL.cons (F := []) (G := []) h3 (RpL.take0 n h2 e.2)
theorem RpL.drop0 : ∀ {vs : List V} {ts : List T} {F : List Addr} (n : Nat), RpL K B H vs ts F → F = [] → RpL K B H (vs.drop n) (ts.drop n) []
  | _, _, _, 0, h, e => by subst e; simpa using h
  | _, _, _, n + 1, .nil, _ => by simp; exact .nil
  | _, _, _, n + 1, .cons h1 h2, e => by
    have e := List.append_eq_nil_iff.mp e
    simp only [List.drop_succ_cons]
    exact RpL.drop0 n h2 e.2
theorem RpL.rev0 : ∀ {vs : List V} {ts : List T} {F : List Addr}, RpL K B H vs ts F → F = [] → RpL K B H vs.reverse ts.reverse []
  | _, _, _, .nil, _ => by simp; exact .nil
  | _, _, _, .cons h1 h2, e => by
    have e := List.append_eq_nil_iff.mp e
    have h3 := h1
    rw [e.1] at h3
    simp only [List.reverse_cons]
    exact RpL.append (F := []) (G := []) (RpL.rev0 h2 e.2) (RpL.cons (F := []) (G := []) h3 .nil)
end
end TL
set_option maxRecDepth 100000
set_option maxHeartbeats 1000000
namespace TL
open PySem PySem.Spec PyProof.Rows L2
abbrev Sg := List (Option V)
abbrev Dt := List (Option T)
def Sub (B H : Hp) : Prop := ∀ a o, B a = some o → H a = some o
def RpO (K : Frag) (B H : Hp) : Option V → Option T → List Addr → Prop
  | _, none, F => F = []
  | some v, some t, F => Rp K B H v t F
  | none, some _, _ => False
inductive RpS (K : Frag) (B H : Hp) : Sg → Dt → List Addr → Prop
  | nil : RpS K B H [] [] []
  | cons {x : Option V} {d : Option T} {σ : Sg} {Δ : Dt} {F G : List Addr} : RpO K B H x d F → RpS K B H σ Δ G → RpS K B H (x :: σ) (d :: Δ) (F ++ G)
def Dj (B H : Hp) (L : List Addr) : Prop := ∀ a, L.count a ≤ 1 ∧ (a ∈ L → B a = none ∧ H a ≠ none)
def Keep (R : List Addr) (H H' : Hp) : Prop := ∀ a ∈ R, H' a = H a
structure Rep (K : Frag) (B H : Hp) (R : List Addr) (σ : Sg) (Δ : Dt) : Prop where
  sub : Sub B H
  fp : ∃ F, RpS K B H σ Δ F ∧ Dj B H (F ++ R)
/-- what is new -/
def Ext (H H' : Hp) (G : List Addr) : Prop := Same H H' ∧ ∀ a, G.count a ≤ 1 ∧ (a ∈ G → H a = none ∧ H' a ≠ none)
theorem Ext.refl (H : Hp) : Ext H H [] := ⟨Same.refl H, fun a => ⟨by simp, fun z => nomatch z⟩⟩
theorem Ext.new {H : Hp} {p : Addr} {o : HO} (h : H p = none) : Ext H (upd H p o) [p] :=
  ⟨fun a u e => by rw [upd_ne (ne_of_none e h)]; exact e, fun a => ⟨by simp only [List.count_singleton]; split <;> omega, fun z => by
    have e : a = p := by simpa using z
    subst e; exact ⟨h, by rw [upd_same]; simp⟩⟩⟩
theorem Keep.refl {R : List Addr} {H : Hp} : Keep R H H := fun _ _ => rfl
theorem Keep.trans {R : List Addr} {H H1 H2 : Hp} (h : Keep R H H1) (k : Keep R H1 H2) : Keep R H H2 := fun a z => (k a z).trans (h a z)
theorem Keep.left {R R' : List Addr} {H H1 : Hp} (h : Keep (R ++ R') H H1) : Keep R H H1 := fun a z => h a (List.mem_append_left _ z)
theorem Keep.right {R R' : List Addr} {H H1 : Hp} (h : Keep (R ++ R') H H1) : Keep R' H H1 := fun a z => h a (List.mem_append_right _ z)
theorem Dj.of_le {B H : Hp} {L L' : List Addr} (h : Dj B H L) (k : ∀ a, L'.count a ≤ L.count a) : Dj B H L' := fun a =>
  ⟨Nat.le_trans (k a) (h a).1, fun z => (h a).2 (List.count_pos_iff.mp (Nat.lt_of_lt_of_le (List.count_pos_iff.mpr z) (k a)))⟩
theorem Dj.keep {B H H' : Hp} {L : List Addr} (h : Dj B H L) (k : Same H H') : ∀ a ∈ L, H' a = H a := fun a z => by
  have q := ((h a).2 z).2
  cases e : H a with
  | none => exact absurd e q
  | some o => exact k a o e
section
variable {K : Frag} {B B' H H' : Hp} {R R' G : List Addr} {σ : Sg} {Δ : Dt} {v : V} {t : T} {i : Nat}
theorem RpO.mono (hB : Le B B') {x : Option V} {d : Option T} {F : List Addr} (h : RpO K B H x d F) (k : ∀ a ∈ F, H' a = H a) : RpO K B' H' x d F := by
  cases d with
  | none => cases x <;> exact h
  | some t =>
    cases x with
    | none => exact h.elim
    | some v => exact Rp.mono hB h k
theorem RpS.mono (hB : Le B B') : ∀ {σ : Sg} {Δ : Dt} {F : List Addr}, RpS K B H σ Δ F → (∀ a ∈ F, H' a = H a) → RpS K B' H' σ Δ F
  | _, _, _, .nil, _ => .nil
  | _, _, _, .cons h1 h2, k => .cons (h1.mono hB fun a z => k a (List.mem_append_left _ z)) (h2.mono hB fun a z => k a (List.mem_append_right _ z))
theorem RpS.len : ∀ {σ : Sg} {Δ : Dt} {F : List Addr}, RpS K B H σ Δ F → σ.length = Δ.length
  | _, _, _, .nil => rfl
  | _, _, _, .cons _ h => by simp [h.len]
theorem RpS.at_ : ∀ {σ : Sg} {Δ : Dt} {F : List Addr} {i : Nat} {d : Option T}, RpS K B H σ Δ F → Δ[i]? = some d → ∃ x F1 Fi F2, σ[i]? = some x ∧ F = F1 ++ (Fi ++ F2) ∧ RpO K B H x d Fi ∧
    ∀ x' d' G, RpO K B H x' d' G → RpS K B H (σ.set i x') (Δ.set i d') (F1 ++ (G ++ F2))
  | _, _, _, i, d, .nil, e => by simp at e
  | _, _, _, 0, d, .cons (x := x) (F := F) (G := G) h1 h2, e => by
    simp at e; subst e
    exact ⟨x, [], F, G, rfl, rfl, h1, fun x' d' G' h' => by rw [List.nil_append]; exact .cons h' h2⟩
  | _, _, _, i + 1, d, .cons (F := F) (G := G) h1 h2, e => by
    obtain ⟨x, F1, Fi, F2, e1, e2, r, k⟩ := RpS.at_ (i := i) (d := d) h2 (by simpa using e)
    refine ⟨x, F ++ F1, Fi, F2, by simpa using e1, by rw [e2, List.append_assoc], r, fun x' d' G' h' => ?_⟩
    rw [List.append_assoc]
    exact .cons h1 (k x' d' G' h')
theorem Rep.len (h : Rep K B H R σ Δ) : σ.length = Δ.length := let ⟨_, h1, _⟩ := h.fp; h1.len
theorem Rep.get (h : Rep K B H R σ Δ) (e : Δ[i]? = some (some t)) : ∃ v G, σ[i]? = some (some v) ∧ Rp K B H v t G := by
  obtain ⟨F, h1, h2⟩ := h.fp
  obtain ⟨x, F1, Fi, F2, e1, e2, r, k⟩ := h1.at_ e
  cases x with
  | none => exact r.elim
  | some v => exact ⟨v, Fi, e1, r⟩
theorem Rep.weak (h : Rep K B H R σ Δ) (k : ∀ a, R'.count a ≤ R.count a) : Rep K B H R' σ Δ := by
  obtain ⟨F, h1, h2⟩ := h.fp
  exact ⟨h.sub, F, h1, h2.of_le fun a => by rw [List.count_append, List.count_append]; exact Nat.add_le_add_left (k a) _⟩
theorem Rep.drop (h : Rep K B H (G ++ R) σ Δ) : Rep K B H R σ Δ := h.weak fun a => by rw [List.count_append]; omega
theorem Sub.none (h : Sub B H) {a : Addr} (e : H a = none) : B a = none := by
  cases q : B a with
  | none => rfl
  | some o => rw [h a o q] at e; cases e
/-- something new beside -/
theorem Rep.ext (h : Rep K B H R σ Δ) (e : Ext H H' G) : Rep K B H' (G ++ R) σ Δ := by
  obtain ⟨F, h1, h2⟩ := h.fp
  have hk := h2.keep e.1
  refine ⟨fun a o q => e.1 a o (h.sub a o q), F, h1.mono (Le.refl B) fun a z => hk a (List.mem_append_left _ z), fun a => ?_⟩
  have hc : (F ++ (G ++ R)).count a = G.count a + (F ++ R).count a := by simp only [List.count_append]; omega
  by_cases hg : a ∈ G
  · have hn : ¬ a ∈ F ++ R := fun z => ((h2 a).2 z).2 ((e.2 a).2 hg).1
    have h0 : (F ++ R).count a = 0 := List.count_eq_zero.mpr hn
    exact ⟨by rw [hc, h0]; exact (e.2 a).1, fun _ => ⟨h.sub.none ((e.2 a).2 hg).1, ((e.2 a).2 hg).2⟩⟩
  · have h0 : G.count a = 0 := List.count_eq_zero.mpr hg
    refine ⟨by rw [hc, h0]; have := (h2 a).1; omega, fun z => ?_⟩
    have z' : a ∈ F ++ R := by
      rcases List.mem_append.mp z with z | z
      · exact List.mem_append_left _ z
      · rcases List.mem_append.mp z with z | z
        · exact absurd z hg
        · exact List.mem_append_right _ z
    exact ⟨((h2 a).2 z').1, by rw [hk a z']; exact ((h2 a).2 z').2⟩
/-- something new beside, some of it frozen at once -/
def Gro (B H B' H' : Hp) (G : List Addr) : Prop := Same H H' ∧ Le B B' ∧ Sub B' H' ∧ (∀ a, H a ≠ none → B' a = B a) ∧ ∀ a, G.count a ≤ 1 ∧ (a ∈ G → H a = none ∧ H' a ≠ none ∧ B' a = none)
theorem Gro.refl (h : Sub B H) : Gro B H B H [] := ⟨Same.refl H, Le.refl B, h, fun _ _ => rfl, fun a => ⟨by simp, fun z => nomatch z⟩⟩
theorem Gro.own {p : Addr} {o : HO} (hs : Sub B H) (h : H p = none) : Gro B H B (upd H p o) [p] :=
  ⟨(Ext.new h).1, Le.refl B, fun a u e => (Ext.new h).1 a u (hs a u e), fun _ _ => rfl, fun a => ⟨((Ext.new (o := o) h).2 a).1, fun z => ⟨(((Ext.new (o := o) h).2 a).2 z).1, (((Ext.new (o := o) h).2 a).2 z).2, hs.none (((Ext.new (o := o) h).2 a).2 z).1⟩⟩⟩
theorem Gro.fro {p : Addr} {o : HO} (hs : Sub B H) (h : H p = none) : Gro B H (upd B p o) (upd H p o) [] :=
  ⟨(Ext.new h).1, Le.of_same (Ext.new (hs.none h)).1, fun b u z => by
      by_cases hb : b = p
      · subst hb; rw [upd_same] at z ⊢; exact z
      · rw [upd_ne hb] at z ⊢; exact hs b u z, fun b hb => upd_ne fun z => hb (by rw [z]; exact h), fun a => ⟨by simp, fun z => nomatch z⟩⟩
theorem Rep.gro (h : Rep K B H R σ Δ) (e : Gro B H B' H' G) : Rep K B' H' (G ++ R) σ Δ := by
  obtain ⟨F, h1, h2⟩ := h.fp
  have hk := h2.keep e.1
  refine ⟨e.2.2.1, F, h1.mono e.2.1 fun a z => hk a (List.mem_append_left _ z), fun a => ?_⟩
  have hc : (F ++ (G ++ R)).count a = G.count a + (F ++ R).count a := by simp only [List.count_append]; omega
  by_cases hg : a ∈ G
  · have hn : ¬ a ∈ F ++ R := fun z => ((h2 a).2 z).2 ((e.2.2.2.2 a).2 hg).1
    have h0 : (F ++ R).count a = 0 := List.count_eq_zero.mpr hn
    exact ⟨by rw [hc, h0]; exact (e.2.2.2.2 a).1, fun _ => ⟨((e.2.2.2.2 a).2 hg).2.2, ((e.2.2.2.2 a).2 hg).2.1⟩⟩
  · have h0 : G.count a = 0 := List.count_eq_zero.mpr hg
    refine ⟨by rw [hc, h0]; have := (h2 a).1; omega, fun z => ?_⟩
    have z' : a ∈ F ++ R := by
      rcases List.mem_append.mp z with z | z
      · exact List.mem_append_left _ z
      · rcases List.mem_append.mp z with z | z
        · exact absurd z hg
        · exact List.mem_append_right _ z
    exact ⟨by rw [e.2.2.2.1 a ((h2 a).2 z').2]; exact ((h2 a).2 z').1, by rw [hk a z']; exact ((h2 a).2 z').2⟩
theorem Rep.keepExt (h : Rep K B H R σ Δ) (e : Same H H') : Keep R H H' := by
  obtain ⟨F, h1, h2⟩ := h.fp
  exact fun a z => h2.keep e a (List.mem_append_right _ z)
theorem Rep.set {x : Option V} {d : Option T} (h : Rep K B H (G ++ R) σ Δ) (r : RpO K B H x d G) : Rep K B H R (σ.set i x) (Δ.set i d) := by
  by_cases hi : i < Δ.length
  · obtain ⟨F, h1, h2⟩ := h.fp
    obtain ⟨x0, F1, Fi, F2, e1, e2, r0, k⟩ := h1.at_ (i := i) (d := Δ[i]) (by simp [hi])
    refine ⟨h.sub, _, k x d G r, h2.of_le fun a => ?_⟩
    subst e2
    simp only [List.count_append]; omega
  · have hl := h.len
    rw [List.set_eq_of_length_le (by omega), List.set_eq_of_length_le (by omega)]
    exact h.drop
theorem set_same {σ : Sg} {i : Nat} {x : Option V} (h : σ[i]? = some x) : σ.set i x = σ := by
  obtain ⟨hi, e⟩ := List.getElem?_eq_some_iff.mp h
  rw [← e]; exact List.set_getElem_self hi
theorem Rep.out (h : Rep K B H R σ Δ) (e : Δ[i]? = some (some t)) : ∃ v G, σ[i]? = some (some v) ∧ Rp K B H v t G ∧ Rep K B H (G ++ R) σ (Δ.set i none) := by
  obtain ⟨F, h1, h2⟩ := h.fp
  obtain ⟨x, F1, Fi, F2, e1, e2, r, k⟩ := h1.at_ e
  cases x with
  | none => exact r.elim
  | some v =>
    have k' := k (some v) none [] rfl
    rw [set_same e1] at k'
    refine ⟨v, Fi, e1, r, h.sub, _, k', h2.of_le fun a => ?_⟩
    subst e2
    simp only [List.count_append]; simp; omega
/-- frozen -/
theorem Rep.frzT (h : Rep K B H (G ++ R) σ Δ) (r : Rp K B H v t G) : ∃ B', Le B B' ∧ Rep K B' H R σ Δ ∧ Rp K B' H v (frz t) [] := by
  obtain ⟨F, h1, h2⟩ := h.fp
  have hle : Le B (fun a => if a ∈ G then H a else B a) := Le.of_same fun a o e => by
    have hn : a ∉ G := fun z => by
      have := ((h2 a).2 (List.mem_append_right _ (List.mem_append_left _ z))).1
      rw [e] at this; cases this
    show (if a ∈ G then H a else B a) = some o
    rw [if_neg hn]; exact e
  refine ⟨fun a => if a ∈ G then H a else B a, hle, ⟨fun a o e => ?_, F, h1.mono hle fun _ _ => rfl, fun a => ?_⟩, r.fr hle fun a z => if_pos z⟩
  · have e' : (if a ∈ G then H a else B a) = some o := e
    by_cases z : a ∈ G
    · rw [if_pos z] at e'; exact e'
    · rw [if_neg z] at e'; exact h.sub a o e'
  · have hc := (h2 a).1
    simp only [List.count_append] at hc
    refine ⟨by simp only [List.count_append]; omega, fun z => ?_⟩
    have hn : a ∉ G := fun y => by
      have h3 := List.count_pos_iff.mpr y
      have h4 := List.count_pos_iff.mpr z
      simp only [List.count_append] at h4
      omega
    have z' : a ∈ F ++ (G ++ R) := by
      rcases List.mem_append.mp z with z | z
      · exact List.mem_append_left _ z
      · exact List.mem_append_right _ (List.mem_append_right _ z)
    exact ⟨by show (if a ∈ G then H a else B a) = none; rw [if_neg hn]; exact ((h2 a).2 z').1, ((h2 a).2 z').2⟩
theorem Rep.frzS (h : Rep K B H R σ Δ) (e : Δ[i]? = some (some t)) : ∃ B' v, Le B B' ∧ σ[i]? = some (some v) ∧ Rep K B' H R σ (Δ.set i (some (frz t))) ∧ Rp K B' H v (frz t) [] := by
  obtain ⟨v, G, e1, r, h1⟩ := h.out e
  obtain ⟨B', hle, h2, r'⟩ := h1.frzT r
  have hi : i < Δ.length := (List.getElem?_eq_some_iff.mp e).1
  have h3 := Rep.set (i := i) (x := some v) (d := some (frz t)) (G := []) (R := R) (σ := σ) (Δ := Δ.set i none) h2 r'
  rw [set_same e1, List.set_set] at h3
  exact ⟨B', v, hle, e1, h3, r'⟩
end
/-- what an expression comes to: a tree, or the name in a slot -/
inductive PV where
  | val (t : T) | pl (i : Nat)
abbrev WE := Dt → (PV → Dt → Prop) → Prop
abbrev WT := Dt → (Bool → Dt → Prop) → Prop
abbrev WA := Dt → (List PV → Dt → Prop) → Prop
structure EndsD where
  nx : Dt → Prop
  rt : T → Dt → Prop
  bk : Dt → Prop := fun _ => False
  ct : Dt → Prop := fun _ => False
  /-- an exception leaves: its class's name, its fields -/
  ex : Str → List (Str × T) → Dt → Prop := fun _ _ _ => False
abbrev WS := EndsD → Dt → Prop
def look (Δ : Dt) (i : Nat) (k : T → Prop) : Prop := match Δ[i]? with
  | some (some t) => k t
  | _ => False
def onV (Δ : Dt) (p : PV) (k : T → Prop) : Prop := match p with
  | .val t => k t
  | .pl i => look Δ i k
def onVs (Δ : Dt) (ps : List PV) (k : List T → Prop) : Prop := match ps with
  | [] => k []
  | p :: r => onV Δ p fun t => onVs Δ r fun ts => k (t :: ts)
theorem look_iff {Δ : Dt} {i : Nat} {k : T → Prop} (h : look Δ i k) : ∃ t, Δ[i]? = some (some t) ∧ k t := by
  unfold look at h
  split at h
  · exact ⟨_, by assumption, h⟩
  · exact h.elim
def PvR (K : Frag) (B H : Hp) (σ : Sg) (p : PV) (v : V) (G : List Addr) : Prop := match p with
  | .val t => Rp K B H v t G
  | .pl i => G = [] ∧ σ[i]? = some (some v)
def Out (K : Frag) (B H : Hp) (R : List Addr) (σ : Sg) (Δ : Dt) (p : PV) (v : V) : Prop := ∃ G, PvR K B H σ p v G ∧ Rep K B H (G ++ R) σ Δ
inductive PvL (K : Frag) (B H : Hp) (σ : Sg) : List PV → List V → List Addr → Prop
  | nil : PvL K B H σ [] [] []
  | cons {p : PV} {ps : List PV} {v : V} {vs : List V} {F G : List Addr} : PvR K B H σ p v F → PvL K B H σ ps vs G → PvL K B H σ (p :: ps) (v :: vs) (F ++ G)
def OutL (K : Frag) (B H : Hp) (R : List Addr) (σ : Sg) (Δ : Dt) (ps : List PV) (vs : List V) : Prop := ∃ G, PvL K B H σ ps vs G ∧ Rep K B H (G ++ R) σ Δ
def RfE (K : Frag) (te : TE) (w : WE) : Prop := ∀ (Δ : Dt) (Q : PV → Dt → Prop) (σ : Sg) (H B : Hp) (R : List Addr), Rep K B H R σ Δ → w Δ Q → ∀ Qv : VK,
  (∀ p Δ' v H' B', Q p Δ' → Le B B' → Keep R H H' → Out K B' H' R σ Δ' p v → Qv v H') → te σ H Qv
def RfT (K : Frag) (tt : TT) (w : WT) : Prop := ∀ (Δ : Dt) (Q : Bool → Dt → Prop) (σ : Sg) (H B : Hp) (R : List Addr), Rep K B H R σ Δ → w Δ Q → ∀ Qv : Bool → Hp → Prop,
  (∀ b Δ' H' B', Q b Δ' → Le B B' → Keep R H H' → Rep K B' H' R σ Δ' → Qv b H') → tt σ H Qv
def RfA (K : Frag) (ta : TA) (w : WA) : Prop := ∀ (Δ : Dt) (Q : List PV → Dt → Prop) (σ : Sg) (H B : Hp) (R : List Addr), Rep K B H R σ Δ → w Δ Q → ∀ Qv : List V → Hp → Prop,
  (∀ ps Δ' vs H' B', Q ps Δ' → Le B B' → Keep R H H' → OutL K B' H' R σ Δ' ps vs → Qv vs H') → ta σ H Qv
structure CE (X : Cx) (e : Expr) (w : WE) : Prop where
  ex : ∃ te, PE X e te ∧ RfE X.K te w
structure CT (X : Cx) (e : Expr) (w : WT) : Prop where
  ex : ∃ tt, PT X e tt ∧ RfT X.K tt w
structure CW (X : Cx) (e : Expr) (w : WT) : Prop where
  ex : ∃ tt, PW X e tt ∧ RfT X.K tt w
structure CA (X : Cx) (es : List Expr) (w : WA) : Prop where
  ex : ∃ ta, PA X es ta ∧ RfA X.K ta w
/-- np: the first np slots are never stored to -/
def Fin (K : Frag) (B : Hp) (H : Hp) (R : List Addr) (np : Nat) (σ : Sg) (B' H' : Hp) (σ' : Sg) : Prop := Le B B' ∧ Keep R H H' ∧ ∀ j, j < np → σ'[j]? = σ[j]?
/-- the dict of an exception that leaves -/
def ExR (K : Frag) (B H : Hp) (fs : List (Str × T)) : Option Addr → Prop
  | none => fs = []
  | some d => ∃ fv, B d = some (.xd fv) ∧ fv.map (·.1) = fs.map (·.1) ∧ RpL K B H (fv.map (·.2)) (fs.map (·.2)) []
def RfS (K : Frag) (np : Nat) (W : WX) (ts : TS) (w : WS) : Prop := ∀ (D : EndsD) (Δ : Dt) (σ : Sg) (H B : Hp) (R : List Addr), Rep K B H R σ Δ → w D Δ → ∀ E : Ends,
  (∀ Δ' σ' H' B', D.nx Δ' → Fin K B H R np σ B' H' σ' → Rep K B' H' R σ' Δ' → E.nx σ' H') →
  (∀ t Δ' σ' v H' B' G, D.rt t Δ' → Fin K B H R np σ B' H' σ' → Rp K B' H' v t G → Rep K B' H' (G ++ R) σ' Δ' → E.rt v H') →
  (∀ Δ' σ' H' B', D.bk Δ' → Fin K B H R np σ B' H' σ' → Rep K B' H' R σ' Δ' → E.bk σ' H') →
  (∀ Δ' σ' H' B', D.ct Δ' → Fin K B H R np σ B' H' σ' → Rep K B' H' R σ' Δ' → E.ct σ' H') →
  (∀ x fs Δ' σ' od H' B', D.ex x fs Δ' → Fin K B H R np σ B' H' σ' → Rep K B' H' R σ' Δ' → ExR K B' H' fs od → W (.ref (clsOf K x)) od σ' H') → ts E σ H
structure CS (X : Cx) (np : Nat) (st : Stmt) (w : WS) : Prop where
  ex : ∀ W : WX, L2N.Takes X W → ∃ ts, PS X st ts ∧ RfS X.K np W ts w
structure CSs (X : Cx) (np : Nat) (st : List Stmt) (w : WS) : Prop where
  ex : ∀ W : WX, L2N.Takes X W → ∃ ts, PSs X st ts ∧ RfS X.K np W ts w
section
variable {K : Frag} {B B' B1 B2 H H' H1 H2 : Hp} {R R' G : List Addr} {σ σ1 σ2 : Sg} {Δ : Dt} {v : V} {t : T} {i : Nat} {p : PV} {np : Nat}
theorem Fin.refl : Fin K B H R np σ B H σ := ⟨Le.refl B, Keep.refl, fun _ _ => rfl⟩
theorem Fin.trans (h : Fin K B H R np σ B1 H1 σ1) (k : Fin K B1 H1 R np σ1 B2 H2 σ2) : Fin K B H R np σ B2 H2 σ2 :=
  ⟨h.1.trans k.1, h.2.1.trans k.2.1, fun j hj => (k.2.2 j hj).trans (h.2.2 j hj)⟩
theorem Fin.of (h : Le B B') (k : Keep R H H') : Fin K B H R np σ B' H' σ := ⟨h, k, fun _ _ => rfl⟩
theorem PvR.mono (hB : Le B B') (h : PvR K B H σ p v G) (k : Keep G H H') : PvR K B' H' σ p v G := by
  cases p with
  | val t => exact Rp.mono hB h k
  | pl i => exact h
theorem PvL.mono (hB : Le B B') : ∀ {ps : List PV} {vs : List V} {G : List Addr}, PvL K B H σ ps vs G → Keep G H H' → PvL K B' H' σ ps vs G
  | _, _, _, .nil, _ => .nil
  | _, _, _, .cons h1 h2, k => .cons (h1.mono hB k.left) (h2.mono hB k.right)
/-- the tree that stands for it now -/
theorem PvR.tree {k : T → Prop} (h : PvR K B H σ p v G) (r : Rep K B H R σ Δ) (o : onV Δ p k) : ∃ t F, Rp K B H v t F ∧ k t := by
  cases p with
  | val t => exact ⟨t, G, h, o⟩
  | pl i =>
    obtain ⟨t, e, q⟩ := look_iff o
    obtain ⟨v', F, e1, r1⟩ := r.get e
    rw [h.2] at e1
    cases e1
    exact ⟨t, F, r1, q⟩
theorem PvL.trees : ∀ {ps : List PV} {vs : List V} {G : List Addr} {k : List T → Prop}, PvL K B H σ ps vs G → Rep K B H R σ Δ → onVs Δ ps k → ∃ ts F, RpL K B H vs ts F ∧ k ts
  | _, _, _, k, .nil, _, o => ⟨[], [], .nil, o⟩
  | _, _, _, k, .cons h1 h2, r, o => by
    obtain ⟨t, F, r1, q⟩ := h1.tree r o
    obtain ⟨ts, F2, r2, q2⟩ := PvL.trees h2 r q
    exact ⟨t :: ts, F ++ F2, .cons r1 r2, q2⟩
end
end TL
set_option maxRecDepth 100000
set_option maxHeartbeats 1000000
namespace TL
open PySem PySem.Spec PyProof.Rows L2
def LOp (K : Frag) (r : R2) (g : T → T → (T → Prop) → Prop) : Prop := ∀ (B H : Hp) (x y : V) (tx ty : T) (Fx Fy : List Addr), Sub B H → Rp K B H x tx Fx → Rp K B H y ty Fy →
  ∀ Q : T → Prop, g tx ty Q → ∀ Qv : VK, (∀ v t H' B' G, Q t → Gro B H B' H' G → Rp K B' H' v t G → Qv v H') → r x y H Qv
def LUn (K : Frag) (r : V → Hp → VK → Prop) (g : T → (T → Prop) → Prop) : Prop := ∀ (B H : Hp) (x : V) (tx : T) (Fx : List Addr), Sub B H → Rp K B H x tx Fx →
  ∀ Q : T → Prop, g tx Q → ∀ Qv : VK, (∀ v t H' B' G, Q t → Gro B H B' H' G → Rp K B' H' v t G → Qv v H') → r x H Qv
def LCl (K : Frag) (r : List V → Hp → VK → Prop) (g : List T → (T → Prop) → Prop) : Prop := ∀ (B H : Hp) (xs : List V) (ts : List T) (F : List Addr), Sub B H → RpL K B H xs ts F →
  ∀ Q : T → Prop, g ts Q → ∀ Qv : VK, (∀ v t H' B' G, Q t → Gro B H B' H' G → Rp K B' H' v t G → Qv v H') → r xs H Qv
def wV (i : Nat) : WE := fun Δ Q => look Δ i fun _ => Q (.pl i) Δ
def wC (t : T) : WE := fun Δ Q => Q (.val t) Δ
def wOp (g : T → T → (T → Prop) → Prop) (wa wb : WE) : WE := fun Δ Q => wa Δ fun p Δ1 => wb Δ1 fun q Δ2 => onV Δ2 p fun x => onV Δ2 q fun y => g x y fun t => Q (.val t) Δ2
def wUn (g : T → (T → Prop) → Prop) (wa : WE) : WE := fun Δ Q => wa Δ fun p Δ1 => onV Δ1 p fun x => g x fun t => Q (.val t) Δ1
def wCl (g : List T → (T → Prop) → Prop) (wa : WA) : WE := fun Δ Q => wa Δ fun ps Δ1 => onVs Δ1 ps fun ts => g ts fun t => Q (.val t) Δ1
def wNil : WA := fun Δ Q => Q [] Δ
def wCons (wa : WE) (wr : WA) : WA := fun Δ Q => wa Δ fun p Δ1 => wr Δ1 fun ps Δ2 => Q (p :: ps) Δ2
section
variable {K : Frag} {te ta tb : TE} {wa wb w : WE} {t : T} {v : V} {i : Nat}
theorem rf_var : RfE K (tVar i) (wV i) := fun Δ Q σ H B R hr hw Qv k => by
  obtain ⟨t, e, q⟩ := look_iff hw
  obtain ⟨v, G, e1, r⟩ := hr.get e
  exact ⟨v, e1, k (.pl i) Δ v H B q (Le.refl B) Keep.refl ⟨[], ⟨rfl, e1⟩, hr⟩⟩
theorem rf_c (h : ∀ B H, Rp K B H v t []) : RfE K (tC v) (wC t) := fun Δ Q σ H B R hr hw Qv k => k (.val t) Δ v H B hw (Le.refl B) Keep.refl ⟨[], h B H, hr⟩
theorem rf_op {r : R2} {g : T → T → (T → Prop) → Prop} (ho : LOp K r g) (ha : RfE K ta wa) (hb : RfE K tb wb) : RfE K (tOp r ta tb) (wOp g wa wb) := fun Δ Q σ H B R hr hw Qv k => by
  refine ha Δ _ σ H B R hr hw _ fun p Δ1 x H1 B1 hq hl1 hk1 ⟨G1, pr1, hr1⟩ => ?_
  refine hb Δ1 _ σ H1 B1 (G1 ++ R) hr1 hq _ fun q Δ2 y H2 B2 hq2 hl2 hk2 ⟨G2, pr2, hr2⟩ => ?_
  have pr1' := pr1.mono hl2 hk2.left
  obtain ⟨tx, Fx, rx, o2⟩ := pr1'.tree hr2 hq2
  obtain ⟨ty, Fy, ry, o3⟩ := pr2.tree hr2 o2
  refine ho B2 H2 x y tx ty Fx Fy hr2.sub rx ry _ o3 Qv fun v t H3 B3 G hQ he hv => ?_
  have hr3 : Rep K B2 H2 R σ Δ2 := hr2.drop.drop
  exact k (.val t) Δ2 v H3 B3 hQ ((hl1.trans hl2).trans he.2.1) ((hk1.trans hk2.right).trans (hr3.keepExt he.1)) ⟨G, hv, hr3.gro he⟩
theorem rf_un {r : V → Hp → VK → Prop} {g : T → (T → Prop) → Prop} (ho : LUn K r g) (ha : RfE K ta wa) : RfE K (tUn r ta) (wUn g wa) := fun Δ Q σ H B R hr hw Qv k => by
  refine ha Δ _ σ H B R hr hw _ fun p Δ1 x H1 B1 hq hl1 hk1 ⟨G1, pr1, hr1⟩ => ?_
  obtain ⟨tx, Fx, rx, o2⟩ := pr1.tree hr1 hq
  refine ho B1 H1 x tx Fx hr1.sub rx _ o2 Qv fun v t H3 B3 G hQ he hv => ?_
  have hr3 : Rep K B1 H1 R σ Δ1 := hr1.drop
  exact k (.val t) Δ1 v H3 B3 hQ (hl1.trans he.2.1) (hk1.trans (hr3.keepExt he.1)) ⟨G, hv, hr3.gro he⟩
theorem rf_nil : RfA K tNil wNil := fun Δ Q σ H B R hr hw Qv k => k [] Δ [] H B hw (Le.refl B) Keep.refl ⟨[], .nil, hr⟩
theorem rf_cons {tr : TA} {wr : WA} (ha : RfE K ta wa) (hb : RfA K tr wr) : RfA K (tCons ta tr) (wCons wa wr) := fun Δ Q σ H B R hr hw Qv k => by
  refine ha Δ _ σ H B R hr hw _ fun p Δ1 x H1 B1 hq hl1 hk1 ⟨G1, pr1, hr1⟩ => ?_
  refine hb Δ1 _ σ H1 B1 (G1 ++ R) hr1 hq _ fun ps Δ2 vs H2 B2 hq2 hl2 hk2 ⟨G2, pr2, hr2⟩ => ?_
  refine k (p :: ps) Δ2 (x :: vs) H2 B2 hq2 (hl1.trans hl2) (hk1.trans hk2.right) ⟨G1 ++ G2, .cons (pr1.mono hl2 hk2.left) pr2, hr2.weak fun a => ?_⟩
  simp only [List.count_append]; omega
theorem rf_cl {r : List V → Hp → VK → Prop} {g : List T → (T → Prop) → Prop} {tr : TA} {wr : WA} (ho : LCl K r g) (ha : RfA K tr wr) : RfE K (tCB r tr) (wCl g wr) := fun Δ Q σ H B R hr hw Qv k => by
  refine ha Δ _ σ H B R hr hw _ fun ps Δ1 xs H1 B1 hq hl1 hk1 ⟨G1, pr1, hr1⟩ => ?_
  obtain ⟨ts, F, rx, o2⟩ := pr1.trees hr1 hq
  refine ho B1 H1 xs ts F hr1.sub rx _ o2 Qv fun v t H3 B3 G hQ he hv => ?_
  have hr3 : Rep K B1 H1 R σ Δ1 := hr1.drop
  exact k (.val t) Δ1 v H3 B3 hQ (hl1.trans he.2.1) (hk1.trans (hr3.keepExt he.1)) ⟨G, hv, hr3.gro he⟩
end
section
variable {X : Cx} {a b c e : Expr} {es : List Expr} {wa wb wc w : WE} {pos : Pos} {wr : WA}
theorem ce_var (i : Nat) {x : Str} (hN : X.N[i]? = some x := by rfl) (hv : Vis X.env.scope x := by first | exact Or.inl rfl | exact Or.inr (Or.inl rfl) | exact Or.inr (Or.inr rfl)) (hd : (x == ("__debug__" : Str)) = false := by decide)
    (hcd : (x == ("__classdict__" : Str)) = false := by decide) : CE X (.Name x pos) (wV i) := ⟨_, pe_var hN hv hd hcd, rf_var⟩
theorem ce_int {i j} : CE X (.Constant (.int i) j pos) (wC (.int i)) := ⟨_, pe_int, rf_c fun _ _ => .int i⟩
theorem ce_bl {i j} : CE X (.Constant (.bool i) j pos) (wC (.bl i)) := ⟨_, pe_bl, rf_c fun _ _ => .bl i⟩
theorem ce_non {j} : CE X (.Constant .none j pos) (wC .non) := ⟨_, pe_non, rf_c fun _ _ => .non⟩
theorem ce_str {x j} : CE X (.Constant (.str x) j pos) (wC (.str x)) := ⟨_, pe_str, rf_c fun _ _ => .str x⟩
theorem ce_glob {x : Str} {v : V} {u : Value} {t : T} (hg : Gl X x) (hm : X.mg x = some u) (r : RelV v u) (h : ∀ B H, Rp X.K B H v t []) (hd : (x == ("__debug__" : Str)) = false := by decide) : CE X (.Name x pos) (wC t) :=
  ⟨_, pe_glob hg hm r hd, rf_c h⟩
theorem ce_bltn {x : Str} {v : V} {u : Value} {t : T} (hg : Gl X x) (hm : X.mg x = none) (hv : bootBuiltins x = some u) (r : RelV v u) (h : ∀ B H, Rp X.K B H v t []) (hn : x ≠ "__name__" := by decide) (hd : (x == ("__debug__" : Str)) = false := by decide) :
    CE X (.Name x pos) (wC t) := ⟨_, pe_bltn hg hm hv r hn hd, rf_c h⟩
theorem ce_op {op : Operator} {r : R2} {g : T → T → (T → Prop) → Prop} (ho : OpR X (binaryOp op) r) (hl : LOp X.K r g) (ha : CE X a wa) (hb : CE X b wb) : CE X (.BinOp a op b pos) (wOp g wa wb) := by
  obtain ⟨ta, pa, ra⟩ := ha
  obtain ⟨tb, pb, rb⟩ := hb
  exact ⟨_, pe_op ho pa pb, rf_op hl ra rb⟩
theorem ce_un {op : UnaryOp} {r : V → Hp → VK → Prop} {g : T → (T → Prop) → Prop} (ho : UnR X (unaryOp op) r) (hl : LUn X.K r g) (ha : CE X a wa) : CE X (.UnaryOp op a pos) (wUn g wa) := by
  obtain ⟨ta, pa, ra⟩ := ha
  exact ⟨_, pe_un ho pa, rf_un hl ra⟩
theorem ca_nil : CA X [] wNil := ⟨_, pa_nil, rf_nil⟩
theorem ca_cons (ha : CE X e wa) (hr : CA X es wr) (hs : starEach (e :: es) X.env = (false, eval e X.env) :: starEach es X.env := by rfl) : CA X (e :: es) (wCons wa wr) := by
  obtain ⟨ta, pa, ra⟩ := ha
  obtain ⟨tr, pr, rr⟩ := hr
  exact ⟨_, pa_cons pa pr hs, rf_cons ra rr⟩
theorem ce_callB {x : Str} {p : Pos} {id : String} {r : List V → Hp → VK → Prop} {g : List T → (T → Prop) → Prop} (hc : CallR X (.builtin id) r) (hl : LCl X.K r g) (hg : Gl X x) (hm : X.mg x = none) (hv : bootBuiltins x = some (.builtin id)) (ha : CA X (e :: es) wr) (hn : x ≠ "__name__" := by decide)
    (hdb : (x == ("__debug__" : Str)) = false := by decide) (he : starEach (e :: es) X.env = (false, eval e X.env) :: starEach es X.env := by rfl) (hpl : (backTo pos (starEach es X.env)).any (·.1) = false := by rfl) : CE X (.Call (.Name x p) (e :: es) [] pos) (wCl g wr) := by
  obtain ⟨ta, pa, ra⟩ := ha
  exact ⟨_, pe_callB hc hg hm hv pa hn hdb he hpl, rf_cl hl ra⟩
theorem ce_callTy {x : Str} {p : Pos} {T' : String} {r : List V → Hp → VK → Prop} {g : List T → (T → Prop) → Prop} (hc : CallR X (.type T') r) (hl : LCl X.K r g) (hg : Gl X x) (hm : X.mg x = none) (hv : bootBuiltins x = some (.type T')) (ha : CA X (e :: es) wr) (hn : x ≠ "__name__" := by decide)
    (hdb : (x == ("__debug__" : Str)) = false := by decide) (he : starEach (e :: es) X.env = (false, eval e X.env) :: starEach es X.env := by rfl) (hpl : (backTo pos (starEach es X.env)).any (·.1) = false := by rfl) : CE X (.Call (.Name x p) (e :: es) [] pos) (wCl g wr) := by
  obtain ⟨ta, pa, ra⟩ := ha
  exact ⟨_, pe_callTy hc hg hm hv pa hn hdb he hpl, rf_cl hl ra⟩
end
def wTest (w : WE) : WT := fun Δ Q => w Δ fun p Δ1 => onV Δ1 p fun t => match t with
  | .bl b => Q b Δ1
  | _ => False
def truT : T → (Bool → Prop) → Prop
  | .non, k => k false
  | .bl b, k => k b
  | .int i, k => k (i != 0)
  | .str y, k => y.length ≤ sizeLine ∧ k ((y.length : Int) != 0)
  | .lst _ xs, k => k (!xs.isEmpty)
  | .tup xs, k => k (!xs.isEmpty)
  | _, _ => False
def wTru (w : WE) : WT := fun Δ Q => w Δ fun p Δ1 => onV Δ1 p fun t => truT t fun b => Q b Δ1
def wAnd (a b : WT) : WT := fun Δ Q => a Δ fun c Δ1 => if c = true then b Δ1 Q else Q false Δ1
def wOr (a b : WT) : WT := fun Δ Q => a Δ fun c Δ1 => if c = true then Q true Δ1 else b Δ1 Q
def wNot (a : WT) : WT := fun Δ Q => a Δ fun c Δ1 => Q (!c) Δ1
def wAndV (a b : WE) : WE := fun Δ Q => a Δ fun p Δ1 => onV Δ1 p fun t => match t with
  | .bl c => if c = true then b Δ1 Q else Q (.val (.bl false)) Δ1
  | _ => False
def wOrV (a b : WE) : WE := fun Δ Q => a Δ fun p Δ1 => onV Δ1 p fun t => match t with
  | .bl c => if c = true then Q (.val (.bl true)) Δ1 else b Δ1 Q
  | _ => False
def wNotV (a : WE) : WE := fun Δ Q => a Δ fun p Δ1 => onV Δ1 p fun t => match t with
  | .bl c => Q (.val (.bl (!c))) Δ1
  | _ => False
def wIf (c : WT) (a b : WE) : WE := fun Δ Q => c Δ fun k Δ1 => if k = true then a Δ1 Q else b Δ1 Q
section
variable {K : Frag} {te ta tb : TE} {wa wb w : WE} {tt t1 t2 : TT} {wt w1 w2 : WT}
theorem Rp.bl_inv {B H : Hp} {v : V} {b : Bool} {F : List Addr} (h : Rp K B H v (.bl b) F) : v = .bl b ∧ F = [] := by cases h; exact ⟨rfl, rfl⟩
theorem Rp.int_inv {B H : Hp} {v : V} {b : Int} {F : List Addr} (h : Rp K B H v (.int b) F) : v = .int b ∧ F = [] := by cases h; exact ⟨rfl, rfl⟩
theorem Rp.str_inv {B H : Hp} {v : V} {b : Str} {F : List Addr} (h : Rp K B H v (.str b) F) : v = .str b ∧ F = [] := by cases h; exact ⟨rfl, rfl⟩
theorem Rp.non_inv {B H : Hp} {v : V} {F : List Addr} (h : Rp K B H v .non F) : v = .non ∧ F = [] := by cases h; exact ⟨rfl, rfl⟩
theorem Sub.le {B H : Hp} (h : Sub B H) : Le B H := fun a o e => .inl (h a o e)
theorem Rp.lst_rd {B H : Hp} {v : V} {o : Bool} {ts : List T} {F : List Addr} (hs : Sub B H) (h : Rp K B H v (.lst o ts) F) : ∃ a vs F', v = .ref a ∧ RdL K H a vs ∧ RpL K B H vs ts F' := by
  cases h with
  | lstF h1 h2 => exact ⟨_, _, _, rfl, hs.le.rdL h1, h2⟩
  | lstO h1 h2 => exact ⟨_, _, _, rfl, .inl (.inl h1), h2⟩
theorem Rp.lst_inv {B H : Hp} {v : V} {o : Bool} {ts : List T} {F : List Addr} (hs : Sub B H) (h : Rp K B H v (.lst o ts) F) : ∃ a vs F', v = .ref a ∧ SqL K H a vs ∧ RpL K B H vs ts F' := by
  obtain ⟨a, vs, F', e, h1, h2⟩ := h.lst_rd hs
  exact ⟨a, vs, F', e, h1.sq, h2⟩
theorem Rp.tup_inv {B H : Hp} {v : V} {ts : List T} {F : List Addr} (hs : Sub B H) (h : Rp K B H v (.tup ts) F) : ∃ a vs, v = .ref a ∧ SqT K H a vs ∧ RpL K B H vs ts F := by
  cases h with
  | tup h1 h2 => exact ⟨_, _, rfl, hs.le.sqT h1, h2⟩
theorem RpL.c0 {B H : Hp} {vs : List V} {ts : List T} {F : List Addr} (h : RpL K B H vs ts F) (hc : closedL ts = true) : RpL K B H vs ts [] := by
  have e := h.nil_of_closed hc
  subst e; exact h
theorem Rp.c0 {B H : Hp} {v : V} {t : T} {F : List Addr} (h : Rp K B H v t F) (hc : closed t = true) : Rp K B H v t [] := by
  have e := h.nil_of_closed hc
  subst e; exact h
theorem rf_test (h : RfE K te w) : RfT K (tTest te) (wTest w) := fun Δ Q σ H B R hr hw Qv k => by
  refine h Δ _ σ H B R hr hw _ fun p Δ1 x H1 B1 hq hl1 hk1 ⟨G1, pr1, hr1⟩ => ?_
  obtain ⟨t, F, rx, o⟩ := pr1.tree hr1 hq
  cases t with
  | bl b => exact ⟨b, rx.bl_inv.1, k b Δ1 H1 B1 o hl1 hk1 hr1.drop⟩
  | _ => exact o.elim
theorem isEmpty_of_len {α β : Type} {xs : List α} {ys : List β} (h : xs.length = ys.length) : (!xs.isEmpty) = !ys.isEmpty := by
  cases xs <;> cases ys <;> simp at h ⊢
theorem rf_tru (h : RfE K te w) : RfT K (fun σ H Q => te σ H fun x H' => ∃ k, TruV K x H' k ∧ Q k H') (wTru w) := fun Δ Q σ H B R hr hw Qv k => by
  refine h Δ _ σ H B R hr hw _ fun p Δ1 x H1 B1 hq hl1 hk1 ⟨G1, pr1, hr1⟩ => ?_
  obtain ⟨t, F, rx, o⟩ := pr1.tree hr1 hq
  have fin : ∀ b, Q b Δ1 → Qv b H1 := fun b q => k b Δ1 H1 B1 q hl1 hk1 hr1.drop
  cases t with
  | non => obtain ⟨rfl, _⟩ := rx.non_inv; exact ⟨false, rfl, fin _ o⟩
  | bl b => obtain ⟨rfl, _⟩ := rx.bl_inv; exact ⟨b, rfl, fin _ o⟩
  | int b => obtain ⟨rfl, _⟩ := rx.int_inv; exact ⟨_, rfl, fin _ o⟩
  | str b => obtain ⟨rfl, _⟩ := rx.str_inv; exact ⟨_, ⟨o.1, rfl⟩, fin _ o.2⟩
  | lst c ts => obtain ⟨a, vs, F', rfl, hs, hl⟩ := rx.lst_inv hr1.sub; exact ⟨_, .inl ⟨vs, hs, rfl⟩, by rw [isEmpty_of_len hl.length]; exact fin _ o⟩
  | tup ts => obtain ⟨a, vs, rfl, hs, hl⟩ := rx.tup_inv hr1.sub; exact ⟨_, .inr (.inl ⟨vs, hs, rfl⟩), by rw [isEmpty_of_len hl.length]; exact fin _ o⟩
  | _ => exact o.elim
theorem rf_and (h1 : RfT K t1 w1) (h2 : RfT K t2 w2) : RfT K (tAnd t1 t2) (wAnd w1 w2) := fun Δ Q σ H B R hr hw Qv k => by
  refine h1 Δ _ σ H B R hr hw _ fun b Δ1 H1 B1 hq hl1 hk1 hr1 => ?_
  cases b with
  | true => exact h2 Δ1 _ σ H1 B1 R hr1 hq _ fun b Δ2 H2 B2 hq2 hl2 hk2 hr2 => k b Δ2 H2 B2 hq2 (hl1.trans hl2) (hk1.trans hk2) hr2
  | false => exact k false Δ1 H1 B1 hq hl1 hk1 hr1
theorem rf_or (h1 : RfT K t1 w1) (h2 : RfT K t2 w2) : RfT K (tOr t1 t2) (wOr w1 w2) := fun Δ Q σ H B R hr hw Qv k => by
  refine h1 Δ _ σ H B R hr hw _ fun b Δ1 H1 B1 hq hl1 hk1 hr1 => ?_
  cases b with
  | false => exact h2 Δ1 _ σ H1 B1 R hr1 hq _ fun b Δ2 H2 B2 hq2 hl2 hk2 hr2 => k b Δ2 H2 B2 hq2 (hl1.trans hl2) (hk1.trans hk2) hr2
  | true => exact k true Δ1 H1 B1 hq hl1 hk1 hr1
theorem rf_not (h1 : RfT K t1 w1) : RfT K (tNot t1) (wNot w1) := fun Δ Q σ H B R hr hw Qv k => h1 Δ _ σ H B R hr hw _ fun b Δ1 H1 B1 hq hl1 hk1 hr1 => k _ Δ1 H1 B1 hq hl1 hk1 hr1
theorem rf_andV (ha : RfE K ta wa) (hb : RfE K tb wb) : RfE K (tAndV ta tb) (wAndV wa wb) := fun Δ Q σ H B R hr hw Qv k => by
  refine ha Δ _ σ H B R hr hw _ fun p Δ1 x H1 B1 hq hl1 hk1 ⟨G1, pr1, hr1⟩ => ?_
  obtain ⟨t, F, rx, o⟩ := pr1.tree hr1 hq
  cases t with
  | bl b =>
    refine ⟨b, rx.bl_inv.1, ?_⟩
    cases b with
    | true => exact hb Δ1 _ σ H1 B1 R hr1.drop o _ fun p2 Δ2 y H2 B2 hq2 hl2 hk2 o2 => k p2 Δ2 y H2 B2 hq2 (hl1.trans hl2) (hk1.trans hk2) o2
    | false => exact k _ Δ1 _ H1 B1 o hl1 hk1 ⟨[], .bl false, hr1.drop⟩
  | _ => exact o.elim
theorem rf_orV (ha : RfE K ta wa) (hb : RfE K tb wb) : RfE K (tOrV ta tb) (wOrV wa wb) := fun Δ Q σ H B R hr hw Qv k => by
  refine ha Δ _ σ H B R hr hw _ fun p Δ1 x H1 B1 hq hl1 hk1 ⟨G1, pr1, hr1⟩ => ?_
  obtain ⟨t, F, rx, o⟩ := pr1.tree hr1 hq
  cases t with
  | bl b =>
    refine ⟨b, rx.bl_inv.1, ?_⟩
    cases b with
    | false => exact hb Δ1 _ σ H1 B1 R hr1.drop o _ fun p2 Δ2 y H2 B2 hq2 hl2 hk2 o2 => k p2 Δ2 y H2 B2 hq2 (hl1.trans hl2) (hk1.trans hk2) o2
    | true => exact k _ Δ1 _ H1 B1 o hl1 hk1 ⟨[], .bl true, hr1.drop⟩
  | _ => exact o.elim
theorem rf_ifE (h : RfT K tt wt) (ha : RfE K ta wa) (hb : RfE K tb wb) : RfE K (tIf tt ta tb) (wIf wt wa wb) := fun Δ Q σ H B R hr hw Qv k => by
  refine h Δ _ σ H B R hr hw _ fun b Δ1 H1 B1 hq hl1 hk1 hr1 => ?_
  cases b with
  | true => exact ha Δ1 _ σ H1 B1 R hr1 hq _ fun p2 Δ2 y H2 B2 hq2 hl2 hk2 o2 => k p2 Δ2 y H2 B2 hq2 (hl1.trans hl2) (hk1.trans hk2) o2
  | false => exact hb Δ1 _ σ H1 B1 R hr1 hq _ fun p2 Δ2 y H2 B2 hq2 hl2 hk2 o2 => k p2 Δ2 y H2 B2 hq2 (hl1.trans hl2) (hk1.trans hk2) o2
end
section
variable {X : Cx} {a b c e : Expr} {es rest : List Expr} {wa wb w : WE} {pos : Pos} {wt w1 w2 : WT}
theorem ct_cmp {op : CmpOp} {r : R2} {g : T → T → (T → Prop) → Prop} (ho : OpR X (compareOp op) r) (hl : LOp X.K r g) (ha : CE X a wa) (hb : CE X b wb) (hm : behindInMarks op b = false) : CT X (.Compare a [op] [b] pos) (wTest (wOp g wa wb)) := by
  obtain ⟨ta, pa, ra⟩ := ha
  obtain ⟨tb, pb, rb⟩ := hb
  exact ⟨_, pt_cmpR ho pa pb hm, rf_test (rf_op hl ra rb)⟩
theorem ce_cmp {op : CmpOp} {r : R2} {g : T → T → (T → Prop) → Prop} (ho : OpR X (compareOp op) r) (hl : LOp X.K r g) (ha : CE X a wa) (hb : CE X b wb) (hm : behindInMarks op b = false) : CE X (.Compare a [op] [b] pos) (wOp g wa wb) := by
  obtain ⟨ta, pa, ra⟩ := ha
  obtain ⟨tb, pb, rb⟩ := hb
  exact ⟨_, pe_cmpR ho pa pb hm, rf_op hl ra rb⟩
theorem ct_tru (h : CE X e w) (he : ∀ whole, isTrue e X.env whole = (do let v ← whole; standAt e.pos; holding [v] (truthy v)) := by intro _; rfl) : CT X e (wTru w) := by
  obtain ⟨te, p, r⟩ := h
  exact ⟨_, pt_truth p he, rf_tru r⟩
theorem cw_and1 (h : CT X a wt) : CW X (.BoolOp .And [a] pos) wt := by
  obtain ⟨te, p, r⟩ := h
  exact ⟨_, pw_and1 p, r⟩
theorem cw_or1 (h : CT X a wt) : CW X (.BoolOp .Or [a] pos) wt := by
  obtain ⟨te, p, r⟩ := h
  exact ⟨_, pw_or1 p, r⟩
theorem cw_and (h1 : CT X a w1) (h2 : CW X (.BoolOp .And (b :: rest) pos) w2) : CW X (.BoolOp .And (a :: b :: rest) pos) (wAnd w1 w2) := by
  obtain ⟨t1, p1, r1⟩ := h1
  obtain ⟨t2, p2, r2⟩ := h2
  exact ⟨_, pw_and p1 p2, rf_and r1 r2⟩
theorem cw_or (h1 : CT X a w1) (h2 : CW X (.BoolOp .Or (b :: rest) pos) w2) : CW X (.BoolOp .Or (a :: b :: rest) pos) (wOr w1 w2) := by
  obtain ⟨t1, p1, r1⟩ := h1
  obtain ⟨t2, p2, r2⟩ := h2
  exact ⟨_, pw_or p1 p2, rf_or r1 r2⟩
theorem CW.ct (h : CW X e wt) : CT X e wt := by
  obtain ⟨t1, p1, r1⟩ := h
  exact ⟨_, p1.pt, r1⟩
theorem ct_not (h : CT X a wt) : CT X (.UnaryOp .Not a pos) (wNot wt) := by
  obtain ⟨t1, p1, r1⟩ := h
  exact ⟨_, pt_not p1, rf_not r1⟩
theorem ce_one {op} (h : CE X a w) : CE X (.BoolOp op [a] pos) w := by
  obtain ⟨t1, p1, r1⟩ := h
  exact ⟨_, pe_one p1, r1⟩
theorem ce_and (h1 : CE X a wa) (h2 : CE X (.BoolOp .And (b :: rest) pos) wb) : CE X (.BoolOp .And (a :: b :: rest) pos) (wAndV wa wb) := by
  obtain ⟨t1, p1, r1⟩ := h1
  obtain ⟨t2, p2, r2⟩ := h2
  exact ⟨_, pe_and p1 p2, rf_andV r1 r2⟩
theorem ce_or (h1 : CE X a wa) (h2 : CE X (.BoolOp .Or (b :: rest) pos) wb) : CE X (.BoolOp .Or (a :: b :: rest) pos) (wOrV wa wb) := by
  obtain ⟨t1, p1, r1⟩ := h1
  obtain ⟨t2, p2, r2⟩ := h2
  exact ⟨_, pe_or p1 p2, rf_orV r1 r2⟩
theorem ce_ifE (h : CT X c wt) (ha : CE X a wa) (hb : CE X b wb) : CE X (.IfExp c a b pos) (wIf wt wa wb) := by
  obtain ⟨t, p, r⟩ := h
  obtain ⟨t1, p1, r1⟩ := ha
  obtain ⟨t2, p2, r2⟩ := hb
  exact ⟨_, pe_ifExp p p1 p2, rf_ifE r r1 r2⟩
end
end TL
set_option maxRecDepth 100000
set_option maxHeartbeats 1000000
namespace TL
open PySem PySem.Spec PyProof.Rows L2
/-- the value goes elsewhere: what a name holds is frozen -/
def wTake (p : PV) (Δ : Dt) (k : T → Dt → Prop) : Prop := match p with
  | .val t => k t Δ
  | .pl j => look Δ j fun t => k (frz t) (Δ.set j (some (frz t)))
section
variable {K : Frag} {B H : Hp} {R : List Addr} {σ : Sg} {Δ : Dt} {p : PV} {v : V} {k : T → Dt → Prop}
theorem take_ok (h : Out K B H R σ Δ p v) (w : wTake p Δ k) : ∃ t Δ' B' G, k t Δ' ∧ Le B B' ∧ Rp K B' H v t G ∧ Rep K B' H (G ++ R) σ Δ' := by
  obtain ⟨G, pr, hr⟩ := h
  cases p with
  | val t => exact ⟨t, Δ, B, G, w, Le.refl B, pr, hr⟩
  | pl j =>
    obtain ⟨rfl, e⟩ := pr
    obtain ⟨t, e1, q⟩ := look_iff w
    obtain ⟨B', v', hle, e2, hr', r'⟩ := Rep.frzS hr e1
    rw [e] at e2; cases e2
    exact ⟨_, _, B', [], q, hle, r', hr'⟩
/-- .. and is frozen -/
theorem take_fr (h : Out K B H R σ Δ p v) (w : wTake p Δ k) : ∃ t Δ' B', k t Δ' ∧ Le B B' ∧ Rp K B' H v (frz t) [] ∧ Rep K B' H R σ Δ' := by
  obtain ⟨t, Δ', B', G, q, hle, r, hr⟩ := take_ok h w
  obtain ⟨B2, hle2, hr2, r2⟩ := hr.frzT r
  exact ⟨t, Δ', B2, q, hle.trans hle2, r2, hr2⟩
end
abbrev WG := T → Dt → (Dt → Prop) → Prop
abbrev WGs := List T → Dt → (Dt → Prop) → Prop
def RfG (K : Frag) (S : Nat → Prop) (g : TG) (w : WG) : Prop := ∀ (t : T) (Δ : Dt) (Q : Dt → Prop) (σ : Sg) (H B : Hp) (R G : List Addr) (v : V), Rep K B H (G ++ R) σ Δ → Rp K B H v t G → w t Δ Q → ∀ Qv : Sg → Hp → Prop,
  (∀ Δ' σ' H' B', Q Δ' → Le B B' → Keep R H H' → (∀ j : Nat, S j → σ'[j]? = σ[j]?) → Rep K B' H' R σ' Δ' → σ'.length = σ.length → Qv σ' H') → g v σ H Qv
def RfGs (K : Frag) (S : Nat → Prop) (g : TGs) (w : WGs) : Prop := ∀ (ts : List T) (Δ : Dt) (Q : Dt → Prop) (σ : Sg) (H B : Hp) (R G : List Addr) (vs : List V), Rep K B H (G ++ R) σ Δ → RpL K B H vs ts G → w ts Δ Q → ∀ Qv : Sg → Hp → Prop,
  (∀ Δ' σ' H' B', Q Δ' → Le B B' → Keep R H H' → (∀ j : Nat, S j → σ'[j]? = σ[j]?) → Rep K B' H' R σ' Δ' → σ'.length = σ.length → Qv σ' H') → g vs σ H Qv
structure CG (X : Cx) (S : Nat → Prop) (tg : Expr) (w : WG) : Prop where
  ex : ∃ g, PG X tg g ∧ RfG X.K S g w
structure CGs (X : Cx) (S : Nat → Prop) (tg : List Expr) (w : WGs) : Prop where
  ex : ∃ g, PGs X tg g ∧ RfGs X.K S g w
def wgN (i : Nat) : WG := fun t Δ Q => Q (Δ.set i (some t))
def wgNil : WGs := fun ts Δ Q => match ts with
  | [] => Q Δ
  | _ => False
def wgCons (a : WG) (r : WGs) : WGs := fun ts Δ Q => match ts with
  | t :: ts => a t Δ fun Δ' => r ts Δ' Q
  | [] => False
def wgTup (n : Nat) (a : WGs) : WG := fun t Δ Q => match t with
  | .tup ts => ts.length = n ∧ a ts Δ Q
  | _ => False
section
variable {K : Frag} {S : Nat → Prop} {np i : Nat} {g : TG} {gs : TGs} {w : WG} {ws : WGs}
theorem rf_gN (h : ∀ j, S j → j ≠ i) : RfG K S (gName i) (wgN i) := fun t Δ Q σ H B R G v hr r hw Qv k =>
  k _ _ H B hw (Le.refl B) Keep.refl (fun j hj => List.getElem?_set_ne (Ne.symm (h j hj))) (Rep.set (x := some v) (d := some t) hr r) (by simp)
theorem rf_gNil : RfGs K S gNil wgNil := fun ts Δ Q σ H B R G vs hr r hw Qv k => by
  cases r with
  | nil => exact ⟨rfl, k _ _ H B hw (Le.refl B) Keep.refl (fun _ _ => rfl) hr rfl⟩
  | cons _ _ => exact hw.elim
theorem rf_gCons (h1 : RfG K S g w) (h2 : RfGs K S gs ws) : RfGs K S (gCons g gs) (wgCons w ws) := fun ts Δ Q σ H B R G vs hr r hw Qv k => by
  cases r with
  | nil => exact hw.elim
  | @cons v vs t ts F G r1 r2 =>
    refine ⟨v, vs, rfl, ?_⟩
    rw [List.append_assoc] at hr
    refine h1 t Δ _ σ H B (G ++ R) F v hr r1 hw _ fun Δ1 σ1 H1 B1 q a1 b1 c1 hr1 l1 => ?_
    exact h2 ts Δ1 Q σ1 H1 B1 R G vs hr1 (r2.mono a1 b1.left) q Qv fun Δ2 σ2 H2 B2 q2 a2 b2 c2 hr2 l2 => k Δ2 σ2 H2 B2 q2 (a1.trans a2) (b1.right.trans b2) (fun j hj => (c2 j hj).trans (c1 j hj)) hr2 (l2.trans l1)
theorem rf_gTup {n : Nat} (h2 : RfGs K S gs ws) : RfG K S (gTup K n gs) (wgTup n ws) := fun t Δ Q σ H B R G v hr r hw Qv k => by
  cases t with
  | tup ts =>
    obtain ⟨a, vs, rfl, hs, hl⟩ := r.tup_inv hr.sub
    exact ⟨a, vs, rfl, hs, by rw [hl.length]; exact hw.1, h2 ts Δ Q σ H B R G vs hr hl hw.2 Qv k⟩
  | _ => exact hw.elim
end
/-- slots that are never stored to: the first np -/
abbrev Pin (np : Nat) : Nat → Prop := fun j => j < np
/-- all slots but a comprehension's own -/
abbrev Own (vs : List Nat) : Nat → Prop := fun j => j ∉ vs
section
variable {X : Cx} {S : Nat → Prop} {np i n : Nat} {vs : List Nat} {x : Str} {pos : Pos} {w : WG} {ws : WGs} {e : Expr} {es : List Expr}
theorem cg_name (hN : X.N.Nodup) (hi : X.N[i]? = some x) (hx : Loc X.env.scope x) (h : np ≤ i) (hf : X.fn x = true ∨ X.env.scope.names.lookup x = some .local := by first | exact .inl rfl | exact .inr rfl | assumption) : CG X (Pin np) (.Name x pos) (wgN i) :=
  ⟨_, pg_name hN hi hx hf, rf_gN fun j hj => Nat.ne_of_lt (Nat.lt_of_lt_of_le hj h)⟩
theorem cg_own (hN : X.N.Nodup) (hi : X.N[i]? = some x) (hx : Loc X.env.scope x) (h : i ∈ vs) (hf : X.fn x = true ∨ X.env.scope.names.lookup x = some .local := by first | exact .inl rfl | exact .inr rfl | assumption) : CG X (Own vs) (.Name x pos) (wgN i) :=
  ⟨_, pg_name hN hi hx hf, rf_gN fun j hj z => hj (z ▸ h)⟩
theorem cgs_nil : CGs X S [] wgNil := ⟨_, pgs_nil, rf_gNil⟩
theorem cgs_cons (h1 : CG X S e w) (h2 : CGs X S es ws) (hs : (assignEach (e :: es) X.env).map (·.2) = assign e X.env :: (assignEach es X.env).map (·.2) := by rfl) : CGs X S (e :: es) (wgCons w ws) := by
  obtain ⟨g, p, r⟩ := h1
  obtain ⟨gs, ps, rs⟩ := h2
  exact ⟨_, pgs_cons p ps hs, rf_gCons r rs⟩
theorem cg_tup {k : Nat} (hc : X.calm = true) (h : CGs X S es ws) (hn : (assignEach es X.env).length = n := by rfl) (hst : (assignEach es X.env).findIdx? (·.1) = none := by rfl) : CG X S (.Tuple es k pos) (wgTup n ws) := by
  obtain ⟨gs, ps, rs⟩ := h
  exact ⟨_, pg_tup hc ps hn hst, rf_gTup rs⟩
end
def wNext : WS := fun D Δ => D.nx Δ
def wSeq (a b : WS) : WS := fun D Δ => a { D with nx := b D } Δ
def wCont : WS := fun D Δ => D.ct Δ
def wNever : WS := fun _ _ => False
def wDrop (w : WE) : WS := fun D Δ => w Δ fun _ Δ1 => D.nx Δ1
def wRet (np : Nat) (w : WE) : WS := fun D Δ => w Δ fun p Δ1 => match p with
  | .val t => D.rt t Δ1
  | .pl i => look Δ1 i fun t => if np ≤ i then D.rt t (Δ1.set i none) else D.rt (frz t) (Δ1.set i (some (frz t)))
def wRetN : WS := fun D Δ => D.rt .non Δ
def wIfS (c : WT) (a b : WS) : WS := fun D Δ => c Δ fun k Δ1 => if k = true then a D Δ1 else b D Δ1
def wAsg (w : WE) (g : WG) : WS := fun D Δ => w Δ fun p Δ1 => wTake p Δ1 fun t Δ2 => g t Δ2 D.nx
section
variable {K : Frag} {W : WX} {np : Nat} {t u : TS} {wt wu : WS} {te : TE} {we : WE} {tc : TT} {wc : WT} {g : TG} {wg : WG}
theorem rf_next : RfS K np W tNext wNext := fun D Δ σ H B R hr hw E k1 k2 k3 k4 k5 => k1 _ _ _ _ hw Fin.refl hr
theorem rf_cont : RfS K np W tCont wCont := fun D Δ σ H B R hr hw E k1 k2 k3 k4 k5 => k4 _ _ _ _ hw Fin.refl hr
theorem rf_never : RfS K np W tNever wNever := fun D Δ σ H B R hr hw E k1 k2 k3 k4 k5 => hw
theorem rf_retN : RfS K np W tRetN wRetN := fun D Δ σ H B R hr hw E k1 k2 k3 k4 k5 => k2 _ _ _ _ _ _ [] hw Fin.refl .non hr
theorem rf_seq (h1 : RfS K np W t wt) (h2 : RfS K np W u wu) : RfS K np W (tSeq t u) (wSeq wt wu) := fun D Δ σ H B R hr hw E k1 k2 k3 k4 k5 => by
  refine h1 _ Δ σ H B R hr hw _ (fun Δ1 σ1 H1 B1 q f1 hr1 => ?_) k2 k3 k4 k5
  refine h2 D Δ1 σ1 H1 B1 R hr1 q E (fun Δ2 σ2 H2 B2 q2 f2 hr2 => k1 _ _ _ _ q2 (f1.trans f2) hr2) (fun t Δ2 σ2 v H2 B2 G q2 f2 r hr2 => k2 _ _ _ _ _ _ G q2 (f1.trans f2) r hr2)
    (fun Δ2 σ2 H2 B2 q2 f2 hr2 => k3 _ _ _ _ q2 (f1.trans f2) hr2) (fun Δ2 σ2 H2 B2 q2 f2 hr2 => k4 _ _ _ _ q2 (f1.trans f2) hr2) (fun x fs Δ2 σ2 od H2 B2 q2 f2 hr2 r2 => k5 _ _ _ _ _ _ _ q2 (f1.trans f2) hr2 r2)
theorem rf_drop (h : RfE K te we) : RfS K np W (tDrop te) (wDrop we) := fun D Δ σ H B R hr hw E k1 k2 k3 k4 k5 =>
  h Δ _ σ H B R hr hw _ fun p Δ1 v H1 B1 q hl hk ⟨G, _, hr1⟩ => k1 _ _ _ _ q (Fin.of hl hk) hr1.drop
theorem rf_if (hc : RfT K tc wc) (h1 : RfS K np W t wt) (h2 : RfS K np W u wu) : RfS K np W (tIfS tc t u) (wIfS wc wt wu) := fun D Δ σ H B R hr hw E k1 k2 k3 k4 k5 => by
  refine hc Δ _ σ H B R hr hw _ fun b Δ1 H1 B1 q hl hk hr1 => ?_
  have f1 : Fin K B H R np σ B1 H1 σ := Fin.of hl hk
  cases b with
  | true =>
    exact h1 D Δ1 σ H1 B1 R hr1 q E (fun Δ2 σ2 H2 B2 q2 f2 hr2 => k1 _ _ _ _ q2 (f1.trans f2) hr2) (fun t Δ2 σ2 v H2 B2 G q2 f2 r hr2 => k2 _ _ _ _ _ _ G q2 (f1.trans f2) r hr2)
      (fun Δ2 σ2 H2 B2 q2 f2 hr2 => k3 _ _ _ _ q2 (f1.trans f2) hr2) (fun Δ2 σ2 H2 B2 q2 f2 hr2 => k4 _ _ _ _ q2 (f1.trans f2) hr2) (fun x fs Δ2 σ2 od H2 B2 q2 f2 hr2 r2 => k5 _ _ _ _ _ _ _ q2 (f1.trans f2) hr2 r2)
  | false =>
    exact h2 D Δ1 σ H1 B1 R hr1 q E (fun Δ2 σ2 H2 B2 q2 f2 hr2 => k1 _ _ _ _ q2 (f1.trans f2) hr2) (fun t Δ2 σ2 v H2 B2 G q2 f2 r hr2 => k2 _ _ _ _ _ _ G q2 (f1.trans f2) r hr2)
      (fun Δ2 σ2 H2 B2 q2 f2 hr2 => k3 _ _ _ _ q2 (f1.trans f2) hr2) (fun Δ2 σ2 H2 B2 q2 f2 hr2 => k4 _ _ _ _ q2 (f1.trans f2) hr2) (fun x fs Δ2 σ2 od H2 B2 q2 f2 hr2 r2 => k5 _ _ _ _ _ _ _ q2 (f1.trans f2) hr2 r2)
theorem rf_ret (h : RfE K te we) : RfS K np W (tRet te) (wRet np we) := fun D Δ σ H B R hr hw E k1 k2 k3 k4 k5 => by
  refine h Δ _ σ H B R hr hw _ fun p Δ1 v H1 B1 q hl hk ⟨G, pr, hr1⟩ => ?_
  cases p with
  | val t => exact k2 t Δ1 σ v H1 B1 G q (Fin.of hl hk) pr hr1
  | pl i =>
    obtain ⟨rfl, e⟩ := pr
    obtain ⟨t, e1, q⟩ := look_iff q
    by_cases hi : np ≤ i
    · rw [if_pos hi] at q
      obtain ⟨v', G, e2, r, hr2⟩ := Rep.out hr1 e1
      rw [e] at e2; cases e2
      exact k2 t _ σ v H1 B1 G q (Fin.of hl hk) r hr2
    · rw [if_neg hi] at q
      obtain ⟨B2, v', hle, e2, hr2, r⟩ := Rep.frzS hr1 e1
      rw [e] at e2; cases e2
      exact k2 _ _ σ v H1 B2 [] q (Fin.of (hl.trans hle) hk) r hr2
theorem rf_asg (h : RfE K te we) (hg : RfG K (Pin np) g wg) : RfS K np W (tAsg te g) (wAsg we wg) := fun D Δ σ H B R hr hw E k1 k2 k3 k4 k5 => by
  refine h Δ _ σ H B R hr hw _ fun p Δ1 v H1 B1 q hl hk o => ?_
  obtain ⟨t, Δ2, B2, G, q2, hle, r, hr2⟩ := take_ok o q
  refine hg t Δ2 D.nx σ H1 B2 R G v hr2 r q2 _ fun Δ3 σ3 H3 B3 q3 a3 b3 c3 hr3 _ => k1 _ _ _ _ q3 (Fin.trans (Fin.of (hl.trans hle) hk) ⟨a3, b3, c3⟩) hr3
end
section
variable {X : Cx} {np : Nat} {st : Stmt} {rest a b : List Stmt} {w wt wu : WS} {we : WE} {wc : WT} {wg : WG} {e c tg : Expr} {pos : Pos}
theorem css_nil : CSs X np [] wNext := ⟨fun W tk => ⟨_, pss_nil, rf_next⟩⟩
theorem css_cons (h1 : CS X np st wt) (h2 : CSs X np rest wu) : CSs X np (st :: rest) (wSeq wt wu) := by
  refine ⟨fun W tk => ?_⟩
  obtain ⟨t1, p1, r1⟩ := h1.ex W tk
  obtain ⟨t2, p2, r2⟩ := h2.ex W tk
  exact ⟨_, pss_cons p1 p2, rf_seq r1 r2⟩
theorem css_one (h1 : CS X np st w) : CSs X np [st] w := by
  refine ⟨fun W tk => ?_⟩
  obtain ⟨t1, p1, r1⟩ := h1.ex W tk
  exact ⟨_, pss_one p1, r1⟩
theorem cs_cont : CS X np (.Continue pos) wCont := ⟨fun W tk => ⟨_, ps_continue, rf_cont⟩⟩
theorem cs_never : CS X np st wNever := ⟨fun W tk => ⟨_, ps_never, rf_never⟩⟩
theorem cs_expr (h : CE X e we) (hs : swapsWith e none pos.line X.env = pure false := by rfl) : CS X np (.Expr e pos) (wDrop we) := by
  refine ⟨fun W tk => ?_⟩
  obtain ⟨t1, p1, r1⟩ := h
  exact ⟨_, ps_expr p1 hs, rf_drop r1⟩
theorem cs_ret (h : CE X e we) : CS X np (.Return (some e) pos) (wRet np we) := by
  refine ⟨fun W tk => ?_⟩
  obtain ⟨t1, p1, r1⟩ := h
  exact ⟨_, ps_ret p1, rf_ret r1⟩
theorem cs_retN : CS X np (.Return none pos) wRetN := ⟨fun W tk => ⟨_, ps_retN, rf_retN⟩⟩
theorem cs_if (hc : CT X c wc) (h1 : CSs X np a wt) (h2 : CSs X np b wu) : CS X np (.If c a b pos) (wIfS wc wt wu) := by
  refine ⟨fun W tk => ?_⟩
  obtain ⟨t, p, r⟩ := hc
  obtain ⟨t1, p1, r1⟩ := h1.ex W tk
  obtain ⟨t2, p2, r2⟩ := h2.ex W tk
  exact ⟨_, ps_if p p1 p2, rf_if r r1 r2⟩
theorem cs_set {i : Nat} {x : Str} {pos' : Pos} (hN : X.N.Nodup) (hi : X.N[i]? = some x) (hx : Loc X.env.scope x) (hp : np ≤ i) (he : CE X e we) (hs : swapsWith e (some (.Name x pos')) pos.line X.env = pure false := by rfl)
    (hf : X.fn x = true ∨ X.env.scope.names.lookup x = some .local := by first | exact .inl rfl | exact .inr rfl | assumption) : CS X np (.Assign [.Name x pos'] e pos) (wAsg we (wgN i)) := by
  refine ⟨fun W tk => ?_⟩
  obtain ⟨t1, p1, r1⟩ := he
  exact ⟨_, ps_set hN hi hx p1 hs hf, rf_asg r1 (rf_gN fun j hj => Nat.ne_of_lt (Nat.lt_of_lt_of_le hj hp))⟩
theorem cs_asg (he : CE X e we) (hg : CG X (Pin np) tg wg) (hs : swapsWithSole [tg] e pos.line X.env = pure false := by rfl) (hw : swappedStores [tg] e X.env = pure none := by rfl) (h1 : (assignEach [tg] X.env).map (·.2) = [assign tg X.env] := by rfl) :
    CS X np (.Assign [tg] e pos) (wAsg we wg) := by
  refine ⟨fun W tk => ?_⟩
  obtain ⟨t1, p1, r1⟩ := he
  obtain ⟨g, pg, rg⟩ := hg
  exact ⟨_, ps_asg p1 pg hs hw h1, rf_asg r1 rg⟩
end
/-- the items, one after another -/
def ItR (K : Frag) (B : Hp) (J : It) (ts : List T) : Prop := ∀ (i : Nat) (B2 H2 : Hp), Le B B2 → Sub B2 H2 →
  (∀ t, ts[i]? = some t → J.go i H2 ∧ ∀ x H3, J.yld i H2 x H3 → Same H2 H3 ∧ ∃ B3, Le B2 B3 ∧ Sub B3 H3 ∧ Rp K B3 H3 x t [] ∧ ∀ a, H2 a ≠ none → B3 a = B2 a) ∧ (ts.length ≤ i → J.stop i H2)
abbrev WI := Dt → (List T → Dt → Prop) → Prop
def RfI (K : Frag) (ti : TI) (wi : WI) : Prop := ∀ (Δ : Dt) (Q : List T → Dt → Prop) (σ : Sg) (H B : Hp) (R : List Addr), Rep K B H R σ Δ → wi Δ Q → ∀ Rr : It → Hp → Prop,
  (∀ J ts Δ' H' B', Q ts Δ' → Le B B' → Keep R H H' → Rep K B' H' R σ Δ' → ItR K B' J ts → Rr J H') → ti σ H Rr
structure CI (X : Cx) (tg iter : Expr) (w : WI) : Prop where
  ex : ∃ ti, PI X tg iter ti ∧ RfI X.K ti w
theorem Rep.grow {K : Frag} {B B' H H' : Hp} {R : List Addr} {σ : Sg} {Δ : Dt} (h : Rep K B H R σ Δ) (hs : Same H H') (hl : Le B B') (hb : Sub B' H') (hn : ∀ a, H a ≠ none → B' a = B a) : Rep K B' H' R σ Δ := by
  obtain ⟨F, h1, h2⟩ := h.fp
  have hk := h2.keep hs
  exact ⟨hb, F, h1.mono hl fun a z => hk a (List.mem_append_left _ z), fun a => ⟨(h2 a).1, fun z => ⟨by rw [hn a ((h2 a).2 z).2]; exact ((h2 a).2 z).1, by rw [hk a z]; exact ((h2 a).2 z).2⟩⟩⟩
def wFor (wi : WI) (wg : WG) (wb : WS) : WS := fun D Δ => wi Δ fun ts Δ1 => ∃ Pv : Nat → Dt → Prop, Pv 0 Δ1 ∧
  (∀ i t Δ2, ts[i]? = some t → Pv i Δ2 → wg t Δ2 fun Δ3 => wb { D with nx := Pv (i + 1), ct := Pv (i + 1), bk := D.nx } Δ3) ∧ ∀ Δ2, Pv ts.length Δ2 → D.nx Δ2
theorem rf_for {K : Frag} {W : WX} {np : Nat} {ti : TI} {wi : WI} {g : TG} {wg : WG} {tb : TS} {wb : WS} (hi : RfI K ti wi) (hg : RfG K (Pin np) g wg) (hb : RfS K np W tb wb) : RfS K np W (tFor ti g tb) (wFor wi wg wb) := fun D Δ σ H B R hr hw E k1 k2 k3 k4 k5 => by
  refine hi Δ _ σ H B R hr hw _ fun J ts Δ1 H1 B1 q hl hk hr1 hJ => ?_
  obtain ⟨Pv, h0, hs, hd⟩ := q
  have f1 : Fin K B H R np σ B1 H1 σ := Fin.of hl hk
  refine ⟨fun i m σ' H' => m = ts.length - i ∧ i ≤ ts.length ∧ ∃ Δ' B', Pv i Δ' ∧ Fin K B1 H1 R np σ B' H' σ' ∧ Rep K B' H' R σ' Δ', ⟨_, rfl, Nat.zero_le _, Δ1, B1, h0, Fin.refl, hr1⟩, fun i m σ' H' hW => ?_⟩
  obtain ⟨rfl, hle, Δ2, B2, hp, f2, hr2⟩ := hW
  obtain ⟨hgo, hst⟩ := hJ i B2 H' f2.1 hr2.sub
  by_cases hi : i < ts.length
  · right
    obtain ⟨go, yl⟩ := hgo ts[i] (by simp [hi])
    refine ⟨go, fun σ' H' => ∃ Δ' B', Pv (i + 1) Δ' ∧ Fin K B1 H1 R np σ B' H' σ' ∧ Rep K B' H' R σ' Δ', fun σ3 H3 ⟨Δ3, B3, a, b, c⟩ => ⟨ts.length - (i + 1), by omega, rfl, by omega, Δ3, B3, a, b, c⟩, fun x H3 hy => ?_⟩
    obtain ⟨hsame, B3, hl3, hs3, r3, hn3⟩ := yl x H3 hy
    have hr3 : Rep K B3 H3 R σ' Δ2 := hr2.grow hsame hl3 hs3 hn3
    have f3 : Fin K B1 H1 R np σ B3 H3 σ' := f2.trans (Fin.of hl3 (hr2.keepExt hsame))
    refine hg ts[i] Δ2 _ σ' H3 B3 R [] x hr3 r3 (hs i ts[i] Δ2 (by simp [hi]) hp) _ fun Δ4 σ4 H4 B4 q4 a4 b4 c4 hr4 _ => ?_
    have f34 := f3.trans ⟨a4, b4, c4⟩
    refine hb _ Δ4 σ4 H4 B4 R hr4 q4 _ (fun Δ5 σ5 H5 B5 q5 f5 hr5 => ⟨Δ5, B5, q5, f34.trans f5, hr5⟩) (fun t Δ5 σ5 v H5 B5 G q5 f5 r5 hr5 => k2 _ _ _ _ _ _ G q5 ((f1.trans f34).trans f5) r5 hr5)
      (fun Δ5 σ5 H5 B5 q5 f5 hr5 => k1 _ _ _ _ q5 ((f1.trans f34).trans f5) hr5) (fun Δ5 σ5 H5 B5 q5 f5 hr5 => ⟨Δ5, B5, q5, f34.trans f5, hr5⟩)
      (fun x fs Δ5 σ5 od H5 B5 q5 f5 hr5 r5 => k5 _ _ _ _ _ _ _ q5 ((f1.trans f34).trans f5) hr5 r5)
  · left
    have e : i = ts.length := by omega
    subst e
    exact ⟨hst (Nat.le_refl _), k1 _ _ _ _ (hd Δ2 hp) (f1.trans f2) hr2⟩
theorem cs_for {X : Cx} {np : Nat} {tg iter : Expr} {body : List Stmt} {wi : WI} {wg : WG} {wb : WS} {pos : Pos} (hp : PassesOwn (model X.prog X.w) X.A X.env X.xe) (hc : X.calm = true) (hi : CI X tg iter wi) (hg : CG X (Pin np) tg wg) (hb : CSs X np body wb)
    (hs : ∀ x, foldedSetIterable iter X.env x = pure x := by intro _; rfl) : CS X np (.For tg iter body [] pos) (wFor wi wg wb) := by
  refine ⟨fun W tk => ?_⟩
  obtain ⟨t1, p1, r1⟩ := hi
  obtain ⟨t2, p2, r2⟩ := hg
  obtain ⟨t3, p3, r3⟩ := hb.ex W tk
  exact ⟨_, ps_for hp hc p1 p2 p3 hs, rf_for r1 r2 r3⟩
def wWhile (c : WT) (wb : WS) : WS := fun D Δ => ∃ Pv : Nat → Dt → Prop, (∃ m, Pv m Δ) ∧ ∀ m Δ1, Pv m Δ1 → c Δ1 fun b Δ2 => if b = true then wb { D with nx := fun Δ' => ∃ m', m' < m ∧ Pv m' Δ', ct := fun Δ' => ∃ m', m' < m ∧ Pv m' Δ', bk := D.nx } Δ2 else D.nx Δ2
theorem rf_while {K : Frag} {W : WX} {np : Nat} {tc : TT} {wc : WT} {tb : TS} {wb : WS} (hc : RfT K tc wc) (hb : RfS K np W tb wb) : RfS K np W (tWhile tc tb) (wWhile wc wb) := fun D Δ σ H B R hr hw E k1 k2 k3 k4 k5 => by
  obtain ⟨Pv, ⟨m0, h0⟩, hs⟩ := hw
  refine ⟨fun m σ' H' => ∃ Δ' B', Pv m Δ' ∧ Fin K B H R np σ B' H' σ' ∧ Rep K B' H' R σ' Δ', ⟨m0, Δ, B, h0, Fin.refl, hr⟩, fun m σ1 H1 hW => ?_⟩
  obtain ⟨Δ1, B1, hp, f1, hr1⟩ := hW
  refine hc Δ1 _ σ1 H1 B1 R hr1 (hs m Δ1 hp) _ fun b Δ2 H2 B2 q hl hk hr2 => ?_
  have f2 : Fin K B H R np σ B2 H2 σ1 := f1.trans (Fin.of hl hk)
  cases b with
  | false => exact k1 _ _ _ _ q f2 hr2
  | true =>
    show ∃ N : L2.St → Hp → Prop, _
    refine ⟨fun σ' H' => ∃ m', m' < m ∧ ∃ Δ' B', Pv m' Δ' ∧ Fin K B H R np σ B' H' σ' ∧ Rep K B' H' R σ' Δ', fun σ' H' h => h, ?_⟩
    exact hb _ Δ2 σ1 H2 B2 R hr2 q _ (fun Δ5 σ5 H5 B5 ⟨m', hm, q5⟩ f5 hr5 => ⟨m', hm, Δ5, B5, q5, f2.trans f5, hr5⟩) (fun t Δ5 σ5 v H5 B5 G q5 f5 r5 hr5 => k2 _ _ _ _ _ _ G q5 (f2.trans f5) r5 hr5)
      (fun Δ5 σ5 H5 B5 q5 f5 hr5 => k1 _ _ _ _ q5 (f2.trans f5) hr5) (fun Δ5 σ5 H5 B5 ⟨m', hm, q5⟩ f5 hr5 => ⟨m', hm, Δ5, B5, q5, f2.trans f5, hr5⟩)
      (fun x fs Δ5 σ5 od H5 B5 q5 f5 hr5 r5 => k5 _ _ _ _ _ _ _ q5 (f2.trans f5) hr5 r5)
theorem cs_while {X : Cx} {np : Nat} {c : Expr} {body : List Stmt} {wc : WT} {wb : WS} {pos : Pos} (hp : PassesOwn (model X.prog X.w) X.A X.env X.xe) (hc : CT X c wc) (hb : CSs X np body wb) : CS X np (.While c body [] pos) (wWhile wc wb) := by
  refine ⟨fun W tk => ?_⟩
  obtain ⟨t1, p1, r1⟩ := hc
  obtain ⟨t3, p3, r3⟩ := hb.ex W tk
  exact ⟨_, ps_while hp p1 p3, rf_while r1 r3⟩
end TL
set_option maxRecDepth 100000
set_option maxHeartbeats 1000000
namespace TL
open PySem PySem.Spec PyProof.Rows L2
/-- where a call stands: rooms are left, no repr is under way, the arguments meet the parameters -/
structure Stand (P : Program) (w : World) (K : Frag) (mg : Str → Option Value) (base : Heap) (k : Nat) (fd : FuncData) (ps : List Str) (A : Around) (outer : List Env) (s : Shared) (H : Hp) (args : Args) (us : List Value) (vs : List V) : Prop where
  room : Room k A
  quiet : A.guards = some []
  env : Env0 P w K mg base A outer s H
  meets : BindsTo s fd args (ps.zip us)
  vals : Vals vs us
/-- what a def promises to all who stand so -/
structure FnG (P : Program) (w : World) (K : Frag) (mg : Str → Option Value) (base : Heap) (CX : CXT) (k : Nat) (f : Addr) (fd : FuncData) (ps : List Str) (sp : Sp) : Prop where
  arity : ∀ {vs H Q E}, sp vs H Q E → vs.length = ps.length
  keeps : ∀ {A outer s H args us vs Q E}, Stand P w K mg base k fd ps A outer s H args us vs → sp vs H Q E → codeAny (model P w) A (.call (.ref f) args) (fun r s' => CR CX outer P w H s Q E r s') s
theorem FnG.mono {P : Program} {w : World} {K : Frag} {mg : Str → Option Value} {base : Heap} {CX : CXT} {j k : Nat} {f : Addr} {fd : FuncData} {ps : List Str} {sp : Sp} (F : FnG P w K mg base CX j f fd ps sp) (h : j ≤ k) : FnG P w K mg base CX k f fd ps sp :=
  ⟨F.arity, fun S => F.keeps { S with room := S.room.mono h }⟩
section
variable {X : Cx} {CX : CXT} {k : Nat} {f : Addr} {fd : FuncData} {ps : List Str} {sp : Sp} {E : XK}
/-- it is called from X: ds (as values us0) fill up -/
theorem callG {vs0 : List V} {us0 : List Value} {pins : List (Addr × Obj)} {σ : Sg} {H : Hp} {s : Shared} {Q : VK} {us : List Value} {vs : List V} (F : FnG X.prog X.w X.K X.mg X.base CX k f fd ps sp) (room : Room k X.A) (quiet : X.A.guards = some []) (bd : Binds X.K fd ps us0) (fill : Vals vs0 us0)
    (out : Passes CX X E) (I : Inv X pins σ H s) (got : Vals vs us) (asks : sp (vs ++ vs0) H Q E) : wpAny (model X.prog X.w) X.A (call (.ref f) us) (EP X pins σ Q) X.xe s :=
  have all := got.append fill
  have st : Stand X.prog X.w X.K X.mg X.base k fd ps X.A X.stack s H ⟨us, []⟩ (us ++ us0) (vs ++ vs0) := { room, quiet, env := I.env0, meets := bd s us I.kIn (all.length.symm.trans (F.arity asks)), vals := all }
  wpAny_call (codeAny_mono (F.keeps st asks) fun r s' end' => match r, end' with
    | .ok (.ret _), e => I.after e
    | .error ex, e => out pins σ H s ex s' I e
    | .ok .next, e => False.elim e
    | .ok .brk, e => False.elim e
    | .ok .cont, e => False.elim e)
theorem pe_callG {vs0 : List V} {us0 : List Value} {x : Str} {p pos : Pos} {e : Expr} {es : List Expr} {t : TA} (F : FnG X.prog X.w X.K X.mg X.base CX k f fd ps sp) (room : Room k X.A) (quiet : X.A.guards = some []) (gl : Gl X x) (nm : X.mg x = some (.ref f)) (kp : PySem.W.keepIn X.K (.ref f) = true)
    (bd : Binds X.K fd ps us0) (fill : Vals vs0 us0) (out : Passes CX X E) (args : PA X (e :: es) t) (nodebug : (x == ("__debug__" : Str)) = false) (first : starEach (e :: es) X.env = (false, eval e X.env) :: starEach es X.env) (plain : (backTo pos (starEach es X.env)).any (·.1) = false) :
    PE X (.Call (.Name x p) (e :: es) [] pos) (tCall sp vs0 E t) := ⟨fun pins s σ H Q I asks =>
  wpAny_Call_Name_kw (ld_glob I gl nm (PySem.W.callWith_K (h₀ := X.base) I.ok.mod.kin kp (thn (args.run pos pins s σ H _ I asks) fun _ _ ⟨_, _, J, got, more⟩ => ⟨J.kIn, callG F room quiet bd fill out J got more⟩) first plain) nodebug)⟩
end
/-- a body that is read gives the promise -/
theorem fnG_of {CX : CXT} {P : Program} {w : World} {K : Frag} {mg : Str → Option Value} {base : Heap} {k : Nat} {f : Addr} {nm qual : Str} {pr : Arguments} {body : List Stmt} {sc : Scope} {dV kV doc pm cdv ct : Value} {an : Option Addr} {o : Obj} {N ps : List Str} {sp : Sp}
    (stands : K.lookup f = some o) (isF : o.data = .func (PySem.W.fnOf nm qual pr body sc dV kV doc pm an cdv ct)) (code : PySem.W.codeIn K cdv qual = true) (S : FnScope N ps sc) (arity : ∀ {vs H Q E}, sp vs H Q E → vs.length = ps.length)
    (read : ∀ (A : Around) (outer : List Env) (s : Shared) (H : Hp) (vs : List V) (Q : VK) (E : XK), Room k (A.deeper (envOfC qual sc s.heap.objs.size f cdv)) → (A.deeper (envOfC qual sc s.heap.objs.size f cdv)).guards = some [] → sp vs H Q E →
      ∃ t : TS, PSs (cxOf CX P w K mg base N qual sc f cdv A outer s H E) body t ∧ t ⟨fun _ H' => Q .non H', Q, fun _ _ => False, fun _ _ => False⟩ (start N vs) H) : FnG P w K mg base CX (k + 1) f (PySem.W.fnOf nm qual pr body sc dV kV doc pm an cdv ct) ps sp where
  arity := arity
  keeps := fun {A outer s H args us vs Q E} st asks => by
    have back : ∀ {b o'}, base.get? b = some o' → s.heap.get? b = some o' := fun {b o'} z => (st.env.bs b o' z).1
    have inHeap : K.In s.heap := st.env.mod.kin.keeps @back
    have unlimited := st.env.mod.nolimit.keeps @back
    have places : ∀ z ∈ ps.zip us, sc.names.lookup z.1 = some .local ∨ (sc.names.lookup z.1 = some .cell ∧ ((cellsFrom (s.heap.objs.size + 1) sc.names []).lookup z.1).isSome = true) := by
      rintro ⟨y, u⟩ hz
      exact (S.par y (List.of_mem_zip hz).1).imp id fun c => ⟨c, PySem.W.cellsFrom_some _ _ _ (.inl c)⟩
    refine codeAny_call_function st.room.depth (inHeap _ _ stands) isF S.co S.gen rfl (PySem.W.codeRec_of inHeap code) (st.meets _ _ _ _ (wpAny_newFunctionEnv_cells S.kind places ?_))
    rintro _ rfl s1 entered
    obtain ⟨t, walks, reads⟩ := read A outer s H vs Q E (st.room.deeper _) st.quiet asks
    have ends := walks.run [] s1 (start N vs) H _ (inv_start S st.room.hd st.env (arity asks) st.vals entered) reads
    refine ⟨unlimited.keeps entered.toInCall.keep, codeAny_func (wpAny_mono ends (fun fl s' how => ?_) fun _ _ z => z)⟩
    match fl, how with
    | .ret u, ⟨v, _, H', J, same, q⟩ => exact ⟨v, H', J.os, J.bare, J.base, J.hok, same, q⟩
    | .next, ⟨_, H', J, q⟩ => exact ⟨.non, H', J.os, J.bare, J.base, J.hok, rfl, q⟩
    | .brk, ⟨_, _, _, q⟩ => exact False.elim q
    | .cont, ⟨_, _, _, q⟩ => exact False.elim q
inductive Rs where
  | ret (t : T) | exc (x : Str) (fs : List (Str × T))
abbrev FS := List T → (Rs → List T → Prop) → Prop
def spT (K : Frag) (S : FS) : Sp := fun vs H Q E => ∃ (ts : List T) (B : Hp) (R : List Addr) (Qf : Rs → List T → Prop), Rep K B H R (vs.map some) (ts.map some) ∧ S ts Qf ∧
  (∀ t ts' v H' B' G, Qf (.ret t) ts' → Le B B' → Keep R H H' → Rp K B' H' v t G → Rep K B' H' (G ++ R) (vs.map some) (ts'.map some) → Q v H') ∧
  (∀ x fs ts' od H' B', Qf (.exc x fs) ts' → Le B B' → Keep R H H' → Rep K B' H' R (vs.map some) (ts'.map some) → ExR K B' H' fs od → E (.ref (clsOf K x)) od H')
def lookUp (Δ : Dt) : Nat → Nat → (List T → Prop) → Prop
  | _, 0, k => k []
  | j, n + 1, k => look Δ j fun t => lookUp Δ (j + 1) n fun ts => k (t :: ts)
def startD (N : List Str) (np : Nat) (ts : List T) : Dt := (ts.take np).map some ++ ((ts.drop np).map fun t => some (frz t)) ++ List.replicate (N.length - ts.length) none
def endsD (np : Nat) (ts : List T) (Qf : Rs → List T → Prop) : EndsD :=
  { nx := fun Δ => lookUp Δ 0 np fun us => Qf (.ret .non) (us ++ (ts.drop np).map frz), rt := fun t Δ => lookUp Δ 0 np fun us => Qf (.ret t) (us ++ (ts.drop np).map frz) }
/-- .. of a def that exceptions may leave -/
def endsX (np : Nat) (ts : List T) (Qf : Rs → List T → Prop) : EndsD :=
  { nx := fun Δ => lookUp Δ 0 np fun us => Qf (.ret .non) (us ++ (ts.drop np).map frz), rt := fun t Δ => lookUp Δ 0 np fun us => Qf (.ret t) (us ++ (ts.drop np).map frz), ex := fun x fs Δ => lookUp Δ 0 np fun us => Qf (.exc x fs) (us ++ (ts.drop np).map frz) }
section
variable {K : Frag} {B B' H H' : Hp} {R : List Addr} {σ : Sg} {Δ : Dt}
theorem RpS.of_L : ∀ {vs : List V} {ts : List T} {F : List Addr}, RpL K B H vs ts F → RpS K B H (vs.map some) (ts.map some) F
  | _, _, _, .nil => .nil
  | _, _, _, .cons h1 h2 => .cons h1 (RpS.of_L h2)
theorem RpS.to_L : ∀ {vs : List V} {ts : List T} {F : List Addr}, RpS K B H (vs.map some) (ts.map some) F → RpL K B H vs ts F
  | [], [], _, .nil => .nil
  | _ :: _, _ :: _, _, .cons h1 h2 => .cons h1 (RpS.to_L h2)
theorem RpS.nones : ∀ n : Nat, RpS K B H (List.replicate n none) (List.replicate n none) []
  | 0 => .nil
  | n + 1 => RpS.cons (F := []) (G := []) rfl (RpS.nones n)
theorem RpS.append : ∀ {σ σ' : Sg} {Δ Δ' : Dt} {F G : List Addr}, RpS K B H σ Δ F → RpS K B H σ' Δ' G → RpS K B H (σ ++ σ') (Δ ++ Δ') (F ++ G)
  | _, _, _, _, _, _, .nil, h => h
  | _, _, _, _, _, _, .cons h1 h2, h => by rw [List.append_assoc]; exact .cons h1 (h2.append h)
theorem RpL.split : ∀ {vs : List V} {ts : List T} {F : List Addr} (n : Nat), RpL K B H vs ts F → ∃ F1 F2, F = F1 ++ F2 ∧ RpL K B H (vs.take n) (ts.take n) F1 ∧ RpL K B H (vs.drop n) (ts.drop n) F2
  | _, _, _, 0, h => ⟨[], _, rfl, by simpa using RpL.nil, by simpa using h⟩
  | _, _, _, n + 1, .nil => ⟨[], [], rfl, .nil, .nil⟩
  | _, _, _, n + 1, .cons (F := F) h1 h2 => by
    obtain ⟨F1, F2, e, a, b⟩ := RpL.split n h2
    refine ⟨F ++ F1, F2, by rw [e, List.append_assoc], .cons h1 a, b⟩
theorem lookUp_pre : ∀ {n j : Nat} {k : List T → Prop}, lookUp Δ j n k → ∃ us, us.length = n ∧ (∀ (i : Nat) t, us[i]? = some t → Δ[j + i]? = some (some t)) ∧ k us
  | 0, j, k, h => ⟨[], rfl, fun i t e => by simp at e, h⟩
  | n + 1, j, k, h => by
    obtain ⟨t, e, q⟩ := look_iff h
    obtain ⟨us, hl, hu, q2⟩ := lookUp_pre q
    refine ⟨t :: us, by simp [hl], fun i t' e' => ?_, q2⟩
    cases i with
    | zero => simp at e'; subst e'; exact e
    | succ i => have := hu i t' (by simpa using e'); rw [show j + (i + 1) = j + 1 + i by omega]; exact this
/-- the first slots, still as they were handed in -/
theorem RpS.pre : ∀ {vs : List V} {ts : List T} {σ : Sg} {Δ : Dt} {F : List Addr}, RpS K B H σ Δ F → vs.length = ts.length → (∀ (i : Nat) v, vs[i]? = some v → σ[i]? = some (some v)) → (∀ (i : Nat) t, ts[i]? = some t → Δ[i]? = some (some t)) →
    ∃ F1 F2, F = F1 ++ F2 ∧ RpL K B H vs ts F1
  | [], [], _, _, F, _, _, _, _ => ⟨[], F, rfl, .nil⟩
  | v :: vs, t :: ts, _, _, _, .nil, _, _, h => by have := h 0 t rfl; simp at this
  | v :: vs, t :: ts, _, _, _, .cons (F := F) (G := G) h1 h2, hl, hv, ht => by
    have e1 := hv 0 v rfl
    have e2 := ht 0 t rfl
    simp at e1 e2
    subst e1; subst e2
    obtain ⟨F1, F2, e, r⟩ := RpS.pre h2 (by simpa using hl) (fun i w e => by simpa using hv (i + 1) w (by simpa using e)) fun i w e => by simpa using ht (i + 1) w (by simpa using e)
    exact ⟨F ++ F1, F2, by rw [e, List.append_assoc], .cons h1 r⟩
theorem start_take {N : List Str} {vs : List V} (np : Nat) : start N vs = (vs.take np).map some ++ (vs.drop np).map some ++ List.replicate (N.length - vs.length) none := by
  unfold L2.start
  rw [← List.map_append, List.take_append_drop]
/-- the entry of a def -/
theorem entry {N : List Str} {vs : List V} {ts : List T} (np : Nat) (h : Rep K B H R (vs.map some) (ts.map some)) : ∃ B1, Le B B1 ∧ Rep K B1 H R (start N vs) (startD N np ts) ∧ RpL K B1 H (vs.drop np) ((ts.drop np).map frz) [] := by
  obtain ⟨F, h1, h2⟩ := h.fp
  have hL := RpS.to_L h1
  obtain ⟨F1, F2, e, ra, rb⟩ := hL.split np
  subst e
  have hr : Rep K B H (F2 ++ (F1 ++ R)) [] [] := ⟨h.sub, [], .nil, h2.of_le fun a => by simp only [List.count_append, List.count_nil]; omega⟩
  -- the rest is frozen, all at once
  have hle : Le B (fun a => if a ∈ F2 then H a else B a) := Le.of_same fun a o e => by
    have hn : a ∉ F2 := fun z => by
      have := ((h2 a).2 (List.mem_append_left _ (List.mem_append_right _ z))).1
      rw [e] at this; cases this
    show (if a ∈ F2 then H a else B a) = some o
    rw [if_neg hn]; exact e
  refine ⟨fun a => if a ∈ F2 then H a else B a, hle, ⟨fun a o e => ?_, F1, ?_, fun a => ?_⟩, by rw [← frzL_map]; exact rb.fr hle fun a z => if_pos z⟩
  · have e' : (if a ∈ F2 then H a else B a) = some o := e
    by_cases z : a ∈ F2
    · rw [if_pos z] at e'; exact e'
    · rw [if_neg z] at e'; exact h.sub a o e'
  · rw [start_take np, show F1 = F1 ++ [] ++ [] by simp]
    unfold startD
    have hlen : vs.length = ts.length := hL.length
    rw [hlen]
    refine RpS.append (RpS.append (RpS.of_L (ra.mono hle fun _ _ => rfl)) ?_) (RpS.nones _)
    have := RpS.of_L (rb.fr (H' := H) hle fun a z => if_pos z)
    rw [frzL_map, List.map_map] at this
    exact this
  · have hc := (h2 a).1
    simp only [List.count_append] at hc
    refine ⟨by simp only [List.count_append]; omega, fun z => ?_⟩
    have hn : a ∉ F2 := fun y => by
      have h3 := List.count_pos_iff.mpr y
      have h4 := List.count_pos_iff.mpr z
      simp only [List.count_append] at h4
      omega
    have z' : a ∈ (F1 ++ F2) ++ R := by
      rcases List.mem_append.mp z with z | z
      · exact List.mem_append_left _ (List.mem_append_left _ z)
      · exact List.mem_append_right _ z
    exact ⟨by show (if a ∈ F2 then H a else B a) = none; rw [if_neg hn]; exact ((h2 a).2 z').1, ((h2 a).2 z').2⟩
/-- the way out of a def -/
theorem leave {N : List Str} {vs : List V} {np : Nat} {B1 : Hp} {G : List Addr} {σ' : Sg} {Δ' : Dt} {us rs : List T} (hle : np ≤ vs.length) (hr : Rep K B' H' (G ++ R) σ' Δ') (hB : Le B1 B') (hσ : ∀ j, j < np → σ'[j]? = (start N vs)[j]?)
    (hu : us.length = np) (hΔ : ∀ (i : Nat) t, us[i]? = some t → Δ'[0 + i]? = some (some t)) (rest : RpL K B1 H (vs.drop np) (rs.map frz) []) :
    Rep K B' H' (G ++ R) (vs.map some) ((us ++ rs.map frz).map some) := by
  obtain ⟨F, h1, h2⟩ := hr.fp
  have hlt : (vs.take np).length = np := by rw [List.length_take]; omega
  have hv : ∀ (i : Nat) v, (vs.take np)[i]? = some v → σ'[i]? = some (some v) := fun i v e => by
    have hi : i < np := by rw [← hlt]; exact (List.getElem?_eq_some_iff.mp e).1
    have e2 : vs[i]? = some v := by rw [List.getElem?_take_of_lt hi] at e; exact e
    rw [hσ i hi, L2.start, List.getElem?_append_left (by simp; omega), List.getElem?_map, e2]; rfl
  obtain ⟨F1, F2, e, r⟩ := RpS.pre (vs := vs.take np) (ts := us) h1 (hlt.trans hu.symm) hv (fun i t e => by have := hΔ i t e; rw [Nat.zero_add] at this; exact this)
  subst e
  refine ⟨hr.sub, F1 ++ [], ?_, h2.of_le fun a => by simp only [List.count_append, List.count_nil]; omega⟩
  have q : RpL K B' H' (vs.take np ++ vs.drop np) (us ++ rs.map frz) (F1 ++ []) := RpL.append r (rest.mono hB fun _ z => nomatch z)
  rw [List.take_append_drop] at q
  exact RpS.of_L q
end
def hasPl (i : Nat) : List PV → Bool
  | [] => false
  | .val _ :: r => hasPl i r
  | .pl j :: r => j == i || hasPl i r
def closedAt (Δ : Dt) (i : Nat) : Bool := match Δ[i]? with
  | some (some t) => closed t
  | _ => true
def dupOk (Δ : Dt) : List PV → Bool
  | [] => true
  | .val _ :: r => dupOk Δ r
  | .pl i :: r => (!hasPl i r || closedAt Δ i) && dupOk Δ r
def backs : Dt → List PV → List T → Dt
  | Δ, .val _ :: ps, _ :: ts => backs Δ ps ts
  | Δ, .pl i :: ps, t :: ts => backs (Δ.set i (some t)) ps ts
  | Δ, _, _ => Δ
def wCall (S : FS) (wa : WA) : WE := fun Δ Q => wa Δ fun ps Δ1 => onVs Δ1 ps fun ts => dupOk Δ1 ps = true ∧ S ts fun r ts' => match r with
  | .ret t => Q (.val t) (backs Δ1 ps ts')
  | .exc _ _ => False
section
variable {K : Frag} {B B' H H' : Hp} {R : List Addr} {σ : Sg}
theorem onVs_set {i : Nat} {d : Option T} : ∀ {ps : List PV} {Δ : Dt} {k : List T → Prop}, hasPl i ps = false → onVs Δ ps k → onVs (Δ.set i d) ps k
  | [], _, _, _, h => h
  | .val t :: ps, Δ, k, hh, h => onVs_set (ps := ps) (by simpa [hasPl] using hh) h
  | .pl j :: ps, Δ, k, hh, h => by
    simp only [hasPl, Bool.or_eq_false_iff, beq_eq_false_iff_ne] at hh
    obtain ⟨t, e, q⟩ := look_iff h
    show look (Δ.set i d) j _
    unfold look
    rw [List.getElem?_set_ne (Ne.symm hh.1), e]
    exact onVs_set hh.2 q
theorem closedAt_set {i j : Nat} {d : Option T} {Δ : Dt} (h : j ≠ i) : closedAt (Δ.set i d) j = closedAt Δ j := by
  unfold closedAt; rw [List.getElem?_set_ne (Ne.symm h)]
theorem dupOk_set {i : Nat} {d : Option T} : ∀ {ps : List PV} {Δ : Dt}, hasPl i ps = false → dupOk (Δ.set i d) ps = dupOk Δ ps
  | [], _, _ => rfl
  | .val t :: ps, Δ, hh => dupOk_set (ps := ps) (by simpa [hasPl] using hh)
  | .pl j :: ps, Δ, hh => by
    simp only [hasPl, Bool.or_eq_false_iff, beq_eq_false_iff_ne] at hh
    simp only [dupOk]
    rw [dupOk_set hh.2, closedAt_set hh.1]
theorem backs_set_no {i : Nat} {d : Option T} : ∀ {ps : List PV} {ts : List T} {Δ : Dt}, hasPl i ps = false → backs (Δ.set i d) ps ts = (backs Δ ps ts).set i d
  | [], ts, _, _ => by cases ts <;> rfl
  | .val t :: ps, [], _, _ => rfl
  | .val t :: ps, u :: ts, Δ, hh => by simp only [backs]; exact backs_set_no (by simpa [hasPl] using hh)
  | .pl j :: ps, [], _, _ => rfl
  | .pl j :: ps, u :: ts, Δ, hh => by
    simp only [hasPl, Bool.or_eq_false_iff, beq_eq_false_iff_ne] at hh
    simp only [backs]
    rw [List.set_comm _ _ (Ne.symm hh.1), backs_set_no hh.2]
theorem backs_set_yes {i : Nat} {d : Option T} : ∀ {ps : List PV} {ts : List T} {Δ : Dt}, hasPl i ps = true → ps.length = ts.length → backs (Δ.set i d) ps ts = backs Δ ps ts
  | [], ts, _, h, _ => by cases h
  | .val t :: ps, [], _, _, h => by simp at h
  | .val t :: ps, u :: ts, Δ, hh, hl => by simp only [backs]; exact backs_set_yes (by simpa [hasPl] using hh) (by simpa using hl)
  | .pl j :: ps, [], _, _, h => by simp at h
  | .pl j :: ps, u :: ts, Δ, hh, hl => by
    simp only [backs]
    by_cases hj : j = i
    · subst hj; rw [List.set_set]
    · simp only [hasPl, Bool.or_eq_true, beq_iff_eq, hj, false_or] at hh
      rw [List.set_comm _ _ (fun z => hj z.symm), backs_set_yes hh (by simpa using hl)]
theorem args_out : ∀ {ps : List PV} {vs : List V} {G R : List Addr} {Δ : Dt} {k : List T → Prop}, PvL K B H σ ps vs G → Rep K B H (G ++ R) σ Δ → onVs Δ ps k → dupOk Δ ps = true →
    ∃ ts G0 Δ0, RpL K B H vs ts G0 ∧ Rep K B H (G0 ++ R) σ Δ0 ∧ k ts ∧ ∀ (B' H' : Hp) (ts' : List T) (G' R' : List Addr), RpL K B' H' vs ts' G' → Rep K B' H' (G' ++ R') σ Δ0 → Rep K B' H' R' σ (backs Δ ps ts')
  | _, _, _, R, Δ, k, .nil, hr, ho, _ => ⟨[], [], Δ, .nil, hr, ho, fun B' H' ts' G' R' r h => by cases r; exact h⟩
  | _, _, _, R, Δ, k, .cons (p := .val t) (v := v) (F := F) (G := G) h1 h2, hr, ho, hd => by
    have hr' : Rep K B H (G ++ (F ++ R)) σ Δ := hr.weak fun a => by simp only [List.count_append]; omega
    obtain ⟨ts, G0, Δ0, rL, hr0, q, back⟩ := args_out (R := F ++ R) h2 hr' ho hd
    refine ⟨t :: ts, F ++ G0, Δ0, .cons h1 rL, hr0.weak fun a => by simp only [List.count_append]; omega, q, fun B' H' ts' G' R' r h => ?_⟩
    cases r with
    | @cons _ _ t' ts' F' G' r1 r2 =>
      exact back B' H' ts' G' R' r2 (h.weak fun a => by simp only [List.count_append]; omega)
  | _, _, _, R, Δ, k, .cons (p := .pl i) (ps := ps) (v := v) (F := F) (G := G) h1 h2, hr, ho, hd => by
    obtain ⟨rfl, ev⟩ := h1
    obtain ⟨t, et, q⟩ := look_iff ho
    simp only [dupOk, Bool.and_eq_true] at hd
    cases hh : hasPl i ps with
    | false =>
      obtain ⟨v', Gi, e', r, hr1⟩ := Rep.out hr et
      rw [ev] at e'; cases e'
      have hr2 : Rep K B H (G ++ (Gi ++ R)) σ (Δ.set i none) := hr1.weak fun a => by simp only [List.count_append, List.count_nil]; omega
      obtain ⟨ts, G0, Δ0, rL, hr0, q, back⟩ := args_out (R := Gi ++ R) h2 hr2 (onVs_set hh q) (by rw [dupOk_set hh]; exact hd.2)
      refine ⟨t :: ts, Gi ++ G0, Δ0, .cons r rL, hr0.weak fun a => by simp only [List.count_append]; omega, q, fun B' H' ts' G' R' r h => ?_⟩
      cases r with
      | @cons _ _ t' ts' F' G' r1 r2 =>
        have h3 := back B' H' ts' G' (F' ++ R') r2 (h.weak fun a => by simp only [List.count_append]; omega)
        rw [backs_set_no hh] at h3
        have h4 := Rep.set (i := i) (x := some v) (d := some t') h3 r1
        rw [set_same ev, List.set_set] at h4
        show Rep K B' H' R' σ (backs (Δ.set i (some t')) ps ts')
        rw [backs_set_no hh]; exact h4
    | true =>
      have hc : closed t = true := by
        have := hd.1
        rw [hh] at this
        simpa [closedAt, et] using this
      obtain ⟨v', Gi, e', r⟩ := Rep.get hr et
      rw [ev] at e'; cases e'
      obtain ⟨ts, G0, Δ0, rL, hr0, q, back⟩ := args_out (R := R) h2 (by simpa using hr) q hd.2
      refine ⟨t :: ts, [] ++ G0, Δ0, .cons (r.c0 hc) rL, by simpa using hr0, q, fun B' H' ts' G' R' r h => ?_⟩
      cases r with
      | @cons _ _ t' ts' F' G' r1 r2 =>
        have h3 := back B' H' ts' G' R' r2 (h.weak fun a => by simp only [List.count_append]; omega)
        have hl : ps.length = ts'.length := by
          have e1 := r2.length
          have e2 : ∀ {ps : List PV} {vs : List V} {G : List Addr}, PvL K B H σ ps vs G → ps.length = vs.length := fun {ps vs G} h => by
            induction h with
            | nil => rfl
            | cons _ _ ih => simp [ih]
          rw [e2 h2, e1]
        show Rep K B' H' R' σ (backs (Δ.set i (some t')) ps ts')
        rw [backs_set_yes hh hl]; exact h3
theorem rf_call {ta : TA} {wa : WA} {S : FS} {E : XK} (ha : RfA K ta wa) : RfE K (tCall (spT K S) [] E ta) (wCall S wa) := fun Δ Q σ H B R hr hw Qv k => by
  refine ha Δ _ σ H B R hr hw _ fun ps Δ1 vs H1 B1 q hl hk ⟨G, pr, hr1⟩ => ?_
  have hd : dupOk Δ1 ps = true := by
    obtain ⟨ts, F, _, q2⟩ := pr.trees hr1 q
    exact q2.1
  obtain ⟨ts, G0, Δ0, rL, hr0, q2, back⟩ := args_out pr hr1 q hd
  obtain ⟨F0, hS0, hdj⟩ := hr0.fp
  show spT K S (vs ++ []) H1 Qv E
  rw [List.append_nil]
  refine ⟨ts, B1, F0 ++ R, _, ⟨hr0.sub, G0, RpS.of_L rL, hdj.of_le fun a => by simp only [List.count_append]; omega⟩, q2.2, fun t ts' v H' B' G2 qf hle hkp r hrep => ?_, fun C fs ts' od H' B' qf => qf.elim⟩
  obtain ⟨G', hS', hdj'⟩ := hrep.fp
  have rL' := RpS.to_L hS'
  have hrB : Rep K B' H' (G' ++ (G2 ++ R)) σ Δ0 := ⟨hrep.sub, F0, hS0.mono hle hkp.left, hdj'.of_le fun a => by simp only [List.count_append]; omega⟩
  exact k (.val t) _ v H' B' qf (hl.trans hle) (hk.trans hkp.right) ⟨G2, r, back B' H' ts' G' (G2 ++ R) rL' hrB⟩
theorem ce_call {X : Cx} {CX : CXT} {k : Nat} {f : Addr} {fd : FuncData} {ps : List Str} {S : FS} {E : XK} {x : Str} {p pos : Pos} {e : Expr} {es : List Expr} {wa : WA} (F : FnG X.prog X.w X.K X.mg X.base CX k f fd ps (spT X.K S)) (hr : Room k X.A) (hgd : X.A.guards = some []) (hg : Gl X x)
    (hm : X.mg x = some (.ref f)) (hk : PySem.W.keepIn X.K (.ref f) = true) (hb : Binds X.K fd ps []) (hx : Passes CX X E) (ha : CA X (e :: es) wa) (hdb : (x == ("__debug__" : Str)) = false := by decide)
    (he : starEach (e :: es) X.env = (false, eval e X.env) :: starEach es X.env := by rfl) (hpl : (backTo pos (starEach es X.env)).any (·.1) = false := by rfl) : CE X (.Call (.Name x p) (e :: es) [] pos) (wCall S wa) := by
  obtain ⟨ta, pa, ra⟩ := ha
  exact ⟨_, pe_callG F hr hgd hg hm hk hb Paired.nil hx pa hdb he hpl, rf_call ra⟩
end
end TL
set_option maxRecDepth 100000
set_option maxHeartbeats 1000000
namespace TL
open PySem PySem.Spec PyProof.Rows L2
def TEof (K : Frag) (w : WE) : TE := fun σ H Qv => ∃ (Δ : Dt) (Q : PV → Dt → Prop) (B : Hp) (R : List Addr), Rep K B H R σ Δ ∧ w Δ Q ∧ ∀ p Δ' v H' B', Q p Δ' → Le B B' → Keep R H H' → Out K B' H' R σ Δ' p v → Qv v H'
def TTof (K : Frag) (w : WT) : TT := fun σ H Qv => ∃ (Δ : Dt) (Q : Bool → Dt → Prop) (B : Hp) (R : List Addr), Rep K B H R σ Δ ∧ w Δ Q ∧ ∀ b Δ' H' B', Q b Δ' → Le B B' → Keep R H H' → Rep K B' H' R σ Δ' → Qv b H'
def TGof (K : Frag) (S : Nat → Prop) (w : WG) : TG := fun v σ H Qv => ∃ (t : T) (Δ : Dt) (Q : Dt → Prop) (B : Hp) (R G : List Addr), Rep K B H (G ++ R) σ Δ ∧ Rp K B H v t G ∧ w t Δ Q ∧
  ∀ Δ' σ' H' B', Q Δ' → Le B B' → Keep R H H' → (∀ j : Nat, S j → σ'[j]? = σ[j]?) → Rep K B' H' R σ' Δ' → σ'.length = σ.length → Qv σ' H'
def TIof (K : Frag) (w : WI) : TI := fun σ H Rr => ∃ (Δ : Dt) (Q : List T → Dt → Prop) (B : Hp) (R : List Addr), Rep K B H R σ Δ ∧ w Δ Q ∧ ∀ J ts Δ' H' B', Q ts Δ' → Le B B' → Keep R H H' → Rep K B' H' R σ Δ' → ItR K B' J ts → Rr J H'
section
variable {X : Cx} {e tg : Expr}
theorem CE.pe {w : WE} (h : CE X e w) : PE X e (TEof X.K w) := by
  obtain ⟨te, p, r⟩ := h
  exact ⟨fun pins s σ H Q I ⟨Δ, Qd, B, R, hr, hw, k⟩ => p.run pins s σ H Q I (r Δ Qd σ H B R hr hw Q k)⟩
theorem CT.pt {w : WT} (h : CT X e w) : PT X e (TTof X.K w) := by
  obtain ⟨te, p, r⟩ := h
  exact ⟨fun pins s σ H Q I ⟨Δ, Qd, B, R, hr, hw, k⟩ => p.run pins s σ H Q I (r Δ Qd σ H B R hr hw Q k)⟩
theorem CG.pg {S : Nat → Prop} {w : WG} (h : CG X S e w) : PG X e (TGof X.K S w) := by
  obtain ⟨te, p, r⟩ := h
  exact ⟨fun pins s σ H v u Q I rv ⟨t, Δ, Qd, B, R, G, hr, rp, hw, k⟩ => p.run pins s σ H v u Q I rv (r t Δ Qd σ H B R G v hr rp hw Q k)⟩
theorem CI.pi {w : WI} (h : CI X tg e w) : PI X tg e (TIof X.K w) := by
  obtain ⟨te, p, r⟩ := h
  exact ⟨fun pins s σ H Rr I ⟨Δ, Qd, B, R, hr, hw, k⟩ => p.run pins s σ H Rr I (r Δ Qd σ H B R hr hw Rr k)⟩
theorem rf_TE {K : Frag} {w : WE} : RfE K (TEof K w) w := fun Δ Q σ H B R hr hw Qv k => ⟨Δ, Q, B, R, hr, hw, k⟩
theorem rf_TT {K : Frag} {w : WT} : RfT K (TTof K w) w := fun Δ Q σ H B R hr hw Qv k => ⟨Δ, Q, B, R, hr, hw, k⟩
theorem rf_TG {K : Frag} {S : Nat → Prop} {w : WG} : RfG K S (TGof K S w) w := fun t Δ Q σ H B R G v hr r hw Qv k => ⟨t, Δ, Q, B, R, G, hr, r, hw, k⟩
theorem rf_TI {K : Frag} {w : WI} : RfI K (TIof K w) w := fun Δ Q σ H B R hr hw Qv k => ⟨Δ, Q, B, R, hr, hw, k⟩
end
def strT (x : Str) : List T := x.cps.toList.map fun c => .str ⟨#[c]⟩
def rngT (lo : Int) (n : Nat) : List T := (List.range n).map fun k : Nat => .int (lo + (k : Int))
def enumT : Nat → List T → List T
  | _, [] => []
  | n, x :: r => .tup [.int (n : Int), x] :: enumT (n + 1) r
def wiList (w : WE) : WI := fun Δ Q => w Δ fun p Δ1 => wTake p Δ1 fun t Δ2 => match t with
  | .lst _ xs => Q (frzL xs) Δ2
  | _ => False
def wiTup (w : WE) : WI := fun Δ Q => w Δ fun p Δ1 => wTake p Δ1 fun t Δ2 => match t with
  | .tup xs => Q (frzL xs) Δ2
  | _ => False
def wiStr (w : WE) : WI := fun Δ Q => w Δ fun p Δ1 => onV Δ1 p fun t => match t with
  | .str x => Q (strT x) Δ1
  | _ => False
def wiRng1 (wa : WA) : WI := fun Δ Q => wa Δ fun ps Δ1 => onVs Δ1 ps fun ts => match ts with
  | [.int j] => -(2 ^ 62) ≤ j ∧ j < 2 ^ 62 ∧ Q (rngT 0 j.toNat) Δ1
  | _ => False
def wiEnum (wa : WA) : WI := fun Δ Q => wa Δ fun ps Δ1 => match ps with
  | [p] => wTake p Δ1 fun t Δ2 => match t with
    | .lst _ xs => Q (enumT 0 (frzL xs)) Δ2
    | _ => False
  | _ => False
theorem enumT_get : ∀ {xs : List T} {n i : Nat}, (enumT n xs)[i]? = xs[i]?.map fun x => .tup [.int ((n + i : Nat) : Int), x]
  | [], n, i => by simp [enumT]
  | x :: r, n, 0 => by simp [enumT]
  | x :: r, n, i + 1 => by
    simp only [enumT, List.getElem?_cons_succ]
    rw [enumT_get (xs := r) (n := n + 1) (i := i), show n + 1 + i = n + (i + 1) by omega]
theorem enumT_len : ∀ {xs : List T} {n : Nat}, (enumT n xs).length = xs.length
  | [], _ => rfl
  | x :: r, n => by simp [enumT, enumT_len (xs := r)]
section
variable {K : Frag} {B H : Hp} {te : TE} {we : WE} {ta : TA} {wa : WA}
theorem itR_list {a : Addr} {ts : List T} {F : List Addr} (r : Rp K B H (.ref a) (.lst false ts) F) : ItR K B (Itl K a) ts := by
  cases r with
  | lstF h1 h2 =>
    intro i B2 H2 hl hs
    have q : SqL K H2 _ _ := (hs.le.rdL (hl.rdL h1)).sq
    refine ⟨fun t e => ?_, fun hi => ⟨_, q, by rw [h2.length]; exact hi⟩⟩
    obtain ⟨v, e1, r1⟩ := h2.get_t e
    refine ⟨⟨_, v, q, e1⟩, fun x H3 ⟨eH, hx⟩ => ?_⟩
    have e2 := hx _ q
    rw [e1] at e2; cases e2
    subst eH
    exact ⟨Same.refl _, B2, Le.refl _, hs, r1.mono hl (fun _ z => nomatch z), fun _ _ => rfl⟩
theorem itR_tup {a : Addr} {ts : List T} (r : Rp K B H (.ref a) (.tup ts) []) : ItR K B (Itt K a) ts := by
  cases r with
  | tup h1 h2 =>
    intro i B2 H2 hl hs
    have q := hs.le.sqT (hl.sqT h1)
    refine ⟨fun t e => ?_, fun hi => ⟨_, q, by rw [h2.length]; exact hi⟩⟩
    obtain ⟨v, e1, r1⟩ := h2.get_t e
    refine ⟨⟨_, v, q, e1⟩, fun x H3 ⟨eH, hx⟩ => ?_⟩
    have e2 := hx _ q
    rw [e1] at e2; cases e2
    subst eH
    exact ⟨Same.refl _, B2, Le.refl _, hs, r1.mono hl (fun _ z => nomatch z), fun _ _ => rfl⟩
theorem itR_str {x : Str} : ItR K B (Its x) (strT x) := by
  intro i B2 H2 hl hs
  refine ⟨fun t e => ?_, fun hi => by show x.cps.size ≤ i; simpa [strT] using hi⟩
  unfold strT at e
  rw [List.getElem?_map] at e
  cases q : x.cps.toList[i]? with
  | none => rw [q] at e; cases e
  | some c =>
    rw [q] at e; cases e
    have hi : i < x.cps.size := by simpa using (List.getElem?_eq_some_iff.mp q).1
    refine ⟨hi, fun y H3 ⟨eH, c', e1, e2⟩ => ?_⟩
    subst eH
    have : c' = c := by rw [Array.getElem?_toList] at q; rw [q] at e1; cases e1; rfl
    subst this; subst e2
    exact ⟨Same.refl _, B2, Le.refl _, hs, .str _, fun _ _ => rfl⟩
theorem itR_rng {lo : Int} {n : Nat} : ItR K B (Itr lo n) (rngT lo n) := by
  intro i B2 H2 hl hs
  refine ⟨fun t e => ?_, fun hi => by show n ≤ i; simpa [rngT] using hi⟩
  unfold rngT at e
  rw [List.getElem?_map] at e
  cases q : (List.range n)[i]? with
  | none => rw [q] at e; cases e
  | some c =>
    rw [q] at e; cases e
    obtain ⟨hi, e1⟩ := List.getElem?_eq_some_iff.mp q
    simp at hi e1
    subst e1
    refine ⟨hi, fun y H3 ⟨eH, e2⟩ => ?_⟩
    subst eH; subst e2
    exact ⟨Same.refl _, B2, Le.refl _, hs, .int _, fun _ _ => rfl⟩
theorem itR_enum {a : Addr} {ts : List T} {F : List Addr} (r : Rp K B H (.ref a) (.lst false ts) F) : ItR K B (Ite K a) (enumT 0 ts) := by
  cases r with
  | lstF h1 h2 =>
    intro i B2 H2 hl hs
    have q : SqL K H2 _ _ := (hs.le.rdL (hl.rdL h1)).sq
    refine ⟨fun t e => ?_, fun hi => ⟨_, q, by rw [h2.length]; rw [enumT_len] at hi; exact hi⟩⟩
    rw [enumT_get] at e
    cases e0 : ts[i]? with
    | none => rw [e0] at e; cases e
    | some t0 =>
      rw [e0] at e
      obtain ⟨v, e1, r1⟩ := h2.get_t e0
      refine ⟨⟨_, v, q, e1⟩, fun x H3 ⟨Tp, y, ex, hn, eH, hx⟩ => ?_⟩
      have e2 := hx _ q
      rw [e1] at e2; cases e2
      subst eH; subst ex
      have et : t = .tup [.int ((0 + i : Nat) : Int), t0] := (Option.some.inj e).symm
      subst et
      have hnB := hs.none hn
      refine ⟨(Ext.new hn).1, upd B2 Tp (.tup [.int (i : Nat), v]), Le.of_same (Ext.new hnB).1, fun b o z => ?_, .tup (F := [] ++ ([] ++ [])) (.inl (.inl upd_same)) (.cons ?_ (.cons ?_ .nil)), fun b hb => ?_⟩
      · by_cases hbT : b = Tp
        · subst hbT; rw [upd_same] at z ⊢; exact z
        · rw [upd_ne hbT] at z ⊢; exact hs b o z
      · rw [Nat.zero_add]; exact .int _
      · exact r1.mono (hl.trans (Le.of_same (Ext.new hnB).1)) fun _ z => nomatch z
      · exact upd_ne (fun z => hb (by rw [z]; exact hn))
theorem rf_iList (h : RfE K te we) : RfI K (iList K te) (wiList we) := fun Δ Q σ H B R hr hw Rr k => by
  refine h Δ _ σ H B R hr hw _ fun p Δ1 v H1 B1 q hl hk o => ?_
  obtain ⟨t, Δ2, B2, q2, hle, r, hr2⟩ := take_fr o q
  cases t with
  | lst c xs =>
    simp only [frz] at r
    obtain ⟨a, vs, F', e, hs, hL⟩ := r.lst_inv hr2.sub
    subst e
    exact ⟨a, rfl, ⟨vs, hs⟩, k _ _ Δ2 H1 B2 q2 (hl.trans hle) hk hr2 (itR_list r)⟩
  | _ => exact q2.elim
theorem rf_iTup (h : RfE K te we) : RfI K (iTup K te) (wiTup we) := fun Δ Q σ H B R hr hw Rr k => by
  refine h Δ _ σ H B R hr hw _ fun p Δ1 v H1 B1 q hl hk o => ?_
  obtain ⟨t, Δ2, B2, q2, hle, r, hr2⟩ := take_fr o q
  cases t with
  | tup xs =>
    simp only [frz] at r
    obtain ⟨a, vs, e, hs, hL⟩ := r.tup_inv hr2.sub
    subst e
    exact ⟨a, rfl, ⟨vs, hs⟩, k _ _ Δ2 H1 B2 q2 (hl.trans hle) hk hr2 (itR_tup r)⟩
  | _ => exact q2.elim
theorem rf_iStr (h : RfE K te we) : RfI K (iStr te) (wiStr we) := fun Δ Q σ H B R hr hw Rr k => by
  refine h Δ _ σ H B R hr hw _ fun p Δ1 v H1 B1 q hl hk ⟨G, pr, hr1⟩ => ?_
  obtain ⟨t, F, r, q2⟩ := pr.tree hr1 q
  cases t with
  | str x => exact ⟨x, r.str_inv.1, k _ _ Δ1 H1 B1 q2 hl hk hr1.drop itR_str⟩
  | _ => exact q2.elim
theorem rf_iRng1 (h : RfA K ta wa) : RfI K (iRng1 ta) (wiRng1 wa) := fun Δ Q σ H B R hr hw Rr k => by
  refine h Δ _ σ H B R hr hw _ fun ps Δ1 vs H1 B1 q hl hk ⟨G, pr, hr1⟩ => ?_
  obtain ⟨ts, F, r, q2⟩ := pr.trees hr1 q
  match ts, r, q2 with
  | [.int j], .cons r1 .nil, q2 => exact ⟨j, by rw [r1.int_inv.1], q2.1, q2.2.1, k _ _ Δ1 H1 B1 q2.2.2 hl hk hr1.drop itR_rng⟩
theorem OutL.one {R : List Addr} {σ : Sg} {Δ : Dt} {p : PV} {vs : List V} (h : OutL K B H R σ Δ [p] vs) : ∃ v, vs = [v] ∧ Out K B H R σ Δ p v := by
  obtain ⟨G, pr, hr⟩ := h
  cases pr with
  | cons h1 h2 =>
    cases h2 with
    | nil => rw [List.append_nil] at hr; exact ⟨_, rfl, _, h1, hr⟩
theorem rf_iEnum (h : RfA K ta wa) : RfI K (iEnum K ta) (wiEnum wa) := fun Δ Q σ H B R hr hw Rr k => by
  refine h Δ _ σ H B R hr hw _ fun ps Δ1 vs H1 B1 q hl hk o => ?_
  match ps, o, q with
  | [p], o, q =>
    obtain ⟨v, rfl, o1⟩ := o.one
    obtain ⟨t, Δ2, B2, q2, hle, r, hr2⟩ := take_fr o1 q
    cases t with
    | lst c xs =>
      simp only [frz] at r
      obtain ⟨a, vs, F', e, hs, hL⟩ := r.lst_inv hr2.sub
      subst e
      exact ⟨a, vs, rfl, hs, k _ _ Δ2 H1 B2 q2 (hl.trans hle) hk hr2 (itR_enum r)⟩
    | _ => exact q2.elim
end
section
variable {X : Cx} {tg e a b : Expr} {we : WE} {wa : WA} {p pos : Pos}
theorem ci_list (h : CE X e we) : CI X tg e (wiList we) := by
  obtain ⟨te, p, r⟩ := h
  exact ⟨_, pi_list p, rf_iList r⟩
theorem ci_tup (h : CE X e we) : CI X tg e (wiTup we) := by
  obtain ⟨te, p, r⟩ := h
  exact ⟨_, pi_tup p, rf_iTup r⟩
theorem ci_str (h : CE X e we) : CI X tg e (wiStr we) := by
  obtain ⟨te, p, r⟩ := h
  exact ⟨_, pi_str p, rf_iStr r⟩
theorem ci_rng1 (hg : Gl X "range") (hm : X.mg "range" = none) (h : CA X [a] wa) (hs : starEach [a] X.env = [(false, eval a X.env)] := by rfl) : CI X tg (.Call (.Name "range" p) [a] [] pos) (wiRng1 wa) := by
  obtain ⟨te, p, r⟩ := h
  exact ⟨_, pi_range1 hg hm p hs, rf_iRng1 r⟩
theorem ci_enum {elts : List Expr} {kk : Nat} {tpos : Pos} (hg : Gl X "enumerate") (hm : X.mg "enumerate" = none) (h : CA X [e] wa) (hs : starEach [e] X.env = [(false, eval e X.env)] := by rfl) :
    CI X (.Tuple elts kk tpos) (.Call (.Name "enumerate" p) [e] [] pos) (wiEnum wa) := by
  obtain ⟨te, p, r⟩ := h
  exact ⟨_, pi_enum hg hm p hs, rf_iEnum r⟩
end
def wipeD (Δ : Dt) : List Nat → Dt
  | [] => Δ
  | v :: vs => (wipeD Δ vs).set v none
def wYes : WT := fun Δ Q => Q true Δ
structure CTs (X : Cx) (ifs : List Expr) (w : WT) : Prop where
  ex : ∃ tt, PTs X ifs tt ∧ RfT X.K tt w
theorem CTs.pts {X : Cx} {ifs : List Expr} {w : WT} (h : CTs X ifs w) : PTs X ifs (TTof X.K w) := by
  obtain ⟨te, p, r⟩ := h
  exact ⟨fun pins s σ H Q I ⟨Δ, Qd, B, R, hr, hw, k⟩ => p.run pins s σ H Q I (r Δ Qd σ H B R hr hw Q k)⟩
theorem cts_nil {X : Cx} : CTs X [] wYes := ⟨_, pts_nil, fun Δ Q σ H B R hr hw Qv k => k true Δ H B hw (Le.refl B) Keep.refl hr⟩
theorem cts_one {X : Cx} {c : Expr} {w : WT} (h : CT X c w) : CTs X [c] w := by
  obtain ⟨te, p, r⟩ := h
  exact ⟨_, pts_one p, r⟩
def wLc (wi : WI) (wg : WG) (wt : WT) (we : WE) (vs : List Nat) : WE := fun Δ Q => wi Δ fun ts Δ1 => ∃ Pv : Nat → List T → Dt → Prop, Pv 0 [] (wipeD Δ1 vs) ∧
  (∀ i t acc Δ2, ts[i]? = some t → Pv i acc Δ2 → wg t Δ2 fun Δ3 => wt Δ3 fun b Δ4 => if b = true then we Δ4 fun p Δ5 => wTake p Δ5 fun y Δ6 => acc.length < sizeLine ∧ Pv (i + 1) (acc ++ [frz y]) (wipeD Δ6 vs) else Pv (i + 1) acc (wipeD Δ4 vs)) ∧
  ∀ acc Δ2, Pv ts.length acc Δ2 → Q (.val (.lst true acc)) (wipeD Δ2 vs)
section
variable {K : Frag} {B B' H H' : Hp} {R : List Addr} {σ σ' : Sg} {Δ : Dt}
theorem Rep.wipe (h : Rep K B H R σ Δ) : ∀ vs : List Nat, Rep K B H R (L2.wipe σ vs) (wipeD Δ vs)
  | [] => h
  | v :: vs => Rep.set (G := []) (x := none) (d := none) (h.wipe vs) rfl
theorem wipeD_get {i : Nat} : ∀ {vs : List Nat} {Δ : Dt} {t : T}, (wipeD Δ vs)[i]? = some (some t) → i ∉ vs
  | [], Δ, t, _ => by simp
  | v :: vs, Δ, t, h => by
    simp only [wipeD] at h
    by_cases e : v = i
    · subst e
      rw [List.getElem?_set] at h
      simp at h
    · rw [List.getElem?_set_ne e] at h
      have := wipeD_get h
      simp only [List.mem_cons, not_or]
      exact ⟨fun z => e z.symm, this⟩
theorem RpS.swap : ∀ {σ σ' : Sg} {Δ : Dt} {F : List Addr}, RpS K B H σ Δ F → σ'.length = σ.length → (∀ (i : Nat) t, Δ[i]? = some (some t) → σ'[i]? = σ[i]?) → RpS K B H σ' Δ F
  | _, [], _, _, .nil, _, _ => .nil
  | _, _ :: _, _, _, .nil, h, _ => by simp at h
  | _, [], _, _, .cons h1 h2, h, _ => by simp at h
  | _, y :: σ', _, _, .cons (x := x) (d := d) h1 h2, h, k => by
    refine .cons ?_ (RpS.swap h2 (by simpa using h) fun i t e => by simpa using k (i + 1) t (by simpa using e))
    cases d with
    | none => cases y <;> cases x <;> exact h1
    | some t => have := k 0 t rfl; simp at this; subst this; exact h1
theorem Rep.unwipe {vs : List Nat} (h : Rep K B H R (L2.wipe σ vs) (wipeD Δ vs)) : Rep K B H R σ (wipeD Δ vs) := by
  obtain ⟨F, h1, h2⟩ := h.fp
  exact ⟨h.sub, F, h1.swap (by rw [L2.wipe_length]) fun i t e => (wipe_out (wipeD_get e)).symm, h2⟩
theorem wipe_ext : ∀ {vs : List Nat} {σ σ' : Sg}, σ'.length = σ.length → (∀ j : Nat, j ∉ vs → σ'[j]? = σ[j]?) → L2.wipe σ' vs = L2.wipe σ vs := by
  intro vs σ σ' hl h
  have step : ∀ (vs : List Nat) (σ : Sg) (j : Nat), (L2.wipe σ vs)[j]? = if j ∈ vs then (if j < σ.length then some none else none) else σ[j]? := by
    intro vs
    induction vs with
    | nil => intro σ j; simp [L2.wipe]
    | cons v vs ih =>
      intro σ j
      simp only [L2.wipe, List.getElem?_set, ih, L2.wipe_length, List.mem_cons]
      by_cases e : v = j
      · subst e; simp
      · have e' : ¬ j = v := fun z => e z.symm
        simp [e, e']
  apply List.ext_getElem?
  intro j
  rw [step, step, hl]
  by_cases hj : j ∈ vs
  · simp [hj]
  · simp [hj, h j hj]
theorem Rep.updR {a : Addr} {o : HO} (h : Rep K B H (a :: R) σ Δ) : Rep K B (upd H a o) (a :: R) σ Δ ∧ Keep R H (upd H a o) := by
  obtain ⟨F, h1, h2⟩ := h.fp
  have hc := (h2 a).1
  simp only [List.count_append, List.count_cons_self] at hc
  have nF : ∀ b ∈ F, b ≠ a := fun b hb z => by subst z; have := List.count_pos_iff.mpr hb; omega
  have nR : ∀ b ∈ R, b ≠ a := fun b hb z => by subst z; have := List.count_pos_iff.mpr hb; omega
  refine ⟨⟨fun b o' e => ?_, F, h1.mono (Le.refl B) fun b hb => upd_ne (nF b hb), fun b => ⟨(h2 b).1, fun z => ⟨((h2 b).2 z).1, ?_⟩⟩⟩, fun b hb => upd_ne (nR b hb)⟩
  · have hn : b ≠ a := fun z => by
      subst z
      have := ((h2 b).2 (List.mem_append_right _ List.mem_cons_self)).1
      rw [e] at this; cases this
    rw [upd_ne hn]; exact h.sub b o' e
  · by_cases hb : b = a
    · subst hb; rw [upd_same]; simp
    · rw [upd_ne hb]; exact ((h2 b).2 z).2
end
theorem rf_lc {K : Frag} {ti : TI} {wi : WI} {g : TG} {wg : WG} {tt : TT} {wt : WT} {te : TE} {we : WE} {vs : List Nat} (hi : RfI K ti wi) (hg : RfG K (Own vs) g wg) (ht : RfT K tt wt) (he : RfE K te we) : RfE K (tLc ti g tt te vs) (wLc wi wg wt we vs) := fun Δ Q σ H B R hr hw Qv k => by
  refine hi Δ _ σ H B R hr hw _ fun J ts Δ1 H1 B1 q hl hk hr1 hJ => ?_
  obtain ⟨Pv, h0, hs, hd⟩ := q
  intro D hD
  have hx := Ext.new (o := .lst []) hD
  have hr2 : Rep K B1 (upd H1 D (.lst [])) ([D] ++ R) (L2.wipe σ vs) (wipeD Δ1 vs) := (hr1.ext hx).wipe vs
  have hk2 : Keep R H1 (upd H1 D (.lst [])) := hr1.keepExt hx.1
  refine ⟨fun i m H' => m = ts.length - i ∧ i ≤ ts.length ∧ ∃ acc va Δ' B', Pv i acc Δ' ∧ H' D = some (.lst va) ∧ RpL K B' H' va acc [] ∧ Le B1 B' ∧ Keep R H1 H' ∧ Rep K B' H' (D :: R) (L2.wipe σ vs) Δ',
    ⟨_, rfl, Nat.zero_le _, [], [], _, B1, h0, upd_same, .nil, Le.refl _, hk2, hr2⟩, fun i m H2 hW => ?_⟩
  obtain ⟨rfl, hle, acc, va, Δ2, B2, hp, hD2, hL, hl2, hk2, hr2⟩ := hW
  obtain ⟨hgo, hst⟩ := hJ i B2 H2 hl2 hr2.sub
  by_cases hi : i < ts.length
  · right
    obtain ⟨go, yl⟩ := hgo ts[i] (by simp [hi])
    refine ⟨go, fun H' => ∃ acc va Δ' B', Pv (i + 1) acc Δ' ∧ H' D = some (.lst va) ∧ RpL K B' H' va acc [] ∧ Le B1 B' ∧ Keep R H1 H' ∧ Rep K B' H' (D :: R) (L2.wipe σ vs) Δ',
      fun H' ⟨acc, va, Δ', B', z⟩ => ⟨ts.length - (i + 1), by omega, rfl, by omega, acc, va, Δ', B', z⟩, fun x H3 hy => ?_⟩
    obtain ⟨hsame, B3, hl3, hs3, r3, hn3⟩ := yl x H3 hy
    have hr3 : Rep K B3 H3 (D :: R) (L2.wipe σ vs) Δ2 := hr2.grow hsame hl3 hs3 hn3
    have hk3 : Keep (D :: R) H2 H3 := hr2.keepExt hsame
    refine hg ts[i] Δ2 _ (L2.wipe σ vs) H3 B3 (D :: R) [] x hr3 r3 (hs i ts[i] acc Δ2 (by simp [hi]) hp) _ fun Δ3 σ3 H4 B4 q3 hl4 hk4 hσ hr4 hlen => ?_
    have hwp : L2.wipe σ3 vs = L2.wipe σ vs := by
      rw [wipe_ext (σ := L2.wipe σ vs) hlen hσ]
      exact wipe_ext (L2.wipe_length _ _) fun j hj => wipe_out hj
    refine ⟨hwp, ht Δ3 _ σ3 H4 B4 (D :: R) hr4 q3 _ fun b Δ4 H5 B5 q4 hl5 hk5 hr5 => ?_⟩
    have hk25 : Keep (D :: R) H2 H5 := (hk3.trans hk4).trans hk5
    have hl25 : Le B2 B5 := (hl3.trans hl4).trans hl5
    have kr : ∀ {H6 : Hp}, Keep (D :: R) H2 H6 → Keep R H1 H6 := fun z => hk2.trans fun a ha => z a (List.mem_cons_of_mem _ ha)
    cases b with
    | false =>
      show ∃ acc va Δ' B', _
      refine ⟨acc, va, _, B5, q4, by rw [hk25 D List.mem_cons_self]; exact hD2, hL.mono hl25 (fun _ z => nomatch z), hl2.trans hl25, kr hk25, ?_⟩
      rw [← hwp]; exact hr5.wipe vs
    | true =>
      show te σ3 H5 _
      refine he Δ4 _ σ3 H5 B5 (D :: R) hr5 q4 _ fun p Δ5 y H6 B6 q5 hl6 hk6 o => ?_
      obtain ⟨t, Δ6, B7, ⟨hsz, hp'⟩, hl7, r7, hr7⟩ := take_fr o q5
      have hk26 : Keep (D :: R) H2 H6 := hk25.trans hk6
      have hl27 : Le B2 B7 := (hl25.trans hl6).trans hl7
      have hD6 : H6 D = some (.lst va) := by rw [hk26 D List.mem_cons_self]; exact hD2
      obtain ⟨hr8, hk8⟩ := hr7.updR (o := .lst (va ++ [y]))
      have hr8' := hr8.wipe vs
      rw [hwp] at hr8'
      have e1 : RpL K B7 (upd H6 D (.lst (va ++ [y]))) va acc [] := hL.mono hl27 fun _ z => nomatch z
      have e2 : RpL K B7 (upd H6 D (.lst (va ++ [y]))) [y] [frz t] ([] ++ []) := .cons (r7.mono (Le.refl _) fun _ z => nomatch z) .nil
      refine ⟨va, hD6, by rw [hL.length]; exact hsz, acc ++ [frz t], va ++ [y], _, B7, hp', upd_same, RpL.append (F := []) (G := []) e1 e2, hl2.trans hl27, (kr hk26).trans hk8, hr8'⟩
  · left
    have e : i = ts.length := by omega
    subst e
    refine ⟨hst (Nat.le_refl _), k _ _ _ H2 B2 (hd acc Δ2 hp) (hl.trans hl2) (hk.trans hk2) ⟨[D], .lstO hD2 hL, ?_⟩⟩
    have h3 := hr2.wipe vs
    have e4 : L2.wipe (L2.wipe σ vs) vs = L2.wipe σ vs := wipe_ext (L2.wipe_length _ _) fun j hj => wipe_out hj
    rw [e4] at h3
    exact h3.unwipe
section
variable {X : Cx} {np : Nat} {tg iter elt : Expr} {ifs : List Expr} {scope : Scope} {own : List (Str × Nat)} {pos : Pos} {wi : WI} {wg : WG} {wt : WT} {we : WE}
theorem ce_lc (hc : X.calm = true) (hN : X.N.Nodup) (hi : CI X tg iter wi) (ok : BlkOk X.N X.env.scope scope own)
    (hg : ∀ (s : Shared) (H : Hp) (C : Addr) (cl : List (Str × Addr)) (fp : List Addr), CG (X.blk s H scope (compEnvC scope cl C X.env) fp) (Own (own.map (·.2))) tg wg)
    (ht : ∀ (s : Shared) (H : Hp) (C : Addr) (cl : List (Str × Addr)) (fp : List Addr), CTs (X.blk s H scope (compEnvC scope cl C X.env) fp) ifs wt)
    (he : ∀ (s : Shared) (H : Hp) (C : Addr) (cl : List (Str × Addr)) (fp : List Addr), CE (X.blk s H scope (compEnvC scope cl C X.env) fp) elt we)
    (hs : ∀ x, foldedSetIterable iter X.env x = pure x := by intro _; rfl) : CE X (.ListComp elt [⟨tg, iter, ifs, 0⟩] scope pos) (wLc wi wg wt we (own.map (·.2))) :=
  ⟨_, pe_lc hc hN hi.pi ok (fun s H C cl fp => (hg s H C cl fp).pg) (fun s H C cl fp => (ht s H C cl fp).pts) (fun s H C cl fp => (he s H C cl fp).pe) hs, rf_lc rf_TI rf_TG rf_TT rf_TE⟩
theorem cs_setLc {i : Nat} {y : Str} {py spos : Pos} (hc : X.calm = true) (hN : X.N.Nodup) (hy : X.N[i]? = some y) (hyl : X.env.scope.names.lookup y = some .local) (hp : np ≤ i) (hsw : swapsWith (.ListComp elt [⟨tg, iter, ifs, 0⟩] scope pos) (some (.Name y py)) spos.line X.env = pure true)
    (hi : CI X tg iter wi) (ok : BlkOk X.N X.env.scope scope own)
    (hg : ∀ (s : Shared) (H : Hp) (C : Addr) (cl : List (Str × Addr)) (fp : List Addr), CG (X.blk s H scope (compEnvC scope cl C X.env) fp) (Own (own.map (·.2))) tg wg)
    (ht : ∀ (s : Shared) (H : Hp) (C : Addr) (cl : List (Str × Addr)) (fp : List Addr), CTs (X.blk s H scope (compEnvC scope cl C X.env) fp) ifs wt)
    (he : ∀ (s : Shared) (H : Hp) (C : Addr) (cl : List (Str × Addr)) (fp : List Addr), CE (X.blk s H scope (compEnvC scope cl C X.env) fp) elt we)
    (hs : ∀ x, foldedSetIterable iter X.env x = pure x := by intro _; rfl) : CS X np (.Assign [.Name y py] (.ListComp elt [⟨tg, iter, ifs, 0⟩] scope pos) spos) (wAsg (wLc wi wg wt we (own.map (·.2))) (wgN i)) :=
  ⟨fun W tk => ⟨_, ps_setLc hc hN hy hyl hsw hi.pi ok (fun s H C cl fp => (hg s H C cl fp).pg) (fun s H C cl fp => (ht s H C cl fp).pts) (fun s H C cl fp => (he s H C cl fp).pe) hs,
    rf_asg (rf_lc rf_TI rf_TG rf_TT rf_TE) (rf_gN fun j hj => Nat.ne_of_lt (Nat.lt_of_lt_of_le hj hp))⟩⟩
end
end TL
set_option maxRecDepth 100000
set_option maxHeartbeats 1000000
namespace TL
open PySem PySem.Spec PyProof.Rows L2
section
variable {K : Frag} {r r' : R2} {g : T → T → (T → Prop) → Prop}
/-- a scalar comes out: nothing else happens -/
def scT : T → Bool
  | .non => true | .bl _ => true | .int _ => true | .str _ => true
  | _ => false
def scV : T → V
  | .non => .non | .bl b => .bl b | .int i => .int i | .str x => .str x
  | _ => .non
theorem rp_sc {B H : Hp} {t : T} (h : scT t = true) : Rp K B H (scV t) t [] := by
  cases t <;> first | exact .non | exact .bl _ | exact .int _ | exact .str _ | cases h
theorem sc_of {B H : Hp} {v : V} {t : T} {F : List Addr} (h : Rp K B H v t F) (hs : scT t = true) : v = scV t := by
  cases h <;> first | rfl | cases hs
end
def gAdd : T → T → (T → Prop) → Prop
  | .int i, .int j, Q => Q (.int (i + j))
  | .str a, .str b, Q => a.length + b.length ≤ sizeLine ∧ Q (.str (a ++ b))
  | .lst _ xs, .lst _ ys, Q => (closedL xs = true ∧ closedL ys = true) ∧ xs.length + ys.length ≤ sizeLine ∧ Q (.lst true (xs ++ ys))
  | .tup xs, .tup ys, Q => (closedL xs = true ∧ closedL ys = true) ∧ xs.length + ys.length ≤ sizeLine ∧ Q (.tup (xs ++ ys))
  | _, _, _ => False
def gSub : T → T → (T → Prop) → Prop
  | .int i, .int j, Q => Q (.int (i - j))
  | _, _, _ => False
def gDiv : T → T → (T → Prop) → Prop
  | .int i, .int j, Q => 0 < j ∧ j.natAbs.log2 < 9000 ∧ Q (.int (i / j))
  | _, _, _ => False
def gMod : T → T → (T → Prop) → Prop
  | .int i, .int j, Q => 0 < j ∧ Q (.int (i % j))
  | _, _, _ => False
def gPow : T → T → (T → Prop) → Prop
  | .int i, .int j, Q => 0 ≤ j ∧ (Builtin.Int.intBits i : Int) * j ≤ 2 ^ 27 ∧ Q (.int (i ^ j.toNat))
  | _, _, _ => False
def gNeg : T → (T → Prop) → Prop
  | .int i, Q => Q (.int (-i))
  | _, _ => False
section
variable {X : Cx} {K : Frag}
theorem op_powW : OpR X (binaryOp .Pow) (rI (fun i j => 0 ≤ j ∧ (Builtin.Int.intBits i : Int) * j ≤ 2 ^ 27) fun i j => .int (i ^ j.toNat)) := opI fun _ _ _ _ _ _ _ hc q => pow_int hc.1 hc.2 q
theorem lI {C : Int → Int → Prop} {f : Int → Int → T} {g : T → T → (T → Prop) → Prop} (hf : ∀ i j, scT (f i j) = true) (hg : ∀ x y Q, g x y Q → ∃ i j, x = .int i ∧ y = .int j ∧ C i j ∧ Q (f i j)) : LOp K (rI C fun i j => scV (f i j)) g :=
  fun B H x y tx ty Fx Fy hs rx ry Q hw Qv k => by
    obtain ⟨i, j, rfl, rfl, hc, q⟩ := hg _ _ _ hw
    exact ⟨i, j, rx.int_inv.1, ry.int_inv.1, hc, k _ _ H B [] q (Gro.refl hs) (rp_sc (hf i j))⟩
theorem LOp.or {r r' : R2} {g g' h : T → T → (T → Prop) → Prop} (h1 : LOp K r g) (h2 : LOp K r' g') (hh : ∀ x y Q, h x y Q → g x y Q ∨ g' x y Q) : LOp K (fun x y H Q => r x y H Q ∨ r' x y H Q) h :=
  fun B H x y tx ty Fx Fy hs rx ry Q hw Qv k => (hh _ _ _ hw).elim (fun q => .inl (h1 B H x y tx ty Fx Fy hs rx ry Q q Qv k)) fun q => .inr (h2 B H x y tx ty Fx Fy hs rx ry Q q Qv k)
theorem l_sub : LOp K (rI0 fun i j => .int (i - j)) gSub := fun B H x y tx ty Fx Fy hs rx ry Q hw Qv k => by
  match tx, ty, rx, ry, hw with
  | .int i, .int j, rx, ry, hw => exact ⟨i, j, rx.int_inv.1, ry.int_inv.1, k _ _ H B [] hw (Gro.refl hs) (.int _)⟩
theorem l_div : LOp K (rI CDivW fun i j => .int (i / j)) gDiv := lI (C := CDivW) (f := fun i j => .int (i / j)) (fun _ _ => rfl) fun x y Q h => by
  match x, y, h with
  | .int i, .int j, h => exact ⟨i, j, rfl, rfl, ⟨h.1, h.2.1⟩, h.2.2⟩
theorem l_mod : LOp K (rI (fun _ j => 0 < j) fun i j => .int (i % j)) gMod := lI (C := fun _ j => 0 < j) (f := fun i j => .int (i % j)) (fun _ _ => rfl) fun x y Q h => by
  match x, y, h with
  | .int i, .int j, h => exact ⟨i, j, rfl, rfl, h.1, h.2⟩
theorem l_pow : LOp K (rI (fun i j => 0 ≤ j ∧ (Builtin.Int.intBits i : Int) * j ≤ 2 ^ 27) fun i j => .int (i ^ j.toNat)) gPow := lI (f := fun i j => .int (i ^ j.toNat)) (fun _ _ => rfl) fun x y Q h => by
  match x, y, h with
  | .int i, .int j, h => exact ⟨i, j, rfl, rfl, ⟨h.1, h.2.1⟩, h.2.2⟩
theorem l_neg : LUn K (rU fun i => .int (-i)) gNeg := fun B H x tx Fx hs rx Q hw Qv k => by
  match tx, rx, hw with
  | .int i, rx, hw => exact ⟨i, rx.int_inv.1, k _ _ H B [] hw (Gro.refl hs) (.int _)⟩
theorem lstX {pins : List (Addr × Obj)} {σ : Sg} {H : Hp} {s : Shared} {a : Addr} {xs : List V} (I : Inv X pins σ H s) (h : RdL X.K H a xs) :
    ∃ (its : List Value) (n : Nat), Vals xs its ∧ xs.length = its.length ∧ xs.length ≤ sizeLine ∧ s.heap.get? a = some { cls := .type "list", data := .seq its.toArray n } := by
  have fin : ObjOk X.prog X.w H s.heap a (.lst xs) → ∃ (its : List Value) (n : Nat), Vals xs its ∧ xs.length = its.length ∧ xs.length ≤ sizeLine ∧ s.heap.get? a = some { cls := .type "list", data := .seq its.toArray n } :=
    fun ⟨z, its, n, r, e⟩ => ⟨its, n, r, r.length, z, e⟩
  rcases h with h | ⟨its, n, e, z, r⟩
  · exact fin (Rd.ok h I.hok)
  · refine ⟨its.toList, n, r, r.length, by rw [r.length, Array.length_toList]; exact z, ?_⟩
    have := I.kIn _ _ e
    simpa using this
def rCatS (K : Frag) : R2 := fun x y H Q => ∃ l b xs zs, x = .ref l ∧ y = .ref b ∧ RdL K H l xs ∧ RdL K H b zs ∧ xs.length + zs.length ≤ sizeLine ∧ ∀ p, H p = none → Q (.ref p) (upd H p (.lst (xs ++ zs)))
theorem op_catS : OpR X (binaryOp .Add) (rCatS X.K) := fun pins s σ H x y v u Q I rx ry h => by
  obtain ⟨l, b, xs, zs, rfl, rfl, h1, h2, hz, q⟩ := h
  cases rx; cases ry
  obtain ⟨its, n, r1, l1, _, e1⟩ := lstX I h1
  obtain ⟨iu, m, r2, l2, _, e2⟩ := lstX I h2
  refine PySem.P.add_list e1 e2 ?_ (by simp only [List.size_toArray]; omega)
  rw [List.append_toArray]
  exact ⟨.ref _, _, I.lnew (r1.append r2) (by rw [List.length_append]; omega), rfl, q _ I.fresh⟩
def rAddA (K : Frag) : R2 := fun x y H Q => (rI0 fun i j => .int (i + j)) x y H Q ∨ (∃ i j, x = .str i ∧ y = .str j ∧ i.length + j.length ≤ sizeLine ∧ Q (.str (i ++ j)) H) ∨ rCatS K x y H Q ∨ rCatA K x y H Q
theorem op_addA : OpR X (binaryOp .Add) (rAddA X.K) := OpR.or op_add (OpR.or op_add_str (OpR.or op_catS op_catA))
theorem rpL_cat {B H : Hp} {vs ws : List V} {ts us : List T} {F G : List Addr} (h1 : RpL K B H vs ts F) (h2 : RpL K B H ws us G) (c1 : closedL ts = true) (c2 : closedL us = true) (H' : Hp) : RpL K B H' (vs ++ ws) (ts ++ us) [] :=
  RpL.append (F := []) (G := []) (h1.cl c1 (Le.refl B)) (h2.cl c2 (Le.refl B))
theorem Ext.same {H H' : Hp} {G : List Addr} (h : Ext H H' G) : Same H H' := h.1
theorem new_lst {B H : Hp} {vs : List V} {ts : List T} {Q : T → Prop} {Qv : VK} (hs : Sub B H) (h : RpL K B H vs ts []) (q : Q (.lst true ts)) (k : ∀ v t H' B' G, Q t → Gro B H B' H' G → Rp K B' H' v t G → Qv v H') : ∀ p, H p = none → Qv (.ref p) (upd H p (.lst vs)) := fun p hp =>
  k _ _ _ B [p] q (Gro.own hs hp) (.lstO upd_same (h.mono (Le.refl B) fun _ z => nomatch z))
theorem new_tup {B H : Hp} {vs : List V} {ts : List T} {Q : T → Prop} {Qv : VK} (hs : Sub B H) (h : RpL K B H vs ts []) (q : Q (.tup ts)) (k : ∀ v t H' B' G, Q t → Gro B H B' H' G → Rp K B' H' v t G → Qv v H') : ∀ p, H p = none → Qv (.ref p) (upd H p (.tup vs)) := fun p hp =>
  k _ _ _ _ [] q (Gro.fro hs hp) (.tup (.inl (.inl upd_same)) (h.mono (Le.of_same (Ext.new (hs.none hp)).1) fun _ z => nomatch z))
theorem l_add : LOp K (rAddA K) gAdd := fun B H x y tx ty Fx Fy hs rx ry Q hw Qv k => by
  match tx, ty, rx, ry, hw with
  | .int i, .int j, rx, ry, hw => exact .inl ⟨i, j, rx.int_inv.1, ry.int_inv.1, k _ _ H B [] hw (Gro.refl hs) (.int _)⟩
  | .str i, .str j, rx, ry, hw => exact .inr (.inl ⟨i, j, rx.str_inv.1, ry.str_inv.1, hw.1, k _ _ H B [] hw.2 (Gro.refl hs) (.str _)⟩)
  | .lst _ xs, .lst _ ys, rx, ry, hw =>
    obtain ⟨a, vs, F1, rfl, h1, r1⟩ := rx.lst_rd hs
    obtain ⟨b, ws, F2, rfl, h2, r2⟩ := ry.lst_rd hs
    exact .inr (.inr (.inl ⟨a, b, vs, ws, rfl, rfl, h1, h2, by rw [r1.length, r2.length]; exact hw.2.1, new_lst hs (rpL_cat r1 r2 hw.1.1 hw.1.2 H) hw.2.2 k⟩))
  | .tup xs, .tup ys, rx, ry, hw =>
    obtain ⟨a, vs, rfl, h1, r1⟩ := rx.tup_inv hs
    obtain ⟨b, ws, rfl, h2, r2⟩ := ry.tup_inv hs
    refine .inr (.inr (.inr ⟨a, b, vs, ws, rfl, rfl, h1, h2, by rw [r1.length, r2.length]; exact hw.2.1, fun e => ?_, fun _ e => ?_, fun _ _ => new_tup hs (rpL_cat r1 r2 hw.1.1 hw.1.2 H) hw.2.2 k⟩))
    · have e1 : xs = [] := List.eq_nil_of_length_eq_zero (by rw [← r1.length, e]; rfl)
      subst e1
      exact k _ _ H B [] hw.2.2 (Gro.refl hs) (ry.c0 (by simpa [closed] using hw.1.2))
    · have e1 : ys = [] := List.eq_nil_of_length_eq_zero (by rw [← r2.length, e]; rfl)
      subst e1
      have q := hw.2.2
      rw [List.append_nil] at q
      exact k _ _ H B [] q (Gro.refl hs) (rx.c0 (by simpa [closed] using hw.1.1))
end
end TL
set_option maxRecDepth 100000
set_option maxHeartbeats 1000000
namespace TL
open PySem PySem.Spec PyProof.Rows L2
mutual
def toD : T → PyData
  | .bl b => .bool b | .int i => .int i | .str x => .str x
  | .tup xs => .tuple (toDL xs)
  | .lst _ xs => .list (toDL xs)
  | .non => .none | .dct _ _ => .none | .ins _ _ _ => .none | .fn _ => .none | .ty _ => .none | .exc _ _ _ _ => .none | .exv _ _ => .none
def toDL : List T → List PyData
  | [] => []
  | t :: r => toD t :: toDL r
end
def asc (x : Str) : Bool := x.cps.all (· < 128)
mutual
/-- data without dicts: small ints, plain texts -/
def okT : T → Bool
  | .non => true | .bl _ => true
  | .int n => decide (n.natAbs.log2 < 1920)
  | .str x => asc x
  | .tup xs => okL xs
  | .lst _ xs => okL xs
  | .dct _ _ => false | .ins _ _ _ => false | .fn _ => false | .ty _ => false | .exc _ _ _ _ => false | .exv _ _ => false
def okL : List T → Bool
  | [] => true
  | t :: r => okT t && okL r
end
mutual
def dpT : T → Nat
  | .tup xs => dpL xs + 1
  | .lst _ xs => dpL xs + 1
  | .non => 0 | .bl _ => 0 | .int _ => 0 | .str _ => 0 | .dct _ _ => 0 | .ins _ _ _ => 0 | .fn _ => 0 | .ty _ => 0 | .exc _ _ _ _ => 0 | .exv _ _ => 0
def dpL : List T → Nat
  | [] => 0
  | t :: r => max (dpT t) (dpL r)
end
mutual
/-- at least the length of its repr -/
def wtT : T → Nat
  | .tup xs => wtL xs + 4
  | .lst _ xs => wtL xs + 4
  | .int i => i.natAbs.log2 + 2
  | .str x => 10 * x.length + 2
  | .non => 5 | .bl _ => 5 | .dct _ _ => 0 | .ins _ _ _ => 0 | .fn _ => 0 | .ty _ => 0 | .exc _ _ _ _ => 0 | .exv _ _ => 0
def wtL : List T → Nat
  | [] => 0
  | t :: r => wtT t + 2 + wtL r
end
def eqT (x y : T) : Bool := PyData.eqv (toD x) (toD y)
def shT (x : T) : Str := (toD x).shown
theorem okL_iff : ∀ ts : List T, okL ts = true ↔ ∀ t ∈ ts, okT t = true
  | [] => by simp [okL]
  | t :: r => by simp [okL, okL_iff r]
theorem strOk_of_asc {x : Str} (h : asc x = true) : PyData.strOk x = true := by
  unfold asc at h; unfold PyData.strOk
  rw [Array.all_eq_true] at h ⊢
  intro i hi
  have := h i hi
  simp only [decide_eq_true_eq] at this ⊢
  omega
mutual
theorem canLay_of : ∀ t : T, okT t = true → (toD t).canLay0 = true
  | .tup xs, h => by simp only [okT] at h; simp only [toD, PyData.canLay0]; exact canLayL_of xs h
  | .lst _ xs, h => by simp only [okT] at h; simp only [toD, PyData.canLay0]; exact canLayL_of xs h
  | .int i, h => by simp only [toD, PyData.canLay0]
  | .str x, h => by simp only [okT] at h; simp only [toD, PyData.canLay0]; exact strOk_of_asc h
  | .non, h => by simp only [toD, PyData.canLay0]
  | .bl _, h => by simp only [toD, PyData.canLay0]
  | .dct _ _, h => by simp [okT] at h
  | .ins _ _ _, h => by simp [okT] at h
  | .fn _, h => by simp [okT] at h
  | .ty _, h => by simp [okT] at h
  | .exc _ _ _ _, h => by simp [okT] at h
  | .exv _ _, h => by simp [okT] at h
theorem canLayL_of : ∀ ts : List T, okL ts = true → PyData.canLayAll0 (toDL ts) = true
  | [], _ => by simp only [toDL, PyData.canLayAll0]
  | t :: r, h => by
    simp only [okL, Bool.and_eq_true] at h
    simp only [toDL, PyData.canLayAll0]
    rw [canLay_of t h.1, canLayL_of r h.2]; rfl
end
mutual
theorem depth_of : ∀ t : T, (toD t).depth = dpT t
  | .tup xs => by simp only [toD, PyData.depth, dpT]; rw [depthL_of xs]
  | .lst _ xs => by simp only [toD, PyData.depth, dpT]; rw [depthL_of xs]
  | .int i => by simp only [toD, PyData.depth, dpT]
  | .str x => by simp only [toD, PyData.depth, dpT]
  | .non => by simp only [toD, PyData.depth, dpT]
  | .bl _ => by simp only [toD, PyData.depth, dpT]
  | .dct _ _ => by simp only [toD, PyData.depth, dpT]
  | .ins _ _ _ => by simp only [toD, PyData.depth, dpT]
  | .fn _ => by simp only [toD, PyData.depth, dpT]
  | .ty _ => by simp only [toD, PyData.depth, dpT]
  | .exc _ _ _ _ => by simp only [toD, PyData.depth, dpT]
  | .exv _ _ => by simp only [toD, PyData.depth, dpT]
theorem depthL_of : ∀ ts : List T, PyData.depthAll (toDL ts) = dpL ts
  | [] => by simp only [toDL, PyData.depthAll, dpL]
  | t :: r => by simp only [toDL, PyData.depthAll, dpL]; rw [depth_of t, depthL_of r]
end
theorem reprChar_le : ∀ c : Nat, c < 128 → (Builtin.Str.reprChar 39 c).length ≤ 10 ∧ (Builtin.Str.reprChar 34 c).length ≤ 10 := by
  have h : ((List.range 128).all fun c => decide ((Builtin.Str.reprChar 39 c).length ≤ 10) && decide ((Builtin.Str.reprChar 34 c).length ≤ 10)) = true := by decide +kernel
  intro c hc
  have := List.all_eq_true.mp h c (List.mem_range.mpr hc)
  simpa using this
theorem foldl_len (q : Nat) (hq : q = 39 ∨ q = 34) : ∀ (l : List Nat) (acc : Array Nat), (∀ c ∈ l, c < 128) → (l.foldl (fun out c => out ++ (Builtin.Str.reprChar q c).toArray) acc).size ≤ acc.size + 10 * l.length
  | [], acc, _ => by simp
  | c :: r, acc, h => by
    have ih := foldl_len q hq r (acc ++ (Builtin.Str.reprChar q c).toArray) fun c hc => h c (List.mem_cons_of_mem _ hc)
    have h1 := reprChar_le c (h c List.mem_cons_self)
    have h2 : (Builtin.Str.reprChar q c).length ≤ 10 := by rcases hq with e | e <;> rw [e] <;> first | exact h1.1 | exact h1.2
    simp only [List.foldl_cons, List.length_cons, Array.size_append, List.size_toArray] at ih ⊢
    omega
theorem reprText_le {x : Str} (h : asc x = true) : (reprText x).length ≤ 10 * x.length + 2 := by
  unfold reprText
  show ((x.cps.foldl (fun out c => out ++ (Builtin.Str.reprChar (reprQuote x) c).toArray) #[reprQuote x]).push (reprQuote x)).size ≤ 10 * x.cps.size + 2
  rw [Array.size_push]
  have hq : reprQuote x = 39 ∨ reprQuote x = 34 := by unfold reprQuote; split <;> simp
  have := foldl_len (reprQuote x) hq x.cps.toList #[reprQuote x] (fun c hc => by
    unfold asc at h
    rw [Array.all_eq_true] at h
    obtain ⟨i, hi, e⟩ := List.mem_iff_getElem.mp hc
    have := h i (by simpa using hi)
    simp only [decide_eq_true_eq] at this
    rw [← e]; simpa using this)
  rw [Array.foldl_toList] at this
  simp only [Array.length_toList] at this
  simp at this ⊢
  omega
theorem piled_sum : ∀ ts : List Str, (ts.map (·.length)).sum + 2 * ts.length = piled ts
  | [] => rfl
  | t :: r => by
    have ih := piled_sum r
    rw [piled_cons, List.map_cons, List.sum_cons, List.length_cons]; omega
theorem listText_le (ts : List Str) : (listText ts).length ≤ piled ts + 4 := by
  have h1 := listText_len_le ts
  have h2 := piled_sum ts
  omega
theorem tupleText_le (ts : List Str) : (tupleText ts).length ≤ piled ts + 4 := by
  have h1 := tupleText_len_le ts
  have h2 := piled_sum ts
  omega
mutual
theorem shown_le : ∀ t : T, okT t = true → (shT t).length ≤ wtT t
  | .tup xs, h => by
    simp only [okT] at h
    simp only [shT, toD, PyData.shown, wtT]
    exact Nat.le_trans (tupleText_le _) (Nat.add_le_add_right (shownL_le xs h) 4)
  | .lst _ xs, h => by
    simp only [okT] at h
    simp only [shT, toD, PyData.shown, wtT]
    exact Nat.le_trans (listText_le _) (Nat.add_le_add_right (shownL_le xs h) 4)
  | .int i, h => by
    simp only [shT, toD, PyData.shown, wtT]
    have h1 := int_text_length_le (a := i) (k := i.natAbs.log2 + 1) (by omega) (by omega)
    rw [PySem.ofString_length]; omega
  | .str x, h => by simp only [okT] at h; simp only [shT, toD, PyData.shown, wtT]; exact reprText_le h
  | .non, h => by simp only [shT, toD, PyData.shown, wtT]; decide
  | .bl b, h => by simp only [shT, toD, PyData.shown, wtT]; cases b <;> decide
  | .dct _ _, h => by simp [okT] at h
  | .ins _ _ _, h => by simp [okT] at h
  | .fn _, h => by simp [okT] at h
  | .ty _, h => by simp [okT] at h
  | .exc _ _ _ _, h => by simp [okT] at h
  | .exv _ _, h => by simp [okT] at h
theorem shownL_le : ∀ ts : List T, okL ts = true → piled (PyData.shownAll (toDL ts)) ≤ wtL ts
  | [], _ => by simp only [toDL, PyData.shownAll, wtL]; exact Nat.le_refl _
  | t :: r, h => by
    simp only [okL, Bool.and_eq_true] at h
    simp only [toDL, PyData.shownAll, wtL, piled_cons]
    have h1 := shown_le t h.1
    have h2 := shownL_le r h.2
    unfold shT at h1
    omega
end
section
variable {X : Cx} {pins : List (Addr × Obj)} {σ : Sg} {H B : Hp} {s : Shared}
mutual
theorem Rp.reads (I : Inv X pins σ H s) (hs : Sub B H) : ∀ {v : V} {t : T} {F : List Addr}, Rp X.K B H v t F → okT t = true → ∀ {u : Value}, RelV v u → ∃ as, Reads s.heap u (toD t) as
  | _, _, _, .non, _, _, r => by cases r; simp only [toD]; exact ⟨_, .none⟩
  | _, _, _, .bl b, _, _, r => by cases r; simp only [toD]; exact ⟨_, .bool b⟩
  | _, _, _, .int i, _, _, r => by obtain ⟨t, rfl⟩ := r; simp only [toD]; exact ⟨_, .int i t⟩
  | _, _, _, .str x, _, _, r => by obtain ⟨t, rfl⟩ := r; simp only [toD]; exact ⟨_, .str x t⟩
  | _, _, _, .fn a, h, _, _ => by simp [okT] at h
  | _, _, _, .ty n, h, _, _ => by simp [okT] at h
  | _, _, _, .exc0 a x, h, _, _ => by simp [okT] at h
  | _, _, _, .exv0 _, h, _, _ => by simp [okT] at h
  | _, _, _, .exvD _ _ _ _, h, _, _ => by simp [okT] at h
  | _, _, _, .excD _ _ _, h, _, _ => by simp [okT] at h
  | _, _, _, .tup h1 h2, h, _, r => by
    cases r
    obtain ⟨its, rv, ⟨o, e, c, n, d⟩, _⟩ := I.tuple (hs.le.sqT h1)
    obtain ⟨as, q⟩ := RpL.reads I hs h2 (by simpa [okT] using h) rv
    simp only [toD]
    exact ⟨_, .tuple e c d (by simpa using q)⟩
  | _, _, _, .lstF h1 h2, h, _, r => by
    cases r
    obtain ⟨its, n, rv, _, _, e⟩ := lstX I (hs.le.rdL h1)
    obtain ⟨as, q⟩ := RpL.reads I hs h2 (by simpa [okT] using h) rv
    simp only [toD]
    exact ⟨_, .list e rfl rfl (by simpa using q)⟩
  | _, _, _, .lstO h1 h2, h, _, r => by
    cases r
    obtain ⟨its, n, rv, _, _, e⟩ := lstX I (.inl (.inl h1))
    obtain ⟨as, q⟩ := RpL.reads I hs h2 (by simpa [okT] using h) rv
    simp only [toD]
    exact ⟨_, .list e rfl rfl (by simpa using q)⟩
  | _, _, _, .dctF _ _ _, h, _, _ => by simp [okT] at h
  | _, _, _, .dctO _ _ _, h, _, _ => by simp [okT] at h
  | _, _, _, .insF _ _ _, h, _, _ => by simp [okT] at h
  | _, _, _, .insO _ _ _ _, h, _, _ => by simp [okT] at h
theorem RpL.reads (I : Inv X pins σ H s) (hs : Sub B H) : ∀ {vs : List V} {ts : List T} {F : List Addr}, RpL X.K B H vs ts F → okL ts = true → ∀ {us : List Value}, Vals vs us → ∃ as, ReadsAll s.heap us (toDL ts) as
  | _, _, _, .nil, _, _, .nil => by simp only [toDL]; exact ⟨_, .nil⟩
  | _, _, _, .cons h1 h2, h, _, .cons r1 r2 => by
    simp only [okL, Bool.and_eq_true] at h
    obtain ⟨as, q1⟩ := Rp.reads I hs h1 h.1 r1
    obtain ⟨bs, q2⟩ := RpL.reads I hs h2 h.2 r2
    simp only [toDL]
    exact ⟨_, .cons q1 q2⟩
end
end
def rEqR (K : Frag) (neg : Bool) : R2 := fun x y H Q => ∃ B tx ty Fx Fy, Sub B H ∧ Rp K B H x tx Fx ∧ Rp K B H y ty Fy ∧ (okT tx = true ∧ okT ty = true) ∧ min (dpT tx) (dpT ty) ≤ 60 ∧ Q (.bl (if neg then !eqT tx ty else eqT tx ty)) H
theorem op_eqR {X : Cx} (hu : X.A.units + 64 < cLine) : OpR X (compareOp .Eq) (rEqR X.K false) := fun pins s σ H x y v u Q I rx ry h => by
  obtain ⟨B, tx, ty, Fx, Fy, hs, r1, r2, ⟨o1, o2⟩, hd, q⟩ := h
  obtain ⟨as, q1⟩ := r1.reads I hs o1 rx
  obtain ⟨bs, q2⟩ := r2.reads I hs o2 ry
  exact SeqAt.compareEq_reads q1 q2 (canLay_of _ o1) (canLay_of _ o2) (by rw [depth_of, depth_of]; omega) ⟨.bl _, H, I, rfl, q⟩
theorem op_neR {X : Cx} (hu : X.A.units + 64 < cLine) : OpR X (compareOp .NotEq) (rEqR X.K true) := fun pins s σ H x y v u Q I rx ry h => by
  obtain ⟨B, tx, ty, Fx, Fy, hs, r1, r2, ⟨o1, o2⟩, hd, q⟩ := h
  obtain ⟨as, q1⟩ := r1.reads I hs o1 rx
  obtain ⟨bs, q2⟩ := r2.reads I hs o2 ry
  exact SeqAt.compareNe_reads q1 q2 (canLay_of _ o1) (canLay_of _ o2) (by rw [depth_of, depth_of]; omega) ⟨.bl _, H, I, rfl, q⟩
def gEqG (neg : Bool) (x y : T) (Q : T → Prop) : Prop := (okT x = true ∧ okT y = true) ∧ min (dpT x) (dpT y) ≤ 60 ∧ Q (.bl (if neg then !eqT x y else eqT x y))
def nb (neg b : Bool) : Bool := if neg then !b else b
/-- scalars at once, the rest as data -/
def gEq (neg : Bool) : T → T → (T → Prop) → Prop
  | .int i, .int j, Q => Q (.bl (nb neg (decide (i = j))))
  | .str i, .str j, Q => Q (.bl (nb neg (decide (i = j))))
  | .bl i, .bl j, Q => Q (.bl (nb neg (decide (i = j))))
  | .non, .non, Q => Q (.bl (nb neg true))
  | .non, .int _, Q => Q (.bl (nb neg false))
  | .int _, .non, Q => Q (.bl (nb neg false))
  | .non, .str _, Q => Q (.bl (nb neg false))
  | .str _, .non, Q => Q (.bl (nb neg false))
  | .non, .bl _, Q => Q (.bl (nb neg false))
  | .bl _, .non, Q => Q (.bl (nb neg false))
  | .int _, .str _, Q => Q (.bl (nb neg false))
  | .str _, .int _, Q => Q (.bl (nb neg false))
  | .bl _, .str _, Q => Q (.bl (nb neg false))
  | .str _, .bl _, Q => Q (.bl (nb neg false))
  | x, y, Q => gEqG neg x y Q
def rEqS (neg : Bool) : R2 := fun x y H Q => scal x y = true ∧ Q (.bl (nb neg (decide (x = y)))) H
theorem gEq_cases {neg : Bool} {x y : T} {Q : T → Prop} (h : gEq neg x y Q) : (scT x = true ∧ scT y = true ∧ scal (scV x) (scV y) = true ∧ Q (.bl (nb neg (decide (scV x = scV y))))) ∨ gEqG neg x y Q := by
  cases x <;> cases y <;> first
    | exact .inr h
    | (refine .inl ⟨rfl, rfl, rfl, ?_⟩; simpa [gEq, scV] using h)
theorem l_eqS {K : Frag} {neg : Bool} : LOp K (fun x y H Q => rEqS neg x y H Q ∨ rEqR K neg x y H Q) (gEq neg) := fun B H x y tx ty Fx Fy hs rx ry Q hw Qv k => by
  rcases gEq_cases hw with ⟨s1, s2, sc, q⟩ | q
  · rw [sc_of rx s1, sc_of ry s2]
    exact .inl ⟨sc, k _ _ H B [] q (Gro.refl hs) (.bl _)⟩
  · exact .inr ⟨B, tx, ty, Fx, Fy, hs, rx, ry, q.1, q.2.1, k _ _ H B [] q.2.2 (Gro.refl hs) (.bl _)⟩
theorem op_eqA {X : Cx} (hu : X.A.units + 64 < cLine) : OpR X (compareOp .Eq) (fun x y H Q => rEqS false x y H Q ∨ rEqR X.K false x y H Q) := OpR.or (r := rEqS false) op_eq (op_eqR hu)
theorem op_neA {X : Cx} (hu : X.A.units + 64 < cLine) : OpR X (compareOp .NotEq) (fun x y H Q => rEqS true x y H Q ∨ rEqR X.K true x y H Q) := OpR.or (r := rEqS true) op_ne (op_neR hu)
end TL
set_option maxRecDepth 100000
set_option maxHeartbeats 1000000
namespace TL
open PySem PySem.Spec PyProof.Rows L2
def gCmp (f : Int → Int → Bool) : T → T → (T → Prop) → Prop
  | .int i, .int j, Q => Q (.bl (f i j))
  | _, _, _ => False
theorem l_cmp {K : Frag} {f : Int → Int → Bool} : LOp K (rI0 fun i j => .bl (f i j)) (gCmp f) := fun B H x y tx ty Fx Fy hs rx ry Q hw Qv k => by
  match tx, ty, rx, ry, hw with
  | .int i, .int j, rx, ry, hw => exact ⟨i, j, rx.int_inv.1, ry.int_inv.1, k _ _ H B [] hw (Gro.refl hs) (.bl _)⟩
abbrev gLt := gCmp fun i j => decide (i < j)
abbrev gGt := gCmp fun i j => decide (j < i)
abbrev gGe := gCmp fun i j => decide (j ≤ i)
def isNon : T → Bool
  | .non => true
  | _ => false
/-- is, is not: of None and of bools -/
def gIs (neg : Bool) : T → T → (T → Prop) → Prop
  | x, .non, Q => Q (.bl (nb neg (isNon x)))
  | .bl a, .bl b, Q => Q (.bl (nb neg (decide (a = b))))
  | _, _, _ => False
def rIsN' (neg : Bool) : R2 := fun x y H Q => y = .non ∧ Q (.bl (nb neg (decide (x = .non)))) H
def rIsB' (neg : Bool) : R2 := fun x y H Q => ∃ a b : Bool, x = .bl a ∧ y = .bl b ∧ Q (.bl (nb neg (decide (a = b)))) H
theorem isNon_V {K : Frag} {B H : Hp} {v : V} {t : T} {F : List Addr} (h : Rp K B H v t F) : decide (v = .non) = isNon t := by
  cases h <;> rfl
theorem l_is {K : Frag} {neg : Bool} : LOp K (fun x y H Q => rIsN' neg x y H Q ∨ rIsB' neg x y H Q) (gIs neg) := fun B H x y tx ty Fx Fy hs rx ry Q hw Qv k => by
  match tx, ty, rx, ry, hw with
  | tx, .non, rx, ry, hw => exact .inl ⟨ry.non_inv.1, by rw [isNon_V rx]; cases tx <;> exact k _ _ H B [] hw (Gro.refl hs) (.bl _)⟩
  | .bl a, .bl b, rx, ry, hw => exact .inr ⟨a, b, rx.bl_inv.1, ry.bl_inv.1, k _ _ H B [] hw (Gro.refl hs) (.bl _)⟩
theorem op_isA {X : Cx} : OpR X (compareOp .Is) (fun x y H Q => rIsN' false x y H Q ∨ rIsB' false x y H Q) := OpR.or (r := rIsN' false) (r' := rIsB' false) op_isN op_isBl
theorem op_isNotA {X : Cx} : OpR X (compareOp .IsNot) (fun x y H Q => rIsN' true x y H Q ∨ rIsB' true x y H Q) := OpR.or (r := rIsN' true) (r' := rIsB' true) op_notN op_notBl
def flT : T → Bool
  | .non => true | .bl _ => true | .int _ => true | .str _ => true
  | _ => false
def inT (x : T) (ys : List T) : Bool := ys.any fun y => eqV (scV y) (scV x)
def gIn (neg : Bool) : T → T → (T → Prop) → Prop
  | x, .lst _ ys, Q => flT x = true ∧ ys.all flT = true ∧ Q (.bl (nb neg (inT x ys)))
  | x, .tup ys, Q => flT x = true ∧ ys.all flT = true ∧ Q (.bl (nb neg (inT x ys)))
  | .str a, .str b, Q => Q (.bl (nb neg (!(Builtin.Str.occurrences b a 0 b.length 1).isEmpty)))
  | _, _, _ => False
theorem flat_of {K : Frag} {B H : Hp} {v : V} {t : T} {F : List Addr} (h : Rp K B H v t F) (f : flT t = true) : flatV v = true ∧ v = scV t := by
  cases h <;> first | exact ⟨rfl, rfl⟩ | cases f
theorem flats_of {K : Frag} {B H : Hp} : ∀ {vs : List V} {ts : List T} {F : List Addr}, RpL K B H vs ts F → ts.all flT = true → vs.all flatV = true ∧ vs = ts.map scV
  | _, _, _, .nil, _ => ⟨rfl, rfl⟩
  | _, _, _, .cons h1 h2, f => by
    simp only [List.all_cons, Bool.and_eq_true] at f
    obtain ⟨a, b⟩ := flat_of h1 f.1
    obtain ⟨c, d⟩ := flats_of h2 f.2
    exact ⟨by simp [a, c], by rw [b, d]; rfl⟩
def rInS' (neg : Bool) : R2 := fun x y H Q => ∃ i j, x = .str i ∧ y = .str j ∧ Q (.bl (nb neg (!(Builtin.Str.occurrences j i 0 j.length 1).isEmpty))) H
theorem any_scV (x : T) : ∀ ys : List T, ((ys.map scV).any fun y => eqV y (scV x)) = ys.any fun y => eqV (scV y) (scV x)
  | [] => rfl
  | y :: r => by simp only [List.map_cons, List.any_cons]; rw [any_scV x r]
theorem l_in {K : Frag} {neg : Bool} : LOp K (fun x y H Q => rIn K neg x y H Q ∨ rInS' neg x y H Q) (gIn neg) := fun B H x y tx ty Fx Fy hs rx ry Q hw Qv k => by
  cases ty with
  | lst o ys =>
    have hw' : flT tx = true ∧ ys.all flT = true ∧ Q (.bl (nb neg (inT tx ys))) := by cases tx <;> exact hw
    obtain ⟨a, vs, F', rfl, h1, r1⟩ := ry.lst_inv hs
    obtain ⟨f1, e1⟩ := flat_of rx hw'.1
    obtain ⟨f2, e2⟩ := flats_of r1 hw'.2.1
    refine .inl ⟨a, vs, rfl, .inl h1, f1, f2, ?_⟩
    have e : inV x vs = inT tx ys := by rw [e1, e2]; exact any_scV tx ys
    rw [e]
    exact k _ _ H B [] hw'.2.2 (Gro.refl hs) (.bl _)
  | tup ys =>
    have hw' : flT tx = true ∧ ys.all flT = true ∧ Q (.bl (nb neg (inT tx ys))) := by cases tx <;> exact hw
    obtain ⟨a, vs, rfl, h1, r1⟩ := ry.tup_inv hs
    obtain ⟨f1, e1⟩ := flat_of rx hw'.1
    obtain ⟨f2, e2⟩ := flats_of r1 hw'.2.1
    refine .inl ⟨a, vs, rfl, .inr h1, f1, f2, ?_⟩
    have e : inV x vs = inT tx ys := by rw [e1, e2]; exact any_scV tx ys
    rw [e]
    exact k _ _ H B [] hw'.2.2 (Gro.refl hs) (.bl _)
  | str b =>
    cases tx with
    | str a => exact .inr ⟨a, b, rx.str_inv.1, ry.str_inv.1, k _ _ H B [] hw (Gro.refl hs) (.bl _)⟩
    | _ => exact hw.elim
  | _ => cases tx <;> exact hw.elim
theorem op_inA {X : Cx} : OpR X (compareOp .In) (fun x y H Q => rIn X.K false x y H Q ∨ rInS' false x y H Q) := OpR.or op_in_seq op_in_str
theorem ce_in {X : Cx} {a b : Expr} {wa wb : WE} {pos : Pos} {op : CmpOp} {r : R2} {g : T → T → (T → Prop) → Prop} (ho : OpR X (compareOp op) r) (hl : LOp X.K r g) (ha : CE X a wa) (hb : CE X b wb) (hm : behindInMarks op b = false := by rfl) : CE X (.Compare a [op] [b] pos) (wOp g wa wb) := ce_cmp ho hl ha hb hm
theorem ct_in {X : Cx} {a b : Expr} {wa wb : WE} {pos : Pos} {op : CmpOp} {r : R2} {g : T → T → (T → Prop) → Prop} (ho : OpR X (compareOp op) r) (hl : LOp X.K r g) (ha : CE X a wa) (hb : CE X b wb) (hm : behindInMarks op b = false := by rfl) : CT X (.Compare a [op] [b] pos) (wTest (wOp g wa wb)) := ct_cmp ho hl ha hb hm
def gIx : T → T → (T → Prop) → Prop
  | .lst _ xs, .int i, Q => match atI xs i with
    | some t => closed t = true ∧ Q t
    | none => False
  | .tup xs, .int i, Q => match atI xs i with
    | some t => closed t = true ∧ Q t
    | none => False
  | .str x, .int i, Q => x.length ≤ sizeLine ∧ match atI x.cps.toList i with
    | some c => Q (.str ⟨#[c]⟩)
    | none => False
  | _, _, _ => False
theorem atI_len {α β : Type} {xs : List α} {ys : List β} (h : xs.length = ys.length) {i : Int} {y : β} (e : atI ys i = some y) : ∃ (j : Nat) (x : α), atI xs i = some x ∧ xs[j]? = some x ∧ ys[j]? = some y := by
  unfold atI at e ⊢
  rw [h]
  cases q : ixN ys.length i with
  | none => rw [q] at e; cases e
  | some j =>
    rw [q] at e
    have e' : ys[j]? = some y := e
    have hj : j < ys.length := (List.getElem?_eq_some_iff.mp e').1
    exact ⟨j, xs[j], by simp [hj, h], by simp [hj, h], e'⟩
theorem RpL.geto' {K : Frag} {B H : Hp} : ∀ {vs : List V} {ts : List T} {F : List Addr} {i : Nat} {v : V} {t : T}, RpL K B H vs ts F → vs[i]? = some v → ts[i]? = some t → ∃ G, Rp K B H v t G
  | _, _, _, i, _, _, .nil, e, _ => by simp at e
  | _, _, _, 0, _, _, .cons h1 h2, e1, e2 => by simp at e1 e2; subst e1; subst e2; exact ⟨_, h1⟩
  | _, _, _, i + 1, _, _, .cons h1 h2, e1, e2 => RpL.geto' (i := i) h2 (by simpa using e1) (by simpa using e2)
theorem l_ix {K : Frag} : LOp K (rIx K) gIx := fun B H x y tx ty Fx Fy hs rx ry Q hw Qv k => by
  match tx, ty, rx, ry, hw with
  | .lst _ xs, .int i, rx, ry, hw =>
    obtain ⟨a, vs, F', rfl, h1, r1⟩ := rx.lst_inv hs
    simp only [gIx] at hw
    cases e : atI xs i with
    | none => rw [e] at hw; exact hw.elim
    | some t =>
      rw [e] at hw
      obtain ⟨j, v, e1, e2, e3⟩ := atI_len r1.length e
      obtain ⟨G, r2⟩ := r1.geto' e2 e3
      exact .inl ⟨a, vs, i, v, rfl, ry.int_inv.1, h1, e1, k _ _ H B [] hw.2 (Gro.refl hs) (r2.c0 hw.1)⟩
  | .tup xs, .int i, rx, ry, hw =>
    obtain ⟨a, vs, rfl, h1, r1⟩ := rx.tup_inv hs
    simp only [gIx] at hw
    cases e : atI xs i with
    | none => rw [e] at hw; exact hw.elim
    | some t =>
      rw [e] at hw
      obtain ⟨j, v, e1, e2, e3⟩ := atI_len r1.length e
      obtain ⟨G, r2⟩ := r1.geto' e2 e3
      exact .inr (.inl ⟨a, vs, i, v, rfl, ry.int_inv.1, h1, e1, k _ _ H B [] hw.2 (Gro.refl hs) (r2.c0 hw.1)⟩)
  | .str z, .int i, rx, ry, hw =>
    simp only [gIx] at hw
    cases e : atI z.cps.toList i with
    | none => rw [e] at hw; exact hw.2.elim
    | some c =>
      rw [e] at hw
      exact .inr (.inr ⟨z, i, c, rx.str_inv.1, ry.int_inv.1, hw.1, e, k _ _ H B [] hw.2 (Gro.refl hs) (.str _)⟩)
theorem ce_ix {X : Cx} {a b : Expr} {wa wb : WE} {pos : Pos} (ha : CE X a wa) (hb : CE X b wb) (hs : PlainIx b := by exact fun _ _ => rfl) : CE X (.Subscript a b pos) (wOp gIx wa wb) := by
  obtain ⟨t1, p1, r1⟩ := ha
  obtain ⟨t2, p2, r2⟩ := hb
  exact ⟨_, pe_ix ix_seq p1 p2 hs, rf_op l_ix r1 r2⟩
/-- a part of a slice -/
abbrev WO := Dt → (Option Int → Dt → Prop) → Prop
def RfO (K : Frag) (to : TO) (w : WO) : Prop := ∀ (Δ : Dt) (Q : Option Int → Dt → Prop) (σ : Sg) (H B : Hp) (R : List Addr), Rep K B H R σ Δ → w Δ Q → ∀ Qv : Option Int → Hp → Prop,
  (∀ o Δ' H' B', Q o Δ' → Le B B' → Keep R H H' → Rep K B' H' R σ Δ' → Qv o H') → to σ H Qv
structure CO (X : Cx) (e : Option Expr) (w : WO) : Prop where
  ex : ∃ to, PO X e to ∧ RfO X.K to w
def woN : WO := fun Δ Q => Q none Δ
def woS (w : WE) : WO := fun Δ Q => w Δ fun p Δ1 => onV Δ1 p fun t => match t with
  | .int i => Q (some i) Δ1
  | _ => False
theorem co_none {X : Cx} : CO X none woN := ⟨_, po_none, fun Δ Q σ H B R hr hw Qv k => k none Δ H B hw (Le.refl B) Keep.refl hr⟩
theorem co_some {X : Cx} {e : Expr} {w : WE} (h : CE X e w) : CO X (some e) (woS w) := by
  obtain ⟨te, p, r⟩ := h
  refine ⟨_, po_some p, fun Δ Q σ H B R hr hw Qv k => ?_⟩
  refine r Δ _ σ H B R hr hw _ fun p Δ1 x H1 B1 hq hl1 hk1 ⟨G1, pr1, hr1⟩ => ?_
  obtain ⟨t, F, rx, o⟩ := pr1.tree hr1 hq
  match t, rx, o with
  | .int i, rx, o => exact ⟨i, rx.int_inv.1, k _ Δ1 H1 B1 o hl1 hk1 hr1.drop⟩
def cutT {α : Type} (xs : List α) (lo hi : Option Int) : List α := (xs.drop (HT.sIx xs.length 0 lo)).take (HT.sIx xs.length xs.length hi - HT.sIx xs.length 0 lo)
def gSl (x : T) (lo hi : Option Int) (Q : T → Prop) : Prop := match x with
  | .lst _ xs => closedL xs = true ∧ Q (.lst true (cutT xs lo hi))
  | .tup xs => closedL xs = true ∧ Q (.tup (cutT xs lo hi))
  | .str z => z.length ≤ sizeLine ∧ Q (.str (cutS z lo hi))
  | _ => False
def wSl (w : WE) (wl wh : WO) : WE := fun Δ Q => w Δ fun p Δ1 => wl Δ1 fun l Δ2 => wh Δ2 fun h Δ3 => onV Δ3 p fun x => gSl x l h fun t => Q (.val t) Δ3
def rSlAll (K : Frag) : V → Option Int → Option Int → Hp → VK → Prop := fun x lo hi H Q => rSlL K x lo hi H Q ∨ rSlA K x lo hi H Q ∨ rSlS x lo hi H Q
theorem cut_rp {K : Frag} {B H : Hp} {vs : List V} {ts : List T} {F : List Addr} (h : RpL K B H vs ts F) (c : closedL ts = true) (lo hi : Option Int) : RpL K B H (cutV vs lo hi) (cutT ts lo hi) [] := by
  have h0 := h.c0 c
  unfold cutV cutT
  rw [h.length]
  exact (h0.drop0 _ rfl).take0 _ rfl
theorem ce_slice {X : Cx} {e : Expr} {lo hi : Option Expr} {w : WE} {wl wh : WO} {p2 pos : Pos} (he : CE X e w) (hl : CO X lo wl) (hh : CO X hi wh) : CE X (.Subscript e (.Slice lo hi none p2) pos) (wSl w wl wh) := by
  obtain ⟨t1, p1, r1⟩ := he
  obtain ⟨t2, p2, r2⟩ := hl
  obtain ⟨t3, p3, r3⟩ := hh
  refine ⟨_, pe_slice (r := rSlAll X.K) (SlR.or sl_list (SlR.or sl_tupA sl_str)) p1 p2 p3, fun Δ Q σ H B R hr hw Qv k => ?_⟩
  refine r1 Δ _ σ H B R hr hw _ fun p Δ1 x H1 B1 hq hl1 hk1 ⟨G1, pr1, hr1⟩ => ?_
  refine r2 Δ1 _ σ H1 B1 (G1 ++ R) hr1 hq _ fun l Δ2 H2 B2 hq2 hl2 hk2 hr2 => ?_
  refine r3 Δ2 _ σ H2 B2 (G1 ++ R) hr2 hq2 _ fun u Δ3 H3 B3 hq3 hl3 hk3 hr3 => ?_
  have hkk := hk2.trans hk3
  obtain ⟨tx, Fx, rx, o⟩ := (pr1.mono (hl2.trans hl3) hkk.left).tree hr3 hq3
  have hr4 : Rep X.K B3 H3 R σ Δ3 := hr3.drop
  have k' : ∀ v t H' B' G, Q (.val t) Δ3 → Gro B3 H3 B' H' G → Rp X.K B' H' v t G → Qv v H' := fun v t H' B' G q g r =>
    k (.val t) Δ3 v H' B' q (((hl1.trans hl2).trans hl3).trans g.2.1) ((hk1.trans hkk.right).trans (hr4.keepExt g.1)) ⟨G, r, hr4.gro g⟩
  match tx, rx, o with
  | .lst _ xs, rx, o =>
    obtain ⟨a, vs, F', rfl, h1, r1⟩ := rx.lst_inv hr3.sub
    exact .inl ⟨a, vs, rfl, h1, new_lst (Q := fun t => Q (.val t) Δ3) hr3.sub (cut_rp r1 o.1 l u) o.2 k'⟩
  | .tup xs, rx, o =>
    obtain ⟨a, vs, rfl, h1, r1⟩ := rx.tup_inv hr3.sub
    refine .inr (.inl ⟨a, vs, rfl, h1, fun hz => ?_, fun _ => new_tup (Q := fun t => Q (.val t) Δ3) hr3.sub (cut_rp r1 o.1 l u) o.2 k'⟩)
    have e : cutT xs l u = xs := by
      unfold cutT
      rw [← r1.length, hz.1, hz.2, r1.length]; simp
    have q := o.2
    rw [e] at q
    exact k' _ _ H3 B3 [] q (Gro.refl hr3.sub) (rx.c0 (by simpa [closed] using o.1))
  | .str z, rx, o => exact .inr (.inr ⟨z, rx.str_inv.1, o.1, k' _ _ H3 B3 [] o.2 (Gro.refl hr3.sub) (.str _)⟩)
def gLen : List T → (T → Prop) → Prop
  | [.lst _ xs], Q => Q (.int xs.length)
  | [.tup xs], Q => Q (.int xs.length)
  | [.str x], Q => x.length ≤ sizeLine ∧ Q (.int x.length)
  | _, _ => False
def rLenA (K : Frag) : List V → Hp → VK → Prop := fun xs H Q => (∃ p ys, xs = [.ref p] ∧ (SqL K H p ys ∨ SqT K H p ys) ∧ Q (.int ys.length) H) ∨ ∃ z, xs = [.str z] ∧ z.length ≤ sizeLine ∧ Q (.int z.length) H
theorem call_lenA {X : Cx} : CallR X (.builtin "len") (rLenA X.K) := CallR.or call_len_seq call_len_str
theorem l_len {K : Frag} : LCl K (rLenA K) gLen := fun B H xs ts F hs r Q hw Qv k => by
  match ts, r, hw with
  | [.lst o ys], .cons r1 .nil, hw =>
    obtain ⟨a, vs, F', rfl, h1, r2⟩ := r1.lst_inv hs
    exact .inl ⟨a, vs, rfl, .inl h1, by rw [r2.length]; exact k _ _ H B [] hw (Gro.refl hs) (.int _)⟩
  | [.tup ys], .cons r1 .nil, hw =>
    obtain ⟨a, vs, rfl, h1, r2⟩ := r1.tup_inv hs
    exact .inl ⟨a, vs, rfl, .inr h1, by rw [r2.length]; exact k _ _ H B [] hw (Gro.refl hs) (.int _)⟩
  | [.str z], .cons r1 .nil, hw => exact .inr ⟨z, by rw [r1.str_inv.1], hw.1, k _ _ H B [] hw.2 (Gro.refl hs) (.int _)⟩
def gAbs : List T → (T → Prop) → Prop
  | [.int i], Q => Q (.int (if i < 0 then -i else i))
  | _, _ => False
theorem l_abs {K : Frag} : LCl K (fun xs H Q => ∃ i, xs = [.int i] ∧ Q (.int (if i < 0 then -i else i)) H) gAbs := fun B H xs ts F hs r Q hw Qv k => by
  match ts, r, hw with
  | [.int i], .cons r1 .nil, hw => exact ⟨i, by rw [r1.int_inv.1], k _ _ H B [] hw (Gro.refl hs) (.int _)⟩
def gInt : List T → (T → Prop) → Prop
  | [.int i], Q => Q (.int i)
  | [.bl b], Q => Q (.int (if b then 1 else 0))
  | _, _ => False
theorem l_int {K : Frag} : LCl K (fun xs H Q => (∃ i, xs = [.int i] ∧ Q (.int i) H) ∨ ∃ k, xs = [.bl k] ∧ Q (.int (if k then 1 else 0)) H) gInt := fun B H xs ts F hs r Q hw Qv k => by
  match ts, r, hw with
  | [.int i], .cons r1 .nil, hw => exact .inl ⟨i, by rw [r1.int_inv.1], k _ _ H B [] hw (Gro.refl hs) (.int _)⟩
  | [.bl i], .cons r1 .nil, hw => exact .inr ⟨i, by rw [r1.bl_inv.1], k _ _ H B [] hw (Gro.refl hs) (.int _)⟩
def gMax2 : List T → (T → Prop) → Prop
  | [.int i, .int j], Q => Q (.int (if j > i then j else i))
  | _, _ => False
def gMin2 : List T → (T → Prop) → Prop
  | [.int i, .int j], Q => Q (.int (if j < i then j else i))
  | _, _ => False
theorem l_max2 {K : Frag} : LCl K (fun xs H Q => ∃ i j, xs = [.int i, .int j] ∧ Q (.int (if j > i then j else i)) H) gMax2 := fun B H xs ts F hs r Q hw Qv k => by
  match ts, r, hw with
  | [.int i, .int j], .cons r1 (.cons r2 .nil), hw => exact ⟨i, j, by rw [r1.int_inv.1, r2.int_inv.1], k _ _ H B [] hw (Gro.refl hs) (.int _)⟩
theorem l_min2 {K : Frag} : LCl K (fun xs H Q => ∃ i j, xs = [.int i, .int j] ∧ Q (.int (if j < i then j else i)) H) gMin2 := fun B H xs ts F hs r Q hw Qv k => by
  match ts, r, hw with
  | [.int i, .int j], .cons r1 (.cons r2 .nil), hw => exact ⟨i, j, by rw [r1.int_inv.1, r2.int_inv.1], k _ _ H B [] hw (Gro.refl hs) (.int _)⟩
/-- ints of a list -/
def intsT : List T → Option (List Int)
  | [] => some []
  | .int i :: r => (intsT r).map (i :: ·)
  | _ :: _ => none
theorem intsT_of {K : Frag} {B H : Hp} : ∀ {vs : List V} {ts : List T} {F : List Addr} {ns : List Int}, RpL K B H vs ts F → intsT ts = some ns → vs = ns.map V.int ∧ ts = ns.map T.int
  | _, _, _, ns, .nil, e => by simp [intsT] at e; subst e; exact ⟨rfl, rfl⟩
  | _, _, _, ns, .cons (t := t) (ts := ts) h1 h2, e => by
    cases t with
    | int i =>
      simp only [intsT] at e
      cases q : intsT ts with
      | none => rw [q] at e; cases e
      | some ms =>
        rw [q] at e; cases e
        obtain ⟨a, b⟩ := intsT_of h2 q
        exact ⟨by rw [h1.int_inv.1, a]; rfl, by rw [b]; rfl⟩
    | _ => simp [intsT] at e
def gMaxL : List T → (T → Prop) → Prop
  | [.lst _ xs], Q => match intsT xs with
    | some ns => 0 < ns.length ∧ ∀ m, m ∈ ns → (∀ y, y ∈ ns → y ≤ m) → Q (.int m)
    | none => False
  | _, _ => False
theorem l_maxL {K : Frag} : LCl K (rMax K) gMaxL := fun B H xs ts F hs r Q hw Qv k => by
  match ts, r, hw with
  | [.lst o ys], .cons r1 .nil, hw =>
    obtain ⟨a, vs, F', rfl, h1, r2⟩ := r1.lst_inv hs
    simp only [gMaxL] at hw
    cases e : intsT ys with
    | none => rw [e] at hw; exact hw.elim
    | some ns =>
      rw [e] at hw
      obtain ⟨e1, e2⟩ := intsT_of r2 e
      exact ⟨a, ns, rfl, by rw [← e1]; exact h1, hw.1, fun m h2 h3 => k _ _ H B [] (hw.2 m h2 h3) (Gro.refl hs) (.int _)⟩
def gMinL : List T → (T → Prop) → Prop
  | [.lst _ xs], Q => match intsT xs with
    | some ns => 0 < ns.length ∧ ∀ m, m ∈ ns → (∀ y, y ∈ ns → m ≤ y) → Q (.int m)
    | none => False
  | _, _ => False
theorem l_minL {K : Frag} : LCl K (rMin K) gMinL := fun B H xs ts F hs r Q hw Qv k => by
  match ts, r, hw with
  | [.lst o ys], .cons r1 .nil, hw =>
    obtain ⟨a, vs, F', rfl, h1, r2⟩ := r1.lst_inv hs
    simp only [gMinL] at hw
    cases e : intsT ys with
    | none => rw [e] at hw; exact hw.elim
    | some ns =>
      rw [e] at hw
      obtain ⟨e1, e2⟩ := intsT_of r2 e
      exact ⟨a, ns, rfl, by rw [← e1]; exact h1, hw.1, fun m h2 h3 => k _ _ H B [] (hw.2 m h2 h3) (Gro.refl hs) (.int _)⟩
/-- bools of a list -/
def blsT : List T → Option (List Bool)
  | [] => some []
  | .bl i :: r => (blsT r).map (i :: ·)
  | _ :: _ => none
theorem blsT_of {K : Frag} {B H : Hp} : ∀ {vs : List V} {ts : List T} {F : List Addr} {ns : List Bool}, RpL K B H vs ts F → blsT ts = some ns → vs = ns.map V.bl ∧ ts = ns.map T.bl
  | _, _, _, ns, .nil, e => by simp [blsT] at e; subst e; exact ⟨rfl, rfl⟩
  | _, _, _, ns, .cons (t := t) (ts := ts) h1 h2, e => by
    cases t with
    | bl i =>
      simp only [blsT] at e
      cases q : blsT ts with
      | none => rw [q] at e; cases e
      | some ms =>
        rw [q] at e; cases e
        obtain ⟨a, b⟩ := blsT_of h2 q
        exact ⟨by rw [h1.bl_inv.1, a]; rfl, by rw [b]; rfl⟩
    | _ => simp [blsT] at e
/-- texts of a list -/
def strsT : List T → Option (List Str)
  | [] => some []
  | .str i :: r => (strsT r).map (i :: ·)
  | _ :: _ => none
theorem strsT_of {K : Frag} {B H : Hp} : ∀ {vs : List V} {ts : List T} {F : List Addr} {ns : List Str}, RpL K B H vs ts F → strsT ts = some ns → vs = ns.map V.str ∧ ts = ns.map T.str
  | _, _, _, ns, .nil, e => by simp [strsT] at e; subst e; exact ⟨rfl, rfl⟩
  | _, _, _, ns, .cons (t := t) (ts := ts) h1 h2, e => by
    cases t with
    | str i =>
      simp only [strsT] at e
      cases q : strsT ts with
      | none => rw [q] at e; cases e
      | some ms =>
        rw [q] at e; cases e
        obtain ⟨a, b⟩ := strsT_of h2 q
        exact ⟨by rw [h1.str_inv.1, a]; rfl, by rw [b]; rfl⟩
    | _ => simp [strsT] at e
def gListOf : List T → (T → Prop) → Prop
  | [.lst _ xs], Q => closedL xs = true ∧ Q (.lst true xs)
  | [.tup xs], Q => closedL xs = true ∧ Q (.lst true xs)
  | _, _ => False
theorem l_listOf {K : Frag} : LCl K (fun xs H Q => ∃ p ys, xs = [.ref p] ∧ (SqL K H p ys ∨ SqT K H p ys) ∧ ∀ l, H l = none → Q (.ref l) (upd H l (.lst ys))) gListOf := fun B H xs ts F hs r Q hw Qv k => by
  match ts, r, hw with
  | [.lst o ys], .cons r1 .nil, hw =>
    obtain ⟨a, vs, F', rfl, h1, r2⟩ := r1.lst_inv hs
    exact ⟨a, vs, rfl, .inl h1, new_lst hs (r2.c0 hw.1) hw.2 k⟩
  | [.tup ys], .cons r1 .nil, hw =>
    obtain ⟨a, vs, rfl, h1, r2⟩ := r1.tup_inv hs
    exact ⟨a, vs, rfl, .inr h1, new_lst hs (r2.c0 hw.1) hw.2 k⟩
def gTupleOf : List T → (T → Prop) → Prop
  | [.lst _ xs], Q => closedL xs = true ∧ Q (.tup xs)
  | [.tup xs], Q => closedL xs = true ∧ Q (.tup xs)
  | _, _ => False
theorem l_tupleOf {K : Frag} : LCl K (fun xs H Q => ∃ p ys, xs = [.ref p] ∧ ((SqL K H p ys ∧ ∀ l, H l = none → Q (.ref l) (upd H l (.tup ys))) ∨ (SqT K H p ys ∧ Q (.ref p) H))) gTupleOf := fun B H xs ts F hs r Q hw Qv k => by
  match ts, r, hw with
  | [.lst o ys], .cons r1 .nil, hw =>
    obtain ⟨a, vs, F', rfl, h1, r2⟩ := r1.lst_inv hs
    exact ⟨a, vs, rfl, .inl ⟨h1, new_tup hs (r2.c0 hw.1) hw.2 k⟩⟩
  | [.tup ys], .cons r1 .nil, hw =>
    obtain ⟨a, vs, e, h1, r2⟩ := r1.tup_inv hs
    subst e
    exact ⟨a, vs, rfl, .inr ⟨h1, k _ _ H B [] hw.2 (Gro.refl hs) (r1.c0 (by simpa [closed] using hw.1))⟩⟩
/-- isinstance of a built-in class -/
def tyN : T → String
  | .non => "NoneType" | .bl _ => "bool" | .int _ => "int" | .str _ => "str" | .tup _ => "tuple" | .lst _ _ => "list" | .dct _ _ => "dict" | _ => ""
def isiB (a n : String) : Bool := a == n || (a == "bool" && n == "int")
def gIsi : List T → (T → Prop) → Prop
  | [t, .ty n], Q => (tyN t == "") = false ∧ (["int", "bool", "str", "list", "tuple", "dict"].contains n) = true ∧ Q (.bl (isiB (tyN t) n))
  | _, _ => False
theorem isi_all : (["NoneType", "bool", "int", "str", "tuple", "list", "dict"].all fun a => ["int", "bool", "str", "list", "tuple", "dict"].all fun n => kitB a n == some (isiB a n)) = true := by decide +kernel
theorem tyX_of {K : Frag} {B H : Hp} {v : V} {t : T} {F : List Addr} (hs : Sub B H) (h : Rp K B H v t F) (ht : (tyN t == "") = false) : TyX K H v (.type (tyN t)) ∧ tyN t ∈ ["NoneType", "bool", "int", "str", "tuple", "list", "dict"] := by
  cases h with
  | non => exact ⟨.base .non, by simp [tyN]⟩
  | bl b => exact ⟨.base (.bl b), by simp [tyN]⟩
  | int i => exact ⟨.base (.int i), by simp [tyN]⟩
  | str x => exact ⟨.base (.str x), by simp [tyN]⟩
  | fn a => simp [tyN] at ht
  | ty n => simp [tyN] at ht
  | exc0 a x => simp [tyN] at ht
  | exv0 h1 => simp [tyN] at ht
  | exvD h0 h1 h2 h3 => simp [tyN] at ht
  | excD h1 h2 h3 => simp [tyN] at ht
  | tup h1 h2 =>
    refine ⟨?_, by simp [tyN]⟩
    rcases hs.le.sqT h1 with (h | ⟨o, h⟩) | ⟨o, its, n, e, c, _⟩
    · exact .base (.tup h)
    · exact .fTuple h
    · exact .kTuple e c
  | lstF h1 h2 =>
    refine ⟨?_, by simp [tyN]⟩
    rcases hs.le.rdL h1 with (h | ⟨o, h⟩) | ⟨its, n, e, _⟩
    · exact .base (.lst h)
    · exact .base (.frz h)
    · exact .kList e rfl
  | lstO h1 h2 => exact ⟨.base (.lst h1), by simp [tyN]⟩
  | dctF h1 h2 h3 =>
    refine ⟨?_, by simp [tyN]⟩
    rcases hs.le.rd rfl h1 with h | ⟨o, h⟩
    · exact .base (.dK h)
    · exact .fDict h
  | dctO h1 h2 h3 => exact ⟨.base (.dK h1), by simp [tyN]⟩
  | insF h1 h2 h3 => simp [tyN] at ht
  | insO h1 h0 h2 h3 => simp [tyN] at ht
theorem l_isi {K : Frag} : LCl K (rIsi K) gIsi := fun B H xs ts F hs r Q hw Qv k => by
  match ts, r, hw with
  | [t, .ty n], .cons r1 (.cons r2 .nil), hw =>
    cases r2
    obtain ⟨h1, h2⟩ := tyX_of hs r1 hw.1
    have h3 := List.all_eq_true.mp (List.all_eq_true.mp isi_all _ h2) n (by simpa using hw.2.1)
    refine ⟨_, .ty n, .type (tyN t), .type n, isiB (tyN t) n, rfl, .ty n, h1, kit_ty (by simpa using h3), k _ _ H B [] hw.2.2 (Gro.refl hs) (.bl _)⟩
/-- the items: what names hold is frozen -/
def wTakes (ps : List PV) (Δ : Dt) (k : List T → Dt → Prop) : Prop := match ps with
  | [] => k [] Δ
  | p :: r => wTake p Δ fun t Δ1 => wTakes r Δ1 fun ts Δ2 => k (frz t :: ts) Δ2
def wTup (wa : WA) : WE := fun Δ Q => wa Δ fun ps Δ1 => wTakes ps Δ1 fun ts Δ2 => ts.length ≤ sizeLine ∧ Q (.val (.tup ts)) Δ2
def wLst (wa : WA) : WE := fun Δ Q => wa Δ fun ps Δ1 => wTakes ps Δ1 fun ts Δ2 => ts.length ≤ sizeLine ∧ Q (.val (.lst true ts)) Δ2
section
variable {K : Frag} {B H : Hp} {R : List Addr} {σ : Sg}
theorem takes_ok : ∀ {ps : List PV} {vs : List V} {G : List Addr} {Δ : Dt} {B : Hp} {k : List T → Dt → Prop}, PvL K B H σ ps vs G → Rep K B H (G ++ R) σ Δ → wTakes ps Δ k → ∃ ts Δ' B', k ts Δ' ∧ Le B B' ∧ RpL K B' H vs ts [] ∧ Rep K B' H R σ Δ'
  | _, _, _, Δ, B, k, .nil, hr, hw => ⟨[], Δ, B, hw, Le.refl B, .nil, hr⟩
  | _, _, _, Δ, B, k, .cons (p := p) (ps := ps) (v := v) (vs := vs) (F := F) (G := G) h1 h2, hr, hw => by
    have o : Out K B H (G ++ R) σ Δ p v := ⟨F, h1, by rw [List.append_assoc] at hr; exact hr⟩
    obtain ⟨t, Δ1, B1, q, hl, r, hr1⟩ := take_fr o hw
    obtain ⟨ts, Δ2, B2, q2, hl2, r2, hr2⟩ := takes_ok (h2.mono hl fun _ _ => rfl) hr1 q
    exact ⟨frz t :: ts, Δ2, B2, q2, hl.trans hl2, RpL.cons (F := []) (G := []) (r.mono hl2 fun _ z => nomatch z) r2, hr2⟩
end
section
variable {K : Frag} {ta : TA} {wa : WA}
theorem rf_tup (h : RfA K ta wa) : RfE K (tTup ta) (wTup wa) := fun Δ Q σ H B R hr hw Qv k => by
  refine h Δ _ σ H B R hr hw _ fun ps Δ1 vs H1 B1 hq hl1 hk1 ⟨G1, pr1, hr1⟩ => ?_
  obtain ⟨ts, Δ2, B2, q, hl2, r, hr2⟩ := takes_ok pr1 hr1 hq
  exact ⟨by rw [r.length]; exact q.1, new_tup (Q := fun t => Q (.val t) Δ2) hr2.sub r q.2 fun v t H' B' G q g r => k (.val t) Δ2 v H' B' q ((hl1.trans hl2).trans g.2.1) (hk1.trans (hr2.keepExt g.1)) ⟨G, r, hr2.gro g⟩⟩
theorem rf_lst (h : RfA K ta wa) : RfE K (tLst ta) (wLst wa) := fun Δ Q σ H B R hr hw Qv k => by
  refine h Δ _ σ H B R hr hw _ fun ps Δ1 vs H1 B1 hq hl1 hk1 ⟨G1, pr1, hr1⟩ => ?_
  obtain ⟨ts, Δ2, B2, q, hl2, r, hr2⟩ := takes_ok pr1 hr1 hq
  exact ⟨by rw [r.length]; exact q.1, new_lst (Q := fun t => Q (.val t) Δ2) hr2.sub r q.2 fun v t H' B' G q g r => k (.val t) Δ2 v H' B' q ((hl1.trans hl2).trans g.2.1) (hk1.trans (hr2.keepExt g.1)) ⟨G, r, hr2.gro g⟩⟩
end
theorem ce_tup {X : Cx} {es : List Expr} {wa : WA} {x1 : Nat} {pos : Pos} (h : CA X es wa) : CE X (.Tuple es x1 pos) (wTup wa) := by
  obtain ⟨ta, p, r⟩ := h
  exact ⟨_, pe_tup p, rf_tup r⟩
theorem ce_lst {X : Cx} {es : List Expr} {wa : WA} {pos : Pos} (h : CA X es wa) : CE X (.List es pos) (wLst wa) := by
  obtain ⟨ta, p, r⟩ := h
  exact ⟨_, pe_lst p, rf_lst r⟩
/-- *xs in a display: its items -/
def wStar (we : WE) (wr : WA) : WA := fun Δ Q => we Δ fun p Δ1 => wTake p Δ1 fun t Δ2 => match t with
  | .lst _ xs => wr Δ2 fun ps Δ3 => Q ((frzL xs).map PV.val ++ ps) Δ3
  | .tup xs => wr Δ2 fun ps Δ3 => Q ((frzL xs).map PV.val ++ ps) Δ3
  | _ => False
theorem PvL.vals {K : Frag} {B H : Hp} {σ : Sg} : ∀ {vs : List V} {ts : List T}, RpL K B H vs ts [] → PvL K B H σ (ts.map PV.val) vs [] := by
  have gen : ∀ {vs : List V} {ts : List T} {F : List Addr}, RpL K B H vs ts F → F = [] → PvL K B H σ (ts.map PV.val) vs [] := by
    intro vs ts F h
    induction vs generalizing ts F with
    | nil => intro _; cases h; exact .nil
    | cons v vs ih =>
      intro e
      cases h with
      | @cons _ _ t ts F G h1 h2 =>
        have e := List.append_eq_nil_iff.mp e
        have h3 := h1
        rw [e.1] at h3
        exact PvL.cons (F := []) (G := []) h3 (ih h2 e.2)
  intro vs ts h
  exact gen h rfl
theorem PvL.append {K : Frag} {B H : Hp} {σ : Sg} : ∀ {ps qs : List PV} {vs ws : List V} {F G : List Addr}, PvL K B H σ ps vs F → PvL K B H σ qs ws G → PvL K B H σ (ps ++ qs) (vs ++ ws) (F ++ G)
  | _, _, _, _, _, _, .nil, h => h
  | _, _, _, _, _, _, .cons h1 h2, h => by rw [List.append_assoc]; exact .cons h1 (h2.append h)
theorem ca_star {X : Cx} {e : Expr} {es : List Expr} {p : Pos} {we : WE} {wr : WA} (he : CE X e we) (hr : CA X es wr) (hs : starEach (.Starred e p :: es) X.env = (true, eval e X.env) :: starEach es X.env := by rfl) : CA X (.Starred e p :: es) (wStar we wr) := by
  obtain ⟨te, p1, r1⟩ := he
  obtain ⟨tr, p2, r2⟩ := hr
  refine ⟨_, StX.pa_star p1 p2 hs, fun Δ Q σ H B R hr hw Qv k => ?_⟩
  refine r1 Δ _ σ H B R hr hw _ fun p Δ1 v H1 B1 hq hl1 hk1 o => ?_
  obtain ⟨t, Δ2, B2, q, hl2, r, hr2⟩ := take_fr o hq
  have fin : ∀ (a : Addr) (vs : List V) (xs : List T), v = .ref a → (SqT X.K H1 a vs ∨ SqL X.K H1 a vs) → RpL X.K B2 H1 vs (frzL xs) [] → wr Δ2 (fun ps Δ3 => Q ((frzL xs).map PV.val ++ ps) Δ3) →
      ∃ p xs, v = V.ref p ∧ (SqT X.K H1 p xs ∨ SqL X.K H1 p xs) ∧ tr σ H1 fun ys H2 => Qv (xs ++ ys) H2 := fun a vs xs e hsq hL hw2 => by
    refine ⟨a, vs, e, hsq, r2 Δ2 _ σ H1 B2 R hr2 hw2 _ fun ps Δ3 ws H3 B3 q3 hl3 hk3 ⟨G3, pr3, hr3⟩ => ?_⟩
    refine k _ Δ3 _ H3 B3 q3 ((hl1.trans hl2).trans hl3) (hk1.trans hk3) ⟨[] ++ G3, (PvL.vals (hL.mono hl3 fun _ z => nomatch z)).append pr3, hr3⟩
  match t, r, q with
  | .lst o xs, r, q =>
    simp only [frz] at r
    cases r with
    | lstF h1 h2 => exact fin _ _ xs rfl (.inr (hr2.sub.le.rdL h1).sq) h2 q
  | .tup xs, r, q =>
    simp only [frz] at r
    cases r with
    | tup h1 h2 => exact fin _ _ xs rfl (.inl (hr2.sub.le.sqT h1)) h2 q
section
variable {K : Frag} {B H : Hp} {R : List Addr} {σ : Sg} {Δ : Dt} {i : Nat} {v : V} {xs : List T}
/-- the list in a slot, changed -/
theorem slot_lst (h : Rep K B H R σ Δ) (e : Δ[i]? = some (some (.lst true xs))) : ∃ a vs F, σ[i]? = some (some (.ref a)) ∧ H a = some (.lst vs) ∧ RpL K B H vs xs F ∧
    ∀ (vs' : List V) (xs' : List T), (∀ H', (∀ b ∈ F, H' b = H b) → RpL K B H' vs' xs' F) → Rep K B (upd H a (.lst vs')) R σ (Δ.set i (some (.lst true xs'))) ∧ Keep R H (upd H a (.lst vs')) := by
  obtain ⟨v, G, e1, r, h1⟩ := h.out e
  cases r with
  | @lstO a vs ts F h2 h3 =>
    refine ⟨a, vs, F, e1, h2, h3, fun vs' xs' hr => ?_⟩
    have h1' : Rep K B H (a :: (F ++ R)) σ (Δ.set i none) := h1
    obtain ⟨h4, h5⟩ := h1'.updR (o := .lst vs')
    have r' : Rp K B (upd H a (.lst vs')) (.ref a) (.lst true xs') (a :: F) := .lstO upd_same (hr _ fun b hb => h5 b (List.mem_append_left _ hb))
    have h6 := Rep.set (i := i) (x := some (.ref a)) (d := some (.lst true xs')) (G := a :: F) h4 r'
    rw [set_same e1, List.set_set] at h6
    exact ⟨h6, h5.right⟩
/-- the dict in a slot, changed -/
theorem slot_dct {kvs : List (Key × T)} (h : Rep K B H R σ Δ) (e : Δ[i]? = some (some (.dct true kvs))) : ∃ a kv F, σ[i]? = some (some (.ref a)) ∧ H a = some (.dK kv) ∧ kv.map (·.1) = kvs.map (·.1) ∧ RpL K B H (kv.map (·.2)) (kvs.map (·.2)) F ∧
    ∀ (kv' : List (Key × V)) (kvs' : List (Key × T)), kv'.map (·.1) = kvs'.map (·.1) → (∀ H', (∀ b ∈ F, H' b = H b) → RpL K B H' (kv'.map (·.2)) (kvs'.map (·.2)) F) → Rep K B (upd H a (.dK kv')) R σ (Δ.set i (some (.dct true kvs'))) ∧ Keep R H (upd H a (.dK kv')) := by
  obtain ⟨v, G, e1, r, h1⟩ := h.out e
  cases r with
  | @dctO a vs ts F h2 h0 h3 =>
    refine ⟨a, vs, F, e1, h2, h0, h3, fun vs' xs' hk hr => ?_⟩
    have h1' : Rep K B H (a :: (F ++ R)) σ (Δ.set i none) := h1
    obtain ⟨h4, h5⟩ := h1'.updR (o := .dK vs')
    have r' : Rp K B (upd H a (.dK vs')) (.ref a) (.dct true xs') (a :: F) := .dctO upd_same hk (hr _ fun b hb => h5 b (List.mem_append_left _ hb))
    have h6 := Rep.set (i := i) (x := some (.ref a)) (d := some (.dct true xs')) (G := a :: F) h4 r'
    rw [set_same e1, List.set_set] at h6
    exact ⟨h6, h5.right⟩
end
/-- xs.append(e) -/
def wApp (i : Nat) (we : WE) : WE := fun Δ Q => look Δ i fun t0 => match t0 with
  | .lst _ _ => we Δ fun p Δ1 => wTake p Δ1 fun y Δ2 => look Δ2 i fun t => match t with
    | .lst true xs => closedL xs = true ∧ xs.length < sizeLine ∧ Q (.val .non) (Δ2.set i (some (.lst true (xs ++ [frz y]))))
    | _ => False
  | _ => False
theorem rf_app {K : Frag} {i : Nat} {te : TE} {we : WE} (h : RfE K te we) : RfE K (tBM K "list" rAppend (tVar i) (tCons te tNil)) (wApp i we) := fun Δ Q σ H B R hr hw Qv k => by
  obtain ⟨t0, e0, hw⟩ := look_iff hw
  obtain ⟨v, G, e1, r0⟩ := hr.get e0
  refine ⟨v, e1, ?_⟩
  match t0, r0, hw with
  | .lst o xs0, r0, hw =>
    obtain ⟨a, vs0, F0, rfl, hL0, _⟩ := r0.lst_inv hr.sub
    refine ⟨.inl ⟨rfl, vs0, hL0⟩, ?_⟩
    refine h Δ _ σ H B R hr hw _ fun p Δ1 y H1 B1 hq hl1 hk1 o1 => ?_
    obtain ⟨t, Δ2, B2, q, hl2, ry, hr2⟩ := take_fr o1 hq
    obtain ⟨tl, el, q⟩ := look_iff q
    match tl, el, q with
    | .lst true xs, el, q =>
      obtain ⟨b, vs, F, e2, hH, hL, upd'⟩ := slot_lst hr2 el
      rw [e1] at e2; cases e2
      have hc := q.1
      have hF := hL.nil_of_closed hc
      subst hF
      have hL2 : ∀ H', (∀ b ∈ ([] : List Addr), H' b = H1 b) → RpL K B2 H' (vs ++ [y]) (xs ++ [frz t]) [] := fun H' _ =>
        RpL.append (F := []) (G := []) (hL.mono (Le.refl _) fun _ z => nomatch z) (RpL.cons (F := []) (G := []) (ry.mono (Le.refl _) fun _ z => nomatch z) .nil)
      obtain ⟨h5, h6⟩ := upd' _ _ hL2
      exact ⟨a, vs, y, rfl, rfl, hH, by rw [hL.length]; exact q.2.1, k (.val .non) _ .non _ B2 q.2.2 (hl1.trans hl2) (hk1.trans h6) ⟨[], .non, h5⟩⟩
theorem ce_app {X : Cx} {i : Nat} {e : Expr} {we : WE} {x : Str} {p apos cpos : Pos} (he : CE X e we) (hN : X.N[i]? = some x := by rfl) (hv : Vis X.env.scope x := by first | exact Or.inl rfl | exact Or.inr (Or.inl rfl) | exact Or.inr (Or.inr rfl)) (hd : (x == ("__debug__" : Str)) = false := by decide)
    (hcd : (x == ("__classdict__" : Str)) = false := by decide) (hbase : attributeBase (.Name x p) "append" X.env (eval (.Name x p) X.env) = eval (.Name x p) X.env := by rfl)
    (hfew : ((backTo cpos (starEach [e] X.env)).all (fun x => !x.1) && (backToKw cpos (keywordEach [] X.env)).all (fun x => x.1.isSome) && decide ([e].length + ([] : List Keyword).length + (if ([] : List Keyword).isEmpty then 0 else 1) < 30)) = true := by rfl)
    (hline : (apos.endLine == cpos.line) = true := by rfl) (hs : starEach [e] X.env = (false, eval e X.env) :: starEach [] X.env := by rfl) (hplain : (backTo cpos (starEach [] X.env)).any (·.1) = false := by rfl) : CE X (.Call (.Attribute (.Name x p) "append" apos) [e] [] cpos) (wApp i we) := by
  obtain ⟨te, p1, r1⟩ := he
  exact ⟨_, pe_bm PySem.F.plainAttrs_list PySem.F.slot_list_append PySem.F.type_list_append mt_append (pe_var hN hv hd hcd) (pa_cons p1 pa_nil hs) hbase hfew hline hs hplain, rf_app r1⟩
/-- xs[j] = e, d[k] = e -/
def keyOf : T → Option Key
  | .int i => some (.inl i)
  | .str x => some (.inr x)
  | _ => none
def putT (kvs : List (Key × T)) (k : Key) (v : T) : List (Key × T) :=
  if (kvs.any fun q => decide (q.1 = k)) = true then kvs.map (fun q => if q.1 = k then (q.1, v) else q) else kvs ++ [(k, v)]
def wgSub (i : Nat) (wi : WE) : WG := fun t Δ Q => look Δ i fun _ => wi Δ fun q Δ1 => onV Δ1 q fun j => look Δ1 i fun l => match l with
  | .lst true xs => closedL xs = true ∧ match j with
    | .int n => match ixN xs.length n with
      | some m => Q (Δ1.set i (some (.lst true (xs.set m (frz t)))))
      | none => False
    | _ => False
  | .dct true kvs => closedK kvs = true ∧ match keyOf j with
    | some kk => kvs.length < sizeLine ∧ Q (Δ1.set i (some (.dct true (putT kvs kk (frz t)))))
    | none => False
  | _ => False
def rSetA : TSet := fun o i v H Q => rSetL o i v H Q ∨ rSetD o i v H Q
theorem set_any {X : Cx} (hu : X.A.units + 1 < cLine) : PSet X rSetA := fun pins s σ H o i v ov iv u Q I r1 r2 r3 h => h.elim (set_list pins s σ H o i v ov iv u Q I r1 r2 r3) (set_dict hu pins s σ H o i v ov iv u Q I r1 r2 r3)
theorem RpL.set0 {K : Frag} {B H : Hp} : ∀ {vs : List V} {ts : List T} {F : List Addr} {j : Nat} {v : V} {t : T}, RpL K B H vs ts F → F = [] → Rp K B H v t [] → RpL K B H (vs.set j v) (ts.set j t) []
  | _, _, _, _, _, _, .nil, _, _ => .nil
  | _, _, _, 0, _, _, .cons h1 h2, e, r => by
    have e := List.append_eq_nil_iff.mp e
    have h3 := h2
    rw [e.2] at h3
    exact RpL.cons (F := []) (G := []) r h3
  | _, _, _, j + 1, _, _, .cons h1 h2, e, r => by
    have e := List.append_eq_nil_iff.mp e
    have h3 := h1
    rw [e.1] at h3
    exact RpL.cons (F := []) (G := []) h3 (RpL.set0 h2 e.2 r)
theorem kv_of {K : Frag} {B H : Hp} : ∀ {kv : List (Key × V)} {kvs : List (Key × T)} {F : List Addr}, kv.map (·.1) = kvs.map (·.1) → RpL K B H (kv.map (·.2)) (kvs.map (·.2)) F → F = [] → Paired (fun (p : Key × V) (q : Key × T) => p.1 = q.1 ∧ Rp K B H p.2 q.2 []) kv kvs
  | [], [], _, _, _, _ => .nil
  | [], _ :: _, _, e, _, _ => by simp at e
  | _ :: _, [], _, e, _, _ => by simp at e
  | (k, v) :: kv, (k', t) :: kvs, F, e, h, hF => by
    simp only [List.map_cons, List.cons.injEq] at e
    simp only [List.map_cons] at h
    obtain ⟨F1, F2, e1, r1, r2⟩ := h.one
    subst e1
    have hF := List.append_eq_nil_iff.mp hF
    have r3 := r1
    rw [hF.1] at r3
    exact .cons ⟨e.1, r3⟩ (kv_of e.2 r2 hF.2)
theorem kv_to {K : Frag} {B H : Hp} : ∀ {kv : List (Key × V)} {kvs : List (Key × T)}, Paired (fun (p : Key × V) (q : Key × T) => p.1 = q.1 ∧ Rp K B H p.2 q.2 []) kv kvs → kv.map (·.1) = kvs.map (·.1) ∧ RpL K B H (kv.map (·.2)) (kvs.map (·.2)) []
  | _, _, .nil => ⟨rfl, .nil⟩
  | _, _, .cons h1 h2 => by
    obtain ⟨a, b⟩ := kv_to h2
    exact ⟨by simp only [List.map_cons]; rw [h1.1, a], RpL.cons (F := []) (G := []) h1.2 b⟩
theorem kv_put {K : Frag} {B H : Hp} {kk : Key} {v : V} {t : T} (r : Rp K B H v t []) {kv : List (Key × V)} {kvs : List (Key × T)} (h : Paired (fun (p : Key × V) (q : Key × T) => p.1 = q.1 ∧ Rp K B H p.2 q.2 []) kv kvs) :
    Paired (fun (p : Key × V) (q : Key × T) => p.1 = q.1 ∧ Rp K B H p.2 q.2 []) (putK kv kk v) (putT kvs kk t) := by
  have hany : (kv.any fun p => decide (p.1 = kk)) = kvs.any fun p => decide (p.1 = kk) := by
    induction h with
    | nil => rfl
    | cons h1 _ ih => simp only [List.any_cons]; rw [h1.1, ih]
  unfold putK putT
  rw [hany]
  split
  · clear hany
    induction h with
    | nil => exact .nil
    | @cons p q _ _ h1 h2 ih =>
      rename_i hh
      refine .cons ?_ ?_
      · show (if p.1 = kk then (p.1, v) else p).1 = (if q.1 = kk then (q.1, t) else q).1 ∧ Rp K B H (if p.1 = kk then (p.1, v) else p).2 (if q.1 = kk then (q.1, t) else q).2 []
        rw [h1.1]
        split
        · exact ⟨rfl, r⟩
        · exact h1
      · clear ih hh
        induction h2 with
        | nil => exact .nil
        | @cons p q _ _ h1 h2 ih =>
          refine .cons ?_ ih
          show (if p.1 = kk then (p.1, v) else p).1 = (if q.1 = kk then (q.1, t) else q).1 ∧ Rp K B H (if p.1 = kk then (p.1, v) else p).2 (if q.1 = kk then (q.1, t) else q).2 []
          rw [h1.1]
          split
          · exact ⟨rfl, r⟩
          · exact h1
  · clear hany
    induction h with
    | nil => exact .cons ⟨rfl, r⟩ .nil
    | @cons p q _ _ h1 h2 ih =>
      rename_i hh
      refine .cons h1 ?_
      clear ih hh
      induction h2 with
      | nil => exact .cons ⟨rfl, r⟩ .nil
      | cons h1 h2 ih => exact .cons h1 ih
theorem keyOf_V {K : Frag} {B H : Hp} {v : V} {t : T} {F : List Addr} {kk : Key} (h : Rp K B H v t F) (e : keyOf t = some kk) : v = kV kk := by
  cases h with
  | int i => cases e; rfl
  | str x => cases e; rfl
  | _ => cases e
theorem rf_gSub {K : Frag} {S : Nat → Prop} {i : Nat} {ti : TE} {wi : WE} (h : RfE K ti wi) : RfG K S (L2.gSub (tVar i) ti rSetA) (wgSub i wi) := fun t Δ Q σ H B R G v hr r hw Qv k => by
  obtain ⟨B0, hl0, hr0, r0⟩ := hr.frzT r
  obtain ⟨t0, e0, hw⟩ := look_iff hw
  obtain ⟨o, G0, eo, _⟩ := hr.get e0
  refine ⟨o, eo, ?_⟩
  · skip
    refine h Δ _ σ H B0 R hr0 hw _ fun p Δ1 y H1 B1 hq hl1 hk1 ⟨G1, pr1, hr1⟩ => ?_
    obtain ⟨tj, Fj, rj, q⟩ := pr1.tree hr1 hq
    have hr1 : Rep K B1 H1 R σ Δ1 := hr1.drop
    have r1 : Rp K B1 H1 v (frz t) [] := r0.mono hl1 fun _ z => nomatch z
    obtain ⟨tl, el, q⟩ := look_iff q
    match tl, el, q with
    | .lst true xs, el, ⟨hc, q⟩ =>
      obtain ⟨b, vs, F, e2, hH, hL, upd'⟩ := slot_lst hr1 el
      rw [eo] at e2; cases e2
      have hF := hL.nil_of_closed hc
      subst hF
      match tj, rj, q with
      | .int n, rj, q =>
        cases em : ixN xs.length n with
        | none => simp only [em] at q
        | some m =>
          simp only [em] at q
          obtain ⟨h5, h6⟩ := upd' (vs.set m v) (xs.set m (frz t)) fun H' _ => (hL.mono (Le.refl _) fun _ z => nomatch z).set0 rfl (r1.mono (Le.refl _) fun _ z => nomatch z)
          exact .inl ⟨b, vs, n, m, rfl, rj.int_inv.1, hH, by rw [hL.length]; exact em, k _ _ _ B1 q (hl0.trans hl1) (hk1.trans h6) (fun _ _ => rfl) h5 rfl⟩
    | .dct true kvs, el, ⟨hc, q⟩ =>
      obtain ⟨b, kv, F, e2, hH, hkeys, hL, upd'⟩ := slot_dct hr1 el
      rw [eo] at e2; cases e2
      have hF : F = [] := hL.nil_of_closed ((closedL_iff _).mpr fun x hx => by
        obtain ⟨p, hp, rfl⟩ := List.mem_map.mp hx
        exact (closedK_iff _).mp hc p hp)
      subst hF
      cases ek : keyOf tj with
      | none => simp only [ek] at q
      | some kk =>
        simp only [ek] at q
        have hp := kv_put (kk := kk) r1 (kv_of hkeys hL rfl)
        obtain ⟨h5, h6⟩ := upd' _ _ (kv_to hp).1 fun H' _ => (kv_to hp).2.mono (Le.refl _) fun _ z => nomatch z
        have hlen : kv.length = kvs.length := by simpa using congrArg List.length hkeys
        exact .inr ⟨b, _, rfl, .inl ⟨kv, kk, hH, keyOf_V rj ek, by rw [hlen]; exact q.1, rfl⟩, k _ _ _ B1 q.2 (hl0.trans hl1) (hk1.trans h6) (fun _ _ => rfl) h5 rfl⟩
end TL
set_option maxRecDepth 100000
set_option maxHeartbeats 1000000
namespace TL
open PySem PySem.Spec PyProof.Rows L2
def wPar (i j : Nat) (wa : WA) : WS := fun D Δ => wa Δ fun ps Δ1 => match ps with
  | [p, q] => wTake p Δ1 fun t Δ2 => wTake q Δ2 fun u Δ3 => D.nx ((Δ3.set i (some t)).set j (some u))
  | _ => False
theorem rf_par {K : Frag} {W : WX} {np i j : Nat} {ta : TA} {wa : WA} (hi : np ≤ i) (hj : np ≤ j) (h : RfA K ta wa) : RfS K np W (tPar i j ta) (wPar i j wa) := fun D Δ σ H B R hr hw E k1 k2 k3 k4 k5 => by
  refine h Δ _ σ H B R hr hw _ fun ps Δ1 vs H1 B1 q hl hk ⟨G, pr, hr1⟩ => ?_
  match ps, pr, q with
  | [p, q'], .cons (F := F) (v := v) h1 (.cons (F := F2) (v := v2) h2 .nil), q =>
    have o : Out K B1 H1 ((F2 ++ []) ++ R) σ Δ1 p v := ⟨F, h1, by rw [List.append_assoc] at hr1; exact hr1⟩
    obtain ⟨t, Δ2, B2, G1, q2, hle, r, hr2⟩ := take_ok o q
    have o2 : Out K B2 H1 (G1 ++ R) σ Δ2 q' v2 := ⟨F2, h2.mono hle fun _ _ => rfl, hr2.weak fun a => by simp only [List.count_append, List.count_nil]; omega⟩
    obtain ⟨u, Δ3, B3, G2, q3, hle2, r2, hr3⟩ := take_ok o2 q2
    have h3 := Rep.set (i := i) (x := some v) (d := some t) (G := G1) (R := G2 ++ R) (hr3.weak fun a => by simp only [List.count_append]; omega) (r.mono hle2 fun _ _ => rfl)
    have h4 := Rep.set (i := j) (x := some v2) (d := some u) h3 r2
    refine ⟨v, v2, rfl, k1 _ _ _ B3 q3 ⟨(hl.trans hle).trans hle2, hk, fun n hn => ?_⟩ h4⟩
    rw [List.getElem?_set_ne (by omega), List.getElem?_set_ne (by omega)]
theorem cs_par {X : Cx} {np i j : Nat} {x y : Str} {a b : Expr} {wa : WA} {px py pt pos : Pos} {kt k2 pt2} (hc : X.calm = true) (hN : X.N.Nodup) (hi : X.N[i]? = some x) (hj : X.N[j]? = some y) (hij : i ≠ j)
    (hx : X.env.scope.names.lookup x = some .local) (hy : X.env.scope.names.lookup y = some .local) (hpi : np ≤ i) (hpj : np ≤ j) (ha : CA X [a, b] wa) (both : swappedStores [.Tuple [.Name x px, .Name y py] kt pt] (.Tuple [a, b] k2 pt2) X.env = pure (some [x, y])) (sole : swapsWithSole [.Tuple [.Name x px, .Name y py] kt pt] (.Tuple [a, b] k2 pt2) pos.line X.env = pure false := by rfl) :
    CS X np (.Assign [.Tuple [.Name x px, .Name y py] kt pt] (.Tuple [a, b] k2 pt2) pos) (wPar i j wa) := by
  obtain ⟨ta, p, r⟩ := ha
  exact ⟨fun W tk => ⟨_, ps_par hc hN hi hj hij hx hy p both sole, rf_par hpi hpj r⟩⟩
def valT (kvs : List (Key × T)) (k : Key) : Option T := (kvs.find? fun kv => decide (kv.1 = k)).map (·.2)
theorem val_of {K : Frag} {B H : Hp} {k : Key} : ∀ {kv : List (Key × V)} {kvs : List (Key × T)} {F : List Addr}, kv.map (·.1) = kvs.map (·.1) → RpL K B H (kv.map (·.2)) (kvs.map (·.2)) F →
    (valV kv k).isSome = (valT kvs k).isSome ∧ ∀ t, valT kvs k = some t → ∃ v G, valV kv k = some v ∧ Rp K B H v t G
  | [], [], _, _, _ => ⟨rfl, fun t e => by cases e⟩
  | [], _ :: _, _, e, _ => by simp at e
  | _ :: _, [], _, e, _ => by simp at e
  | (k1, v) :: kv, (k2, t) :: kvs, F, e, h => by
    simp only [List.map_cons, List.cons.injEq] at e
    simp only [List.map_cons] at h
    obtain ⟨F1, F2, e1, r1, r2⟩ := h.one
    obtain ⟨a, b⟩ := val_of (k := k) e.2 r2
    by_cases hk : k2 = k
    · have hk' : k1 = k := e.1.trans hk
      refine ⟨by simp [valV, valT, List.find?_cons, hk, hk'], fun t' et => ?_⟩
      have : t = t' := by simpa [valT, List.find?_cons, hk] using et
      subst this
      exact ⟨v, F1, by simp [valV, List.find?_cons, hk'], r1⟩
    · have hk' : ¬ k1 = k := fun z => hk (e.1.symm.trans z)
      have e1 : valV ((k1, v) :: kv) k = valV kv k := by simp [valV, List.find?_cons, hk']
      have e2 : valT ((k2, t) :: kvs) k = valT kvs k := by simp [valT, List.find?_cons, hk]
      rw [e1, e2]; exact ⟨a, b⟩
theorem Rp.dct_inv {K : Frag} {B H : Hp} {v : V} {o : Bool} {kvs : List (Key × T)} {F : List Addr} (hs : Sub B H) (h : Rp K B H v (.dct o kvs) F) : ∃ a kv F', v = .ref a ∧ Rd H a (.dK kv) ∧ kv.map (·.1) = kvs.map (·.1) ∧ RpL K B H (kv.map (·.2)) (kvs.map (·.2)) F' := by
  cases h with
  | dctF h1 h2 h3 => exact ⟨_, _, _, rfl, hs.le.rd rfl h1, h2, h3⟩
  | dctO h1 h2 h3 => exact ⟨_, _, _, rfl, .inl h1, h2, h3⟩
/-- a display -/
abbrev WPs := Dt → (List (Key × T) → Dt → Prop) → Prop
def RfPs (K : Frag) (trs : List (TE × TE)) (w : WPs) : Prop := ∀ (Δ : Dt) (Q : List (Key × T) → Dt → Prop) (σ : Sg) (H B : Hp) (R : List Addr), Rep K B H R σ Δ → w Δ Q → ∀ Qv : List (V × V) → Hp → Prop,
  (∀ (kvs : List (Key × T)) (Δ' : Dt) (kv : List (Key × V)) (H' B' : Hp), Q kvs Δ' → Le B B' → Keep R H H' → Paired (fun (p : Key × V) (q : Key × T) => p.1 = q.1 ∧ Rp K B' H' p.2 q.2 []) kv kvs → Rep K B' H' R σ Δ' → Qv (kv.map fun kv => (kV kv.1, kv.2)) H') → tPairs trs σ H Qv
structure CPs (X : Cx) (pos : Pos) (keys : List (Option Expr)) (values : List Expr) (w : WPs) : Prop where
  ex : ∃ trs, PPs X pos keys values trs ∧ RfPs X.K trs w
def wpNil : WPs := fun Δ Q => Q [] Δ
def wpCons (wk wv : WE) (wr : WPs) : WPs := fun Δ Q => wk Δ fun p Δ1 => onV Δ1 p fun k => match keyOf k with
  | some kk => wv Δ1 fun q Δ2 => wTake q Δ2 fun t Δ3 => wr Δ3 fun kvs Δ4 => Q ((kk, frz t) :: kvs) Δ4
  | none => False
section
variable {X : Cx} {pos : Pos} {k v : Expr} {ks : List (Option Expr)} {vs : List Expr} {wk wv : WE} {wr : WPs}
theorem cps_nil : CPs X pos [] [] wpNil := ⟨[], pps_nil, fun Δ Q σ H B R hr hw Qv k => k [] Δ [] H B hw (Le.refl B) Keep.refl .nil hr⟩
theorem cps_cons (hk : CE X k wk) (hv : CE X v wv) (hr : CPs X pos ks vs wr) : CPs X pos (some k :: ks) (v :: vs) (wpCons wk wv wr) := by
  obtain ⟨t1, p1, r1⟩ := hk
  obtain ⟨t2, p2, r2⟩ := hv
  obtain ⟨t3, p3, r3⟩ := hr
  refine ⟨_, pps_cons p1 p2 p3, fun Δ Q σ H B R hr hw Qv k => ?_⟩
  refine r1 Δ _ σ H B R hr hw _ fun p Δ1 x H1 B1 hq hl1 hk1 ⟨G1, pr1, hr1⟩ => ?_
  obtain ⟨tk, Fk, rk, q⟩ := pr1.tree hr1 hq
  cases ek : keyOf tk with
  | none => simp only [ek] at q
  | some kk =>
    simp only [ek] at q
    refine r2 Δ1 _ σ H1 B1 R hr1.drop q _ fun p2 Δ2 y H2 B2 hq2 hl2 hk2 o => ?_
    obtain ⟨t, Δ3, B3, q3, hl3, ry, hr3⟩ := take_fr o hq2
    refine r3 Δ3 _ σ H2 B3 R hr3 q3 _ fun kvs Δ4 kv H4 B4 q4 hl4 hk4 rp hr4 => ?_
    have e := keyOf_V rk ek
    subst e
    exact k ((kk, frz t) :: kvs) Δ4 ((kk, y) :: kv) H4 B4 q4 (((hl1.trans hl2).trans hl3).trans hl4) ((hk1.trans hk2).trans hk4) (.cons ⟨rfl, ry.mono hl4 fun _ z => nomatch z⟩ rp) hr4
end
def mergeT (kvs more : List (Key × T)) : List (Key × T) := more.foldl (fun acc kv => putT acc kv.1 kv.2) kvs
def wDisp (wp : WPs) : WE := fun Δ Q => wp Δ fun kvs Δ1 => kvs.length ≤ 15 ∧ Q (.val (.dct true (mergeT [] kvs))) Δ1
theorem kv_merge {K : Frag} {B H : Hp} : ∀ {more : List (Key × V)} {moreT : List (Key × T)} {kv : List (Key × V)} {kvs : List (Key × T)}, Paired (fun (p : Key × V) (q : Key × T) => p.1 = q.1 ∧ Rp K B H p.2 q.2 []) more moreT →
    Paired (fun (p : Key × V) (q : Key × T) => p.1 = q.1 ∧ Rp K B H p.2 q.2 []) kv kvs → Paired (fun (p : Key × V) (q : Key × T) => p.1 = q.1 ∧ Rp K B H p.2 q.2 []) (mergeK kv more) (mergeT kvs moreT)
  | _, _, _, _, .nil, h => h
  | (k, v) :: m, (k', t) :: mt, kv, kvs, .cons h1 h2, h => by
    have e : k = k' := h1.1
    subst e
    exact kv_merge (more := m) (moreT := mt) h2 (kv_put (kk := k) h1.2 h)
theorem paired_len {α β : Type} {p : α → β → Prop} : ∀ {xs : List α} {ys : List β}, Paired p xs ys → xs.length = ys.length
  | _, _, .nil => rfl
  | _, _, .cons _ h => by simp [paired_len h]
theorem ce_disp {X : Cx} {pos : Pos} {keys : List (Option Expr)} {values : List Expr} {wp : WPs} (h : CPs X pos keys values wp) (hall : keys.all (·.isSome) = true := by rfl) (hl : keys.length = values.length := by rfl) (h0 : keys ≠ [] := by exact List.cons_ne_nil _ _)
    (h15 : keys.length ≤ 15 := by decide) : CE X (.Dict keys values pos) (wDisp wp) := by
  obtain ⟨trs, p, r⟩ := h
  refine ⟨_, pe_disp p hall hl h0 h15, fun Δ Q σ H B R hr hw Qv k => fun a ha => ?_⟩
  have g := Gro.own (o := .dK []) hr.sub ha
  have hr1 : Rep X.K B (upd H a (.dK [])) ([a] ++ R) σ Δ := hr.gro g
  have kp0 : Keep R H (upd H a (.dK [])) := hr.keepExt g.1
  refine r Δ _ σ _ B ([a] ++ R) hr1 hw _ fun kvs Δ1 kv H1 B1 q hl1 hk1 rp hr2 => ?_
  have hr2' : Rep X.K B1 H1 (a :: ([] ++ R)) σ Δ1 := hr2
  have e1 : H1 a = some (.dK []) := (hk1 a (by simp)).trans upd_same
  refine ⟨e1, kv, rfl, by rw [paired_len rp]; exact q.1, ?_⟩
  obtain ⟨h4, h5⟩ := hr2'.updR (o := .dK (mergeK [] kv))
  have hm := kv_merge rp .nil
  obtain ⟨m1, m2⟩ := kv_to hm
  exact k (.val (.dct true (mergeT [] kvs))) Δ1 _ _ B1 q.2 hl1 ((kp0.trans hk1.right).trans h5) ⟨[a], .dctO upd_same m1 (m2.mono (Le.refl _) fun _ z => nomatch z), h4⟩
def wDNew : WE := fun Δ Q => Q (.val (.dct true [])) Δ
theorem ce_dnew {X : Cx} {pos : Pos} : CE X (.Dict [] [] pos) wDNew := by
  refine ⟨_, pe_dnewK, fun Δ Q σ H B R hr hw Qv k => fun a ha => ?_⟩
  have g := Gro.own (o := .dK []) hr.sub ha
  exact k (.val (.dct true [])) Δ _ _ B hw g.2.1 (hr.keepExt g.1) ⟨[a], .dctO upd_same rfl .nil, hr.gro g⟩
def gRev (x : T) (Q : T → Prop) : Prop := match x with
  | .lst _ xs => closedL xs = true ∧ Q (.lst true xs.reverse)
  | _ => False
theorem l_revL {K : Frag} : LUn K (fun x H Q => ∃ a xs, x = .ref a ∧ SqL K H a xs ∧ ∀ p, H p = none → Q (.ref p) (upd H p (.lst xs.reverse))) gRev := fun B H x tx Fx hs rx Q hw Qv k => by
  match tx, rx, hw with
  | .lst o xs, rx, hw =>
    obtain ⟨a, vs, F', rfl, h1, r1⟩ := rx.lst_inv hs
    exact ⟨a, vs, rfl, h1, new_lst hs ((r1.c0 hw.1).rev0 rfl) hw.2 k⟩
theorem ce_revL {X : Cx} {e : Expr} {we : WE} {k : Nat} {p1 p2 p3 pos : Pos} (he : CE X e we) : CE X (.Subscript e (.Slice none none (some (.UnaryOp .USub (.Constant (.int 1) k p1) p2)) p3) pos) (wUn gRev we) := by
  obtain ⟨t1, q1, r1⟩ := he
  exact ⟨_, pe_revL q1, rf_un l_revL r1⟩
def rMulA : R2 := fun x y H Q => (rI CMulW fun i j => .int (i * j)) x y H Q ∨ rRep x y H Q
theorem op_mulA {X : Cx} : OpR X (binaryOp .Mult) rMulA := OpR.or op_mulW op_rep
theorem rep_rp {K : Frag} {B H : Hp} {vs : List V} {ts : List T} (h : RpL K B H vs ts []) : ∀ n : Nat, RpL K B H (List.replicate n vs).flatten (List.replicate n ts).flatten []
  | 0 => .nil
  | n + 1 => by
    simp only [List.replicate_succ, List.flatten_cons]
    exact RpL.append (F := []) (G := []) h (rep_rp h n)
def gMulA : T → T → (T → Prop) → Prop
  | .int i, .int j, Q => i.natAbs.log2 + j.natAbs.log2 < 1000000 ∧ Q (.int (i * j))
  | .lst true xs, .int k, Q => closedL xs = true ∧ -(2 ^ 63) ≤ k ∧ k < 2 ^ 63 ∧ xs.length * k.toNat ≤ sizeLine ∧ Q (.lst true (List.replicate k.toNat xs).flatten)
  | _, _, _ => False
theorem l_mul {K : Frag} : LOp K rMulA gMulA := fun B H x y tx ty Fx Fy hs rx ry Q hw Qv k => by
  match tx, ty, rx, ry, hw with
  | .int i, .int j, rx, ry, hw => exact .inl ⟨i, j, rx.int_inv.1, ry.int_inv.1, hw.1, k _ _ H B [] hw.2 (Gro.refl hs) (.int _)⟩
  | .lst true xs, .int n, rx, ry, hw =>
    cases rx with
    | @lstO a vs ts F h1 h2 =>
      exact .inr ⟨a, n, vs, rfl, ry.int_inv.1, h1, hw.2.1, hw.2.2.1, by rw [h2.length]; exact hw.2.2.2.1, new_lst hs (rep_rp (h2.c0 hw.1) _) hw.2.2.2.2 k⟩
def wCallD (S : FS) (ds : List T) (wa : WA) : WE := fun Δ Q => wa Δ fun ps Δ1 => onVs Δ1 ps fun ts => dupOk Δ1 ps = true ∧ S (ts ++ ds) fun r ts' => match r with
  | .ret t => Q (.val t) (backs Δ1 ps (ts'.take ts.length))
  | .exc _ _ => False
theorem rpl_sc {K : Frag} {B H : Hp} : ∀ {ds : List T}, ds.all scT = true → RpL K B H (ds.map scV) ds []
  | [], _ => .nil
  | d :: ds, h => by
    simp only [List.all_cons, Bool.and_eq_true] at h
    exact RpL.cons (F := []) (G := []) (rp_sc h.1) (rpl_sc h.2)
theorem rf_callD {K : Frag} {ta : TA} {wa : WA} {S : FS} {E : XK} {ds : List T} (hds : ds.all scT = true) (ha : RfA K ta wa) : RfE K (tCall (spT K S) (ds.map scV) E ta) (wCallD S ds wa) := fun Δ Q σ H B R hr hw Qv k => by
  refine ha Δ _ σ H B R hr hw _ fun ps Δ1 vs H1 B1 q hl hk ⟨G, pr, hr1⟩ => ?_
  have hd : dupOk Δ1 ps = true := by
    obtain ⟨ts, F, _, q2⟩ := pr.trees hr1 q
    exact q2.1
  obtain ⟨ts, G0, Δ0, rL, hr0, q2, back⟩ := args_out pr hr1 q hd
  obtain ⟨F0, hS0, hdj⟩ := hr0.fp
  show spT K S (vs ++ ds.map scV) H1 Qv E
  have rL2 : RpL K B1 H1 (vs ++ ds.map scV) (ts ++ ds) (G0 ++ []) := rL.append (rpl_sc hds)
  refine ⟨ts ++ ds, B1, F0 ++ R, _, ⟨hr0.sub, G0 ++ [], RpS.of_L rL2, hdj.of_le fun a => by simp only [List.count_append, List.count_nil]; omega⟩, q2.2, fun t ts' v H' B' G2 qf hle hkp r hrep => ?_, fun C fs ts' od H' B' qf => qf.elim⟩
  obtain ⟨G', hS', hdj'⟩ := hrep.fp
  have rL' := RpS.to_L hS'
  obtain ⟨G3, G4, e, ra, rb⟩ := rL'.split ts.length
  have e1 : (vs ++ ds.map scV).take ts.length = vs := by rw [← rL.length]; simp
  rw [e1] at ra
  subst e
  have hrB : Rep K B' H' (G3 ++ (G2 ++ R)) σ Δ0 := ⟨hrep.sub, F0, hS0.mono hle hkp.left, hdj'.of_le fun a => by simp only [List.count_append]; omega⟩
  exact k (.val t) _ v H' B' qf (hl.trans hle) (hk.trans hkp.right) ⟨G2, r, back B' H' _ G3 (G2 ++ R) ra hrB⟩
theorem ce_callD {X : Cx} {CX : CXT} {k : Nat} {f : Addr} {fd : FuncData} {ps : List Str} {S : FS} {E : XK} {x : Str} {p pos : Pos} {e : Expr} {es : List Expr} {wa : WA} {ds : List T} {us : List Value} (F : FnG X.prog X.w X.K X.mg X.base CX k f fd ps (spT X.K S)) (hds : ds.all scT = true) (hus : Vals (ds.map scV) us)
    (hr : Room k X.A) (hgd : X.A.guards = some []) (hg : Gl X x)
    (hm : X.mg x = some (.ref f)) (hk : PySem.W.keepIn X.K (.ref f) = true) (hb : Binds X.K fd ps us) (hx : Passes CX X E) (ha : CA X (e :: es) wa) (hdb : (x == ("__debug__" : Str)) = false := by decide)
    (he : starEach (e :: es) X.env = (false, eval e X.env) :: starEach es X.env := by rfl) (hpl : (backTo pos (starEach es X.env)).any (·.1) = false := by rfl) : CE X (.Call (.Name x p) (e :: es) [] pos) (wCallD S ds wa) := by
  obtain ⟨ta, pa, ra⟩ := ha
  exact ⟨_, pe_callG F hr hgd hg hm hk hb hus hx pa hdb he hpl, rf_callD hds ra⟩
end TL
set_option maxRecDepth 100000
set_option maxHeartbeats 1000000
namespace TL
open PySem PySem.Spec PyProof.Rows L2
/-- where the modules stand, a dict stands (so no list and no tuple) -/
def SysAt (h : Heap) : Prop := ∃ o es ep, h.get? sysModules = some o ∧ o.data = .dict es ep
theorem ints_rp {K : Frag} {B H : Hp} : ∀ ns : List Int, RpL K B H (ns.map V.int) (ns.map T.int) []
  | [] => .nil
  | n :: r => RpL.cons (F := []) (G := []) (.int n) (ints_rp r)
/-- one object is tracked, and none else -/
def oneAt (a : Addr) (u : Option HO) : Hp := fun b => if b = a then u else none
theorem oneAt_inv {a b : Addr} {u : Option HO} {o : HO} (h : oneAt a u b = some o) : b = a ∧ u = some o := by
  unfold oneAt at h
  by_cases e : b = a
  · rw [if_pos e] at h; exact ⟨e, h⟩
  · rw [if_neg e] at h; cases h
section
variable {P : Program} {w : World} {K : Frag} {mg mb : Str → Option Value} {CX : CXT} {k : Nat} {fa a : Addr} {fd : FuncData} {S : FS} {s1 : Shared} {vs : List Value} {ns : List Int}
/-- how the script stands: as one of the module's own objects (u = none), or tracked as it is -/
structure Stands (P : Program) (w : World) (K : Frag) (s1 : Shared) (a : Addr) (u : Option HO) (ns : List Int) : Prop where
  hok : HOk P w (oneAt a u) s1.heap
  rd : RdL K (oneAt a u) a (ns.map V.int)
  out : ∀ o, u = some o → K.lookup a = none ∧ ∃ ob xs, o = .frz ob (.lst xs)
theorem stands (KX : K.In s1.heap) (ha : s1.heap.get? a = some { cls := .type "list", data := .seq vs.toArray }) (hi : IntsAre vs ns) (hl : ns.length ≤ sizeLine) : ∃ u, Stands P w K s1 a u ns := by
  have rv : Vals (ns.map V.int) vs := vals_ints hi
  have same : vs.length = ns.length := hi.length
  rcases hk : K.lookup a with _ | o
  · refine ⟨some (.frz { cls := .type "list", data := .seq vs.toArray } (.lst (ns.map V.int))), fun b o e => ?_, .inl (.inr ⟨_, by simp [oneAt]; rfl⟩), fun o e => ⟨hk, _, _, (Option.some.inj e).symm⟩⟩
    obtain ⟨rfl, e2⟩ := oneAt_inv e
    cases e2
    refine ⟨ha, ?_, vs, _, rv, ha⟩
    rw [List.length_map]
    exact hl
  · have e : some o = some _ := (KX a o hk).symm.trans ha
    obtain rfl := Option.some.inj e
    refine ⟨none, fun b o e => (nomatch (oneAt_inv e).2), .inr ⟨vs.toArray, _, hk, ?_, by simpa using rv⟩, fun o e => nomatch e⟩
    rw [List.size_toArray, same]
    exact hl
theorem script_call (KX : K.In s1.heap) (hns : s1.heap.Ns mainGlobals mg) (hb : s1.heap.Ns builtinsNs mb) (hbb : ∀ x : Str, x ≠ "__name__" → mb x = bootBuiltins x) (hlim : s1.heap.NoLimit) (hg : s1.gens = #[]) (sys : SysAt s1.heap)
    (ha : s1.heap.get? a = some { cls := .type "list", data := .seq vs.toArray }) (hi : IntsAre vs ns) (hl : ns.length ≤ sizeLine) (hr : Room k callerA) (hgd : callerA.guards = some [])
    (F : ∀ base : Heap, K.In base → base.Ns mainGlobals mg → SysAt base → FnG P w K mg base CX k fa fd ["script"] (spT K S)) (hbind : ∀ (s : Shared) (u : Value), BindsTo s fd ⟨[u], []⟩ [("script", u)])
    (hS : S [.lst false (ns.map T.int)] fun r _ => r = .ret (.bl true)) (hCX : ∀ H e s', CX [] H s1 (fun _ _ _ => False) e s' → False) :
    codeAny (model P w) callerA (.call (.ref fa) ⟨[.ref a], []⟩) (fun r s' => r = .ok (.ret (.bool true)) ∧ OldK s1.heap s'.heap ∧ s'.os = s1.os ∧ AllBare s'.gens) s1 := by
  obtain ⟨u, W⟩ := stands (P := P) (w := w) KX ha hi hl
  -- what is not tracked stays in the base
  have none_of : ∀ {b : Addr} {ob : Obj}, s1.heap.get? b = some ob → (∀ xs n, ob.data ≠ .seq xs n) → oneAt a u b = none := fun {b ob} e hd => by
    rcases q : oneAt a u b with _ | o
    · rfl
    · obtain ⟨rfl, _⟩ := oneAt_inv q
      rw [ha] at e
      obtain rfl := Option.some.inj e
      exact absurd rfl (hd _ _)
  have ns_of : ∀ {b : Addr} {m : Str → Option Value}, s1.heap.Ns b m → (hidT s1.heap (oneAt a u)).Ns b m := fun {b m} ⟨o, es, ep, e, d, r⟩ =>
    ⟨o, es, ep, hidT_get e (none_of e fun xs n z => by rw [d] at z; cases z), d, r⟩
  have sys2 : SysAt (hidT s1.heap (oneAt a u)) := by
    obtain ⟨o, es, ep, e, d⟩ := sys
    exact ⟨o, es, ep, hidT_get e (none_of e fun xs n z => by rw [d] at z; cases z), d⟩
  have kin : K.In (hidT s1.heap (oneAt a u)) := fun b ob e => hidT_get (KX b ob e) (by
    rcases q : oneAt a u b with _ | o
    · rfl
    · obtain ⟨rfl, e2⟩ := oneAt_inv q
      rw [(W.out o e2).1] at e
      cases e)
  have md : Mod K mg (hidT s1.heap (oneAt a u)) := by
    refine ⟨kin, ns_of hns, ⟨mb, ns_of hb, hbb⟩, ?_⟩
    obtain ⟨mc, h1, h2⟩ := hlim
    exact ⟨mc, ns_of h1, h2⟩
  have env : Env0 P w K mg (hidT s1.heap (oneAt a u)) callerA [] s1 (oneAt a u) :=
    { frames := rfl, mod := md, bs := fun b o e => of_hidT e, bsz := Nat.le_of_eq (hidT_size _ _), funs := trivial, frf := fun b z => (by simp [frs] at z), hok := W.hok, bare := .of_eq hg }
  have rep : Rep K (oneAt a u) (oneAt a u) [] ([V.ref a].map some) ([T.lst false (ns.map T.int)].map some) :=
    ⟨fun _ _ e => e, [], RpS.of_L (F := []) (RpL.cons (F := []) (G := []) (.lstF W.rd (ints_rp ns)) .nil), fun b => ⟨by simp, fun z => nomatch z⟩⟩
  have asks : spT K S [.ref a] (oneAt a u) (fun v _ => v = .bl true) fun _ _ _ => False :=
    ⟨_, _, [], _, rep, hS, fun t ts' v H' B' G e _ _ r _ => by obtain rfl := Rs.ret.inj e; exact r.bl_inv.1, fun C fs ts' od H' B' e => nomatch e⟩
  refine codeAny_mono ((F _ kin (ns_of hns) sys2).keeps (us := [.ref a]) (vs := [.ref a]) ⟨hr, hgd, env, hbind s1 (.ref a), .cons rfl .nil⟩ asks) fun r s' got => ?_
  match r, got with
  | .error e, got => exact absurd got (hCX _ e s')
  | .ok (.ret y), ⟨v, H', os, bare, un, hok', rel, q⟩ =>
    obtain rfl : v = .bl true := q
    obtain rfl : y = Value.bool true := rel
    refine ⟨rfl, .of_keep fun b ob e => ?_, os, bare⟩
    rcases q : oneAt a u b with _ | o
    · exact un.keep b ob e q (by simp [frs]) (by simp)
    · obtain ⟨_, e2⟩ := oneAt_inv q
      obtain ⟨_, o2, xs, rfl⟩ := W.out o e2
      have before := (W.hok b _ q).1
      have after := (hok' b _ (un.frzs b o2 _ q)).1
      exact after.trans (before.symm.trans e)
  | .ok .next, got => exact False.elim got
  | .ok .brk, got => exact False.elim got
  | .ok .cont, got => exact False.elim got
end
theorem law_walk {l : PySem.W.OpenLaw} {n k : Nat} {q : Program} {loose : List Str} {XP : (Str → Option Value) → Heap → Prop} {YP : World → Heap → Prop} {d : DefRec} {K : Params → Frag} {CX : World → CXT} {S : FS}
    (hn : l.most = some n) (hn2 : n ≤ sizeLine) (hdf : d.params.defaults = []) (hr : Room k callerA) (hgd : callerA.guards = some []) (hq : importsNone q = true) (hY : ∀ (w : World) (h : Heap), YP w h → (K w.params).In h)
    (F : ∀ (w : World) (mg : Str → Option Value) (fa : Addr) (h : Heap), (K w.params).In h → h.Ns mainGlobals mg → mg d.name = some (.ref fa) → ∃ fd : FuncData, (∀ (s : Shared) (u : Value), BindsTo s fd ⟨[u], []⟩ [("script", u)]) ∧ ∀ base : Heap, (K w.params).In base → base.Ns mainGlobals mg → SysAt base → FnG l.prog w (K w.params) mg base (CX w) k fa fd ["script"] (spT (K w.params) S))
    (hS : ∀ ns : List Int, ns.length ≤ n → S [.lst false (ns.map T.int)] fun r _ => r = .ret (.bl true)) (hCX : ∀ (w : World) (H : Hp) (s : Shared) (e : Value) (s' : Shared), CX w [] H s (fun _ _ _ => False) e s' → False) : PySem.W.WalkO q loose XP YP l.row.toRowW d [] (fun f vs => PySem.call f vs) := by
  refine Att.attach_call hn hdf fun w _ s1 mg _ fa _ _ _ _ a _ ns G Y _ _ _ hmg hobj hints hlen hg => ?_
  obtain ⟨fd, hb, hF⟩ := F w mg fa _ (hY w _ Y) G.T.g hmg
  obtain ⟨mm, ⟨o, es, ep, e, d, _⟩, _⟩ := (G.T.seer hq).mods
  exact script_call (hY w _ Y) G.T.g G.T.b G.T.builtins G.T.nolimit hg ⟨o, es, ep, e, d⟩ hobj hints (Nat.le_trans hlen hn2) hr hgd hF hb (hS ns hlen) fun H e s' => hCX w H s1 e s'
end TL
set_option maxRecDepth 100000
set_option maxHeartbeats 1000000
namespace TL
open PySem PySem.Spec PyProof.Rows L2
/-- a context that takes no exception -/
theorem takes_no {X : Cx} : L2N.Takes X fun _ _ _ _ => False := fun _ _ got => by
  obtain ⟨_, _, _, _, _, _, _, _, _, _, _, _, _, _, _, _, w⟩ := got
  exact w.elim
/-- a def of the program as its callers need it: k rooms, the defaults that fill up, what it promises -/
structure Cal (P : Program) (w : World) (K : Frag) (mg : Str → Option Value) (base : Heap) (k : Nat) (x : Str) (ds : List T) (S : FS) : Prop where
  ex : ∃ (f : Addr) (fd : FuncData) (ps : List Str), mg x = some (.ref f) ∧ PySem.W.keepIn K (.ref f) = true ∧ (∃ us, Vals (ds.map scV) us ∧ Binds K fd ps us) ∧ FnG P w K mg base CX0 k f fd ps (spT K S)
section
variable {X : Cx} {k j : Nat} {S : FS} {x : Str} {p pos : Pos} {e : Expr} {es : List Expr} {wa : WA} {ds : List T}
theorem ce_cal (c : Cal X.prog X.w X.K X.mg X.base j x [] S) (hr : Room k X.A) (hj : j ≤ k) (hgd : X.A.guards = some []) (hg : Gl X x) (ha : CA X (e :: es) wa) (hdb : (x == ("__debug__" : Str)) = false := by decide)
    (he : starEach (e :: es) X.env = (false, eval e X.env) :: starEach es X.env := by rfl) (hpl : (backTo pos (starEach es X.env)).any (·.1) = false := by rfl) : CE X (.Call (.Name x p) (e :: es) [] pos) (wCall S wa) := by
  obtain ⟨f, fd, ps, hm, hk, ⟨us, hus, hb⟩, F⟩ := c.ex
  cases hus
  exact ce_call F (hr.mono hj) hgd hg hm hk hb pass0 ha hdb he hpl
theorem ce_calD (c : Cal X.prog X.w X.K X.mg X.base j x ds S) (hds : ds.all scT = true) (hr : Room k X.A) (hj : j ≤ k) (hgd : X.A.guards = some []) (hg : Gl X x) (ha : CA X (e :: es) wa) (hdb : (x == ("__debug__" : Str)) = false := by decide)
    (he : starEach (e :: es) X.env = (false, eval e X.env) :: starEach es X.env := by rfl) (hpl : (backTo pos (starEach es X.env)).any (·.1) = false := by rfl) : CE X (.Call (.Name x p) (e :: es) [] pos) (wCallD S ds wa) := by
  obtain ⟨f, fd, ps, hm, hk, ⟨us, hus, hb⟩, F⟩ := c.ex
  exact ce_callD F hds hus (hr.mono hj) hgd hg hm hk hb pass0 ha hdb he hpl
theorem cg_sub {S : Nat → Prop} {i : Nat} {y : Str} {ix : Expr} {wi : WE} (hu : X.A.units + 1 < cLine) (hN : X.N[i]? = some y) (hv : Vis X.env.scope y) (hi : CE X ix wi) (hd : (y == ("__debug__" : Str)) = false := by decide) (hcd : (y == ("__classdict__" : Str)) = false := by decide)
    (ha : ∀ v, assign (.Subscript (.Name y p) ix pos) X.env v = (do { let ov ← holding [v] (eval (.Name y p) X.env); let iv ← holding [v, ov] (eval ix X.env); standAt pos; holding [v, ov, iv] (setItem ov iv v); release [v, ov, iv] [] }) := by intro _; rfl) : CG X S (.Subscript (.Name y p) ix pos) (wgSub i wi) := by
  obtain ⟨ti, q, r⟩ := hi
  exact ⟨_, pg_sub (pe_var hN hv hd hcd) q (set_any hu) ha, rf_gSub r⟩
end
/-- a def as the top has written it; dV: its defaults -/
structure DefAt (K : Frag) (mg : Str → Option Value) (x qual : Str) (st : Stmt) (f : Addr) (fd : FuncData) (dV : Value) : Prop where
  text : ∃ (kV doc pm cdv ct : Value) (an : Option Addr) (o : Obj), K.lookup f = some o ∧ o.data = .func fd ∧ PySem.W.codeIn K cdv qual = true ∧ fd = PySem.W.fnOf x qual (defArgs st) (defBody st) (defScope st) dV kV doc pm an cdv ct
  stays : PySem.W.keepIn K (.ref f) = true
  nm : mg x = some (.ref f)
section
variable {P : Program} {w : World} {K : Frag} {mg : Str → Option Value} {base : Heap} {x qual : Str} {st : Stmt} {f : Addr} {fd : FuncData} {dV : Value} {N ps : List Str} {k : Nat} {S : FS}
/-- THE RULE for a def: its body read, and what the reading asks shown of all that it promises -/
theorem def_ok (np : Nat) (F : DefAt K mg x qual st f fd dV) (Sc : FnScope N ps (defScope st)) (hlen : ∀ ts Q, S ts Q → ts.length = ps.length) (hnp : np ≤ ps.length)
    (body : ∀ (cdv : Value) (A : Around) (outer : List Env) (s : Shared) (H : Hp) (E : XK), Room k (A.deeper (envOfC qual (defScope st) s.heap.objs.size f cdv)) → (A.deeper (envOfC qual (defScope st) s.heap.objs.size f cdv)).guards = some [] →
      ∃ w', CSs (cxOf CX0 P w K mg base N qual (defScope st) f cdv A outer s H E).nox np (defBody st) w' ∧ ∀ ts Qf, S ts Qf → w' (endsD np ts Qf) (startD N np ts)) : FnG P w K mg base CX0 (k + 1) f fd ps (spT K S) := by
  obtain ⟨kV, doc, pm, cdv, ct, an, o, stands, isF, code, rfl⟩ := F.text
  have arity : ∀ {vs H Q E}, spT K S vs H Q E → vs.length = ps.length := fun {vs H Q E} ⟨ts, B, R, Qf, hr, hs, _⟩ => by
    have e := hr.len
    simp only [List.length_map] at e
    exact e.trans (hlen ts Qf hs)
  refine fnG_of stands isF code Sc arity fun A outer s H vs Q E room quiet asks => ?_
  have hlv := arity asks
  obtain ⟨ts, B, R, Qf, hrep, hS, k1, k2⟩ := asks
  obtain ⟨w', hb, hv⟩ := body cdv A outer s H E room quiet
  obtain ⟨tb, hp, hrf⟩ := hb.ex _ takes_no
  obtain ⟨B1, hle, hr1, rest⟩ := entry (N := N) np hrep
  refine ⟨tb, hp.nox, hrf _ _ _ H B1 R hr1 (hv ts Qf hS) _ (fun Δ' σ' H' B' q f hr' => ?_) (fun t Δ' σ' v H' B' G q f r hr' => ?_) (fun _ _ _ _ q => q.elim) (fun _ _ _ _ q => q.elim) fun _ _ _ _ _ _ _ q => q.elim⟩
  · obtain ⟨us, hu, hΔ, q2⟩ := lookUp_pre q
    exact k1 .non _ .non H' B' [] q2 (hle.trans f.1) f.2.1 .non (leave (N := N) (G := []) (by omega) hr' f.1 f.2.2 hu hΔ rest)
  · obtain ⟨us, hu, hΔ, q2⟩ := lookUp_pre q
    exact k1 t _ v H' B' G q2 (hle.trans f.1) f.2.1 r (leave (N := N) (by omega) hr' f.1 f.2.2 hu hΔ rest)
theorem DefAt.cal (F : DefAt K mg x qual st f fd .none) (G : FnG P w K mg base CX0 k f fd ps (spT K S))
    (h : ∀ (kV doc pm : Value) (an : Option Addr) (cdv ct : Value) (us : List Value), us.length = ps.length → bindArgs (PySem.W.fnOf x qual (defArgs st) (defBody st) (defScope st) .none kV doc pm an cdv ct) ⟨us, []⟩ = pure (ps.zip us)) : Cal P w K mg base k x [] S := by
  obtain ⟨kV, doc, pm, cdv, ct, an, o, _, _, _, rfl⟩ := F.text
  exact ⟨_, _, ps, F.nm, F.stays, ⟨[], .nil, .all (h kV doc pm an cdv ct)⟩, G⟩
/-- the last parameters fill up from a tuple that stands in the written part -/
theorem DefAt.calD {Td : Addr} {o : Obj} {its : List Value} {m : Nat} {ds : List T} (F : DefAt K mg x qual st f fd (.ref Td)) (G : FnG P w K mg base CX0 k f fd ps (spT K S)) (lT : K.lookup Td = some o) (oT : o.data = .seq its.toArray m) (hv : Vals (ds.map scV) its) (n : Nat) (hn : n + ds.length = ps.length)
    (h : ∀ (kV doc pm : Value) (an : Option Addr) (cdv ct : Value) (us : List Value), us.length = n → ∃ kk, bindArgs (PySem.W.fnOf x qual (defArgs st) (defBody st) (defScope st) (.ref Td) kV doc pm an cdv ct) ⟨us, []⟩ = seqItems? (.ref Td) >>= kk ∧ kk (some its.toArray) = pure (ps.zip (us ++ its))) : Cal P w K mg base k x ds S := by
  obtain ⟨kV, doc, pm, cdv, ct, an, o, _, _, _, rfl⟩ := F.text
  refine ⟨_, _, ps, F.nm, F.stays, ⟨its, hv, fun s us X hl => ?_⟩, G⟩
  have hl2 : us.length = n := by
    have e := hv.length
    rw [List.length_append] at hl
    rw [List.length_map] at e
    omega
  obtain ⟨kk, e1, e2⟩ := h kV doc pm an cdv ct us hl2
  exact BindsTo.of_looks fun M => e1.symm ▸ looks_items X lT oT (PySem.W.Looks.of_pure e2)
end
/-- tuples of texts that the top has written -/
theorem rp_ktup {K : Frag} {a : Addr} {dd : Option Addr} {its : List Value} {n : Nat} {sl : Array (Option Value)} {ts : List T} (h : K.lookup a = some ⟨.type "tuple", dd, .seq its.toArray n, sl⟩) (hs : ts.all scT = true) (hz : its.length ≤ sizeLine) (hv : Vals (ts.map scV) its) (B H : Hp) : Rp K B H (.ref a) (.tup ts) [] :=
  .tup (.inr ⟨_, its.toArray, n, h, rfl, rfl, by rw [List.size_toArray]; exact hz, by simpa using hv⟩) (rpl_sc hs)
theorem bt_len : bootBuiltins "len" = some (.builtin "len") := by decide +kernel
theorem bt_isinstance : bootBuiltins "isinstance" = some (.builtin "isinstance") := by decide +kernel
theorem bt_abs : bootBuiltins "abs" = some (.builtin "abs") := by decide +kernel
theorem bt_repr : bootBuiltins "repr" = some (.builtin "repr") := by decide +kernel
theorem bt_max : bootBuiltins "max" = some (.builtin "max") := by decide +kernel
theorem bt_min : bootBuiltins "min" = some (.builtin "min") := by decide +kernel
theorem bt_sum : bootBuiltins "sum" = some (.builtin "sum") := by decide +kernel
theorem bt_sorted : bootBuiltins "sorted" = some (.builtin "sorted") := by decide +kernel
theorem bt_int : bootBuiltins "int" = some (.type "int") := by decide +kernel
theorem bt_str : bootBuiltins "str" = some (.type "str") := by decide +kernel
theorem bt_bool : bootBuiltins "bool" = some (.type "bool") := by decide +kernel
theorem bt_list : bootBuiltins "list" = some (.type "list") := by decide +kernel
theorem bt_tuple : bootBuiltins "tuple" = some (.type "tuple") := by decide +kernel
end TL
set_option maxRecDepth 100000
set_option maxHeartbeats 1000000
namespace TL
open PySem PySem.Spec PyProof.Rows L2
def encK : Key → PyData
  | .inl i => .int i
  | .inr x => .str x
mutual
def toR : T → PyData
  | .bl b => .bool b | .int i => .int i | .str x => .str x
  | .tup xs => .tuple (toRL xs)
  | .lst _ xs => .list (toRL xs)
  | .dct _ kvs => .dict (toRK kvs)
  | .non => .none | .ins _ _ _ => .none | .fn _ => .none | .ty _ => .none | .exc _ _ _ _ => .none | .exv _ _ => .none
def toRL : List T → List PyData
  | [] => []
  | t :: r => toR t :: toRL r
def toRK : List (Key × T) → List (PyData × PyData)
  | [] => []
  | (k, t) :: r => (encK k, toR t) :: toRK r
end
mutual
/-- data -/
def dtR : T → Bool
  | .tup xs => dtRL xs
  | .lst _ xs => dtRL xs
  | .dct _ kvs => dtRK kvs
  | .ins _ _ _ => false | .fn _ => false | .ty _ => false | .exc _ _ _ _ => false | .exv _ _ => false
  | .non => true | .bl _ => true | .int _ => true | .str _ => true
def dtRL : List T → Bool
  | [] => true
  | t :: r => dtR t && dtRL r
def dtRK : List (Key × T) → Bool
  | [] => true
  | (_, t) :: r => dtR t && dtRK r
end
section
variable {X : Cx} {pins : List (Addr × Obj)} {σ : Sg} {H B : Hp} {s : Shared}
theorem key_reads {h : Heap} {prog : Program} {w : World} (k : Key) (key : Value) (e : (mixKind prog w).is k key = true) : Reads h key (encK k) [] := by
  rcases keyIs_shape e with ⟨i, t, rfl, rfl⟩ | ⟨x, t, rfl, rfl⟩
  · exact .int i t
  · exact .str x t
theorem no_sys {h : Heap} {a : Addr} {o : Obj} {vs : Array Value} {n : Nat} (hS : SysAt h) (e : h.get? a = some o) (d : o.data = .seq vs n) : sysModules ≠ a := fun z => by
  subst z
  obtain ⟨o', es, ep, e', d'⟩ := hS
  rw [e] at e'
  cases e'
  rw [d] at d'; cases d'
mutual
theorem Rp.readsR (I : Inv X pins σ H s) (hs : Sub B H) (hS : SysAt s.heap) : ∀ {v : V} {t : T} {F : List Addr}, Rp X.K B H v t F → dtR t = true → ∀ {u : Value}, RelV v u → ∃ as, Reads s.heap u (toR t) as ∧ sysModules ∉ as
  | _, _, _, .non, _, _, r => by cases r; simp only [toR]; exact ⟨_, .none, by simp⟩
  | _, _, _, .bl b, _, _, r => by cases r; simp only [toR]; exact ⟨_, .bool b, by simp⟩
  | _, _, _, .int i, _, _, r => by obtain ⟨t, rfl⟩ := r; simp only [toR]; exact ⟨_, .int i t, by simp⟩
  | _, _, _, .str x, _, _, r => by obtain ⟨t, rfl⟩ := r; simp only [toR]; exact ⟨_, .str x t, by simp⟩
  | _, _, _, .fn a, h, _, _ => by simp [dtR] at h
  | _, _, _, .ty n, h, _, _ => by simp [dtR] at h
  | _, _, _, .exc0 a x, h, _, _ => by simp [dtR] at h
  | _, _, _, .exv0 _, h, _, _ => by simp [dtR] at h
  | _, _, _, .exvD _ _ _ _, h, _, _ => by simp [dtR] at h
  | _, _, _, .excD _ _ _, h, _, _ => by simp [dtR] at h
  | _, _, _, .tup h1 h2, h, _, r => by
    cases r
    obtain ⟨its, rv, ⟨o, e, c, n, d⟩, _⟩ := I.tuple (hs.le.sqT h1)
    obtain ⟨as, q, hn⟩ := RpL.readsR I hs hS h2 (by simpa [dtR] using h) rv
    simp only [toR]
    exact ⟨_, .tuple e c d (by simpa using q), hn⟩
  | _, _, _, .lstF h1 h2, h, _, r => by
    cases r
    obtain ⟨its, n, rv, _, _, e⟩ := lstX I (hs.le.rdL h1)
    obtain ⟨as, q, hn⟩ := RpL.readsR I hs hS h2 (by simpa [dtR] using h) rv
    simp only [toR]
    exact ⟨_, .list e rfl rfl (by simpa using q), fun z => (List.mem_cons.mp z).elim (no_sys hS e rfl) hn⟩
  | _, _, _, .lstO h1 h2, h, _, r => by
    cases r
    obtain ⟨its, n, rv, _, _, e⟩ := lstX I (.inl (.inl h1))
    obtain ⟨as, q, hn⟩ := RpL.readsR I hs hS h2 (by simpa [dtR] using h) rv
    simp only [toR]
    exact ⟨_, .list e rfl rfl (by simpa using q), fun z => (List.mem_cons.mp z).elim (no_sys hS e rfl) hn⟩
  | _, _, _, .dctF h1 h2 h3, h, _, r => by
    cases r
    obtain ⟨_, hsys, vs, r0, dd⟩ := Rd.ok (hs.le.rd rfl h1) I.hok
    obtain ⟨bs, q, hn⟩ := RpL.pairsR I hs hS h3 rfl rfl h2 r0 (by simpa [dtR] using h)
    simp only [toR]
    exact ⟨_, PyProof.V.reads_dictOf key_reads dd q, fun z => (List.mem_cons.mp z).elim (fun e => by subst e; simp at hsys) hn⟩
  | _, _, _, .dctO h1 h2 h3, h, _, r => by
    cases r
    obtain ⟨_, hsys, vs, r0, dd⟩ := Rd.ok (.inl h1) I.hok
    obtain ⟨bs, q, hn⟩ := RpL.pairsR I hs hS h3 rfl rfl h2 r0 (by simpa [dtR] using h)
    simp only [toR]
    exact ⟨_, PyProof.V.reads_dictOf key_reads dd q, fun z => (List.mem_cons.mp z).elim (fun e => by subst e; simp at hsys) hn⟩
  | _, _, _, .insF _ _ _, h, _, _ => by simp [dtR] at h
  | _, _, _, .insO _ _ _ _, h, _, _ => by simp [dtR] at h
theorem RpL.readsR (I : Inv X pins σ H s) (hs : Sub B H) (hS : SysAt s.heap) : ∀ {vs : List V} {ts : List T} {F : List Addr}, RpL X.K B H vs ts F → dtRL ts = true → ∀ {us : List Value}, Vals vs us → ∃ as, ReadsAll s.heap us (toRL ts) as ∧ sysModules ∉ as
  | _, _, _, .nil, _, _, .nil => by simp only [toRL]; exact ⟨_, .nil, by simp⟩
  | _, _, _, .cons h1 h2, h, _, .cons r1 r2 => by
    simp only [dtRL, Bool.and_eq_true] at h
    obtain ⟨as, q1, n1⟩ := Rp.readsR I hs hS h1 h.1 r1
    obtain ⟨bs, q2, n2⟩ := RpL.readsR I hs hS h2 h.2 r2
    simp only [toRL]
    exact ⟨_, .cons q1 q2, fun z => (List.mem_append.mp z).elim n1 n2⟩
theorem RpL.pairsR (I : Inv X pins σ H s) (hs : Sub B H) (hS : SysAt s.heap) : ∀ {vs : List V} {ts : List T} {F : List Addr}, RpL X.K B H vs ts F → ∀ {kv : List (Key × V)} {kvs : List (Key × T)} {us : List (Key × Value)}, vs = kv.map (·.2) → ts = kvs.map (·.2) → kv.map (·.1) = kvs.map (·.1) → KV kv us → dtRK kvs = true →
    ∃ bs, PyProof.V.PairsRead s.heap encK us (toRK kvs) bs ∧ sysModules ∉ bs
  | _, _, _, .nil, kv, kvs, us, e1, e2, e3, r, _ => by
    cases kv with
    | cons _ _ => simp at e1
    | nil =>
      cases kvs with
      | cons _ _ => simp at e2
      | nil =>
        cases r
        simp only [toRK]
        exact ⟨_, .nil, by simp⟩
  | _, _, _, .cons h1 h2, kv, kvs, us, e1, e2, e3, r, h => by
    cases kv with
    | nil => simp at e1
    | cons p kv =>
      cases kvs with
      | nil => simp at e2
      | cons q kvs =>
        obtain ⟨k1, x⟩ := p
        obtain ⟨k2, t⟩ := q
        simp only [List.map_cons, List.cons.injEq] at e1 e2 e3
        obtain ⟨rfl, e1⟩ := e1
        obtain ⟨rfl, e2⟩ := e2
        obtain ⟨rfl, e3⟩ := e3
        cases r with
        | @cons _ b _ us hb r =>
          obtain ⟨k3, y⟩ := b
          obtain ⟨rfl, hy⟩ := hb
          simp only [dtRK, Bool.and_eq_true] at h
          obtain ⟨as, q1, n1⟩ := Rp.readsR I hs hS h1 h.1 hy
          obtain ⟨bs, q2, n2⟩ := RpL.pairsR I hs hS h2 e1 e2 e3 r h.2
          simp only [toRK]
          exact ⟨_, .cons q1 q2, fun z => (List.mem_append.mp z).elim n1 n2⟩
end
end
/-- it can be shown: small numbers, not too deep, not too long -/
def okR (t : T) : Bool := dtR t && (toR t).showable && PyData.leavesShort 600 (toR t) && decide ((toR t).depth ≤ 60) && decide ((toR t).weight ≤ 20000)
def shR (t : T) : Str := (toR t).shown
def gReprD : List T → (T → Prop) → Prop
  | [t], Q => okR t = true ∧ Q (.str (shR t))
  | _, _ => False
def rReprD (K : Frag) : List V → Hp → VK → Prop := fun xs H Q => ∃ x B t F, xs = [x] ∧ Sub B H ∧ Rp K B H x t F ∧ okR t = true ∧ Q (.str (shR t)) H
theorem call_reprD {X : Cx} (hu : X.A.units + 64 < cLine) (hg : X.A.guards = some []) (hS : SysAt X.base) : CallR X (.builtin "repr") (rReprD X.K) := fun pins s σ H xs us Q I r h => by
  obtain ⟨x, B, t, F, rfl, hs, rp, ok, q⟩ := h
  obtain ⟨u, rfl, r1⟩ := vals1 r
  simp only [okR, Bool.and_eq_true, decide_eq_true_eq] at ok
  obtain ⟨⟨⟨⟨o1, o2⟩, o3⟩, o4⟩, o5⟩ := ok
  have hsz : (shR t).length ≤ sizeLine := by
    have := PyData.shown_le 600 (by decide) (toR t) o3
    rw [sizeLine_eq]
    show (toR t).shown.length ≤ _
    omega
  have hS2 : SysAt s.heap := by
    obtain ⟨o, es, ep, e, d⟩ := hS
    exact ⟨o, es, ep, I.bk _ _ e, d⟩
  obtain ⟨as, rd, hn⟩ := rp.readsR I hs hS2 o1 r1
  have fin : ∀ (s' : Shared) (k : Tok), Inv X pins σ H s' → EP X pins σ Q (.str (shR t) k) s' := fun s' k I' => ⟨.str _, H, I', ⟨k, rfl⟩, q⟩
  have big : ∀ a, u = .ref a → wpAny (model X.prog X.w) X.A (call (.builtin "repr") [u]) (EP X pins σ Q) X.xe s := fun a e => by
    subst e
    exact repr_of_reads' rd o2 (fun _ => hn) hg (by omega) (fun _ _ e => e) (fun h' k tk hk => fin _ k (I.kept hk)) hsz
  match t, rp, r1, o1, o2 with
  | .non, .non, r1, _, _ => cases r1; exact PySem.P.repr_of_none (fin _ _ (I.tok _))
  | .bl b, .bl _, r1, _, _ => cases r1; exact PySem.P.repr_of_bool (fin _ _ (I.tok _))
  | .int i, .int _, r1, _, o2 => obtain ⟨k, rfl⟩ := r1; exact PySem.P.repr_of_int (by simpa [toR, PyData.showable] using o2) (fin _ _ (I.tok _))
  | .str z, .str _, r1, _, _ => obtain ⟨k, rfl⟩ := r1; exact PySem.P.repr_of_str (fin _ _ (I.tok _)) hsz
  | .tup _, .tup _ _, r1, _, _ => cases r1; exact big _ rfl
  | .lst _ _, .lstF _ _, r1, _, _ => cases r1; exact big _ rfl
  | .lst _ _, .lstO _ _, r1, _, _ => cases r1; exact big _ rfl
  | .dct _ _, .dctF _ _ _, r1, _, _ => cases r1; exact big _ rfl
  | .dct _ _, .dctO _ _ _, r1, _, _ => cases r1; exact big _ rfl
theorem l_reprD {K : Frag} : LCl K (rReprD K) gReprD := fun B H xs ts F hs r Q hw Qv k => by
  match ts, r, hw with
  | [t], .cons r1 .nil, hw => exact ⟨_, B, t, _, rfl, hs, r1, hw.1, k _ _ H B [] hw.2 (Gro.refl hs) (.str _)⟩
end TL
set_option maxRecDepth 100000
set_option maxHeartbeats 1000000
set_option maxRecDepth 100000
set_option maxHeartbeats 1000000
namespace TL
open PySem PySem.Spec PyProof.Rows L2
def rNilL (K : Frag) (neg : Bool) : R2 := fun x y H Q => ∃ a b xs, x = .ref a ∧ y = .ref b ∧ SqL K H a xs ∧ SqL K H b [] ∧ Q (.bl (nb neg xs.isEmpty)) H
theorem op_eqNil {X : Cx} (hu : X.A.units + 64 < cLine) : OpR X (compareOp .Eq) (rNilL X.K false) := fun pins s σ H x y v u Q I rx ry h => by
  obtain ⟨a, b, xs, rfl, rfl, ha, hb, q⟩ := h
  cases rx; cases ry
  obtain ⟨its, r, ht, _⟩ := I.list ha
  obtain ⟨its2, r2, ht2, _⟩ := I.list hb
  cases r2
  have room : X.A.units < cLine := by omega
  cases r with
  | nil => exact SeqAt.RcAt.lists (e := fun _ => true) ht.isList ht2.isList rfl room (fun j h1 => absurd h1 (by simp)) X.prog X.w X.xe _ ⟨.bl true, H, I, rfl, q⟩
  | cons _ _ => exact SeqAt.RcAt.lists_lengths ht.isList ht2.isList (by simp) room X.prog X.w X.xe _ ⟨.bl false, H, I, rfl, q⟩
theorem op_neNil {X : Cx} (hu : X.A.units + 64 < cLine) : OpR X (compareOp .NotEq) (rNilL X.K true) := fun pins s σ H x y v u Q I rx ry h => by
  obtain ⟨a, b, xs, rfl, rfl, ha, hb, q⟩ := h
  cases rx; cases ry
  obtain ⟨its, r, ht, _⟩ := I.list ha
  obtain ⟨its2, r2, ht2, _⟩ := I.list hb
  cases r2
  have room : X.A.units < cLine := by omega
  cases r with
  | nil => exact SeqAt.RcNeAt.lists (e := fun _ => true) ht.isList ht2.isList rfl room (fun j h1 => absurd h1 (by simp)) X.prog X.w X.xe _ ⟨.bl false, H, I, rfl, q⟩
  | cons _ _ => exact SeqAt.RcNeAt.lists_lengths ht.isList ht2.isList (by simp) room X.prog X.w X.xe _ ⟨.bl true, H, I, rfl, q⟩
def gNilL (neg : Bool) : T → T → (T → Prop) → Prop
  | .lst _ xs, .lst _ [], Q => Q (.bl (nb neg xs.isEmpty))
  | _, _, _ => False
theorem l_nilL {K : Frag} {neg : Bool} : LOp K (rNilL K neg) (gNilL neg) := fun B H x y tx ty Fx Fy hs rx ry Q hw Qv k => by
  match tx, ty, rx, ry, hw with
  | .lst _ xs, .lst _ [], rx, ry, hw =>
    obtain ⟨a, vs, F1, rfl, h1, r1⟩ := rx.lst_inv hs
    obtain ⟨b, ws, F2, rfl, h2, r2⟩ := ry.lst_inv hs
    cases r2
    have e : vs.isEmpty = xs.isEmpty := by
      have := r1.length
      cases vs <;> cases xs <;> simp at this ⊢
    exact ⟨a, b, vs, rfl, rfl, h1, h2, by rw [e]; exact k _ _ H B [] hw (Gro.refl hs) (.bl _)⟩
theorem DefAt.calF {P : Program} {w : World} {K : Frag} {mg : Str → Option Value} {base : Heap} {x qual : Str} {st : Stmt} {f : Addr} {fd : FuncData} {ps : List Str} {k : Nat} {S : FS} {Td : Addr} {o : Obj} {its : List Value} {m : Nat} (F : DefAt K mg x qual st f fd (.ref Td))
    (G : FnG P w K mg base CX0 k f fd ps (spT K S)) (lT : K.lookup Td = some o) (oT : o.data = .seq its.toArray m)
    (h : ∀ (kV doc pm : Value) (an : Option Addr) (cdv ct : Value) (us : List Value), us.length = ps.length → ∃ kk, bindArgs (PySem.W.fnOf x qual (defArgs st) (defBody st) (defScope st) (.ref Td) kV doc pm an cdv ct) ⟨us, []⟩ = seqItems? (.ref Td) >>= kk ∧ kk (some its.toArray) = pure (ps.zip us)) : Cal P w K mg base k x [] S := by
  obtain ⟨kV, doc, pm, cdv, ct, an, o, _, _, _, rfl⟩ := F.text
  refine ⟨_, _, ps, F.nm, F.stays, ⟨[], .nil, fun s us X hl => ?_⟩, G⟩
  rw [List.append_nil] at hl ⊢
  obtain ⟨kk, e1, e2⟩ := h kV doc pm an cdv ct us hl
  exact BindsTo.of_looks fun M => e1.symm ▸ looks_items X lT oT (PySem.W.Looks.of_pure e2)
end TL
set_option maxRecDepth 100000
set_option maxHeartbeats 1000000
namespace TL
open PySem PySem.Spec PyProof.Rows L2
def LMs (K : Frag) (r : V → List V → Hp → VK → Prop) (g : Str → List T → (T → Prop) → Prop) : Prop := ∀ (B H : Hp) (z : Str) (xs : List V) (ts : List T) (F : List Addr), Sub B H → RpL K B H xs ts F →
  ∀ Q : T → Prop, g z ts Q → ∀ Qv : VK, (∀ v t H' B' G, Q t → Gro B H B' H' G → Rp K B' H' v t G → Qv v H') → r (.str z) xs H Qv
def wMs (g : Str → List T → (T → Prop) → Prop) (we : WE) (wa : WA) : WE := fun Δ Q => we Δ fun p Δ1 => onV Δ1 p fun x => match x with
  | .str z => wa Δ1 fun ps Δ2 => onVs Δ2 ps fun ts => g z ts fun t => Q (.val t) Δ2
  | _ => False
theorem rf_ms {K : Frag} {r : V → List V → Hp → VK → Prop} {g : Str → List T → (T → Prop) → Prop} {te : TE} {we : WE} {tr : TA} {wr : WA} (ho : LMs K r g) (he : RfE K te we) (ha : RfA K tr wr) : RfE K (tBM K "str" r te tr) (wMs g we wr) := fun Δ Q σ H B R hr hw Qv k => by
  refine he Δ _ σ H B R hr hw _ fun p Δ0 x H0 B0 hq hl0 hk0 ⟨G0, pr0, hr0⟩ => ?_
  obtain ⟨tx, Fx, rx, o⟩ := pr0.tree hr0 hq
  match tx, rx, o with
  | .str z, rx, o =>
    obtain ⟨rfl, _⟩ := rx.str_inv
    refine ⟨rfl, ha Δ0 _ σ H0 B0 R hr0.drop o _ fun ps Δ1 xs H1 B1 hq hl1 hk1 ⟨G1, pr1, hr1⟩ => ?_⟩
    obtain ⟨ts, F, rx, o2⟩ := pr1.trees hr1 hq
    refine ho B1 H1 z xs ts F hr1.sub rx _ o2 Qv fun v t H3 B3 G hQ he hv => ?_
    have hr3 : Rep K B1 H1 R σ Δ1 := hr1.drop
    exact k (.val t) Δ1 v H3 B3 hQ ((hl0.trans hl1).trans he.2.1) ((hk0.trans hk1).trans (hr3.keepExt he.1)) ⟨G, hv, hr3.gro he⟩
theorem ce_mS {X : Cx} {o e : Expr} {es : List Expr} {name : Str} {id : String} {apos cpos : Pos} {r : V → List V → Hp → VK → Prop} {g : Str → List T → (T → Prop) → Prop} {we : WE} {wr : WA} (slot : Slot "str" name id) (hty : typeOf (.builtin id) = pure (.type "method_descriptor")) (hm : MtR X id r) (hl : LMs X.K r g) (ho : CE X o we) (ha : CA X (e :: es) wr)
    (hbase : attributeBase o name X.env (eval o X.env) = eval o X.env := by rfl)
    (hfew : ((backTo cpos (starEach (e :: es) X.env)).all (fun x => !x.1) && (backToKw cpos (keywordEach [] X.env)).all (fun x => x.1.isSome)
      && decide ((e :: es).length + ([] : List Keyword).length + (if ([] : List Keyword).isEmpty then 0 else 1) < 30)) = true := by rfl)
    (hline : (apos.endLine == cpos.line) = true := by rfl) (hs : starEach (e :: es) X.env = (false, eval e X.env) :: starEach es X.env := by rfl) (hplain : (backTo cpos (starEach es X.env)).any (·.1) = false := by rfl) : CE X (.Call (.Attribute o name apos) (e :: es) [] cpos) (wMs g we wr) := by
  obtain ⟨t1, p1, r1⟩ := ho
  obtain ⟨t2, p2, r2⟩ := ha
  exact ⟨_, pe_bm PySem.F.plainAttrs_str slot hty hm p1 p2 hbase hfew hline hs hplain, rf_ms hl r1 r2⟩
def wDGet2 (wo wk wx : WE) : WE := fun Δ Q => wo Δ fun p Δ1 => onV Δ1 p fun d => match d with
  | .dct _ _ => wk Δ1 fun q Δ2 => wx Δ2 fun r Δ3 => onV Δ3 p fun x => onV Δ3 q fun y => onV Δ3 r fun z => match x, keyOf y with
    | .dct _ kvs, some kk => closed z = true ∧ closedK kvs = true ∧ Q (.val ((valT kvs kk).getD z)) Δ3
    | _, _ => False
  | _ => False
theorem ce_dget2 {X : Cx} {o e f : Expr} {apos cpos : Pos} {wo wk wx : WE} (hu : X.A.units + 1 < cLine) (ho : CE X o wo) (hk : CE X e wk) (hx : CE X f wx) (base : attributeBase o "get" X.env (eval o X.env) = eval o X.env := by rfl)
    (few : ((backTo cpos (starEach [e, f] X.env)).all (fun x => !x.1) && (backToKw cpos (keywordEach [] X.env)).all (fun x => x.1.isSome)
    && decide (([e, f] : List Expr).length + ([] : List Keyword).length + (if ([] : List Keyword).isEmpty then 0 else 1) < 30)) = true := by rfl) (line : (apos.endLine == cpos.line) = true := by rfl)
    (trees : backTo cpos (starEach [e, f] X.env) = [(false, eval e X.env), (false, eval f X.env)] := by rfl) : CE X (.Call (.Attribute o "get" apos) [e, f] [] cpos) (wDGet2 wo wk wx) := by
  obtain ⟨t1, p1, r1⟩ := ho
  obtain ⟨t2, p2, r2⟩ := hk
  obtain ⟨t3, p3, r3⟩ := hx
  refine ⟨_, pe_dget2 hu p1 p2 p3 ⟨base, few, line, trees⟩, fun Δ Q σ H B R hr hw Qv k => ?_⟩
  refine r1 Δ _ σ H B R hr hw _ fun p Δ1 x H1 B1 hq hl1 hk1 ⟨G1, pr1, hr1⟩ => ?_
  obtain ⟨tx, Fx, rx, o1⟩ := pr1.tree hr1 hq
  match tx, rx, o1 with
  | .dct b kvs, rx, o1 =>
    obtain ⟨a, kv, F', rfl, h1, h2, h3⟩ := rx.dct_inv hr1.sub
    refine ⟨a, rfl, .inl ⟨_, h1⟩, ?_⟩
    refine r2 Δ1 _ σ H1 B1 (G1 ++ R) hr1 o1 _ fun q Δ2 y H2 B2 hq2 hl2 hk2 ⟨G2, pr2, hr2⟩ => ?_
    refine r3 Δ2 _ σ H2 B2 (G2 ++ (G1 ++ R)) hr2 hq2 _ fun r Δ3 z H3 B3 hq3 hl3 hk3 ⟨G3, pr3, hr3⟩ => ?_
    have pr1' := (pr1.mono hl2 hk2.left).mono hl3 hk3.right.left
    have pr2' := pr2.mono hl3 hk3.left
    obtain ⟨tx, Fx, rx, o2⟩ := pr1'.tree hr3 hq3
    obtain ⟨ty, Fy, ry, o3⟩ := pr2'.tree hr3 o2
    obtain ⟨tz, Fz, rz, o4⟩ := pr3.tree hr3 o3
    have hr4 : Rep X.K B3 H3 R σ Δ3 := hr3.drop.drop.drop
    match tx, rx, o4 with
    | .dct b kvs, rx, o4 =>
      cases ek : keyOf ty with
      | none => simp only [ek] at o4
      | some kk =>
        simp only [ek] at o4
        obtain ⟨a', kv, F', ea, h1, h2, h3⟩ := rx.dct_inv hr3.sub
        cases ea
        have hv := val_of (k := kk) h2 h3
        have fin : ∀ v t, Rp X.K B3 H3 v t [] → Q (.val t) Δ3 → Qv v H3 := fun v t r q => k (.val t) Δ3 v H3 B3 q ((hl1.trans hl2).trans hl3) ((hk1.trans hk2.right).trans hk3.right.right) ⟨[], r, hr4⟩
        refine ⟨_, .inl ⟨kv, kk, h1, keyOf_V ry ek, rfl⟩, ?_⟩
        cases e : valT kvs kk with
        | none =>
          have : valV kv kk = none := by
            have := hv.1
            rw [e] at this
            cases e2 : valV kv kk with
            | none => rfl
            | some _ => rw [e2] at this; cases this
          rw [this]
          have q := o4.2.2
          rw [e] at q
          exact fin z tz (rz.c0 o4.1) q
        | some t =>
          obtain ⟨v, G, e1, rv⟩ := hv.2 t e
          rw [e1]
          have q := o4.2.2
          rw [e] at q
          refine fin v t (rv.c0 ?_) q
          unfold valT at e
          cases ef : kvs.find? fun kv => decide (kv.1 = kk) with
          | none => rw [ef] at e; cases e
          | some pr =>
            rw [ef] at e; cases e
            exact (closedK_iff kvs).mp o4.2.1 pr (List.mem_of_find?_eq_some ef)
end TL
set_option maxRecDepth 100000
set_option maxHeartbeats 1000000
namespace TL
open PySem PySem.Spec PyProof.Rows L2
theorem strs_rp {K : Frag} {B H : Hp} : ∀ ys : List Str, RpL K B H (ys.map V.str) (ys.map T.str) []
  | [] => .nil
  | y :: ys => RpL.cons (F := []) (G := []) (.str y) (strs_rp ys)
def gJoin (z : Str) : List T → (T → Prop) → Prop
  | [.lst _ xs], Q => match strsT xs with
    | some ys => (ys.map (·.length)).sum + ys.length * z.length ≤ 16777216 ∧ Q (.str (Txt.join z ys))
    | none => False
  | _, _ => False
theorem l_join {K : Frag} : LMs K (fun x xs H Q => ∃ a p, ∃ ys : List Str, x = .str a ∧ xs = [.ref p] ∧ (SqL K H p (ys.map V.str) ∨ SqT K H p (ys.map V.str)) ∧
    (ys.map (·.length)).sum + ys.length * a.length ≤ 16777216 ∧ Q (.str (Txt.join a ys)) H) gJoin := fun B H z xs ts F hs r Q hw Qv k => by
  match ts, r, hw with
  | [.lst o ws], .cons r1 .nil, hw =>
    obtain ⟨a, vs, F', rfl, h1, r2⟩ := r1.lst_inv hs
    simp only [gJoin] at hw
    cases e : strsT ws with
    | none => rw [e] at hw; exact hw.elim
    | some ys =>
      rw [e] at hw
      obtain ⟨e1, e2⟩ := strsT_of r2 e
      exact ⟨z, a, ys, rfl, rfl, .inl (by rw [← e1]; exact h1), hw.1, k _ _ H B [] hw.2 (Gro.refl hs) (.str _)⟩
theorem strsT_map : ∀ ys : List Str, strsT (ys.map .str) = some ys
  | [] => rfl
  | y :: ys => by simp only [List.map_cons, strsT, strsT_map ys]; rfl
theorem blsT_map : ∀ ys : List Bool, blsT (ys.map .bl) = some ys
  | [] => rfl
  | y :: ys => by simp only [List.map_cons, blsT, blsT_map ys]; rfl
def gAny : List T → (T → Prop) → Prop
  | [.lst _ xs], Q => match blsT xs with
    | some bs => Q (.bl (bs.any id))
    | none => False
  | _, _ => False
theorem l_any {K : Frag} : LCl K (rAny K) gAny := fun B H xs ts F hs r Q hw Qv k => by
  match ts, r, hw with
  | [.lst o ys], .cons r1 .nil, hw =>
    obtain ⟨a, vs, F', rfl, h1, r2⟩ := r1.lst_inv hs
    simp only [gAny] at hw
    cases e : blsT ys with
    | none => rw [e] at hw; exact hw.elim
    | some bs =>
      rw [e] at hw
      obtain ⟨e1, e2⟩ := blsT_of r2 e
      exact ⟨a, bs, rfl, by rw [← e1]; exact h1, k _ _ H B [] hw (Gro.refl hs) (.bl _)⟩
def wPar3 (i j l : Nat) (wa : WA) : WS := fun D Δ => wa Δ fun ps Δ1 => match ps with
  | [p, q, r] => wTake p Δ1 fun t Δ2 => wTake q Δ2 fun u Δ3 => wTake r Δ3 fun v Δ4 => D.nx (((Δ4.set i (some t)).set j (some u)).set l (some v))
  | _ => False
theorem rf_par3 {K : Frag} {W : WX} {np i j l : Nat} {ta : TA} {wa : WA} (hi : np ≤ i) (hj : np ≤ j) (hl' : np ≤ l) (h : RfA K ta wa) : RfS K np W (tPar3 i j l ta) (wPar3 i j l wa) := fun D Δ σ H B R hr hw E k1 k2 k3 k4 k5 => by
  refine h Δ _ σ H B R hr hw _ fun ps Δ1 vs H1 B1 q hl hk ⟨G, pr, hr1⟩ => ?_
  match ps, pr, q with
  | [p, q', r'], .cons (F := F) (v := v) h1 (.cons (F := F2) (v := v2) h2 (.cons (F := F3) (v := v3) h3 .nil)), q =>
    have o : Out K B1 H1 ((F2 ++ (F3 ++ [])) ++ R) σ Δ1 p v := ⟨F, h1, by rw [List.append_assoc] at hr1; exact hr1⟩
    obtain ⟨t, Δ2, B2, G1, q2, hle, r, hr2⟩ := take_ok o q
    have o2 : Out K B2 H1 (F3 ++ (G1 ++ R)) σ Δ2 q' v2 := ⟨F2, h2.mono hle fun _ _ => rfl, hr2.weak fun a => by simp only [List.count_append, List.count_nil]; omega⟩
    obtain ⟨u, Δ3, B3, G2, q3, hle2, r2, hr3⟩ := take_ok o2 q2
    have o3 : Out K B3 H1 (G2 ++ (G1 ++ R)) σ Δ3 r' v3 := ⟨F3, h3.mono (hle.trans hle2) fun _ _ => rfl, hr3.weak fun a => by simp only [List.count_append]; omega⟩
    obtain ⟨w, Δ4, B4, G3, q4, hle3, r3, hr4⟩ := take_ok o3 q3
    have s1 := Rep.set (i := i) (x := some v) (d := some t) (G := G1) (R := G2 ++ (G3 ++ R)) (hr4.weak fun a => by simp only [List.count_append]; omega) (r.mono (hle2.trans hle3) fun _ _ => rfl)
    have s2 := Rep.set (i := j) (x := some v2) (d := some u) (G := G2) (R := G3 ++ R) s1 (r2.mono hle3 fun _ _ => rfl)
    have s3 := Rep.set (i := l) (x := some v3) (d := some w) s2 r3
    refine ⟨v, v2, v3, rfl, k1 _ _ _ B4 q4 ⟨((hl.trans hle).trans hle2).trans hle3, hk, fun n hn => ?_⟩ s3⟩
    rw [List.getElem?_set_ne (by omega), List.getElem?_set_ne (by omega), List.getElem?_set_ne (by omega)]
theorem cs_par3 {X : Cx} {np i j l : Nat} {x y z : Str} {a b c : Expr} {wa : WA} {px py pz pt pos : Pos} {kt k2 pt2} (hc : X.calm = true) (hN : X.N.Nodup) (hi : X.N[i]? = some x) (hj : X.N[j]? = some y) (hl : X.N[l]? = some z) (hij : i ≠ j) (hil : i ≠ l) (hjl : j ≠ l)
    (hx : X.env.scope.names.lookup x = some .local) (hy : X.env.scope.names.lookup y = some .local) (hz : X.env.scope.names.lookup z = some .local) (hpi : np ≤ i) (hpj : np ≤ j) (hpl : np ≤ l) (ha : CA X [a, b, c] wa)
    (both : swappedStores [.Tuple [.Name x px, .Name y py, .Name z pz] kt pt] (.Tuple [a, b, c] k2 pt2) X.env = pure (some [x, y, z])) (sole : swapsWithSole [.Tuple [.Name x px, .Name y py, .Name z pz] kt pt] (.Tuple [a, b, c] k2 pt2) pos.line X.env = pure false := by rfl) :
    CS X np (.Assign [.Tuple [.Name x px, .Name y py, .Name z pz] kt pt] (.Tuple [a, b, c] k2 pt2) pos) (wPar3 i j l wa) := by
  obtain ⟨ta, p, r⟩ := ha
  exact ⟨fun W tk => ⟨_, ps_par3 hc hN hi hj hl hij hil hjl hx hy hz p both sole, rf_par3 hpi hpj hpl r⟩⟩
theorem bt_any : bootBuiltins "any" = some (.builtin "any") := by decide +kernel
end TL
set_option maxRecDepth 100000
set_option maxHeartbeats 1000000
set_option maxRecDepth 100000
set_option maxHeartbeats 1000000
namespace TL
open PySem PySem.Spec PyProof.Rows L2
/-- the suite's ends: behind it the clause's name is gone -/
def goneE (i : Nat) (D : Ends) : Ends := { nx := fun σ H => D.nx (σ.set i none) H, rt := D.rt, bk := fun σ H => D.bk (σ.set i none) H, ct := fun σ H => D.ct (σ.set i none) H }
def wFirst (K : Frag) (c : Value) (i : Nat) (ts : Addr → Value → Option Addr → TS) (D : Ends) : WX := fun cls od σ H =>
  PySem.W.exmOne K cls c = some true ∧ ∀ a, H a = none → ts a cls od (goneE i D) (σ.set i (some (.ref a))) H
section
variable {X : Cx} {x n : Str} {c : Value} {i : Nat} {body suite : List Stmt} {b₀ : Stmt} {np pos pos' : Pos} {more : List ExceptHandler} {tb : WX → TS} {ts : Addr → Value → Option Addr → TS}
/-- an exception's object is no frame -/
theorem not_frame {h base : Heap} {a : Addr} {l : List Env} {o : Obj} {vs : Array Value} (ff : h.FunFrames base l) (e : h.get? a = some o) (d : o.data = .fields vs) : a ∉ frs l := fun hm => by
  obtain ⟨_, o2, e2, no⟩ := ff.mem hm
  rw [e] at e2
  cases e2
  exact no vs d
theorem ps_try_first (hs : X.stack = X.env :: X.outer) (hf : X.env.frame = some X.env.locals) (hN : X.N.Nodup) (hi : X.N[i]? = some n) (hln : X.env.kindOf n = some .local) (hc : Names X x c)
    (hb : ∀ (W : WX) (pn : List (Addr × Obj)) (xe : Value → Shared → Prop), L2N.Takes (X.tr pn xe) W → PassesOwn (model X.prog X.w) X.A X.env xe → PSs (X.tr pn xe) body (tb W))
    (hsu : ∀ (a : Addr) (oe : Obj) (cls : Value) (od : Option Addr) (pn : List (Addr × Obj)), L2N.Zn cls od oe → (∃ vs, oe.data = .fields vs) → PSs (X.suite a ((a, oe) :: pn)) (b₀ :: suite) (ts a cls od)) :
    PS X (.Try body (.ExceptHandler (some (.Name x np)) (some n) (b₀ :: suite) pos' :: more) [] [] pos) (fun D σ H => tb (wFirst X.K c i ts D) D σ H) := by
  constructor
  intro pins s σ H D I h
  have ok := I.ok
  have frames : X.A.frames = some (X.env :: X.outer) := ok.frames.trans (congrArg some hs)
  apply wpAny_Try_except
  let look : Value → Shared → Prop := fun u s1 => wpAny (model X.prog X.w) X.A (noteFrame u X.env) (fun _ s2 => wpAny (model X.prog X.w) X.A (setFlight u none) (fun _ s3 =>
    wpAny (model X.prog X.w) X.A (handleBy u X.env (.ExceptHandler (some (.Name x np)) (some n) (b₀ :: suite) pos' :: more)) (SP X pins D) X.xe s3) X.xe s2) X.xe s1
  have takes : L2N.Takes (X.tr (X.pn ++ pins) look) (wFirst X.K c i ts D) := by
    rintro _ s' ⟨a, B, sI, pins', σ', H', cls, d, rfl, J0, nb, up, sky, na, os, ag, fits, suited⟩
    have J : Inv X pins σ' H' sI := J0.ofTry ok
    have air : Sky B (X.env :: X.outer) a (L2N.Zn cls d) X.env.locals s'.heap := hs ▸ sky
    apply L2N.Sky.land L2N.Zn.steady frames hf air
    intro h3 fl3 up3
    have J3 : Inv X pins σ' H' { s' with heap := h3 } := J.landed nb fl3.1 (up.trans up3) os ag
    obtain ⟨o3, v3, get3, zc3, dat3⟩ := fl3.there
    have far := not_frame fl3.2.2.1 get3 dat3
    have notLoc : a ≠ X.env.locals := fun z => far (List.mem_filterMap.mpr ⟨X.env, List.mem_cons_self, hf.trans (congrArg some z.symm)⟩)
    have notFs : a ∉ X.fs := fun hm => far (by
      obtain ⟨e, he, q⟩ := List.mem_filterMap.mp hm
      exact List.mem_filterMap.mpr ⟨e, List.mem_cons_of_mem _ he, q⟩)
    have in3 := J3.suite get3 dat3 na notLoc notFs
    have isCls : PySem.W.Looks (model X.prog X.w) h3 (typeOf (.ref a)) cls := fun _ _ _ _ k q => wpAny_typeOf_ref (k _ _ get3) (zc3.1.symm ▸ q)
    have isOne := PySem.W.exm_one (M := model X.prog X.w) J3.kIn isCls fits
    have named : ∀ {Q E : Value → Shared → Prop}, Q c { s' with heap := h3 } → wpAny (model X.prog X.w) (X.A.mark (some (.ref a))) (eval (.Name x np) X.env) Q E { s' with heap := h3 } := by
      intro Q E q
      rcases hc with ⟨g, nd, m | ⟨m, v, nn⟩⟩
      · exact ld_glob (X := X.suite a ((a, o3) :: (X.pn ++ pins))) in3 g m q nd
      · exact ld_blt (X := X.suite a ((a, o3) :: (X.pn ++ pins))) in3 g m v q nn nd
    refine wpAny_handleBy_cons (codeAny_handlers_test (named (isOne.here ?_))) fun q => nomatch q
    apply codeAny_handlers_suite_as
    apply HandSPX.lands_againZ fl3
    intro h4 fl4 up4
    have J4 : Inv X pins σ' H' { s' with heap := h4 } := J.landed nb fl4.1 ((up.trans up3).trans up4) os ag
    obtain ⟨o4, v4, get4, zc4, dat4⟩ := fl4.there
    refine store_ok (X := X.suite a ((a, o4) :: (X.pn ++ pins))) (v := .ref a) (J4.suite get4 dat4 na notLoc notFs) hN hi (.inl hln) rfl ?_ (.inr hln)
    intro s5 I5
    have runs := (hsu a o4 cls d (X.pn ++ pins) zc4 ⟨_, dat4⟩).run [] s5 _ H' _ I5 (suited a na)
    refine wpAny_mono runs ?_ fun _ _ z => z.elim
    intro f s6 how
    have goes : ∀ {σ6 : Sg} {H6 : Hp} {Q : Shared → Prop}, Inv (X.suite a ((a, o4) :: (X.pn ++ pins))) [] σ6 H6 s6 → (∀ s7, Inv X pins (σ6.set i none) H6 s7 → Q s7) →
        wpAny (model X.prog X.w) X.A (do bindName X.env n .none; unbindBehindTheSuite X.env n pos') (fun _ s7 => Q s7) X.xe s6 := fun I6 q => gone_ok (I6.unsuite ok) hN hi hln q
    match f, how with
    | .next, ⟨_, _, I6, q⟩ => exact goes I6 fun _ J7 => ⟨_, _, J7, q⟩
    | .brk, ⟨_, _, I6, q⟩ => exact goes I6 fun _ J7 => ⟨_, _, J7, q⟩
    | .cont, ⟨_, _, I6, q⟩ => exact goes I6 fun _ J7 => ⟨_, _, J7, q⟩
    | .ret _, ⟨_, _, _, I6, r, q⟩ => exact goes I6 fun _ J7 => ⟨_, _, _, J7, r, q⟩
  have ends := (hb _ (X.pn ++ pins) look takes PassesOwn.looking).run [] s σ H D (I.toTry _) h
  refine wpAny_mono ends ?_ fun _ _ z => z
  intro f s1 how
  match f, how with
  | .next, ⟨σ', H', J, q⟩ => exact wpAny_execs_nil ⟨σ', H', J.ofTry ok, q⟩
  | .brk, ⟨σ', H', J, q⟩ => exact ⟨σ', H', J.ofTry ok, q⟩
  | .cont, ⟨σ', H', J, q⟩ => exact ⟨σ', H', J.ofTry ok, q⟩
  | .ret _, ⟨v, σ', H', J, r, q⟩ => exact ⟨v, σ', H', J.ofTry ok, r, q⟩
end
/-- .. read over trees -/
def TSof (K : Frag) (np : Nat) (W : WX) (w : WS) : TS := fun E σ H => ∃ (D : EndsD) (Δ : Dt) (B : Hp) (R : List Addr), Rep K B H R σ Δ ∧ w D Δ ∧
  (∀ Δ' σ' H' B', D.nx Δ' → Fin K B H R np σ B' H' σ' → Rep K B' H' R σ' Δ' → E.nx σ' H') ∧
  (∀ t Δ' σ' v H' B' G, D.rt t Δ' → Fin K B H R np σ B' H' σ' → Rp K B' H' v t G → Rep K B' H' (G ++ R) σ' Δ' → E.rt v H') ∧
  (∀ Δ' σ' H' B', D.bk Δ' → Fin K B H R np σ B' H' σ' → Rep K B' H' R σ' Δ' → E.bk σ' H') ∧
  (∀ Δ' σ' H' B', D.ct Δ' → Fin K B H R np σ B' H' σ' → Rep K B' H' R σ' Δ' → E.ct σ' H') ∧
  (∀ x fs Δ' σ' od H' B', D.ex x fs Δ' → Fin K B H R np σ B' H' σ' → Rep K B' H' R σ' Δ' → ExR K B' H' fs od → W (.ref (clsOf K x)) od σ' H')
theorem CSs.pss {X : Cx} {np : Nat} {st : List Stmt} {w : WS} {W : WX} (h : CSs X np st w) (tk : L2N.Takes X W) : PSs X st (TSof X.K np W w) := by
  obtain ⟨ts, p, r⟩ := h.ex W tk
  exact ⟨fun pins s σ H E I ⟨D, Δ, B, R, hr, hw, k1, k2, k3, k4, k5⟩ => p.run pins s σ H E I (r D Δ σ H B R hr hw E k1 k2 k3 k4 k5)⟩
/-- try: the clause takes the classes ok, its name is in slot i; ws a y od: the suite, for the exception at a of the class y with the dict od -/
def goneD (i : Nat) (D : EndsD) : EndsD := { nx := fun Δ => D.nx (Δ.set i none), rt := D.rt, bk := fun Δ => D.bk (Δ.set i none), ct := fun Δ => D.ct (Δ.set i none) }
def exTry (ok : List Str) (i : Nat) (ws : Addr → Str → Option Addr → WS) (D : EndsD) (y : Str) (fs : List (Str × T)) (Δ : Dt) : Prop :=
  y ∈ ok ∧ ∀ a od, ws a y od (goneD i D) (Δ.set i (some (.exc a y od fs)))
def wTry (ok : List Str) (i : Nat) (wb : WS) (ws : Addr → Str → Option Addr → WS) : WS := fun D Δ => wb { D with ex := exTry ok i ws D } Δ
theorem Rp.exc_of {K : Frag} {B H : Hp} {a : Addr} {y : Str} {od : Option Addr} {fs : List (Str × T)} (h : ExR K B H fs od) : Rp K B H (.ref a) (.exc a y od fs) [] := by
  cases od with
  | none =>
    obtain rfl : fs = [] := h
    exact .exc0 a y
  | some d =>
    obtain ⟨fv, e, q, r⟩ := h
    exact .excD e q r
theorem cs_try {X : Cx} {x n : Str} {c : Value} {i p : Nat} {body suite : List Stmt} {b₀ : Stmt} {np pos pos' : Pos} {more : List ExceptHandler} {ok : List Str} {wb : WS} {ws : Addr → Str → Option Addr → WS}
    (hs : X.stack = X.env :: X.outer) (hf : X.env.frame = some X.env.locals) (hN : X.N.Nodup) (hi : X.N[i]? = some n) (hln : X.env.kindOf n = some .local) (hp : p ≤ i) (hc : Names X x c) (hok : ∀ y ∈ ok, PySem.W.exmOne X.K (.ref (clsOf X.K y)) c = some true)
    (hb : ∀ (pn : List (Addr × Obj)) (xe : Value → Shared → Prop), PassesOwn (model X.prog X.w) X.A X.env xe → CSs (X.tr pn xe) p body wb)
    (hsu : ∀ (a : Addr) (oe : Obj) (y : Str) (od : Option Addr) (pn : List (Addr × Obj)), y ∈ ok → L2N.Zn (.ref (clsOf X.K y)) od oe → (∃ vs, oe.data = .fields vs) → CSs (X.suite a ((a, oe) :: pn)) p (b₀ :: suite) (ws a y od)) :
    CS X p (.Try body (.ExceptHandler (some (.Name x np)) (some n) (b₀ :: suite) pos' :: more) [] [] pos) (wTry ok i wb ws) := by
  refine ⟨fun W tk => ⟨_, ps_try_first (tb := fun W => TSof X.K p W wb) (ts := fun a cls od E σ H => ∃ y, y ∈ ok ∧ cls = .ref (clsOf X.K y) ∧ TSof X.K p (fun _ _ _ _ => False) (ws a y od) E σ H) hs hf hN hi hln hc (fun W pn xe tk ps => (hb pn xe ps).pss tk) (fun a oe cls od pn z d => ?_), ?_⟩⟩
  · constructor
    rintro pins s σ H E I ⟨y, hy, rfl, q⟩
    exact ((hsu a oe y od pn hy z d).pss takes_no).run pins s σ H E I q
  · intro D Δ σ H B R hr hw E k1 k2 k3 k4 k5
    refine ⟨{ D with ex := exTry ok i ws D }, Δ, B, R, hr, hw, k1, k2, k3, k4, fun y fs Δ1 σ1 od H1 B1 ⟨hy, q⟩ f1 hr1 r => ⟨hok y hy, fun a _ => ⟨y, hy, rfl, _, _, B1, R, Rep.set (G := []) (x := some (.ref a)) (d := some (.exc a y od fs)) hr1 (Rp.exc_of r), q a od, fun Δ2 σ2 H2 B2 q2 f2 hr2 => ?_, fun t Δ2 σ2 v H2 B2 G q2 f2 r2 hr2 => ?_, fun Δ2 σ2 H2 B2 q2 f2 hr2 => ?_, fun Δ2 σ2 H2 B2 q2 f2 hr2 => ?_, fun _ _ _ _ _ _ _ q2 => q2.elim⟩⟩⟩
    all_goals have fa : Fin X.K B H R p σ B2 H2 σ2 := f1.trans ⟨f2.1, f2.2.1, fun j hj => (f2.2.2 j hj).trans (List.getElem?_set_ne (by omega))⟩
    · exact k1 _ _ _ _ q2 ⟨fa.1, fa.2.1, fun j hj => by rw [List.getElem?_set_ne (by omega)]; exact fa.2.2 j hj⟩ (Rep.set (G := []) (x := none) (d := none) hr2 rfl)
    · exact k2 _ _ _ _ _ _ G q2 fa r2 hr2
    · exact k3 _ _ _ _ q2 ⟨fa.1, fa.2.1, fun j hj => by rw [List.getElem?_set_ne (by omega)]; exact fa.2.2 j hj⟩ (Rep.set (G := []) (x := none) (d := none) hr2 rfl)
    · exact k4 _ _ _ _ q2 ⟨fa.1, fa.2.1, fun j hj => by rw [List.getElem?_set_ne (by omega)]; exact fa.2.2 j hj⟩ (Rep.set (G := []) (x := none) (d := none) hr2 rfl)
end TL
set_option maxRecDepth 100000
set_option maxHeartbeats 1000000
namespace TL
open PySem PySem.Spec PyProof.Rows L2
section
variable {X : Cx} {x : Str} {CK : Addr} {e : Expr} {es : List Expr} {ta : TA} {p1 p2 pos : Pos}
/-- what the written part says of the base whose __init__ is called by name -/
structure BaseAt (K : Frag) (mg : Str → Option Value) (x : Str) (CK : Addr) : Prop where
  nm : mg x = some (.ref CK)
  sp : PySem.W.specialIn K (.ref CK) "__getattribute__" = some (some (.builtin "type.__getattribute__"))
  ty : PySem.W.typeIn K (.ref CK) = some (.type "type")
  rd : PySem.W.readsIn K CK (.type "type") = true
  fc : PySem.W.findCls K (.ref CK) (.type "type") "__init__" = some (.val (.builtin "ValueError.__init__"))
/-- OwnBase.__init__(self, ..), which is ValueError's -/
theorem pe_baseInit {pl : Sem Bool} (hg : Gl X x) (T : BaseAt X.K X.mg x CK) (ha : PA X (e :: es) ta) (hdb : (x == ("__debug__" : Str)) = false := by decide)
    (hc : eval (.Call (.Attribute (.Name x p1) "__init__" p2) (e :: es) [] pos) X.env = (do let ov ← eval (.Name x p1) X.env; standAt p2.atName; let (f, first) ← holding [ov] (getMethod ov "__init__" pl); callWith pos f first (backTo pos (starEach (e :: es) X.env)) (backToKw pos (keywordEach [] X.env))) := by rfl)
    (he : starEach (e :: es) X.env = (false, eval e X.env) :: starEach es X.env := by rfl) (hpl : (backTo pos (starEach es X.env)).any (·.1) = false := by rfl) :
    PE X (.Call (.Attribute (.Name x p1) "__init__" p2) (e :: es) [] pos) (tVeI X.K ta) := by
  constructor
  intro pins s σ H Q I h
  obtain ⟨m, fr⟩ := I.fr
  refine PySem.W.methodCall_KW (ld_glob I hg T.nm (PySem.W.method_of_cls fr I.ok.mod.kin T.sp (PySem.W.cls_val fr I.ok.mod.kin T.ty T.rd T.fc (by decide +kernel) ?_)) hdb) hc
  show wpAny _ _ (callWith pos (Value.builtin "ValueError.__init__") [] (backTo pos (starEach (e :: es) X.env)) []) _ _ _
  apply PyProof.Rows.callWith_method1 (thn (ha.run pos pins _ σ H _ (I.tok _) h) _) he hpl
  rintro us s1 ⟨vs, H1, I1, r1, a, C, ws, rfl, hl, T1, ea, q⟩
  cases r1 with
  | @cons _ u0 _ ur ra rw' =>
    cases ra
    have short : ur.length ≤ sizeLine := by
      have e1 := rw'.length
      have e2 : (1000 : Nat) ≤ sizeLine := by decide
      omega
    exact oinit_ok T1 I1 ea short fun s' J => ⟨.non, H1, J, rfl, q⟩
end
/-- what such an __init__ promises: the fields fl from the parameters behind self -/
def spI (K : Frag) (fl : List Str) : Sp := fun vs H Q _ => ∃ (a C : Addr) (ys : List V), vs = .ref a :: ys ∧ ys.length = fl.length ∧ OexC K C ∧ (∀ f ∈ fl, PySem.W.findIn K (.ref C) f = some none) ∧ H a = some (exo a C none) ∧
  ∀ d H', H d = none → d ≠ a → H' a = some (exo a C (some d)) → H' d = some (exd d (fl.zip ys).reverse) → (∀ b, b ≠ a → b ≠ d → H' b = H b) → Q .non H'
theorem spI_len {K : Frag} {fl : List Str} {n : Nat} (h : fl.length + 1 = n) : ∀ vs H Q E, spI K fl vs H Q E → vs.length = n := by
  rintro vs H Q E ⟨a, C, ys, rfl, e, _⟩
  simp [e, h]
theorem init1 {K : Frag} {f : Str} {N : List Str} {m : Str} {vs : List V} {H : Hp} {Q : VK} {E : XK} (hN : N.length = 2) (h : spI K [f] vs H Q E) :
    tSeq (tDrop (tVeI K (tCons (tVar 0) (tCons (tC (.str m)) tNil)))) (tOst K f (tVar 0) (tVar 1)) { nx := fun _ H' => Q .non H', rt := Q } (L2.start N vs) H := by
  obtain ⟨a, C, ys, rfl, e, T, no, ea, k⟩ := h
  match ys, e with
  | [y], _ =>
    have s0 : (L2.start N [.ref a, y])[0]? = some (some (.ref a)) := rfl
    have s1 : (L2.start N [.ref a, y])[1]? = some (some y) := rfl
    refine ⟨_, s0, a, C, [.str m], rfl, (show 1 ≤ 1000 by decide), T, ea, _, s1, _, s0, a, C, rfl, T, no f (by simp), .inl ⟨ea, fun d hd ne => ?_⟩⟩
    exact k d _ hd ne upd_same (by rw [upd_ne ne, upd_same]; rfl) fun b h1 h2 => by rw [upd_ne h1, upd_ne h2]
/-- an exception class of the program: its fields, its __init__ (which runs in one room) -/
structure ExcAt (P : Program) (w : World) (K : Frag) (mg : Str → Option Value) (base : Heap) (x : Str) (fl : List Str) : Prop where
  ex : ∃ (fI : Addr) (fd : FuncData) (ps : List Str), OexC K (clsOf K x) ∧ PySem.W.findIn K (.ref (clsOf K x)) "__init__" = some (some (.ref fI)) ∧ PySem.W.typeIn K (.ref fI) = some (.type "function") ∧ FnOk P w K mg base CX0 1 fI fd ps (spI K fl) ∧ Binds K fd ps []
  nm : mg x = some (.ref (clsOf K x))
  no : ∀ f ∈ fl, PySem.W.findIn K (.ref (clsOf K x)) f = some none
  small : fl.length ≤ 900
/-- x(e, ..), as a raise needs it -/
theorem pmk_oexN {X : Cx} {CT : CXT} {x : Str} {e : Expr} {es : List Expr} {ta : TA} {p pos : Pos} {C fI : Addr} {j : Nat} {fd : FuncData} {ps : List Str} {sp : Sp} (T : OexC X.K C) (hI : PySem.W.findIn X.K (.ref C) "__init__" = some (some (.ref fI)))
    (hF : PySem.W.typeIn X.K (.ref fI) = some (.type "function")) (I0 : FnOk X.prog X.w X.K X.mg X.base CT j fI fd ps sp) (room : Room (j + 1) X.A) (bd : Binds X.K fd ps []) (out : Passes CT X (fun _ _ _ => False)) (gl : Gl X x) (nm : X.mg x = some (.ref C)) (args : PA X (e :: es) ta)
    (nodebug : (x == ("__debug__" : Str)) = false) (first : starEach (e :: es) X.env = (false, eval e X.env) :: starEach es X.env) (plain : (backTo pos (starEach es X.env)).any (·.1) = false) : L2N.PMk X (.Call (.Name x p) (e :: es) [] pos) (tMkO C sp [] ta) := by
  intro pins s σ H Q I asks
  obtain ⟨_, _, _, _, bm, _, _, _, _, _, _, _, _, _, _, atC, hbm⟩ := T.cls
  apply wpAny_Call_Name_kw (ld_glob I gl nm _ nodebug)
  apply PySem.W.callWith_K (h₀ := X.base) I.ok.mod.kin T.kC (thn (args.run pos pins s σ H _ I asks) _) first plain
  rintro us ⟨hp, g, dr, tk, os⟩ ⟨vs, H1, I1, r1, hz, q1⟩
  refine ⟨I1.kIn, ?_⟩
  show wpAny _ _ (call (.ref C) us) _ _ _
  generalize hn : hp.objs.size + 1 = n at *
  have up : hp.objs.size ≤ n := by omega
  have asked := q1 n (I1.hok.fresh up)
  generalize hh : (hp.push (PySem.W.kdv_tup us)).push (PySem.HandSPX.excO C hp.objs.size) = hq
  have kept : ∀ b o, hp.get? b = some o → hq.get? b = some o := fun b o z => by
    rw [← hh]; exact Heap.get?_push_of_some _ (Heap.get?_push_of_some _ z)
  have stands : hq.get? n = some (PySem.HandSPX.excO C hp.objs.size) := by rw [← hh, ← hn]; heap_get
  have I2 : Inv X pins σ (upd H1 n (exo n C none)) ⟨hq, g, dr, tk, os⟩ := I1.laid (t' := tk) (a := n) (o := exo n C none) (h' := hq) kept up (exo_ok stands)
  have r2 : Vals (V.ref n :: vs) (Value.ref n :: us) := .cons rfl r1
  rw [List.append_nil] at asked
  have len : (Value.ref n :: us ++ []).length = ps.length := by rw [List.append_nil, ← r2.length]; exact I0.len _ _ _ _ asked
  have short : us.length ≤ sizeLine := by
    have z := Paired.length r1
    rw [sizeLine_eq]; omega
  have bd2 := bd _ (Value.ref n :: us) I2.kIn len
  rw [List.append_nil] at bd2
  have ran := I0.run _ X.stack _ _ ⟨Value.ref n :: us, []⟩ (Value.ref n :: us) _ _ (fun _ _ _ => False) (room.make C us []) (I2.env0.make C us []) bd2 r2 asked
  refine wpAny_call (PySem.HandSPX.call_own F.excBase_ValueError (fun Y => PySem.HandSPX.refsVE_contains Y bm hbm) (I1.kIn _ _ atC) (PySem.W.looks_findIn I1.kIn hI) (fun self => PySem.W.bind_fn I1.kIn self hF) short ?_)
  rw [hn, hh]
  refine codeAny_mono ran fun r s' end' => ?_
  match r, s', end' with
  | .ok (.ret u), ⟨h2, g2, d2, t2, os'⟩, ⟨v, H2, sameOs, bare2, un2, hok2, rv, ev, d, fs, ea, ed, nd, q2⟩ =>
    obtain ⟨t0, G, J, kG, noG, atA, na⟩ := mk_end0 (d2 := d2) (t2 := t2) I1 up kept un2 hok2 sameOs bare2 ea ed nd
    subst ev
    exact ⟨rv, n, _, _, ⟨G, g2, d2, t2, os'⟩, _, .ref C, some d, rfl, J, kG, noG, atA, ⟨rfl, rfl, fun ws hw => by cases hw; rfl⟩, rfl, rfl, na, rfl, bare2, raises_own T.exC T.tyC, q2⟩
  | .error er, _, c => exact out pins σ _ _ er _ I2 c
  | .ok .next, _, c => exact False.elim c
  | .ok .brk, _, c => exact False.elim c
  | .ok .cont, _, c => exact False.elim c
/-- raise x(..), the fields fl -/
def wRaise (x : Str) (fl : List Str) (wa : WA) : WS := fun D Δ => wa Δ fun ps Δ1 => onVs Δ1 ps fun ts => ts.length = fl.length ∧ closedL ts = true ∧ D.ex x (fl.zip ts).reverse Δ1
theorem zip_fst : ∀ {fl : List Str} {α : Type} {ts : List α}, ts.length = fl.length → (fl.zip ts).map (·.1) = fl
  | [], _, _, _ => rfl
  | f :: fl, _, [], h => by simp at h
  | f :: fl, _, t :: ts, h => by simp only [List.zip_cons_cons, List.map_cons]; rw [zip_fst (by simpa using h)]
theorem zip_snd : ∀ {fl : List Str} {α : Type} {ts : List α}, ts.length = fl.length → (fl.zip ts).map (·.2) = ts
  | [], _, [], _ => rfl
  | [], _, _ :: _, h => by simp at h
  | f :: fl, _, [], h => by simp at h
  | f :: fl, _, t :: ts, h => by simp only [List.zip_cons_cons, List.map_cons]; rw [zip_snd (by simpa using h)]
theorem rf_raise {K : Frag} {W : WX} {np : Nat} {x : Str} {fl : List Str} {ta : TA} {wa : WA} (ha : RfA K ta wa) (T : OexC K (clsOf K x)) (no : ∀ f ∈ fl, PySem.W.findIn K (.ref (clsOf K x)) f = some none) (small : fl.length ≤ 900) :
    RfS K np W (fun _ σ H => tMkO (clsOf K x) (spI K fl) [] ta σ H fun cls od H' => W cls od σ H') (wRaise x fl wa) := fun D Δ σ H B R hr hw E k1 k2 k3 k4 k5 => by
  refine ha Δ _ σ H B R hr hw _ fun ps Δ1 vs H1 B1 q hl hk ⟨G, pr, hr1⟩ => ?_
  obtain ⟨ts, F, rL, hlen, hc, q2⟩ := pr.trees hr1 q
  have lv : vs.length = fl.length := rL.length.trans hlen
  refine ⟨by omega, fun a na => ⟨a, clsOf K x, vs, by rw [List.append_nil], lv, T, no, upd_same, fun d H2 nd ne ea ed rest => ⟨rfl, d, _, ea, ed, ?_, ?_⟩⟩⟩
  · rw [upd_ne ne] at nd; exact nd
  · rw [upd_ne ne] at nd
    have same : upd (del H2 a) d (.xd (fl.zip vs).reverse) = upd H1 d (.xd (fl.zip vs).reverse) := by
      funext b
      by_cases hd : b = d
      · rw [hd, upd_same, upd_same]
      · rw [upd_ne hd, upd_ne hd]
        by_cases hb : b = a
        · rw [hb, del_same, na]
        · rw [del_ne hb, rest b hb hd, upd_ne hb]
    rw [same]
    have gr : Gro B1 H1 (upd B1 d (.xd (fl.zip vs).reverse)) (upd H1 d (.xd (fl.zip vs).reverse)) [] := Gro.fro hr1.sub nd
    have hr2 := hr1.drop
    refine k5 x _ Δ1 σ (some d) _ _ q2 (Fin.of (hl.trans gr.2.1) (hk.trans (hr2.keepExt gr.1))) (hr2.gro gr) ⟨_, upd_same, ?_, ?_⟩
    · rw [List.map_reverse, List.map_reverse, zip_fst lv, zip_fst hlen]
    · rw [List.map_reverse, List.map_reverse, zip_snd lv, zip_snd hlen]
      exact (RpL.rev0 (rL.cl hc (Le.refl B1) (H' := H1)) rfl).mono gr.2.1 fun _ z => nomatch z
theorem cs_raise {X : Cx} {np k : Nat} {x : Str} {fl : List Str} {e : Expr} {es : List Expr} {p pos pos2 : Pos} {wa : WA} (T : ExcAt X.prog X.w X.K X.mg X.base x fl) (hr : Room k X.A) (hk : 2 ≤ k) (hc : X.calm = true) (hg : Gl X x) (ha : CA X (e :: es) wa)
    (hdb : (x == ("__debug__" : Str)) = false := by decide) (he : starEach (e :: es) X.env = (false, eval e X.env) :: starEach es X.env := by rfl) (hpl : (backTo pos (starEach es X.env)).any (·.1) = false := by rfl) :
    CS X np (.Raise (some (.Call (.Name x p) (e :: es) [] pos)) none pos2) (wRaise x fl wa) := by
  refine ⟨fun W tk => ?_⟩
  obtain ⟨ta, pa, ra⟩ := ha
  obtain ⟨fI, fd, ps, oe, iC, tI, F1, hb⟩ := T.ex
  exact ⟨_, L2N.ps_raise hc tk (pmk_oexN oe iC tI F1 (hr.mono hk) hb pass0 hg T.nm pa hdb he hpl), rf_raise ra oe T.no T.small⟩
end TL
set_option maxRecDepth 100000
set_option maxHeartbeats 1000000
namespace TL
open PySem PySem.Spec PyProof.Rows L2
section
variable {X : Cx} {CX : CXT} {k : Nat} {f : Addr} {fd : FuncData} {ps : List Str} {sp : Sp} {E : Sg → XK}
theorem pe_callGS {vs0 : List V} {us0 : List Value} {x : Str} {p pos : Pos} {e : Expr} {es : List Expr} {t : TA} (F : FnG X.prog X.w X.K X.mg X.base CX k f fd ps sp) (room : Room k X.A) (quiet : X.A.guards = some []) (gl : Gl X x) (nm : X.mg x = some (.ref f)) (kp : PySem.W.keepIn X.K (.ref f) = true)
    (bd : Binds X.K fd ps us0) (fill : Vals vs0 us0) (out : ∀ σ, PassesAt CX X σ (E σ)) (args : PA X (e :: es) t) (nodebug : (x == ("__debug__" : Str)) = false) (first : starEach (e :: es) X.env = (false, eval e X.env) :: starEach es X.env) (plain : (backTo pos (starEach es X.env)).any (·.1) = false) :
    PE X (.Call (.Name x p) (e :: es) [] pos) (fun σ H Q => t σ H fun vs H1 => sp (vs ++ vs0) H1 Q (E σ)) := ⟨fun pins s σ H Q I asks =>
  wpAny_Call_Name_kw (ld_glob I gl nm (PySem.W.callWith_K (h₀ := X.base) I.ok.mod.kin kp (thn (args.run pos pins s σ H _ I asks) fun us s1 ⟨vs, H1, J, got, more⟩ => ⟨J.kIn, by
    have all := got.append fill
    have st : Stand X.prog X.w X.K X.mg X.base k fd ps X.A X.stack s1 H1 ⟨us, []⟩ (us ++ us0) (vs ++ vs0) := { room, quiet, env := J.env0, meets := bd s1 us J.kIn (all.length.symm.trans (F.arity more)), vals := all }
    refine wpAny_call (codeAny_mono (F.keeps st more) fun r s' end' => ?_)
    match r, end' with
    | .ok (.ret _), c => exact J.after c
    | .error ex, c => exact out σ pins H1 s1 ex s' J c
    | .ok .next, c => exact False.elim c
    | .ok .brk, c => exact False.elim c
    | .ok .cont, c => exact False.elim c⟩) first plain) nodebug)⟩
end
/-- f(..) as a statement -/
def wCallX (S : FS) (ds : List T) (wa : WA) : WS := fun D Δ => wa Δ fun ps Δ1 => onVs Δ1 ps fun ts => dupOk Δ1 ps = true ∧ S (ts ++ ds) fun r ts' => match r with
  | .ret _ => D.nx (backs Δ1 ps (ts'.take ts.length))
  | .exc x fs => D.ex x fs (backs Δ1 ps (ts'.take ts.length))
theorem rpL_cut {K : Frag} {B H : Hp} : ∀ {vs ws : List V} {ts : List T} {F : List Addr}, RpL K B H (vs ++ ws) ts F → ∃ F1 F2, F = F1 ++ F2 ∧ RpL K B H vs (ts.take vs.length) F1
  | [], _, _, F, _ => ⟨[], F, rfl, .nil⟩
  | _ :: vs, ws, _, _, .cons (F := F) (G := G) h1 h2 => by
    obtain ⟨F1, F2, e, r⟩ := rpL_cut (vs := vs) h2
    exact ⟨F ++ F1, F2, by rw [e, List.append_assoc], .cons h1 r⟩
theorem rf_callX {K : Frag} {W : WX} {np : Nat} {ta : TA} {wa : WA} {S : FS} {ds : List T} (hds : ds.all scT = true) (ha : RfA K ta wa) : RfS K np W (tDrop fun σ H Q => ta σ H fun vs H1 => spT K S (vs ++ ds.map scV) H1 Q (fun cls od H' => W cls od σ H')) (wCallX S ds wa) := fun D Δ σ H B R hr hw E k1 k2 k3 k4 k5 => by
  refine ha Δ _ σ H B R hr hw _ fun ps Δ1 vs H1 B1 q hl hk ⟨G, pr, hr1⟩ => ?_
  have hd : dupOk Δ1 ps = true := by
    obtain ⟨ts, F, _, q2⟩ := pr.trees hr1 q
    exact q2.1
  obtain ⟨ts, G0, Δ0, rL, hr0, q2, back⟩ := args_out pr hr1 q hd
  obtain ⟨F0, hS0, hdj⟩ := hr0.fp
  have lv : vs.length = ts.length := rL.length
  have out : ∀ {ts' : List T} {H' B' : Hp} {G2 : List Addr}, Le B1 B' → Keep (F0 ++ R) H1 H' → Rep K B' H' (G2 ++ (F0 ++ R)) ((vs ++ ds.map scV).map some) (ts'.map some) → Rep K B' H' (G2 ++ R) σ (backs Δ1 ps (ts'.take ts.length)) := fun {ts' H' B' G2} hle hkp hrep => by
    obtain ⟨G', hS', hdj'⟩ := hrep.fp
    obtain ⟨F1, F2, e, r⟩ := rpL_cut (RpS.to_L hS')
    subst e
    rw [lv] at r
    exact back B' H' _ F1 (G2 ++ R) r ⟨hrep.sub, F0, hS0.mono hle hkp.left, hdj'.of_le fun a => by simp only [List.count_append]; omega⟩
  refine ⟨ts ++ ds, B1, F0 ++ R, _, ?_, q2.2, fun t ts' v H' B' G2 qf hle hkp r hrep => ?_, fun x fs ts' od H' B' qf hle hkp hrep ex => ?_⟩
  · refine ⟨hr0.sub, G0 ++ [], RpS.of_L (RpL.append rL (rpl_sc hds)), hdj.of_le fun a => by simp only [List.count_append, List.count_nil]; omega⟩
  · exact k1 _ _ _ _ qf (Fin.of (hl.trans hle) (hk.trans hkp.right)) (out hle hkp hrep).drop
  · exact k5 x fs _ σ od H' B' qf (Fin.of (hl.trans hle) (hk.trans hkp.right)) (out (G2 := []) hle hkp hrep) ex
/-- such a def as its callers need it -/
structure CalX (P : Program) (w : World) (K : Frag) (mg : Str → Option Value) (base : Heap) (k : Nat) (x : Str) (ds : List T) (S : FS) : Prop where
  ex : ∃ (f : Addr) (fd : FuncData) (ps : List Str), mg x = some (.ref f) ∧ PySem.W.keepIn K (.ref f) = true ∧ (∃ us, Vals (ds.map scV) us ∧ Binds K fd ps us) ∧ FnG P w K mg base (L2N.CX P w) k f fd ps (spT K S)
theorem cs_callX {X : Cx} {np j k : Nat} {S : FS} {x : Str} {ds : List T} {p pos pos2 : Pos} {e : Expr} {es : List Expr} {wa : WA} (c : CalX X.prog X.w X.K X.mg X.base j x ds S) (hds : ds.all scT = true) (hr : Room k X.A) (hj : j ≤ k) (hgd : X.A.guards = some []) (hg : Gl X x) (ha : CA X (e :: es) wa)
    (hdb : (x == ("__debug__" : Str)) = false := by decide) (he : starEach (e :: es) X.env = (false, eval e X.env) :: starEach es X.env := by rfl) (hpl : (backTo pos (starEach es X.env)).any (·.1) = false := by rfl)
    (hs : swapsWith (.Call (.Name x p) (e :: es) [] pos) none pos2.line X.env = pure false := by rfl) : CS X np (.Expr (.Call (.Name x p) (e :: es) [] pos) pos2) (wCallX S ds wa) := by
  refine ⟨fun W tk => ?_⟩
  obtain ⟨ta, pa, ra⟩ := ha
  obtain ⟨f, fd, ps, hm, hk, ⟨us, hus, hb⟩, F⟩ := c.ex
  exact ⟨_, ps_expr (pe_callGS (E := fun σ cls od H' => W cls od σ H') F (hr.mono hj) hgd hg hm hk hb hus (L2N.passAt tk) pa hdb he hpl) hs, rf_callX hds ra⟩
/-- the ways without an exception -/
def noX (S : FS) : FS := fun ts Q => S ts fun r ts' => match r with
  | .ret t => Q (.ret t) ts'
  | .exc _ _ => False
theorem CalX.nox {P : Program} {w : World} {K : Frag} {mg : Str → Option Value} {base : Heap} {k : Nat} {x : Str} {ds : List T} {S : FS} (c : CalX P w K mg base k x ds S) : Cal P w K mg base k x ds (noX S) := by
  obtain ⟨f, fd, ps, hm, hk, hb, F⟩ := c.ex
  have weak : ∀ {vs H Q E}, spT K (noX S) vs H Q E → spT K S vs H Q fun _ _ _ => False := fun {vs H Q E} ⟨ts, B, R, Qf, hr, q, k1, k2⟩ => by
    refine ⟨ts, B, R, _, hr, q, fun t ts' v H' B' G qf => k1 t ts' v H' B' G qf, fun x fs ts' od H' B' qf => qf.elim⟩
  refine ⟨f, fd, ps, hm, hk, hb, fun {vs H Q E} asks => F.arity (weak asks), fun {A outer s H args us vs Q E} st asks => ?_⟩
  refine codeAny_mono (F.keeps st (weak asks)) fun r s' got => ?_
  match r, got with
  | .ok (.ret _), c => exact c
  | .error ex, c =>
    obtain ⟨_, _, _, _, _, _, _, _, _, _, _, _, no⟩ := c
    exact no.elim
  | .ok .next, c => exact False.elim c
  | .ok .brk, c => exact False.elim c
  | .ok .cont, c => exact False.elim c
section
variable {P : Program} {w : World} {K : Frag} {mg : Str → Option Value} {base : Heap} {x qual : Str} {st : Stmt} {f : Addr} {fd : FuncData} {dV : Value} {N ps : List Str} {k : Nat} {S : FS}
theorem def_okX (np : Nat) (F : DefAt K mg x qual st f fd dV) (Sc : FnScope N ps (defScope st)) (hlen : ∀ ts Q, S ts Q → ts.length = ps.length) (hnp : np ≤ ps.length)
    (body : ∀ (cdv : Value) (A : Around) (outer : List Env) (s : Shared) (H : Hp) (E : XK), Room k (A.deeper (envOfC qual (defScope st) s.heap.objs.size f cdv)) → (A.deeper (envOfC qual (defScope st) s.heap.objs.size f cdv)).guards = some [] →
      ∃ w', CSs (cxOf (L2N.CX P w) P w K mg base N qual (defScope st) f cdv A outer s H E) np (defBody st) w' ∧ ∀ ts Qf, S ts Qf → w' (endsX np ts Qf) (startD N np ts)) : FnG P w K mg base (L2N.CX P w) (k + 1) f fd ps (spT K S) := by
  obtain ⟨kV, doc, pm, cdv, ct, an, o, stands, isF, code, rfl⟩ := F.text
  have arity : ∀ {vs H Q E}, spT K S vs H Q E → vs.length = ps.length := fun {vs H Q E} ⟨ts, B, R, Qf, hr, hs, _⟩ => by
    have e := hr.len
    simp only [List.length_map] at e
    exact e.trans (hlen ts Qf hs)
  refine fnG_of stands isF code Sc arity fun A outer s H vs Q E room quiet asks => ?_
  have hlv := arity asks
  obtain ⟨ts, B, R, Qf, hrep, hS, k1, k2⟩ := asks
  obtain ⟨w', hb, hv⟩ := body cdv A outer s H E room quiet
  obtain ⟨tb, hp, hrf⟩ := hb.ex (fun cls od _ H => E cls od H) (L2N.takes_of rfl rfl rfl rfl)
  obtain ⟨B1, hle, hr1, rest⟩ := entry (N := N) np hrep
  refine ⟨tb, hp, hrf _ _ _ H B1 R hr1 (hv ts Qf hS) _ (fun Δ' σ' H' B' q f hr' => ?_) (fun t Δ' σ' v H' B' G q f r hr' => ?_) (fun _ _ _ _ q => q.elim) (fun _ _ _ _ q => q.elim) fun y fs Δ' σ' od H' B' q f hr' ex => ?_⟩
  · obtain ⟨us, hu, hΔ, q2⟩ := lookUp_pre q
    exact k1 .non _ .non H' B' [] q2 (hle.trans f.1) f.2.1 .non (leave (N := N) (G := []) (by omega) hr' f.1 f.2.2 hu hΔ rest)
  · obtain ⟨us, hu, hΔ, q2⟩ := lookUp_pre q
    exact k1 t _ v H' B' G q2 (hle.trans f.1) f.2.1 r (leave (N := N) (by omega) hr' f.1 f.2.2 hu hΔ rest)
  · obtain ⟨us, hu, hΔ, q2⟩ := lookUp_pre q
    exact k2 y fs _ od H' B' q2 (hle.trans f.1) f.2.1 (leave (N := N) (G := []) (by omega) hr' f.1 f.2.2 hu hΔ rest) ex
theorem DefAt.calX (F : DefAt K mg x qual st f fd .none) (G : FnG P w K mg base (L2N.CX P w) k f fd ps (spT K S))
    (h : ∀ (kV doc pm : Value) (an : Option Addr) (cdv ct : Value) (us : List Value), us.length = ps.length → bindArgs (PySem.W.fnOf x qual (defArgs st) (defBody st) (defScope st) .none kV doc pm an cdv ct) ⟨us, []⟩ = pure (ps.zip us)) : CalX P w K mg base k x [] S := by
  obtain ⟨kV, doc, pm, cdv, ct, an, o, _, _, _, rfl⟩ := F.text
  exact ⟨_, _, ps, F.nm, F.stays, ⟨[], .nil, .all (h kV doc pm an cdv ct)⟩, G⟩
end
theorem lookup_hd {α : Type} (f g : Str) (y : α) (l : List (Str × α)) : ((g, y) :: l).lookup f = if f = g then some y else l.lookup f := by
  by_cases h : f = g
  · subst h; simp [List.lookup]
  · have e : (f == g) = false := by simpa using h
    rw [if_neg h]; simp [List.lookup, e]
theorem lookup_rp {K : Frag} {B H : Hp} {f : Str} {t : T} : ∀ {fv : List (Str × V)} {fs : List (Str × T)}, fv.map (·.1) = fs.map (·.1) → RpL K B H (fv.map (·.2)) (fs.map (·.2)) [] → fs.lookup f = some t → ∃ v, fv.lookup f = some v ∧ Rp K B H v t []
  | [], [], _, _, h => by cases h
  | [], _ :: _, e, _, _ => by simp at e
  | _ :: _, [], e, _, _ => by simp at e
  | (g, v) :: fv, (g', t') :: fs, e, r, h => by
    simp only [List.map_cons, List.cons.injEq] at e
    obtain ⟨rfl, e⟩ := e
    obtain ⟨F1, F2, eF, r1, r2⟩ := RpL.one r
    obtain ⟨rfl, rfl⟩ : F1 = [] ∧ F2 = [] := by
      cases F1 with
      | nil => exact ⟨rfl, eF.symm⟩
      | cons _ _ => cases eF
    rw [lookup_hd] at h ⊢
    by_cases hf : f = g
    · rw [if_pos hf] at h ⊢
      cases h
      exact ⟨v, rfl, r1⟩
    · rw [if_neg hf] at h ⊢
      exact lookup_rp e r2 h
end TL
set_option maxRecDepth 100000
set_option maxHeartbeats 1000000
set_option maxRecDepth 100000
set_option maxHeartbeats 1000000
namespace TL
open PySem PySem.Spec PyProof.Rows L2
theorem clsOf_is {K : Frag} {x : Str} {C : Addr} (h : PySem.W.nsIn K mainGlobals x = some (some (.ref C))) : clsOf K x = C := by
  unfold clsOf
  rw [h]
def cbody : Stmt → List Stmt
  | .ClassDef (body := b) .. => b
  | _ => []
section
variable {P : Program} {w : World} {K : Frag} {mg : Str → Option Value} {base : Heap} {x : Str} {fl : List Str} {C fI : Addr} {fd : FuncData} {ps : List Str}
theorem excAt_of (hc : PySem.W.nsIn K mainGlobals x = some (some (.ref C))) (hm : mg x = some (.ref C)) (oe : OexC K C) (iC : PySem.W.findIn K (.ref C) "__init__" = some (some (.ref fI))) (tI : PySem.W.typeIn K (.ref fI) = some (.type "function"))
    (F : FnOk P w K mg base CX0 1 fI fd ps (spI K fl)) (hb : Binds K fd ps []) (no : ∀ f ∈ fl, PySem.W.findIn K (.ref C) f = some none) (small : fl.length ≤ 900) : ExcAt P w K mg base x fl := by
  have e := clsOf_is hc
  subst e
  exact ⟨⟨fI, fd, ps, oe, iC, tI, F, hb⟩, hm, no, small⟩
theorem xm_of {y : Str} {D : Addr} (hc : PySem.W.nsIn K mainGlobals x = some (some (.ref C))) (hd : PySem.W.nsIn K mainGlobals y = some (some (.ref D))) (h : PySem.W.exmOne K (.ref C) (.ref D) = some true) : PySem.W.exmOne K (.ref (clsOf K x)) (.ref (clsOf K y)) = some true := by
  rw [clsOf_is hc, clsOf_is hd]
  exact h
theorem no1 {a : Str} (h : PySem.W.findIn K (.ref C) a = some none) : ∀ f ∈ [a], PySem.W.findIn K (.ref C) f = some none := fun f hf => by
  rw [List.mem_singleton.mp hf]
  exact h
theorem exm_of {A D : Addr} (h1 : PySem.W.subIn K (.ref D) (.type "BaseException") = some true) (h2 : PySem.W.isClsIn K D = true) (h3 : PySem.W.typeIn K (.ref D) = some (.type "type")) (h4 : PySem.W.subIn K (.ref A) (.ref D) = some true) : PySem.W.exmOne K (.ref A) (.ref D) = some true := by
  unfold PySem.W.exmOne PySem.W.kitCls
  have h5 : (PySem.W.clsIn K D).isSome = true := h2
  simp [h1, h5, h3, h4]
theorem xn_of (hc : PySem.W.nsIn K mainGlobals x = some (some (.ref C))) (hm : mg x = some (.ref C)) : mg x = some (.ref (clsOf K x)) := by
  rw [clsOf_is hc]
  exact hm
end
end TL
set_option maxRecDepth 100000
set_option maxHeartbeats 1000000
set_option maxRecDepth 100000
set_option maxHeartbeats 1000000
set_option maxRecDepth 100000
set_option maxHeartbeats 1000000
namespace TL
open PySem PySem.Spec PyProof.Rows L2
theorem ask {X : Cx} {pins : List (Addr × Obj)} {σ : Sg} {H : Hp} {s : Shared} {a C : Addr} {oe : Obj} {od : Option Obj} {cv : Value} {b : Bool} {Q : VK} (I : Inv X pins σ H s) (T : ExcC X.K C) (J : PySem.W.InstAt s.heap a oe C od) (e : PySem.W.kitOne X.K (.ref C) cv = some b)
    (q : Q (.bl b) H) : wpAny (model X.prog X.w) X.A (call (.builtin "isinstance") [.ref a, cv]) (EP X pins σ Q) X.xe s := by
  have hcl : (PySem.W.clsIn X.K C).isSome = true := by
    obtain ⟨cd, hc, _⟩ := PySem.W.any_some T.hd
    rw [hc]; rfl
  exact PySem.W.kia_one (PySem.W.kitx_exc hcl T.hg T.hk T.hs T.ha T.hn T.ht T.hm) I.kIn J e (fun z => nomatch z) fun tk => ⟨.bl b, H, I.tok tk, rfl, q⟩
end TL
set_option maxRecDepth 100000
set_option maxHeartbeats 1000000
namespace TL
open PySem PySem.Spec PyProof.Rows L2
def exB (K : Frag) (C : Addr) : Bool := decide (PySem.W.findIn K (.ref C) "__getattribute__" = some (some (.builtin "BaseException.__getattribute__"))) && (decide (PySem.W.findIn K (.ref C) "__getattr__" = some none) && (decide (PySem.W.subIn K (.ref C) (.type "BaseException") = some true) && (PySem.W.hasDictIn K C && (decide (PySem.W.findIn K (.ref C) "__class__" = some (some (.builtin "object.__class__"))) && decide (PySem.W.mroIn K C (.type "object") = some true)))))
section
variable {K : Frag} {C : Addr} {mg : Str → Option Value} {x f : Str}
theorem exB_ok (h : exB K C = true) (hn : PySem.W.specialIn K (.builtin "object.__class__") "__get__" = some (some (.builtin "getset_descriptor.__get__"))) (ht : PySem.W.takesIn K (.builtin "object.__class__") = some true) : ExcC K C := by
  unfold exB at h
  simp only [Bool.and_eq_true, decide_eq_true_eq] at h
  obtain ⟨h1, h2, h3, h4, h5, h6⟩ := h
  exact ⟨h1, h2, h3, h4, h5, hn, ht, h6⟩
theorem all_of {ps : List (Str × Addr)} {cv : Value} {yes : List Str} (hp : ∀ p ∈ ps, PySem.W.nsIn K mainGlobals p.1 = some (some (.ref p.2))) (hx : ∀ p ∈ ps, exB K p.2 = true) (hn : PySem.W.specialIn K (.builtin "object.__class__") "__get__" = some (some (.builtin "getset_descriptor.__get__")))
    (ht : PySem.W.takesIn K (.builtin "object.__class__") = some true) (hk : ps.all (fun p => PySem.W.kitOne K (.ref p.2) cv == some (yes.contains p.1)) = true) : ∀ y ∈ ps.map (·.1), ExcC K (clsOf K y) ∧ PySem.W.kitOne K (.ref (clsOf K y)) cv = some (yes.contains y) := by
  intro y hy
  obtain ⟨p, hp', rfl⟩ := List.mem_map.mp hy
  rw [clsOf_is (hp p hp')]
  exact ⟨exB_ok (hx p hp') hn ht, beq_iff_eq.mp (List.all_eq_true.mp hk p hp')⟩
theorem fld_of (h : PySem.W.nsIn K mainGlobals x = some (some (.ref C))) (T : ExcC K (clsOf K x)) (no : PySem.W.findIn K (.ref C) f = some none) : XfC K (clsOf K x) ∧ PySem.W.findIn K (.ref (clsOf K x)) f = some none :=
  ⟨⟨T.hg, T.hk, T.hs, T.hd⟩, by rw [clsOf_is h]; exact no⟩
end
end TL
set_option maxRecDepth 100000
set_option maxHeartbeats 1000000
namespace TL
open PySem PySem.Spec PyProof.Rows L2
def places (lo hi st : Option Int) (n : Nat) : List Nat := sliceRange (sliceBounds lo hi st n).1 (sliceBounds lo hi st n).2.1 (sliceBounds lo hi st n).2.2
end TL
set_option maxRecDepth 100000
set_option maxHeartbeats 1000000
namespace TL
open PySem PySem.Spec PyProof.Rows L2
section
variable {prog : Program} {w : World} {A : Around} {E : Value → Shared → Prop} {s : Shared} {z TI TO i1 i2 l1 l2 S : Addr} {xs ys : Array Value}
/-- the zip at z behind i items; the list that is filled stands at S -/
structure ZS (h : Heap) (z TI TO i1 i2 l1 l2 S : Addr) (xs ys : Array Value) (i : Nat) : Prop where
  ti : IsPair h TI (.ref i1) (.ref i2)
  n1 : h.IsListIter i1 l1 i
  n2 : h.IsListIter i2 l2 i
  m1 : h.IsList l1 xs
  m2 : h.IsList l2 ys
  st : (IsZip h z TI TO .none ∧ ∃ a b, IsPair h TO a b) ∨ ∃ (t : Addr) (f : Bool) (ot : Obj), IsZipHeld h z TI TO t f ∧ h.get? t = some ot ∧ t ≠ z ∧ t ≠ i1 ∧ t ≠ i2 ∧ t ≠ S
theorem ZS.keep {h h' : Heap} {i : Nat} (x : ZS h z TI TO i1 i2 l1 l2 S xs ys i) (hk : ∀ b o, b ≠ S → h.get? b = some o → h'.get? b = some o) (ne : ∀ b ∈ [z, TI, TO, i1, i2, l1, l2], b ≠ S) : ZS h' z TI TO i1 i2 l1 l2 S xs ys i := by
  obtain ⟨ti, n1, n2, m1, m2, st⟩ := x
  refine ⟨hk _ _ (ne TI (by simp)) ti, n1.at fun o e => hk _ o (ne i1 (by simp)) e, n2.at fun o e => hk _ o (ne i2 (by simp)) e, m1.at fun o e => hk _ o (ne l1 (by simp)) e, m2.at fun o e => hk _ o (ne l2 (by simp)) e, ?_⟩
  rcases st with ⟨q, a, b, t⟩ | ⟨t, f, ot, q, e, r1, r2, r3, r4⟩
  · exact .inl ⟨hk _ _ (ne z (by simp)) q, a, b, hk _ _ (ne TO (by simp)) t⟩
  · exact .inr ⟨t, f, ot, hk _ _ (ne z (by simp)) q, hk _ _ r4 e, r1, r2, r3, r4⟩
variable {R : Result → Shared → Prop}
end
end TL
set_option maxRecDepth 100000
set_option maxHeartbeats 1000000
set_option maxRecDepth 100000
set_option maxHeartbeats 1000000
namespace TL
open PySem PySem.Spec PyProof.Rows L2
section
variable {prog : Program} {w : World} {A : Around} {E : Value → Shared → Prop} {s : Shared}
theorem list_end_hot {it l x1 : Addr} {i : Nat} {its : Array Value} {Q : Option Value → Shared → Prop} (hot : HotX.HotAt A x1 s.heap) (ne : x1 ≠ it) (st : s.heap.IsListIter it l i) (hl : s.heap.IsList l its) (hx : its[i]? = none)
    (q : ∀ h', (∀ b o, b ≠ it → s.heap.get? b = some o → h'.get? b = some o) → Q none { s with heap := h' }) : wpAny (model prog w) A (pyNext (.ref it)) Q E s := by
  obtain ⟨oi, ei, _, di⟩ := id st
  obtain ⟨ol, el, _, nl, dl⟩ := hl
  obtain ⟨hh, o1, vs1, e1, d1, c1⟩ := hot
  unfold pyNext
  apply wpAny_bind
  apply wpAny_attempt
  apply wpAny_callSpecial?_slot (name := Str.ofString "__next__") st.typeIs PySem.slot_listiter_next
  apply wpAny_call_entry PySem.slot_listiter_next st.typeIs PySem.entry_listiter_next _ (PySem.args_listiter_next _)
  show wpAny _ _ (field (.ref it) 0 >>= _) _ _ s
  apply wpAny_bind
  apply wpAny_field ei di (x := .ref l) rfl
  show wpAny _ _ (if (Value.ref l == Value.none) = true then _ else _) _ _ s
  rw [if_neg (show ¬ ((Value.ref l == Value.none) = true) from Bool.false_ne_true)]
  show wpAny _ _ (field (.ref it) 1 >>= _) _ _ s
  apply wpAny_bind
  apply wpAny_field ei di (x := .int i 0) rfl
  show wpAny _ _ (seqItems? (.ref l) >>= _) _ _ s
  apply wpAny_bind
  apply wpAny_seqItems el dl
  simp only [Int.toNat_natCast, hx]
  apply wpAny_bind
  apply wpAny_rule
  apply wpAny_bind
  refine wpAny_setField ei di (by simp) ?_
  show wpAny _ _ (newExc (.type "StopIteration") [] >>= _) _ _ _
  apply wpAny_bind
  simp only [newExc, newTuple]
  apply wpAny_bind
  refine wpAny_newObj_type ?_ (by size_fits)
  refine wpAny_bind (m := firstArgMember _ _) (wpAny_of_eq (a := Value.none) (by first | rfl | (simp only [firstArgMember]; rfl)) ?_)
  refine wpAny_newObj_type ?_ (by size_fits)
  have keep : ∀ b o, b ≠ it → s.heap.get? b = some o → (s.heap.update it (Obj.mapFields fun x => x.setIfInBounds 0 Value.none)).get? b = some o := fun b o hb z => (Heap.get?_update_other _ _ (Ne.symm hb)).trans z
  have x1k := Heap.get?_push_of_some (h := s.heap.update it (Obj.mapFields fun x => x.setIfInBounds 0 Value.none)) { cls := .type "tuple", data := .seq (#[] : Array Value) } (keep x1 o1 ne e1)
  refine HotX.raiseNew_hot ⟨hh, o1, vs1, Heap.get?_push_of_some _ x1k, d1, c1⟩ (Nat.ne_of_lt (Heap.lt_size x1k)) (Heap.get?_push_size _ rfl) rfl (by first | (simp; done) | (simp; omega) | (simp only [Array.size_append]; simp; omega)) ?_
  apply wpAny_bind
  refine wpAny_isInstance (T := "StopIteration") (b := true) ⟨_, Heap.get?_update_self _ (Heap.get?_push_size _ rfl) rfl, rfl⟩ isSubtype_stop ?_
  refine wpAny_pure (q _ fun b o hb z => ?_)
  have z2 := Heap.get?_push_of_some (h := s.heap.update it (Obj.mapFields fun x => x.setIfInBounds 0 Value.none)) { cls := .type "tuple", data := .seq (#[] : Array Value) } (keep b o hb z)
  rw [Heap.get?_update_other _ _ (Nat.ne_of_gt (Heap.lt_size z2))]
  exact Heap.get?_push_of_some _ z2
theorem tup_end_hot {it l x1 : Addr} {i : Nat} {its : Array Value} {Q : Option Value → Shared → Prop} (hot : HotX.HotAt A x1 s.heap) (ne : x1 ≠ it) (st : PyProof.Rows.IsTupIter s.heap it l i) (hl : IsTup s.heap l its) (hx : its[i]? = none)
    (q : ∀ h', (∀ b o, b ≠ it → s.heap.get? b = some o → h'.get? b = some o) → Q none { s with heap := h' }) : wpAny (model prog w) A (pyNext (.ref it)) Q E s := by
  obtain ⟨oi, ei, _, di⟩ := id st
  obtain ⟨ol, el, _, nl, dl⟩ := hl
  obtain ⟨hh, o1, vs1, e1, d1, c1⟩ := hot
  unfold pyNext
  apply wpAny_bind
  apply wpAny_attempt
  apply wpAny_callSpecial?_slot (name := Str.ofString "__next__") st.typeIs PyProof.Rows.slot_tupleiter_next
  apply wpAny_call_entry PyProof.Rows.slot_tupleiter_next st.typeIs PyProof.Rows.entry_tupleiter_next _ (PyProof.Rows.args_tupleiter_next _)
  show wpAny _ _ (field (.ref it) 0 >>= _) _ _ s
  apply wpAny_bind
  apply wpAny_field ei di (x := .ref l) rfl
  show wpAny _ _ (if (Value.ref l == Value.none) = true then _ else _) _ _ s
  rw [if_neg (show ¬ ((Value.ref l == Value.none) = true) from Bool.false_ne_true)]
  show wpAny _ _ (field (.ref it) 1 >>= _) _ _ s
  apply wpAny_bind
  apply wpAny_field ei di (x := .int i 0) rfl
  show wpAny _ _ (seqItems? (.ref l) >>= _) _ _ s
  apply wpAny_bind
  apply wpAny_seqItems el dl
  simp only [Int.toNat_natCast, hx]
  apply wpAny_bind
  apply wpAny_rule
  apply wpAny_bind
  refine wpAny_setField ei di (by simp) ?_
  show wpAny _ _ (newExc (.type "StopIteration") [] >>= _) _ _ _
  apply wpAny_bind
  simp only [newExc, newTuple]
  apply wpAny_bind
  refine wpAny_newObj_type ?_ (by size_fits)
  refine wpAny_bind (m := firstArgMember _ _) (wpAny_of_eq (a := Value.none) (by first | rfl | (simp only [firstArgMember]; rfl)) ?_)
  refine wpAny_newObj_type ?_ (by size_fits)
  have keep : ∀ b o, b ≠ it → s.heap.get? b = some o → (s.heap.update it (Obj.mapFields fun x => x.setIfInBounds 0 Value.none)).get? b = some o := fun b o hb z => (Heap.get?_update_other _ _ (Ne.symm hb)).trans z
  have x1k := Heap.get?_push_of_some (h := s.heap.update it (Obj.mapFields fun x => x.setIfInBounds 0 Value.none)) { cls := .type "tuple", data := .seq (#[] : Array Value) } (keep x1 o1 ne e1)
  refine HotX.raiseNew_hot ⟨hh, o1, vs1, Heap.get?_push_of_some _ x1k, d1, c1⟩ (Nat.ne_of_lt (Heap.lt_size x1k)) (Heap.get?_push_size _ rfl) rfl (by first | (simp; done) | (simp; omega) | (simp only [Array.size_append]; simp; omega)) ?_
  apply wpAny_bind
  refine wpAny_isInstance (T := "StopIteration") (b := true) ⟨_, Heap.get?_update_self _ (Heap.get?_push_size _ rfl) rfl, rfl⟩ isSubtype_stop ?_
  refine wpAny_pure (q _ fun b o hb z => ?_)
  have z2 := Heap.get?_push_of_some (h := s.heap.update it (Obj.mapFields fun x => x.setIfInBounds 0 Value.none)) { cls := .type "tuple", data := .seq (#[] : Array Value) } (keep b o hb z)
  rw [Heap.get?_update_other _ _ (Nat.ne_of_gt (Heap.lt_size z2))]
  exact Heap.get?_push_of_some _ z2
theorem unpack_hot {t x1 : Addr} {its : Array Value} {tgs : List (Bool × (Value → Sem Unit))} {Q : Unit → Shared → Prop} (hot : HotX.HotAt A x1 s.heap) (ht : IsTup s.heap t its) (hn : tgs.length = its.size) (hstar : tgs.findIdx? (·.1) = none)
    (h : ∀ h', (∀ b o, s.heap.get? b = some o → h'.get? b = some o) → wpAny (model prog w) A (assignInOrder (tgs.map (·.2)) its.toList) Q E { s with heap := h' }) : wpAny (model prog w) A (unpack (.ref t) tgs) Q E s := by
  obtain ⟨hh, o1, vs1, e1, d1, c1⟩ := hot
  have new : t ≠ s.heap.objs.size := by
    obtain ⟨o, z, _⟩ := ht
    exact Nat.ne_of_lt (Heap.lt_size z)
  unfold unpack
  rw [hn, hstar]
  apply wpAny_bind
  apply wpAny_holding
  unfold unpackItems
  apply wpAny_bind
  unfold notIterableAtAll
  apply wpAny_bind
  apply wpAny_specialOf ht.typeIs PyProof.Rows.slot_tuple_iter.lookup
  apply wpAny_pure
  simp only [Bool.false_eq_true, if_false]
  apply wpAny_bind
  apply wpAny_holding
  apply PyProof.Rows.iter_tuple ht
  apply wpAny_bind
  apply wpAny_holding
  apply PyProof.Rows.draw_tuple new its.size 0 _ _ ⟨_, Heap.get?_push_size _ rfl, rfl, rfl⟩ (ht.push _) (by omega)
  intro h1 st1 sb
  have whole : List.take its.size (List.drop 0 its.toList) = its.toList := by rw [List.drop_zero]; exact List.take_of_length_le (by simp)
  have up : ∀ b o, s.heap.get? b = some o → h1.get? b = some o := fun b o z => sb.extBut b o (Nat.ne_of_lt (Heap.lt_size z)) (Heap.get?_push_of_some _ z)
  rw [whole, if_neg (by simp)]
  apply wpAny_bind
  apply wpAny_holding
  apply tup_end_hot ⟨hh, o1, vs1, up x1 o1 e1, d1, c1⟩ (Nat.ne_of_lt (Heap.lt_size e1)) st1 ((ht.push _).extBut sb.extBut new) (by simp)
  intro h2 k2
  simp only [Option.isSome_none, Bool.false_eq_true, if_false]
  exact wpAny_pure (h h2 fun b o z => k2 b o (Nat.ne_of_lt (Heap.lt_size z)) (up b o z))
end
end TL
set_option maxRecDepth 100000
set_option maxHeartbeats 1000000
namespace TL
open PySem PySem.Spec PyProof.Rows L2
section
variable {X : Cx} {elt tg iter : Expr} {ifs : List Expr} {scope : Scope} {own : List (Str × Nat)} {pos : Pos} {ti te : TE} {g : TG} {tt : TT}
/-- the one that is handled stood already where the block began, out of its reach -/
def HotB (X : Cx) : Prop := ∃ p : Addr × Obj, L2H.Hot1 X.A p ∧ X.s_0.heap.get? p.1 = some p.2 ∧ X.H_0 p.1 = none ∧ p.1 ∉ X.fs ∧ p.1 ∉ X.ex
theorem HotB.at {X : Cx} {pins : List (Addr × Obj)} {σ : Sg} {H : Hp} {s : Shared} (h : HotB X) (I : Inv X pins σ H s) : ∃ x1, HotX.HotAt X.A x1 s.heap := by
  obtain ⟨p, ⟨hh, v1, d1, c1⟩, g, n, f, x⟩ := h
  exact ⟨p.1, hh, p.2, v1, I.base.keep p.1 p.2 g n f x, d1, c1⟩
theorem pg_tupB {X : Cx} {es : List Expr} {k n : Nat} {pos : Pos} {t : TGs} (hot : HotB X) (h : PGs X es t) (hn : (assignEach es X.env).length = n) (hst : (assignEach es X.env).findIdx? (·.1) = none) : PG X (.Tuple es k pos) (gTup X.K n t) := by
  constructor
  rintro pins s σ H v u Q I r ⟨a, xs, rfl, hq, hl, hw⟩
  cases r
  obtain ⟨its, rv, ht, _⟩ := I.tuple hq
  obtain ⟨x1, at1⟩ := hot.at I
  rw [assign_Tuple]
  apply wpAny_bind
  apply wpAny_standAt
  refine unpack_hot at1 ht (by simp [hn, ← hl, rv.length]) hst fun h' k => ?_
  exact h.run pins _ σ H xs _ Q (I.kept (t' := s.toks) k) (by simpa using rv) hw
/-- what the block needs: its target, its tests, its element are read in every block of it -/
structure BlkRd (X : Cx) (scope : Scope) (tg elt : Expr) (ifs : List Expr) (g : TG) (tt : TT) (te : TE) : Prop where
  tgt : ∀ (s : Shared) (H : Hp) (C : Addr) (cl : List (Str × Addr)) (fp : List Addr), HotB (X.blk s H scope (compEnvC scope cl C X.env) fp) → PG (X.blk s H scope (compEnvC scope cl C X.env) fp) tg g
  tst : ∀ (s : Shared) (H : Hp) (C : Addr) (cl : List (Str × Addr)) (fp : List Addr), HotB (X.blk s H scope (compEnvC scope cl C X.env) fp) → PTs (X.blk s H scope (compEnvC scope cl C X.env) fp) ifs tt
  elm : ∀ (s : Shared) (H : Hp) (C : Addr) (cl : List (Str × Addr)) (fp : List Addr), HotB (X.blk s H scope (compEnvC scope cl C X.env) fp) → PE (X.blk s H scope (compEnvC scope cl C X.env) fp) elt te
theorem lc_hot {pins : List (Addr × Obj)} {s : Shared} {σ : Sg} {H : Hp} {Q : VK} {pos' : Pos} {use : Option (Value → Sem Unit)} {Qf : Value → Shared → Prop} (hot : L2H.HotC X) (hN : X.N.Nodup) (I : Inv X pins σ H s) (hi : PE X iter ti) (ok : BlkOk X.N X.env.scope scope own)
    (rd : BlkRd X scope tg elt ifs g tt te) (hs : ∀ x, foldedSetIterable iter X.env x = pure x) (h : tLc (iList X.K ti) g tt te (own.map (·.2)) σ H Q)
    (last : ∀ D C s' m H', Inv X pins σ H' s' → Q (.ref D) H' → s'.heap.Ns C m → FpOk X pins H' C → compPost (model X.prog X.w) X.A X.xe use Qf (.ref D) C (.ok .next) s') :
    wpAny (model X.prog X.w) X.A (comprehension (.ListComp elt [⟨tg, iter, ifs, 0⟩] scope pos) scope X.env pos' (newList []) false (eval iter X.env) use) Qf X.xe s := by
  obtain ⟨p, ⟨hh, v1, d1, c1⟩, hp⟩ := hot
  have caught : ∀ y ∈ scope.names, y.2 = .free → ∃ c, X.env.cells.lookup y.1 = some c := fun y hy z => I.ok.has _ (ok.free y hy z)
  apply wpAny_comprehension_free (use := use) rfl hs (closure_ok caught) ok.kind (fun y hy z => z ▸ ok.uniq y hy)
  refine thn (hi.run pins s σ H _ I h) ?_
  rintro _ s1 ⟨_, H2, I1, r1, a, rfl, ⟨xs, sq⟩, q⟩
  cases r1
  obtain ⟨its0, _, plain0, _⟩ := I1.list sq
  apply wpAny_pyIter_list plain0.isList
  generalize hit : s1.heap.objs.size = it
  generalize es2 : ({ s1 with heap := s1.heap.push { cls := .type "list_iterator", data := .fields #[.ref a, .int 0 0] } } : Shared) = s2
  have st2 : s2.heap.IsListIter it a 0 := by
    rw [← es2, ← hit]
    exact ⟨_, Heap.get?_push_size _ rfl, rfl, rfl⟩
  have I2 : Inv X pins σ H2 s2 := by
    rw [← es2]
    exact I1.kept (t' := s1.toks) fun b o z => Heap.get?_push_of_some _ z
  have f2 : FpOk X pins H2 it := I1.fpOk (Nat.le_of_eq hit) (I1.hok.fresh (Nat.le_of_eq hit))
  have low2 : it < s2.heap.objs.size := by
    obtain ⟨_, z, _⟩ := st2
    exact Heap.lt_size z
  refine wpAny_newObj_type (newEnv_comp ?_) (show 0 ≤ sizeLine by decide)
  generalize eD : s2.heap.objs.size = D
  obtain ⟨W, ⟨m0, w0⟩, turn⟩ := q D (I2.hok.fresh (Nat.le_of_eq eD))
  generalize es3 : ({ s2 with heap := s2.heap.push { cls := .type "list", data := .seq ([] : List Value).toArray } } : Shared) = s3
  have up3 : ∀ b o, s2.heap.get? b = some o → s3.heap.get? b = some o := fun b o z => by rw [← es3]; exact Heap.get?_push_of_some _ z
  have I3 : Inv X pins σ (upd H2 D (.lst [])) s3 := by
    have at3 : s3.heap.get? D = some { cls := .type "list", data := .seq ([] : List Value).toArray } := by rw [← es3, ← eD]; exact Heap.get?_push_size _ rfl
    rw [← es3] at at3 up3 ⊢
    exact I2.laid (t' := s2.toks) up3 (Nat.le_of_eq eD) ⟨Nat.zero_le _, [], 0, .nil, at3⟩
  have st3 : s3.heap.IsListIter it a 0 := by
    obtain ⟨o, z, z1⟩ := st2
    exact ⟨o, up3 _ _ z, z1⟩
  have itD : it ≠ D := by omega
  have f3 : FpOk X pins (upd H2 D (.lst [])) it := ⟨(upd_ne itD).trans f2.1, f2.2⟩
  have low3 : it < s3.heap.objs.size := by
    obtain ⟨_, z, _⟩ := st3
    exact Heap.lt_size z
  have f3s : ∀ b ∈ [it], FpOk X pins (upd H2 D (.lst [])) b ∧ b < s3.heap.objs.size := fun b hb => by
    obtain rfl := List.mem_singleton.mp hb
    exact ⟨f3, low3⟩
  have I4 := block_start I3 ok hN f3s
  have pin3 := I3.pin p (List.mem_append_left _ hp)
  have ne3 : p.1 ≠ it := f3.2.2.2.2.2 p (List.mem_append_left _ hp)
  have nfr : p.1 ∉ frs X.stack := fun hm => (List.mem_cons.mp (I3.stkSub p.1 hm)).elim pin3.2.2.1 pin3.2.2.2.1
  have hotB : HotB (X.blk s3 (upd H2 D (.lst [])) scope (compEnvC scope (cellsFrom (s3.heap.objs.size + 1) scope.names (cloFrom X.env.cells scope.names [])) s3.heap.objs.size X.env) [it]) :=
    ⟨p, ⟨hh, v1, d1, c1⟩, pin3.1, pin3.2.1, nfr, fun z => ne3 (List.mem_singleton.mp z)⟩
  have rt := rd.tgt s3 (upd H2 D (.lst [])) s3.heap.objs.size (cellsFrom (s3.heap.objs.size + 1) scope.names (cloFrom X.env.cells scope.names [])) [it] hotB
  have ri := rd.tst s3 (upd H2 D (.lst [])) s3.heap.objs.size (cellsFrom (s3.heap.objs.size + 1) scope.names (cloFrom X.env.cells scope.names [])) [it] hotB
  have re := rd.elm s3 (upd H2 D (.lst [])) s3.heap.objs.size (cellsFrom (s3.heap.objs.size + 1) scope.names (cloFrom X.env.cells scope.names [])) [it] hotB
  clear hotB
  show codeAny _ _ (.compStart (.ListComp elt [⟨tg, iter, ifs, 0⟩] scope pos) 0 (.ref it) (.ref D) (compEnvC scope (cellsFrom (s3.heap.objs.size + 1) scope.names (cloFrom X.env.cells scope.names [])) s3.heap.objs.size X.env))
    (compPost (model X.prog X.w) X.A X.xe use Qf (.ref D) s3.heap.objs.size) { s3 with heap := pushCells (s3.heap.push { cls := .type "dict", data := .dict #[] }) scope.names }
  generalize ece : compEnvC scope (cellsFrom (s3.heap.objs.size + 1) scope.names (cloFrom X.env.cells scope.names [])) s3.heap.objs.size X.env = ce at I4 rt ri re ⊢
  have loc : ce.locals = s3.heap.objs.size := by subst ece; rfl
  generalize eH : upd H2 D (.lst []) = H3 at I3 I4 rt ri re w0 f3 f3s pin3
  generalize es4 : ({ s3 with heap := pushCells (s3.heap.push { cls := .type "dict", data := .dict #[] }) scope.names } : Shared) = s4 at I4 ⊢
  have st4 : s4.heap.IsListIter it a 0 := by
    obtain ⟨o, z, z1⟩ := st3
    exact ⟨o, by rw [← es4]; exact pushCells_keeps _ _ _ _ (Heap.get?_push_of_some _ z), z1⟩
  -- the iterator within the block
  have far : ∀ {σ' : Sg} {H' : Hp} {s' : Shared}, Inv (X.blk s3 H3 scope ce [it]) [] σ' H' s' → H' it = none → FpOk (X.blk s3 H3 scope ce [it]) [] H' it := fun {σ' H' s'} J hn =>
    have hm : it ∈ (X.blk s3 H3 scope ce [it]).ex := List.mem_singleton.mpr rfl
    ⟨hn, (J.ok.exf it hm).1, J.ok.exfs it hm, .inl hm, fun x c z => (J.ok.exf it hm).2 x c z, fun p hp => nomatch (show p ∈ ([] : List (Addr × Obj)) from hp)⟩
  have loop : codeAny (model X.prog X.w) X.A (.compLoop (.ListComp elt [⟨tg, iter, ifs, 0⟩] scope pos) 0 (.ref it) (.ref D) ce) (compPost (model X.prog X.w) X.A X.xe use Qf (.ref D) s3.heap.objs.size) s4 := by
    apply compLoop_any (fun n s' => ∃ i H', Inv (X.blk s3 H3 scope ce [it]) [] (L2.wipe σ (own.map (·.2))) H' s' ∧ s'.heap.IsListIter it a i ∧ H' it = none ∧ W i n H') _ m0 ⟨0, H3, I4, st4, f3.1, w0⟩
    rintro n s5 ⟨i, H5, I5, st5, n5, w5⟩
    have f5 := far I5 n5
    obtain ⟨stop, qq⟩ | ⟨go, Nx, hNx, step⟩ := turn i n H5 w5
    · -- the end
      obtain ⟨ys, hq, hx⟩ := stop
      obtain ⟨its, rv, pl, _⟩ := I5.list hq
      have kept : s5.heap.get? p.1 = some p.2 := I5.base.keep p.1 p.2 pin3.1 pin3.2.1 nfr fun z => ne3 (List.mem_singleton.mp z)
      have past : its.toArray[i]? = none := by
        have z := rv.length
        simp; omega
      apply list_end_hot (x1 := p.1) ⟨hh, p.2, v1, kept, d1, c1⟩ ne3 st5 pl.isList past
      intro h6 k6
      have I6 := I5.turned (t' := s5.toks) (h' := h6) k6 f5.1 f5.2.1 f5.2.2.2.1 f5.2.2.2.2.1 f5.2.2.2.2.2
      have I7 : Inv X pins σ H5 { s5 with heap := h6, toks := s5.toks } := I3.call' (ch := [it]) I6.os I6.base I6.hok I6.bare fun b hb => by
        obtain rfl := List.mem_singleton.mp hb
        exact ⟨f3.2.2.2.1, f3.2.1, f3.2.2.2.2.1, f3.2.2.2.2.2⟩
      obtain ⟨m, hn, _⟩ := I6.loc
      have nC : H5 ce.locals = none := I6.free
      have hn : h6.Ns ce.locals m := hn
      rw [loc] at hn nC
      exact last D s3.heap.objs.size _ m H5 I7 qq hn (I3.fpOk (Nat.le_refl _) nC)
    · -- a turn
      obtain ⟨ys, x, hq, hx⟩ := go
      obtain ⟨its, rv, pl, _⟩ := I5.list hq
      obtain ⟨u, hu, ru⟩ := rv.get hx
      refine wpAny_pyNext_list_item st5 pl.isList (x := u) (by simpa using hu) fun h6 st6 sb => ?_
      have I6 := I5.turned (t' := s5.toks) (h' := h6) (fun b o hb z => (sb.2 b hb).trans z) f5.1 f5.2.1 f5.2.2.2.1 f5.2.2.2.2.1 f5.2.2.2.2.2
      obtain ⟨oi, ei, ci, di⟩ := id st6
      refine go_of (s := { s5 with heap := h6 }) ei ci di (by decide) ?_
      have there : ∀ b ∈ [it], ∃ o, h6.get? b = some o ∧ ∀ v, o.data ≠ .cell v := fun b hb => by
        obtain rfl := List.mem_singleton.mp hb
        exact ⟨oi, ei, fun v z => by rw [di] at z; cases z⟩
      have I6' := I6.pinned (fp := [it]) (fun b hb => by obtain rfl := List.mem_singleton.mp hb; exact far I6 n5) there
      have y6 : (Itl X.K a).yld i H5 x H5 := ⟨rfl, fun zs hz => by rw [I6.list_inj hz hq]; exact hx⟩
      refine thnF (rt.run _ _ _ H5 x u _ I6' ru (step x H5 y6)) fun _ s8 ⟨σ8, H8, I8, hw8, q8⟩ => ?_
      refine thnF (ri.run _ s8 σ8 H8 _ I8 q8) fun b s9 ⟨H9, I9, q9⟩ => ?_
      have again : ∀ {s' : Shared} {H' : Hp}, Inv (X.blk s3 H3 scope ce [it]) ([] ++ pinsAt [it] h6) σ8 H' s' → Nx H' →
          ∃ m, m < n ∧ ∃ i H', Inv (X.blk s3 H3 scope ce [it]) [] (L2.wipe σ (own.map (·.2))) H' s' ∧ s'.heap.IsListIter it a i ∧ H' it = none ∧ W i m H' := fun {s' H'} J nx => by
        obtain ⟨m', hm, w'⟩ := hNx H' nx
        have held := J.pin (it, oi) (List.mem_append_right _ (List.mem_append_right _ (mem_pinsAt (List.mem_singleton.mpr rfl) ei)))
        have len : (L2.wipe σ (own.map (·.2))).length = σ8.length := by rw [← hw8, L2.wipe_length]
        exact ⟨m', hm, i + 1, H', (J.unpinned (pins := [])).weak len fun j v z => (wipe_some (hw8 ▸ z)).1, ⟨oi, held.1, ci, di⟩, held.2.1, w'⟩
      cases b
      · simp only [Bool.false_eq_true, if_false] at q9 ⊢
        exact again I9 q9
      · simp only [if_true] at q9 ⊢
        refine thnF (re.run _ s9 σ8 H9 _ I9 q9) ?_
        rintro z s10 ⟨yv, H10, I10, r10, acc, eD10, short, nx⟩
        exact app_ok (X := X.blk s3 H3 scope ce [it]) I10 eD10 short r10 fun s11 I11 => again I11 nx
  exact codeAny_compStart_list loop (wpAny_pyIter_listiter st4 loop)
end
end TL
set_option maxRecDepth 100000
set_option maxHeartbeats 1000000
namespace TL
open PySem PySem.Spec PyProof.Rows L2
theorem cg_tupB {X : Cx} {S : Nat → Prop} {es : List Expr} {n k : Nat} {pos : Pos} {ws : WGs} (hot : HotB X) (h : CGs X S es ws) (hn : (assignEach es X.env).length = n := by rfl) (hst : (assignEach es X.env).findIdx? (·.1) = none := by rfl) : CG X S (.Tuple es k pos) (wgTup n ws) := by
  obtain ⟨gs, ps, rs⟩ := h
  exact ⟨_, pg_tupB hot ps hn hst, rf_gTup rs⟩
section
variable {X : Cx} {np : Nat} {tg iter elt : Expr} {ifs : List Expr} {scope : Scope} {own : List (Str × Nat)} {pos : Pos} {wi : WE} {wg : WG} {wt : WT} {we : WE}
theorem cs_setLcH {i : Nat} {y : Str} {py spos : Pos} (hot : L2H.HotC X) (hN : X.N.Nodup) (hy : X.N[i]? = some y) (hyl : X.env.scope.names.lookup y = some .local) (hp : np ≤ i)
    (hsw : swapsWith (.ListComp elt [⟨tg, iter, ifs, 0⟩] scope pos) (some (.Name y py)) spos.line X.env = pure true) (hi : CE X iter wi) (ok : BlkOk X.N X.env.scope scope own)
    (hg : ∀ (s : Shared) (H : Hp) (C : Addr) (cl : List (Str × Addr)) (fp : List Addr), HotB (X.blk s H scope (compEnvC scope cl C X.env) fp) → CG (X.blk s H scope (compEnvC scope cl C X.env) fp) (Own (own.map (·.2))) tg wg)
    (ht : ∀ (s : Shared) (H : Hp) (C : Addr) (cl : List (Str × Addr)) (fp : List Addr), CTs (X.blk s H scope (compEnvC scope cl C X.env) fp) ifs wt)
    (he : ∀ (s : Shared) (H : Hp) (C : Addr) (cl : List (Str × Addr)) (fp : List Addr), CE (X.blk s H scope (compEnvC scope cl C X.env) fp) elt we)
    (hs : ∀ x, foldedSetIterable iter X.env x = pure x := by intro _; rfl) : CS X np (.Assign [.Name y py] (.ListComp elt [⟨tg, iter, ifs, 0⟩] scope pos) spos) (wAsg (wLc (wiList wi) wg wt we (own.map (·.2))) (wgN i)) := by
  obtain ⟨ti, pi, ri⟩ := hi
  refine ⟨fun W tk => ⟨tAsg (tLc (iList X.K ti) _ _ _ (own.map (·.2))) (gName i), ⟨fun pins s σ H D I h => ?_⟩, rf_asg (rf_lc (rf_iList ri) rf_TG rf_TT rf_TE) (rf_gN fun j hj => Nat.ne_of_lt (Nat.lt_of_lt_of_le hj hp))⟩⟩
  rw [exec_Assign_Name_used _ _ _ _ hsw]
  apply wpAny_bind
  apply wpAny_standAt
  apply wpAny_bind
  show wpAny _ X.A (do let _ ← comprehension (.ListComp elt [⟨tg, iter, ifs, 0⟩] scope pos) scope X.env (firstIterPos [⟨tg, iter, ifs, 0⟩] pos) (newList []) false (eval iter X.env) (some (assign (.Name y py) X.env))) _ _ s
  have h2 : tLc (iList X.K ti) _ _ _ (own.map (·.2)) σ H (fun x H1 => gName i x σ H1 D.nx) := h
  apply wpAny_bind
  refine thn (lc_hot (Qf := fun _ s' => SP X pins D .next s') hot hN I pi ok ⟨fun s H C cl fp hb => (hg s H C cl fp hb).pg, fun s H C cl fp _ => (ht s H C cl fp).pts, fun s H C cl fp _ => (he s H C cl fp).pe⟩ hs h2 fun L C s' m H' J q ns f => ?_) fun _ s' z => wpAny_pure (wpAny_pure z)
  show wpAny _ _ (assign (.Name y py) X.env (.ref L)) _ _ _
  apply wpAny_assign_Name
  refine store_ok2 (v := V.ref L) J hN hy (.inl hyl) rfl (fun s2 J2 ⟨a, sb, ha⟩ => ?_) (.inr hyl)
  have apart : C ≠ a := ha.elim (fun z => by rw [z]; exact f.2.1) fun z hc => f.2.2.2.2.1 y a z hc.symm
  exact ⟨m, ns.sameBut sb apart, fun h3 sb3 => ⟨_, H', J2.turned (t' := s2.toks) (fun b o hb z => (sb3.2 b hb).trans z) f.1 f.2.1 f.2.2.2.1 f.2.2.2.2.1 f.2.2.2.2.2, q⟩⟩
end
/-- the one that is handled stands at a, is of the class y, has the dict od -/
def HotK (X : Cx) (a : Addr) (y : Str) (od : Option Addr) : Prop := ∃ oe : Obj, L2H.Hot1 X.A (a, oe) ∧ (a, oe) ∈ X.pn ∧ Zc (.ref (clsOf X.K y)) od oe
theorem HotK.hotC {X : Cx} {a : Addr} {y : Str} {od : Option Addr} (h : HotK X a y od) : L2H.HotC X := let ⟨oe, h1, h2, _⟩ := h; ⟨(a, oe), h1, h2⟩
theorem hotK_suite {X : Cx} {a : Addr} {oe : Obj} {y : Str} {od : Option Addr} {pn : List (Addr × Obj)} (z : L2N.Zn (.ref (clsOf X.K y)) od oe) (d : ∃ vs, oe.data = .fields vs) : HotK (X.suite a ((a, oe) :: pn)) a y od :=
  let ⟨vs, hd⟩ := d
  ⟨oe, ⟨rfl, vs, hd, z.2.2 vs hd⟩, List.mem_cons_self, z.zc⟩
theorem HotK.inst {X : Cx} {a : Addr} {y : Str} {od : Option Addr} (h : HotK X a y od) {pins : List (Addr × Obj)} {σ : Sg} {H : Hp} {s : Shared} (I : Inv X pins σ H s) (hd : ∀ d, od = some d → ∃ fs, H d = some (.xd fs)) : ∃ oe od', PySem.W.InstAt s.heap a oe (clsOf X.K y) od' ∧
    ∀ d fs, od = some d → H d = some (.xd fs) → ∃ (mA : Str → Option Value) (o : Obj), od' = some o ∧ (∀ f, PySem.W.lookIn f o = some (mA f)) ∧ ∀ f, RelO (fs.lookup f) (mA f) := by
  obtain ⟨oe, ⟨_, vs, hv, _⟩, hm, hz⟩ := h
  have ha := (I.pin (a, oe) (List.mem_append_left _ hm)).1
  cases od with
  | none => exact ⟨oe, none, ⟨ha, hz.1, by unfold PySem.W.notCls; rw [show oe.data = _ from hv] <;> rfl, by rw [hz.2]; trivial⟩, fun d fs z => nomatch z⟩
  | some d =>
    obtain ⟨fs, hx⟩ := hd d rfl
    obtain ⟨mA, hns, hr⟩ := (show ObjOk X.prog X.w H s.heap d (.xd fs) from I.hok d _ hx)
    obtain ⟨o, ho, hl⟩ := lookIn_ns hns
    refine ⟨oe, some o, ⟨ha, hz.1, by unfold PySem.W.notCls; rw [show oe.data = _ from hv] <;> rfl, by rw [hz.2]; exact ho⟩, fun d2 fs2 e1 e2 => ?_⟩
    cases e1
    rw [hx] at e2
    cases e2
    exact ⟨mA, o, rfl, hl, hr⟩
def rIsK (K : Frag) (a : Addr) (y : Str) (od : Option Addr) : List V → Hp → VK → Prop := fun xs H Q => ∃ (c : V) (cv : Value) (b : Bool), xs = [.ref a, c] ∧ ClsV c cv ∧ (∀ d, od = some d → ∃ fs, H d = some (.xd fs)) ∧ ExcC K (clsOf K y) ∧ PySem.W.kitOne K (.ref (clsOf K y)) cv = some b ∧ Q (.bl b) H
theorem call_isK {X : Cx} {a : Addr} {y : Str} {od : Option Addr} (h : HotK X a y od) : CallR X (.builtin "isinstance") (rIsK X.K a y od) := by
  rintro pins s σ H xs us Q I r ⟨c, cv, b, rfl, k, hx, T, e, q⟩
  obtain ⟨u1, u2, rfl, r1, r2⟩ := vals2 r
  obtain rfl := k.eq r2
  obtain rfl : u1 = Value.ref a := r1
  obtain ⟨oe, od', J, _⟩ := h.inst I hx
  exact ask I T J e q
/-- isinstance(e, c), e the one that is handled: of one of all; yes: those that are a c -/
def wIsK (a : Addr) (y : Str) (od : Option Addr) (yes all : List Str) (we : WE) : WE := fun Δ Q => we Δ fun p Δ1 => onV Δ1 p fun t => match t with
  | .exc a' y' od' _ => (a' = a ∧ y' = y ∧ od' = od) ∧ y ∈ all ∧ Q (.val (.bl (yes.contains y))) Δ1
  | _ => False
theorem rf_isK {K : Frag} {te : TE} {we : WE} {a : Addr} {y : Str} {od : Option Addr} {c : V} {cv : Value} {yes all : List Str} (hc : ClsV c cv) (hall : ∀ y ∈ all, ExcC K (clsOf K y) ∧ PySem.W.kitOne K (.ref (clsOf K y)) cv = some (yes.contains y)) (h : RfE K te we) :
    RfE K (tCB (rIsK K a y od) (tCons te (tCons (tC c) tNil))) (wIsK a y od yes all we) := fun Δ Q σ H B R hr hw Qv k => by
  refine h Δ _ σ H B R hr hw _ fun p Δ1 x H1 B1 q hl hk ⟨G, pr, hr1⟩ => ?_
  obtain ⟨t, F, r, q2⟩ := pr.tree hr1 q
  cases t with
  | exc a' y' od' fs =>
    obtain ⟨⟨rfl, rfl, rfl⟩, hy, q3⟩ := q2
    obtain ⟨T, e⟩ := hall _ hy
    have kk := k (.val _) Δ1 _ H1 B1 q3 hl hk ⟨[], .bl _, hr1.drop⟩
    cases r with
    | exc0 => exact ⟨c, cv, _, rfl, hc, (fun _ z => nomatch z), T, e, kk⟩
    | excD h1 _ _ => exact ⟨c, cv, _, rfl, hc, (fun d z => by cases z; exact ⟨_, hr1.sub _ _ h1⟩), T, e, kk⟩
  | _ => exact q2.elim
section
variable {X : Cx} {a : Addr} {y : Str} {od : Option Addr} {e : Expr} {we : WE} {c : Str} {p p2 pos : Pos} {yes all ys : List Str}
theorem ce_isK (h : HotK X a y od) (he : CE X e we) (hg : Gl X "isinstance") (hm : X.mg "isinstance" = none) (hv : bootBuiltins "isinstance" = some (.builtin "isinstance")) (gc : Gl X c) (nc : X.mg c = some (.ref (clsOf X.K c)))
    (hall : ∀ y ∈ all, ExcC X.K (clsOf X.K y) ∧ PySem.W.kitOne X.K (.ref (clsOf X.K y)) (.ref (clsOf X.K c)) = some (yes.contains y)) (hdb : (c == ("__debug__" : Str)) = false := by decide)
    (hs : starEach [e, .Name c p2] X.env = (false, eval e X.env) :: starEach [.Name c p2] X.env := by rfl) (hpl : (backTo pos (starEach [.Name c p2] X.env)).any (·.1) = false := by rfl) : CE X (.Call (.Name "isinstance" p) [e, .Name c p2] [] pos) (wIsK a y od yes all we) := by
  obtain ⟨te, pe, re⟩ := he
  exact ⟨_, pe_callB (call_isK h) hg hm hv (pa_cons pe (pa_cons (pe_glob gc nc (v := .ref (clsOf X.K c)) rfl hdb) pa_nil) hs) (by decide) (by decide) hs hpl, rf_isK (.own _) hall re⟩
/-- .. of ValueError -/
theorem ce_isKV (h : HotK X a y od) (he : CE X e we) (hg : Gl X "isinstance") (hm : X.mg "isinstance" = none) (hv : bootBuiltins "isinstance" = some (.builtin "isinstance")) (gc : Gl X "ValueError") (nc : X.mg "ValueError" = none)
    (hall : ∀ y ∈ all, ExcC X.K (clsOf X.K y) ∧ PySem.W.kitOne X.K (.ref (clsOf X.K y)) (.type "ValueError") = some (yes.contains y))
    (hs : starEach [e, .Name "ValueError" p2] X.env = (false, eval e X.env) :: starEach [.Name "ValueError" p2] X.env := by rfl) (hpl : (backTo pos (starEach [.Name "ValueError" p2] X.env)).any (·.1) = false := by rfl) : CE X (.Call (.Name "isinstance" p) [e, .Name "ValueError" p2] [] pos) (wIsK a y od yes all we) := by
  obtain ⟨te, pe, re⟩ := he
  exact ⟨_, pe_callB (call_isK h) hg hm hv (pa_cons pe (pa_cons (pe_bltn gc nc Boot.«ValueError» (v := .ty "ValueError") rfl) pa_nil) hs) (by decide) (by decide) hs hpl, rf_isK (.ty _) hall re⟩
/-- e.f, e the one that is handled: of one of ys -/
def wFldK (a : Addr) (y : Str) (od : Option Addr) (ys : List Str) (f : Str) (we : WE) : WE := fun Δ Q => we Δ fun p Δ1 => onV Δ1 p fun t => match t with
  | .exc a' y' od' fs => (a' = a ∧ y' = y ∧ od' = od) ∧ y ∈ ys ∧ match fs.lookup f with
    | some v => Q (.val v) Δ1
    | none => False
  | _ => False
def tFldK (a : Addr) (y : Str) (od : Option Addr) (ys : List Str) (f : Str) (te : TE) : TE := fun σ H Q => te σ H fun x H1 => x = .ref a ∧ y ∈ ys ∧ ∃ (d : Addr) (fs : List (Str × V)) (v : V), od = some d ∧ H1 d = some (.xd fs) ∧ fs.lookup f = some v ∧ Q v H1
theorem ce_fldK {f : Str} (h : HotK X a y od) (hall : ∀ y ∈ ys, XfC X.K (clsOf X.K y) ∧ PySem.W.findIn X.K (.ref (clsOf X.K y)) f = some none) (he : CE X e we) (hb : attributeBase e f X.env (eval e X.env) = eval e X.env := by rfl) : CE X (.Attribute e f pos) (wFldK a y od ys f we) := by
  obtain ⟨te, pe, re⟩ := he
  refine ⟨tFldK a y od ys f te, ⟨fun pins s σ H Q I asks => attr_of hb (thn (pe.run pins s σ H _ I asks) ?_)⟩, fun Δ Q σ H B R hr hw Qv k => ?_⟩
  · rintro _ s1 ⟨x, H1, J, rx, rfl, hy, d, fs, v, rfl, hd, l, q⟩
    obtain rfl := (show _ = Value.ref a from rx)
    obtain ⟨T, no⟩ := hall y hy
    obtain ⟨oe, od', at1, dict⟩ := h.inst J fun d2 z => by cases z; exact ⟨fs, hd⟩
    obtain ⟨mA, o, rfl, hl, hr⟩ := dict d fs rfl hd
    obtain ⟨u, hu, ru⟩ := RelO.some_of (v := v) (o := mA f) (by rw [← l]; exact hr f)
    have found := PySem.W.findObj_own T.hdC no rfl (by rw [hl, hu])
    exact HandSPX.exc_get J.kIn at1 T.ga T.gg T.exC found (handed_of ru) ⟨v, H1, J.tok _, ru, q⟩
  · refine re Δ _ σ H B R hr hw _ fun p Δ1 x H1 B1 q hl hk ⟨G, pr, hr1⟩ => ?_
    obtain ⟨t, F, r, q2⟩ := pr.tree hr1 q
    cases t with
    | exc a' y' od' fs =>
      obtain ⟨⟨rfl, rfl, rfl⟩, hy, q3⟩ := q2
      cases r with
      | exc0 => cases q3
      | @excD _ d _ fv _ h1 ek rk =>
        cases hv : fs.lookup f with
        | none => rw [hv] at q3; exact q3.elim
        | some v =>
          rw [hv] at q3
          obtain ⟨u, eu, ru⟩ := lookup_rp ek rk hv
          exact ⟨rfl, hy, d, fv, u, rfl, hr1.sub _ _ h1, eu, k (.val v) Δ1 u H1 B1 q3 hl hk ⟨[], ru, hr1.drop⟩⟩
    | _ => exact q2.elim
end
end TL
set_option maxRecDepth 100000
set_option maxHeartbeats 1000000
namespace TL
open PySem PySem.Spec PyProof.Rows L2
/-- where such a call stands: the exception p is handled, of the class y, its dict at od -/
structure StandK (P : Program) (w : World) (K : Frag) (mg : Str → Option Value) (base : Heap) (k : Nat) (fd : FuncData) (ps : List Str) (A : Around) (outer : List Env) (s : Shared) (H : Hp) (args : Args) (us : List Value) (vs : List V) (p : Addr × Obj) (y : Str) (od : Option Addr) : Prop where
  room : L2H.RoomH k A
  quiet : A.guards = some []
  hot : L2H.Hot1 A p
  is : Zc (.ref (clsOf K y)) od p.2
  pin : L2H.PinOk outer H s p
  env : Env0 P w K mg base A outer s H
  meets : BindsTo s fd args (ps.zip us)
  vals : Vals vs us
abbrev FSK := Addr → Str → Option Addr → FS
/-- what such a def promises -/
structure FnK (P : Program) (w : World) (K : Frag) (mg : Str → Option Value) (base : Heap) (k : Nat) (f : Addr) (fd : FuncData) (ps : List Str) (S : FSK) : Prop where
  arity : ∀ {a y od vs H Q E}, spT K (S a y od) vs H Q E → vs.length = ps.length
  keeps : ∀ {A outer s H args us vs Q E p y od}, StandK P w K mg base k fd ps A outer s H args us vs p y od → spT K (S p.1 y od) vs H Q E → codeAny (model P w) A (.call (.ref f) args) (fun r s' => CR CX0 outer P w H s Q E r s') s
structure CalK (P : Program) (w : World) (K : Frag) (mg : Str → Option Value) (base : Heap) (k : Nat) (x : Str) (S : FSK) : Prop where
  ex : ∃ (f : Addr) (fd : FuncData) (ps : List Str), mg x = some (.ref f) ∧ PySem.W.keepIn K (.ref f) = true ∧ Binds K fd ps [] ∧ FnK P w K mg base k f fd ps S
section
variable {X : Cx} {j k : Nat} {a : Addr} {y : Str} {od : Option Addr}
theorem ce_calK {S : FSK} {x : Str} {p pos : Pos} {e : Expr} {es : List Expr} {wa : WA} (c : CalK X.prog X.w X.K X.mg X.base j x S) (h : HotK X a y od) (hr : L2H.RoomH k X.A) (hj : j ≤ k) (hgd : X.A.guards = some []) (hg : Gl X x) (ha : CA X (e :: es) wa) (hdb : (x == ("__debug__" : Str)) = false := by decide)
    (he : starEach (e :: es) X.env = (false, eval e X.env) :: starEach es X.env := by rfl) (hpl : (backTo pos (starEach es X.env)).any (·.1) = false := by rfl) : CE X (.Call (.Name x p) (e :: es) [] pos) (wCall (S a y od) wa) := by
  obtain ⟨f, fd, ps, hm, hk, hb, F⟩ := c.ex
  obtain ⟨ta, pa, ra⟩ := ha
  obtain ⟨oe, hot, hin, hz⟩ := h
  refine ⟨tCall (spT X.K (S a y od)) [] (fun _ _ _ => False) ta, ⟨fun pins s σ H Q I asks => ?_⟩, rf_call ra⟩
  apply wpAny_Call_Name_kw (ld_glob I hg hm _ hdb)
  refine PySem.W.callWith_K (h₀ := X.base) I.ok.mod.kin hk (thn (pa.run pos pins s σ H _ I asks) ?_) he hpl
  rintro us s1 ⟨vs, H1, J, got, more⟩
  refine ⟨J.kIn, ?_⟩
  have more : spT X.K (S a y od) vs H1 Q fun _ _ _ => False := by
    have z : spT X.K (S a y od) (vs ++ []) H1 Q fun _ _ _ => False := more
    rwa [List.append_nil] at z
  have len : (us ++ []).length = ps.length := by rw [List.append_nil, ← got.length]; exact F.arity more
  have bd := hb s1 us J.kIn len
  rw [List.append_nil] at bd
  have pin := J.pin (a, oe) (List.mem_append_left _ hin)
  have pok : L2H.PinOk X.stack H1 s1 (a, oe) := { get := pin.1, free := pin.2.1, nofs := fun hm => (List.mem_cons.mp (J.stkSub a hm)).elim pin.2.2.1 pin.2.2.2.1, nocell := pin.2.2.2.2 }
  have st : StandK X.prog X.w X.K X.mg X.base j fd ps X.A X.stack s1 H1 ⟨us, []⟩ us vs (a, oe) y od := { room := hr.mono hj, quiet := hgd, hot, is := hz, pin := pok, env := J.env0, meets := bd, vals := got }
  refine wpAny_call (codeAny_mono (F.keeps st more) fun r s' end' => ?_)
  match r, end' with
  | .ok (.ret _), c => exact J.after c
  | .error ex, c => exact pass0 pins σ H1 s1 ex s' J c
  | .ok .next, c => exact False.elim c
  | .ok .brk, c => exact False.elim c
  | .ok .cont, c => exact False.elim c
theorem roomK {A : Around} (r : Room k A) {v : Option Value} : L2H.RoomH k (A.mark v) := ⟨r.dp, r.un⟩
end
section
variable {P : Program} {w : World} {K : Frag} {mg : Str → Option Value} {base : Heap} {x qual : Str} {st : Stmt} {f : Addr} {fd : FuncData} {dV : Value} {N ps : List Str} {k : Nat} {S : FSK}
/-- THE RULE for such a def -/
theorem def_okK (np : Nat) (F : DefAt K mg x qual st f fd dV) (Sc : FnScope N ps (defScope st)) (hlen : ∀ {a y od} ts Q, S a y od ts Q → ts.length = ps.length) (hnp : np ≤ ps.length)
    (body : ∀ (cdv : Value) (A : Around) (outer : List Env) (s : Shared) (H : Hp) (E : XK) (p : Addr × Obj) (y : Str) (od : Option Addr), L2H.RoomH k (A.deeper (envOfC qual (defScope st) s.heap.objs.size f cdv)) → (A.deeper (envOfC qual (defScope st) s.heap.objs.size f cdv)).guards = some [] →
      HotK (L2H.cxH CX0 P w K mg base N qual (defScope st) f cdv A outer s H E p).nox p.1 y od →
      ∃ w', CSs (L2H.cxH CX0 P w K mg base N qual (defScope st) f cdv A outer s H E p).nox np (defBody st) w' ∧ ∀ ts Qf, S p.1 y od ts Qf → w' (endsD np ts Qf) (startD N np ts)) : FnK P w K mg base (k + 1) f fd ps S := by
  obtain ⟨kV, doc, pm, cdv, ct, an, o, stands, isF, code, rfl⟩ := F.text
  have arity : ∀ {a y od vs H Q E}, spT K (S a y od) vs H Q E → vs.length = ps.length := fun {a y od vs H Q E} ⟨ts, B, R, Qf, hr, hs, _⟩ => by
    have e := hr.len
    simp only [List.length_map] at e
    exact e.trans (hlen ts Qf hs)
  refine ⟨arity, fun {A outer s H args us vs Q E p y od} at1 asks => ?_⟩
  have hlv := arity asks
  obtain ⟨ts, B, R, Qf, hrep, hS, k1, k2⟩ := asks
  have hot : HotK (L2H.cxH CX0 P w K mg base N qual (defScope st) f cdv A outer s H E p).nox p.1 y od := ⟨p.2, ⟨at1.hot.1, at1.hot.2⟩, List.mem_singleton.mpr rfl, at1.is⟩
  obtain ⟨w', hb, hv⟩ := body cdv A outer s H E p y od (at1.room.deeper _) at1.quiet hot
  obtain ⟨tb, hp, hrf⟩ := hb.ex _ takes_no
  obtain ⟨B1, hle, hr1, rest⟩ := entry (N := N) np hrep
  have reads : tb { nx := fun _ H' => Q .non H', rt := Q } (start N vs) H := by
    refine hrf _ _ _ H B1 R hr1 (hv ts Qf hS) _ (fun Δ' σ' H' B' q f hr' => ?_) (fun t Δ' σ' v H' B' G q f r hr' => ?_) (fun _ _ _ _ q => q.elim) (fun _ _ _ _ q => q.elim) fun _ _ _ _ _ _ _ q => q.elim
    · obtain ⟨us, hu, hΔ, q2⟩ := lookUp_pre q
      exact k1 .non _ .non H' B' [] q2 (hle.trans f.1) f.2.1 .non (leave (N := N) (G := []) (by omega) hr' f.1 f.2.2 hu hΔ rest)
    · obtain ⟨us, hu, hΔ, q2⟩ := lookUp_pre q
      exact k1 t _ v H' B' G q2 (hle.trans f.1) f.2.1 r (leave (N := N) (by omega) hr' f.1 f.2.2 hu hΔ rest)
  have back : ∀ {b o'}, base.get? b = some o' → s.heap.get? b = some o' := fun {b o'} z => (at1.env.bs b o' z).1
  have inHeap : K.In s.heap := at1.env.mod.kin.keeps @back
  have unlimited := at1.env.mod.nolimit.keeps @back
  have places : ∀ z ∈ ps.zip us, (defScope st).names.lookup z.1 = some .local ∨ ((defScope st).names.lookup z.1 = some .cell ∧ ((cellsFrom (s.heap.objs.size + 1) (defScope st).names []).lookup z.1).isSome = true) := by
    rintro ⟨y, u⟩ hz
    exact (Sc.par y (List.of_mem_zip hz).1).imp id fun c => ⟨c, PySem.W.cellsFrom_some _ _ _ (.inl c)⟩
  refine codeAny_call_function at1.room.depth (inHeap _ _ stands) isF Sc.co Sc.gen rfl (PySem.W.codeRec_of inHeap code) (at1.meets _ _ _ _ (wpAny_newFunctionEnv_cells Sc.kind places ?_))
  rintro _ rfl s1 entered
  have ends := hp.nox.run [] s1 (start N vs) H _ (L2H.inv_startH Sc at1.pin at1.env hlv at1.vals entered) reads
  refine ⟨unlimited.keeps entered.toInCall.keep, codeAny_func (wpAny_mono ends (fun fl s' how => ?_) fun _ _ z => z)⟩
  match fl, how with
  | .ret u, ⟨v, _, H', J, same, q⟩ => exact ⟨v, H', J.os, J.bare, J.base, J.hok, same, q⟩
  | .next, ⟨_, H', J, q⟩ => exact ⟨.non, H', J.os, J.bare, J.base, J.hok, rfl, q⟩
  | .brk, ⟨_, _, _, q⟩ => exact False.elim q
  | .cont, ⟨_, _, _, q⟩ => exact False.elim q
theorem DefAt.calK (F : DefAt K mg x qual st f fd .none) (G : FnK P w K mg base k f fd ps S)
    (h : ∀ (kV doc pm : Value) (an : Option Addr) (cdv ct : Value) (us : List Value), us.length = ps.length → bindArgs (PySem.W.fnOf x qual (defArgs st) (defBody st) (defScope st) .none kV doc pm an cdv ct) ⟨us, []⟩ = pure (ps.zip us)) : CalK P w K mg base k x S := by
  obtain ⟨kV, doc, pm, cdv, ct, an, o, _, _, _, rfl⟩ := F.text
  exact ⟨_, _, ps, F.nm, F.stays, .all (h kV doc pm an cdv ct), G⟩
end
end TL
set_option maxRecDepth 100000
set_option maxHeartbeats 1000000
namespace TL
open PySem PySem.Spec PyProof.Rows L2
/-- the first place -/
def placeT (y : T) : List T → Option Nat
  | [] => none
  | t :: r => if eqV (scV t) (scV y) = true then some 0 else (placeT y r).map (· + 1)
theorem placeT_is {y : T} : ∀ {ts : List T} {j : Nat}, placeT y ts = some j → ∃ z, ts[j]? = some z ∧ eqV (scV z) (scV y) = true ∧ ∀ (m : Nat) z', m < j → ts[m]? = some z' → eqV (scV z') (scV y) = false
  | [], _, h => by cases h
  | t :: r, j, h => by
    unfold placeT at h
    split at h
    · next e =>
      cases h
      exact ⟨t, rfl, e, fun m z' hm => absurd hm (Nat.not_lt_zero m)⟩
    · next e =>
      cases q : placeT y r with
      | none => rw [q] at h; cases h
      | some i =>
        rw [q] at h
        cases h
        obtain ⟨z, h1, h2, h3⟩ := placeT_is q
        refine ⟨z, by simpa using h1, h2, fun m z' hm hz => ?_⟩
        cases m with
        | zero => simp at hz; subst hz; simpa using e
        | succ m => exact h3 m z' (Nat.lt_of_succ_lt_succ hm) (by simpa using hz)
def wLIx (wo wy : WE) : WE := fun Δ Q => wo Δ fun p Δ1 => onV Δ1 p fun x => match x with
  | .lst _ _ => wy Δ1 fun q Δ2 => onV Δ2 p fun x => onV Δ2 q fun y => match x with
    | .lst _ ts => flT y = true ∧ ts.all flT = true ∧ match placeT y ts with
      | some j => Q (.val (.int (j : Nat))) Δ2
      | none => False
    | _ => False
  | _ => False
theorem getElem_map_scV {ts : List T} {m : Nat} {v : V} (h : (ts.map scV)[m]? = some v) : ∃ z, ts[m]? = some z ∧ v = scV z := by
  rw [List.getElem?_map] at h
  cases e : ts[m]? with
  | none => rw [e] at h; cases h
  | some z => rw [e] at h; cases h; exact ⟨z, rfl, rfl⟩
theorem ce_lindex {X : Cx} {o e : Expr} {apos cpos : Pos} {wo wy : WE} (ho : CE X o wo) (hy : CE X e wy) (hbase : attributeBase o "index" X.env (eval o X.env) = eval o X.env := by rfl)
    (hfew : ((backTo cpos (starEach [e] X.env)).all (fun x => !x.1) && (backToKw cpos (keywordEach [] X.env)).all (fun x => x.1.isSome)
      && decide (([e] : List Expr).length + ([] : List Keyword).length + (if ([] : List Keyword).isEmpty then 0 else 1) < 30)) = true := by rfl)
    (hline : (apos.endLine == cpos.line) = true := by rfl) (hs : starEach [e] X.env = (false, eval e X.env) :: starEach [] X.env := by rfl) (hplain : (backTo cpos (starEach [] X.env)).any (·.1) = false := by rfl) : CE X (.Call (.Attribute o "index" apos) [e] [] cpos) (wLIx wo wy) := by
  obtain ⟨t1, p1, r1⟩ := ho
  obtain ⟨t2, p2, r2⟩ := hy
  refine ⟨_, pe_bm PySem.F.plainAttrs_list PySem.F.slot_list_index PySem.F.type_list_index mt_index p1 (pa_cons p2 pa_nil hs) hbase hfew hline hs hplain, fun Δ Q σ H B R hr hw Qv k => ?_⟩
  refine r1 Δ _ σ H B R hr hw _ fun p Δ1 x H1 B1 hq hl1 hk1 ⟨G1, pr1, hr1⟩ => ?_
  obtain ⟨tx, Fx, rx, o1⟩ := pr1.tree hr1 hq
  match tx, rx, o1 with
  | .lst b us, rx, o1 =>
    obtain ⟨a, vs, F', rfl, h1, _⟩ := rx.lst_inv hr1.sub
    refine ⟨.inl ⟨rfl, vs, h1⟩, ?_⟩
    refine r2 Δ1 _ σ H1 B1 (G1 ++ R) hr1 o1 _ fun q Δ2 y H2 B2 hq2 hl2 hk2 ⟨G2, pr2, hr2⟩ => ?_
    have pr1' := pr1.mono hl2 hk2.left
    obtain ⟨tx, Fx, rx, o2⟩ := pr1'.tree hr2 hq2
    obtain ⟨ty, Fy, ry, o3⟩ := pr2.tree hr2 o2
    have hr3 : Rep X.K B2 H2 R σ Δ2 := hr2.drop.drop
    match tx, rx, o3 with
    | .lst b ts, rx, o3 =>
      obtain ⟨fy, fts, o4⟩ := o3
      obtain ⟨a', ws, F2, ea, h2, rL⟩ := rx.lst_inv hr2.sub
      cases ea
      obtain ⟨g1, rfl⟩ := flat_of ry fy
      obtain ⟨g2, rfl⟩ := flats_of rL fts
      cases ej : placeT ty ts with
      | none => rw [ej] at o4; exact o4.elim
      | some j =>
        rw [ej] at o4
        obtain ⟨z, z1, z2, z3⟩ := placeT_is ej
        refine ⟨a, ts.map scV, scV ty, j, scV z, rfl, rfl, h2, g1, g2, by rw [List.getElem?_map, z1]; rfl, z2, fun m v hm hv => ?_, k (.val (.int (j : Nat))) Δ2 _ H2 B2 o4 (hl1.trans hl2) (hk1.trans hk2.right) ⟨[], .int _, hr3⟩⟩
        obtain ⟨z', hz', rfl⟩ := getElem_map_scV hv
        exact z3 m z' hm hz'
end TL
set_option maxRecDepth 100000
set_option maxHeartbeats 1000000
namespace TL
open PySem PySem.Spec PyProof.Rows L2
theorem roomK_u64 {k : Nat} {A : Around} (r : L2H.RoomH k A) : A.units + 64 < cLine := by have := r.un; omega
theorem roomK_u1 {k : Nat} {A : Around} (r : L2H.RoomH k A) : A.units + 1 < cLine := by have := r.un; omega
end TL
set_option maxRecDepth 100000
set_option maxHeartbeats 1000000
set_option maxRecDepth 100000
set_option maxHeartbeats 1000000
set_option maxRecDepth 100000
set_option maxHeartbeats 1000000
namespace TL
open PySem PySem.Spec PyProof.Rows L2
def lkF (f : Str) : List (Str × T) → Option T
  | [] => none
  | (g, t) :: r => if g = f then some t else lkF f r
def ptF (f : Str) (t : T) : List (Str × T) → List (Str × T)
  | [] => [(f, t)]
  | (g, x) :: r => if g = f then (g, t) :: r else (g, x) :: ptF f t r
section
variable {K : Frag} {B B' H H' : Hp} {R G : List Addr} {σ : Sg} {Δ : Dt} {f : Str} {t : T} {i : Nat} {y : Str} {v : V}
theorem look_hd {f g : Str} {v : V} {r : List (Str × V)} (h : g = f) : ((g, v) :: r).lookup f = some v := by
  subst h
  simp [List.lookup]
theorem look_tl {f g : Str} {v : V} {r : List (Str × V)} (h : ¬ g = f) : ((g, v) :: r).lookup f = r.lookup f := by
  have e : (f == g) = false := beq_eq_false_iff_ne.mpr fun z => h z.symm
  simp [List.lookup, e]
theorem fl_keys : ∀ {fv : List (Str × V)} {fs : List (Str × T)}, fv.map (·.1) = fs.map (·.1) → (putF f v fv).map (·.1) = (ptF f t fs).map (·.1)
  | [], [], _ => rfl
  | [], _ :: _, e => by simp at e
  | _ :: _, [], e => by simp at e
  | (g, x) :: fv, (g', u) :: fs, e => by
    simp only [List.map_cons, List.cons.injEq] at e
    obtain ⟨e1, e2⟩ := e
    subst e1
    simp only [putF, ptF]
    by_cases h : g = f
    · rw [if_pos h, if_pos h]; simp [e2]
    · rw [if_neg h, if_neg h]; simp [fl_keys e2]
/-- the field stands: its value, and how it is changed -/
theorem fl_at : ∀ {fv : List (Str × V)} {fs : List (Str × T)} {F : List Addr}, fv.map (·.1) = fs.map (·.1) → RpL K B H (fv.map (·.2)) (fs.map (·.2)) F → lkF f fs = some t →
    ∃ v F1 Ft F2, fv.lookup f = some v ∧ F = F1 ++ (Ft ++ F2) ∧ Rp K B H v t Ft ∧ ∀ {B' H' : Hp} {v' : V} {t' : T} {G : List Addr}, Le B B' → (∀ b ∈ F1 ++ F2, H' b = H b) → Rp K B' H' v' t' G →
      RpL K B' H' ((putF f v' fv).map (·.2)) ((ptF f t' fs).map (·.2)) (F1 ++ (G ++ F2))
  | [], [], _, _, _, h => by cases h
  | [], _ :: _, _, e, _, _ => by simp at e
  | _ :: _, [], _, e, _, _ => by simp at e
  | (g, x) :: fv, (g', u) :: fs, F, e, h, hf => by
    simp only [List.map_cons, List.cons.injEq] at e
    obtain ⟨e1, e2⟩ := e
    subst e1
    simp only [List.map_cons] at h
    cases h with
    | @cons _ _ _ _ F1 F2 h1 h2 =>
      by_cases hg : g = f
      · simp only [lkF, if_pos hg] at hf
        cases hf
        refine ⟨x, [], F1, F2, look_hd hg, rfl, h1, fun hB hk r => ?_⟩
        simp only [putF, ptF, if_pos hg, List.map_cons, List.nil_append]
        exact .cons r (h2.mono hB hk)
      · simp only [lkF, if_neg hg] at hf
        obtain ⟨v, G1, Ft, G2, a, b, c, d⟩ := fl_at e2 h2 hf
        subst b
        refine ⟨v, F1 ++ G1, Ft, G2, (look_tl hg).trans a, by simp, c, fun hB hk r => ?_⟩
        simp only [putF, ptF, if_neg hg, List.map_cons]
        rw [List.append_assoc]
        exact .cons (h1.mono hB fun b z => hk b (by simp [z])) (d hB (fun b z => hk b (by simp only [List.mem_append] at z ⊢; rcases z with z | z <;> simp [z])) r)
/-- the field is new -/
theorem fl_new : ∀ {fv : List (Str × V)} {fs : List (Str × T)} {F : List Addr}, fv.map (·.1) = fs.map (·.1) → RpL K B H (fv.map (·.2)) (fs.map (·.2)) F → lkF f fs = none →
    ∀ {B' H' : Hp} {v' : V} {t' : T} {G : List Addr}, Le B B' → (∀ b ∈ F, H' b = H b) → Rp K B' H' v' t' G → RpL K B' H' ((putF f v' fv).map (·.2)) ((ptF f t' fs).map (·.2)) (F ++ G)
  | [], [], _, _, h, _, B', H', v', t', G, hB, hk, r => by
    cases h
    simp only [putF, ptF, List.map_cons, List.map_nil, List.nil_append]
    have := RpL.cons r (RpL.nil (K := K) (B := B') (H := H'))
    rwa [List.append_nil] at this
  | [], _ :: _, _, e, _, _, _, _, _, _, _, _, _, _ => by simp at e
  | _ :: _, [], _, e, _, _, _, _, _, _, _, _, _, _ => by simp at e
  | (g, x) :: fv, (g', u) :: fs, F, e, h, hf, B', H', v', t', G, hB, hk, r => by
    simp only [List.map_cons, List.cons.injEq] at e
    obtain ⟨e1, e2⟩ := e
    subst e1
    simp only [List.map_cons] at h
    cases h with
    | @cons _ _ _ _ F1 F2 h1 h2 =>
      by_cases hg : g = f
      · simp only [lkF, if_pos hg] at hf; cases hf
      · simp only [lkF, if_neg hg] at hf
        simp only [putF, ptF, if_neg hg, List.map_cons]
        rw [List.append_assoc]
        exact .cons (h1.mono hB fun b z => hk b (List.mem_append_left _ z)) (fl_new e2 h2 hf hB (fun b z => hk b (List.mem_append_right _ z)) r)
/-- some place for the field -/
theorem fl_put {fv : List (Str × V)} {fs : List (Str × T)} {F : List Addr} (e : fv.map (·.1) = fs.map (·.1)) (h : RpL K B H (fv.map (·.2)) (fs.map (·.2)) F) :
    ∃ F1 F2, (∀ a, (F1 ++ F2).count a ≤ F.count a) ∧ ∀ {B' H' : Hp} {v' : V} {t' : T} {G : List Addr}, Le B B' → (∀ b ∈ F1 ++ F2, H' b = H b) → Rp K B' H' v' t' G → RpL K B' H' ((putF f v' fv).map (·.2)) ((ptF f t' fs).map (·.2)) (F1 ++ (G ++ F2)) := by
  cases hf : lkF f fs with
  | some t =>
    obtain ⟨v, F1, Ft, F2, _, e2, _, k⟩ := fl_at e h hf
    exact ⟨F1, F2, fun a => by rw [e2]; simp only [List.count_append]; omega, k⟩
  | none => exact ⟨F, [], fun a => by simp, fun hB hk r => by rw [List.append_nil]; exact fl_new e h hf hB (fun b z => hk b (by simp [z])) r⟩
theorem slot_ins {fs : List (Str × T)} (h : Rep K B H R σ Δ) (e : Δ[i]? = some (some (.ins true y fs))) : ∃ a dx fv F, σ[i]? = some (some (.ref a)) ∧ H a = some (.ins (clsOf K y) dx fv) ∧ H dx = some (.own a) ∧ fv.map (·.1) = fs.map (·.1) ∧ RpL K B H (fv.map (·.2)) (fs.map (·.2)) F ∧
    Rep K B H ((a :: dx :: F) ++ R) σ (Δ.set i none) := by
  obtain ⟨v, G, e1, r, h1⟩ := h.out e
  cases r with
  | @insO a dx _ fv ts F h2 h3 h4 h5 => exact ⟨a, dx, fv, F, e1, h2, h3, h4, h5, h1⟩
/-- a field is stored -/
theorem slot_put {fs : List (Str × T)} (h : Rep K B H (G ++ R) σ Δ) (e : Δ[i]? = some (some (.ins true y fs))) (r : Rp K B H v t G) : ∃ a dx fv, σ[i]? = some (some (.ref a)) ∧ H a = some (.ins (clsOf K y) dx fv) ∧ fv.map (·.1) = fs.map (·.1) ∧
    Rep K B (upd H a (.ins (clsOf K y) dx (putF f v fv))) R σ (Δ.set i (some (.ins true y (ptF f t fs)))) ∧ Keep R H (upd H a (.ins (clsOf K y) dx (putF f v fv))) := by
  obtain ⟨a, dx, fv, F, e1, h2, h3, h4, h5, h6⟩ := slot_ins h e
  refine ⟨a, dx, fv, e1, h2, h4, ?_⟩
  obtain ⟨F1, F2, hc, put⟩ := fl_put (f := f) h4 h5
  have h7 : Rep K B H (a :: (dx :: (F1 ++ (G ++ F2)) ++ R)) σ (Δ.set i none) := h6.weak fun b => by
    have := hc b
    simp only [List.count_append, List.count_cons, List.cons_append] at this ⊢
    omega
  obtain ⟨h8, h9⟩ := h7.updR (o := .ins (clsOf K y) dx (putF f v fv))
  have hk := h9
  have r2 := r.mono (H' := upd H a (.ins (clsOf K y) dx (putF f v fv))) (Le.refl B) fun b hb => h9 b (by simp [hb])
  have r3 : Rp K B (upd H a (.ins (clsOf K y) dx (putF f v fv))) (.ref a) (.ins true y (ptF f t fs)) (a :: dx :: (F1 ++ (G ++ F2))) :=
    .insO upd_same ((h9 dx (by simp)).trans h3) (fl_keys h4) (put (Le.refl B) (fun b hb => h9 b (by simp only [List.mem_append] at hb; rcases hb with hb | hb <;> simp [hb])) r2)
  have h10 := Rep.set (i := i) (x := some (.ref a)) (d := some (.ins true y (ptF f t fs))) (G := a :: dx :: (F1 ++ (G ++ F2))) (R := R) h8 r3
  rw [set_same e1, List.set_set] at h10
  exact ⟨h10, fun b hb => h9 b (by simp [hb])⟩
end
/-- a field of the class of that name -/
structure FldAt (K : Frag) (y f : Str) : Prop where
  cls : L2.Cls K (clsOf K y)
  no : NoAttr K (clsOf K y) f
/-- e.f, a field that is closed -/
def wFldC (ys : List Str) (f : Str) (we : WE) : WE := fun Δ Q => we Δ fun p Δ1 => onV Δ1 p fun t => match t with
  | .ins _ y fs => y ∈ ys ∧ match lkF f fs with
    | some u => closed u = true ∧ Q (.val u) Δ1
    | none => False
  | _ => False
theorem rf_fldC {K : Frag} {te : TE} {we : WE} {ys : List Str} {f : Str} (hy : ∀ y ∈ ys, FldAt K y f) (h : RfE K te we) : RfE K (tFld K te f) (wFldC ys f we) := fun Δ Q σ H B R hr hw Qv k => by
  refine h Δ _ σ H B R hr hw _ fun p Δ1 x H1 B1 q hl hk ⟨G, pr, hr1⟩ => ?_
  obtain ⟨t, F, rx, o⟩ := pr.tree hr1 q
  have fin : ∀ (a dx : Addr) (y : Str) (fv : List (Str × V)) (fs : List (Str × T)) (F : List Addr), H1 a = some (.ins (clsOf K y) dx fv) → fv.map (·.1) = fs.map (·.1) → RpL K B1 H1 (fv.map (·.2)) (fs.map (·.2)) F →
      (y ∈ ys ∧ match lkF f fs with | some u => closed u = true ∧ Q (.val u) Δ1 | none => False) →
      ∃ a' C dx' fs' v, (V.ref a) = .ref a' ∧ H1 a' = some (.ins C dx' fs') ∧ L2.Cls K C ∧ NoAttr K C f ∧ fs'.lookup f = some v ∧ Qv v H1 := fun a dx y fv fs F ha hk2 hL o => by
    obtain ⟨h1, o⟩ := o
    cases e : lkF f fs with
    | none => rw [e] at o; exact o.elim
    | some u =>
      rw [e] at o
      obtain ⟨v, F1, Ft, F2, e1, e2, r, _⟩ := fl_at hk2 hL e
      exact ⟨a, _, dx, fv, v, rfl, ha, (hy y h1).cls, (hy y h1).no, e1, k (.val u) Δ1 v H1 B1 o.2 hl hk ⟨[], r.c0 o.1, hr1.drop⟩⟩
  match t, rx, o with
  | .ins true y fs, .insO (a := a) (dx := dx) (fv := fv) h1 h2 h3 h4, o => exact fin a dx y fv fs _ h1 h3 h4 o
  | .ins false y fs, .insF (a := a) (dx := dx) (fv := fv) h1 h2 h3, o => exact fin a dx y fv fs _ (hr1.sub _ _ h1) h2 h3 o
theorem ce_fldC {X : Cx} {e : Expr} {we : WE} {ys : List Str} {f : Str} {pos : Pos} (hy : ∀ y ∈ ys, FldAt X.K y f) (h : CE X e we) (hb : attributeBase e f X.env (eval e X.env) = eval e X.env := by rfl) : CE X (.Attribute e f pos) (wFldC ys f we) := by
  obtain ⟨te, p, r⟩ := h
  exact ⟨_, pe_fld p hb, rf_fldC hy r⟩
def wPutF (i : Nat) (ys : List Str) (f : Str) (o : Bool) (t : T) (Δ : Dt) (k : Dt → Prop) : Prop := look Δ i fun s => match s with
  | .ins true y fs => y ∈ ys ∧ fs.length < 1000 ∧ k (Δ.set i (some (.ins true y (ptF f (if o = true then t else frz t) fs))))
  | _ => False
def wFldSet (i : Nat) (ys : List Str) (f : Str) (o : Bool) (we : WE) : WS := fun D Δ => we Δ fun p Δ1 => wTake p Δ1 fun t Δ2 => wPutF i ys f o t Δ2 D.nx
def wgFld (i : Nat) (ys : List Str) (f : Str) (o : Bool) : WG := fun t Δ Q => wPutF i ys f o t Δ Q
section
variable {K : Frag} {B H : Hp} {R G : List Addr} {σ : Sg} {Δ : Dt} {v : V} {t : T} {i : Nat} {ys : List Str} {f : Str} {o : Bool} {k : Dt → Prop}
theorem putF_ok (hy : ∀ y ∈ ys, FldAt K y f) (hr : Rep K B H (G ++ R) σ Δ) (r : Rp K B H v t G) (w : wPutF i ys f o t Δ k) : ∃ a C dx fs B' Δ', σ[i]? = some (some (.ref a)) ∧ H a = some (.ins C dx fs) ∧ L2.Cls K C ∧ NoAttr K C f ∧ fs.length < 1000 ∧ k Δ' ∧ Le B B' ∧
    Keep R H (upd H a (.ins C dx (putF f v fs))) ∧ Rep K B' (upd H a (.ins C dx (putF f v fs))) R σ Δ' := by
  obtain ⟨s, es, q⟩ := look_iff w
  match s, es, q with
  | .ins true y fs, es, ⟨h1, h2, q⟩ =>
    cases o with
    | true =>
      obtain ⟨a, dx, fv, e1, e2, e3, e4, e5⟩ := slot_put (f := f) hr es r
      exact ⟨a, _, dx, fv, B, _, e1, e2, (hy y h1).cls, (hy y h1).no, by have := congrArg List.length e3; simp at this; omega, q, Le.refl B, e5, e4⟩
    | false =>
      obtain ⟨B', hle, hr2, r2⟩ := hr.frzT r
      obtain ⟨a, dx, fv, e1, e2, e3, e4, e5⟩ := slot_put (f := f) (G := []) hr2 es r2
      exact ⟨a, _, dx, fv, B', _, e1, e2, (hy y h1).cls, (hy y h1).no, by have := congrArg List.length e3; simp at this; omega, q, hle, e5, e4⟩
end
theorem rf_fldSet {K : Frag} {W : WX} {np i : Nat} {te : TE} {we : WE} {ys : List Str} {f : Str} {o : Bool} (hy : ∀ y ∈ ys, FldAt K y f) (h : RfE K te we) : RfS K np W (sFld K (tVar i) te f) (wFldSet i ys f o we) := fun D Δ σ H B R hr hw E k1 k2 k3 k4 k5 => by
  refine h Δ _ σ H B R hr hw _ fun p Δ1 v H1 B1 q hl hk out => ?_
  obtain ⟨t, Δ2, B2, G, q2, hle, r, hr2⟩ := take_ok out q
  obtain ⟨a, C, dx, fs, B3, Δ3, e1, e2, e3, e4, e5, q3, hl3, hk3, hr3⟩ := putF_ok hy hr2 r q2
  exact ⟨.ref a, e1, a, C, dx, fs, rfl, e2, e3, e4, e5, k1 _ _ _ _ q3 (Fin.of ((hl.trans hle).trans hl3) (hk.trans hk3)) hr3⟩
theorem cs_fldSet {X : Cx} {np i : Nat} {x : Str} {p pos' pos : Pos} {e : Expr} {we : WE} {ys : List Str} {f : Str} (o : Bool) (hy : ∀ y ∈ ys, FldAt X.K y f) (he : CE X e we) (hN : X.N[i]? = some x := by rfl) (hv : Vis X.env.scope x := by first | exact Or.inl rfl | exact Or.inr (Or.inl rfl) | exact Or.inr (Or.inr rfl))
    (hd : (x == ("__debug__" : Str)) = false := by decide) (hcd : (x == ("__classdict__" : Str)) = false := by decide) (hs : swapsWith e (some (.Attribute (.Name x p) f pos')) pos.line X.env = pure false := by rfl) : CS X np (.Assign [.Attribute (.Name x p) f pos'] e pos) (wFldSet i ys f o we) := by
  refine ⟨fun W tk => ?_⟩
  obtain ⟨te, p1, r1⟩ := he
  exact ⟨_, ps_fld (pe_var hN hv hd hcd) p1 hs, rf_fldSet hy r1⟩
/-- x.f as a target -/
def gFld (K : Frag) (ta : TE) (f : Str) : TG := fun v σ H Q => ta σ H fun x H2 => ∃ a C dx fs, x = .ref a ∧ H2 a = some (.ins C dx fs) ∧ L2.Cls K C ∧ NoAttr K C f ∧ fs.length < 1000 ∧ Q σ (upd H2 a (.ins C dx (putF f v fs)))
theorem pg_fld {X : Cx} {o : Expr} {f : Str} {pos : Pos} {ta : TE} (ho : PE X o ta) : PG X (.Attribute o f pos) (gFld X.K ta f) := by
  refine ⟨fun pins s σ H v u Q I r h => ?_⟩
  rw [PySem.assign_Attribute]
  refine wpAny_bind (wpAny_holding (thn (ho.run pins s σ H _ I h) fun ov s1 ⟨x, H1, I1, r1, a, C, dx, fs, ex, ea, c, n, l, q1⟩ => ?_))
  subst ex
  obtain rfl : ov = Value.ref a := r1
  refine wpAny_bind (wpAny_standAt (wpAny_bind (wpAny_holding (setattr_ok I1 ea c n l r fun s3 I3 => ?_))))
  exact wpAny_release ⟨σ, _, I3, q1⟩
theorem rf_gFld {K : Frag} {S : Nat → Prop} {i : Nat} {ys : List Str} {f : Str} {o : Bool} (hy : ∀ y ∈ ys, FldAt K y f) : RfG K S (gFld K (tVar i) f) (wgFld i ys f o) := fun t Δ Q σ H B R G v hr r hw Qv k => by
  obtain ⟨a, C, dx, fs, B3, Δ3, e1, e2, e3, e4, e5, q3, hl3, hk3, hr3⟩ := putF_ok hy hr r hw
  exact ⟨.ref a, e1, a, C, dx, fs, rfl, e2, e3, e4, e5, k _ _ _ _ q3 hl3 hk3 (fun _ _ => rfl) hr3 rfl⟩
theorem cg_fld {X : Cx} {S : Nat → Prop} {i : Nat} {x : Str} {p pos : Pos} {ys : List Str} {f : Str} (o : Bool) (hy : ∀ y ∈ ys, FldAt X.K y f) (hN : X.N[i]? = some x := by rfl) (hv : Vis X.env.scope x := by first | exact Or.inl rfl | exact Or.inr (Or.inl rfl) | exact Or.inr (Or.inr rfl))
    (hd : (x == ("__debug__" : Str)) = false := by decide) (hcd : (x == ("__classdict__" : Str)) = false := by decide) : CG X S (.Attribute (.Name x p) f pos) (wgFld i ys f o) :=
  ⟨_, pg_fld (pe_var hN hv hd hcd), rf_gFld hy⟩
def wFldAug (i : Nat) (ys : List Str) (f : Str) (we : WE) : WS := fun D Δ => look Δ i fun s0 => match s0 with
  | .ins true y fs0 => y ∈ ys ∧ match lkF f fs0 with
    | some (.int n) => we Δ fun p Δ1 => onV Δ1 p fun t => match t with
      | .int m => look Δ1 i fun s => match s with
        | .ins true y' fs => y' = y ∧ fs.length < 1000 ∧ D.nx (Δ1.set i (some (.ins true y' (ptF f (.int (n + m)) fs))))
        | _ => False
      | _ => False
    | _ => False
  | _ => False
theorem rf_fldAug {K : Frag} {W : WX} {np i : Nat} {te : TE} {we : WE} {ys : List Str} {f : Str} (hy : ∀ y ∈ ys, FldAt K y f) (h : RfE K te we) : RfS K np W (sFldAug K (tVar i) te L2.rAdd f) (wFldAug i ys f we) := fun D Δ σ H B R hr hw E k1 k2 k3 k4 k5 => by
  obtain ⟨s0, e0, hw⟩ := look_iff hw
  match s0, e0, hw with
  | .ins true y fs0, e0, ⟨hm, hw⟩ =>
    obtain ⟨a, dx, fv, F, e1, e2, e3, e4, e5, _⟩ := slot_ins hr e0
    cases el : lkF f fs0 with
    | none => rw [el] at hw; exact hw.elim
    | some u =>
      rw [el] at hw
      obtain ⟨v, F1, Ft, F2, l1, _, rv, _⟩ := fl_at e4 e5 el
      match u, rv, hw with
      | .int n, rv, hw =>
        refine ⟨.ref a, e1, a, _, dx, fv, v, rfl, e2, (hy y hm).cls, (hy y hm).no, l1, ?_⟩
        refine h Δ _ σ H B R hr hw _ fun p Δ1 z H1 B1 q hl hk ⟨G, pr, hr1⟩ => ?_
        obtain ⟨tz, Fz, rz, q2⟩ := pr.tree hr1 q
        match tz, rz, q2 with
        | .int m, rz, q2 =>
          obtain ⟨s, es, q3⟩ := look_iff q2
          match s, es, q3 with
          | .ins true y' fs, es, ⟨hy', hz, q4⟩ =>
            subst hy'
            obtain ⟨a', dx', fv', b1, b2, b3, b4, b5⟩ := slot_put (f := f) (G := []) (t := .int (n + m)) (v := .int (n + m)) hr1.drop es (.int _)
            rw [e1] at b1
            cases b1
            exact ⟨n, m, rv.int_inv.1, rz.int_inv.1, dx', fv', b2, by have := congrArg List.length b3; simp at this; omega, k1 _ _ _ B1 q4 (Fin.of hl (hk.trans b5)) b4⟩
theorem cs_fldAug {X : Cx} {np i : Nat} {x : Str} {p pos' pos : Pos} {e : Expr} {we : WE} {ys : List Str} {f : Str} (hy : ∀ y ∈ ys, FldAt X.K y f) (he : CE X e we) (hN : X.N[i]? = some x := by rfl) (hv : Vis X.env.scope x := by first | exact Or.inl rfl | exact Or.inr (Or.inl rfl) | exact Or.inr (Or.inr rfl))
    (hd : (x == ("__debug__" : Str)) = false := by decide) (hcd : (x == ("__classdict__" : Str)) = false := by decide) : CS X np (.AugAssign (.Attribute (.Name x p) f pos') .Add e pos) (wFldAug i ys f we) := by
  refine ⟨fun W tk => ?_⟩
  obtain ⟨te, p1, r1⟩ := he
  exact ⟨_, ps_fldaug (pe_var hN hv hd hcd) p1 in_add, rf_fldAug hy r1⟩
end TL
set_option maxRecDepth 100000
set_option maxHeartbeats 1000000
namespace TL
open PySem PySem.Spec PyProof.Rows L2
mutual
def noR : T → Bool
  | .tup xs => noRL xs
  | .lst o xs => o && noRL xs
  | .dct _ kvs => noRK kvs
  | .ins o _ fs => o && noRF fs
  | .exc _ _ _ fs => noRF fs
  | .exv _ fs => noRF fs
  | .non => true | .bl _ => true | .int _ => true | .str _ => true | .fn _ => true | .ty _ => true
def noRL : List T → Bool
  | [] => true
  | t :: r => noR t && noRL r
def noRK : List (Key × T) → Bool
  | [] => true
  | (_, t) :: r => noR t && noRK r
def noRF : List (Str × T) → Bool
  | [] => true
  | (_, t) :: r => noR t && noRF r
end
def noRD : Dt → Bool
  | [] => true
  | none :: r => noRD r
  | some t :: r => noR t && noRD r
theorem noRK_L : ∀ kvs : List (Key × T), noRK kvs = true → noRL (kvs.map (·.2)) = true
  | [], _ => rfl
  | (_, t) :: r, h => by simp only [noRK, Bool.and_eq_true] at h; simp only [List.map_cons, noRL, h.1, noRK_L r h.2]; rfl
theorem noRF_L : ∀ fs : List (Str × T), noRF fs = true → noRL (fs.map (·.2)) = true
  | [], _ => rfl
  | (_, t) :: r, h => by simp only [noRF, Bool.and_eq_true] at h; simp only [List.map_cons, noRL, h.1, noRF_L r h.2]; rfl
def shellO : HO → Bool
  | .lst _ => true
  | .ins _ _ _ => true
  | .own _ => true
  | _ => false
/-- shells may go -/
def LeX (B B' : Hp) : Prop := ∀ a o, B a = some o → shellO o = false → B' a = some o
section
variable {K : Frag} {B B' H : Hp}
theorem LeX.rd (h : LeX B B') {a : Addr} {u : HO} (hu : shellO u = false) (r : Rd B a u) : Rd B' a u := r.elim (fun e => .inl (h _ _ e hu)) fun ⟨o, e⟩ => .inr ⟨o, h _ _ e rfl⟩
theorem LeX.sqT (h : LeX B B') {a : Addr} {vs : List V} (r : SqT K B a vs) : SqT K B' a vs := r.elim (fun r => .inl (h.rd rfl r)) .inr
mutual
theorem Rp.off (hB : LeX B B') : ∀ {v : V} {t : T} {F : List Addr}, Rp K B H v t F → noR t = true → Rp K B' H v t F
  | _, _, _, .non, _ => .non
  | _, _, _, .bl b, _ => .bl b
  | _, _, _, .int i, _ => .int i
  | _, _, _, .str x, _ => .str x
  | _, _, _, .fn a, _ => .fn a
  | _, _, _, .ty n, _ => .ty n
  | _, _, _, .exc0 a x, _ => .exc0 a x
  | _, _, _, .excD (ts := ts) h1 h2 h3, h => .excD (hB _ _ h1 rfl) h2 (RpL.off hB h3 (noRF_L ts (by simpa [noR] using h)))
  | _, _, _, .exv0 h1, _ => .exv0 (hB _ _ h1 rfl)
  | _, _, _, .exvD (ts := ts) h0 h1 h2 h3, h => .exvD (hB _ _ h0 rfl) (hB _ _ h1 rfl) h2 (RpL.off hB h3 (noRF_L ts (by simpa [noR] using h)))
  | _, _, _, .tup h1 h2, h => .tup (hB.sqT h1) (RpL.off hB h2 (by simpa [noR] using h))
  | _, _, _, .lstF h1 h2, h => by simp [noR] at h
  | _, _, _, .lstO h1 h2, h => .lstO h1 (RpL.off hB h2 (by simpa [noR] using h))
  | _, _, _, .dctF (ts := ts) h1 h2 h3, h => .dctF (hB.rd rfl h1) h2 (RpL.off hB h3 (noRK_L ts (by simpa [noR] using h)))
  | _, _, _, .dctO (ts := ts) h1 h2 h3, h => .dctO h1 h2 (RpL.off hB h3 (noRK_L ts (by simpa [noR] using h)))
  | _, _, _, .insF h1 h2 h3, h => by simp [noR] at h
  | _, _, _, .insO (ts := ts) h1 h0 h2 h3, h => .insO h1 h0 h2 (RpL.off hB h3 (noRF_L ts (by simpa [noR] using h)))
theorem RpL.off (hB : LeX B B') : ∀ {vs : List V} {ts : List T} {F : List Addr}, RpL K B H vs ts F → noRL ts = true → RpL K B' H vs ts F
  | _, _, _, .nil, _ => .nil
  | _, _, _, .cons h1 h2, h => by
    simp only [noRL, Bool.and_eq_true] at h
    exact .cons (Rp.off hB h1 h.1) (RpL.off hB h2 h.2)
end
theorem RpS.off (hB : LeX B B') : ∀ {σ : Sg} {Δ : Dt} {F : List Addr}, RpS K B H σ Δ F → noRD Δ = true → RpS K B' H σ Δ F
  | _, _, _, .nil, _ => .nil
  | _, _, _, .cons (d := none) h1 h2, h => .cons h1 (RpS.off hB h2 (by simpa [noRD] using h))
  | _, _, _, .cons (d := some t) (x := x) h1 h2, h => by
    simp only [noRD, Bool.and_eq_true] at h
    cases x with
    | none => exact h1.elim
    | some v => exact .cons (Rp.off hB h1 h.1) (RpS.off hB h2 h.2)
end
def unow : T → T
  | .lst _ xs => .lst false xs
  | t => t
def vwF (L D : List Str) : List Addr → List (Str × T) → List (Str × T)
  | _, [] => []
  | ls, (f, t) :: r => (f, if f ∈ L then unow t else if f ∈ D then .fn (ls.headD 0) else t) :: vwF L D ls.tail r
def vwOk (L D : List Str) : List (Str × T) → Bool
  | [] => true
  | (f, t) :: r => (if f ∈ L then (match t with | .lst true xs => closedL xs | _ => false) else if f ∈ D then (match t with | .dct true kvs => closedK kvs | _ => false) else closed t) && vwOk L D r
section
variable {K : Frag} {B B' H H' : Hp} {R : List Addr} {σ : Sg} {Δ : Dt} {i : Nat} {y : Str} {L D : List Str}
theorem vw_keys : ∀ (ls : List Addr) (fs : List (Str × T)), (vwF L D ls fs).map (·.1) = fs.map (·.1)
  | _, [] => rfl
  | ls, (f, t) :: r => by simp only [vwF, List.map_cons, vw_keys ls.tail r]
theorem vw_fields : ∀ {fv : List (Str × V)} {fs : List (Str × T)} {F : List Addr}, fv.map (·.1) = fs.map (·.1) → RpL K B H (fv.map (·.2)) (fs.map (·.2)) F → vwOk L D fs = true →
    ∃ (ls FL FD : List Addr), (∀ a, F.count a = FL.count a + FD.count a) ∧ (∀ l ∈ FL, ∃ vs, H l = some (.lst vs)) ∧ ∀ B1 H1 : Hp, Le B B1 → (∀ l ∈ FL, B1 l = H l) → RpL K B1 H1 (fv.map (·.2)) ((vwF L D ls fs).map (·.2)) []
  | [], [], _, _, h, _ => by
    cases h
    exact ⟨[], [], [], (fun a => by simp), (fun l z => absurd z (by simp)), (fun B1 H1 _ _ => RpL.nil)⟩
  | [], _ :: _, _, e, _, _ => by simp at e
  | _ :: _, [], _, e, _, _ => by simp at e
  | (g, x) :: fv, (g', u) :: fs, F, e, h, ok => by
    simp only [List.map_cons, List.cons.injEq] at e
    obtain ⟨e1, e2⟩ := e
    subst e1
    simp only [List.map_cons] at h
    simp only [vwOk, Bool.and_eq_true] at ok
    cases h with
    | @cons _ _ _ _ F1 F2 h1 h2 =>
      obtain ⟨ls, FL, FD, c, hl, k⟩ := vw_fields e2 h2 ok.2
      have ok1 := ok.1
      by_cases hL : g ∈ L
      · rw [if_pos hL] at ok1
        match u, h1, ok1 with
        | .lst true xs, .lstO (a := a) (vs := vs) h3 h4, ok1 =>
          have h0 := h4.nil_of_closed ok1
          subst h0
          refine ⟨0 :: ls, a :: FL, FD, fun b => ?_, fun l z => ?_, fun B1 H1 hB hk => ?_⟩
          · have := c b; simp only [List.count_append, List.count_cons, List.count_nil] at this ⊢; omega
          · rcases List.mem_cons.mp z with z | z
            · subst z; exact ⟨_, h3⟩
            · exact hl l z
          · simp only [vwF, if_pos hL, List.map_cons, List.tail_cons, unow]
            exact RpL.cons (F := []) (G := []) (.lstF (.inl (.inl ((hk a List.mem_cons_self).trans h3))) (h4.mono hB fun _ z => nomatch z)) (k B1 H1 hB fun l z => hk l (List.mem_cons_of_mem _ z))
      · rw [if_neg hL] at ok1
        by_cases hD : g ∈ D
        · rw [if_pos hD] at ok1
          match u, h1, ok1 with
          | .dct true kvs, .dctO (a := a) (F := F3) h3 h5 h4, ok1 =>
            refine ⟨a :: ls, FL, (a :: F3) ++ FD, fun b => ?_, hl, fun B1 H1 hB hk => ?_⟩
            · have := c b; simp only [List.count_append, List.count_cons, List.cons_append] at this ⊢; omega
            · simp only [vwF, if_neg hL, if_pos hD, List.map_cons, List.tail_cons, List.headD_cons]
              exact RpL.cons (F := []) (G := []) (.fn a) (k B1 H1 hB hk)
        · rw [if_neg hD] at ok1
          have h0 := h1.nil_of_closed ok1
          subst h0
          refine ⟨0 :: ls, FL, FD, fun b => ?_, hl, fun B1 H1 hB hk => ?_⟩
          · have := c b; simp only [List.count_append, List.count_nil] at this ⊢; omega
          · simp only [vwF, if_neg hL, if_neg hD, List.map_cons, List.tail_cons]
            exact RpL.cons (F := []) (G := []) (h1.mono hB fun _ z => nomatch z) (k B1 H1 hB hk)
/-- there and back -/
theorem view_go {fs : List (Str × T)} (h : Rep K B H R σ Δ) (e : Δ[i]? = some (some (.ins true y fs))) (ok : vwOk L D fs = true) : ∃ (ls : List Addr) (B1 : Hp) (a dx : Addr) (fv : List (Str × V)) (S F : List Addr),
    Le B B1 ∧ σ[i]? = some (some (.ref a)) ∧ H a = some (.ins (clsOf K y) dx fv) ∧ fv.map (·.1) = fs.map (·.1) ∧ RpL K B H (fv.map (·.2)) (fs.map (·.2)) F ∧ Rep K B1 H (S ++ R) σ (Δ.set i (some (.ins false y (vwF L D ls fs)))) ∧
    ∀ {B2 H2 : Hp} {G : List Addr} {Δ2 : Dt}, Le B1 B2 → Keep (S ++ R) H H2 → Rep K B2 H2 (G ++ (S ++ R)) σ Δ2 → noRD (Δ2.set i none) = true → ∃ B3, Le B B3 ∧ LeX B2 B3 ∧ Rep K B3 H2 (G ++ R) σ (Δ2.set i (some (.ins true y fs))) ∧
      H2 a = some (.ins (clsOf K y) dx fv) := by
  obtain ⟨a, dx, fv, F, e1, h2, h3, h4, h5, h6⟩ := slot_ins h e
  obtain ⟨ls, FL, FD, hc, hFL, hv⟩ := vw_fields (B := B) h4 h5 ok
  obtain ⟨F0, hS, hdj⟩ := h6.fp
  have nB : ∀ b ∈ a :: dx :: F, B b = none := fun b hb => ((hdj b).2 (by simp only [List.mem_append]; exact .inr (.inl hb))).1
  have subF : ∀ b ∈ a :: dx :: FL, b ∈ a :: dx :: F := fun b hb => by
    simp only [List.mem_cons] at hb ⊢
    rcases hb with hb | hb | hb
    · exact .inl hb
    · exact .inr (.inl hb)
    · refine .inr (.inr (List.count_pos_iff.mp ?_))
      have := hc b
      have := List.count_pos_iff.mpr hb
      omega
  let B1 : Hp := fun b => if b ∈ a :: dx :: FL then H b else B b
  have hle : Le B B1 := Le.of_same fun b o q => by
    show (if b ∈ a :: dx :: FL then H b else B b) = some o
    rw [if_neg fun z => by rw [nB b (subF b z)] at q; cases q]
    exact q
  have cnt : ∀ b, F0.count b + ((a :: dx :: FL).count b + FD.count b + R.count b) ≤ 1 := fun b => by
    have h7 := (hdj b).1
    have := hc b
    simp only [List.count_append, List.count_cons, List.cons_append] at h7 ⊢
    omega
  have hB1 : ∀ b ∈ a :: dx :: FL, B1 b = H b := fun b z => if_pos z
  have hB1n : ∀ b, b ∉ a :: dx :: FL → B1 b = B b := fun b z => if_neg z
  have rep0 : Rep K B1 H (FD ++ R) σ (Δ.set i none) := ⟨fun b o q => by
      by_cases z : b ∈ a :: dx :: FL
      · rw [hB1 b z] at q; exact q
      · rw [hB1n b z] at q; exact h6.sub b o q, F0, hS.mono hle fun _ _ => rfl, fun b => by
    have h8 := cnt b
    refine ⟨by simp only [List.count_append]; omega, fun z => ?_⟩
    have hb : b ∉ a :: dx :: FL := fun q => by
      have h9 := List.count_pos_iff.mpr q
      have h10 := List.count_pos_iff.mpr z
      simp only [List.count_append] at h10
      omega
    have z' : b ∈ F0 ++ ((a :: dx :: F) ++ R) := List.count_pos_iff.mp (by
      have h10 := List.count_pos_iff.mpr z
      have := hc b
      simp only [List.count_append, List.count_cons, List.cons_append] at h10 ⊢
      omega)
    exact ⟨by rw [hB1n b hb]; exact ((hdj b).2 z').1, ((hdj b).2 z').2⟩⟩
  have ra : Rp K B1 H (.ref a) (.ins false y (vwF L D ls fs)) [] := .insF ((hB1 a (by simp)).trans h2) (h4.trans (vw_keys ls fs).symm) (hv B1 H hle fun l z => hB1 l (by simp [z]))
  have rep1 := Rep.set (i := i) (x := some (.ref a)) (d := some (.ins false y (vwF L D ls fs))) (G := []) (R := FD ++ R) rep0 ra
  rw [set_same e1, List.set_set] at rep1
  refine ⟨ls, B1, a, dx, fv, FD, F, hle, e1, h2, h4, h5, rep1, fun {B2 H2 G Δ2} hl2 hk2 hr2 hn => ?_⟩
  have plain : ∀ b ∈ a :: dx :: FL, ∃ o, H b = some o ∧ B2 b = some o := fun b z => by
    have at1 : ∃ o, H b = some o ∧ (∀ kv, o ≠ .dK kv) := by
      simp only [List.mem_cons] at z
      rcases z with z | z | z
      · subst z; exact ⟨_, h2, fun kv z => by cases z⟩
      · subst z; exact ⟨_, h3, fun kv z => by cases z⟩
      · obtain ⟨vs, q⟩ := hFL b z; exact ⟨_, q, fun kv z => by cases z⟩
    obtain ⟨o, q, n⟩ := at1
    rcases hl2 b o ((hB1 b z).trans q) with q2 | ⟨kv, od, q2, _⟩
    · exact ⟨o, q, q2⟩
    · exact absurd q2 (n kv)
  have H2at : ∀ b ∈ a :: dx :: FL, H2 b = H b := fun b z => by
    obtain ⟨o, q1, q2⟩ := plain b z
    rw [hr2.sub b o q2, q1]
  let B3 : Hp := fun b => if b ∈ a :: dx :: FL then none else B2 b
  have hB3 : ∀ b ∈ a :: dx :: FL, B3 b = none := fun b z => if_pos z
  have hB3n : ∀ b, b ∉ a :: dx :: FL → B3 b = B2 b := fun b z => if_neg z
  have hle3 : Le B B3 := fun b o q => by
    have hb : b ∉ a :: dx :: FL := fun z => by rw [nB b (subF b z)] at q; cases q
    rw [hB3n b hb]
    exact hl2.trans (Le.refl _) b o ((hB1n b hb).trans q)
  have hlx : LeX B2 B3 := fun b o q sh => by
    by_cases hb : b ∈ a :: dx :: FL
    · exfalso
      have hs : ∃ o, H b = some o ∧ shellO o = true := by
        simp only [List.mem_cons] at hb
        rcases hb with hb | hb | hb
        · subst hb; exact ⟨_, h2, rfl⟩
        · subst hb; exact ⟨_, h3, rfl⟩
        · obtain ⟨vs, q⟩ := hFL b hb; exact ⟨_, q, rfl⟩
      obtain ⟨o1, q1, q2⟩ := plain b hb
      obtain ⟨o2, q3, q4⟩ := hs
      rw [q] at q2; cases q2
      rw [q1] at q3; cases q3
      rw [sh] at q4; cases q4
    · rw [hB3n b hb]; exact q
  have hr3 := Rep.set (i := i) (x := some (.ref a)) (d := none) (G := []) (R := G ++ (FD ++ R)) hr2 rfl
  rw [set_same e1] at hr3
  obtain ⟨F1, hS1, hdj1⟩ := hr3.fp
  have cnt2 : ∀ b, F1.count b + ((a :: dx :: F).count b + (G.count b + R.count b)) ≤ 1 := fun b => by
    have h7 := (hdj1 b).1
    have h8 := cnt b
    have h9 := hc b
    simp only [List.count_append, List.count_cons] at h7 h8 ⊢
    by_cases hb : b ∈ a :: dx :: FL
    · have h10 : (F1 ++ (G ++ (FD ++ R))).count b = 0 := List.count_eq_zero.mpr fun z => by
        obtain ⟨o, _, q⟩ := plain b hb
        rw [((hdj1 b).2 z).1] at q; cases q
      simp only [List.count_append] at h10
      omega
    · have h10 : (a :: dx :: FL).count b = 0 := List.count_eq_zero.mpr hb
      simp only [List.count_cons] at h10
      omega
  have rep3 : Rep K B3 H2 ((a :: dx :: F) ++ (G ++ R)) σ (Δ2.set i none) := by
    refine ⟨fun b o q => ?_, F1, hS1.off hlx hn, fun b => ⟨?_, fun z => ?_⟩⟩
    · by_cases hb : b ∈ a :: dx :: FL
      · rw [hB3 b hb] at q; cases q
      · rw [hB3n b hb] at q; exact hr2.sub b o q
    · have := cnt2 b
      simp only [List.count_append] at this ⊢
      omega
    · by_cases hb : b ∈ a :: dx :: FL
      · obtain ⟨o, q1, _⟩ := plain b hb
        exact ⟨hB3 b hb, by rw [H2at b hb, q1]; simp⟩
      · have z' : b ∈ F1 ++ (G ++ (FD ++ R)) := List.count_pos_iff.mp (by
          have h10 := List.count_pos_iff.mpr z
          have h11 : (a :: dx :: FL).count b = 0 := List.count_eq_zero.mpr hb
          have := hc b
          simp only [List.count_append, List.count_cons, List.cons_append] at h10 h11 ⊢
          omega)
        exact ⟨by rw [hB3n b hb]; exact ((hdj1 b).2 z').1, ((hdj1 b).2 z').2⟩
  have keepF : ∀ b ∈ F, H2 b = H b := fun b z => by
    by_cases hb : b ∈ a :: dx :: FL
    · exact H2at b hb
    · refine hk2 b (List.mem_append_left _ (List.count_pos_iff.mp ?_))
      have h10 := List.count_pos_iff.mpr z
      have h11 : (a :: dx :: FL).count b = 0 := List.count_eq_zero.mpr hb
      have := hc b
      simp only [List.count_cons] at h11
      omega
  have r3 : Rp K B3 H2 (.ref a) (.ins true y fs) (a :: dx :: F) := .insO ((H2at a (by simp)).trans h2) ((H2at dx (by simp)).trans h3) h4 (h5.mono hle3 keepF)
  have rep4 := Rep.set (i := i) (x := some (.ref a)) (d := some (.ins true y fs)) (G := a :: dx :: F) (R := G ++ R) rep3 r3
  rw [set_same e1, List.set_set] at rep4
  exact ⟨B3, hle3, hlx, rep4, (H2at a (by simp)).trans h2⟩
end
def wView (i : Nat) (L D : List Str) (w : WE) : WE := fun Δ Q => look Δ i fun s => match s with
  | .ins true y fs => vwOk L D fs = true ∧ ∀ ls : List Addr, w (Δ.set i (some (.ins false y (vwF L D ls fs)))) fun p Δ1 => noRD (Δ1.set i none) = true ∧ match p with
    | .val u => noR u = true ∧ Q (.val u) (Δ1.set i (some (.ins true y fs)))
    | .pl _ => False
  | _ => False
theorem rf_view {K : Frag} {i : Nat} {L D : List Str} {te : TE} {w : WE} (h : RfE K te w) : RfE K te (wView i L D w) := fun Δ Q σ H B R hr hw Qv k => by
  obtain ⟨s, es, hw⟩ := look_iff hw
  match s, es, hw with
  | .ins true y fs, es, ⟨ok, hw⟩ =>
    obtain ⟨ls, B1, a, dx, fv, S, F, hle, e1, e2, e3, e4, hr1, back⟩ := view_go hr es ok
    refine h _ _ σ H B1 (S ++ R) hr1 (hw ls) _ fun p Δ2 v H2 B2 q hl hk ⟨G, pr, hr2⟩ => ?_
    obtain ⟨hn, q⟩ := q
    match p, pr, q with
    | .val u, pr, ⟨hu, q⟩ =>
      obtain ⟨B3, b1, b2, b3, _⟩ := back hl hk hr2 hn
      exact k (.val u) _ v H2 B3 q b1 hk.right ⟨G, Rp.off b2 pr hu, b3⟩
theorem ce_view {X : Cx} (i : Nat) (L D : List Str) {e : Expr} {w : WE} (h : CE X e w) : CE X e (wView i L D w) := by
  obtain ⟨te, p, r⟩ := h
  exact ⟨te, p, rf_view r⟩
def wViewT (i : Nat) (L D : List Str) (w : WT) : WT := fun Δ Q => look Δ i fun s => match s with
  | .ins true y fs => vwOk L D fs = true ∧ ∀ ls : List Addr, w (Δ.set i (some (.ins false y (vwF L D ls fs)))) fun b Δ1 => noRD (Δ1.set i none) = true ∧ Q b (Δ1.set i (some (.ins true y fs)))
  | _ => False
theorem rf_viewT {K : Frag} {i : Nat} {L D : List Str} {te : TT} {w : WT} (h : RfT K te w) : RfT K te (wViewT i L D w) := fun Δ Q σ H B R hr hw Qv k => by
  obtain ⟨s, es, hw⟩ := look_iff hw
  match s, es, hw with
  | .ins true y fs, es, ⟨ok, hw⟩ =>
    obtain ⟨ls, B1, a, dx, fv, S, F, hle, e1, e2, e3, e4, hr1, back⟩ := view_go hr es ok
    refine h _ _ σ H B1 (S ++ R) hr1 (hw ls) _ fun b Δ2 H2 B2 q hl hk hr2 => ?_
    obtain ⟨B3, b1, b2, b3, _⟩ := back (G := []) hl hk hr2 q.1
    exact k b _ H2 B3 q.2 b1 hk.right b3
theorem ct_view {X : Cx} (i : Nat) (L D : List Str) {e : Expr} {w : WT} (h : CT X e w) : CT X e (wViewT i L D w) := by
  obtain ⟨te, p, r⟩ := h
  exact ⟨te, p, rf_viewT r⟩
end TL
set_option maxRecDepth 100000
set_option maxHeartbeats 1000000
namespace TL
open PySem PySem.Spec PyProof.Rows L2
theorem putF_same {f : Str} {v : V} : ∀ {fv : List (Str × V)}, fv.lookup f = some v → putF f v fv = fv
  | [], h => by cases h
  | (g, x) :: r, h => by
    by_cases hg : g = f
    · rw [look_hd hg] at h
      cases h
      simp only [putF, if_pos hg]
    · rw [look_tl hg] at h
      simp only [putF, if_neg hg, putF_same h]
section
variable {K : Frag} {B H : Hp} {R : List Addr} {σ : Sg} {Δ : Dt} {i : Nat} {y f : Str} {t : T}
theorem slot_fl {fs : List (Str × T)} (h : Rep K B H R σ Δ) (e : Δ[i]? = some (some (.ins true y fs))) (hf : lkF f fs = some t) : ∃ a dx fv v Ft, σ[i]? = some (some (.ref a)) ∧ H a = some (.ins (clsOf K y) dx fv) ∧ fv.lookup f = some v ∧ Rp K B H v t Ft ∧
    ∀ (H' : Hp) (t' : T), (∀ b, b ∉ Ft → H' b = H b) → (∀ b ∈ Ft, H' b ≠ none) → Rp K B H' v t' Ft → Rep K B H' R σ (Δ.set i (some (.ins true y (ptF f t' fs)))) ∧ Keep R H H' := by
  obtain ⟨a, dx, fv, F, e1, h2, h3, h4, h5, h6⟩ := slot_ins h e
  obtain ⟨v, F1, Ft, F2, l1, l2, rv, k⟩ := fl_at h4 h5 hf
  refine ⟨a, dx, fv, v, Ft, e1, h2, l1, rv, fun H' t' hk hn r => ?_⟩
  obtain ⟨F0, hS, hdj⟩ := h6.fp
  subst l2
  have cnt : ∀ b, F0.count b + ((a :: dx :: (F1 ++ (Ft ++ F2))).count b + R.count b) ≤ 1 := fun b => by
    have := (hdj b).1
    simp only [List.count_append, List.cons_append, List.count_cons] at this ⊢
    omega
  have out : ∀ b, (0 < F0.count b ∨ 0 < F1.count b ∨ 0 < F2.count b ∨ 0 < R.count b ∨ b = a ∨ b = dx) → H' b = H b := fun b z => by
    refine hk b fun q => ?_
    have h7 := List.count_pos_iff.mpr q
    have h8 := cnt b
    simp only [List.count_append, List.count_cons] at h8
    rcases z with z | z | z | z | z | z
    · omega
    · omega
    · omega
    · omega
    · subst z; simp at h8; omega
    · subst z; simp at h8; omega
  have hnB : ∀ b ∈ Ft, B b = none := fun b z => ((hdj b).2 (by simp [z])).1
  have hsub : Sub B H' := fun b o q => by
    have hb : b ∉ Ft := fun z => by rw [hnB b z] at q; cases q
    rw [hk b hb]; exact h.sub b o q
  have hL := k (Le.refl B) (fun b hb => out b (by
    simp only [List.mem_append] at hb
    rcases hb with hb | hb
    · exact .inr (.inl (List.count_pos_iff.mpr hb))
    · exact .inr (.inr (.inl (List.count_pos_iff.mpr hb))))) r
  rw [putF_same l1] at hL
  have ra : Rp K B H' (.ref a) (.ins true y (ptF f t' fs)) (a :: dx :: (F1 ++ (Ft ++ F2))) := .insO ((out a (by simp)).trans h2) ((out dx (by simp)).trans h3) (by rw [← fl_keys (v := v) (t := t') h4, putF_same l1]) hL
  have rep : Rep K B H' ((a :: dx :: (F1 ++ (Ft ++ F2))) ++ R) σ (Δ.set i none) := ⟨hsub, F0, hS.mono (Le.refl B) fun b hb => out b (.inl (List.count_pos_iff.mpr hb)), fun b => ⟨(hdj b).1, fun z => ⟨((hdj b).2 z).1, by
    by_cases hb : b ∈ Ft
    · exact hn b hb
    · rw [hk b hb]; exact ((hdj b).2 z).2⟩⟩⟩
  have rep2 := Rep.set (i := i) (x := some (.ref a)) (d := some (.ins true y (ptF f t' fs))) rep ra
  rw [set_same e1, List.set_set] at rep2
  exact ⟨rep2, fun b hb => out b (.inr (.inr (.inr (.inl (List.count_pos_iff.mpr hb)))))⟩
/-- a list in a field -/
theorem slot_fll {fs : List (Str × T)} {xs : List T} (h : Rep K B H R σ Δ) (e : Δ[i]? = some (some (.ins true y fs))) (hf : lkF f fs = some (.lst true xs)) (hc : closedL xs = true) : ∃ a dx fv l vs, σ[i]? = some (some (.ref a)) ∧ H a = some (.ins (clsOf K y) dx fv) ∧ fv.lookup f = some (.ref l) ∧ H l = some (.lst vs) ∧ RpL K B H vs xs [] ∧
    ∀ (vs' : List V) (xs' : List T), RpL K B H vs' xs' [] → Rep K B (upd H l (.lst vs')) R σ (Δ.set i (some (.ins true y (ptF f (.lst true xs') fs)))) ∧ Keep R H (upd H l (.lst vs')) := by
  obtain ⟨a, dx, fv, v, Ft, e1, h2, l1, rv, k⟩ := slot_fl h e hf
  cases rv with
  | @lstO l vs _ F h3 h4 =>
    have h0 := h4.nil_of_closed hc
    subst h0
    refine ⟨a, dx, fv, l, vs, e1, h2, l1, h3, h4, fun vs' xs' r => k _ _ (fun b hb => upd_ne (by simpa using hb)) (fun b hb => ?_) (.lstO upd_same (r.mono (Le.refl B) fun _ z => nomatch z))⟩
    have e : b = l := by simpa using hb
    subst e
    rw [upd_same]; simp
/-- a dict in a field -/
theorem slot_fld {fs : List (Str × T)} {kvs : List (Key × T)} (h : Rep K B H R σ Δ) (e : Δ[i]? = some (some (.ins true y fs))) (hf : lkF f fs = some (.dct true kvs)) (hc : closedK kvs = true) : ∃ a dx fv l kv, σ[i]? = some (some (.ref a)) ∧ H a = some (.ins (clsOf K y) dx fv) ∧ fv.lookup f = some (.ref l) ∧ H l = some (.dK kv) ∧
    kv.map (·.1) = kvs.map (·.1) ∧ RpL K B H (kv.map (·.2)) (kvs.map (·.2)) [] ∧
    ∀ (kv' : List (Key × V)) (kvs' : List (Key × T)), kv'.map (·.1) = kvs'.map (·.1) → RpL K B H (kv'.map (·.2)) (kvs'.map (·.2)) [] → Rep K B (upd H l (.dK kv')) R σ (Δ.set i (some (.ins true y (ptF f (.dct true kvs') fs)))) ∧ Keep R H (upd H l (.dK kv')) := by
  obtain ⟨a, dx, fv, v, Ft, e1, h2, l1, rv, k⟩ := slot_fl h e hf
  cases rv with
  | @dctO l kv _ F h3 h5 h4 =>
    have h0 : F = [] := h4.nil_of_closed ((closedL_iff _).mpr fun x hx => by
      obtain ⟨p, hp, rfl⟩ := List.mem_map.mp hx
      exact (closedK_iff _).mp hc p hp)
    subst h0
    refine ⟨a, dx, fv, l, kv, e1, h2, l1, h3, h5, h4, fun kv' kvs' hk r => k _ _ (fun b hb => upd_ne (by simpa using hb)) (fun b hb => ?_) (.dctO upd_same hk (r.mono (Le.refl B) fun _ z => nomatch z))⟩
    have e : b = l := by simpa using hb
    subst e
    rw [upd_same]; simp
end
def wFApp (i : Nat) (L D ys : List Str) (f : Str) (we : WE) : WE := fun Δ Q => look Δ i fun s => match s with
  | .ins true y fs => y ∈ ys ∧ vwOk L D fs = true ∧ match lkF f fs with
    | some (.lst true xs) => closedL xs = true ∧ xs.length < sizeLine ∧ ∀ ls : List Addr, we (Δ.set i (some (.ins false y (vwF L D ls fs)))) fun p Δ1 => wTake p Δ1 fun t Δ2 => noRD (Δ2.set i none) = true ∧ noR (frz t) = true ∧
        Q (.val .non) (Δ2.set i (some (.ins true y (ptF f (.lst true (xs ++ [frz t])) fs))))
    | _ => False
  | _ => False
theorem rf_fapp {K : Frag} {i : Nat} {L D ys : List Str} {f : Str} {te : TE} {we : WE} (hy : ∀ y ∈ ys, FldAt K y f) (h : RfE K te we) : RfE K (tBM K "list" rAppend (tFld K (tVar i) f) (tCons te tNil)) (wFApp i L D ys f we) := fun Δ Q σ H B R hr hw Qv k => by
  obtain ⟨s, es, hw⟩ := look_iff hw
  match s, es, hw with
  | .ins true y fs, es, ⟨hm, ok, hw⟩ =>
    cases el : lkF f fs with
    | none => rw [el] at hw; exact hw.elim
    | some u =>
      rw [el] at hw
      match u, el, hw with
      | .lst true xs, el, ⟨hc, hz, hw⟩ =>
        obtain ⟨a0, dx0, fv0, l, vs, b1, b2, b3, b4, b5, _⟩ := slot_fll hr es el hc
        obtain ⟨ls, B1, a, dx, fv, S, F, hle, e1, e2, e3, e4, hr1, back⟩ := view_go hr es ok
        rw [b1] at e1; cases e1
        rw [b2] at e2; cases e2
        refine ⟨.ref a0, b1, a0, _, dx0, fv0, .ref l, rfl, b2, (hy y hm).cls, (hy y hm).no, b3, .inl ⟨rfl, vs, .inl (.inl b4)⟩, ?_⟩
        refine h _ _ σ H B1 (S ++ R) hr1 (hw ls) _ fun p Δ1 z H1 B2 q hl hk o1 => ?_
        obtain ⟨t, Δ2, B3, q, hl2, rz, hr2⟩ := take_fr o1 q
        obtain ⟨hn, ht, q⟩ := q
        obtain ⟨B4, c1, c2, c3, c4⟩ := back (G := []) (hl.trans hl2) hk hr2 hn
        have es2 : (Δ2.set i (some (.ins true y fs)))[i]? = some (some (.ins true y fs)) := by
          have hlen : i < Δ2.length := by
            have h1 := hr2.len
            have h2 := (List.getElem?_eq_some_iff.mp b1).1
            omega
          simp [hlen]
        have c3' : Rep K B4 H1 R σ (Δ2.set i (some (.ins true y fs))) := c3
        obtain ⟨a2, dx2, fv2, l2, vs2, d1, d2, d3, d4, d5, upd'⟩ := slot_fll c3' es2 el hc
        rw [b1] at d1; cases d1
        rw [c4] at d2; cases d2
        rw [b3] at d3; cases d3
        obtain ⟨g1, g2⟩ := upd' (vs2 ++ [z]) (xs ++ [frz t]) (RpL.append (F := []) (G := []) d5 (RpL.cons (F := []) (G := []) (Rp.off c2 rz ht) .nil))
        rw [List.set_set] at g1
        exact ⟨l, vs2, z, rfl, rfl, d4, by rw [d5.length]; exact hz, k (.val .non) _ .non _ B4 q c1 (hk.right.trans g2) ⟨[], .non, g1⟩⟩
theorem ce_fapp {X : Cx} {i : Nat} (L D : List Str) {ys : List Str} {f x : Str} {e : Expr} {we : WE} {p fpos apos cpos : Pos} (hy : ∀ y ∈ ys, FldAt X.K y f) (he : CE X e we) (hN : X.N[i]? = some x := by rfl) (hv : Vis X.env.scope x := by first | exact Or.inl rfl | exact Or.inr (Or.inl rfl) | exact Or.inr (Or.inr rfl)) (hd : (x == ("__debug__" : Str)) = false := by decide)
    (hcd : (x == ("__classdict__" : Str)) = false := by decide) (hb : attributeBase (.Name x p) f X.env (eval (.Name x p) X.env) = eval (.Name x p) X.env := by rfl) (hbase : attributeBase (.Attribute (.Name x p) f fpos) "append" X.env (eval (.Attribute (.Name x p) f fpos) X.env) = eval (.Attribute (.Name x p) f fpos) X.env := by rfl)
    (hfew : ((backTo cpos (starEach [e] X.env)).all (fun x => !x.1) && (backToKw cpos (keywordEach [] X.env)).all (fun x => x.1.isSome) && decide ([e].length + ([] : List Keyword).length + (if ([] : List Keyword).isEmpty then 0 else 1) < 30)) = true := by rfl)
    (hline : (apos.endLine == cpos.line) = true := by rfl) (hs : starEach [e] X.env = (false, eval e X.env) :: starEach [] X.env := by rfl) (hplain : (backTo cpos (starEach [] X.env)).any (·.1) = false := by rfl) : CE X (.Call (.Attribute (.Attribute (.Name x p) f fpos) "append" apos) [e] [] cpos) (wFApp i L D ys f we) := by
  obtain ⟨te, p1, r1⟩ := he
  exact ⟨_, pe_bm PySem.F.plainAttrs_list PySem.F.slot_list_append PySem.F.type_list_append mt_append (pe_fld (pe_var hN hv hd hcd) hb) (pa_cons p1 pa_nil hs) hbase hfew hline hs hplain, rf_fapp hy r1⟩
def wFPop (i : Nat) (ys : List Str) (f : Str) : WE := fun Δ Q => look Δ i fun s => match s with
  | .ins true y fs => y ∈ ys ∧ match lkF f fs with
    | some (.lst true xs) => closedL xs = true ∧ match xs[xs.length - 1]? with
      | some t => Q (.val t) (Δ.set i (some (.ins true y (ptF f (.lst true xs.dropLast) fs))))
      | none => False
    | _ => False
  | _ => False
theorem RpL.dropLast0 {K : Frag} {B H : Hp} : ∀ {vs : List V} {ts : List T}, RpL K B H vs ts [] → RpL K B H vs.dropLast ts.dropLast []
  | vs, ts, h => by
    rw [List.dropLast_eq_take, List.dropLast_eq_take, h.length]
    obtain ⟨F1, F2, e, h1, _⟩ := RpL.split (ts.length - 1) h
    have e := List.append_eq_nil_iff.mp e.symm
    rw [e.1] at h1
    exact h1
theorem rf_fpop {K : Frag} {i : Nat} {ys : List Str} {f : Str} (hy : ∀ y ∈ ys, FldAt K y f) : RfE K (tBM0 K "list" rPop (tFld K (tVar i) f)) (wFPop i ys f) := fun Δ Q σ H B R hr hw Qv k => by
  obtain ⟨s, es, hw⟩ := look_iff hw
  match s, es, hw with
  | .ins true y fs, es, ⟨hm, hw⟩ =>
    cases el : lkF f fs with
    | none => rw [el] at hw; exact hw.elim
    | some u =>
      rw [el] at hw
      match u, el, hw with
      | .lst true xs, el, ⟨hc, hw⟩ =>
        obtain ⟨a, dx, fv, l, vs, b1, b2, b3, b4, b5, upd'⟩ := slot_fll hr es el hc
        cases ex : xs[xs.length - 1]? with
        | none => rw [ex] at hw; exact hw.elim
        | some t =>
          rw [ex] at hw
          obtain ⟨v, e1, r1⟩ := b5.get_t ex
          obtain ⟨g1, g2⟩ := upd' vs.dropLast xs.dropLast b5.dropLast0
          exact ⟨.ref a, b1, a, _, dx, fv, .ref l, rfl, b2, (hy y hm).cls, (hy y hm).no, b3, .inl ⟨rfl, vs, .inl (.inl b4)⟩, l, vs, v, rfl, rfl, b4, by rw [b5.length]; exact e1,
            k (.val t) _ v _ B hw (Le.refl B) g2 ⟨[], r1.mono (Le.refl B) (fun _ z => nomatch z), g1⟩⟩
theorem ce_fpop {X : Cx} {i : Nat} {ys : List Str} {f x : Str} {p fpos apos cpos : Pos} (hy : ∀ y ∈ ys, FldAt X.K y f) (hN : X.N[i]? = some x := by rfl) (hv : Vis X.env.scope x := by first | exact Or.inl rfl | exact Or.inr (Or.inl rfl) | exact Or.inr (Or.inr rfl)) (hd : (x == ("__debug__" : Str)) = false := by decide)
    (hcd : (x == ("__classdict__" : Str)) = false := by decide) (hb : attributeBase (.Name x p) f X.env (eval (.Name x p) X.env) = eval (.Name x p) X.env := by rfl) (hbase : attributeBase (.Attribute (.Name x p) f fpos) "pop" X.env (eval (.Attribute (.Name x p) f fpos) X.env) = eval (.Attribute (.Name x p) f fpos) X.env := by rfl)
    (hline : (apos.endLine == cpos.line) = true := by rfl) : CE X (.Call (.Attribute (.Attribute (.Name x p) f fpos) "pop" apos) [] [] cpos) (wFPop i ys f) :=
  ⟨_, pe_bm0 PySem.F.plainAttrs_list PySem.F.slot_list_pop PySem.F.type_list_pop mt_pop (pe_fld (pe_var hN hv hd hcd) hb) hbase hline, rf_fpop hy⟩
def wPop (i : Nat) : WE := fun Δ Q => look Δ i fun s => match s with
  | .lst true xs => closedL xs = true ∧ match xs[xs.length - 1]? with
    | some t => Q (.val t) (Δ.set i (some (.lst true xs.dropLast)))
    | none => False
  | _ => False
theorem rf_pop {K : Frag} {i : Nat} : RfE K (tBM0 K "list" rPop (tVar i)) (wPop i) := fun Δ Q σ H B R hr hw Qv k => by
  obtain ⟨s, es, hw⟩ := look_iff hw
  match s, es, hw with
  | .lst true xs, es, ⟨hc, hw⟩ =>
    obtain ⟨l, vs, F, b1, b4, b5, upd'⟩ := slot_lst hr es
    have h0 := b5.nil_of_closed hc
    subst h0
    cases ex : xs[xs.length - 1]? with
    | none => rw [ex] at hw; exact hw.elim
    | some t =>
      rw [ex] at hw
      obtain ⟨v, e1, r1⟩ := b5.get_t ex
      obtain ⟨g1, g2⟩ := upd' vs.dropLast xs.dropLast fun H' _ => b5.dropLast0.mono (Le.refl B) fun _ z => nomatch z
      exact ⟨.ref l, b1, .inl ⟨rfl, vs, .inl (.inl b4)⟩, l, vs, v, rfl, rfl, b4, by rw [b5.length]; exact e1, k (.val t) _ v _ B hw (Le.refl B) g2 ⟨[], r1.mono (Le.refl B) (fun _ z => nomatch z), g1⟩⟩
theorem ce_pop {X : Cx} {i : Nat} {x : Str} {p apos cpos : Pos} (hN : X.N[i]? = some x := by rfl) (hv : Vis X.env.scope x := by first | exact Or.inl rfl | exact Or.inr (Or.inl rfl) | exact Or.inr (Or.inr rfl)) (hd : (x == ("__debug__" : Str)) = false := by decide)
    (hcd : (x == ("__classdict__" : Str)) = false := by decide) (hbase : attributeBase (.Name x p) "pop" X.env (eval (.Name x p) X.env) = eval (.Name x p) X.env := by rfl)
    (hline : (apos.endLine == cpos.line) = true := by rfl) : CE X (.Call (.Attribute (.Name x p) "pop" apos) [] [] cpos) (wPop i) :=
  ⟨_, pe_bm0 PySem.F.plainAttrs_list PySem.F.slot_list_pop PySem.F.type_list_pop mt_pop (pe_var hN hv hd hcd) hbase hline, rf_pop⟩
def wFAugD (i : Nat) (L D ys : List Str) (f : Str) (wk we : WE) : WS := fun E Δ => look Δ i fun s => match s with
  | .ins true y fs => y ∈ ys ∧ vwOk L D fs = true ∧ match lkF f fs with
    | some (.dct true kvs) => closedK kvs = true ∧ kvs.length < sizeLine ∧ ∀ ls : List Addr, wk (Δ.set i (some (.ins false y (vwF L D ls fs)))) fun p Δ1 => noRD (Δ1.set i none) = true ∧ onV Δ1 p fun j => match keyOf j with
      | some kk => match valT kvs kk with
        | some (.int n) => ∀ ls2 : List Addr, we (Δ1.set i (some (.ins false y (vwF L D ls2 fs)))) fun q Δ2 => noRD (Δ2.set i none) = true ∧ onV Δ2 q fun u => match u with
          | .int m => E.nx (Δ2.set i (some (.ins true y (ptF f (.dct true (putT kvs kk (.int (n + m)))) fs))))
          | _ => False
        | _ => False
      | none => False
    | _ => False
  | _ => False
theorem rf_faugd {K : Frag} {W : WX} {np i : Nat} {L D ys : List Str} {f : Str} {tk te : TE} {wk we : WE} (hy : ∀ y ∈ ys, FldAt K y f) (h1 : RfE K tk wk) (h2 : RfE K te we) : RfS K np W (sDAug (tFld K (tVar i) f) tk te L2.rAdd) (wFAugD i L D ys f wk we) := fun E Δ σ H B R hr hw En k1 k2 k3 k4 k5 => by
  obtain ⟨s, es, hw⟩ := look_iff hw
  match s, es, hw with
  | .ins true y fs, es, ⟨hm, ok, hw⟩ =>
    cases el : lkF f fs with
    | none => rw [el] at hw; exact hw.elim
    | some u =>
      rw [el] at hw
      match u, el, hw with
      | .dct true kvs, el, ⟨hc, hz, hw⟩ =>
        obtain ⟨a0, dx0, fv0, l, kv, b1, b2, b3, b4, b5, b6, _⟩ := slot_fld hr es el hc
        obtain ⟨ls, B1, a, dx, fv, S, F, hle, e1, e2, e3, e4, hr1, back⟩ := view_go hr es ok
        rw [b1] at e1; cases e1
        rw [b2] at e2; cases e2
        refine ⟨.ref a0, b1, a0, _, dx0, fv0, .ref l, rfl, b2, (hy y hm).cls, (hy y hm).no, b3, ?_⟩
        refine h1 _ _ σ H B1 (S ++ R) hr1 (hw ls) _ fun p Δ1 z H1 B2 q hl hk ⟨G, pr, hr2⟩ => ?_
        obtain ⟨hn, q⟩ := q
        obtain ⟨tj, Fj, rj, q⟩ := pr.tree hr2 q
        have hr2' : Rep K B2 H1 (S ++ R) σ Δ1 := hr2.drop
        obtain ⟨B3, c1, c2, c3, c4⟩ := back (G := []) hl hk hr2' hn
        have len1 : i < Δ1.length := by
          have h1 := hr2'.len
          have h2 := (List.getElem?_eq_some_iff.mp b1).1
          omega
        have c3' : Rep K B3 H1 R σ (Δ1.set i (some (.ins true y fs))) := c3
        have es1 : (Δ1.set i (some (.ins true y fs)))[i]? = some (some (.ins true y fs)) := by simp [len1]
        cases ek : keyOf tj with
        | none => rw [ek] at q; exact q.elim
        | some kk =>
          rw [ek] at q
          cases ev : valT kvs kk with
          | none => simp only [ev] at q
          | some tn =>
            simp only [ev] at q
            match tn, ev, q with
            | .int n, ev, q =>
              obtain ⟨a2, dx2, fv2, l2, kv2, d1, d2, d3, d4, d5, d6, _⟩ := slot_fld c3' es1 el hc
              rw [b1] at d1; cases d1
              rw [c4] at d2; cases d2
              rw [b3] at d3; cases d3
              obtain ⟨v, _, f1, f2⟩ := (val_of d5 d6).2 _ ev
              refine ⟨l, v, rfl, by rw [keyOf_V rj ek, ← f1]; exact DGet.k d4, ?_⟩
              obtain ⟨ls2, B4, a3, dx3, fv3, S2, F2, hle2, g1, g2, g3, g4, hr3, back2⟩ := view_go c3' es1 ok
              rw [b1] at g1; cases g1
              rw [c4] at g2; cases g2
              rw [List.set_set] at hr3
              refine h2 _ _ σ H1 B4 (S2 ++ R) hr3 (q ls2) _ fun p2 Δ2 z2 H2 B5 q2 hl2 hk2 ⟨G2, pr2, hr4⟩ => ?_
              obtain ⟨hn2, q2⟩ := q2
              obtain ⟨tm, Fm, rm, q2⟩ := pr2.tree hr4 q2
              have hr4' : Rep K B5 H2 (S2 ++ R) σ Δ2 := hr4.drop
              match tm, rm, q2 with
              | .int m, rm, q2 =>
                obtain ⟨B6, m1, m2, m3, m4⟩ := back2 (G := []) hl2 hk2 hr4' hn2
                have len2 : i < Δ2.length := by
                  have h1 := hr4'.len
                  have h2 := (List.getElem?_eq_some_iff.mp b1).1
                  omega
                have m3' : Rep K B6 H2 R σ (Δ2.set i (some (.ins true y fs))) := m3
                have es2 : (Δ2.set i (some (.ins true y fs)))[i]? = some (some (.ins true y fs)) := by simp [len2]
                obtain ⟨a5, dx5, fv5, l5, kv5, n1, n2, n3, n4, n5, n6, upd'⟩ := slot_fld m3' es2 el hc
                rw [b1] at n1; cases n1
                rw [m4] at n2; cases n2
                rw [b3] at n3; cases n3
                have hp := kv_put (kk := kk) (v := .int (n + m)) (t := .int (n + m)) (.int _) (kv_of n5 n6 rfl)
                obtain ⟨o1, o2⟩ := upd' _ _ (kv_to hp).1 (kv_to hp).2
                rw [List.set_set] at o1
                have hlen : kv5.length = kvs.length := by simpa using congrArg List.length n5
                exact ⟨n, m, f2.int_inv.1, rm.int_inv.1, _, .inl ⟨kv5, kk, n4, keyOf_V rj ek, by rw [hlen]; exact hz, rfl⟩, k1 _ _ _ B6 q2 (Fin.of (c1.trans m1) ((hk.right.trans hk2.right).trans o2)) o1⟩
theorem cs_faugd {X : Cx} {np i : Nat} (L D : List Str) {ys : List Str} {f x : Str} {ek e : Expr} {wk we : WE} {p fpos tpos pos : Pos} (hu : X.A.units + 1 < cLine) (hy : ∀ y ∈ ys, FldAt X.K y f) (hk : CE X ek wk) (he : CE X e we) (hN : X.N[i]? = some x := by rfl) (hv : Vis X.env.scope x := by first | exact Or.inl rfl | exact Or.inr (Or.inl rfl) | exact Or.inr (Or.inr rfl)) (hd : (x == ("__debug__" : Str)) = false := by decide)
    (hcd : (x == ("__classdict__" : Str)) = false := by decide) (hb : attributeBase (.Name x p) f X.env (eval (.Name x p) X.env) = eval (.Name x p) X.env := by rfl)
    (ha : ∀ ov iv new, augStore ek ov iv new = (do holding [new, ov, iv] (setItem ov iv new); release [new, ov, iv] []; pure .next) := by intros; rfl) :
    CS X np (.AugAssign (.Subscript (.Attribute (.Name x p) f fpos) ek tpos) .Add e pos) (wFAugD i L D ys f wk we) := by
  refine ⟨fun W tk => ?_⟩
  obtain ⟨t1, p1, r1⟩ := hk
  obtain ⟨t2, p2, r2⟩ := he
  exact ⟨_, ps_daug hu (pe_fld (pe_var hN hv hd hcd) hb) p1 p2 in_add ha, rf_faugd hy r1 r2⟩
end TL
set_option maxRecDepth 100000
set_option maxHeartbeats 1000000
namespace TL
open PySem PySem.Spec PyProof.Rows L2
section
variable {X : Cx} {CX : CXT} {k : Nat} {f C : Addr} {fd : FuncData} {ps : List Str} {sp : Sp} {vs0 : List V} {us0 : List Value} {E : XK} {x m : Str} {p pos apos : Pos} {e o : Expr} {es : List Expr} {ta : TE} {t : TA}
theorem pe_methG {pl : Sem Bool} (he : PE X o ta) (c : L2.Cls X.K C) (hm : Meth X.K C m f) (F : FnG X.prog X.w X.K X.mg X.base CX k f fd ps sp) (room : Room k X.A) (quiet : X.A.guards = some []) (bd : Binds X.K fd ps us0) (fill : Vals vs0 us0) (out : Passes CX X E) (ha : PA X (e :: es) t)
    (hst : starEach (e :: es) X.env = (false, eval e X.env) :: starEach es X.env) (hpl : (backTo pos (starEach es X.env)).any (·.1) = false)
    (ht : eval (.Call (.Attribute o m apos) (e :: es) [] pos) X.env = (do
      let ov ← eval o X.env
      standAt apos.atName
      let (f, first) ← holding [ov] (getMethod ov m pl)
      callWith pos f first (backTo pos (starEach (e :: es) X.env)) (backToKw pos (keywordEach [] X.env)))) :
    PE X (.Call (.Attribute o m apos) (e :: es) [] pos) (tMeth C m sp vs0 E ta t) := by
  refine ⟨fun pins s σ H Q I h => ?_⟩
  refine PySem.W.methodCall_KW (pl := pl) (thn (he.run pins s σ H _ I h) fun u s1 ⟨x, H1, I1, rx, a, dx, fs, ex, ea, l, q⟩ => ?_) ht
  subst ex
  obtain rfl : u = Value.ref a := rx
  refine getmeth_ok I1 ea c hm l ?_
  refine PySem.W.callWith_K (first := [.ref a]) (h₀ := X.base) I.ok.mod.kin hm.kp (thn (ha.run pos pins s1 σ H1 _ I1 q) fun us s2 ⟨vs, H2, I2, r, q2⟩ => ⟨I2.kIn, ?_⟩) hst hpl
  exact callG (us := .ref a :: us) (vs := .ref a :: vs) F room quiet bd fill out I2 (.cons rfl r) q2
theorem pe_methG0 {pl : Sem Bool} (he : PE X o ta) (c : L2.Cls X.K C) (hm : Meth X.K C m f) (F : FnG X.prog X.w X.K X.mg X.base CX k f fd ps sp) (room : Room k X.A) (quiet : X.A.guards = some []) (bd : Binds X.K fd ps us0) (fill : Vals vs0 us0) (out : Passes CX X E)
    (ht : eval (.Call (.Attribute o m apos) [] [] pos) X.env = (do
      let ov ← eval o X.env
      standAt apos.atName
      let (f, first) ← holding [ov] (getMethod ov m pl)
      callWith pos f first (backTo pos (starEach [] X.env)) (backToKw pos (keywordEach [] X.env)))) :
    PE X (.Call (.Attribute o m apos) [] [] pos) (tMeth C m sp vs0 E ta tNil) := by
  refine ⟨fun pins s σ H Q I h => ?_⟩
  refine PySem.W.methodCall_KW (pl := pl) (thn (he.run pins s σ H _ I h) fun u s1 ⟨x, H1, I1, rx, a, dx, fs, ex, ea, l, q⟩ => ?_) ht
  subst ex
  obtain rfl : u = Value.ref a := rx
  refine getmeth_ok I1 ea c hm l ?_
  exact PySem.W.callWith_K0 (first := [.ref a]) I1.kIn hm.kp (callG (us := [.ref a]) (vs := [.ref a]) F room quiet bd fill out I1 (.cons rfl .nil) q)
theorem run_makeG {pins : List (Addr × Obj)} {σ : Sg} {H : Hp} {s : Shared} {Q : VK} {us : List Value} {vs : List V} (M : Mk X.K C f) (F : FnG X.prog X.w X.K X.mg X.base CX k f fd ps sp) (room : Room (k + 1) X.A) (quiet : X.A.guards = some []) (bd : Binds X.K fd ps us0) (fill : Vals vs0 us0)
    (out : Passes CX X E) (I : Inv X pins σ H s) (r : Vals vs us)
    (h : ∀ x dx, H x = none → H dx = none → dx ≠ x → sp (.ref x :: (vs ++ vs0)) (upd (upd H dx (.own x)) x (.ins C dx [])) (fun v H2 => v = .non ∧ Q (.ref x) H2) E) :
    wpAny (model X.prog X.w) X.A (call (.ref C) us) (EP X pins σ Q) X.xe s := by
  have hq := h (s.heap.objs.size + 1) s.heap.objs.size (I.hok.fresh (Nat.le_succ _)) (I.hok.fresh (Nat.le_refl _)) (Nat.ne_of_lt (Nat.lt_succ_self _))
  have I2 := Inv.made (C := C) I
  have r2 : Vals (V.ref (s.heap.objs.size + 1) :: (vs ++ vs0)) (Value.ref (s.heap.objs.size + 1) :: (us ++ us0)) := .cons rfl (r.append fill)
  have hl : (Value.ref (s.heap.objs.size + 1) :: us ++ us0).length = ps.length := by
    have e := r2.length
    rw [F.arity hq] at e
    exact e.symm
  refine wpAny_call (make_map (f := f) I.kIn M.makes M.init (beq_iff_eq.mp M.fn) (codeAny_mono (F.keeps (args := ⟨Value.ref (s.heap.objs.size + 1) :: us, []⟩) { room := room.make C us [], quiet := quiet, env := I2.env0.make C us [], meets := bd _ (Value.ref (s.heap.objs.size + 1) :: us) I2.kIn hl, vals := r2 } hq) fun r s' hq' => ?_))
  match r, hq' with
  | .error e, hq' => exact out pins σ _ _ e s' I2 hq'
  | .ok (.ret u), hq' =>
    obtain ⟨v, H', I3, rv, ev, q3⟩ := I2.after hq'
    subst ev
    exact ⟨rv, ⟨V.ref (s.heap.objs.size + 1), H', I3, rfl, q3⟩⟩
  | .ok .next, hq' => exact False.elim hq'
  | .ok .brk, hq' => exact False.elim hq'
  | .ok .cont, hq' => exact False.elim hq'
theorem pe_makeG (M : Mk X.K C f) (F : FnG X.prog X.w X.K X.mg X.base CX k f fd ps sp) (room : Room (k + 1) X.A) (quiet : X.A.guards = some []) (hg : Gl X x) (hm : X.mg x = some (.ref C)) (bd : Binds X.K fd ps us0) (fill : Vals vs0 us0) (out : Passes CX X E)
    (ha : PA X (e :: es) t) (hdb : (x == ("__debug__" : Str)) = false) (he : starEach (e :: es) X.env = (false, eval e X.env) :: starEach es X.env) (hpl : (backTo pos (starEach es X.env)).any (·.1) = false) :
    PE X (.Call (.Name x p) (e :: es) [] pos) (tMake C sp vs0 E t) := by
  refine ⟨fun pins s σ H Q I h => ?_⟩
  refine wpAny_Call_Name_kw (ld_glob I hg hm ?_ hdb)
  refine PySem.W.callWith_K (h₀ := X.base) I.ok.mod.kin M.kp (thn (ha.run pos pins s σ H _ I h) fun us s1 ⟨vs, H1, I1, r, q⟩ => ⟨I1.kIn, ?_⟩) he hpl
  exact run_makeG M F room quiet bd fill out I1 r q
theorem pe_makeG0 (M : Mk X.K C f) (F : FnG X.prog X.w X.K X.mg X.base CX k f fd ps sp) (room : Room (k + 1) X.A) (quiet : X.A.guards = some []) (hg : Gl X x) (hm : X.mg x = some (.ref C)) (bd : Binds X.K fd ps us0) (fill : Vals vs0 us0) (out : Passes CX X E)
    (hdb : (x == ("__debug__" : Str)) = false) : PE X (.Call (.Name x p) [] [] pos) (tMake C sp vs0 E tNil) := by
  refine ⟨fun pins s σ H Q I h => ?_⟩
  refine wpAny_Call_Name_kw (ld_glob I hg hm ?_ hdb)
  exact PySem.W.callWith_K0 I.kIn M.kp (run_makeG (us := []) M F room quiet bd fill out I .nil h)
end
section
variable {K : Frag} {B B1 H H1 : Hp} {R : List Addr} {σ : Sg} {Δ Δ1 : Dt}
theorem lk_none {f : Str} : ∀ {fv : List (Str × V)} {fs : List (Str × T)}, fv.map (·.1) = fs.map (·.1) → lkF f fs = none → fv.lookup f = none
  | [], [], _, _ => rfl
  | [], _ :: _, e, _ => by simp at e
  | _ :: _, [], e, _ => by simp at e
  | (g, x) :: fv, (g', u) :: fs, e, h => by
    simp only [List.map_cons, List.cons.injEq] at e
    obtain ⟨e1, e2⟩ := e
    subst e1
    by_cases hg : g = f
    · simp only [lkF, if_pos hg] at h; cases h
    · simp only [lkF, if_neg hg] at h
      rw [look_tl hg]
      exact lk_none e2 h
def callQ (S : FS) (ps : List PV) (Δ1 : Dt) (Q : PV → Dt → Prop) : Prop := onVs Δ1 ps fun ts => dupOk Δ1 ps = true ∧ S ts fun r ts' => match r with
  | .ret t => Q (.val t) (backs Δ1 ps ts')
  | .exc _ _ => False
theorem call_go {S : FS} {E : XK} {ps : List PV} {vs : List V} {Q : PV → Dt → Prop} {Qv : VK} (o : OutL K B1 H1 R σ Δ1 ps vs) (q : callQ S ps Δ1 Q)
    (k : ∀ p Δ' v H' B', Q p Δ' → Le B1 B' → Keep R H1 H' → Out K B' H' R σ Δ' p v → Qv v H') : spT K S vs H1 Qv E := by
  obtain ⟨G, pr, hr1⟩ := o
  have hd : dupOk Δ1 ps = true := by
    obtain ⟨ts, F, _, q2⟩ := pr.trees hr1 q
    exact q2.1
  obtain ⟨ts, G0, Δ0, rL, hr0, q2, back⟩ := args_out pr hr1 q hd
  obtain ⟨F0, hS0, hdj⟩ := hr0.fp
  refine ⟨ts, B1, F0 ++ R, _, ⟨hr0.sub, G0, RpS.of_L rL, hdj.of_le fun a => by simp only [List.count_append]; omega⟩, q2.2, fun t ts' v H' B' G2 qf hle hkp r hrep => ?_, fun C fs ts' od H' B' qf => qf.elim⟩
  obtain ⟨G', hS', hdj'⟩ := hrep.fp
  have rL' := RpS.to_L hS'
  have hrB : Rep K B' H' (G' ++ (G2 ++ R)) σ Δ0 := ⟨hrep.sub, F0, hS0.mono hle hkp.left, hdj'.of_le fun a => by simp only [List.count_append]; omega⟩
  exact k (.val t) _ v H' B' qf hle hkp.right ⟨G2, r, back B' H' ts' G' (G2 ++ R) rL' hrB⟩
end
/-- o.m(..), o an instance of the class y -/
def wMeth (y m : Str) (S : FS) (we : WE) (wa : WA) : WE := fun Δ Q => we Δ fun p Δ1 => onV Δ1 p fun s => match s with
  | .ins _ y' fs => y' = y ∧ lkF m fs = none ∧ wa Δ1 fun ps Δ2 => callQ S (p :: ps) Δ2 Q
  | _ => False
theorem rf_meth {K : Frag} {y m : Str} {S : FS} {te : TE} {we : WE} {ta : TA} {wa : WA} {E : XK} (h : RfE K te we) (ha : RfA K ta wa) : RfE K (tMeth (clsOf K y) m (spT K S) [] E te ta) (wMeth y m S we wa) := fun Δ Q σ H B R hr hw Qv k => by
  refine h Δ _ σ H B R hr hw _ fun p Δ1 x H1 B1 q hl hk ⟨G, pr, hr1⟩ => ?_
  obtain ⟨t, F, rx, o⟩ := pr.tree hr1 q
  have got : ∃ (a dx : Addr) (fv : List (Str × V)) (fs : List (Str × T)), x = .ref a ∧ H1 a = some (.ins (clsOf K y) dx fv) ∧ fv.map (·.1) = fs.map (·.1) ∧ lkF m fs = none ∧ (wa Δ1 fun ps Δ2 => callQ S (p :: ps) Δ2 Q) := by
    have hsub := hr1.sub
    clear pr hr1 k q
    match x, t, rx, o with
    | _, .ins true y' fs, .insO (a := a) (dx := dx) (fv := fv) h1 h2 h3 h4, ⟨ey, el, o2⟩ => subst ey; exact ⟨a, dx, fv, fs, rfl, h1, h3, el, o2⟩
    | _, .ins false y' fs, .insF (a := a) (dx := dx) (fv := fv) h1 h2 h3, ⟨ey, el, o2⟩ => subst ey; exact ⟨a, dx, fv, fs, rfl, hsub _ _ h1, h2, el, o2⟩
  obtain ⟨a, dx, fv, fs, ex, e1, e2, e3, q2⟩ := got
  refine ⟨a, dx, fv, ex, e1, lk_none e2 e3, ha Δ1 _ σ H1 B1 (G ++ R) hr1 q2 _ fun ps Δ2 vs H2 B2 q3 hl2 hk2 ⟨G2, pr2, hr2⟩ => ?_⟩
  rw [List.append_nil]
  exact call_go (R := R) (ps := p :: ps) ⟨G ++ G2, .cons (pr.mono hl2 hk2.left) pr2, hr2.weak fun b => by simp only [List.count_append]; omega⟩ q3 fun p' Δ' v H' B' q4 hl3 hk3 o3 => k p' Δ' v H' B' q4 ((hl.trans hl2).trans hl3) ((hk.trans hk2.right).trans hk3) o3
/-- the class y has the method m -/
structure MethAt (P : Program) (w : World) (K : Frag) (mg : Str → Option Value) (base : Heap) (k : Nat) (y m : Str) (S : FS) : Prop where
  cls : L2.Cls K (clsOf K y)
  ex : ∃ (f : Addr) (fd : FuncData) (ps : List Str), Meth K (clsOf K y) m f ∧ Binds K fd ps [] ∧ FnG P w K mg base CX0 k f fd ps (spT K S)
theorem ce_meth {X : Cx} {j k : Nat} {y m : Str} {S : FS} {o e : Expr} {es : List Expr} {we : WE} {wa : WA} {apos pos : Pos} {pl : Sem Bool} (c : MethAt X.prog X.w X.K X.mg X.base j y m S) (hr : Room k X.A) (hj : j ≤ k) (hgd : X.A.guards = some []) (ho : CE X o we) (ha : CA X (e :: es) wa)
    (hst : starEach (e :: es) X.env = (false, eval e X.env) :: starEach es X.env := by rfl) (hpl : (backTo pos (starEach es X.env)).any (·.1) = false := by rfl)
    (ht : eval (.Call (.Attribute o m apos) (e :: es) [] pos) X.env = (do
      let ov ← eval o X.env
      standAt apos.atName
      let (f, first) ← holding [ov] (getMethod ov m pl)
      callWith pos f first (backTo pos (starEach (e :: es) X.env)) (backToKw pos (keywordEach [] X.env))) := by rfl) : CE X (.Call (.Attribute o m apos) (e :: es) [] pos) (wMeth y m S we wa) := by
  obtain ⟨te, p1, r1⟩ := ho
  obtain ⟨ta, p2, r2⟩ := ha
  obtain ⟨f, fd, ps, hm, hb, F⟩ := c.ex
  exact ⟨_, pe_methG (E := fun _ _ _ => False) p1 c.cls hm F (hr.mono hj) hgd hb .nil (fun _ _ _ _ _ _ _ h => h.elim) p2 hst hpl ht, rf_meth r1 r2⟩
theorem ce_meth0 {X : Cx} {j k : Nat} {y m : Str} {S : FS} {o : Expr} {we : WE} {apos pos : Pos} {pl : Sem Bool} (c : MethAt X.prog X.w X.K X.mg X.base j y m S) (hr : Room k X.A) (hj : j ≤ k) (hgd : X.A.guards = some []) (ho : CE X o we)
    (ht : eval (.Call (.Attribute o m apos) [] [] pos) X.env = (do
      let ov ← eval o X.env
      standAt apos.atName
      let (f, first) ← holding [ov] (getMethod ov m pl)
      callWith pos f first (backTo pos (starEach [] X.env)) (backToKw pos (keywordEach [] X.env))) := by rfl) : CE X (.Call (.Attribute o m apos) [] [] pos) (wMeth y m S we wNil) := by
  obtain ⟨te, p1, r1⟩ := ho
  obtain ⟨f, fd, ps, hm, hb, F⟩ := c.ex
  exact ⟨_, pe_methG0 (E := fun _ _ _ => False) p1 c.cls hm F (hr.mono hj) hgd hb .nil (fun _ _ _ _ _ _ _ h => h.elim) ht, rf_meth r1 rf_nil⟩
/-- y(..): a new instance -/
def wMake (y : Str) (S : FS) (wa : WA) : WE := fun Δ Q => wa Δ fun ps Δ1 => onVs Δ1 ps fun ts => dupOk Δ1 ps = true ∧ S (.ins true y [] :: ts) fun r ts' => match r, ts' with
  | .ret .non, s :: us => Q (.val s) (backs Δ1 ps us)
  | _, _ => False
theorem rf_make {K : Frag} {y : Str} {S : FS} {ta : TA} {wa : WA} {E : XK} (ha : RfA K ta wa) : RfE K (tMake (clsOf K y) (spT K S) [] E ta) (wMake y S wa) := fun Δ Q σ H B R hr hw Qv k => by
  refine ha Δ _ σ H B R hr hw _ fun ps Δ1 vs H1 B1 q hl hk ⟨G, pr, hr1⟩ => ?_
  intro x dx hx hdx hne
  rw [List.append_nil]
  have hd : dupOk Δ1 ps = true := by
    obtain ⟨ts, F, _, q2⟩ := pr.trees hr1 q
    exact q2.1
  obtain ⟨ts, G0, Δ0, rL, hr0, q2, back⟩ := args_out pr hr1 q hd
  have ext : Ext H1 (upd (upd H1 dx (.own x)) x (.ins (clsOf K y) dx [])) [x, dx] := by
    refine ⟨fun a u e => by rw [upd_ne (ne_of_none e hx), upd_ne (ne_of_none e hdx)]; exact e, fun a => ⟨?_, fun z => ?_⟩⟩
    · simp only [List.count_cons, List.count_nil]
      by_cases h1 : x = a
      · subst h1; simp [hne]
      · simp [h1]; split <;> omega
    · simp only [List.mem_cons, List.not_mem_nil, or_false] at z
      rcases z with z | z
      · subst z; exact ⟨hx, by rw [upd_same]; simp⟩
      · subst z; exact ⟨hdx, by rw [upd_ne hne, upd_same]; simp⟩
  have hr2 := hr0.ext ext
  have hkx := hr0.keepExt ext.1
  obtain ⟨F0, hS0, hdj⟩ := hr2.fp
  have rx : Rp K B1 (upd (upd H1 dx (.own x)) x (.ins (clsOf K y) dx [])) (.ref x) (.ins true y []) (x :: dx :: []) := .insO upd_same (by rw [upd_ne hne, upd_same]) rfl .nil
  have rL2 := RpL.cons rx (rL.mono (Le.refl B1) fun b hb => hkx b (List.mem_append_left _ hb))
  refine ⟨.ins true y [] :: ts, B1, F0 ++ R, _, ⟨hr2.sub, _, RpS.of_L rL2, hdj.of_le fun a => by simp only [List.count_append, List.count_cons, List.count_nil, List.cons_append, List.nil_append]; omega⟩, q2.2, fun t ts' v H' B' G2 qf hle hkp r hrep => ?_, fun C fs ts' od H' B' qf => qf.elim⟩
  match t, ts', qf with
  | .non, s :: us, qf =>
    obtain ⟨G', hS', hdj'⟩ := hrep.fp
    have rL' := RpS.to_L hS'
    cases rL' with
    | @cons _ _ _ _ Fs Gs r1 r2 =>
      have hrB : Rep K B' H' (Gs ++ (Fs ++ R)) σ Δ0 := ⟨hrep.sub, F0, hS0.mono hle hkp.left, hdj'.of_le fun a => by simp only [List.count_append]; omega⟩
      exact ⟨r.non_inv.1, k (.val s) _ (.ref x) H' B' qf (hl.trans hle) (hk.trans (Keep.trans (H1 := upd (upd H1 dx (.own x)) x (.ins (clsOf K y) dx [])) (fun b hb => hkx b (List.mem_append_right _ hb)) hkp.right)) ⟨Fs, r1, back B' H' us Gs (Fs ++ R) r2 hrB⟩⟩
/-- the class y is made so -/
structure MakeAt (P : Program) (w : World) (K : Frag) (mg : Str → Option Value) (base : Heap) (k : Nat) (y : Str) (S : FS) : Prop where
  nm : mg y = some (.ref (clsOf K y))
  ex : ∃ (f : Addr) (fd : FuncData) (ps : List Str), Mk K (clsOf K y) f ∧ Binds K fd ps [] ∧ FnG P w K mg base CX0 k f fd ps (spT K S)
theorem ce_make {X : Cx} {j k : Nat} {y : Str} {S : FS} {e : Expr} {es : List Expr} {wa : WA} {p pos : Pos} (c : MakeAt X.prog X.w X.K X.mg X.base j y S) (hr : Room k X.A) (hj : j + 1 ≤ k) (hgd : X.A.guards = some []) (hg : Gl X y) (ha : CA X (e :: es) wa) (hdb : (y == ("__debug__" : Str)) = false := by decide)
    (he : starEach (e :: es) X.env = (false, eval e X.env) :: starEach es X.env := by rfl) (hpl : (backTo pos (starEach es X.env)).any (·.1) = false := by rfl) : CE X (.Call (.Name y p) (e :: es) [] pos) (wMake y S wa) := by
  obtain ⟨ta, p2, r2⟩ := ha
  obtain ⟨f, fd, ps, hm, hb, F⟩ := c.ex
  exact ⟨_, pe_makeG (E := fun _ _ _ => False) hm F (hr.mono hj) hgd hg c.nm hb .nil (fun _ _ _ _ _ _ _ h => h.elim) p2 hdb he hpl, rf_make r2⟩
theorem ce_make0 {X : Cx} {j k : Nat} {y : Str} {S : FS} {p pos : Pos} (c : MakeAt X.prog X.w X.K X.mg X.base j y S) (hr : Room k X.A) (hj : j + 1 ≤ k) (hgd : X.A.guards = some []) (hg : Gl X y) (hdb : (y == ("__debug__" : Str)) = false := by decide) : CE X (.Call (.Name y p) [] [] pos) (wMake y S wNil) := by
  obtain ⟨f, fd, ps, hm, hb, F⟩ := c.ex
  exact ⟨_, pe_makeG0 (E := fun _ _ _ => False) hm F (hr.mono hj) hgd hg c.nm hb .nil (fun _ _ _ _ _ _ _ h => h.elim) hdb, rf_make rf_nil⟩
end TL
set_option maxRecDepth 100000
set_option maxHeartbeats 1000000
namespace TL
open PySem PySem.Spec PyProof.Rows L2
def wAug (i : Nat) (we : WE) : WS := fun D Δ => look Δ i fun x => we Δ fun p Δ1 => onV Δ1 p fun y => match x, y with
  | .int n, .int m => D.nx (Δ1.set i (some (.int (n + m))))
  | .str a, .str b => a.length + b.length ≤ sizeLine ∧ D.nx (Δ1.set i (some (.str (a ++ b))))
  | _, _ => False
def ipA : TIp := fun x y H Q => ipI (fun i j => i + j) x y H Q ∨ L2.rAddS x y H Q
theorem ip_addA {X : Cx} : PIp X .Add ipA := fun pins s σ H x y v u Q I r1 r2 h => h.elim (ip_add pins s σ H x y v u Q I r1 r2) (in_addS pins s σ H x y v u Q I r1 r2)
theorem rf_aug {K : Frag} {W : WX} {np i : Nat} {te : TE} {we : WE} (hp : np ≤ i) (h : RfE K te we) : RfS K np W (tAug i te ipA) (wAug i we) := fun D Δ σ H B R hr hw E k1 k2 k3 k4 k5 => by
  obtain ⟨x, ex, hw⟩ := look_iff hw
  obtain ⟨v, G, e1, rx⟩ := hr.get ex
  refine ⟨v, e1, h Δ _ σ H B R hr hw _ fun p Δ1 z H1 B1 q hl hk ⟨G1, pr, hr1⟩ => ?_⟩
  obtain ⟨ty, Fy, ry, q2⟩ := pr.tree hr1 q
  have hr2 : Rep K B1 H1 R σ Δ1 := hr1.drop
  have fin : Fin K B H R np σ B1 H1 σ := Fin.of hl hk
  match x, ty, rx, ry, q2 with
  | .int n, .int m, rx, ry, q2 =>
    refine .inl ⟨n, m, rx.int_inv.1, ry.int_inv.1, k1 _ _ _ B1 q2 ⟨hl, hk, fun j hj => List.getElem?_set_ne (by omega)⟩ (Rep.set (i := i) (x := some (.int (n + m))) (d := some (.int (n + m))) (G := []) hr2 (.int _))⟩
  | .str a, .str b, rx, ry, q2 =>
    refine .inr ⟨a, b, rx.str_inv.1, ry.str_inv.1, q2.1, k1 _ _ _ B1 q2.2 ⟨hl, hk, fun j hj => List.getElem?_set_ne (by omega)⟩ (Rep.set (i := i) (x := some (.str (a ++ b))) (d := some (.str (a ++ b))) (G := []) hr2 (.str _))⟩
theorem cs_aug {X : Cx} {np i : Nat} {x : Str} {e : Expr} {we : WE} {pos' pos : Pos} (hN : X.N.Nodup) (hi : X.N[i]? = some x) (hx : Loc X.env.scope x) (hp : np ≤ i) (he : CE X e we) (hf : X.fn x = true ∨ X.env.scope.names.lookup x = some .local := by first | exact .inl rfl | exact .inr rfl | assumption) :
    CS X np (.AugAssign (.Name x pos') .Add e pos) (wAug i we) := by
  refine ⟨fun W tk => ?_⟩
  obtain ⟨te, p1, r1⟩ := he
  exact ⟨_, ps_aug hN hi hx p1 ip_addA hf, rf_aug hp r1⟩
def gSumL : List T → (T → Prop) → Prop
  | [.lst _ xs], Q => match intsT xs with
    | some ns => Q (.int ns.sum)
    | none => False
  | _, _ => False
theorem l_sumL {K : Frag} : LCl K (rSum K) gSumL := fun B H xs ts F hs r Q hw Qv k => by
  match ts, r, hw with
  | [.lst o ys], .cons r1 .nil, hw =>
    obtain ⟨a, vs, F', rfl, h1, r2⟩ := r1.lst_inv hs
    simp only [gSumL] at hw
    cases e : intsT ys with
    | none => rw [e] at hw; exact hw.elim
    | some ns =>
      rw [e] at hw
      obtain ⟨e1, e2⟩ := intsT_of r2 e
      exact ⟨a, ns, rfl, by rw [← e1]; exact h1, k _ _ H B [] hw (Gro.refl hs) (.int _)⟩
def gSortS : List T → (T → Prop) → Prop
  | [.lst _ xs], Q => match strsT xs with
    | some zs => zs.length < 64 ∧ ∀ ys : List Str, ys.Perm zs → sortedS ys = true → Q (.lst true (ys.map .str))
    | none => False
  | _, _ => False
theorem l_sortS {K : Frag} : LCl K (rSortedS K) gSortS := fun B H xs ts F hs r Q hw Qv k => by
  match ts, r, hw with
  | [.lst o ys], .cons r1 .nil, hw =>
    obtain ⟨a, vs, F', rfl, h1, r2⟩ := r1.lst_inv hs
    simp only [gSortS] at hw
    cases e : strsT ys with
    | none => rw [e] at hw; exact hw.elim
    | some zs =>
      rw [e] at hw
      obtain ⟨e1, e2⟩ := strsT_of r2 e
      exact ⟨a, zs, rfl, by rw [← e1]; exact h1, hw.1, fun ws p hp hsrt => new_lst hs (strs_rp ws) (hw.2 ws hp hsrt) k p⟩
def wDc (wi : WI) (wg : WG) (wt : WT) (wk we : WE) (vs : List Nat) : WE := fun Δ Q => wi Δ fun ts Δ1 => ∃ Pv : Nat → List (Key × T) → Dt → Prop, Pv 0 [] (wipeD Δ1 vs) ∧
  (∀ i t acc Δ2, ts[i]? = some t → Pv i acc Δ2 → wg t Δ2 fun Δ3 => wt Δ3 fun b Δ4 => if b = true then wk Δ4 fun p Δ5 => onV Δ5 p fun kt => match keyOf kt with
      | some kk => we Δ5 fun q Δ6 => wTake q Δ6 fun y Δ7 => acc.length < sizeLine ∧ Pv (i + 1) (putT acc kk (frz y)) (wipeD Δ7 vs)
      | none => False
    else Pv (i + 1) acc (wipeD Δ4 vs)) ∧
  ∀ acc Δ2, Pv ts.length acc Δ2 → Q (.val (.dct true acc)) (wipeD Δ2 vs)
theorem rf_dc {K : Frag} {ti : TI} {wi : WI} {g : TG} {wg : WG} {tt : TT} {wt : WT} {tk te : TE} {wk we : WE} {vs : List Nat} (hi : RfI K ti wi) (hg : RfG K (Own vs) g wg) (ht : RfT K tt wt) (hkk : RfE K tk wk) (he : RfE K te we) : RfE K (tDc ti g tt tk te vs) (wDc wi wg wt wk we vs) := fun Δ Q σ H B R hr hw Qv k => by
  refine hi Δ _ σ H B R hr hw _ fun J ts Δ1 H1 B1 q hl hk hr1 hJ => ?_
  obtain ⟨Pv, h0, hs, hd⟩ := q
  intro D hD
  have hx := Ext.new (o := .dK []) hD
  have hr2 : Rep K B1 (upd H1 D (.dK [])) ([D] ++ R) (L2.wipe σ vs) (wipeD Δ1 vs) := (hr1.ext hx).wipe vs
  have hk2 : Keep R H1 (upd H1 D (.dK [])) := hr1.keepExt hx.1
  refine ⟨fun i m H' => m = ts.length - i ∧ i ≤ ts.length ∧ ∃ acc va Δ' B', Pv i acc Δ' ∧ H' D = some (.dK va) ∧ Paired (fun (p : Key × V) (q : Key × T) => p.1 = q.1 ∧ Rp K B' H' p.2 q.2 []) va acc ∧ Le B1 B' ∧ Keep R H1 H' ∧ Rep K B' H' (D :: R) (L2.wipe σ vs) Δ',
    ⟨_, rfl, Nat.zero_le _, [], [], _, B1, h0, upd_same, .nil, Le.refl _, hk2, hr2⟩, fun i m H2 hW => ?_⟩
  obtain ⟨rfl, hle, acc, va, Δ2, B2, hp, hD2, hL, hl2, hk2, hr2⟩ := hW
  obtain ⟨hgo, hst⟩ := hJ i B2 H2 hl2 hr2.sub
  have kvm : ∀ {Ba Bb Ha Hb : Hp} {kv : List (Key × V)} {kvs : List (Key × T)}, Le Ba Bb → Paired (fun (p : Key × V) (q : Key × T) => p.1 = q.1 ∧ Rp K Ba Ha p.2 q.2 []) kv kvs → Paired (fun (p : Key × V) (q : Key × T) => p.1 = q.1 ∧ Rp K Bb Hb p.2 q.2 []) kv kvs := fun {Ba Bb Ha Hb kv kvs} hB h => by
    induction h with
    | nil => exact .nil
    | cons h1 _ ih => exact .cons ⟨h1.1, h1.2.mono hB fun _ z => nomatch z⟩ ih
  by_cases hi : i < ts.length
  · right
    obtain ⟨go, yl⟩ := hgo ts[i] (by simp [hi])
    refine ⟨go, fun H' => ∃ acc va Δ' B', Pv (i + 1) acc Δ' ∧ H' D = some (.dK va) ∧ Paired (fun (p : Key × V) (q : Key × T) => p.1 = q.1 ∧ Rp K B' H' p.2 q.2 []) va acc ∧ Le B1 B' ∧ Keep R H1 H' ∧ Rep K B' H' (D :: R) (L2.wipe σ vs) Δ',
      fun H' ⟨acc, va, Δ', B', z⟩ => ⟨ts.length - (i + 1), by omega, rfl, by omega, acc, va, Δ', B', z⟩, fun x H3 hy => ?_⟩
    obtain ⟨hsame, B3, hl3, hs3, r3, hn3⟩ := yl x H3 hy
    have hr3 : Rep K B3 H3 (D :: R) (L2.wipe σ vs) Δ2 := hr2.grow hsame hl3 hs3 hn3
    have hk3 : Keep (D :: R) H2 H3 := hr2.keepExt hsame
    refine hg ts[i] Δ2 _ (L2.wipe σ vs) H3 B3 (D :: R) [] x hr3 r3 (hs i ts[i] acc Δ2 (by simp [hi]) hp) _ fun Δ3 σ3 H4 B4 q3 hl4 hk4 hσ hr4 hlen => ?_
    have hwp : L2.wipe σ3 vs = L2.wipe σ vs := by
      rw [wipe_ext (σ := L2.wipe σ vs) hlen hσ]
      exact wipe_ext (L2.wipe_length _ _) fun j hj => wipe_out hj
    refine ⟨hwp, ht Δ3 _ σ3 H4 B4 (D :: R) hr4 q3 _ fun b Δ4 H5 B5 q4 hl5 hk5 hr5 => ?_⟩
    have hk25 : Keep (D :: R) H2 H5 := (hk3.trans hk4).trans hk5
    have hl25 : Le B2 B5 := (hl3.trans hl4).trans hl5
    have kr : ∀ {H6 : Hp}, Keep (D :: R) H2 H6 → Keep R H1 H6 := fun z => hk2.trans fun a ha => z a (List.mem_cons_of_mem _ ha)
    cases b with
    | false =>
      show ∃ acc va Δ' B', _
      refine ⟨acc, va, _, B5, q4, by rw [hk25 D List.mem_cons_self]; exact hD2, kvm hl25 hL, hl2.trans hl25, kr hk25, ?_⟩
      rw [← hwp]; exact hr5.wipe vs
    | true =>
      show tk σ3 H5 _
      refine hkk Δ4 _ σ3 H5 B5 (D :: R) hr5 q4 _ fun p Δ5 y H6 B6 q5 hl6 hk6 ⟨G6, pr6, hr6⟩ => ?_
      obtain ⟨tkey, Fk, rk, q5⟩ := pr6.tree hr6 q5
      have hr6' : Rep K B6 H6 (D :: R) σ3 Δ5 := hr6.drop
      cases ek : keyOf tkey with
      | none => rw [ek] at q5; exact q5.elim
      | some kk =>
        rw [ek] at q5
        refine he Δ5 _ σ3 H6 B6 (D :: R) hr6' q5 _ fun p2 Δ6 z H7 B7 q6 hl7 hk7 o => ?_
        obtain ⟨t, Δ7, B8, ⟨hsz, hp'⟩, hl8, r7, hr7⟩ := take_fr o q6
        have hk27 : Keep (D :: R) H2 H7 := (hk25.trans hk6).trans hk7
        have hl28 : Le B2 B8 := ((hl25.trans hl6).trans hl7).trans hl8
        have hD7 : H7 D = some (.dK va) := by rw [hk27 D List.mem_cons_self]; exact hD2
        obtain ⟨hr8, hk8⟩ := hr7.updR (o := .dK (putK va kk z))
        have hr8' := hr8.wipe vs
        rw [hwp] at hr8'
        have e1 : Paired (fun (p : Key × V) (q : Key × T) => p.1 = q.1 ∧ Rp K B8 (upd H7 D (.dK (putK va kk z))) p.2 q.2 []) va acc := kvm hl28 hL
        have e2 := kv_put (kk := kk) (r7.mono (H' := upd H7 D (.dK (putK va kk z))) (Le.refl _) fun _ z => nomatch z) e1
        have hlen2 : va.length = acc.length := Paired.length hL
        exact ⟨va, kk, keyOf_V rk ek, hD7, by rw [hlen2]; exact hsz, putT acc kk (frz t), putK va kk z, _, B8, hp', upd_same, e2, hl2.trans hl28, (kr hk27).trans hk8, hr8'⟩
  · left
    have e : i = ts.length := by omega
    subst e
    obtain ⟨c1, c2⟩ := kv_to hL
    refine ⟨hst (Nat.le_refl _), k _ _ _ H2 B2 (hd acc Δ2 hp) (hl.trans hl2) (hk.trans hk2) ⟨[D], .dctO hD2 c1 c2, ?_⟩⟩
    have h3 := hr2.wipe vs
    have e4 : L2.wipe (L2.wipe σ vs) vs = L2.wipe σ vs := wipe_ext (L2.wipe_length _ _) fun j hj => wipe_out hj
    rw [e4] at h3
    exact h3.unwipe
theorem ce_dc {X : Cx} {kx vx tg iter : Expr} {ifs : List Expr} {scope : Scope} {own : List (Str × Nat)} {pos : Pos} {wi : WI} {wg : WG} {wt : WT} {wk we : WE} (hc : X.calm = true) (hN : X.N.Nodup) (hi : CI X tg iter wi) (ok : BlkOk X.N X.env.scope scope own)
    (hg : ∀ (s : Shared) (H : Hp) (C : Addr) (cl : List (Str × Addr)) (fp : List Addr), CG (X.blk s H scope (compEnvC scope cl C X.env) fp) (Own (own.map (·.2))) tg wg)
    (ht : ∀ (s : Shared) (H : Hp) (C : Addr) (cl : List (Str × Addr)) (fp : List Addr), CTs (X.blk s H scope (compEnvC scope cl C X.env) fp) ifs wt)
    (hk : ∀ (s : Shared) (H : Hp) (C : Addr) (cl : List (Str × Addr)) (fp : List Addr), CE (X.blk s H scope (compEnvC scope cl C X.env) fp) kx wk)
    (he : ∀ (s : Shared) (H : Hp) (C : Addr) (cl : List (Str × Addr)) (fp : List Addr), CE (X.blk s H scope (compEnvC scope cl C X.env) fp) vx we)
    (hs : ∀ x, foldedSetIterable iter X.env x = pure x := by intro _; rfl) : CE X (.DictComp kx vx [⟨tg, iter, ifs, 0⟩] scope pos) (wDc wi wg wt wk we (own.map (·.2))) :=
  ⟨_, pe_dc hc hN hi.pi ok (fun s H C cl fp => (hg s H C cl fp).pg) (fun s H C cl fp => (ht s H C cl fp).pts) (fun s H C cl fp => (hk s H C cl fp).pe) (fun s H C cl fp => (he s H C cl fp).pe) hs, rf_dc rf_TI rf_TG rf_TT rf_TE rf_TE⟩
def wAppO (i : Nat) (we : WE) : WE := fun Δ Q => look Δ i fun t0 => match t0 with
  | .lst _ _ => we Δ fun p Δ1 => wTake p Δ1 fun y Δ2 => look Δ2 i fun t => match t with
    | .lst true xs => xs.length < sizeLine ∧ Q (.val .non) (Δ2.set i (some (.lst true (xs ++ [y]))))
    | _ => False
  | _ => False
theorem rf_appO {K : Frag} {i : Nat} {te : TE} {we : WE} (h : RfE K te we) : RfE K (tBM K "list" rAppend (tVar i) (tCons te tNil)) (wAppO i we) := fun Δ Q σ H B R hr hw Qv k => by
  obtain ⟨t0, e0, hw⟩ := look_iff hw
  obtain ⟨v, G, e1, r0⟩ := hr.get e0
  refine ⟨v, e1, ?_⟩
  match t0, r0, hw with
  | .lst o xs0, r0, hw =>
    obtain ⟨a, vs0, F0, rfl, hL0, _⟩ := r0.lst_inv hr.sub
    refine ⟨.inl ⟨rfl, vs0, hL0⟩, ?_⟩
    refine h Δ _ σ H B R hr hw _ fun p Δ1 y H1 B1 hq hl1 hk1 o1 => ?_
    obtain ⟨t, Δ2, B2, G2, q, hl2, ry, hr2⟩ := take_ok o1 hq
    obtain ⟨tl, el, q⟩ := look_iff q
    match tl, el, q with
    | .lst true xs, el, ⟨hz, q⟩ =>
      obtain ⟨v2, G3, e2, r3, hr3⟩ := hr2.out el
      rw [e1] at e2; cases e2
      cases r3 with
      | @lstO _ vs _ F h3 h4 =>
        have h5 : Rep K B2 H1 (a :: (F ++ (G2 ++ R))) σ (Δ2.set i none) := hr3
        obtain ⟨h6, h7⟩ := h5.updR (o := .lst (vs ++ [y]))
        have r4 : Rp K B2 (upd H1 a (.lst (vs ++ [y]))) (.ref a) (.lst true (xs ++ [t])) (a :: (F ++ G2)) := .lstO upd_same (RpL.append (h4.mono (Le.refl _) fun b hb => h7 b (by simp [hb])) (by
          have := RpL.cons (ry.mono (H' := upd H1 a (.lst (vs ++ [y]))) (Le.refl B2) fun b hb => h7 b (by simp [hb])) (RpL.nil (K := K) (B := B2) (H := upd H1 a (.lst (vs ++ [y]))))
          rwa [List.append_nil] at this))
        have h8 := Rep.set (i := i) (x := some (.ref a)) (d := some (.lst true (xs ++ [t]))) (G := a :: (F ++ G2)) (R := R) (h6.weak fun b => by simp only [List.count_append, List.count_cons, List.cons_append]; omega) r4
        rw [set_same e1, List.set_set] at h8
        exact ⟨a, vs, y, rfl, rfl, h3, by rw [h4.length]; exact hz, k (.val .non) _ .non _ B2 q (hl1.trans hl2) (hk1.trans fun b hb => h7 b (by simp [hb])) ⟨[], .non, h8⟩⟩
theorem ce_appO {X : Cx} {i : Nat} {e : Expr} {we : WE} {x : Str} {p apos cpos : Pos} (he : CE X e we) (hN : X.N[i]? = some x := by rfl) (hv : Vis X.env.scope x := by first | exact Or.inl rfl | exact Or.inr (Or.inl rfl) | exact Or.inr (Or.inr rfl)) (hd : (x == ("__debug__" : Str)) = false := by decide)
    (hcd : (x == ("__classdict__" : Str)) = false := by decide) (hbase : attributeBase (.Name x p) "append" X.env (eval (.Name x p) X.env) = eval (.Name x p) X.env := by rfl)
    (hfew : ((backTo cpos (starEach [e] X.env)).all (fun x => !x.1) && (backToKw cpos (keywordEach [] X.env)).all (fun x => x.1.isSome) && decide ([e].length + ([] : List Keyword).length + (if ([] : List Keyword).isEmpty then 0 else 1) < 30)) = true := by rfl)
    (hline : (apos.endLine == cpos.line) = true := by rfl) (hs : starEach [e] X.env = (false, eval e X.env) :: starEach [] X.env := by rfl) (hplain : (backTo cpos (starEach [] X.env)).any (·.1) = false := by rfl) : CE X (.Call (.Attribute (.Name x p) "append" apos) [e] [] cpos) (wAppO i we) := by
  obtain ⟨te, p1, r1⟩ := he
  exact ⟨_, pe_bm PySem.F.plainAttrs_list PySem.F.slot_list_append PySem.F.type_list_append mt_append (pe_var hN hv hd hcd) (pa_cons p1 pa_nil hs) hbase hfew hline hs hplain, rf_appO r1⟩
def wAppN (i : Nat) (we : WE) : WE := fun Δ Q => look Δ i fun s => match s with
  | .lst true gs => match gs.getLast? with
    | some (.tup [b, .lst true xs]) => closed b = true ∧ closedL xs = true ∧ xs.length < sizeLine ∧ we (Δ.set i none) fun p Δ1 => wTake p Δ1 fun t Δ2 => Q (.val .non) (Δ2.set i (some (.lst true (gs.dropLast ++ [.tup [b, .lst true (xs ++ [frz t])]]))))
    | _ => False
  | _ => False
theorem RpL.snoc_inv {K : Frag} {B H : Hp} : ∀ {vs : List V} {ts : List T} {t : T} {F : List Addr}, RpL K B H vs (ts ++ [t]) F → ∃ ws v F1 F2, vs = ws ++ [v] ∧ F = F1 ++ F2 ∧ RpL K B H ws ts F1 ∧ Rp K B H v t F2
  | _, [], t, _, .cons (v := v) (F := F) h1 .nil => ⟨[], v, [], F, rfl, by simp, .nil, h1⟩
  | _, u :: ts, t, _, .cons (v := v) (F := F) h1 h2 => by
    obtain ⟨ws, v', F1, F2, e1, e2, r1, r2⟩ := RpL.snoc_inv (ts := ts) h2
    subst e1; subst e2
    exact ⟨v :: ws, v', F ++ F1, F2, rfl, by simp, .cons h1 r1, r2⟩
theorem rf_appN {K : Frag} {i : Nat} {te : TE} {we : WE} (h : RfE K te we) : RfE K (tBM K "list" rAppend (tOp (rIx K) (tOp (rIx K) (tVar i) (tUn (rU fun i => .int (-i)) (tC (.int 1)))) (tC (.int 1))) (tCons te tNil)) (wAppN i we) := fun Δ Q σ H B R hr hw Qv k => by
  obtain ⟨s, es, hw⟩ := look_iff hw
  match s, es, hw with
  | .lst true gs, es, hw =>
    dsimp only at hw
    cases eg : gs.getLast? with
    | none => rw [eg] at hw; exact hw.elim
    | some g =>
      rw [eg] at hw
      match g, eg, hw with
      | .tup [b, .lst true xs], eg, ⟨c2, c3, hz, hw⟩ =>
        obtain ⟨v0, G, e1, r0, hr0⟩ := hr.out es
        cases r0 with
        | @lstO g vs _ F h1 h2 =>
          have egs : gs = gs.dropLast ++ [.tup [b, .lst true xs]] := by
            obtain ⟨ys, rfl⟩ := List.getLast?_eq_some_iff.mp eg
            simp
          rw [egs] at h2
          obtain ⟨ws, v, F1, F2, ev, ef, q1, q2⟩ := h2.snoc_inv
          subst ef; subst ev
          cases q2 with
          | @tup tp us _ _ sq q3 =>
            cases q3 with
            | @cons vb _ _ _ Fb _ p1 p2 =>
              have z2 := p1.nil_of_closed c2
              subst z2
              cases p2 with
              | @cons vl _ _ _ Fl _ p3 p4 =>
                cases p4
                cases p3 with
                | @lstO l ls _ Fx h3 h4 =>
                  have z3 := h4.nil_of_closed c3
                  subst z3
                  refine ⟨.ref g, e1, _, rfl, .inl ⟨g, _, _, _, rfl, rfl, .inl (.inl h1), atI_last ws _, .inr (.inl ⟨tp, _, _, _, rfl, rfl, hr.sub.le.sqT sq, rfl, ?_⟩)⟩⟩
                  refine ⟨.inl ⟨rfl, ls, .inl (.inl h3)⟩, ?_⟩
                  refine h _ _ σ H B ((g :: (F1 ++ [l])) ++ R) (hr0.weak fun a => by simp) hw _ fun p Δ1 y H1 B1 hq hl1 hk1 o1 => ?_
                  obtain ⟨t, Δ2, B2, q, hl2, ry, hr2⟩ := take_fr o1 hq
                  have hl : Le B B2 := hl1.trans hl2
                  have kg := hk1 g (by simp)
                  have kl := hk1 l (by simp)
                  have hr3 : Rep K B2 H1 (l :: (g :: (F1 ++ R))) σ Δ2 := hr2.weak fun a => by simp only [List.append_assoc, List.cons_append, List.nil_append, List.count_cons, List.count_append]; omega
                  obtain ⟨h6, h7⟩ := hr3.updR (o := .lst (ls ++ [y]))
                  have rl : Rp K B2 (upd H1 l (.lst (ls ++ [y]))) (.ref l) (.lst true (xs ++ [frz t])) (l :: ([] ++ [])) := .lstO upd_same (RpL.append (F := []) (G := []) (h4.mono hl fun _ z => nomatch z) (RpL.cons (F := []) (G := []) (ry.mono (Le.refl _) fun _ z => nomatch z) .nil))
                  have rt : Rp K B2 (upd H1 l (.lst (ls ++ [y]))) (.ref tp) (.tup [b, .lst true (xs ++ [frz t])]) ([] ++ ((l :: ([] ++ [])) ++ [])) := .tup (hl.sqT sq) (.cons (p1.mono hl fun _ z => nomatch z) (.cons rl .nil))
                  have rg : Rp K B2 (upd H1 l (.lst (ls ++ [y]))) (.ref g) (.lst true (gs.dropLast ++ [.tup [b, .lst true (xs ++ [frz t])]])) (g :: (F1 ++ (([] ++ ((l :: ([] ++ [])) ++ [])) ++ []))) := .lstO ((h7 g (by simp)).trans (kg.trans h1)) (RpL.append (q1.mono hl fun b hb => (h7 b (by simp [hb])).trans (hk1 b (by simp [hb]))) (.cons rt .nil))
                  have rg2 : RpO K B2 (upd H1 l (.lst (ls ++ [y]))) (some (.ref g)) (some (.lst true (gs.dropLast ++ [.tup [b, .lst true (xs ++ [frz t])]]))) (g :: (F1 ++ [l])) := by
                    have e : g :: (F1 ++ (([] ++ ((l :: ([] ++ [])) ++ [])) ++ [])) = g :: (F1 ++ [l]) := by simp
                    rw [← e]; exact rg
                  have h8 := Rep.set (i := i) (G := g :: (F1 ++ [l])) (R := R) (h6.weak fun b => by simp only [List.count_append, List.count_cons, List.cons_append, List.append_nil, List.nil_append, List.count_nil]; omega) rg2
                  rw [set_same e1] at h8
                  exact ⟨l, ls, y, rfl, rfl, kl.trans h3, by rw [h4.length]; exact hz, k (.val .non) _ .non _ B2 q hl (fun b hb => (h7 b (by simp [hb])).trans (hk1 b (by simp [hb]))) ⟨[], .non, h8⟩⟩
theorem ce_appN {X : Cx} {i : Nat} {e : Expr} {we : WE} {x : Str} {p p1 p2 p3 q1 q2 apos cpos : Pos} {j1 j2 : Nat} (he : CE X e we) (hN : X.N[i]? = some x := by rfl) (hv : Vis X.env.scope x := by first | exact Or.inl rfl | exact Or.inr (Or.inl rfl) | exact Or.inr (Or.inr rfl)) (hd : (x == ("__debug__" : Str)) = false := by decide)
    (hcd : (x == ("__classdict__" : Str)) = false := by decide) (hbase : attributeBase (.Subscript (.Subscript (.Name x p) (.UnaryOp .USub (.Constant (.int 1) j1 p1) p2) q1) (.Constant (.int 1) j2 p3) q2) "append" X.env (eval (.Subscript (.Subscript (.Name x p) (.UnaryOp .USub (.Constant (.int 1) j1 p1) p2) q1) (.Constant (.int 1) j2 p3) q2) X.env) = eval (.Subscript (.Subscript (.Name x p) (.UnaryOp .USub (.Constant (.int 1) j1 p1) p2) q1) (.Constant (.int 1) j2 p3) q2) X.env := by rfl)
    (hfew : ((backTo cpos (starEach [e] X.env)).all (fun x => !x.1) && (backToKw cpos (keywordEach [] X.env)).all (fun x => x.1.isSome) && decide ([e].length + ([] : List Keyword).length + (if ([] : List Keyword).isEmpty then 0 else 1) < 30)) = true := by rfl)
    (hline : (apos.endLine == cpos.line) = true := by rfl) (hs : starEach [e] X.env = (false, eval e X.env) :: starEach [] X.env := by rfl) (hplain : (backTo cpos (starEach [] X.env)).any (·.1) = false := by rfl) :
    CE X (.Call (.Attribute (.Subscript (.Subscript (.Name x p) (.UnaryOp .USub (.Constant (.int 1) j1 p1) p2) q1) (.Constant (.int 1) j2 p3) q2) "append" apos) [e] [] cpos) (wAppN i we) := by
  obtain ⟨te, r1, r2⟩ := he
  exact ⟨_, pe_bm PySem.F.plainAttrs_list PySem.F.slot_list_append PySem.F.type_list_append mt_append (pe_ix ix_seq (pe_ix ix_seq (pe_var hN hv hd hcd) (pe_un un_neg pe_int) (fun _ _ => rfl)) pe_int (fun _ _ => rfl)) (pa_cons r1 pa_nil hs) hbase hfew hline hs hplain, rf_appN r2⟩
end TL
set_option maxRecDepth 100000
set_option maxHeartbeats 1000000
namespace TL
open PySem PySem.Spec PyProof.Rows L2
structure DefM (K : Frag) (x qual : Str) (st : Stmt) (f : Addr) (fd : FuncData) (dV : Value) : Prop where
  text : ∃ (kV doc pm cdv ct : Value) (an : Option Addr) (o : Obj), K.lookup f = some o ∧ o.data = .func fd ∧ PySem.W.codeIn K cdv qual = true ∧ fd = PySem.W.fnOf x qual (defArgs st) (defBody st) (defScope st) dV kV doc pm an cdv ct
section
variable {P : Program} {w : World} {K : Frag} {mg : Str → Option Value} {base : Heap} {x qual y : Str} {st : Stmt} {f : Addr} {fd : FuncData} {dV : Value} {N ps : List Str} {k : Nat} {S : FS}
theorem def_okM (np : Nat) (F : DefM K x qual st f fd dV) (Sc : FnScope N ps (defScope st)) (hlen : ∀ ts Q, S ts Q → ts.length = ps.length) (hnp : np ≤ ps.length)
    (body : ∀ (cdv : Value) (A : Around) (outer : List Env) (s : Shared) (H : Hp) (E : XK), Room k (A.deeper (envOfC qual (defScope st) s.heap.objs.size f cdv)) → (A.deeper (envOfC qual (defScope st) s.heap.objs.size f cdv)).guards = some [] →
      ∃ w', CSs (cxOf CX0 P w K mg base N qual (defScope st) f cdv A outer s H E).nox np (defBody st) w' ∧ ∀ ts Qf, S ts Qf → w' (endsD np ts Qf) (startD N np ts)) : FnG P w K mg base CX0 (k + 1) f fd ps (spT K S) := by
  obtain ⟨kV, doc, pm, cdv, ct, an, o, stands, isF, code, rfl⟩ := F.text
  have arity : ∀ {vs H Q E}, spT K S vs H Q E → vs.length = ps.length := fun {vs H Q E} ⟨ts, B, R, Qf, hr, hs, _⟩ => by
    have e := hr.len
    simp only [List.length_map] at e
    exact e.trans (hlen ts Qf hs)
  refine fnG_of stands isF code Sc arity fun A outer s H vs Q E room quiet asks => ?_
  have hlv := arity asks
  obtain ⟨ts, B, R, Qf, hrep, hS, k1, k2⟩ := asks
  obtain ⟨w', hb, hv⟩ := body cdv A outer s H E room quiet
  obtain ⟨tb, hp, hrf⟩ := hb.ex _ takes_no
  obtain ⟨B1, hle, hr1, rest⟩ := entry (N := N) np hrep
  refine ⟨tb, hp.nox, hrf _ _ _ H B1 R hr1 (hv ts Qf hS) _ (fun Δ' σ' H' B' q f hr' => ?_) (fun t Δ' σ' v H' B' G q f r hr' => ?_) (fun _ _ _ _ q => q.elim) (fun _ _ _ _ q => q.elim) fun _ _ _ _ _ _ _ q => q.elim⟩
  · obtain ⟨us, hu, hΔ, q2⟩ := lookUp_pre q
    exact k1 .non _ .non H' B' [] q2 (hle.trans f.1) f.2.1 .non (leave (N := N) (G := []) (by omega) hr' f.1 f.2.2 hu hΔ rest)
  · obtain ⟨us, hu, hΔ, q2⟩ := lookUp_pre q
    exact k1 t _ v H' B' G q2 (hle.trans f.1) f.2.1 r (leave (N := N) (by omega) hr' f.1 f.2.2 hu hΔ rest)
theorem DefM.meth (F : DefM K x qual st f fd .none) (c : L2.Cls K (clsOf K y)) (m : Meth K (clsOf K y) x f) (G : FnG P w K mg base CX0 k f fd ps (spT K S))
    (h : ∀ (kV doc pm : Value) (an : Option Addr) (cdv ct : Value) (us : List Value), us.length = ps.length → bindArgs (PySem.W.fnOf x qual (defArgs st) (defBody st) (defScope st) .none kV doc pm an cdv ct) ⟨us, []⟩ = pure (ps.zip us)) : MethAt P w K mg base k y x S := by
  obtain ⟨kV, doc, pm, cdv, ct, an, o, _, _, _, rfl⟩ := F.text
  exact ⟨c, _, _, ps, m, .all (h kV doc pm an cdv ct), G⟩
theorem DefM.make (F : DefM K x qual st f fd .none) (nm : mg y = some (.ref (clsOf K y))) (m : Mk K (clsOf K y) f) (G : FnG P w K mg base CX0 k f fd ps (spT K S))
    (h : ∀ (kV doc pm : Value) (an : Option Addr) (cdv ct : Value) (us : List Value), us.length = ps.length → bindArgs (PySem.W.fnOf x qual (defArgs st) (defBody st) (defScope st) .none kV doc pm an cdv ct) ⟨us, []⟩ = pure (ps.zip us)) : MakeAt P w K mg base k y S := by
  obtain ⟨kV, doc, pm, cdv, ct, an, o, _, _, _, rfl⟩ := F.text
  exact ⟨nm, _, _, ps, m, .all (h kV doc pm an cdv ct), G⟩
theorem clsL_of {C : Addr} (a : PySem.W.nsIn K mainGlobals y = some (some (.ref C))) (pg : PySem.W.plainGet K C Str.empty = true) (hd : PySem.W.hasDictIn K C = true) (po : PySem.W.plainOver K C = true) (sa : PySem.W.findIn K (.ref C) "__setattr__" = some (some (.builtin "object.__setattr__"))) : L2.Cls K (clsOf K y) := by
  rw [clsOf_is a]
  exact ⟨pg, hd, po, sa⟩
theorem fldAt_of {C : Addr} {f : Str} (a : PySem.W.nsIn K mainGlobals y = some (some (.ref C))) (c : L2.Cls K (clsOf K y)) (n : PySem.W.findIn K (.ref C) f = some none) : FldAt K y f := by
  refine ⟨c, ?_⟩
  rw [clsOf_is a]
  exact n
theorem meth_of {C : Addr} {m : Str} (a : PySem.W.nsIn K mainGlobals y = some (some (.ref C))) (h : PySem.W.findIn K (.ref C) m = some (some (.ref f))) (i : PySem.W.isFn K (.ref f) = true) (kp : PySem.W.keepIn K (.ref f) = true) : Meth K (clsOf K y) m f := by
  rw [clsOf_is a]
  exact ⟨h, i, kp⟩
theorem mkc_of {C : Addr} (a : PySem.W.nsIn K mainGlobals y = some (some (.ref C))) (mk : PySem.W.makesIn K C = true) (h : PySem.W.findIn K (.ref C) "__init__" = some (some (.ref f))) (i : PySem.W.isFn K (.ref f) = true) (kc : PySem.W.keepIn K (.ref C) = true) : Mk K (clsOf K y) f := by
  rw [clsOf_is a]
  exact ⟨mk, h, i, kc⟩
theorem nm_of {C : Addr} (a : PySem.W.nsIn K mainGlobals y = some (some (.ref C))) (h : mg y = some (.ref C)) : mg y = some (.ref (clsOf K y)) := by
  rw [clsOf_is a]
  exact h
end
theorem one_of {α : Type} {p : α → Prop} {a : α} (h : p a) : ∀ x ∈ [a], p x := fun x hx => by
  rw [List.mem_singleton.mp hx]
  exact h
end TL
set_option maxRecDepth 100000
set_option maxHeartbeats 1000000
namespace TL
open PySem PySem.Spec PyProof.Rows L2
def wTakesO (ps : List PV) (Δ : Dt) (k : List T → Dt → Prop) : Prop := match ps with
  | [] => k [] Δ
  | p :: r => wTake p Δ fun t Δ1 => wTakesO r Δ1 fun ts Δ2 => k (t :: ts) Δ2
def wTupO (wa : WA) : WE := fun Δ Q => wa Δ fun ps Δ1 => wTakesO ps Δ1 fun ts Δ2 => ts.length ≤ sizeLine ∧ Q (.val (.tup ts)) Δ2
section
variable {K : Frag} {B H : Hp} {R : List Addr} {σ : Sg}
theorem takesO_ok : ∀ {ps : List PV} {vs : List V} {G R : List Addr} {Δ : Dt} {B : Hp} {k : List T → Dt → Prop}, PvL K B H σ ps vs G → Rep K B H (G ++ R) σ Δ → wTakesO ps Δ k → ∃ ts Δ' B' F, k ts Δ' ∧ Le B B' ∧ RpL K B' H vs ts F ∧ Rep K B' H (F ++ R) σ Δ'
  | _, _, _, _, Δ, B, k, .nil, hr, hw => ⟨[], Δ, B, [], hw, Le.refl B, .nil, hr⟩
  | _, _, _, R, Δ, B, k, .cons (p := p) (ps := ps) (v := v) (vs := vs) (F := F) (G := G) h1 h2, hr, hw => by
    have o : Out K B H (G ++ R) σ Δ p v := ⟨F, h1, by rw [List.append_assoc] at hr; exact hr⟩
    obtain ⟨t, Δ1, B1, G1, q, hl, r, hr1⟩ := take_ok o hw
    obtain ⟨ts, Δ2, B2, F2, q2, hl2, r2, hr2⟩ := takesO_ok (R := G1 ++ R) (h2.mono hl fun _ _ => rfl) (hr1.weak fun a => by simp only [List.count_append]; omega) q
    exact ⟨t :: ts, Δ2, B2, G1 ++ F2, q2, hl.trans hl2, RpL.cons (r.mono hl2 fun _ _ => rfl) r2, hr2.weak fun a => by simp only [List.count_append]; omega⟩
end
theorem rf_tupO {K : Frag} {ta : TA} {wa : WA} (h : RfA K ta wa) : RfE K (tTup ta) (wTupO wa) := fun Δ Q σ H B R hr hw Qv k => by
  refine h Δ _ σ H B R hr hw _ fun ps Δ1 vs H1 B1 hq hl1 hk1 ⟨G1, pr1, hr1⟩ => ?_
  obtain ⟨ts, Δ2, B2, F, q, hl2, r, hr2⟩ := takesO_ok pr1 hr1 hq
  refine ⟨by rw [r.length]; exact q.1, fun p hp => ?_⟩
  have g := Gro.fro (o := .tup vs) hr2.sub hp
  have hr3 := hr2.gro g
  have kF := hr2.keepExt g.1
  exact k (.val (.tup ts)) Δ2 (.ref p) _ _ q.2 ((hl1.trans hl2).trans g.2.1) (hk1.trans kF.right) ⟨F, .tup (.inl (.inl upd_same)) (r.mono g.2.1 fun a ha => kF a (List.mem_append_left _ ha)), hr3⟩
theorem ce_tupO {X : Cx} {es : List Expr} {wa : WA} {x1 : Nat} {pos : Pos} (h : CA X es wa) : CE X (.Tuple es x1 pos) (wTupO wa) := by
  obtain ⟨ta, p, r⟩ := h
  exact ⟨_, pe_tup p, rf_tupO r⟩
end TL
set_option maxRecDepth 100000
set_option maxHeartbeats 1000000
namespace TL
open PySem PySem.Spec PyProof.Rows L2
def tyOk (t : T) : Bool := !(tyN t == "")
def intB (v l : T) : Bool := match v, l with
  | .int i, .int n => decide (n ≤ i)
  | .int _, _ => true
  | _, _ => false
def strB : T → Bool
  | .str _ => true
  | _ => false
def S_is_integer : FS := fun ts Q => ∃ v l, ts = [v, l] ∧ tyOk v = true ∧ (l = .non ∨ ∃ n, l = .int n) ∧ Q (.ret (.bl (intB v l))) [frz v, frz l]
def S_is_one_of : FS := fun ts Q => ∃ v ws, ts = [v, .tup ws] ∧ tyOk v = true ∧ ws.all flT = true ∧ Q (.ret (.bl (strB v && inT v ws))) [frz v, .tup (frzL ws)]
theorem l_is_integer : ∀ ts Q, S_is_integer ts Q → ts.length = 2 := fun ts Q ⟨v, l, e, _⟩ => by rw [e]; rfl
theorem l_is_one_of : ∀ ts Q, S_is_one_of ts Q → ts.length = 2 := fun ts Q ⟨v, l, e, _⟩ => by rw [e]; rfl
abbrev N_is_integer : List Str := ["value", "least"]
def w_is_integer : WS :=
  (wSeq (wIfS (wOr (wNot (wTru (wCl gIsi (wCons (wV 0) (wCons (wC (.ty "int")) wNil))))) (wTru (wCl gIsi (wCons (wV 0) (wCons (wC (.ty "bool")) wNil))))) (wRet 0 (wC (.bl false))) wNext) (wRet 0 (wOrV (wOp (gIs false) (wV 1) (wC .non)) (wOp gGe (wV 0) (wV 1)))))
abbrev N_is_one_of : List Str := ["value", "words"]
def w_is_one_of : WS :=
  (wRet 0 (wAndV (wCl gIsi (wCons (wV 0) (wCons (wC (.ty "str")) wNil))) (wOp (gIn false) (wV 0) (wV 1))))
theorem frz_fl (t : T) (h : flT t = true) : frz t = t := by cases t <;> first | (simp only [frz]; done) | exact absurd h (by simp [flT])
theorem frzL_fl : ∀ ts : List T, ts.all flT = true → frzL ts = ts
  | [], _ => by simp only [frzL]
  | t :: r, h => by
    simp only [List.all_cons, Bool.and_eq_true] at h
    simp only [frzL]; rw [frz_fl t h.1, frzL_fl r h.2]
theorem v_is_integer : ∀ ts Qf, S_is_integer ts Qf → w_is_integer (endsD 0 ts Qf) (startD N_is_integer 0 ts) := by
  rintro ts Qf ⟨v, l, rfl, ht, hl, q⟩
  show w_is_integer (endsD 0 [v, l] Qf) [some (frz v), some (frz l)]
  cases v <;> simp [tyOk, tyN] at ht
  all_goals
    rcases hl with rfl | ⟨n, rfl⟩ <;>
    simpa [w_is_integer, wSeq, wIfS, wOr, wNot, wTru, wCl, wCons, wNil, wV, wC, wRet, wOrV, wOp, look, onV, onVs, gIsi, tyN, isiB, truT, wNext, endsD, lookUp, gIs, isNon, nb, gCmp, frz, intB] using q
theorem v_is_one_of : ∀ ts Qf, S_is_one_of ts Qf → w_is_one_of (endsD 0 ts Qf) (startD N_is_one_of 0 ts) := by
  rintro ts Qf ⟨v, ws, rfl, ht, hw, q⟩
  show w_is_one_of (endsD 0 [v, .tup ws] Qf) [some (frz v), some (.tup (frzL ws))]
  cases v <;> simp [tyOk, tyN] at ht
  all_goals
    simpa [w_is_one_of, wRet, wCl, wCons, wNil, wV, wC, wAndV, wOp, look, onV, onVs, gIsi, tyN, isiB, endsD, lookUp, frz, gIn, strB, nb, flT, hw, frzL_fl ws hw, ← List.all_eq_true] using q
end TL
set_option maxRecDepth 100000
set_option maxHeartbeats 1000000
namespace TL
open PySem PySem.Spec PyProof.Rows L2
mutual
def dat : T → Bool
  | .tup xs => datL xs
  | .lst o xs => !o && datL xs
  | .dct o kvs => !o && closedK kvs
  | .non => true | .bl _ => true | .int _ => true | .str _ => true
  | .ins _ _ _ => false | .fn _ => false | .ty _ => false | .exc _ _ _ _ => false | .exv _ _ => false
def datL : List T → Bool
  | [] => true
  | t :: r => dat t && datL r
end
mutual
theorem dat_closed : ∀ t : T, dat t = true → closed t = true
  | .tup xs, h => by simp only [dat] at h; simp only [closed]; exact datL_closed xs h
  | .lst o xs, h => by
    simp only [dat, Bool.and_eq_true] at h
    simp only [closed, Bool.and_eq_true]; exact ⟨h.1, datL_closed xs h.2⟩
  | .dct o kvs, h => by
    simp only [dat] at h
    simp only [closed]; exact h
  | .non, _ => by simp only [closed]
  | .bl _, _ => by simp only [closed]
  | .int _, _ => by simp only [closed]
  | .str _, _ => by simp only [closed]
  | .ins _ _ _, h => by simp [dat] at h
  | .fn _, h => by simp [dat] at h
  | .ty _, h => by simp [dat] at h
  | .exc _ _ _ _, h => by simp [dat] at h
  | .exv _ _, h => by simp [dat] at h
theorem datL_closed : ∀ ts : List T, datL ts = true → closedL ts = true
  | [], _ => by simp only [closedL]
  | t :: r, h => by
    simp only [datL, Bool.and_eq_true] at h
    simp only [closedL, Bool.and_eq_true]; exact ⟨dat_closed t h.1, datL_closed r h.2⟩
end
theorem dat_frz {t : T} (h : dat t = true) : frz t = t := frz_closed t (dat_closed t h)
theorem datL_frz {ts : List T} (h : datL ts = true) : frzL ts = ts := frzL_closed ts (datL_closed ts h)
theorem dat_ty {t : T} (h : dat t = true) : tyOk t = true := by cases t <;> first | rfl | (simp [dat] at h)
theorem datL_iff : ∀ ts : List T, datL ts = true ↔ ∀ t ∈ ts, dat t = true
  | [] => by simp [datL]
  | t :: r => by simp [datL, datL_iff r]
abbrev remT : List T := [.str "none", .str "press", .str "held"]
abbrev prfT : List T := [.str "turn", .str "stay", .str "s", .str "l"]
def blB : T → Bool
  | .bl _ => true
  | _ => false
theorem ite_of {c : Bool} {A B : Prop} (h : c = true → A) (k : c = false → B) : if c = true then A else B := by
  cases c with
  | true => exact (if_pos rfl).symm ▸ h rfl
  | false => exact (if_neg Bool.false_ne_true).symm ▸ k rfl
theorem at_is_integer {v : T} {n : Int} {Q : Rs → List T → Prop} (h : dat v = true) (q : Q (.ret (.bl (intB v (.int n)))) [v, .int n]) : S_is_integer [v, .int n] Q := ⟨v, .int n, rfl, dat_ty h, .inr ⟨n, rfl⟩, by rw [dat_frz h]; exact q⟩
theorem at_is_one_of {v : T} {ws : List T} {Q : Rs → List T → Prop} (h : dat v = true) (hw : ws.all flT = true) (q : Q (.ret (.bl (strB v && inT v ws))) [v, .tup ws]) : S_is_one_of [v, .tup ws] Q := ⟨v, ws, rfl, dat_ty h, hw, by rw [dat_frz h, frzL_fl ws hw]; exact q⟩
def flg : List T → List Bool
  | [a, b, c, d, e, f, g] => [intB a (.int 1), intB b (.int 1), intB c (.int 1), intB d (.int 0), strB e && inT e remT, blB f, strB g && inT g prfT]
  | _ => []
def S_rules_flags : FS := fun ts Q => ∃ xs, ts = [.tup xs] ∧ xs.length = 7 ∧ datL xs = true ∧ Q (.ret (.lst true ((flg xs).map .bl))) [.tup xs]
theorem l_rules_flags : ∀ ts Q, S_rules_flags ts Q → ts.length = 1 := fun ts Q ⟨_, e, _⟩ => by rw [e]; rfl
theorem z1 : 1 ≤ sizeLine := by decide
theorem zz200 {n : Nat} (h : n ≤ 10000) : n < sizeLine := by rw [sizeLine_eq]; omega
theorem takes_vals : ∀ {ts : List T} {ps : List PV} {Δ : Dt} {k : List T → Dt → Prop}, wTakes ps Δ (fun us Δ' => k (ts.map frz ++ us) Δ') → wTakes (ts.map PV.val ++ ps) Δ k
  | [], ps, Δ, k, h => h
  | t :: ts, ps, Δ, k, h => takes_vals (ts := ts) (k := fun us Δ' => k (frz t :: us) Δ') h
theorem seven {xs : List T} (h : xs.length = 7) : ∃ a b c d e f g, xs = [a, b, c, d, e, f, g] := by
  match xs, h with
  | [a, b, c, d, e, f, g], _ => exact ⟨a, b, c, d, e, f, g, rfl⟩
theorem isi_blB {c : T} : isiB (tyN c) "bool" = blB c ∨ tyOk c = false := by cases c <;> first | exact .inl rfl | exact .inr rfl
abbrev N_rules_flags : List Str := ["value", "found", "item"]
def w_rules_flags : WS :=
  (wSeq (wAsg (wLc (wiTup (wSl (wV 0) woN (woS (wC (.int 3))))) (wgN 2) wYes (wCall S_is_integer (wCons (wV 2) (wCons (wC (.int 1)) wNil))) [2]) (wgN 1)) (wSeq (wDrop (wApp 1 (wCall S_is_integer (wCons (wOp gIx (wV 0) (wC (.int 3))) (wCons (wC (.int 0)) wNil))))) (wRet 0 (wLst (wStar (wV 1) (wCons (wCall S_is_one_of (wCons (wOp gIx (wV 0) (wC (.int 4))) (wCons (wC (.tup [.str "none", .str "press", .str "held"])) wNil))) (wCons (wCl gIsi (wCons (wOp gIx (wV 0) (wC (.int 5))) (wCons (wC (.ty "bool")) wNil))) (wCons (wCall S_is_one_of (wCons (wOp gIx (wV 0) (wC (.int 6))) (wCons (wC (.tup [.str "turn", .str "stay", .str "s", .str "l"])) wNil))) wNil))))))))
theorem v_rules_flags : ∀ ts Qf, S_rules_flags ts Qf → w_rules_flags (endsD 0 ts Qf) (startD N_rules_flags 0 ts) := by
  rintro ts Qf ⟨xs, rfl, h7, hd, q⟩
  have fin : ∀ Δ, (endsD 0 [.tup xs] Qf).rt (.lst true ((flg xs).map .bl)) Δ := fun Δ => by
    show Qf (.ret _) [.tup (frzL xs)]
    rw [datL_frz hd]; exact q
  show w_rules_flags (endsD 0 [.tup xs] Qf) [some (.tup (frzL xs)), none, none]
  rw [datL_frz hd]
  revert fin
  generalize endsD 0 [.tup xs] Qf = D
  intro fin
  obtain ⟨a, b, c, d, e, f, g, rfl⟩ := seven h7
  have hc := datL_closed _ hd
  simp only [datL, Bool.and_eq_true, Bool.and_true] at hd
  obtain ⟨ha, hb, hcc, hdd, he, hf, hg⟩ := hd
  have te : (tyN f == "") = false := by simpa [tyOk] using dat_ty hf
  have ef : isiB (tyN f) "bool" = blB f := isi_blB.resolve_right (by rw [dat_ty hf]; decide)
  have items : ∀ (i : Nat) y, [a, b, c][i]? = some y → dat y = true := fun i y hy => by
    match i, hy with
    | 0, hy => obtain rfl := Option.some.inj hy; exact ha
    | 1, hy => obtain rfl := Option.some.inj hy; exact hb
    | 2, hy => obtain rfl := Option.some.inj hy; exact hcc
  have fz : frzL [a, b, c] = [a, b, c] := datL_frz (by simp [datL, ha, hb, hcc])
  refine ⟨hc, fun i acc Δ => acc = ([a, b, c].take i).map (fun x => T.bl (intB x (.int 1))) ∧ Δ = [some (.tup [a, b, c, d, e, f, g]), none, none], ⟨rfl, rfl⟩, ?_, ?_⟩
  · rintro i y acc Δ hy ⟨rfl, rfl⟩
    have hy' : (frzL [a, b, c])[i]? = some y := hy
    rw [fz] at hy'
    have hi : i < 3 := (List.getElem?_eq_some_iff.mp hy').1
    have et : [a, b, c].take (i + 1) = [a, b, c].take i ++ [y] := by rw [List.take_add_one, hy']; rfl
    refine ⟨rfl, at_is_integer (items i y hy') ⟨zz200 (by simp; omega), ?_, rfl⟩⟩
    rw [et]; simp [frz]
  · rintro acc Δ ⟨rfl, rfl⟩
    have e3 : (List.take (frzL [a, b, c]).length [a, b, c]).map (fun x => T.bl (intB x (.int 1))) = [.bl (intB a (.int 1)), .bl (intB b (.int 1)), .bl (intB c (.int 1))] := by rw [fz]; rfl
    show wSeq (wDrop (wApp 1 (wCall S_is_integer (wCons (wOp gIx (wV 0) (wC (.int 3))) (wCons (wC (.int 0)) wNil))))) _ D [some (.tup [a, b, c, d, e, f, g]), some (.lst true ((List.take (frzL [a, b, c]).length [a, b, c]).map (fun x => T.bl (intB x (.int 1))))), none]
    rw [e3]
    have key : isiB (tyN f) "bool" = blB f := ef
    have q2 := fin
    simp only [flg, List.map_cons, List.map_nil] at q2
    rw [← ef] at q2
    refine ⟨dat_closed _ hdd, rfl, at_is_integer hdd ⟨rfl, zz200 (by simp), dat_closed _ he, rfl, at_is_one_of he rfl ⟨dat_closed _ hf, te, rfl, dat_closed _ hg, rfl, at_is_one_of hg rfl ?_⟩⟩⟩
    exact ⟨by show 7 ≤ sizeLine; decide, q2 _⟩
end TL
set_option maxRecDepth 100000
set_option maxHeartbeats 1000000
namespace TL
open PySem PySem.Spec PyProof.Rows L2
theorem z2 : 2 ≤ sizeLine := by decide
theorem z3 : 3 ≤ sizeLine := by decide
theorem z4 : 4 ≤ sizeLine := by decide
theorem z7 : 7 ≤ sizeLine := by decide
theorem in_false : ∀ bs : List Bool, inT (.bl false) (bs.map .bl) = !bs.all id
  | [] => rfl
  | b :: r => by
    have ih := in_false r
    simp only [inT, List.map_cons, List.any_cons, List.all_cons, scV, eqV] at ih ⊢
    rw [ih]; cases b <;> simp
theorem at_flags {xs : List T} {Q : Rs → List T → Prop} (h7 : xs.length = 7) (hd : datL xs = true) (q : Q (.ret (.lst true ((flg xs).map .bl))) [.tup xs]) : S_rules_flags [.tup xs] Q := ⟨xs, rfl, h7, hd, q⟩
theorem bls_fl (bs : List Bool) : (bs.map T.bl).all flT = true := by simp [flT]
structure Ru where
  a : Int
  b : Int
  c : Int
  d : Int
  r : Str
  p : Bool
  q : Str
namespace Ru
abbrev l (x : Ru) : List T := [.int x.a, .int x.b, .int x.c, .int x.d, .str x.r, .bl x.p, .str x.q]
abbrev t (x : Ru) : T := .tup x.l
structure Ok (x : Ru) (M : Int) : Prop where
  a : 1 ≤ x.a ∧ x.a ≤ M
  b : 1 ≤ x.b ∧ x.b ≤ M
  c : 1 ≤ x.c ∧ x.c ≤ M
  d : 0 ≤ x.d ∧ x.d ≤ M
  r : x.r = "none" ∨ x.r = "press" ∨ x.r = "held"
  q : x.q = "turn" ∨ x.q = "stay" ∨ x.q = "s" ∨ x.q = "l"
def lo (x : Ru) : Int := (if x.b < x.a then x.b else x.a) + x.c
def hi (x : Ru) : Int := (if x.b > x.a then x.b else x.a) + x.c
def big (x : Ru) : Bool := decide (x.hi ≤ x.d) || (decide (x.r = "none") && !x.p)
def gq (a b : Int) : Str := if b < a then ("s" : Str) else ("l" : Str)
def nq (x : Ru) : Str := if x.r = "held" then (if x.d < x.lo then ("turn" : Str) else if x.q = "s" ∨ x.q = "l" then (if x.q = gq x.a x.b then ("turn" : Str) else ("stay" : Str)) else x.q) else x.q
def pl (x : Ru) : Ru := if x.big = true then ⟨x.a, x.b, x.c, 0, "none", false, x.q⟩ else ⟨x.a, x.b, x.c, x.d, x.r, x.p, x.nq⟩
def exq (q : Str) : Str := if q = "s" then ("l" : Str) else if q = "l" then ("s" : Str) else q
def ex (x : Ru) : Ru := ⟨x.b, x.a, x.c, x.d, x.r, x.p, exq x.q⟩
theorem ws : (("turn" : Str) ≠ "s") ∧ (("turn" : Str) ≠ "l") ∧ (("stay" : Str) ≠ "s") ∧ (("stay" : Str) ≠ "l") ∧ (("s" : Str) ≠ "l") ∧ (("turn" : Str) ≠ "stay") ∧ (("none" : Str) ≠ "held") ∧ (("press" : Str) ≠ "held") := by decide +kernel
theorem Ok.mono {x : Ru} {M N : Int} (h : x.Ok M) (k : M ≤ N) : x.Ok N := ⟨by have := h.a; omega, by have := h.b; omega, by have := h.c; omega, by have := h.d; omega, h.r, h.q⟩
theorem Ok.pl {x : Ru} {M : Int} (h : x.Ok M) : x.pl.Ok M := by
  have hd := h.d
  by_cases hb : x.big = true
  · have e : x.pl = ⟨x.a, x.b, x.c, 0, "none", false, x.q⟩ := if_pos hb
    rw [e]; exact ⟨h.a, h.b, h.c, ⟨by simp, by have := h.a; simp; omega⟩, .inl rfl, h.q⟩
  · have e : x.pl = ⟨x.a, x.b, x.c, x.d, x.r, x.p, x.nq⟩ := if_neg hb
    rw [e]
    refine ⟨h.a, h.b, h.c, hd, h.r, ?_⟩
    have hq := h.q
    show x.nq = _ ∨ x.nq = _ ∨ x.nq = _ ∨ x.nq = _
    unfold nq
    by_cases h1 : x.r = "held"
    · rw [if_pos h1]
      by_cases h2 : x.d < x.lo
      · rw [if_pos h2]; exact .inl rfl
      · rw [if_neg h2]
        by_cases h3 : x.q = "s" ∨ x.q = "l"
        · rw [if_pos h3]
          by_cases h4 : x.q = gq x.a x.b
          · rw [if_pos h4]; exact .inl rfl
          · rw [if_neg h4]; exact .inr (.inl rfl)
        · rw [if_neg h3]; exact hq
    · rw [if_neg h1]; exact hq
theorem Ok.ex {x : Ru} {M : Int} (h : x.Ok M) : x.ex.Ok M := by
  obtain ⟨w1, w2, w3, w4, w5, w6, w7, w8⟩ := ws
  refine ⟨h.b, h.a, h.c, h.d, h.r, ?_⟩
  show exq x.q = _ ∨ exq x.q = _ ∨ exq x.q = _ ∨ exq x.q = _
  rcases h.q with e | e | e | e <;> rw [e] <;> simp [exq, w1, w2, w3, w4, w5, Ne.symm w5]
end Ru
end TL
set_option maxRecDepth 100000
set_option maxHeartbeats 1000000
namespace TL
open PySem PySem.Spec PyProof.Rows L2
theorem bits_lt {x : Int} {n : Nat} (h : x.natAbs < 2 ^ n) (h0 : 0 < n) : Builtin.Int.intBits x ≤ n := by
  have b : Builtin.Int.intBits x ≤ x.natAbs.log2 + 1 := by
    unfold Builtin.Int.intBits
    split <;> omega
  have := PySem.Flt.log2_lt_of h0 h
  omega
theorem pow_ok {x : Int} {n : Nat} (h : x.natAbs < 2 ^ n) (h0 : 0 < n) (hn : n ≤ 1000000) : (Builtin.Int.intBits x : Int) * 3 ≤ 2 ^ 27 := by
  have := bits_lt h h0
  have e : (2 : Int) ^ 27 = 134217728 := by decide
  rw [e]; omega
/-- the numbers that draw -/
def Fo (n : Nat) (t : T) : Prop := ∃ a b c : Int, t = .lst true [.int a, .int b, .int c] ∧ 0 ≤ a ∧ (0 ≤ b ∧ b < 2 ^ 200) ∧ 0 ≤ c ∧ c ≤ n
theorem ints_frz (ns : List Int) : frzL (ns.map T.int) = ns.map T.int := frzL_fl _ (by simp [flT])
def S__law_reel : FS := fun ts Q => ∃ (o : Bool) (ns : List Int) (k : Int), ts = [.lst o (ns.map .int), .int k] ∧ (0 ≤ k ∧ k ≤ 3) ∧ ∀ t, Fo 0 t → Q (.ret t) [.lst false (ns.map .int), .int k]
theorem l__law_reel : ∀ ts Q, S__law_reel ts Q → ts.length = 2 := fun ts Q ⟨o, ns, k, e, _⟩ => by rw [e]; rfl
theorem at_int {ns : List Int} {k : Int} (h0 : 0 ≤ k) (h : k < ns.length) : ∃ n, atI (ns.map T.int) k = some (.int n) := by
  have hk : k.toNat < ns.length := by omega
  refine ⟨ns[k.toNat], ?_⟩
  unfold atI ixN
  rw [List.length_map, if_pos h0, if_pos h]
  simp [hk]
theorem lt_pow {x : Int} {n : Nat} (h0 : 0 ≤ x) (h : x < 2 ^ n) : x.natAbs < 2 ^ n := by
  have e : ((x.natAbs : Nat) : Int) = x := by omega
  have : ((x.natAbs : Nat) : Int) < ((2 ^ n : Nat) : Int) := by rw [e]; push_cast; exact h
  exact_mod_cast this
abbrev N__law_reel : List Str := ["script", "index", "cell"]
def w__law_reel : WS :=
  (wSeq (wAsg (wIf (wTest (wOp gLt (wV 1) (wCl gLen (wCons (wV 0) wNil)))) (wOp gIx (wV 0) (wV 1)) (wC (.int 0))) (wgN 2)) (wRet 0 (wLst (wCons (wCl gMax2 (wCons (wC (.int 0)) (wCons (wOp TL.gSub (wCl gAbs (wCons (wV 2) wNil)) (wOp gPow (wC (.int 10)) (wC (.int 18)))) wNil))) (wCons (wOp gAdd (wOp gMod (wCl gInt (wCons (wV 2) wNil)) (wOp gAdd (wOp gPow (wC (.int 10)) (wC (.int 35))) (wC (.int 69)))) (wOp gMulA (wC (.int 86028157)) (wOp gAdd (wV 1) (wC (.int 1))))) (wCons (wC (.int 0)) wNil))))))
theorem v__law_reel : ∀ ts Qf, S__law_reel ts Qf → w__law_reel (endsD 0 ts Qf) (startD N__law_reel 0 ts) := by
  rintro ts Qf ⟨o, ns, k, rfl, ⟨hk0, hk3⟩, q⟩
  show w__law_reel (endsD 0 [.lst o (ns.map .int), .int k] Qf) [some (.lst false (frzL (ns.map .int))), some (.int k), none]
  have fin : ∀ t Δ, Fo 0 t → (endsD 0 [.lst o (ns.map .int), .int k] Qf).rt t Δ := fun t Δ h => by
    have := q t h
    show Qf (.ret t) [.lst false (frzL (ns.map .int)), .int k]
    rw [ints_frz]; exact this
  revert fin
  generalize endsD 0 [.lst o (ns.map .int), .int k] Qf = D
  intro fin
  rw [ints_frz]
  have rest : ∀ c : Int, wRet 0 (wLst (wCons (wCl gMax2 (wCons (wC (.int 0)) (wCons (wOp TL.gSub (wCl gAbs (wCons (wV 2) wNil)) (wOp gPow (wC (.int 10)) (wC (.int 18)))) wNil))) (wCons (wOp gAdd (wOp gMod (wCl gInt (wCons (wV 2) wNil)) (wOp gAdd (wOp gPow (wC (.int 10)) (wC (.int 35))) (wC (.int 69)))) (wOp gMulA (wC (.int 86028157)) (wOp gAdd (wV 1) (wC (.int 1))))) (wCons (wC (.int 0)) wNil)))) D [some (.lst false (ns.map .int)), some (.int k), some (.int c)] := fun c => by
    have m0 : (0 : Int) < 10 ^ (35 : Int).toNat + 69 := by decide
    have h1 := Int.emod_nonneg c (show (10 ^ (35 : Int).toNat + 69 : Int) ≠ 0 by decide)
    have h2 := Int.emod_lt_of_pos c m0
    have h3 : (10 ^ (35 : Int).toNat + 69 : Int) < 2 ^ 140 := by decide
    have h5 : (2 : Int) ^ 140 + 86028157 * 4 < 2 ^ 200 := by decide
    refine ⟨by decide, by decide, by decide, by decide, m0, wide_mul (show (86028157 : Int).natAbs < 2 ^ 30 by decide) (lt_pow (n := 7) (by omega) (by omega)) (by decide) (by decide) (by decide), z3, fin _ _ ⟨_, _, _, rfl, ?_, ⟨?_, ?_⟩, ?_, ?_⟩⟩
    · split <;> omega
    · omega
    · omega
    · decide
    · decide
  refine ite_of (fun h => ?_) fun h => rest 0
  have hk : k < ns.length := by have := of_decide_eq_true h; simpa using this
  obtain ⟨n, e⟩ := at_int hk0 hk
  show match atI (ns.map T.int) k with
    | some t => closed t = true ∧ _
    | none => False
  rw [e]
  exact ⟨rfl, rest _⟩
def S__law_spin : FS := fun ts Q => ∃ t m n, ts = [t, .int m] ∧ Fo n t ∧ n < 2 ^ 100 ∧ (0 < m ∧ m ≤ 2 ^ 200) ∧ ∀ r t', 0 ≤ r → r < m → Fo (n + 1) t' → Q (.ret (.int r)) [t', .int m]
theorem l__law_spin : ∀ ts Q, S__law_spin ts Q → ts.length = 2 := fun ts Q ⟨o, ns, k, e, _⟩ => by rw [e]; rfl
theorem at_spin {t : T} {m : Int} {n : Nat} {Q : Rs → List T → Prop} (h : Fo n t) (hn : n < 2 ^ 100) (h0 : 0 < m) (h1 : m ≤ 2 ^ 200) (q : ∀ r t', 0 ≤ r → r < m → Fo (n + 1) t' → Q (.ret (.int r)) [t', .int m]) : S__law_spin [t, .int m] Q := ⟨t, m, n, rfl, h, hn, ⟨h0, h1⟩, q⟩
abbrev N__law_spin : List Str := ["reel", "many", "found", "mixed"]
def w__law_spin : WS :=
  (wSeq (wIfS (wTest (wOp gGt (wOp gIx (wV 0) (wC (.int 0))) (wC (.int 0)))) (wSeq (wAsg (wOp gMod (wCl gInt (wCons (wOp gIx (wV 0) (wC (.int 0))) wNil)) (wV 1)) (wgN 2)) (wSeq (wAsg (wOp gDiv (wOp gIx (wV 0) (wC (.int 0))) (wV 1)) (wgSub 0 (wC (.int 0)))) (wRet 1 (wV 2)))) wNext) (wSeq (wAsg (wOp gAdd (wOp gIx (wV 0) (wC (.int 2))) (wC (.int 1))) (wgSub 0 (wC (.int 2)))) (wSeq (wAsg (wOp gMod (wCl gInt (wCons (wOp gPow (wOp gAdd (wOp gIx (wV 0) (wC (.int 1))) (wOp gMulA (wC (.int 1299709)) (wOp gIx (wV 0) (wC (.int 2))))) (wC (.int 3))) wNil)) (wOp gAdd (wOp gPow (wC (.int 10)) (wC (.int 37))) (wC (.int 43)))) (wgN 3)) (wSeq (wAsg (wOp gMod (wCl gInt (wCons (wOp gPow (wOp gAdd (wV 3) (wOp gMulA (wC (.int 15485863)) (wOp gIx (wV 0) (wC (.int 2))))) (wC (.int 3))) wNil)) (wOp gAdd (wOp gPow (wC (.int 10)) (wC (.int 39))) (wC (.int 3)))) (wgN 3)) (wRet 1 (wOp gMod (wCl gInt (wCons (wOp gDiv (wV 3) (wOp gPow (wC (.int 10)) (wC (.int 6)))) wNil)) (wV 1)))))))
theorem v__law_spin : ∀ ts Qf, S__law_spin ts Qf → w__law_spin (endsD 1 ts Qf) (startD N__law_spin 1 ts) := by
  rintro ts Qf ⟨_, m, n, rfl, ⟨a, b, c, rfl, ha, ⟨hb, hb2⟩, hc, hcn⟩, hn, ⟨hm, hm2⟩, q⟩
  show w__law_spin (endsD 1 [.lst true [.int a, .int b, .int c], .int m] Qf) [some (.lst true [.int a, .int b, .int c]), some (.int m), none, none]
  have hm9 : m.natAbs.log2 < 9000 := Nat.lt_of_lt_of_le (PySem.Flt.log2_lt_of (show 0 < 201 by decide) (lt_pow (n := 201) (by omega) (by omega))) (show 201 ≤ 9000 by decide)
  refine ⟨rfl, ite_of (fun h => ?_) fun h => ?_⟩
  · have ha' : 0 < a := of_decide_eq_true h
    refine ⟨rfl, hm, rfl, hm, hm9, rfl, q _ _ (Int.emod_nonneg _ (by omega)) (Int.emod_lt_of_pos _ hm) ⟨_, _, _, rfl, Int.ediv_nonneg ha (by omega), ⟨hb, hb2⟩, hc, by omega⟩⟩
  · have c1 : (1299709 : Int) * (c + 1) < 2 ^ 200 := by omega
    have c0 : (0 : Int) ≤ 1299709 * (c + 1) := by omega
    have c2 : (15485863 : Int) * (c + 1) < 2 ^ 200 := by omega
    have c3 : (0 : Int) ≤ 15485863 * (c + 1) := by omega
    have m0 : (0 : Int) < 10 ^ (37 : Int).toNat + 43 := by decide
    have m1 : (0 : Int) < 10 ^ (39 : Int).toNat + 3 := by decide
    have m2 : (10 ^ (37 : Int).toNat + 43 : Int) < 2 ^ 200 := by decide
    have l1 : (c + 1).natAbs < 2 ^ 200 := lt_pow (by omega) (by omega)
    have x1 : (b + 1299709 * (c + 1)).natAbs < 2 ^ 201 := lt_pow (by omega) (by omega)
    have p0 := Int.emod_nonneg ((b + 1299709 * (c + 1)) ^ (3 : Int).toNat) (show (10 ^ (37 : Int).toNat + 43 : Int) ≠ 0 by decide)
    have p1 := Int.emod_lt_of_pos ((b + 1299709 * (c + 1)) ^ (3 : Int).toNat) m0
    have x2 : ((b + 1299709 * (c + 1)) ^ (3 : Int).toNat % (10 ^ (37 : Int).toNat + 43) + 15485863 * (c + 1)).natAbs < 2 ^ 201 := lt_pow (by omega) (by omega)
    have w1 : (1299709 : Int).natAbs < 2 ^ 30 := by decide
    have w2 : (15485863 : Int).natAbs < 2 ^ 30 := by decide
    have y1 := wide_mul w1 l1 (by decide) (by decide) (by decide)
    have y2 := wide_mul w2 l1 (by decide) (by decide) (by decide)
    refine ⟨rfl, rfl, rfl, rfl, y1, by decide, pow_ok x1 (by decide) (by decide), by decide, by decide, m0, rfl, y2, by decide, pow_ok x2 (by decide) (by decide), by decide, by decide, m1, by decide, by decide, by decide, by decide, hm,
      q _ _ (Int.emod_nonneg _ (by omega)) (Int.emod_lt_of_pos _ hm) ⟨_, _, _, rfl, ha, ⟨hb, hb2⟩, by omega, by omega⟩⟩
theorem Fo.mono {n m : Nat} {t : T} (h : Fo n t) (k : n ≤ m) : Fo m t := by
  obtain ⟨a, b, c, e, h1, h2, h3, h4⟩ := h
  exact ⟨a, b, c, e, h1, h2, h3, by omega⟩
theorem rng_at {n i : Nat} {t : T} (h : (rngT 0 n)[i]? = some t) : i < n ∧ t = .int (i : Int) := by
  unfold rngT at h
  rw [List.getElem?_map] at h
  by_cases hi : i < n
  · rw [List.getElem?_range hi] at h
    refine ⟨hi, ?_⟩
    have := (Option.some.inj h).symm
    rw [this]; simp
  · rw [List.getElem?_eq_none (by simpa using hi)] at h; cases h
end TL
set_option maxRecDepth 100000
set_option maxHeartbeats 1000000
namespace TL
open PySem PySem.Spec PyProof.Rows L2
theorem sq {a b : WS} {D : EndsD} {Δ : Dt} (h : a { D with nx := b D } Δ) : wSeq a b D Δ := h
def Rl (m : Int) (xs : List T) : Prop := ∃ (a b c d : Int) (r : Str) (p : Bool) (q : Str), xs = [.int a, .int b, .int c, .int d, .str r, .bl p, .str q] ∧ (1 ≤ a ∧ a ≤ m) ∧ (1 ≤ b ∧ b ≤ m) ∧ (1 ≤ c ∧ c ≤ m) ∧ (0 ≤ d ∧ d ≤ 2 * m + 3) ∧ (r = "none" ∨ r = "press" ∨ r = "held") ∧ (q = "turn" ∨ q = "stay" ∨ q = "s" ∨ q = "l")
theorem ix_ints {l : List Int} {P : Int → Prop} {o : Bool} {r : Int} {Q : T → Prop} (h0 : 0 ≤ r) (h1 : r < l.length) (hP : ∀ z ∈ l, P z) (q : ∀ z, P z → Q (.int z)) : gIx (.lst o (l.map T.int)) (.int r) Q := by
  have hk : r.toNat < l.length := by omega
  have e : atI (l.map T.int) r = some (.int l[r.toNat]) := by
    unfold atI ixN
    rw [List.length_map, if_pos h0, if_pos h1]
    simp [hk]
  show (match atI (l.map T.int) r with
    | some t => closed t = true ∧ Q t
    | none => False)
  rw [e]
  exact ⟨rfl, q _ (hP _ (List.getElem_mem hk))⟩
theorem ix_strs {l : List Str} {P : Str → Prop} {o : Bool} {r : Int} {Q : T → Prop} (h0 : 0 ≤ r) (h1 : r < l.length) (hP : ∀ z ∈ l, P z) (q : ∀ z, P z → Q (.str z)) : gIx (.lst o (l.map T.str)) (.int r) Q := by
  have hk : r.toNat < l.length := by omega
  have e : atI (l.map T.str) r = some (.str l[r.toNat]) := by
    unfold atI ixN
    rw [List.length_map, if_pos h0, if_pos h1]
    simp [hk]
  show (match atI (l.map T.str) r with
    | some t => closed t = true ∧ Q t
    | none => False)
  rw [e]
  exact ⟨rfl, q _ (hP _ (List.getElem_mem hk))⟩
def S__law_rules : FS := fun ts Q => ∃ (t : T) (most : Int) (n : Nat), ts = [t, .int most] ∧ Fo n t ∧ n < 2 ^ 98 ∧ (1 ≤ most ∧ most ≤ 10 ^ 29) ∧ ∀ xs t', Rl most xs → Fo (n + 20) t' → Q (.ret (.tup xs)) [t', .int most]
theorem l__law_rules : ∀ ts Q, S__law_rules ts Q → ts.length = 2 := fun ts Q ⟨_, _, _, e, _⟩ => by rw [e]; rfl
abbrev N__law_rules : List Str := ["reel", "most", "some", "turn", "low", "high", "deafs"]
def w__law_rules_1 : WS :=
  (wAsg (wLc (wiRng1 (wCons (wC (.int 3)) wNil)) (wgN 3) wYes (wOp gAdd (wC (.int 1)) (wCall S__law_spin (wCons (wV 0) (wCons (wV 1) wNil)))) [3]) (wgN 2))
def w__law_rules_2_1 : WS :=
  (wAsg (wOp gIx (wV 2) (wC (.int 0))) (wgSub 2 (wC (.int 1))))
def w__law_rules_2 : WS :=
  (wIfS (wTest (wOp (gEq false) (wCall S__law_spin (wCons (wV 0) (wCons (wC (.int 4)) wNil))) (wC (.int 0)))) w__law_rules_2_1 wNext)
def w__law_rules_3 : WS :=
  (wPar 4 5 (wCons (wOp gAdd (wCl gMinL (wCons (wSl (wV 2) woN (woS (wC (.int 2)))) wNil)) (wOp gIx (wV 2) (wC (.int 2)))) (wCons (wOp gAdd (wCl gMaxL (wCons (wSl (wV 2) woN (woS (wC (.int 2)))) wNil)) (wOp gIx (wV 2) (wC (.int 2)))) wNil)))
def w__law_rules_4 : WS :=
  (wAsg (wLst (wCons (wC (.int 0)) (wCons (wC (.int 0)) (wCons (wC (.int 1)) (wCons (wCall S__law_spin (wCons (wV 0) (wCons (wV 4) wNil))) (wCons (wOp gAdd (wV 4) (wCall S__law_spin (wCons (wV 0) (wCons (wOp gAdd (wOp TL.gSub (wV 5) (wV 4)) (wC (.int 1))) wNil)))) (wCons (wOp TL.gSub (wV 4) (wC (.int 1))) (wCons (wV 4) (wCons (wOp TL.gSub (wV 5) (wC (.int 1))) (wCons (wV 5) wNil)))))))))) (wgN 6))
def w__law_rules_5 : WS :=
  (wDrop (wApp 2 (wOp gIx (wOp gAdd (wV 6) (wLst (wCons (wOp gAdd (wV 5) (wC (.int 3))) wNil))) (wCall S__law_spin (wCons (wV 0) (wCons (wC (.int 10)) wNil))))))
def w__law_rules_6 : WS :=
  (wAsg (wOp gAdd (wV 2) (wLst (wCons (wOp gIx (wLst (wCons (wC (.str "none")) (wCons (wC (.str "press")) (wCons (wC (.str "held")) wNil)))) (wCall S__law_spin (wCons (wV 0) (wCons (wC (.int 3)) wNil)))) (wCons (wOp (gEq false) (wCall S__law_spin (wCons (wV 0) (wCons (wC (.int 2)) wNil))) (wC (.int 0))) wNil)))) (wgN 2))
def w__law_rules_7 : WS :=
  (wRet 1 (wCl gTupleOf (wCons (wOp gAdd (wV 2) (wLst (wCons (wOp gIx (wLst (wCons (wC (.str "turn")) (wCons (wC (.str "stay")) (wCons (wC (.str "s")) (wCons (wC (.str "l")) wNil))))) (wCall S__law_spin (wCons (wV 0) (wCons (wC (.int 4)) wNil)))) wNil))) wNil)))
def w__law_rules : WS :=
  (wSeq w__law_rules_1 (wSeq w__law_rules_2 (wSeq w__law_rules_3 (wSeq w__law_rules_4 (wSeq w__law_rules_5 (wSeq w__law_rules_6 w__law_rules_7))))))
section
variable {D : EndsD} {n : Nat} {t : T} {most a b c lo hi : Int} {x2 x3 x4 x5 x6 : Option T}
abbrev B7 (t : T) (most : Int) (x2 x3 x4 x5 x6 : Option T) : Dt := [some t, some (.int most), x2, x3, x4, x5, x6]
theorem r1 (hF : Fo n t) (hn : n < 2 ^ 99) (hm : 1 ≤ most ∧ most ≤ 10 ^ 29) (k : ∀ t' a b c, Fo (n + 3) t' → (1 ≤ a ∧ a ≤ most) → (1 ≤ b ∧ b ≤ most) → (1 ≤ c ∧ c ≤ most) → D.nx (B7 t' most (some (.lst true [.int a, .int b, .int c])) none x4 x5 x6)) : w__law_rules_1 D (B7 t most x2 x3 x4 x5 x6) := by
  refine ⟨by decide, by decide, fun i acc Δ => i ≤ 3 ∧ ∃ (t' : T) (l : List Int), Fo (n + i) t' ∧ acc = l.map .int ∧ l.length = i ∧ (∀ z ∈ l, 1 ≤ z ∧ z ≤ most) ∧ Δ = B7 t' most x2 none x4 x5 x6, ⟨by decide, t, [], hF, rfl, rfl, (fun z h => nomatch h), rfl⟩, ?_, ?_⟩
  · rintro i y acc Δ hy ⟨hi, t', l, hF', rfl, hl, hz, rfl⟩
    obtain ⟨hi', rfl⟩ := rng_at hy
    have hi3 : i < 3 := hi'
    refine ⟨rfl, at_spin hF' (by omega) (by omega) (by omega) fun r t2 r0 r1 hF2 => ⟨zz200 (by simp; omega), by omega, t2, l ++ [1 + r], hF2, ?_, by simp [hl], ?_, rfl⟩⟩
    · simp [frz]
    · intro z hz'
      rcases List.mem_append.mp hz' with h | h
      · exact hz z h
      · rw [List.mem_singleton.mp h]; omega
  · rintro acc Δ ⟨_, t', l, hF', rfl, hl, hz, rfl⟩
    have hl3 : l.length = 3 := hl
    match l, hl3, hz with
    | [a, b, c], _, hz => exact k t' a b c (hF'.mono (by show n + 3 ≤ n + 3; omega)) (hz a (by simp)) (hz b (by simp)) (hz c (by simp))
theorem r2 (hF : Fo n t) (hn : n < 2 ^ 99) (ha : 1 ≤ a ∧ a ≤ most) (hb : 1 ≤ b ∧ b ≤ most) (k : ∀ t' b, Fo (n + 1) t' → (1 ≤ b ∧ b ≤ most) → D.nx (B7 t' most (some (.lst true [.int a, .int b, .int c])) none x4 x5 x6)) : w__law_rules_2 D (B7 t most (some (.lst true [.int a, .int b, .int c])) none x4 x5 x6) := by
  refine ⟨rfl, at_spin hF (by omega) (by decide) (by decide) fun r t2 r0 r1 hF2 => ite_of (fun _ => ⟨rfl, rfl, k t2 a hF2 ha⟩) fun _ => k t2 b hF2 hb⟩
theorem r3 (ha : 1 ≤ a ∧ a ≤ most) (hb : 1 ≤ b ∧ b ≤ most) (hc : 1 ≤ c ∧ c ≤ most) (k : ∀ lo hi, 2 ≤ lo → lo ≤ hi → hi ≤ 2 * most → D.nx (B7 t most (some (.lst true [.int a, .int b, .int c])) none (some (.int lo)) (some (.int hi)) x6)) : w__law_rules_3 D (B7 t most (some (.lst true [.int a, .int b, .int c])) none x4 x5 x6) := by
  have mem : ∀ m, m ∈ [a, b] → 1 ≤ m ∧ m ≤ most := fun m hm => by
    simp only [List.mem_cons, List.not_mem_nil, or_false] at hm
    rcases hm with rfl | rfl
    · exact ha
    · exact hb
  refine ⟨rfl, show 0 < 2 by decide, fun m hm hmin => ⟨rfl, rfl, show 0 < 2 by decide, fun m2 hm2 hmax => ⟨rfl, k _ _ ?_ ?_ ?_⟩⟩⟩
  · have := mem m hm; omega
  · have := hmin m2 hm2; omega
  · have := mem m2 hm2; omega
theorem r456 (hF : Fo n t) (hn : n < 2 ^ 99) (hm : 1 ≤ most ∧ most ≤ 10 ^ 29) (h0 : 2 ≤ lo) (h1 : lo ≤ hi) (h2 : hi ≤ 2 * most) (k : ∀ xs t', (∀ (a b c : Int), True) → Fo (n + 8) t' → (∃ d r p q, xs = [T.int a, .int b, .int c, .int d, .str r, .bl p, .str q] ∧ (0 ≤ d ∧ d ≤ 2 * most + 3) ∧ (r = "none" ∨ r = "press" ∨ r = "held") ∧ (q = "turn" ∨ q = "stay" ∨ q = "s" ∨ q = "l")) → ∀ Δ, Δ[0]? = some (some t') → D.rt (.tup xs) Δ) :
    wSeq w__law_rules_4 (wSeq w__law_rules_5 (wSeq w__law_rules_6 w__law_rules_7)) D (B7 t most (some (.lst true [.int a, .int b, .int c])) none (some (.int lo)) (some (.int hi)) x6) := by
  refine ⟨rfl, at_spin hF (by omega) (by omega) (by omega) fun r1 t1 a1 b1 hF1 => ⟨rfl, at_spin hF1 (by omega) (by omega) (by omega) fun r2 t2 a2 b2 hF2 => ⟨by show 9 ≤ sizeLine; decide, z1, ⟨rfl, rfl⟩, by show 10 ≤ sizeLine; decide, rfl, at_spin hF2 (by omega) (by decide) (by decide) fun r3 t3 a3 b3 hF3 => ?_⟩⟩⟩
  dsimp only [onV, onVs, look, List.getElem?_cons_zero, List.getElem?_cons_succ, List.set_cons_zero, List.set_cons_succ, wOp, wV, wC, wUn, wCl, wCons, wNil, wTest, backs]
  refine ix_ints (l := [0, 0, 1, r1, lo + r2, lo - 1, lo, hi - 1, hi, hi + 3]) (P := fun z => 0 ≤ z ∧ z ≤ 2 * most + 3) a3 b3 ?_ fun d hd => ?_
  · intro z hz
    simp only [List.mem_cons, List.not_mem_nil, or_false] at hz
    rcases hz with rfl | rfl | rfl | rfl | rfl | rfl | rfl | rfl | rfl | rfl <;> omega
  refine ⟨rfl, show 3 < sizeLine by decide, z3, rfl, at_spin hF3 (by omega) (by decide) (by decide) fun r4 t4 a4 b4 hF4 => ?_⟩
  dsimp only [onV, onVs, look, List.getElem?_cons_zero, List.getElem?_cons_succ, List.set_cons_zero, List.set_cons_succ, wOp, wV, wC, wUn, wCl, wCons, wNil, wTest, backs]
  refine ix_strs (l := ["none", "press", "held"]) (P := fun z => z = "none" ∨ z = "press" ∨ z = "held") a4 b4 (by simp) fun r hr => ?_
  refine ⟨rfl, at_spin hF4 (by omega) (by decide) (by decide) fun r5 t5 a5 b5 hF5 => ⟨z2, ⟨rfl, rfl⟩, show 6 ≤ sizeLine by decide, z4, rfl, at_spin hF5 (by omega) (by decide) (by decide) fun r6 t6 a6 b6 hF6 => ?_⟩⟩
  dsimp only [onV, onVs, look, List.getElem?_cons_zero, List.getElem?_cons_succ, List.set_cons_zero, List.set_cons_succ, wOp, wV, wC, wUn, wCl, wCons, wNil, wTest, backs]
  refine ix_strs (l := ["turn", "stay", "s", "l"]) (P := fun z => z = "turn" ∨ z = "stay" ∨ z = "s" ∨ z = "l") a6 b6 (by simp) fun q hq => ?_
  exact ⟨z1, ⟨rfl, rfl⟩, show 7 ≤ sizeLine by decide, rfl, k _ t6 (fun _ _ _ => trivial) (hF6.mono (by omega)) ⟨d, r, _, q, rfl, hd, hr, hq⟩ _ rfl⟩
end
theorem v__law_rules : ∀ ts Qf, S__law_rules ts Qf → w__law_rules (endsD 1 ts Qf) (startD N__law_rules 1 ts) := by
  rintro ts Qf ⟨t, most, n, rfl, hF, hn, hm, q⟩
  have fin : ∀ xs Δ t', Rl most xs → Fo (n + 20) t' → Δ[0]? = some (some t') → (endsD 1 [t, .int most] Qf).rt (.tup xs) Δ := fun xs Δ t' h1 h2 h3 => by
    have := q xs t' h1 h2
    show look Δ 0 fun u => Qf (.ret (.tup xs)) ([u] ++ [.int most])
    unfold look
    rw [h3]; exact this
  show w__law_rules (endsD 1 [t, .int most] Qf) (B7 t most none none none none none)
  revert fin
  generalize endsD 1 [t, .int most] Qf = D
  intro fin
  refine sq (r1 hF (by omega) hm fun t1 a b c hF1 ha hb hc => ?_)
  dsimp only
  refine sq (r2 hF1 (by omega) ha hb fun t2 b hF2 hb => ?_)
  dsimp only
  refine sq (r3 ha hb hc fun lo hi h0 h1 h2 => ?_)
  dsimp only
  refine r456 hF2 (by omega) hm h0 h1 h2 fun xs t' _ hF3 hx Δ e => ?_
  obtain ⟨d, r, p, q, rfl, hd, hr, hq⟩ := hx
  exact fin _ Δ t' ⟨a, b, c, d, r, p, q, rfl, by omega, by omega, by omega, hd, hr, hq⟩ (hF3.mono (by omega)) e
end TL
set_option maxRecDepth 100000
set_option maxHeartbeats 1000000
namespace TL
open PySem PySem.Spec PyProof.Rows L2
theorem place_false : ∀ bs : List Bool, (bs.all id = true → placeT (.bl false) (bs.map .bl) = none) ∧ (bs.all id = false → ∃ j, placeT (.bl false) (bs.map .bl) = some j)
  | [] => ⟨fun _ => rfl, fun h => by cases h⟩
  | false :: r => ⟨fun h => by simp at h, fun _ => ⟨0, rfl⟩⟩
  | true :: r => by
    obtain ⟨h1, h2⟩ := place_false r
    have e : placeT (.bl false) ((true :: r).map .bl) = (placeT (.bl false) (r.map .bl)).map (· + 1) := rfl
    rw [e]
    refine ⟨fun h => ?_, fun h => ?_⟩
    · rw [h1 (by simpa using h)]; rfl
    · obtain ⟨j, hj⟩ := h2 (by simpa using h)
      exact ⟨j + 1, by rw [hj]; rfl⟩
/-- what is wrong with a value that should be rules: nothing, or what the error's index is -/
def rfault (v : T) : Option T := match v with
  | .tup xs => if xs.length = 7 then (match placeT (.bl false) ((flg xs).map .bl) with
    | none => none
    | some j => some (.int (j : Nat))) else some .non
  | _ => some .non
theorem rfault_flat (v i : T) (h : rfault v = some i) : closed i = true ∧ flT i = true := by
  unfold rfault at h
  split at h
  · split at h
    · split at h
      · cases h
      · cases h; exact ⟨rfl, rfl⟩
    · cases h; exact ⟨rfl, rfl⟩
  · cases h; exact ⟨rfl, rfl⟩
def S_require_rules : FS := fun ts Q => ∃ v, ts = [v] ∧ dat (frz v) = true ∧ (rfault (frz v) = none → Q (.ret .non) [frz v]) ∧ ∀ i, rfault (frz v) = some i → Q (.exc "InvalidRules" [("index", i)]) [frz v]
theorem l_require_rules : ∀ ts Q, S_require_rules ts Q → ts.length = 1 := fun ts Q ⟨_, e, _⟩ => by rw [e]; rfl
abbrev N_require_rules : List Str := ["value", "flags"]
def w_require_rules : WS :=
  (wSeq (wIfS (wOr (wNot (wTru (wCl gIsi (wCons (wV 0) (wCons (wC (.ty "tuple")) wNil))))) (wTest (wOp (gEq true) (wCl gLen (wCons (wV 0) wNil)) (wC (.int 7))))) (wRaise "InvalidRules" ["index"] (wCons (wC .non) wNil)) wNext) (wSeq (wAsg (wCall S_rules_flags (wCons (wV 0) wNil)) (wgN 1)) (wIfS (wTest (wOp (gIn false) (wC (.bl false)) (wV 1))) (wRaise "InvalidRules" ["index"] (wCons (wLIx (wV 1) (wC (.bl false))) wNil)) wNext)))
theorem v_require_rules : ∀ ts Qf, S_require_rules ts Qf → w_require_rules (endsX 0 ts Qf) (startD N_require_rules 0 ts) := by
  rintro ts Qf ⟨v, rfl, hd, q1, q2⟩
  show w_require_rules (endsX 0 [v] Qf) [some (frz v), none]
  have fin : ∀ Δ, rfault (frz v) = none → (endsX 0 [v] Qf).nx Δ := fun Δ e => q1 e
  have bad : ∀ i Δ, rfault (frz v) = some i → (endsX 0 [v] Qf).ex "InvalidRules" [("index", i)] Δ := fun i Δ e => q2 i e
  revert fin bad
  generalize endsX 0 [v] Qf = D
  revert hd
  generalize frz v = u
  intro hd fin bad
  cases u with
  | tup xs =>
    have hx : datL xs = true := by simpa [dat] using hd
    refine ⟨rfl, rfl, ?_⟩
    by_cases h7 : xs.length = 7
    · obtain ⟨a, b, c, d, e, f, g, rfl⟩ := seven h7
      refine ⟨rfl, at_flags rfl hx ⟨rfl, bls_fl _, ?_⟩⟩
      rw [in_false]
      obtain ⟨p1, p2⟩ := place_false (flg [a, b, c, d, e, f, g])
      refine ite_of (fun h => ?_) fun h => fin _ ?_
      · have h' : (flg [a, b, c, d, e, f, g]).all id = false := by simpa [nb] using h
        obtain ⟨j, hj⟩ := p2 h'
        refine ⟨rfl, bls_fl _, ?_⟩
        rw [hj]
        exact ⟨rfl, rfl, bad _ _ (by simp [rfault, hj])⟩
      · have h' : (flg [a, b, c, d, e, f, g]).all id = true := by simpa [nb] using h
        simp [rfault, p1 h']
    · refine ite_of (fun h => ⟨rfl, rfl, bad _ _ (by simp [rfault, h7])⟩) fun h => ?_
      have h' : decide ((xs.length : Int) = 7) = true := by simpa [nb] using h
      exact absurd (of_decide_eq_true h') (by omega)
  | ins o C fs => simp [dat] at hd
  | fn a => simp [dat] at hd
  | ty n => simp [dat] at hd
  | exc _ _ _ _ => simp [dat] at hd
  | exv _ _ => simp [dat] at hd
  | _ => exact ⟨rfl, rfl, rfl, rfl, bad _ _ rfl⟩
end TL
set_option maxRecDepth 100000
set_option maxHeartbeats 1000000
namespace TL
open PySem PySem.Spec PyProof.Rows L2
theorem Ru.Ok.flg {x : Ru} {M : Int} (h : x.Ok M) : (TL.flg x.l).all id = true := by
  have e1 : inT (.str x.r) remT = true := by rcases h.r with e | e | e <;> rw [e] <;> decide +kernel
  have e2 : inT (.str x.q) prfT = true := by rcases h.q with e | e | e | e <;> rw [e] <;> decide +kernel
  have f1 : decide ((1 : Int) ≤ x.a) = true := decide_eq_true h.a.1
  have f2 : decide ((1 : Int) ≤ x.b) = true := decide_eq_true h.b.1
  have f3 : decide ((1 : Int) ≤ x.c) = true := decide_eq_true h.c.1
  have f4 : decide ((0 : Int) ≤ x.d) = true := decide_eq_true h.d.1
  simp only [Ru.l, TL.flg, intB, strB, blB, e1, e2, f1, f2, f3, f4]
  rfl
def KQ (k : Str) : Prop := k = "s" ∨ k = "l"
def Ru.len (x : Ru) (k : Str) : Int := if k = "s" then x.a else x.b
def S_length_of : FS := fun ts Q => ∃ (x : Ru) (k : Str), ts = [x.t, .str k] ∧ Q (.ret (.int (x.len k))) [x.t, .str k]
theorem l_length_of : ∀ ts Q, S_length_of ts Q → ts.length = 2 := fun ts Q ⟨_, _, e, _⟩ => by rw [e]; rfl
theorem at_length {x : Ru} {k : Str} {Q : Rs → List T → Prop} (q : Q (.ret (.int (x.len k))) [x.t, .str k]) : S_length_of [x.t, .str k] Q := ⟨x, k, rfl, q⟩
abbrev N_length_of : List Str := ["rules", "kind"]
def w_length_of : WS :=
  (wRet 0 (wIf (wTest (wOp (gEq false) (wV 1) (wC (.str "s")))) (wOp gIx (wV 0) (wC (.int 0))) (wOp gIx (wV 0) (wC (.int 1)))))
theorem v_length_of : ∀ ts Qf, S_length_of ts Qf → w_length_of (endsD 0 ts Qf) (startD N_length_of 0 ts) := by
  rintro ts Qf ⟨x, k, rfl, q⟩
  show w_length_of (endsD 0 [x.t, .str k] Qf) [some x.t, some (.str k)]
  have fin : ∀ i Δ, i = x.len k → (endsD 0 [x.t, .str k] Qf).rt (.int i) Δ := fun i Δ e => by rw [e]; exact q
  revert fin
  generalize endsD 0 [x.t, .str k] Qf = D
  intro fin
  refine ite_of (fun h => ⟨rfl, fin _ _ ?_⟩) fun h => ⟨rfl, fin _ _ ?_⟩
  · have h : decide (k = "s") = true := h
    exact (if_pos (of_decide_eq_true h)).symm
  · have h : decide (k = "s") = false := h
    exact (if_neg (of_decide_eq_false h)).symm
def S_period_of : FS := fun ts Q => ∃ (x : Ru) (k : Str), ts = [x.t, .str k] ∧ Q (.ret (.int (x.len k + x.c))) [x.t, .str k]
theorem l_period_of : ∀ ts Q, S_period_of ts Q → ts.length = 2 := fun ts Q ⟨_, _, e, _⟩ => by rw [e]; rfl
theorem at_periodof {x : Ru} {k : Str} {Q : Rs → List T → Prop} (q : Q (.ret (.int (x.len k + x.c))) [x.t, .str k]) : S_period_of [x.t, .str k] Q := ⟨x, k, rfl, q⟩
abbrev N_period_of : List Str := ["rules", "kind"]
def w_period_of : WS :=
  (wRet 0 (wOp gAdd (wCall S_length_of (wCons (wV 0) (wCons (wV 1) wNil))) (wOp gIx (wV 0) (wC (.int 2)))))
theorem v_period_of : ∀ ts Qf, S_period_of ts Qf → w_period_of (endsD 0 ts Qf) (startD N_period_of 0 ts) := by
  rintro ts Qf ⟨x, k, rfl, q⟩
  show w_period_of (endsD 0 [x.t, .str k] Qf) [some x.t, some (.str k)]
  have fin : ∀ Δ, (endsD 0 [x.t, .str k] Qf).rt (.int (x.len k + x.c)) Δ := fun Δ => q
  revert fin
  generalize endsD 0 [x.t, .str k] Qf = D
  intro fin
  exact ⟨rfl, at_length ⟨rfl, fin _⟩⟩
theorem inq (q : Str) : inT (.str q) [.str "s", .str "l"] = decide (q = "s" ∨ q = "l") := by
  show (eqV (.str "s") (.str q) || (eqV (.str "l") (.str q) || false)) = _
  by_cases h1 : q = "s"
  · subst h1; rfl
  · by_cases h2 : q = "l"
    · subst h2; rfl
    · have h1' : ¬ (("s" : Str) = q) := fun z => h1 z.symm
      have h2' : ¬ (("l" : Str) = q) := fun z => h2 z.symm
      simp [eqV, h1, h2, h1', h2']
def S_plain_of : FS := fun ts Q => ∃ (x : Ru), ts = [x.t] ∧ Q (.ret x.pl.t) [x.t]
theorem l_plain_of : ∀ ts Q, S_plain_of ts Q → ts.length = 1 := fun ts Q ⟨_, e, _⟩ => by rw [e]; rfl
theorem at_plainof {x : Ru} {Q : Rs → List T → Prop} (q : Q (.ret x.pl.t) [x.t]) : S_plain_of [x.t] Q := ⟨x, rfl, q⟩
abbrev N_plain_of : List Str := ["rules", "first", "second", "pause", "deaf", "remember", "again", "both", "low", "high", "greater"]
def w_plain_of_1 : WS :=
  (wAsg (wV 0) (wgTup 7 (wgCons (wgN 1) (wgCons (wgN 2) (wgCons (wgN 3) (wgCons (wgN 4) (wgCons (wgN 5) (wgCons (wgN 6) (wgCons (wgN 7) wgNil)))))))))
def w_plain_of_2 : WS :=
  (wPar 8 9 (wCons (wOp gAdd (wCl gMin2 (wCons (wV 1) (wCons (wV 2) wNil))) (wV 3)) (wCons (wOp gAdd (wCl gMax2 (wCons (wV 1) (wCons (wV 2) wNil))) (wV 3)) wNil)))
def w_plain_of_3_1 : WS :=
  (wRet 0 (wTup (wCons (wV 1) (wCons (wV 2) (wCons (wV 3) (wCons (wC (.int 0)) (wCons (wC (.str "none")) (wCons (wC (.bl false)) (wCons (wV 7) wNil)))))))))
def w_plain_of_3 : WS :=
  (wIfS (wOr (wTest (wOp gGe (wV 4) (wV 9))) (wAnd (wTest (wOp (gEq false) (wV 5) (wC (.str "none")))) (wNot (wTru (wV 6))))) w_plain_of_3_1 wNext)
def w_plain_of_4_1 : WS :=
  (wAsg (wC (.str "turn")) (wgN 7))
def w_plain_of_4_e1_1 : WS :=
  (wAsg (wIf (wTest (wOp gGt (wV 1) (wV 2))) (wC (.str "s")) (wC (.str "l"))) (wgN 10))
def w_plain_of_4_e1_2 : WS :=
  (wAsg (wIf (wTest (wOp (gEq false) (wV 7) (wV 10))) (wC (.str "turn")) (wC (.str "stay"))) (wgN 7))
def w_plain_of_4_e1 : WS :=
  (wIfS (wAnd (wTest (wOp (gEq false) (wV 5) (wC (.str "held")))) (wTest (wOp (gIn false) (wV 7) (wTup (wCons (wC (.str "s")) (wCons (wC (.str "l")) wNil)))))) (wSeq w_plain_of_4_e1_1 w_plain_of_4_e1_2) wNext)
def w_plain_of_4 : WS :=
  (wIfS (wAnd (wTest (wOp (gEq false) (wV 5) (wC (.str "held")))) (wTest (wOp gLt (wV 4) (wV 8)))) w_plain_of_4_1 w_plain_of_4_e1)
def w_plain_of_5 : WS :=
  (wRet 0 (wTup (wCons (wV 1) (wCons (wV 2) (wCons (wV 3) (wCons (wV 4) (wCons (wV 5) (wCons (wV 6) (wCons (wV 7) wNil)))))))))
def w_plain_of : WS :=
  (wSeq w_plain_of_1 (wSeq w_plain_of_2 (wSeq w_plain_of_3 (wSeq w_plain_of_4 w_plain_of_5))))
theorem v_plain_of : ∀ ts Qf, S_plain_of ts Qf → w_plain_of (endsD 0 ts Qf) (startD N_plain_of 0 ts) := by
  rintro ts Qf ⟨x, rfl, q⟩
  show w_plain_of (endsD 0 [x.t] Qf) [some x.t, none, none, none, none, none, none, none, none, none, none]
  have fin : ∀ y Δ, y = x.pl.t → (endsD 0 [x.t] Qf).rt y Δ := fun y Δ e => by rw [e]; exact q
  revert fin
  generalize endsD 0 [x.t] Qf = D
  intro fin
  have tail : ∀ (q' : Str) (z : Option T), x.big = false → q' = x.nq → w_plain_of_5 D [some x.t, some (.int x.a), some (.int x.b), some (.int x.c), some (.int x.d), some (.str x.r), some (.bl x.p), some (.str q'), some (.int x.lo), some (.int x.hi), z] := fun q' z hb e => by
    refine ⟨z7, fin _ _ ?_⟩
    have : x.pl = ⟨x.a, x.b, x.c, x.d, x.r, x.p, x.nq⟩ := if_neg (by rw [hb]; simp)
    rw [this, e]; rfl
  refine sq ⟨rfl, ?_⟩
  show wSeq w_plain_of_2 (wSeq w_plain_of_3 (wSeq w_plain_of_4 w_plain_of_5)) D [some x.t, some (.int x.a), some (.int x.b), some (.int x.c), some (.int x.d), some (.str x.r), some (.bl x.p), some (.str x.q), none, none, none]
  refine sq ?_
  show wSeq w_plain_of_3 (wSeq w_plain_of_4 w_plain_of_5) D [some x.t, some (.int x.a), some (.int x.b), some (.int x.c), some (.int x.d), some (.str x.r), some (.bl x.p), some (.str x.q), some (.int x.lo), some (.int x.hi), none]
  have isbig : x.big = true → ∀ Δ, D.rt (.tup [.int x.a, .int x.b, .int x.c, .int 0, .str "none", .bl false, .str x.q]) Δ := fun hb Δ => by
    refine fin _ _ ?_
    have : x.pl = ⟨x.a, x.b, x.c, 0, "none", false, x.q⟩ := if_pos hb
    rw [this]
  have rest : x.big = false → wSeq w_plain_of_4 w_plain_of_5 D [some x.t, some (.int x.a), some (.int x.b), some (.int x.c), some (.int x.d), some (.str x.r), some (.bl x.p), some (.str x.q), some (.int x.lo), some (.int x.hi), none] := fun hb => by
    have els : ¬ (x.r = "held" ∧ x.d < x.lo) → w_plain_of_4_e1 { D with nx := w_plain_of_5 D } [some x.t, some (.int x.a), some (.int x.b), some (.int x.c), some (.int x.d), some (.str x.r), some (.bl x.p), some (.str x.q), some (.int x.lo), some (.int x.hi), none] := fun hn => by
      refine ite_of (fun h => ⟨z2, rfl, rfl, ite_of (fun h2 => ?_) fun h2 => ?_⟩) fun h => ?_
      · have h1 : x.r = "held" := of_decide_eq_true h
        have h2' : x.q = "s" ∨ x.q = "l" := by
          have h2 : inT (.str x.q) [.str "s", .str "l"] = true := h2
          rw [inq] at h2; exact of_decide_eq_true h2
        have hlo : ¬ x.d < x.lo := fun z => hn ⟨h1, z⟩
        have enq : x.nq = (if x.q = Ru.gq x.a x.b then ("turn" : Str) else ("stay" : Str)) := by
          unfold Ru.nq
          rw [if_pos h1, if_neg hlo, if_pos h2']
        have go : ∀ g : Str, g = Ru.gq x.a x.b → w_plain_of_4_e1_2 { D with nx := w_plain_of_5 D } [some x.t, some (.int x.a), some (.int x.b), some (.int x.c), some (.int x.d), some (.str x.r), some (.bl x.p), some (.str x.q), some (.int x.lo), some (.int x.hi), some (.str g)] := fun g eg => by
          refine ite_of (fun h3 => tail "turn" _ hb ?_) fun h3 => tail "stay" _ hb ?_
          · have h3 : x.q = g := of_decide_eq_true h3
            rw [enq, if_pos (h3.trans eg)]
          · have h3 : ¬ x.q = g := of_decide_eq_false h3
            rw [enq, if_neg (fun z => h3 (z.trans eg.symm))]
        refine sq (ite_of (fun h3 => go "s" ?_) fun h3 => go "l" ?_)
        · have h3 : decide (x.b < x.a) = true := h3
          exact (if_pos (of_decide_eq_true h3)).symm
        · have h3 : decide (x.b < x.a) = false := h3
          exact (if_neg (of_decide_eq_false h3)).symm
      · refine tail x.q _ hb ?_
        have h1 : x.r = "held" := of_decide_eq_true h
        have h2' : ¬ (x.q = "s" ∨ x.q = "l") := by
          have h2 : inT (.str x.q) [.str "s", .str "l"] = false := h2
          rw [inq] at h2; exact of_decide_eq_false h2
        have hlo : ¬ x.d < x.lo := fun z => hn ⟨h1, z⟩
        unfold Ru.nq
        rw [if_pos h1, if_neg hlo, if_neg h2']
      · refine tail x.q _ hb ?_
        have h1 : ¬ x.r = "held" := of_decide_eq_false h
        unfold Ru.nq
        rw [if_neg h1]
    refine sq (ite_of (fun h => ite_of (fun h2 => tail "turn" _ hb ?_) fun h2 => els ?_) fun h => els ?_)
    · have h1 : x.r = "held" := of_decide_eq_true h
      have h2 : decide (x.d < x.lo) = true := h2
      unfold Ru.nq
      rw [if_pos h1, if_pos (of_decide_eq_true h2)]
    · have h2 : decide (x.d < x.lo) = false := h2
      exact fun z => (of_decide_eq_false h2) z.2
    · exact fun z => (of_decide_eq_false (show decide (x.r = "held") = false from h)) z.1
  refine sq (ite_of (fun h => ⟨z7, isbig ?_ _⟩) fun h => ite_of (fun h2 => ite_of (fun h3 => ⟨z7, isbig ?_ _⟩) fun h3 => rest ?_) fun h2 => rest ?_)
  · have h : decide (x.hi ≤ x.d) = true := h
    simp [Ru.big, h]
  · have h2 : decide (x.r = "none") = true := h2
    have h3 : (!x.p) = true := h3
    simp only [Ru.big, h2, h3]; simp
  · have h : decide (x.hi ≤ x.d) = false := h
    have h3 : (!x.p) = false := h3
    simp only [Ru.big, h, h3]; simp
  · have h : decide (x.hi ≤ x.d) = false := h
    have h2 : decide (x.r = "none") = false := h2
    simp only [Ru.big, h, h2]; simp
/-- rules as data -/
theorem log_of {i M : Int} (h : 0 ≤ i ∧ i ≤ M) (hM : M ≤ 10 ^ 40) : i.natAbs.log2 < 140 := PySem.Flt.log2_lt_of (show 0 < 140 by decide) (lt_pow (n := 140) h.1 (by omega))
theorem Ru.Ok.okT {x : Ru} {M : Int} (h : x.Ok M) (hM : M ≤ 10 ^ 40) : okT x.t = true := by
  have ha := log_of (i := x.a) ⟨by have := h.a; omega, h.a.2⟩ hM
  have hb := log_of (i := x.b) ⟨by have := h.b; omega, h.b.2⟩ hM
  have hc := log_of (i := x.c) ⟨by have := h.c; omega, h.c.2⟩ hM
  have hd := log_of (i := x.d) ⟨by have := h.d; omega, h.d.2⟩ hM
  have e1 : asc x.r = true := by rcases h.r with e | e | e <;> rw [e] <;> decide +kernel
  have e2 : asc x.q = true := by rcases h.q with e | e | e | e <;> rw [e] <;> decide +kernel
  simp only [TL.okT, okL, e1, e2, Bool.and_true, Bool.and_eq_true, decide_eq_true_eq]
  omega
theorem Ru.dp (x : Ru) : dpT x.t = 1 := by simp [dpT, dpL]
theorem rfault_ok {x : Ru} {M : Int} (h : x.Ok M) : rfault x.t = none := by
  have e := (place_false (TL.flg x.l)).1 h.flg
  show (if x.l.length = 7 then (match placeT (.bl false) ((TL.flg x.l).map .bl) with
    | none => (none : Option T)
    | some j => some (T.int (j : Nat))) else some T.non) = none
  rw [if_pos (show x.l.length = 7 from rfl), e]
theorem Ru.dat (x : Ru) : TL.dat x.t = true := rfl
theorem at_req_ok {x : Ru} {M : Int} {Q : Rs → List T → Prop} (h : x.Ok M) (q : Q (.ret .non) [x.t]) : S_require_rules [x.t] Q := ⟨x.t, rfl, rfl, fun _ => q, fun i e => by
  have e : rfault x.t = some i := e
  rw [rfault_ok h] at e; cases e⟩
theorem at_req_bad {v i : T} {Q : Rs → List T → Prop} (hd : dat v = true) (h : rfault v = some i) (q : Q (.exc "InvalidRules" [("index", i)]) [v]) : S_require_rules [v] Q := by
  have e := dat_frz hd
  refine ⟨v, rfl, by rw [e]; exact hd, fun z => ?_, fun j z => ?_⟩
  · rw [e, h] at z; cases z
  · rw [e, h] at z
    cases z
    rw [e]; exact q
end TL
set_option maxRecDepth 100000
set_option maxHeartbeats 1000000
namespace TL
open PySem PySem.Spec PyProof.Rows L2
abbrev levT : List T := [.str "s", .str "l"]
def evB : T → Bool
  | .tup [a, b, c] => intB a .non && ((strB b && inT b levT) && blB c)
  | _ => false
theorem in_lev (l : Str) : inT (.str l) levT = (decide (l = "s") || decide (l = "l")) := by
  simp only [inT, levT, List.any_cons, List.any_nil, scV, eqV, Bool.or_false]
  by_cases h1 : l = "s"
  · subst h1; simp
  · by_cases h2 : l = "l"
    · subst h2; simp
    · have e1 : (("s" : Str) == l) = false := by simpa using fun e => h1 e.symm
      have e2 : (("l" : Str) == l) = false := by simpa using fun e => h2 e.symm
      simp [e1, e2, h1, h2]
theorem evB_inv {x : T} (h : evB x = true) : ∃ t l b, x = .tup [.int t, .str l, .bl b] ∧ (l = "s" ∨ l = "l") := by
  unfold evB at h
  split at h
  · rename_i a b c
    simp only [Bool.and_eq_true] at h
    cases a <;> first | (simp [intB] at h; done) | skip
    cases b <;> first | (simp [strB] at h; done) | skip
    cases c <;> first | (simp [blB] at h; done) | skip
    have h2 := h.2.1.2
    rw [in_lev] at h2
    exact ⟨_, _, _, rfl, by simpa using h2⟩
  · cases h
def S_is_event : FS := fun ts Q => ∃ v, ts = [v] ∧ dat (frz v) = true ∧ Q (.ret (.bl (evB (frz v)))) [frz v]
theorem l_is_event : ∀ ts Q, S_is_event ts Q → ts.length = 1 := fun ts Q ⟨v, e, _⟩ => by rw [e]; rfl
abbrev N_is_event : List Str := ["value"]
def w_is_event : WS :=
  (wSeq (wIfS (wOr (wNot (wTru (wCl gIsi (wCons (wV 0) (wCons (wC (.ty "tuple")) wNil))))) (wTest (wOp (gEq true) (wCl gLen (wCons (wV 0) wNil)) (wC (.int 3))))) (wRet 0 (wC (.bl false))) wNext) (wRet 0 (wAndV (wCallD S_is_integer [.non] (wCons (wOp gIx (wV 0) (wC (.int 0))) wNil)) (wAndV (wCall S_is_one_of (wCons (wOp gIx (wV 0) (wC (.int 1))) (wCons (wC (.tup [.str "s", .str "l"])) wNil))) (wCl gIsi (wCons (wOp gIx (wV 0) (wC (.int 2))) (wCons (wC (.ty "bool")) wNil)))))))
theorem at_is_integer0 {v : T} {Q : Rs → List T → Prop} (h : tyOk v = true) (q : Q (.ret (.bl (intB v .non))) [frz v, frz .non]) : S_is_integer [v, .non] Q := ⟨v, .non, rfl, h, .inl rfl, q⟩
theorem at_is_one_of0 {v : T} {ws : List T} {Q : Rs → List T → Prop} (h : tyOk v = true) (hw : ws.all flT = true) (q : Q (.ret (.bl (strB v && inT v ws))) [frz v, .tup (frzL ws)]) : S_is_one_of [v, .tup ws] Q := ⟨v, ws, rfl, h, hw, q⟩
theorem v_is_event : ∀ ts Qf, S_is_event ts Qf → w_is_event (endsD 0 ts Qf) (startD N_is_event 0 ts) := by
  rintro ts Qf ⟨v, rfl, hd, q⟩
  show w_is_event (endsD 0 [v] Qf) [some (frz v)]
  have q' : (endsD 0 [v] Qf).rt (.bl (evB (frz v))) [some (frz v)] := q
  revert q'
  generalize endsD 0 [v] Qf = D
  revert hd
  generalize frz v = u
  intro hd q'
  cases u with
  | tup xs =>
    match xs, hd, q' with
    | [a, b, c], hd, q' =>
      simp only [dat, datL, Bool.and_true, Bool.and_eq_true] at hd
      obtain ⟨ha, hb, hc⟩ := hd
      have ta := dat_ty ha
      have tb := dat_ty hb
      have tc := dat_ty hc
      have cc : (tyN c == "") = false := by simpa [tyOk] using tc
      have fa := dat_frz ha
      have fb := dat_frz hb
      have ca := dat_closed a ha
      have cb := dat_closed b hb
      have cl := dat_closed c hc
      have ec : isiB (tyN c) "bool" = blB c := by cases c <;> first | rfl | (simp [dat] at hc; done) | (simp [tyN, isiB, blB])
      have no : evB (.tup [a, b, c]) = false → D.rt (.bl false) [some (.tup [a, b, c])] := fun e => by rw [← e]; exact q'
      refine ⟨rfl, rfl, ca, rfl, at_is_integer0 ta (ite_of (fun h1 => ⟨cb, rfl, at_is_one_of0 tb rfl (ite_of (fun h2 => ⟨cl, cc, rfl, ?_⟩) fun h2 => ?_)⟩) fun h1 => ?_)⟩
      · have e : evB (.tup [a, b, c]) = isiB (tyN c) "bool" := by simp only [evB]; rw [h1, h2, ec]; rfl
        exact e ▸ q'
      · exact no (by simp only [evB]; rw [h1, h2]; rfl)
      · exact no (by simp only [evB]; rw [h1]; rfl)
    | [], hd, q' => simpa [wSeq, wIfS, wOr, wAnd, wNot, wTru, wTest, wCl, wCons, wNil, wV, wC, wRet, wRetN, wOrV, wAndV, wNotV, wOp, wUn, wIf, wAsg, wTake, wgN, wgTup, wgCons, wgNil, wPar, wLst, wTup, wTakes, wDrop, wNext, wNever, look, onV, onVs, truT, gIsi, gIs, isNon, nb, gCmp, gLen, gAbs, gInt, endsD, lookUp, frz, wCall, wCallD, dupOk, hasPl, closedAt, backs, tyN, isiB, w_is_event, gEq, evB] using q'
    | [a], hd, q' => simpa [wSeq, wIfS, wOr, wAnd, wNot, wTru, wTest, wCl, wCons, wNil, wV, wC, wRet, wRetN, wOrV, wAndV, wNotV, wOp, wUn, wIf, wAsg, wTake, wgN, wgTup, wgCons, wgNil, wPar, wLst, wTup, wTakes, wDrop, wNext, wNever, look, onV, onVs, truT, gIsi, gIs, isNon, nb, gCmp, gLen, gAbs, gInt, endsD, lookUp, frz, wCall, wCallD, dupOk, hasPl, closedAt, backs, tyN, isiB, w_is_event, gEq, evB] using q'
    | [a, b], hd, q' => simpa [wSeq, wIfS, wOr, wAnd, wNot, wTru, wTest, wCl, wCons, wNil, wV, wC, wRet, wRetN, wOrV, wAndV, wNotV, wOp, wUn, wIf, wAsg, wTake, wgN, wgTup, wgCons, wgNil, wPar, wLst, wTup, wTakes, wDrop, wNext, wNever, look, onV, onVs, truT, gIsi, gIs, isNon, nb, gCmp, gLen, gAbs, gInt, endsD, lookUp, frz, wCall, wCallD, dupOk, hasPl, closedAt, backs, tyN, isiB, w_is_event, gEq, evB] using q'
    | a :: b :: c :: d :: r, hd, q' =>
      have e : ¬ ((r.length : Int) + 1 + 1 + 1 + 1 = 3) := by omega
      simpa [wSeq, wIfS, wOr, wAnd, wNot, wTru, wTest, wCl, wCons, wNil, wV, wC, wRet, wRetN, wOrV, wAndV, wNotV, wOp, wUn, wIf, wAsg, wTake, wgN, wgTup, wgCons, wgNil, wPar, wLst, wTup, wTakes, wDrop, wNext, wNever, look, onV, onVs, truT, gIsi, gIs, isNon, nb, gCmp, gLen, gAbs, gInt, endsD, lookUp, frz, wCall, wCallD, dupOk, hasPl, closedAt, backs, tyN, isiB, w_is_event, gEq, evB, e] using q'
  | ins o C fs => simp [dat] at hd
  | fn a => simp [dat] at hd
  | ty n => simp [dat] at hd
  | exc a y od fs => simp [dat] at hd
  | exv y fs => simp [dat] at hd
  | _ => simpa [wSeq, wIfS, wOr, wAnd, wNot, wTru, wTest, wCl, wCons, wNil, wV, wC, wRet, wRetN, wOrV, wAndV, wNotV, wOp, wUn, wIf, wAsg, wTake, wgN, wgTup, wgCons, wgNil, wPar, wLst, wTup, wTakes, wDrop, wNext, wNever, look, onV, onVs, truT, gIsi, gIs, isNon, nb, gCmp, gLen, gAbs, gInt, endsD, lookUp, frz, wCall, wCallD, dupOk, hasPl, closedAt, backs, tyN, isiB, w_is_event, evB] using q'
def lateB : Option Int → Int → Bool
  | none, _ => false
  | some m, t => decide (t < m)
def optT : Option Int → T
  | none => .non
  | some m => .int m
def fgo (n : Nat) : Nat → List Str → Option Int → List T → List T
  | _, dn, _, [] => if dn = [] then [] else [.int n]
  | i, dn, la, .tup [.int t, .str l, .bl b] :: xs => if (l = "s" ∨ l = "l") ∧ lateB la t = false ∧ b ≠ dn.contains l then fgo n (i + 1) (if b = true then dn ++ [l] else dn.filter fun z => decide (z ≠ l)) (some t) xs else [.int i]
  | i, _, _, _ :: _ => [.int i]
def faultL : T → List T
  | .lst _ xs => if 200 < xs.length then [.non] else fgo xs.length 0 [] none xs
  | _ => [.non]
theorem fgo_no {n i : Nat} {dn : List Str} {la : Option Int} {x : T} {xs : List T} (h : evB x = false) : fgo n i dn la (x :: xs) = [.int i] := by
  unfold fgo
  split
  · rename_i e; cases e
  · rename_i t l b xs' e
    cases e
    simp only [evB, intB, strB, blB, Bool.true_and, Bool.and_true] at h
    rw [in_lev] at h
    simp only [Bool.or_eq_false_iff, decide_eq_false_iff_not] at h
    rw [if_neg (fun z => z.1.elim h.1 h.2)]
  · rename_i e; cases e; rfl
theorem strs_fl (dn : List Str) : (dn.map T.str).all flT = true := by simp [flT]
theorem strs_frz (dn : List Str) : frzL (dn.map T.str) = dn.map T.str := frzL_fl _ (strs_fl dn)
theorem inT_strs (l : Str) : ∀ dn : List Str, inT (.str l) (dn.map T.str) = dn.contains l
  | [] => rfl
  | d :: dn => by
    have ih := inT_strs l dn
    simp only [inT, List.map_cons, List.any_cons, List.contains_cons, scV, eqV] at ih ⊢
    rw [ih]
    congr 1
    by_cases h : d = l
    · subst h; simp
    · have e1 : (d == l) = false := by simpa using h
      have e2 : (l == d) = false := by simpa using fun e : l = d => h e.symm
      rw [e1, e2]
theorem drop_at {α : Type} {xs : List α} {i : Nat} {x : α} (h : xs[i]? = some x) : xs.drop i = x :: xs.drop (i + 1) := by
  obtain ⟨hi, e⟩ := List.getElem?_eq_some_iff.mp h
  rw [List.drop_eq_getElem_cons hi, e]
theorem take_at {α : Type} {xs : List α} {i : Nat} {x : α} (h : xs[i]? = some x) : xs.take (i + 1) = xs.take i ++ [x] := by
  rw [List.take_add_one, h]; rfl
def S_fault_of_record : FS := fun ts Q => ∃ v, ts = [v] ∧ dat (frz v) = true ∧ Q (.ret (.lst true (faultL (frz v)))) [frz v]
theorem l_fault_of_record : ∀ ts Q, S_fault_of_record ts Q → ts.length = 1 := fun ts Q ⟨v, e, _⟩ => by rw [e]; rfl
theorem at_is_event {x : T} {Q : Rs → List T → Prop} (h : dat x = true) (q : Q (.ret (.bl (evB x))) [x]) : S_is_event [x] Q := ⟨x, rfl, by rw [dat_frz h]; exact h, by rw [dat_frz h]; exact q⟩
theorem eqT_strs {dn : List Str} {o : Bool} : eqT (.lst o (dn.map .str)) (.lst true []) = decide (dn = []) := by
  cases dn with
  | nil => rfl
  | cons d r => rfl
theorem okT_strs {dn : List Str} {o : Bool} (h : ∀ z ∈ dn, z = "s" ∨ z = "l") : okT (.lst o (dn.map .str)) = true := by
  simp only [okT]
  rw [okL_iff]
  intro t ht
  obtain ⟨z, hz, rfl⟩ := List.mem_map.mp ht
  rcases h z hz with rfl | rfl <;> decide +kernel
theorem dpT_strs {dn : List Str} {o : Bool} : dpT (.lst o (dn.map .str)) ≤ 60 := by
  have : ∀ dn : List Str, dpL (dn.map .str) = 0 := fun dn => by
    induction dn with
    | nil => rfl
    | cons d r ih => simp only [List.map_cons, dpL, dpT, ih]; rfl
  simp only [dpT]; rw [this]; decide
abbrev N_fault_of_record : List Str := ["value", "down", "last", "index", "item", "tick", "lever", "is_down", "other"]
def w_fault_of_record : WS :=
  (wSeq (wIfS (wOr (wNot (wTru (wCl gIsi (wCons (wV 0) (wCons (wC (.ty "list")) wNil))))) (wTest (wOp gGt (wCl gLen (wCons (wV 0) wNil)) (wC (.int 200))))) (wRet 0 (wLst (wCons (wC .non) wNil))) wNext) (wSeq (wPar 1 2 (wCons (wLst wNil) (wCons (wC .non) wNil))) (wSeq (wFor (wiEnum (wCons (wV 0) wNil)) (wgTup 2 (wgCons (wgN 3) (wgCons (wgN 4) wgNil))) (wSeq (wIfS (wNot (wTru (wCall S_is_event (wCons (wV 4) wNil)))) (wRet 0 (wLst (wCons (wV 3) wNil))) wNext) (wSeq (wAsg (wV 4) (wgTup 3 (wgCons (wgN 5) (wgCons (wgN 6) (wgCons (wgN 7) wgNil))))) (wSeq (wIfS (wOr (wAnd (wTest (wOp (gIs true) (wV 2) (wC .non))) (wTest (wOp gLt (wV 5) (wV 2)))) (wTest (wOp (gEq false) (wV 7) (wOp (gIn false) (wV 6) (wV 1))))) (wRet 0 (wLst (wCons (wV 3) wNil))) wNext) (wSeq (wAsg (wIf (wTru (wV 7)) (wLst (wStar (wV 1) (wCons (wV 6) wNil))) (wLc (wiList (wV 1)) (wgN 8) (wTest (wOp (gEq true) (wV 8) (wV 6))) (wV 8) [8])) (wgN 1)) (wAsg (wV 5) (wgN 2))))))) (wRet 0 (wIf (wTest (wOp (gEq false) (wV 1) (wLst wNil))) (wLst wNil) (wLst (wCons (wCl gLen (wCons (wV 0) wNil)) wNil)))))))
theorem v_fault_of_record : ∀ ts Qf, S_fault_of_record ts Qf → w_fault_of_record (endsD 0 ts Qf) (startD N_fault_of_record 0 ts) := by
  rintro ts Qf ⟨v, rfl, hd, q⟩
  show w_fault_of_record (endsD 0 [v] Qf) [some (frz v), none, none, none, none, none, none, none, none]
  have fin : ∀ t Δ, t = .lst true (faultL (frz v)) → (endsD 0 [v] Qf).rt t Δ := fun t Δ e => by rw [e]; exact q
  revert fin
  generalize endsD 0 [v] Qf = D
  revert hd
  generalize frz v = u
  intro hd fin
  cases u with
  | lst o xs =>
    have ho : o = false := by simp [dat] at hd; exact hd.1
    subst ho
    have hx : datL xs = true := by simp [dat] at hd; exact hd
    have ex : frzL xs = xs := datL_frz hx
    have hz : ∀ i x, xs[i]? = some x → dat x = true := fun i x e => (datL_iff xs).mp hx x (List.mem_of_getElem? e)
    refine ⟨rfl, rfl, ite_of (fun h => ⟨z1, fin _ _ ?_⟩) fun h => ?_⟩
    · have h' : 200 < xs.length := by have := of_decide_eq_true h; omega
      simp only [faultL, if_pos h']; rfl
    · have h' : ¬ 200 < xs.length := by have := of_decide_eq_false h; omega
      have ef : faultL (.lst false xs) = fgo xs.length 0 [] none xs := if_neg h'
      refine ⟨Nat.zero_le _, fun i Δ => ∃ (o' : Bool) (dn : List Str) (ys : List T) (la : Option Int) (x3 x4 x5 x6 x7 x8 : Option T), Δ = [some (.lst false (frzL xs)), some (.lst o' ys), some (optT la), x3, x4, x5, x6, x7, x8] ∧ ys = dn.map .str ∧ (∀ z ∈ dn, z = "s" ∨ z = "l") ∧ dn.length ≤ i ∧ fgo xs.length 0 [] none xs = fgo xs.length i dn la (xs.drop i),
        ⟨true, [], [], none, none, none, none, none, none, none, rfl, rfl, (fun _ z => (nomatch z)), Nat.zero_le _, rfl⟩, ?_, ?_⟩
      · rintro i t Δ ht ⟨o', dn, ys, la, x3, x4, x5, x6, x7, x8, rfl, rfl, hdn, hdl, hf⟩
        rw [enumT_get, ex, ex] at ht
        cases hxi : xs[i]? with
        | none => rw [hxi] at ht; cases ht
        | some x =>
          rw [hxi] at ht
          obtain rfl : T.tup [.int ((0 + i : Nat) : Int), x] = t := Option.some.inj ht
          have dx := hz i x hxi
          rw [drop_at hxi] at hf
          have ei : ((0 + i : Nat) : Int) = (i : Int) := by omega
          cases hev : evB x with
          | false =>
            refine ⟨rfl, rfl, at_is_event dx (ite_of (fun _ => ⟨z1, fin _ _ ?_⟩) fun h => ?_)⟩
            · rw [ef, hf, fgo_no hev, ← ei]; rfl
            · rw [hev] at h; cases h
          | true =>
            obtain ⟨t, l, b, rfl, hl⟩ := evB_inv hev
            refine ⟨rfl, rfl, at_is_event dx (ite_of (fun h => ?_) fun _ => ⟨rfl, ?_⟩)⟩
            · rw [hev] at h; cases h
            have bad : (lateB la t = true ∨ b = dn.contains l) → ∀ Δ, D.rt (.lst true [.int ((0 + i : Nat) : Int)]) Δ := fun hb Δ => fin _ _ (by
              rw [ef, hf, ei]
              unfold fgo
              rw [if_neg]
              rintro ⟨_, h1, h2⟩
              rcases hb with hb | hb
              · rw [hb] at h1; cases h1
              · exact h2 hb)
            have good : lateB la t = false → b ≠ dn.contains l → fgo xs.length 0 [] none xs = fgo xs.length (i + 1) (if b = true then dn ++ [l] else dn.filter fun z => decide (z ≠ l)) (some t) (xs.drop (i + 1)) := fun h1 h2 => by
              rw [hf]
              conv => lhs; unfold fgo
              rw [if_pos ⟨hl, h1, h2⟩]
            -- what stands behind the tests
            have rest : lateB la t = false → b ≠ dn.contains l → ∀ (Dn : EndsD) (y2 y3 y4 : Option T), Dn.nx = (fun Δ => ∃ (o' : Bool) (dn : List Str) (ys : List T) (la : Option Int) (x3 x4 x5 x6 x7 x8 : Option T), Δ = [some (.lst false (frzL xs)), some (.lst o' ys), some (optT la), x3, x4, x5, x6, x7, x8] ∧ ys = dn.map .str ∧ (∀ z ∈ dn, z = "s" ∨ z = "l") ∧ dn.length ≤ i + 1 ∧ fgo xs.length 0 [] none xs = fgo xs.length (i + 1) dn la (xs.drop (i + 1))) →
                wSeq (wAsg (wIf (wTru (wV 7)) (wLst (wStar (wV 1) (wCons (wV 6) wNil))) (wLc (wiList (wV 1)) (wgN 8) (wTest (wOp (gEq true) (wV 8) (wV 6))) (wV 8) [8])) (wgN 1)) (wAsg (wV 5) (wgN 2)) Dn
                  [some (.lst false (frzL xs)), some (.lst o' (dn.map .str)), y2, y3, y4, some (.int t), some (.str l), some (.bl b), x8] := fun h1 h2 Dn y2 y3 y4 hn => by
              have g := good h1 h2
              have hi : i < xs.length := (List.getElem?_eq_some_iff.mp hxi).1
              have hz2 : dn.length + 1 ≤ sizeLine := by rw [sizeLine_eq]; omega
              cases b with
              | true =>
                refine takes_vals ⟨?_, ?_⟩
                · rw [strs_frz, strs_frz]
                  simpa using hz2
                · show Dn.nx _
                  rw [hn]
                  refine ⟨true, dn ++ [l], _, some t, _, _, _, _, _, _, rfl, ?_, ?_, by simp; omega, g⟩
                  · rw [strs_frz, strs_frz, ← frzL_map, strs_frz]
                    simp [frz]
                  · intro z hz; rcases List.mem_append.mp hz with hz | hz
                    · exact hdn z hz
                    · rw [List.mem_singleton.mp hz]; exact hl
              | false =>
                refine ⟨fun j acc Δ => Δ = [some (.lst false (frzL xs)), some (.lst false (frzL (dn.map .str))), y2, y3, y4, some (.int t), some (.str l), some (.bl false), none] ∧ acc = ((dn.take j).filter fun z => decide (z ≠ l)).map .str,
                  ⟨rfl, rfl⟩, ?_, ?_⟩
                · rintro j y acc Δ hy ⟨rfl, rfl⟩
                  rw [strs_frz, strs_frz, List.getElem?_map] at hy
                  cases hj : dn[j]? with
                  | none => rw [hj] at hy; cases hy
                  | some d =>
                    rw [hj] at hy
                    obtain rfl : T.str d = y := Option.some.inj hy
                    have et := take_at hj
                    refine ite_of (fun h => ⟨?_, rfl, ?_⟩) fun h => ⟨rfl, ?_⟩
                    · rw [List.length_map]
                      have h1 := List.length_filter_le (fun z => decide (z ≠ l)) (dn.take j)
                      have h2 : (dn.take j).length ≤ dn.length := by rw [List.length_take]; omega
                      omega
                    · rw [et, List.filter_append]
                      have e : ¬ d = l := by simpa [nb] using h
                      simp [List.filter_cons, e, frz]
                    · rw [et, List.filter_append]
                      have e : d = l := by simpa [nb] using h
                      simp [List.filter_cons, e]
                · rintro acc Δ ⟨rfl, rfl⟩
                  show Dn.nx _
                  rw [hn]
                  have e : (frzL (frzL (dn.map T.str))).length = dn.length := by rw [strs_frz, strs_frz, List.length_map]
                  refine ⟨true, dn.filter (fun z => decide (z ≠ l)), _, some t, _, _, _, _, _, _, rfl, ?_, ?_, ?_, g⟩
                  · rw [e, List.take_length]
                  · intro z hz; exact hdn z (List.mem_filter.mp hz).1
                  · have h1 := List.length_filter_le (fun z => decide (z ≠ l)) dn
                    omega
            have last : lateB la t = false → ∀ (Dn : EndsD) (y2 y3 y4 : Option T), Dn.rt = D.rt → Dn.nx = (fun Δ => ∃ (o' : Bool) (dn : List Str) (ys : List T) (la : Option Int) (x3 x4 x5 x6 x7 x8 : Option T), Δ = [some (.lst false (frzL xs)), some (.lst o' ys), some (optT la), x3, x4, x5, x6, x7, x8] ∧ ys = dn.map .str ∧ (∀ z ∈ dn, z = "s" ∨ z = "l") ∧ dn.length ≤ i + 1 ∧ fgo xs.length 0 [] none xs = fgo xs.length (i + 1) dn la (xs.drop (i + 1))) →
                (if nb false (decide (b = nb false (inT (.str l) (dn.map .str)))) = true then wRet 0 (wLst (wCons (wV 3) wNil)) Dn [some (.lst false (frzL xs)), some (.lst o' (dn.map .str)), y2, some (.int ((0 + i : Nat) : Int)), y4, some (.int t), some (.str l), some (.bl b), x8]
                  else wSeq (wAsg (wIf (wTru (wV 7)) (wLst (wStar (wV 1) (wCons (wV 6) wNil))) (wLc (wiList (wV 1)) (wgN 8) (wTest (wOp (gEq true) (wV 8) (wV 6))) (wV 8) [8])) (wgN 1)) (wAsg (wV 5) (wgN 2)) Dn
                    [some (.lst false (frzL xs)), some (.lst o' (dn.map .str)), y2, some (.int ((0 + i : Nat) : Int)), y4, some (.int t), some (.str l), some (.bl b), x8]) := fun h1 Dn y2 y3 y4 hrt hn => by
              rw [inT_strs]
              refine ite_of (fun h => ⟨z1, ?_⟩) fun h => rest h1 (of_decide_eq_false h) Dn y2 _ y4 hn
              show Dn.rt _ _
              rw [hrt]
              exact bad (.inr (of_decide_eq_true h)) _
            cases la with
            | none => exact ⟨rfl, strs_fl dn, last rfl _ _ none _ rfl rfl⟩
            | some m =>
              refine ite_of (fun h => ⟨z1, bad (.inl h) _⟩) fun h => ⟨rfl, strs_fl dn, last h _ _ none _ rfl rfl⟩
      · rintro Δ ⟨o', dn, ys, la, x3, x4, x5, x6, x7, x8, rfl, rfl, hdn, hdl, hf⟩
        have hfd : fgo xs.length 0 [] none xs = if dn = [] then [] else [.int xs.length] := by
          have e : (enumT 0 (frzL (frzL xs))).length = xs.length := by rw [enumT_len, ex, ex]
          rw [e, List.drop_length] at hf
          rw [hf]; rfl
        refine ⟨Nat.zero_le _, ⟨okT_strs hdn, rfl⟩, Nat.le_trans (Nat.min_le_left _ _) dpT_strs, ?_⟩
        have e : (if false = true then !eqT (.lst o' (dn.map .str)) (.lst true []) else eqT (.lst o' (dn.map .str)) (.lst true [])) = decide (dn = []) := eqT_strs
        show (match T.bl (if false = true then !eqT (.lst o' (dn.map .str)) (.lst true []) else eqT (.lst o' (dn.map .str)) (.lst true [])) with
          | .bl b => _
          | _ => False)
        rw [e]
        by_cases hdn0 : dn = []
        · rw [decide_eq_true hdn0]
          exact ⟨Nat.zero_le _, fin _ _ (by rw [ef, hfd, if_pos hdn0])⟩
        · rw [decide_eq_false hdn0]
          exact ⟨z1, fin _ _ (by rw [ef, hfd, if_neg hdn0, ex]; rfl)⟩
  | ins o C fs => simp [dat] at hd
  | fn a => simp [dat] at hd
  | ty n => simp [dat] at hd
  | exc a y od fs => simp [dat] at hd
  | exv y fs => simp [dat] at hd
  | _ => exact ⟨rfl, rfl, by decide, fin _ _ rfl⟩
end TL
set_option maxRecDepth 100000
set_option maxHeartbeats 1000000
namespace TL
open PySem PySem.Spec PyProof.Rows L2
def oth (k : Str) : Str := if k = "s" then ("l" : Str) else ("s" : Str)
theorem KQ.oth (k : Str) : KQ (oth k) := by unfold TL.oth; split; exact .inr rfl; exact .inl rfl
def S_other_of : FS := fun ts Q => ∃ k : Str, ts = [.str k] ∧ Q (.ret (.str (oth k))) [.str k]
theorem l_other_of : ∀ ts Q, S_other_of ts Q → ts.length = 1 := fun ts Q ⟨_, e, _⟩ => by rw [e]; rfl
theorem at_oth {k : Str} {Q : Rs → List T → Prop} (q : Q (.ret (.str (oth k))) [.str k]) : S_other_of [.str k] Q := ⟨k, rfl, q⟩
abbrev N_other_of : List Str := ["kind"]
def w_other_of : WS :=
  (wRet 0 (wIf (wTest (wOp (gEq false) (wV 0) (wC (.str "s")))) (wC (.str "l")) (wC (.str "s"))))
theorem v_other_of : ∀ ts Qf, S_other_of ts Qf → w_other_of (endsD 0 ts Qf) (startD N_other_of 0 ts) := by
  rintro ts Qf ⟨k, rfl, q⟩
  show w_other_of (endsD 0 [.str k] Qf) [some (.str k)]
  have fin : ∀ z Δ, z = oth k → (endsD 0 [.str k] Qf).rt (.str z) Δ := fun z Δ e => by rw [e]; exact q
  revert fin
  generalize endsD 0 [.str k] Qf = D
  intro fin
  refine ite_of (fun h => fin _ _ ?_) fun h => fin _ _ ?_
  · have h : decide (k = "s") = true := h
    exact (if_pos (of_decide_eq_true h)).symm
  · have h : decide (k = "s") = false := h
    exact (if_neg (of_decide_eq_false h)).symm
def Ru.can (x : Ru) (k : Str) : Bool := (!decide (x.r = "none") || x.p) && decide (x.d < x.len k + x.c)
def S_can_hear : FS := fun ts Q => ∃ (x : Ru) (k : Str), ts = [x.t, .str k] ∧ Q (.ret (.bl (x.can k))) [x.t, .str k]
theorem l_can_hear : ∀ ts Q, S_can_hear ts Q → ts.length = 2 := fun ts Q ⟨_, _, e, _⟩ => by rw [e]; rfl
theorem at_can {x : Ru} {k : Str} {Q : Rs → List T → Prop} (q : Q (.ret (.bl (x.can k))) [x.t, .str k]) : S_can_hear [x.t, .str k] Q := ⟨x, k, rfl, q⟩
abbrev N_can_hear : List Str := ["rules", "kind"]
def w_can_hear : WS :=
  (wRet 0 (wAndV (wOrV (wOp (gEq true) (wOp gIx (wV 0) (wC (.int 4))) (wC (.str "none"))) (wOp gIx (wV 0) (wC (.int 5)))) (wOp gLt (wOp gIx (wV 0) (wC (.int 3))) (wCall S_period_of (wCons (wV 0) (wCons (wV 1) wNil))))))
theorem v_can_hear : ∀ ts Qf, S_can_hear ts Qf → w_can_hear (endsD 0 ts Qf) (startD N_can_hear 0 ts) := by
  rintro ts Qf ⟨x, k, rfl, q⟩
  show w_can_hear (endsD 0 [x.t, .str k] Qf) [some x.t, some (.str k)]
  have fin : ∀ z Δ, z = x.can k → (endsD 0 [x.t, .str k] Qf).rt (.bl z) Δ := fun z Δ e => by rw [e]; exact q
  revert fin
  generalize endsD 0 [x.t, .str k] Qf = D
  intro fin
  have two : ∀ Δ, Δ = [some x.t, some (.str k)] → (!decide (x.r = "none") || x.p) = true → wOp gLt (wOp gIx (wV 0) (wC (.int 3))) (wCall S_period_of (wCons (wV 0) (wCons (wV 1) wNil))) Δ (fun p Δ1 => onV Δ1 p fun t => D.rt t Δ1) := fun Δ e h => by
    subst e
    refine ⟨rfl, rfl, at_periodof (fin _ _ ?_)⟩
    unfold Ru.can
    rw [h]; rfl
  refine ⟨rfl, ite_of (fun h => two _ rfl ?_) fun h => ⟨rfl, ite_of (fun h2 => two _ rfl ?_) fun h2 => fin _ _ ?_⟩⟩
  · have h : (!decide (x.r = "none")) = true := h
    rw [h]; rfl
  · have h2 : x.p = true := h2
    rw [h2]; simp
  · have h : (!decide (x.r = "none")) = false := h
    have h2 : x.p = false := h2
    unfold Ru.can
    rw [h, h2]; rfl
def optS : Option Str → T
  | none => .non
  | some k => .str k
theorem cl_optS (o : Option Str) : closed (optS o) = true := by cases o <;> simp only [optS, closed]
abbrev dnT (dn : List Str) : T := .lst false (dn.map .str)
theorem cl_strs (dn : List Str) : closedL (dn.map T.str) = true := (closedL_iff _).mpr fun t ht => by
  obtain ⟨z, _, rfl⟩ := List.mem_map.mp ht
  simp only [closed]
theorem cl_dnT (dn : List Str) : closed (dnT dn) = true := by simp only [closed, cl_strs]; rfl
def Ru.out (x : Ru) (k : Str) (dn : List Str) (ot ow : Bool) : Option Str :=
  if ot = true then some (oth k) else if dn.length = 2 then some (if x.q = "turn" then oth k else if x.q = "stay" then k else x.q) else if dn.length = 1 then dn.head? else if ow = true then some k else none
def S_outcome : FS := fun ts Q => ∃ (x : Ru) (k : Str) (dn : List Str) (ot ow : Bool), ts = [x.t, .str k, dnT dn, .bl ot, .bl ow] ∧ dn.length ≤ 2 ∧ Q (.ret (optS (x.out k dn ot ow))) [x.t, .str k, dnT dn, .bl ot, .bl ow]
theorem l_outcome : ∀ ts Q, S_outcome ts Q → ts.length = 5 := fun ts Q ⟨_, _, _, _, _, e, _⟩ => by rw [e]; rfl
theorem at_outcome {x : Ru} {k : Str} {dn : List Str} {ot ow : Bool} {Q : Rs → List T → Prop} (h : dn.length ≤ 2) (q : Q (.ret (optS (x.out k dn ot ow))) [x.t, .str k, dnT dn, .bl ot, .bl ow]) : S_outcome [x.t, .str k, dnT dn, .bl ot, .bl ow] Q := ⟨x, k, dn, ot, ow, rfl, h, q⟩
abbrev N_outcome : List Str := ["rules", "kind", "down", "is_other", "is_own", "other", "both"]
def w_outcome_1 : WS :=
  (wPar 5 6 (wCons (wCall S_other_of (wCons (wV 1) wNil)) (wCons (wOp gIx (wV 0) (wC (.int 6))) wNil)))
def w_outcome_2_1 : WS :=
  (wRet 0 (wV 5))
def w_outcome_2 : WS :=
  (wIfS (wTru (wV 3)) w_outcome_2_1 wNext)
def w_outcome_3_1 : WS :=
  (wRet 0 (wDGet2 (wDisp (wpCons (wC (.str "turn")) (wV 5) (wpCons (wC (.str "stay")) (wV 1) wpNil))) (wV 6) (wV 6)))
def w_outcome_3 : WS :=
  (wIfS (wTest (wOp (gEq false) (wCl gLen (wCons (wV 2) wNil)) (wC (.int 2)))) w_outcome_3_1 wNext)
def w_outcome_4_1 : WS :=
  (wRet 0 (wOp gIx (wV 2) (wC (.int 0))))
def w_outcome_4 : WS :=
  (wIfS (wTest (wOp (gEq false) (wCl gLen (wCons (wV 2) wNil)) (wC (.int 1)))) w_outcome_4_1 wNext)
def w_outcome_5 : WS :=
  (wRet 0 (wIf (wTru (wV 4)) (wV 1) (wC .non)))
def w_outcome : WS :=
  (wSeq w_outcome_1 (wSeq w_outcome_2 (wSeq w_outcome_3 (wSeq w_outcome_4 w_outcome_5))))
theorem out_get (o k q : Str) : (valT (mergeT [] [(.inr "turn", .str o), (.inr "stay", .str k)]) (.inr q)).getD (.str q) = .str (if q = "turn" then o else if q = "stay" then k else q) := by
  have e : mergeT [] [(.inr "turn", T.str o), (.inr "stay", .str k)] = [(.inr "turn", .str o), (.inr "stay", .str k)] := by rfl
  rw [e]
  unfold valT
  by_cases h1 : q = "turn"
  · subst h1; rfl
  · have h1' : ¬ (("turn" : Str) = q) := fun z => h1 z.symm
    by_cases h2 : q = "stay"
    · subst h2; rfl
    · have h2' : ¬ (("stay" : Str) = q) := fun z => h2 z.symm
      simp [List.find?_cons, h1, h2, h1', h2']
theorem v_outcome : ∀ ts Qf, S_outcome ts Qf → w_outcome (endsD 0 ts Qf) (startD N_outcome 0 ts) := by
  rintro ts Qf ⟨x, k, dn, ot, ow, rfl, hd, q⟩
  show w_outcome (endsD 0 [x.t, .str k, dnT dn, .bl ot, .bl ow] Qf) [some x.t, some (.str k), some (.lst false (frzL (dn.map .str))), some (.bl ot), some (.bl ow), none, none]
  rw [strs_frz]
  have fin : ∀ z Δ, z = x.out k dn ot ow → (endsD 0 [x.t, .str k, dnT dn, .bl ot, .bl ow] Qf).rt (optS z) Δ := fun z Δ e => by
    rw [e]
    show Qf (.ret _) [x.t, .str k, .lst false (frzL (dn.map .str)), .bl ot, .bl ow]
    rw [strs_frz]; exact q
  revert fin
  generalize endsD 0 [x.t, .str k, dnT dn, .bl ot, .bl ow] Qf = D
  intro fin
  refine sq ⟨rfl, at_oth ⟨rfl, ?_⟩⟩
  show wSeq w_outcome_2 (wSeq w_outcome_3 (wSeq w_outcome_4 w_outcome_5)) D [some x.t, some (.str k), some (dnT dn), some (.bl ot), some (.bl ow), some (.str (oth k)), some (.str x.q)]
  have e0 : ot = true → x.out k dn ot ow = some (oth k) := fun h => if_pos h
  refine sq (ite_of (fun h => ?_) fun h => ?_)
  · have h : ot = true := h
    show D.rt (.str (oth k)) _
    exact fin (some (oth k)) _ (e0 h).symm
  · have h : ot = false := h
    have e1 : x.out k dn ot ow = if dn.length = 2 then some (if x.q = "turn" then oth k else if x.q = "stay" then k else x.q) else if dn.length = 1 then dn.head? else if ow = true then some k else none := if_neg (by rw [h]; simp)
    rw [e1] at fin
    have len : ∀ n : Nat, nb false (decide (((dn.map T.str).length : Int) = (n : Int))) = decide (dn.length = n) := fun n => by
      rw [List.length_map]
      show decide ((dn.length : Int) = (n : Int)) = _
      exact decide_eq_decide.mpr (by omega)
    refine sq (ite_of (fun h2 => ?_) fun h2 => ?_)
    · have h2 : decide (((dn.map T.str).length : Int) = 2) = true := h2
      rw [List.length_map] at h2
      have h2 : dn.length = 2 := by have := of_decide_eq_true h2; omega
      rw [if_pos h2] at fin
      have g := out_get (oth k) k x.q
      have f := fin _ [some x.t, some (.str k), some (dnT dn), some (.bl ot), some (.bl ow), some (.str (oth k)), some (.str x.q)] rfl
      refine ⟨show 2 ≤ 15 by decide, rfl, rfl, ?_⟩
      show D.rt ((valT (mergeT [] [(.inr "turn", .str (oth k)), (.inr "stay", .str k)]) (.inr x.q)).getD (.str x.q)) _
      rw [g]
      exact f
    · have h2 : decide (((dn.map T.str).length : Int) = 2) = false := h2
      rw [List.length_map] at h2
      have h2 : ¬ dn.length = 2 := fun z => (of_decide_eq_false h2) (by omega)
      rw [if_neg h2] at fin
      refine sq (ite_of (fun h3 => ?_) fun h3 => ?_)
      · have h3 : decide (((dn.map T.str).length : Int) = 1) = true := h3
        rw [List.length_map] at h3
        have h3 : dn.length = 1 := by have := of_decide_eq_true h3; omega
        rw [if_pos h3] at fin
        match dn, h3, fin with
        | [z], _, fin => exact ⟨rfl, fin (some z) _ rfl⟩
      · have h3 : decide (((dn.map T.str).length : Int) = 1) = false := h3
        rw [List.length_map] at h3
        have h3 : ¬ dn.length = 1 := fun z => (of_decide_eq_false h3) (by omega)
        rw [if_neg h3] at fin
        refine ite_of (fun h4 => ?_) fun h4 => ?_
        · have h4 : ow = true := h4
          exact fin (some k) _ (if_pos h4).symm
        · have h4 : ow = false := h4
          exact fin none _ (if_neg (by rw [h4]; simp)).symm
end TL
set_option maxRecDepth 100000
set_option maxHeartbeats 1000000
namespace TL
open PySem PySem.Spec PyProof.Rows L2
abbrev STEP : List Str := ["press s", "press l", "release s", "release l", "begin s", "begin l", "hear", "remember s", "remember l", "idle"]
def ctK (c : Str → Int) : List (Key × T) := STEP.map fun w => (.inr w, .int (c w))
def bump (c : Str → Int) (w : Str) (n : Int) : Str → Int := fun v => if v = w then c v + n else c v
theorem cts_len (c : Str → Int) : (ctK c).length = 10 := rfl
theorem cts_cl (c : Str → Int) : closedK (ctK c) = true := rfl
theorem cts_val {c : Str → Int} {w : Str} (h : w ∈ STEP) : valT (ctK c) (.inr w) = some (.int (c w)) := by
  have gen : ∀ l : List Str, w ∈ l → valT (l.map fun w => ((.inr w : Key), T.int (c w))) (.inr w) = some (.int (c w)) := fun l => by
    induction l with
    | nil => intro h; cases h
    | cons v l ih =>
      intro h
      unfold valT
      by_cases e : v = w
      · subst e; simp
      · have e' : ¬ ((Sum.inr v : Key) = .inr w) := fun z => e (Sum.inr.inj z)
        have hw : w ∈ l := by
          rcases List.mem_cons.mp h with z | z
          · exact absurd z.symm e
          · exact z
        have := ih hw
        unfold valT at this
        rw [List.map_cons, List.find?_cons_of_neg (by simpa using e)]
        exact this
  exact gen STEP h
theorem cts_put {c : Str → Int} {w : Str} {n : Int} (h : w ∈ STEP) : putT (ctK c) (.inr w) (.int (c w + n)) = ctK (bump c w n) := by
  have hany : ((ctK c).any fun q => decide (q.1 = .inr w)) = true := by
    rw [List.any_eq_true]
    exact ⟨(.inr w, .int (c w)), List.mem_map.mpr ⟨w, h, rfl⟩, by simp⟩
  unfold putT
  rw [if_pos hany]
  unfold ctK
  rw [List.map_map]
  refine List.map_congr_left fun v _ => ?_
  show (if (Sum.inr v : Key) = .inr w then ((Sum.inr v : Key), T.int (c w + n)) else (.inr v, .int (c v))) = (.inr v, .int (bump c w n v))
  unfold bump
  by_cases e : v = w
  · subst e; simp
  · rw [if_neg (fun z => e (Sum.inr.inj z)), if_neg e]
structure MS where
  x : Ru
  lg : Bool
  k : Option Str
  b : Int
  hd : Bool
  ot : Bool
  ow : Bool
  dn : List Str
  rn : List T
  ct : Str → Int
  lo : List T
abbrev MS.fs (s : MS) : List (Str × T) := [("kept_rules", s.x.t), ("kept_is_logged", .bl s.lg), ("kept_kind", optS s.k), ("kept_begin", .int s.b), ("kept_is_heard", .bl s.hd), ("kept_is_other", .bl s.ot), ("kept_is_own", .bl s.ow), ("kept_down", dnT s.dn), ("kept_runs", .lst true s.rn), ("kept_counts", .dct true (ctK s.ct)), ("kept_log", .lst true s.lo)]
abbrev MS.t (s : MS) : T := .ins true "State" s.fs
abbrev LS : List Str := ["kept_runs", "kept_log"]
abbrev DS : List Str := ["kept_counts"]
/-- what is written down stands still -/
structure MS.W (s : MS) (n : Nat) : Prop where
  rc : closedL s.rn = true
  lc : closedL s.lo = true
  rl : s.rn.length ≤ n
  ll : s.lo.length ≤ n
theorem MS.W.mono {s : MS} {n m : Nat} (h : s.W n) (hm : n ≤ m) : s.W m := ⟨h.rc, h.lc, Nat.le_trans h.rl hm, Nat.le_trans h.ll hm⟩
theorem MS.W.vw {s : MS} {n : Nat} (h : s.W n) : vwOk LS DS s.fs = true := by
  show (closed s.x.t && (closed (.bl s.lg) && (closed (optS s.k) && (closed (.int s.b) && (closed (.bl s.hd) && (closed (.bl s.ot) && (closed (.bl s.ow) && (closed (dnT s.dn) && (closedL s.rn && (closedK (ctK s.ct) && (closedL s.lo && true))))))))))) = true
  rw [cl_optS, cl_dnT, h.rc, h.lc, cts_cl]; rfl
theorem mem1 {a : Str} : a ∈ [a] := List.mem_singleton.mpr rfl
def MS.note (s : MS) (tick : Int) (w : Str) : MS := { s with ct := bump s.ct w 1, lo := if s.lg = true then s.lo ++ [.tup [.int tick, .str w]] else s.lo }
theorem MS.W.note {s : MS} {n : Nat} (h : s.W n) (tick : Int) (w : Str) : (s.note tick w).W (n + 1) := by
  refine ⟨h.rc, ?_, Nat.le_succ_of_le h.rl, ?_⟩
  · show closedL (if s.lg = true then s.lo ++ [.tup [.int tick, .str w]] else s.lo) = true
    split
    · exact (closedL_iff _).mpr fun t ht => by
        rcases List.mem_append.mp ht with z | z
        · exact (closedL_iff _).mp h.lc t z
        · rw [List.mem_singleton.mp z]; rfl
    · exact h.lc
  · show (if s.lg = true then s.lo ++ [.tup [.int tick, .str w]] else s.lo).length ≤ n + 1
    have := h.ll
    split
    · rw [List.length_append, List.length_singleton]; omega
    · omega
def S_State_note : FS := fun ts Q => ∃ (s : MS) (n : Nat) (tick : Int) (w : Str), ts = [s.t, .int tick, .str w] ∧ s.W n ∧ n < 1000000 ∧ w ∈ STEP ∧ Q (.ret .non) [(s.note tick w).t, .int tick, .str w]
theorem l_State_note : ∀ ts Q, S_State_note ts Q → ts.length = 3 := fun ts Q ⟨_, _, _, _, e, _⟩ => by rw [e]; rfl
theorem at_note {s : MS} {n : Nat} {tick : Int} {w : Str} {Q : Rs → List T → Prop} (h : s.W n) (hn : n < 1000000) (hw : w ∈ STEP) (q : Q (.ret .non) [(s.note tick w).t, .int tick, .str w]) : S_State_note [s.t, .int tick, .str w] Q := ⟨s, n, tick, w, rfl, h, hn, hw, q⟩
theorem lt_big {m n : Nat} (h : m ≤ n) (hn : n < 1000000) : m < sizeLine := by rw [sizeLine_eq]; omega
abbrev N_State_note : List Str := ["self", "tick", "word"]
def w_State_note_1 : WS :=
  (wFAugD 0 ["kept_runs", "kept_log"] ["kept_counts"] ["State"] "kept_counts" (wV 2) (wC (.int 1)))
def w_State_note_2_1 : WS :=
  (wDrop (wFApp 0 ["kept_runs", "kept_log"] ["kept_counts"] ["State"] "kept_log" (wTup (wCons (wV 1) (wCons (wV 2) wNil)))))
def w_State_note_2 : WS :=
  (wIfS (wTru (wFldC ["State"] "kept_is_logged" (wV 0))) w_State_note_2_1 wNext)
def w_State_note : WS :=
  (wSeq w_State_note_1 w_State_note_2)
theorem v_State_note : ∀ ts Qf, S_State_note ts Qf → w_State_note (endsD 1 ts Qf) (startD N_State_note 1 ts) := by
  rintro ts Qf ⟨s, n, tick, w, rfl, h, hn, hw, q⟩
  show w_State_note (endsD 1 [s.t, .int tick, .str w] Qf) [some s.t, some (.int tick), some (.str w)]
  have fin : (endsD 1 [s.t, .int tick, .str w] Qf).nx [some (s.note tick w).t, some (.int tick), some (.str w)] := q
  revert fin
  generalize endsD 1 [s.t, .int tick, .str w] Qf = D
  intro fin
  refine sq ⟨mem1, h.vw, cts_cl _, by rw [cts_len]; decide, fun ls => ⟨rfl, ?_⟩⟩
  show (match valT (ctK s.ct) (.inr w) with
    | some (.int n) => _
    | _ => False)
  rw [cts_val hw]
  refine fun ls2 => ⟨rfl, ?_⟩
  show w_State_note_2 D [some (.ins true "State" (ptF "kept_counts" (.dct true (putT (ctK s.ct) (.inr w) (.int (s.ct w + 1)))) s.fs)), some (.int tick), some (.str w)]
  rw [cts_put hw]
  show w_State_note_2 D [some ({ s with ct := bump s.ct w 1 } : MS).t, some (.int tick), some (.str w)]
  refine ⟨mem1, rfl, ite_of (fun hl => ?_) fun hl => ?_⟩
  · have hl : s.lg = true := hl
    have h' : ({ s with ct := bump s.ct w 1 } : MS).W n := ⟨h.rc, h.lc, h.rl, h.ll⟩
    refine ⟨mem1, h'.vw, h.lc, lt_big h.ll hn, fun ls => ⟨z2, rfl, rfl, ?_⟩⟩
    have e : s.note tick w = { s with ct := bump s.ct w 1, lo := s.lo ++ [.tup [.int tick, .str w]] } := by unfold MS.note; rw [if_pos hl]
    rw [e] at fin
    exact fin
  · have hl : s.lg = false := hl
    have e : s.note tick w = { s with ct := bump s.ct w 1 } := by unfold MS.note; rw [if_neg (by rw [hl]; simp)]
    rw [e] at fin
    exact fin
end TL
set_option maxRecDepth 100000
set_option maxHeartbeats 1000000
namespace TL
open PySem PySem.Spec PyProof.Rows L2
def remW (k : Str) : Str := ("remember " : Str) ++ k
def begW (k : Str) : Str := ("begin " : Str) ++ k
theorem KQ.rem {k : Str} (h : KQ k) : remW k ∈ STEP := by rcases h with rfl | rfl <;> decide +kernel
theorem KQ.beg {k : Str} (h : KQ k) : begW k ∈ STEP := by rcases h with rfl | rfl <;> decide +kernel
theorem KQ.len1 {k : Str} (h : KQ k) : k.length = 1 := by rcases h with rfl | rfl <;> decide +kernel
theorem KQ.remL {k : Str} (h : KQ k) : ("remember " : Str).length + k.length ≤ sizeLine := by rw [h.len1]; decide +kernel
theorem KQ.begL {k : Str} (h : KQ k) : ("begin " : Str).length + k.length ≤ sizeLine := by rw [h.len1]; decide +kernel
def MS.held (s : MS) (k : Str) : Bool := decide (s.x.r = "held") && (s.x.can k && s.dn.contains (oth k))
def MS.noteO (s : MS) (k : Str) (tick : Int) : MS := ({ s with ot := true } : MS).note tick (remW (oth k))
theorem MS.W.noteO {s : MS} {n : Nat} (h : s.W n) (k : Str) (tick : Int) : (s.noteO k tick).W (n + 1) := MS.W.note (s := { s with ot := true }) ⟨h.rc, h.lc, h.rl, h.ll⟩ tick _
def S_State_note_other : FS := fun ts Q => ∃ (s : MS) (n : Nat) (k : Str) (tick : Int), ts = [s.t, .int tick] ∧ s.W n ∧ n < 1000000 ∧ s.k = some k ∧ Q (.ret .non) [(s.noteO k tick).t, .int tick]
theorem l_State_note_other : ∀ ts Q, S_State_note_other ts Q → ts.length = 2 := fun ts Q ⟨_, _, _, _, e, _⟩ => by rw [e]; rfl
theorem at_noteO {s : MS} {n : Nat} {k : Str} {tick : Int} {Q : Rs → List T → Prop} (h : s.W n) (hn : n < 1000000) (hk : s.k = some k) (q : Q (.ret .non) [(s.noteO k tick).t, .int tick]) : S_State_note_other [s.t, .int tick] Q := ⟨s, n, k, tick, rfl, h, hn, hk, q⟩
abbrev N_State_note_other : List Str := ["self", "tick"]
def w_State_note_other_1 : WS :=
  (wFldSet 0 ["State"] "kept_is_other" false (wC (.bl true)))
def w_State_note_other_2 : WS :=
  (wDrop (wMeth "State" "note" S_State_note (wV 0) (wCons (wV 1) (wCons (wOp gAdd (wC (.str "remember ")) (wCall S_other_of (wCons (wFldC ["State"] "kept_kind" (wV 0)) wNil))) wNil))))
def w_State_note_other : WS :=
  (wSeq w_State_note_other_1 w_State_note_other_2)
theorem v_State_note_other : ∀ ts Qf, S_State_note_other ts Qf → w_State_note_other (endsD 1 ts Qf) (startD N_State_note_other 1 ts) := by
  rintro ts Qf ⟨s, n, k, tick, rfl, h, hn, hk, q⟩
  show w_State_note_other (endsD 1 [s.t, .int tick] Qf) [some s.t, some (.int tick)]
  have fin : (endsD 1 [s.t, .int tick] Qf).nx [some (s.noteO k tick).t, some (.int tick)] := q
  revert fin
  generalize endsD 1 [s.t, .int tick] Qf = D
  intro fin
  obtain ⟨x, lg, k0, b, hd, ot, ow, dn, rn, ct, lo⟩ := s
  dsimp only at hk
  subst hk
  refine sq ⟨mem1, show 11 < 1000 by decide, ?_⟩
  show w_State_note_other_2 D [some (MS.t ⟨x, lg, some k, b, hd, true, ow, dn, rn, ct, lo⟩), some (.int tick)]
  refine ⟨rfl, rfl, mem1, rfl, rfl, at_oth ⟨(KQ.oth k).remL, ?_⟩⟩
  exact ⟨rfl, at_note (s := ⟨x, lg, some k, b, hd, true, ow, dn, rn, ct, lo⟩) (n := n) ⟨h.rc, h.lc, h.rl, h.ll⟩ hn (KQ.oth k).rem fin⟩
def S_State_is_held_other : FS := fun ts Q => ∃ (s : MS) (k : Str), ts = [s.t, .str k] ∧ Q (.ret (.bl (s.held k))) [s.t, .str k]
theorem l_State_is_held_other : ∀ ts Q, S_State_is_held_other ts Q → ts.length = 2 := fun ts Q ⟨_, _, e, _⟩ => by rw [e]; rfl
theorem at_held {s : MS} {k : Str} {Q : Rs → List T → Prop} (q : Q (.ret (.bl (s.held k))) [s.t, .str k]) : S_State_is_held_other [s.t, .str k] Q := ⟨s, k, rfl, q⟩
abbrev N_State_is_held_other : List Str := ["self", "kind"]
def w_State_is_held_other : WS :=
  (wRet 1 (wAndV (wOp (gEq false) (wOp gIx (wFldC ["State"] "kept_rules" (wV 0)) (wC (.int 4))) (wC (.str "held"))) (wAndV (wCall S_can_hear (wCons (wFldC ["State"] "kept_rules" (wV 0)) (wCons (wV 1) wNil))) (wOp (gIn false) (wCall S_other_of (wCons (wV 1) wNil)) (wFldC ["State"] "kept_down" (wV 0))))))
theorem v_State_is_held_other : ∀ ts Qf, S_State_is_held_other ts Qf → w_State_is_held_other (endsD 1 ts Qf) (startD N_State_is_held_other 1 ts) := by
  rintro ts Qf ⟨s, k, rfl, q⟩
  show w_State_is_held_other (endsD 1 [s.t, .str k] Qf) [some s.t, some (.str k)]
  have fin : ∀ z, z = s.held k → (endsD 1 [s.t, .str k] Qf).rt (.bl z) [some s.t, some (.str k)] := fun z e => by rw [e]; exact q
  revert fin
  generalize endsD 1 [s.t, .str k] Qf = D
  intro fin
  refine ⟨mem1, rfl, rfl, ite_of (fun h => ⟨mem1, rfl, rfl, at_can (ite_of (fun h2 => ⟨rfl, at_oth ⟨mem1, cl_dnT _, rfl, strs_fl _, ?_⟩⟩) fun h2 => ?_)⟩) fun h => ?_⟩
  · have h : decide (s.x.r = "held") = true := h
    have h2 : s.x.can k = true := h2
    refine fin _ ?_
    show nb false (inT (.str (oth k)) (s.dn.map T.str)) = _
    rw [inT_strs]
    unfold MS.held
    rw [h, h2]; rfl
  · have h2 : s.x.can k = false := h2
    exact fin _ (by unfold MS.held; rw [h2]; simp)
  · have h : decide (s.x.r = "held") = false := h
    exact fin _ (by unfold MS.held; rw [h]; rfl)
end TL
set_option maxRecDepth 100000
set_option maxHeartbeats 1000000
namespace TL
open PySem PySem.Spec PyProof.Rows L2
def MS.begun (s : MS) (tick : Int) (k : Str) : MS := { s with k := some k, b := tick, ot := false, ow := false, hd := decide (s.x.d = 0) && s.x.can k, rn := s.rn ++ [.tup [.int tick, .str k, .int 1]] }
theorem MS.W.begun {s : MS} {n : Nat} (h : s.W n) (tick : Int) (k : Str) : (s.begun tick k).W (n + 1) := by
  refine ⟨?_, h.lc, ?_, Nat.le_succ_of_le h.ll⟩
  · exact (closedL_iff _).mpr fun t ht => by
      rcases List.mem_append.mp ht with z | z
      · exact (closedL_iff _).mp h.rc t z
      · rw [List.mem_singleton.mp z]; rfl
  · show (s.rn ++ [T.tup [.int tick, .str k, .int 1]]).length ≤ n + 1
    rw [List.length_append, List.length_singleton]
    exact Nat.succ_le_succ h.rl
def MS.rem (s : MS) (c : Bool) (k : Str) (tick : Int) : MS := if c = true then s.noteO k tick else s
theorem MS.W.rem {s : MS} {n : Nat} (h : s.W n) (c : Bool) (k : Str) (tick : Int) : (s.rem c k tick).W (n + 1) := by
  unfold MS.rem
  split
  · exact h.noteO k tick
  · exact h.mono (Nat.le_succ n)
def MS.start (s : MS) (tick : Int) (k : Str) : MS := ((s.begun tick k).note tick (begW k)).rem ((s.begun tick k).hd && (s.begun tick k).held k) k tick
theorem MS.W.start {s : MS} {n : Nat} (h : s.W n) (tick : Int) (k : Str) : (s.start tick k).W (n + 3) := ((h.begun tick k).note tick _).rem _ _ _
def S_State_start : FS := fun ts Q => ∃ (s : MS) (n : Nat) (k : Str) (tick : Int), ts = [s.t, .int tick, .str k] ∧ s.W n ∧ n < 900000 ∧ KQ k ∧ Q (.ret .non) [(s.start tick k).t, .int tick, .str k]
theorem l_State_start : ∀ ts Q, S_State_start ts Q → ts.length = 3 := fun ts Q ⟨_, _, _, _, e, _⟩ => by rw [e]; rfl
theorem at_start {s : MS} {n : Nat} {k : Str} {tick : Int} {Q : Rs → List T → Prop} (h : s.W n) (hn : n < 900000) (hk : KQ k) (q : Q (.ret .non) [(s.start tick k).t, .int tick, .str k]) : S_State_start [s.t, .int tick, .str k] Q := ⟨s, n, k, tick, rfl, h, hn, hk, q⟩
abbrev N_State_start : List Str := ["self", "tick", "kind"]
def w_State_start_1 : WS :=
  (wAsg (wTup (wCons (wV 2) (wCons (wV 1) wNil))) (wgTup 2 (wgCons (wgFld 0 ["State"] "kept_kind" false) (wgCons (wgFld 0 ["State"] "kept_begin" false) wgNil))))
def w_State_start_2 : WS :=
  (wAsg (wTup (wCons (wC (.bl false)) (wCons (wC (.bl false)) wNil))) (wgTup 2 (wgCons (wgFld 0 ["State"] "kept_is_other" false) (wgCons (wgFld 0 ["State"] "kept_is_own" false) wgNil))))
def w_State_start_3 : WS :=
  (wFldSet 0 ["State"] "kept_is_heard" false (wAndV (wOp (gEq false) (wOp gIx (wFldC ["State"] "kept_rules" (wV 0)) (wC (.int 3))) (wC (.int 0))) (wCall S_can_hear (wCons (wFldC ["State"] "kept_rules" (wV 0)) (wCons (wV 2) wNil)))))
def w_State_start_4 : WS :=
  (wDrop (wFApp 0 ["kept_runs", "kept_log"] ["kept_counts"] ["State"] "kept_runs" (wTup (wCons (wV 1) (wCons (wV 2) (wCons (wC (.int 1)) wNil))))))
def w_State_start_5 : WS :=
  (wDrop (wMeth "State" "note" S_State_note (wV 0) (wCons (wV 1) (wCons (wOp gAdd (wC (.str "begin ")) (wV 2)) wNil))))
def w_State_start_6_1 : WS :=
  (wDrop (wMeth "State" "note_other" S_State_note_other (wV 0) (wCons (wV 1) wNil)))
def w_State_start_6 : WS :=
  (wIfS (wAnd (wTru (wFldC ["State"] "kept_is_heard" (wV 0))) (wTru (wMeth "State" "is_held_other" S_State_is_held_other (wV 0) (wCons (wV 2) wNil)))) w_State_start_6_1 wNext)
def w_State_start : WS :=
  (wSeq w_State_start_1 (wSeq w_State_start_2 (wSeq w_State_start_3 (wSeq w_State_start_4 (wSeq w_State_start_5 w_State_start_6)))))
theorem v_State_start : ∀ ts Qf, S_State_start ts Qf → w_State_start (endsD 1 ts Qf) (startD N_State_start 1 ts) := by
  rintro ts Qf ⟨s, n, k, tick, rfl, h, hn, hk, q⟩
  show w_State_start (endsD 1 [s.t, .int tick, .str k] Qf) [some s.t, some (.int tick), some (.str k)]
  have fin : (endsD 1 [s.t, .int tick, .str k] Qf).nx [some (s.start tick k).t, some (.int tick), some (.str k)] := q
  revert fin
  generalize endsD 1 [s.t, .int tick, .str k] Qf = D
  intro fin
  obtain ⟨x, lg, k0, b, hd, ot, ow, dn, rn, ct, lo⟩ := s
  refine sq ⟨z2, rfl, mem1, show 11 < 1000 by decide, mem1, show 11 < 1000 by decide, ?_⟩
  show wSeq w_State_start_2 (wSeq w_State_start_3 (wSeq w_State_start_4 (wSeq w_State_start_5 w_State_start_6))) D [some (MS.t ⟨x, lg, some k, tick, hd, ot, ow, dn, rn, ct, lo⟩), some (.int tick), some (.str k)]
  refine sq ⟨z2, rfl, mem1, show 11 < 1000 by decide, mem1, show 11 < 1000 by decide, ?_⟩
  show wSeq w_State_start_3 (wSeq w_State_start_4 (wSeq w_State_start_5 w_State_start_6)) D [some (MS.t ⟨x, lg, some k, tick, hd, false, false, dn, rn, ct, lo⟩), some (.int tick), some (.str k)]
  have s4 : ∀ c : Bool, c = (decide (x.d = 0) && x.can k) → wSeq w_State_start_4 (wSeq w_State_start_5 w_State_start_6) D [some (MS.t ⟨x, lg, some k, tick, c, false, false, dn, rn, ct, lo⟩), some (.int tick), some (.str k)] := fun c hc => by
    subst hc
    have h3 : MS.W ⟨x, lg, some k, tick, decide (x.d = 0) && x.can k, false, false, dn, rn, ct, lo⟩ n := ⟨h.rc, h.lc, h.rl, h.ll⟩
    refine sq ⟨mem1, h3.vw, h.rc, lt_big h.rl (by omega), fun ls => ⟨z3, rfl, rfl, ?_⟩⟩
    show wSeq w_State_start_5 w_State_start_6 D [some (MS.begun ⟨x, lg, k0, b, hd, ot, ow, dn, rn, ct, lo⟩ tick k).t, some (.int tick), some (.str k)]
    refine sq ⟨rfl, rfl, hk.begL, rfl, at_note (s := MS.begun ⟨x, lg, k0, b, hd, ot, ow, dn, rn, ct, lo⟩ tick k) (n := n + 1) (w := begW k) (h.begun tick k) (by omega) hk.beg ?_⟩
    show w_State_start_6 D [some ((MS.begun ⟨x, lg, k0, b, hd, ot, ow, dn, rn, ct, lo⟩ tick k).note tick (begW k)).t, some (.int tick), some (.str k)]
    have hW := (h.begun tick k).note tick (begW k)
    have no : (decide (x.d = 0) && x.can k && (MS.begun ⟨x, lg, k0, b, hd, ot, ow, dn, rn, ct, lo⟩ tick k).held k) = false → D.nx [some ((MS.begun ⟨x, lg, k0, b, hd, ot, ow, dn, rn, ct, lo⟩ tick k).note tick (begW k)).t, some (.int tick), some (.str k)] := fun e => by
      have e2 : MS.start ⟨x, lg, k0, b, hd, ot, ow, dn, rn, ct, lo⟩ tick k = (MS.begun ⟨x, lg, k0, b, hd, ot, ow, dn, rn, ct, lo⟩ tick k).note tick (begW k) := if_neg (by
        show ¬ (decide (x.d = 0) && x.can k && (MS.begun ⟨x, lg, k0, b, hd, ot, ow, dn, rn, ct, lo⟩ tick k).held k) = true
        rw [e]; simp)
      rw [← e2]; exact fin
    refine ⟨mem1, rfl, ite_of (fun h1 => ⟨rfl, rfl, rfl, at_held (s := (MS.begun ⟨x, lg, k0, b, hd, ot, ow, dn, rn, ct, lo⟩ tick k).note tick (begW k)) (ite_of (fun h2 => ?_) fun h2 => no ?_)⟩) fun h1 => no ?_⟩
    · have h1 : (decide (x.d = 0) && x.can k) = true := h1
      have h2 : (MS.begun ⟨x, lg, k0, b, hd, ot, ow, dn, rn, ct, lo⟩ tick k).held k = true := h2
      refine ⟨rfl, rfl, rfl, at_noteO (s := (MS.begun ⟨x, lg, k0, b, hd, ot, ow, dn, rn, ct, lo⟩ tick k).note tick (begW k)) hW (by omega) rfl ?_⟩
      have e2 : MS.start ⟨x, lg, k0, b, hd, ot, ow, dn, rn, ct, lo⟩ tick k = ((MS.begun ⟨x, lg, k0, b, hd, ot, ow, dn, rn, ct, lo⟩ tick k).note tick (begW k)).noteO k tick := if_pos (by
        show (decide (x.d = 0) && x.can k && (MS.begun ⟨x, lg, k0, b, hd, ot, ow, dn, rn, ct, lo⟩ tick k).held k) = true
        rw [h1, h2]; rfl)
      rw [e2] at fin; exact fin
    · have h2 : (MS.begun ⟨x, lg, k0, b, hd, ot, ow, dn, rn, ct, lo⟩ tick k).held k = false := h2
      rw [h2]; simp
    · have h1 : (decide (x.d = 0) && x.can k) = false := h1
      rw [h1]; rfl
  refine sq ⟨mem1, rfl, rfl, ite_of (fun h1 => ⟨mem1, rfl, rfl, at_can ⟨mem1, show 11 < 1000 by decide, s4 (x.can k) ?_⟩⟩) fun h1 => ⟨mem1, show 11 < 1000 by decide, s4 false ?_⟩⟩
  · have h1 : decide (x.d = 0) = true := h1
    rw [h1]; rfl
  · have h1 : decide (x.d = 0) = false := h1
    rw [h1]; rfl
def MS.hear (s : MS) (k : Str) (tick : Int) : MS := (({ s with hd := true } : MS).note tick "hear").rem (s.held k) k tick
theorem MS.W.hear {s : MS} {n : Nat} (h : s.W n) (k : Str) (tick : Int) : (s.hear k tick).W (n + 2) := MS.W.rem (MS.W.note (s := { s with hd := true }) ⟨h.rc, h.lc, h.rl, h.ll⟩ tick _) _ _ _
def S_State_hear : FS := fun ts Q => ∃ (s : MS) (n : Nat) (k : Str) (tick : Int), ts = [s.t, .int tick] ∧ s.W n ∧ n < 900000 ∧ s.k = some k ∧ Q (.ret .non) [(s.hear k tick).t, .int tick]
theorem l_State_hear : ∀ ts Q, S_State_hear ts Q → ts.length = 2 := fun ts Q ⟨_, _, _, _, e, _⟩ => by rw [e]; rfl
theorem at_hear {s : MS} {n : Nat} {k : Str} {tick : Int} {Q : Rs → List T → Prop} (h : s.W n) (hn : n < 900000) (hk : s.k = some k) (q : Q (.ret .non) [(s.hear k tick).t, .int tick]) : S_State_hear [s.t, .int tick] Q := ⟨s, n, k, tick, rfl, h, hn, hk, q⟩
abbrev N_State_hear : List Str := ["self", "tick"]
def w_State_hear_1 : WS :=
  (wFldSet 0 ["State"] "kept_is_heard" false (wC (.bl true)))
def w_State_hear_2 : WS :=
  (wDrop (wMeth "State" "note" S_State_note (wV 0) (wCons (wV 1) (wCons (wC (.str "hear")) wNil))))
def w_State_hear_3_1 : WS :=
  (wDrop (wMeth "State" "note_other" S_State_note_other (wV 0) (wCons (wV 1) wNil)))
def w_State_hear_3 : WS :=
  (wIfS (wTru (wMeth "State" "is_held_other" S_State_is_held_other (wV 0) (wCons (wFldC ["State"] "kept_kind" (wV 0)) wNil))) w_State_hear_3_1 wNext)
def w_State_hear : WS :=
  (wSeq w_State_hear_1 (wSeq w_State_hear_2 w_State_hear_3))
theorem v_State_hear : ∀ ts Qf, S_State_hear ts Qf → w_State_hear (endsD 1 ts Qf) (startD N_State_hear 1 ts) := by
  rintro ts Qf ⟨s, n, k, tick, rfl, h, hn, hk, q⟩
  show w_State_hear (endsD 1 [s.t, .int tick] Qf) [some s.t, some (.int tick)]
  have fin : (endsD 1 [s.t, .int tick] Qf).nx [some (s.hear k tick).t, some (.int tick)] := q
  revert fin
  generalize endsD 1 [s.t, .int tick] Qf = D
  intro fin
  obtain ⟨x, lg, k0, b, hd, ot, ow, dn, rn, ct, lo⟩ := s
  dsimp only at hk
  subst hk
  have h1 : MS.W ⟨x, lg, some k, b, true, ot, ow, dn, rn, ct, lo⟩ n := ⟨h.rc, h.lc, h.rl, h.ll⟩
  refine sq ⟨mem1, show 11 < 1000 by decide, ?_⟩
  show wSeq w_State_hear_2 w_State_hear_3 D [some (MS.t ⟨x, lg, some k, b, true, ot, ow, dn, rn, ct, lo⟩), some (.int tick)]
  refine sq ⟨rfl, rfl, rfl, at_note h1 (by omega) (by decide +kernel) ?_⟩
  show w_State_hear_3 D [some (MS.note ⟨x, lg, some k, b, true, ot, ow, dn, rn, ct, lo⟩ tick "hear").t, some (.int tick)]
  refine ⟨rfl, rfl, mem1, rfl, rfl, at_held (s := MS.note ⟨x, lg, some k, b, true, ot, ow, dn, rn, ct, lo⟩ tick "hear") (ite_of (fun h2 => ⟨rfl, rfl, rfl, at_noteO (h1.note tick "hear") (by omega) rfl ?_⟩) fun h2 => ?_)⟩
  · have h2 : MS.held ⟨x, lg, some k, b, hd, ot, ow, dn, rn, ct, lo⟩ k = true := h2
    have e : MS.hear ⟨x, lg, some k, b, hd, ot, ow, dn, rn, ct, lo⟩ k tick = (MS.note ⟨x, lg, some k, b, true, ot, ow, dn, rn, ct, lo⟩ tick "hear").noteO k tick := if_pos h2
    rw [e] at fin; exact fin
  · have h2 : MS.held ⟨x, lg, some k, b, hd, ot, ow, dn, rn, ct, lo⟩ k = false := h2
    have e : MS.hear ⟨x, lg, some k, b, hd, ot, ow, dn, rn, ct, lo⟩ k tick = MS.note ⟨x, lg, some k, b, true, ot, ow, dn, rn, ct, lo⟩ tick "hear" := if_neg (by rw [h2]; simp)
    rw [e] at fin; exact fin
end TL
set_option maxRecDepth 100000
set_option maxHeartbeats 1000000
namespace TL
open PySem PySem.Spec PyProof.Rows L2
def MS.decide (s : MS) (k : Str) (tick : Int) : MS := match s.x.out k s.dn s.ot s.ow with
  | none => ({ s with k := none, ot := false, ow := false } : MS).note tick "idle"
  | some k' => s.start tick k'
theorem MS.W.decide {s : MS} {n : Nat} (h : s.W n) (k : Str) (tick : Int) : (s.decide k tick).W (n + 3) := by
  unfold MS.decide
  split
  · exact (MS.W.note (s := { s with k := none, ot := false, ow := false }) ⟨h.rc, h.lc, h.rl, h.ll⟩ tick _).mono (by omega)
  · exact h.start tick _
def S_State_decide : FS := fun ts Q => ∃ (s : MS) (n : Nat) (k : Str) (tick : Int), ts = [s.t, .int tick] ∧ s.W n ∧ n < 900000 ∧ s.k = some k ∧ s.dn.length ≤ 2 ∧ (∀ k', s.x.out k s.dn s.ot s.ow = some k' → KQ k') ∧ Q (.ret .non) [(s.decide k tick).t, .int tick]
theorem l_State_decide : ∀ ts Q, S_State_decide ts Q → ts.length = 2 := fun ts Q ⟨_, _, _, _, e, _⟩ => by rw [e]; rfl
theorem at_decide {s : MS} {n : Nat} {k : Str} {tick : Int} {Q : Rs → List T → Prop} (h : s.W n) (hn : n < 900000) (hk : s.k = some k) (hd : s.dn.length ≤ 2) (ho : ∀ k', s.x.out k s.dn s.ot s.ow = some k' → KQ k') (q : Q (.ret .non) [(s.decide k tick).t, .int tick]) : S_State_decide [s.t, .int tick] Q := ⟨s, n, k, tick, rfl, h, hn, hk, hd, ho, q⟩
abbrev N_State_decide : List Str := ["self", "tick", "kind"]
def w_State_decide_1 : WS :=
  (wAsg (wCall S_outcome (wCons (wFldC ["State"] "kept_rules" (wV 0)) (wCons (wFldC ["State"] "kept_kind" (wV 0)) (wCons (wFldC ["State"] "kept_down" (wV 0)) (wCons (wFldC ["State"] "kept_is_other" (wV 0)) (wCons (wFldC ["State"] "kept_is_own" (wV 0)) wNil)))))) (wgN 2))
def w_State_decide_2_1 : WS :=
  (wAsg (wTup (wCons (wC .non) (wCons (wC (.bl false)) (wCons (wC (.bl false)) wNil)))) (wgTup 3 (wgCons (wgFld 0 ["State"] "kept_kind" false) (wgCons (wgFld 0 ["State"] "kept_is_other" false) (wgCons (wgFld 0 ["State"] "kept_is_own" false) wgNil)))))
def w_State_decide_2_2 : WS :=
  (wDrop (wMeth "State" "note" S_State_note (wV 0) (wCons (wV 1) (wCons (wC (.str "idle")) wNil))))
def w_State_decide_2_e1 : WS :=
  (wDrop (wMeth "State" "start" S_State_start (wV 0) (wCons (wV 1) (wCons (wV 2) wNil))))
def w_State_decide_2 : WS :=
  (wIfS (wTest (wOp (gIs false) (wV 2) (wC .non))) (wSeq w_State_decide_2_1 w_State_decide_2_2) w_State_decide_2_e1)
def w_State_decide : WS :=
  (wSeq w_State_decide_1 w_State_decide_2)
theorem v_State_decide : ∀ ts Qf, S_State_decide ts Qf → w_State_decide (endsD 1 ts Qf) (startD N_State_decide 1 ts) := by
  rintro ts Qf ⟨s, n, k, tick, rfl, h, hn, hk, hd2, ho, q⟩
  show w_State_decide (endsD 1 [s.t, .int tick] Qf) [some s.t, some (.int tick), none]
  have fin : ∀ z, (endsD 1 [s.t, .int tick] Qf).nx [some (s.decide k tick).t, some (.int tick), z] := fun z => q
  revert fin
  generalize endsD 1 [s.t, .int tick] Qf = D
  intro fin
  obtain ⟨x, lg, k0, b, hd, ot, ow, dn, rn, ct, lo⟩ := s
  dsimp only at hk ho hd2
  subst hk
  refine sq ⟨mem1, rfl, mem1, rfl, mem1, cl_dnT _, mem1, rfl, mem1, rfl, rfl, at_outcome hd2 ?_⟩
  show w_State_decide_2 D [some (MS.t ⟨x, lg, some k, b, hd, ot, ow, dn, rn, ct, lo⟩), some (.int tick), some (optS (x.out k dn ot ow))]
  have e : MS.decide ⟨x, lg, some k, b, hd, ot, ow, dn, rn, ct, lo⟩ k tick = (match x.out k dn ot ow with
    | none => MS.note ⟨x, lg, none, b, hd, false, false, dn, rn, ct, lo⟩ tick "idle"
    | some k' => MS.start ⟨x, lg, some k, b, hd, ot, ow, dn, rn, ct, lo⟩ tick k') := rfl
  rw [e] at fin
  revert fin ho
  generalize x.out k dn ot ow = o
  intro ho fin
  cases o with
  | none =>
    show wSeq w_State_decide_2_1 w_State_decide_2_2 D [some (MS.t ⟨x, lg, some k, b, hd, ot, ow, dn, rn, ct, lo⟩), some (.int tick), some .non]
    refine sq ⟨z3, rfl, mem1, show 11 < 1000 by decide, mem1, show 11 < 1000 by decide, mem1, show 11 < 1000 by decide, ?_⟩
    show w_State_decide_2_2 D [some (MS.t ⟨x, lg, none, b, hd, false, false, dn, rn, ct, lo⟩), some (.int tick), some .non]
    exact ⟨rfl, rfl, rfl, at_note (s := ⟨x, lg, none, b, hd, false, false, dn, rn, ct, lo⟩) (n := n) ⟨h.rc, h.lc, h.rl, h.ll⟩ (by omega) (by decide +kernel) (fin _)⟩
  | some k' =>
    show w_State_decide_2_e1 D [some (MS.t ⟨x, lg, some k, b, hd, ot, ow, dn, rn, ct, lo⟩), some (.int tick), some (.str k')]
    exact ⟨rfl, rfl, rfl, at_start h (by omega) (ho k' rfl) (fin _)⟩
end TL
set_option maxRecDepth 100000
set_option maxHeartbeats 1000000
namespace TL
open PySem PySem.Spec PyProof.Rows L2
def MS.new (x : Ru) (lg : Bool) : MS := ⟨x, lg, none, 0, false, false, false, [], [], fun _ => 0, []⟩
theorem MS.W.new (x : Ru) (lg : Bool) : (MS.new x lg).W 0 := ⟨rfl, rfl, Nat.le_refl _, Nat.le_refl _⟩
def fillT (l : List Str) : List (Key × T) := l.foldl (fun a w => putT a (.inr w) (.int 0)) []
theorem putT_len (a : List (Key × T)) (k : Key) (v : T) : (putT a k v).length ≤ a.length + 1 := by
  unfold putT
  split
  · rw [List.length_map]; omega
  · rw [List.length_append, List.length_singleton]; omega
theorem fillT_snoc (l : List Str) (w : Str) : fillT (l ++ [w]) = putT (fillT l) (.inr w) (.int 0) := by unfold fillT; rw [List.foldl_append]; rfl
theorem fillT_len : ∀ l : List Str, (fillT l).length ≤ l.length := fun l => by
  have gen : ∀ (l : List Str) (a : List (Key × T)), (l.foldl (fun a w => putT a (.inr w) (.int 0)) a).length ≤ a.length + l.length := fun l => by
    induction l with
    | nil => intro a; exact Nat.le_refl _
    | cons w l ih =>
      intro a
      have h1 := ih (putT a (.inr w) (.int 0))
      have h2 := putT_len a (.inr w) (.int 0)
      rw [List.foldl_cons, List.length_cons]; omega
  have h := gen l []
  rw [List.length_nil, Nat.zero_add] at h
  exact h
theorem fillT_nd : ∀ (l : List Str) (a : List (Key × T)), (∀ w ∈ l, ∀ p ∈ a, p.1 ≠ .inr w) → l.Nodup → l.foldl (fun a w => putT a (.inr w) (.int 0)) a = a ++ l.map fun w => (.inr w, .int 0)
  | [], a, _, _ => by simp
  | w :: l, a, h, nd => by
    have hn : (a.any fun q => decide (q.1 = .inr w)) = false := by
      rw [List.any_eq_false]
      intro p hp
      simpa using h w List.mem_cons_self p hp
    have e : putT a (.inr w) (.int 0) = a ++ [(.inr w, .int 0)] := by
      unfold putT
      rw [hn, if_neg (by simp)]
    rw [List.foldl_cons, e, fillT_nd l _ (fun v hv p hp => ?_) (List.nodup_cons.mp nd).2]
    · simp
    · rcases List.mem_append.mp hp with z | z
      · exact h v (List.mem_cons_of_mem _ hv) p z
      · rw [List.mem_singleton.mp z]
        intro q
        have q : w = v := Sum.inr.inj q
        subst q
        exact (List.nodup_cons.mp nd).1 hv
theorem fillT_all : fillT STEP = ctK fun _ => 0 := by
  have h := fillT_nd STEP [] (fun _ _ p hp => by cases hp) (by decide +kernel)
  exact h
def S_State___init__ : FS := fun ts Q => ∃ (x : Ru) (lg : Bool), ts = [.ins true "State" [], x.t, .bl lg] ∧ Q (.ret .non) [(MS.new x lg).t, x.t, .bl lg]
theorem l_State___init__ : ∀ ts Q, S_State___init__ ts Q → ts.length = 3 := fun ts Q ⟨_, _, e, _⟩ => by rw [e]; rfl
theorem at_new {x : Ru} {lg : Bool} {Q : Rs → List T → Prop} (q : Q (.ret .non) [(MS.new x lg).t, x.t, .bl lg]) : S_State___init__ [.ins true "State" [], x.t, .bl lg] Q := ⟨x, lg, rfl, q⟩
abbrev N_State___init__ : List Str := ["self", "rules", "is_logged", "word"]
def w_State___init___1 : WS :=
  (wFldSet 0 ["State"] "kept_rules" false (wV 1))
def w_State___init___2 : WS :=
  (wFldSet 0 ["State"] "kept_is_logged" false (wV 2))
def w_State___init___3 : WS :=
  (wFldSet 0 ["State"] "kept_kind" false (wC .non))
def w_State___init___4 : WS :=
  (wFldSet 0 ["State"] "kept_begin" false (wC (.int 0)))
def w_State___init___5 : WS :=
  (wFldSet 0 ["State"] "kept_is_heard" false (wC (.bl false)))
def w_State___init___6 : WS :=
  (wFldSet 0 ["State"] "kept_is_other" false (wC (.bl false)))
def w_State___init___7 : WS :=
  (wFldSet 0 ["State"] "kept_is_own" false (wC (.bl false)))
def w_State___init___8 : WS :=
  (wFldSet 0 ["State"] "kept_down" false (wLst wNil))
def w_State___init___9 : WS :=
  (wFldSet 0 ["State"] "kept_runs" true (wLst wNil))
def w_State___init___10 : WS :=
  (wFldSet 0 ["State"] "kept_counts" true (wDc (wiTup (wC (.tup [.str "press s", .str "press l", .str "release s", .str "release l", .str "begin s", .str "begin l", .str "hear", .str "remember s", .str "remember l", .str "idle"]))) (wgN 3) wYes (wV 3) (wC (.int 0)) [3]))
def w_State___init___11 : WS :=
  (wFldSet 0 ["State"] "kept_log" true (wLst wNil))
def w_State___init__ : WS :=
  (wSeq w_State___init___1 (wSeq w_State___init___2 (wSeq w_State___init___3 (wSeq w_State___init___4 (wSeq w_State___init___5 (wSeq w_State___init___6 (wSeq w_State___init___7 (wSeq w_State___init___8 (wSeq w_State___init___9 (wSeq w_State___init___10 w_State___init___11))))))))))
theorem v_State___init__ : ∀ ts Qf, S_State___init__ ts Qf → w_State___init__ (endsD 1 ts Qf) (startD N_State___init__ 1 ts) := by
  rintro ts Qf ⟨x, lg, rfl, q⟩
  show w_State___init__ (endsD 1 [.ins true "State" [], x.t, .bl lg] Qf) [some (.ins true "State" []), some x.t, some (.bl lg), none]
  have fin : ∀ z, (endsD 1 [.ins true "State" [], x.t, .bl lg] Qf).nx [some (MS.new x lg).t, some x.t, some (.bl lg), z] := fun z => q
  revert fin
  generalize endsD 1 [.ins true "State" [], x.t, .bl lg] Qf = D
  intro fin
  have n1 : ∀ k : Nat, k < 20 → k < 1000 := fun k h => by omega
  refine sq ⟨mem1, n1 0 (by decide), ?_⟩
  show wSeq w_State___init___2 (wSeq w_State___init___3 (wSeq w_State___init___4 (wSeq w_State___init___5 (wSeq w_State___init___6 (wSeq w_State___init___7 (wSeq w_State___init___8 (wSeq w_State___init___9 (wSeq w_State___init___10 w_State___init___11)))))))) D [some (.ins true "State" [("kept_rules", x.t)]), some x.t, some (.bl lg), none]
  refine sq ⟨mem1, n1 1 (by decide), ?_⟩
  show wSeq w_State___init___3 (wSeq w_State___init___4 (wSeq w_State___init___5 (wSeq w_State___init___6 (wSeq w_State___init___7 (wSeq w_State___init___8 (wSeq w_State___init___9 (wSeq w_State___init___10 w_State___init___11))))))) D [some (.ins true "State" [("kept_rules", x.t), ("kept_is_logged", .bl lg)]), some x.t, some (.bl lg), none]
  refine sq ⟨mem1, n1 2 (by decide), ?_⟩
  show wSeq w_State___init___4 (wSeq w_State___init___5 (wSeq w_State___init___6 (wSeq w_State___init___7 (wSeq w_State___init___8 (wSeq w_State___init___9 (wSeq w_State___init___10 w_State___init___11)))))) D [some (.ins true "State" [("kept_rules", x.t), ("kept_is_logged", .bl lg), ("kept_kind", .non)]), some x.t, some (.bl lg), none]
  refine sq ⟨mem1, n1 3 (by decide), ?_⟩
  show wSeq w_State___init___5 (wSeq w_State___init___6 (wSeq w_State___init___7 (wSeq w_State___init___8 (wSeq w_State___init___9 (wSeq w_State___init___10 w_State___init___11))))) D [some (.ins true "State" [("kept_rules", x.t), ("kept_is_logged", .bl lg), ("kept_kind", .non), ("kept_begin", .int 0)]), some x.t, some (.bl lg), none]
  refine sq ⟨mem1, n1 4 (by decide), ?_⟩
  show wSeq w_State___init___6 (wSeq w_State___init___7 (wSeq w_State___init___8 (wSeq w_State___init___9 (wSeq w_State___init___10 w_State___init___11)))) D [some (.ins true "State" [("kept_rules", x.t), ("kept_is_logged", .bl lg), ("kept_kind", .non), ("kept_begin", .int 0), ("kept_is_heard", .bl false)]), some x.t, some (.bl lg), none]
  refine sq ⟨mem1, n1 5 (by decide), ?_⟩
  show wSeq w_State___init___7 (wSeq w_State___init___8 (wSeq w_State___init___9 (wSeq w_State___init___10 w_State___init___11))) D [some (.ins true "State" [("kept_rules", x.t), ("kept_is_logged", .bl lg), ("kept_kind", .non), ("kept_begin", .int 0), ("kept_is_heard", .bl false), ("kept_is_other", .bl false)]), some x.t, some (.bl lg), none]
  refine sq ⟨mem1, n1 6 (by decide), ?_⟩
  show wSeq w_State___init___8 (wSeq w_State___init___9 (wSeq w_State___init___10 w_State___init___11)) D [some (.ins true "State" [("kept_rules", x.t), ("kept_is_logged", .bl lg), ("kept_kind", .non), ("kept_begin", .int 0), ("kept_is_heard", .bl false), ("kept_is_other", .bl false), ("kept_is_own", .bl false)]), some x.t, some (.bl lg), none]
  refine sq ⟨Nat.zero_le _, mem1, n1 7 (by decide), ?_⟩
  show wSeq w_State___init___9 (wSeq w_State___init___10 w_State___init___11) D [some (.ins true "State" [("kept_rules", x.t), ("kept_is_logged", .bl lg), ("kept_kind", .non), ("kept_begin", .int 0), ("kept_is_heard", .bl false), ("kept_is_other", .bl false), ("kept_is_own", .bl false), ("kept_down", .lst false [])]), some x.t, some (.bl lg), none]
  refine sq ⟨Nat.zero_le _, mem1, n1 8 (by decide), ?_⟩
  show wSeq w_State___init___10 w_State___init___11 D [some (.ins true "State" [("kept_rules", x.t), ("kept_is_logged", .bl lg), ("kept_kind", .non), ("kept_begin", .int 0), ("kept_is_heard", .bl false), ("kept_is_other", .bl false), ("kept_is_own", .bl false), ("kept_down", .lst false []), ("kept_runs", .lst true [])]), some x.t, some (.bl lg), none]
  refine sq ⟨fun i acc Δ => i ≤ 10 ∧ acc = fillT (STEP.take i) ∧ Δ = [some (.ins true "State" [("kept_rules", x.t), ("kept_is_logged", .bl lg), ("kept_kind", .non), ("kept_begin", .int 0), ("kept_is_heard", .bl false), ("kept_is_other", .bl false), ("kept_is_own", .bl false), ("kept_down", .lst false []), ("kept_runs", .lst true [])]), some x.t, some (.bl lg), none], ⟨by decide, rfl, rfl⟩, ?_, ?_⟩
  · rintro i y acc Δ hy ⟨hi, rfl, rfl⟩
    have hy2 : (STEP.map T.str)[i]? = some y := hy
    rw [List.getElem?_map] at hy2
    cases e : STEP[i]? with
    | none => rw [e] at hy2; cases hy2
    | some w =>
      rw [e] at hy2
      cases hy2
      have hi2 : i < 10 := (List.getElem?_eq_some_iff.mp e).1
      have hl := fillT_len (STEP.take i)
      rw [List.length_take] at hl
      refine ⟨lt_big (n := 10) (by omega) (by decide), by omega, ?_, rfl⟩
      rw [take_at e, fillT_snoc]; rfl
  · rintro acc Δ ⟨_, hacc, rfl⟩
    have e : acc = ctK fun _ => 0 := by rw [hacc]; exact fillT_all
    clear hacc
    refine ⟨mem1, n1 9 (by decide), ?_⟩
    show w_State___init___11 D [some (.ins true "State" [("kept_rules", x.t), ("kept_is_logged", .bl lg), ("kept_kind", .non), ("kept_begin", .int 0), ("kept_is_heard", .bl false), ("kept_is_other", .bl false), ("kept_is_own", .bl false), ("kept_down", .lst false []), ("kept_runs", .lst true []), ("kept_counts", .dct true acc)]), some x.t, some (.bl lg), none]
    refine ⟨Nat.zero_le _, mem1, n1 10 (by decide), ?_⟩
    have f := fin none
    rw [show MS.t (MS.new x lg) = .ins true "State" [("kept_rules", x.t), ("kept_is_logged", .bl lg), ("kept_kind", .non), ("kept_begin", .int 0), ("kept_is_heard", .bl false), ("kept_is_other", .bl false), ("kept_is_own", .bl false), ("kept_down", .lst false []), ("kept_runs", .lst true []), ("kept_counts", .dct true (ctK fun _ => 0)), ("kept_log", .lst true [])] from rfl, ← e] at f
    exact f
end TL
set_option maxRecDepth 100000
set_option maxHeartbeats 1000000
namespace TL
open PySem PySem.Spec PyProof.Rows L2
def preW (l : Str) : Str := ("press " : Str) ++ l
def relW (l : Str) : Str := ("release " : Str) ++ l
theorem KQ.pre {k : Str} (h : KQ k) : preW k ∈ STEP := by rcases h with rfl | rfl <;> decide +kernel
theorem KQ.rel {k : Str} (h : KQ k) : relW k ∈ STEP := by rcases h with rfl | rfl <;> decide +kernel
theorem KQ.preL {k : Str} (h : KQ k) : ("press " : Str).length + k.length ≤ sizeLine := by rw [h.len1]; decide +kernel
theorem KQ.relL {k : Str} (h : KQ k) : ("release " : Str).length + k.length ≤ sizeLine := by rw [h.len1]; decide +kernel
def downW (dn : List Str) (l : Str) : List Str := if dn = [] then [l] else [("l" : Str), "s"]
theorem perm2 {l : Str} (h : KQ l) {ys : List Str} (hp : ys.Perm [oth l, l]) (hs : sortedS ys = true) : ys = [("l" : Str), "s"] := by
  have hl := hp.length_eq
  match ys, hl, hp, hs with
  | [a, b], _, hp, hs =>
    have ne : oth l ≠ l := by rcases h with rfl | rfl <;> decide +kernel
    have ha : a ∈ [oth l, l] := hp.mem_iff.mp (by simp)
    have hb : b ∈ [oth l, l] := hp.mem_iff.mp (by simp)
    have h1 : l ∈ [a, b] := hp.mem_iff.mpr (by simp)
    have h2 : oth l ∈ [a, b] := hp.mem_iff.mpr (by simp)
    simp only [List.mem_cons, List.not_mem_nil, or_false] at ha hb h1 h2
    have key : (a = oth l ∧ b = l) ∨ (a = l ∧ b = oth l) := by
      rcases ha with ea | ea <;> rcases hb with eb | eb
      · exfalso
        rcases h1 with z | z
        · exact ne (z.trans ea).symm
        · exact ne (z.trans eb).symm
      · exact .inl ⟨ea, eb⟩
      · exact .inr ⟨ea, eb⟩
      · exfalso
        rcases h2 with z | z
        · exact ne (z.trans ea)
        · exact ne (z.trans eb)
    clear ha hb h1 h2 hp ne
    have e1 : oth "s" = "l" := by decide +kernel
    have e2 : oth "l" = "s" := by decide +kernel
    rcases h with rfl | rfl <;> rcases key with ⟨rfl, rfl⟩ | ⟨rfl, rfl⟩
    · rw [e1]
    · exfalso; rw [e1] at hs; exact absurd hs (by decide +kernel)
    · exfalso; rw [e2] at hs; exact absurd hs (by decide +kernel)
    · rw [e2]
def MS.release (s : MS) (tick : Int) (l : Str) : MS := { s.note tick (relW l) with dn := s.dn.filter fun z => Decidable.decide (z ≠ l) }
def MS.pressed (s : MS) (tick : Int) (l : Str) : MS := { s.note tick (preW l) with dn := downW s.dn l }
def MS.ownC (s : MS) (l k : Str) : Bool := s.hd && (Decidable.decide (l = k) && (s.x.p && !s.ow))
def MS.otherC (s : MS) (l k : Str) : Bool := s.hd && (!Decidable.decide (l = k) && (!Decidable.decide (s.x.r = "none") && !s.ot))
def MS.heard (s : MS) (tick : Int) (l k : Str) : MS := if s.ownC l k = true then ({ s with ow := true } : MS).note tick (remW l) else if s.otherC l k = true then s.noteO k tick else s
def MS.press (s : MS) (tick : Int) (l : Str) : MS := match s.k with
  | none => (s.pressed tick l).start tick l
  | some k => (s.pressed tick l).heard tick l k
theorem MS.W.release {s : MS} {n : Nat} (h : s.W n) (tick : Int) (l : Str) : (s.release tick l).W (n + 1) := have g := h.note tick (relW l); ⟨g.rc, g.lc, g.rl, g.ll⟩
theorem MS.W.pressed {s : MS} {n : Nat} (h : s.W n) (tick : Int) (l : Str) : (s.pressed tick l).W (n + 1) := have g := h.note tick (preW l); ⟨g.rc, g.lc, g.rl, g.ll⟩
theorem MS.W.press {s : MS} {n : Nat} (h : s.W n) (tick : Int) (l : Str) : (s.press tick l).W (n + 4) := by
  unfold MS.press
  split
  · exact (h.pressed tick l).start tick l
  · unfold MS.heard
    split
    · exact (MS.W.note (s := { s.pressed tick l with ow := true }) (n := n + 1) (have g := h.pressed tick l; ⟨g.rc, g.lc, g.rl, g.ll⟩) tick _).mono (by omega)
    · split
      · exact ((h.pressed tick l).noteO _ tick).mono (by omega)
      · exact (h.pressed tick l).mono (by omega)
def S_State_happen : FS := fun ts Q => ∃ (s : MS) (n : Nat) (tick : Int) (l : Str) (d : Bool), ts = [s.t, .int tick, .str l, .bl d] ∧ s.W n ∧ n < 800000 ∧ KQ l ∧ s.dn.length ≤ 2 ∧
  (d = false → Q (.ret .non) [(s.release tick l).t, .int tick, .str l, .bl d]) ∧ (d = true → (s.dn = [] ∨ s.dn = [oth l]) ∧ Q (.ret .non) [(s.press tick l).t, .int tick, .str l, .bl d])
theorem l_State_happen : ∀ ts Q, S_State_happen ts Q → ts.length = 4 := fun ts Q ⟨_, _, _, _, _, e, _⟩ => by rw [e]; rfl
abbrev N_State_happen : List Str := ["self", "tick", "lever", "is_down", "other"]
def w_State_happen_1 : WS :=
  (wDrop (wMeth "State" "note" S_State_note (wV 0) (wCons (wV 1) (wCons (wOp gAdd (wIf (wTru (wV 3)) (wC (.str "press ")) (wC (.str "release "))) (wV 2)) wNil))))
def w_State_happen_2_1 : WS :=
  (wFldSet 0 ["State"] "kept_down" false (wLc (wiList (wFldC ["State"] "kept_down" (wV 0))) (wgN 4) (wTest (wOp (gEq true) (wV 4) (wV 2))) (wV 4) [4]))
def w_State_happen_2_2 : WS :=
  wRetN
def w_State_happen_2 : WS :=
  (wIfS (wNot (wTru (wV 3))) (wSeq w_State_happen_2_1 w_State_happen_2_2) wNext)
def w_State_happen_3 : WS :=
  (wFldSet 0 ["State"] "kept_down" false (wCl gSortS (wCons (wLst (wStar (wFldC ["State"] "kept_down" (wV 0)) (wCons (wV 2) wNil))) wNil)))
def w_State_happen_4_1 : WS :=
  (wDrop (wMeth "State" "start" S_State_start (wV 0) (wCons (wV 1) (wCons (wV 2) wNil))))
def w_State_happen_4_e1_1 : WS :=
  (wFldSet 0 ["State"] "kept_is_own" false (wC (.bl true)))
def w_State_happen_4_e1_2 : WS :=
  (wDrop (wMeth "State" "note" S_State_note (wV 0) (wCons (wV 1) (wCons (wOp gAdd (wC (.str "remember ")) (wV 2)) wNil))))
def w_State_happen_4_e1_e1_1 : WS :=
  (wDrop (wMeth "State" "note_other" S_State_note_other (wV 0) (wCons (wV 1) wNil)))
def w_State_happen_4_e1_e1 : WS :=
  (wIfS (wAnd (wTru (wFldC ["State"] "kept_is_heard" (wV 0))) (wAnd (wTest (wOp (gEq true) (wV 2) (wFldC ["State"] "kept_kind" (wV 0)))) (wAnd (wTest (wOp (gEq true) (wOp gIx (wFldC ["State"] "kept_rules" (wV 0)) (wC (.int 4))) (wC (.str "none")))) (wNot (wTru (wFldC ["State"] "kept_is_other" (wV 0))))))) w_State_happen_4_e1_e1_1 wNext)
def w_State_happen_4_e1 : WS :=
  (wIfS (wAnd (wTru (wFldC ["State"] "kept_is_heard" (wV 0))) (wAnd (wTest (wOp (gEq false) (wV 2) (wFldC ["State"] "kept_kind" (wV 0)))) (wAnd (wTru (wOp gIx (wFldC ["State"] "kept_rules" (wV 0)) (wC (.int 5)))) (wNot (wTru (wFldC ["State"] "kept_is_own" (wV 0))))))) (wSeq w_State_happen_4_e1_1 w_State_happen_4_e1_2) w_State_happen_4_e1_e1)
def w_State_happen_4 : WS :=
  (wIfS (wTest (wOp (gIs false) (wFldC ["State"] "kept_kind" (wV 0)) (wC .non))) w_State_happen_4_1 w_State_happen_4_e1)
def w_State_happen : WS :=
  (wSeq w_State_happen_1 (wSeq w_State_happen_2 (wSeq w_State_happen_3 w_State_happen_4)))
theorem v_State_happen : ∀ ts Qf, S_State_happen ts Qf → w_State_happen (endsD 1 ts Qf) (startD N_State_happen 1 ts) := by
  rintro ts Qf ⟨s, n, tick, l, d, rfl, h, hn, hl, hd2, q1, q2⟩
  show w_State_happen (endsD 1 [s.t, .int tick, .str l, .bl d] Qf) [some s.t, some (.int tick), some (.str l), some (.bl d), none]
  cases d with
  | false =>
    have fin : ∀ z, (endsD 1 [s.t, .int tick, .str l, .bl false] Qf).rt .non [some (s.release tick l).t, some (.int tick), some (.str l), some (.bl false), z] := fun z => q1 rfl
    clear q1 q2
    revert fin
    generalize endsD 1 [s.t, .int tick, .str l, .bl false] Qf = D
    intro fin
    refine sq ⟨rfl, rfl, hl.relL, rfl, at_note h (by omega) hl.rel ?_⟩
    show wSeq w_State_happen_2 (wSeq w_State_happen_3 w_State_happen_4) D [some (s.note tick (relW l)).t, some (.int tick), some (.str l), some (.bl false), none]
    refine sq ?_
    show wSeq w_State_happen_2_1 w_State_happen_2_2 { D with nx := wSeq w_State_happen_3 w_State_happen_4 D } [some (s.note tick (relW l)).t, some (.int tick), some (.str l), some (.bl false), none]
    refine sq ⟨mem1, cl_dnT _, fun j acc Δ => Δ = [some (s.note tick (relW l)).t, some (.int tick), some (.str l), some (.bl false), none] ∧ acc = ((s.dn.take j).filter fun z => Decidable.decide (z ≠ l)).map .str, ⟨rfl, rfl⟩, ?_, ?_⟩
    · rintro j y acc Δ hy ⟨rfl, rfl⟩
      have hy : (frzL (s.dn.map T.str))[j]? = some y := hy
      rw [strs_frz, List.getElem?_map] at hy
      cases hj : s.dn[j]? with
      | none => rw [hj] at hy; cases hy
      | some d =>
        rw [hj] at hy
        obtain rfl : T.str d = y := Option.some.inj hy
        have et := take_at hj
        refine ite_of (fun h => ⟨?_, rfl, ?_⟩) fun h => ⟨rfl, ?_⟩
        · rw [List.length_map]
          have h1 := List.length_filter_le (fun z => Decidable.decide (z ≠ l)) (s.dn.take j)
          have h2 : (s.dn.take j).length ≤ s.dn.length := by rw [List.length_take]; omega
          rw [sizeLine_eq]; omega
        · rw [et, List.filter_append]
          have e : ¬ d = l := by simpa [nb] using h
          simp [List.filter_cons, e, frz]
        · rw [et, List.filter_append]
          have e : d = l := by simpa [nb] using h
          simp [List.filter_cons, e]
    · rintro acc Δ ⟨rfl, hacc⟩
      have e : (frzL (s.dn.map T.str)).length = s.dn.length := by rw [strs_frz, List.length_map]
      have hacc : acc = (s.dn.filter fun z => Decidable.decide (z ≠ l)).map T.str := by
        rw [hacc]
        show List.map T.str (List.filter _ (List.take (frzL (s.dn.map T.str)).length s.dn)) = _
        rw [e, List.take_length]
      refine ⟨mem1, show 11 < 1000 by decide, ?_⟩
      show D.rt .non [some (.ins true "State" (ptF "kept_down" (.lst false (frzL acc)) (s.note tick (relW l)).fs)), some (.int tick), some (.str l), some (.bl false), none]
      rw [hacc, strs_frz]
      exact fin none
  | true =>
    have fin : ∀ z, (endsD 1 [s.t, .int tick, .str l, .bl true] Qf).nx [some (s.press tick l).t, some (.int tick), some (.str l), some (.bl true), z] := fun z => (q2 rfl).2
    have hdn := (q2 rfl).1
    clear q1 q2
    revert fin
    generalize endsD 1 [s.t, .int tick, .str l, .bl true] Qf = D
    intro fin
    refine sq ⟨rfl, rfl, hl.preL, rfl, at_note h (by omega) hl.pre ?_⟩
    show wSeq w_State_happen_2 (wSeq w_State_happen_3 w_State_happen_4) D [some (s.note tick (preW l)).t, some (.int tick), some (.str l), some (.bl true), none]
    refine sq ?_
    show wSeq w_State_happen_3 w_State_happen_4 D [some (s.note tick (preW l)).t, some (.int tick), some (.str l), some (.bl true), none]
    have e1 : (frzL (s.dn.map T.str)).map frz ++ [frz (frz (.str l))] = (s.dn ++ [l]).map T.str := by
      rw [strs_frz, ← frzL_map, strs_frz, List.map_append]
      simp [frz]
    have nx4 : ∀ dn', dn' = downW s.dn l → w_State_happen_4 D [some ({ s.note tick (preW l) with dn := dn' } : MS).t, some (.int tick), some (.str l), some (.bl true), none] := fun dn' e => by
      subst e
      show w_State_happen_4 D [some (s.pressed tick l).t, some (.int tick), some (.str l), some (.bl true), none]
      have hW := h.pressed tick l
      cases ek : s.k with
      | none =>
        have e : s.press tick l = (s.pressed tick l).start tick l := by unfold MS.press; rw [ek]
        rw [e] at fin
        have ek2 : (s.pressed tick l).k = none := ek
        revert fin
        revert hW
        revert ek2
        generalize s.pressed tick l = u
        intro ek2 hW fin
        obtain ⟨x, lg, k0, b, hd, ot, ow, dn, rn, ct, lo⟩ := u
        dsimp only at ek2
        subst ek2
        refine ⟨mem1, rfl, ?_⟩
        show w_State_happen_4_1 D [some (MS.t ⟨x, lg, none, b, hd, ot, ow, dn, rn, ct, lo⟩), some (.int tick), some (.str l), some (.bl true), none]
        exact ⟨rfl, rfl, rfl, at_start hW (by omega) hl (fin _)⟩
      | some k =>
        have e : s.press tick l = (s.pressed tick l).heard tick l k := by unfold MS.press; rw [ek]
        rw [e] at fin
        have ek2 : (s.pressed tick l).k = some k := ek
        revert fin
        revert hW
        revert ek2
        generalize s.pressed tick l = u
        intro ek2 hW fin
        obtain ⟨x, lg, k0, b, hd, ot, ow, dn, rn, ct, lo⟩ := u
        dsimp only at ek2
        subst ek2
        refine ⟨mem1, rfl, ?_⟩
        show w_State_happen_4_e1 D [some (MS.t ⟨x, lg, some k, b, hd, ot, ow, dn, rn, ct, lo⟩), some (.int tick), some (.str l), some (.bl true), none]
        have f1 : MS.ownC ⟨x, lg, some k, b, hd, ot, ow, dn, rn, ct, lo⟩ l k = true → D.nx [some (MS.note ⟨x, lg, some k, b, hd, ot, true, dn, rn, ct, lo⟩ tick (remW l)).t, some (.int tick), some (.str l), some (.bl true), none] := fun c => by
          have f := fin none
          unfold MS.heard at f
          rw [if_pos c] at f
          exact f
        have f2 : MS.ownC ⟨x, lg, some k, b, hd, ot, ow, dn, rn, ct, lo⟩ l k = false → MS.otherC ⟨x, lg, some k, b, hd, ot, ow, dn, rn, ct, lo⟩ l k = true → D.nx [some (MS.noteO ⟨x, lg, some k, b, hd, ot, ow, dn, rn, ct, lo⟩ k tick).t, some (.int tick), some (.str l), some (.bl true), none] := fun c c2 => by
          have f := fin none
          unfold MS.heard at f
          rw [if_neg (by rw [c]; simp), if_pos c2] at f
          exact f
        have f3 : MS.ownC ⟨x, lg, some k, b, hd, ot, ow, dn, rn, ct, lo⟩ l k = false → MS.otherC ⟨x, lg, some k, b, hd, ot, ow, dn, rn, ct, lo⟩ l k = false → D.nx [some (MS.t ⟨x, lg, some k, b, hd, ot, ow, dn, rn, ct, lo⟩), some (.int tick), some (.str l), some (.bl true), none] := fun c c2 => by
          have f := fin none
          unfold MS.heard at f
          rw [if_neg (by rw [c]; simp), if_neg (by rw [c2]; simp)] at f
          exact f
        clear fin
        have els : MS.ownC ⟨x, lg, some k, b, hd, ot, ow, dn, rn, ct, lo⟩ l k = false → w_State_happen_4_e1_e1 D [some (MS.t ⟨x, lg, some k, b, hd, ot, ow, dn, rn, ct, lo⟩), some (.int tick), some (.str l), some (.bl true), none] := fun c => by
          refine ⟨mem1, rfl, ite_of (fun h1 => ⟨mem1, rfl, ite_of (fun h2 => ⟨mem1, rfl, rfl, ite_of (fun h3 => ⟨mem1, rfl, ite_of (fun h4 => ?_) fun h4 => ?_⟩) fun h3 => ?_⟩) fun h2 => ?_⟩) fun h1 => ?_⟩
          · refine ⟨rfl, rfl, rfl, at_noteO hW (by omega) rfl (f2 c ?_)⟩
            show (hd && (!Decidable.decide (l = k) && (!Decidable.decide (x.r = "none") && !ot))) = true
            rw [show hd = true from h1, show (!Decidable.decide (l = k)) = true from h2, show (!Decidable.decide (x.r = "none")) = true from h3, show (!ot) = true from h4]; rfl
          · refine f3 c ?_
            show (hd && (!Decidable.decide (l = k) && (!Decidable.decide (x.r = "none") && !ot))) = false
            rw [show (!ot) = false from h4]; simp
          · refine f3 c ?_
            show (hd && (!Decidable.decide (l = k) && (!Decidable.decide (x.r = "none") && !ot))) = false
            rw [show (!Decidable.decide (x.r = "none")) = false from h3]; simp
          · refine f3 c ?_
            show (hd && (!Decidable.decide (l = k) && (!Decidable.decide (x.r = "none") && !ot))) = false
            rw [show (!Decidable.decide (l = k)) = false from h2]; simp
          · refine f3 c ?_
            show (hd && (!Decidable.decide (l = k) && (!Decidable.decide (x.r = "none") && !ot))) = false
            rw [show hd = false from h1]; rfl
        refine ⟨mem1, rfl, ite_of (fun h1 => ⟨mem1, rfl, ite_of (fun h2 => ⟨mem1, rfl, rfl, ite_of (fun h3 => ⟨mem1, rfl, ite_of (fun h4 => ?_) fun h4 => els ?_⟩) fun h3 => els ?_⟩) fun h2 => els ?_⟩) fun h1 => els ?_⟩
        · have c : (hd && (Decidable.decide (l = k) && (x.p && !ow))) = true := by
            rw [show hd = true from h1, show Decidable.decide (l = k) = true from h2, show x.p = true from h3, show (!ow) = true from h4]; rfl
          refine sq ⟨mem1, show 11 < 1000 by decide, ?_⟩
          show w_State_happen_4_e1_2 D [some (MS.t ⟨x, lg, some k, b, hd, ot, true, dn, rn, ct, lo⟩), some (.int tick), some (.str l), some (.bl true), none]
          exact ⟨rfl, rfl, hl.remL, rfl, at_note (s := ⟨x, lg, some k, b, hd, ot, true, dn, rn, ct, lo⟩) (n := n + 1) ⟨hW.rc, hW.lc, hW.rl, hW.ll⟩ (by omega) hl.rem (f1 c)⟩
        · show (hd && (Decidable.decide (l = k) && (x.p && !ow))) = false
          rw [show (!ow) = false from h4]; simp
        · show (hd && (Decidable.decide (l = k) && (x.p && !ow))) = false
          rw [show x.p = false from h3]; simp
        · show (hd && (Decidable.decide (l = k) && (x.p && !ow))) = false
          rw [show Decidable.decide (l = k) = false from h2]; simp
        · show (hd && (Decidable.decide (l = k) && (x.p && !ow))) = false
          rw [show hd = false from h1]; rfl
    refine sq ⟨mem1, cl_dnT _, takes_vals ⟨?_, ?_⟩⟩
    · show ((frzL (s.dn.map T.str)).map frz ++ [frz (frz (.str l))]).length ≤ sizeLine
      rw [e1, List.length_map, List.length_append, List.length_singleton, sizeLine_eq]
      omega
    · show gSortS [.lst true ((frzL (s.dn.map T.str)).map frz ++ [frz (frz (.str l))])] fun t => wPutF 0 ["State"] "kept_down" false t [some (s.note tick (preW l)).t, some (.int tick), some (.str l), some (.bl true), none] (w_State_happen_4 D)
      rw [e1]
      show (match strsT ((s.dn ++ [l]).map T.str) with
        | some zs => zs.length < 64 ∧ ∀ ys : List Str, ys.Perm zs → sortedS ys = true → _
        | none => False)
      rw [strsT_map]
      refine ⟨by rw [List.length_append, List.length_singleton]; omega, fun ys hp hs => ⟨mem1, show 11 < 1000 by decide, ?_⟩⟩
      show w_State_happen_4 D [some (.ins true "State" (ptF "kept_down" (.lst false (frzL (ys.map T.str))) (s.note tick (preW l)).fs)), some (.int tick), some (.str l), some (.bl true), none]
      rw [strs_frz]
      refine nx4 ys ?_
      unfold downW
      rcases hdn with e | e
      · rw [e] at hp
        rw [if_pos e]
        exact List.perm_singleton.mp hp
      · rw [e] at hp
        rw [if_neg (by rw [e]; simp)]
        exact perm2 hl hp hs
end TL
set_option maxRecDepth 100000
set_option maxHeartbeats 1000000
namespace TL
open PySem PySem.Spec PyProof.Rows L2
theorem hear_x (s : MS) (k : Str) (t : Int) : (s.hear k t).x = s.x := by unfold MS.hear MS.rem; split <;> rfl
theorem hear_k (s : MS) (k : Str) (t : Int) : (s.hear k t).k = s.k := by unfold MS.hear MS.rem; split <;> rfl
theorem hear_b (s : MS) (k : Str) (t : Int) : (s.hear k t).b = s.b := by unfold MS.hear MS.rem; split <;> rfl
theorem hear_dn (s : MS) (k : Str) (t : Int) : (s.hear k t).dn = s.dn := by unfold MS.hear MS.rem; split <;> rfl
theorem rem_k (s : MS) (c : Bool) (k : Str) (t : Int) : (s.rem c k t).k = s.k := by unfold MS.rem; split <;> rfl
theorem decide_none {s : MS} {k : Str} {t : Int} (h : (s.decide k t).k = none) : s.x.out k s.dn s.ot s.ow = none := by
  unfold MS.decide at h
  split at h
  · assumption
  · unfold MS.start at h
    rw [rem_k] at h
    cases h
def Pre (s : MS) (k : Str) (tick : Int) (s1 : MS) : Prop := ((s.x.can k && !s.hd) = true ∧ s.b + s.x.d ≤ tick ∧ s1 = s.hear k (s.b + s.x.d)) ∨ ((s.x.can k && !s.hd) = false ∧ s1 = s)
inductive Adv (s : MS) (tick : Int) : MS → Prop
  | idle : s.k = none → Adv s tick s
  | early (k : Str) : s.k = some k → (s.x.can k && !s.hd) = true → tick < s.b + s.x.d → Adv s tick s
  | late (k : Str) (s1 : MS) : s.k = some k → Pre s k tick s1 → tick < s.b + (s.x.len k + s.x.c) → Adv s tick s1
  | last (k : Str) (s1 : MS) : s.k = some k → Pre s k tick s1 → s.b + (s.x.len k + s.x.c) ≤ tick → (s1.decide k (s.b + (s.x.len k + s.x.c))).k = none → Adv s tick (s1.decide k (s.b + (s.x.len k + s.x.c)))
theorem Pre.W {s s1 : MS} {k : Str} {tick : Int} {n : Nat} (h : s.W n) (p : Pre s k tick s1) : s1.W (n + 2) := by
  rcases p with ⟨_, _, rfl⟩ | ⟨_, rfl⟩
  · exact h.hear k _
  · exact h.mono (by omega)
theorem Pre.same {s s1 : MS} {k : Str} {tick : Int} (p : Pre s k tick s1) : s1.x = s.x ∧ s1.k = s.k ∧ s1.b = s.b ∧ s1.dn = s.dn := by
  rcases p with ⟨_, _, rfl⟩ | ⟨_, rfl⟩
  · exact ⟨hear_x .., hear_k .., hear_b .., hear_dn ..⟩
  · exact ⟨rfl, rfl, rfl, rfl⟩
theorem Adv.W {s s1 : MS} {tick : Int} {n : Nat} (h : s.W n) (p : Adv s tick s1) : s1.W (n + 5) := by
  cases p with
  | idle _ => exact h.mono (by omega)
  | early k _ _ _ => exact h.mono (by omega)
  | late k s1 _ p _ => exact (p.W h).mono (by omega)
  | last k s1 _ p _ _ => exact ((p.W h).decide k _).mono (by omega)
def S_State_following : FS := fun _ _ => False
def S_State_skip : FS := fun _ _ => False
def S_State_jump : FS := fun _ _ => False
theorem l_State_following : ∀ ts Q, S_State_following ts Q → ts.length = 2 := fun ts Q h => h.elim
theorem l_State_skip : ∀ ts Q, S_State_skip ts Q → ts.length = 3 := fun ts Q h => h.elim
theorem l_State_jump : ∀ ts Q, S_State_jump ts Q → ts.length = 2 := fun ts Q h => h.elim
abbrev N_State_following : List Str := ["self", "kind"]
def w_State_following : WS :=
  (wRet 1 (wCall S_outcome (wCons (wFldC ["State"] "kept_rules" (wV 0)) (wCons (wV 1) (wCons (wFldC ["State"] "kept_down" (wV 0)) (wCons (wMeth "State" "is_held_other" S_State_is_held_other (wV 0) (wCons (wV 1) wNil)) (wCons (wC (.bl false)) wNil)))))))
abbrev N_State_skip : List Str := ["self", "word", "times", "period", "kind"]
def w_State_skip_1 : WS :=
  (wAsg (wCl gSumL (wCons (wLc (wiStr (wV 1)) (wgN 4) wYes (wCall S_period_of (wCons (wFldC ["State"] "kept_rules" (wV 0)) (wCons (wV 4) wNil))) [4]) wNil)) (wgN 3))
def w_State_skip_2 : WS :=
  (wDrop (wFApp 0 ["kept_runs", "kept_log"] ["kept_counts"] ["State"] "kept_runs" (wTup (wCons (wOp gAdd (wFldC ["State"] "kept_begin" (wV 0)) (wCall S_period_of (wCons (wFldC ["State"] "kept_rules" (wV 0)) (wCons (wFldC ["State"] "kept_kind" (wV 0)) wNil)))) (wCons (wV 1) (wCons (wV 2) wNil))))))
def w_State_skip_3_1 : WS :=
  (wFAugD 0 ["kept_runs", "kept_log"] ["kept_counts"] ["State"] "kept_counts" (wOp gAdd (wC (.str "begin ")) (wV 4)) (wV 2))
def w_State_skip_3_2_1 : WS :=
  (wFAugD 0 ["kept_runs", "kept_log"] ["kept_counts"] ["State"] "kept_counts" (wC (.str "hear")) (wV 2))
def w_State_skip_3_2 : WS :=
  (wIfS (wAnd (wTru (wCall S_can_hear (wCons (wFldC ["State"] "kept_rules" (wV 0)) (wCons (wV 4) wNil)))) (wTest (wOp gGt (wOp gIx (wFldC ["State"] "kept_rules" (wV 0)) (wC (.int 3))) (wC (.int 0))))) w_State_skip_3_2_1 wNext)
def w_State_skip_3_3_1 : WS :=
  (wFAugD 0 ["kept_runs", "kept_log"] ["kept_counts"] ["State"] "kept_counts" (wOp gAdd (wC (.str "remember ")) (wCall S_other_of (wCons (wV 4) wNil))) (wV 2))
def w_State_skip_3_3 : WS :=
  (wIfS (wTru (wMeth "State" "is_held_other" S_State_is_held_other (wV 0) (wCons (wV 4) wNil))) w_State_skip_3_3_1 wNext)
def w_State_skip_3 : WS :=
  (wFor (wiStr (wV 1)) (wgN 4) (wSeq w_State_skip_3_1 (wSeq w_State_skip_3_2 w_State_skip_3_3)))
def w_State_skip_4 : WS :=
  (wFldAug 0 ["State"] "kept_begin" (wOp gMulA (wV 3) (wV 2)))
def w_State_skip : WS :=
  (wSeq w_State_skip_1 (wSeq w_State_skip_2 (wSeq w_State_skip_3 w_State_skip_4)))
abbrev N_State_jump : List Str := ["self", "tick", "kind", "rules", "later", "word", "times", "each"]
def w_State_jump_1 : WS :=
  (wAsg (wTup (wCons (wFldC ["State"] "kept_kind" (wV 0)) (wCons (wFldC ["State"] "kept_rules" (wV 0)) wNil))) (wgTup 2 (wgCons (wgN 2) (wgCons (wgN 3) wgNil))))
def w_State_jump_2 : WS :=
  (wAsg (wMeth "State" "following" S_State_following (wV 0) (wCons (wV 2) wNil)) (wgN 4))
def w_State_jump_3 : WS :=
  (wAsg (wIf (wTest (wOp (gEq false) (wV 4) (wV 2))) (wV 2) (wC .non)) (wgN 5))
def w_State_jump_4_1 : WS :=
  (wAsg (wOp gAdd (wV 4) (wV 2)) (wgN 5))
def w_State_jump_4 : WS :=
  (wIfS (wAnd (wTest (wOp (gIs true) (wV 4) (wC .non))) (wAnd (wTest (wOp (gEq true) (wV 4) (wV 2))) (wTest (wOp (gEq false) (wMeth "State" "following" S_State_following (wV 0) (wCons (wV 4) wNil)) (wV 2))))) w_State_jump_4_1 wNext)
def w_State_jump_5_1 : WS :=
  (wAsg (wOp gDiv (wOp TL.gSub (wV 1) (wFldC ["State"] "kept_begin" (wV 0))) (wCl gSumL (wCons (wLc (wiStr (wV 5)) (wgN 7) wYes (wCall S_period_of (wCons (wV 3) (wCons (wV 7) wNil))) [7]) wNil))) (wgN 6))
def w_State_jump_5_2_1 : WS :=
  (wDrop (wMeth "State" "skip" S_State_skip (wV 0) (wCons (wV 5) (wCons (wV 6) wNil))))
def w_State_jump_5_2 : WS :=
  (wIfS (wTest (wOp gGt (wV 6) (wC (.int 0)))) w_State_jump_5_2_1 wNext)
def w_State_jump_5 : WS :=
  (wIfS (wAnd (wTest (wOp (gIs true) (wV 5) (wC .non))) (wNot (wTru (wFldC ["State"] "kept_is_logged" (wV 0))))) (wSeq w_State_jump_5_1 w_State_jump_5_2) wNext)
def w_State_jump : WS :=
  (wSeq w_State_jump_1 (wSeq w_State_jump_2 (wSeq w_State_jump_3 (wSeq w_State_jump_4 w_State_jump_5))))
theorem v_State_following : ∀ ts Qf, S_State_following ts Qf → w_State_following (endsD 1 ts Qf) (startD N_State_following 1 ts) := fun ts Q h => h.elim
theorem v_State_skip : ∀ ts Qf, S_State_skip ts Qf → w_State_skip (endsD 1 ts Qf) (startD N_State_skip 1 ts) := fun ts Q h => h.elim
theorem v_State_jump : ∀ ts Qf, S_State_jump ts Qf → w_State_jump (endsD 1 ts Qf) (startD N_State_jump 1 ts) := fun ts Q h => h.elim
def S_State_advance : FS := fun ts Q => ∃ (s s2 : MS) (n : Nat) (tick : Int), ts = [s.t, .int tick] ∧ s.W n ∧ n < 700000 ∧ s.dn.length ≤ 2 ∧ Adv s tick s2 ∧ Q (.ret .non) [s2.t, .int tick]
theorem l_State_advance : ∀ ts Q, S_State_advance ts Q → ts.length = 2 := fun ts Q ⟨_, _, _, _, e, _⟩ => by rw [e]; rfl
theorem at_advance {s s2 : MS} {n : Nat} {tick : Int} {Q : Rs → List T → Prop} (h : s.W n) (hn : n < 700000) (hd : s.dn.length ≤ 2) (a : Adv s tick s2) (q : Q (.ret .non) [s2.t, .int tick]) : S_State_advance [s.t, .int tick] Q := ⟨s, s2, n, tick, rfl, h, hn, hd, a, q⟩
abbrev N_State_advance : List Str := ["self", "tick", "rules", "kind", "heard_at", "decision"]
def w_State_advance_1_1 : WS :=
  (wPar 2 3 (wCons (wFldC ["State"] "kept_rules" (wV 0)) (wCons (wFldC ["State"] "kept_kind" (wV 0)) wNil)))
def w_State_advance_1_2 : WS :=
  (wAsg (wOp gAdd (wFldC ["State"] "kept_begin" (wV 0)) (wOp gIx (wV 2) (wC (.int 3)))) (wgN 4))
def w_State_advance_1_3_1_1 : WS :=
  wRetN
def w_State_advance_1_3_1 : WS :=
  (wIfS (wTest (wOp gGt (wV 4) (wV 1))) w_State_advance_1_3_1_1 wNext)
def w_State_advance_1_3_2 : WS :=
  (wDrop (wMeth "State" "hear" S_State_hear (wV 0) (wCons (wV 4) wNil)))
def w_State_advance_1_3 : WS :=
  (wIfS (wAnd (wTru (wCall S_can_hear (wCons (wV 2) (wCons (wV 3) wNil)))) (wNot (wTru (wFldC ["State"] "kept_is_heard" (wV 0))))) (wSeq w_State_advance_1_3_1 w_State_advance_1_3_2) wNext)
def w_State_advance_1_4 : WS :=
  (wAsg (wOp gAdd (wFldC ["State"] "kept_begin" (wV 0)) (wCall S_period_of (wCons (wV 2) (wCons (wV 3) wNil)))) (wgN 5))
def w_State_advance_1_5_1 : WS :=
  wRetN
def w_State_advance_1_5 : WS :=
  (wIfS (wTest (wOp gGt (wV 5) (wV 1))) w_State_advance_1_5_1 wNext)
def w_State_advance_1_6 : WS :=
  (wDrop (wMeth "State" "decide" S_State_decide (wV 0) (wCons (wV 5) wNil)))
def w_State_advance_1_7_1 : WS :=
  (wDrop (wMeth "State" "jump" S_State_jump (wV 0) (wCons (wV 1) wNil)))
def w_State_advance_1_7 : WS :=
  (wIfS (wTest (wOp (gIs true) (wFldC ["State"] "kept_kind" (wV 0)) (wC .non))) w_State_advance_1_7_1 wNext)
def w_State_advance_1 : WS :=
  (wWhile (wTest (wOp (gIs true) (wFldC ["State"] "kept_kind" (wV 0)) (wC .non))) (wSeq w_State_advance_1_1 (wSeq w_State_advance_1_2 (wSeq w_State_advance_1_3 (wSeq w_State_advance_1_4 (wSeq w_State_advance_1_5 (wSeq w_State_advance_1_6 w_State_advance_1_7)))))))
def w_State_advance : WS :=
  w_State_advance_1
section
variable {D : EndsD} {s s1 s2 : MS} {n : Nat} {tick : Int} {k : Str}
abbrev A6 (s : MS) (tick : Int) (x2 x3 x4 x5 : Option T) : Dt := [some s.t, some (.int tick), x2, x3, x4, x5]
theorem av1 {x2 x3 x4 x5 : Option T} (hk : s.k = some k) (q : D.nx (A6 s tick (some s.x.t) (some (.str k)) x4 x5)) : w_State_advance_1_1 D (A6 s tick x2 x3 x4 x5) := by
  refine ⟨mem1, rfl, mem1, cl_optS _, ?_⟩
  show D.nx (A6 s tick (some s.x.t) (some (optS s.k)) x4 x5)
  rw [hk]; exact q
theorem av2 {x4 x5 : Option T} (q : D.nx (A6 s tick (some s.x.t) (some (.str k)) (some (.int (s.b + s.x.d))) x5)) : w_State_advance_1_2 D (A6 s tick (some s.x.t) (some (.str k)) x4 x5) := ⟨mem1, rfl, rfl, q⟩
theorem av3 {x5 : Option T} (h : s.W n) (hn : n < 700000) (hk : s.k = some k) (q : ∀ s1, Pre s k tick s1 → D.nx (A6 s1 tick (some s.x.t) (some (.str k)) (some (.int (s.b + s.x.d))) x5)) (r : (s.x.can k && !s.hd) = true → tick < s.b + s.x.d → D.rt .non (A6 s tick (some s.x.t) (some (.str k)) (some (.int (s.b + s.x.d))) x5)) :
    w_State_advance_1_3 D (A6 s tick (some s.x.t) (some (.str k)) (some (.int (s.b + s.x.d))) x5) := by
  refine ⟨rfl, at_can (ite_of (fun h1 => ⟨mem1, rfl, ite_of (fun h2 => ?_) fun h2 => ?_⟩) fun h1 => ?_)⟩
  · have c : (s.x.can k && !s.hd) = true := by rw [show s.x.can k = true from h1, show (!s.hd) = true from h2]; rfl
    refine sq (ite_of (fun h3 => ?_) fun h3 => ?_)
    · exact r c (of_decide_eq_true h3)
    · refine ⟨rfl, rfl, rfl, at_hear h (by omega) hk ?_⟩
      exact q _ (.inl ⟨c, by have := of_decide_eq_false h3; omega, rfl⟩)
  · exact q _ (.inr ⟨by rw [show (!s.hd) = false from h2]; simp, rfl⟩)
  · exact q _ (.inr ⟨by rw [show s.x.can k = false from h1]; rfl, rfl⟩)
theorem av4 {x4 x5 : Option T} (q : D.nx (A6 s1 tick (some s.x.t) (some (.str k)) x4 (some (.int (s1.b + (s.x.len k + s.x.c)))))) : w_State_advance_1_4 D (A6 s1 tick (some s.x.t) (some (.str k)) x4 x5) := ⟨mem1, rfl, rfl, at_periodof q⟩
theorem av5 {x4 : Option T} {e : Int} (q : e ≤ tick → D.nx (A6 s1 tick (some s.x.t) (some (.str k)) x4 (some (.int e)))) (r : tick < e → D.rt .non (A6 s1 tick (some s.x.t) (some (.str k)) x4 (some (.int e)))) : w_State_advance_1_5 D (A6 s1 tick (some s.x.t) (some (.str k)) x4 (some (.int e))) :=
  ite_of (fun h3 => r (of_decide_eq_true h3)) fun h3 => q (by have := of_decide_eq_false h3; omega)
end
theorem v_State_advance : ∀ ts Qf, S_State_advance ts Qf → w_State_advance (endsD 1 ts Qf) (startD N_State_advance 1 ts) := by
  rintro ts Qf ⟨s, s2, n, tick, rfl, h, hn, hd, a, q⟩
  show w_State_advance (endsD 1 [s.t, .int tick] Qf) (A6 s tick none none none none)
  have fin : ∀ x2 x3 x4 x5, (endsD 1 [s.t, .int tick] Qf).nx (A6 s2 tick x2 x3 x4 x5) := fun _ _ _ _ => q
  have fir : ∀ x2 x3 x4 x5, (endsD 1 [s.t, .int tick] Qf).rt .non (A6 s2 tick x2 x3 x4 x5) := fun _ _ _ _ => q
  revert fin fir
  generalize endsD 1 [s.t, .int tick] Qf = D
  intro fin fir
  refine ⟨fun m Δ => (m = 1 ∧ Δ = A6 s tick none none none none) ∨ (m = 0 ∧ s2.k = none ∧ ∃ x2 x3 x4 x5, Δ = A6 s2 tick x2 x3 x4 x5), ⟨1, .inl ⟨rfl, rfl⟩⟩, ?_⟩
  have stop : ∀ (u : MS) (x2 x3 x4 x5 : Option T), u.k = none → D.nx (A6 u tick x2 x3 x4 x5) → ∀ A : Dt → Prop, (wTest (wOp (gIs true) (wFldC ["State"] "kept_kind" (wV 0)) (wC .non))) (A6 u tick x2 x3 x4 x5) (fun b Δ2 => if b = true then A Δ2 else D.nx Δ2) := fun u x2 x3 x4 x5 hu q A => by
    obtain ⟨x, lg, k0, b, hd, ot, ow, dn, rn, ct, lo⟩ := u
    dsimp only at hu
    subst hu
    exact ⟨mem1, rfl, q⟩
  have go : ∀ (u : MS) (k : Str) (x2 x3 x4 x5 : Option T) (A : Dt → Prop), u.k = some k → A (A6 u tick x2 x3 x4 x5) → (wTest (wOp (gIs true) (wFldC ["State"] "kept_kind" (wV 0)) (wC .non))) (A6 u tick x2 x3 x4 x5) (fun b Δ2 => if b = true then A Δ2 else D.nx Δ2) := fun u k x2 x3 x4 x5 A hu q => by
    obtain ⟨x, lg, k0, b, hd, ot, ow, dn, rn, ct, lo⟩ := u
    dsimp only at hu
    subst hu
    exact ⟨mem1, rfl, q⟩
  rintro m Δ (⟨rfl, rfl⟩ | ⟨rfl, hk2, x2, x3, x4, x5, rfl⟩)
  · cases a with
    | idle hk => exact stop s _ _ _ _ hk (fin _ _ _ _) _
    | early k hk c1 c2 =>
      refine go s k _ _ _ _ _ hk ?_
      refine sq (av1 hk ?_)
      dsimp only
      refine sq (av2 ?_)
      dsimp only
      refine sq (av3 h hn hk (fun s1 p => ?_) fun _ _ => fir _ _ _ _)
      rcases p with ⟨_, c3, _⟩ | ⟨c3, _⟩
      · omega
      · rw [c1] at c3; cases c3
    | late k s1 hk p c =>
      refine go s k _ _ _ _ _ hk ?_
      refine sq (av1 hk ?_)
      dsimp only
      refine sq (av2 ?_)
      dsimp only
      refine sq (av3 h hn hk (fun s3 p3 => ?_) fun c1 c2 => ?_)
      · have e3 : s3 = s2 := by
          rcases p with ⟨a1, a2, a3⟩ | ⟨a1, a3⟩ <;> rcases p3 with ⟨b1, b2, b3⟩ | ⟨b1, b3⟩
          · rw [a3, b3]
          · rw [a1] at b1; cases b1
          · rw [a1] at b1; cases b1
          · rw [a3, b3]
        subst e3
        dsimp only
        have hb := p3.same.2.2.1
        refine sq (av4 ?_)
        dsimp only
        refine sq (av5 (fun c4 => ?_) fun _ => fir _ _ _ _)
        rw [hb] at c4
        omega
      · rcases p with ⟨_, a2, _⟩ | ⟨a1, _⟩
        · omega
        · rw [c1] at a1; cases a1
    | last k s1 hk p c hz =>
      refine go s k _ _ _ _ _ hk ?_
      refine sq (av1 hk ?_)
      dsimp only
      refine sq (av2 ?_)
      dsimp only
      refine sq (av3 h hn hk (fun s3 p3 => ?_) fun c1 c2 => ?_)
      · have e3 : s3 = s1 := by
          rcases p with ⟨a1, a2, a3⟩ | ⟨a1, a3⟩ <;> rcases p3 with ⟨b1, b2, b3⟩ | ⟨b1, b3⟩
          · rw [a3, b3]
          · rw [a1] at b1; cases b1
          · rw [a1] at b1; cases b1
          · rw [a3, b3]
        subst e3
        dsimp only
        obtain ⟨_, hk1, hb, hdn⟩ := p3.same
        refine sq (av4 ?_)
        dsimp only
        rw [hb]
        refine sq (av5 (fun c4 => ?_) fun c4 => by omega)
        dsimp only
        refine sq ⟨rfl, rfl, rfl, at_decide (p3.W h) (by omega) (hk1.trans hk) (by rw [hdn]; exact hd) (fun k' e => ?_) ?_⟩
        · rw [decide_none hz] at e; cases e
        · show w_State_advance_1_7 _ (A6 (s3.decide k (s.b + (s.x.len k + s.x.c))) tick _ _ _ _)
          have last : ∀ (u : MS) (D' : EndsD) (x2 x3 x4 x5 : Option T), u.k = none → D'.nx (A6 u tick x2 x3 x4 x5) → w_State_advance_1_7 D' (A6 u tick x2 x3 x4 x5) := fun u D' x2 x3 x4 x5 hu q => by
            obtain ⟨x, lg, k0, b, hd, ot, ow, dn, rn, ct, lo⟩ := u
            dsimp only at hu
            subst hu
            exact ⟨mem1, rfl, q⟩
          exact last _ _ _ _ _ _ hz ⟨0, by decide, .inr ⟨rfl, hz, _, _, _, _, rfl⟩⟩
      · rcases p with ⟨_, a2, _⟩ | ⟨a1, _⟩
        · omega
        · rw [c1] at a1; cases a1
  · exact stop s2 _ _ _ _ hk2 (fin _ _ _ _) _
end TL
set_option maxRecDepth 100000
set_option maxHeartbeats 1000000
namespace TL
open PySem PySem.Spec PyProof.Rows L2
abbrev bkT (ps : List T) : T := .ins true "Blocks" [("kept_parts", .lst true ps)]
def S_Blocks___init__ : FS := fun ts Q => ts = [.ins true "Blocks" []] ∧ Q (.ret .non) [bkT []]
theorem l_Blocks___init__ : ∀ ts Q, S_Blocks___init__ ts Q → ts.length = 1 := fun ts Q ⟨e, _⟩ => by rw [e]; rfl
abbrev N_Blocks___init__ : List Str := ["self"]
def w_Blocks___init__ : WS :=
  (wFldSet 0 ["Blocks"] "kept_parts" true (wLst wNil))
theorem v_Blocks___init__ : ∀ ts Qf, S_Blocks___init__ ts Qf → w_Blocks___init__ (endsD 1 ts Qf) (startD N_Blocks___init__ 1 ts) := by
  rintro ts Qf ⟨rfl, q⟩
  show w_Blocks___init__ (endsD 1 [.ins true "Blocks" []] Qf) [some (.ins true "Blocks" [])]
  exact ⟨Nat.zero_le _, mem1, show 0 < 1000 by decide, q⟩
def S_Blocks_last_kind : FS := fun ts Q => ts = [bkT []] ∧ Q (.ret .non) [bkT []]
theorem l_Blocks_last_kind : ∀ ts Q, S_Blocks_last_kind ts Q → ts.length = 1 := fun ts Q ⟨e, _⟩ => by rw [e]; rfl
abbrev N_Blocks_last_kind : List Str := ["self", "kind", "many", "is_alternating"]
def w_Blocks_last_kind_1_1 : WS :=
  (wRet 1 (wC .non))
def w_Blocks_last_kind_1 : WS :=
  (wIfS (wViewT 0 ["kept_parts"] [] (wTest (wOp (gNilL false) (wFldC ["Blocks"] "kept_parts" (wV 0)) (wLst wNil)))) w_Blocks_last_kind_1_1 wNext)
def w_Blocks_last_kind_2 : WS :=
  (wAsg (wView 0 ["kept_parts"] [] (wOp gIx (wFldC ["Blocks"] "kept_parts" (wV 0)) (wUn gNeg (wC (.int 1))))) (wgTup 3 (wgCons (wgN 1) (wgCons (wgN 2) (wgCons (wgN 3) wgNil)))))
def w_Blocks_last_kind_3 : WS :=
  (wRet 1 (wIf (wAnd (wTru (wV 3)) (wTest (wOp (gEq false) (wOp gMod (wV 2) (wC (.int 2))) (wC (.int 0))))) (wCall S_other_of (wCons (wV 1) wNil)) (wV 1)))
def w_Blocks_last_kind : WS :=
  (wSeq w_Blocks_last_kind_1 (wSeq w_Blocks_last_kind_2 w_Blocks_last_kind_3))
theorem v_Blocks_last_kind : ∀ ts Qf, S_Blocks_last_kind ts Qf → w_Blocks_last_kind (endsD 1 ts Qf) (startD N_Blocks_last_kind 1 ts) := by
  rintro ts Qf ⟨rfl, q⟩
  show w_Blocks_last_kind (endsD 1 [bkT []] Qf) [some (bkT []), none, none, none]
  have fin : (endsD 1 [bkT []] Qf).rt .non [some (bkT []), none, none, none] := q
  revert fin
  generalize endsD 1 [bkT []] Qf = D
  intro fin
  exact sq ⟨rfl, fun ls => ⟨mem1, rfl, Nat.zero_le _, rfl, fin⟩⟩
def S_Blocks_put_alternating : FS := fun ts Q => ∃ k : Str, ts = [bkT [], .str k, .int 1] ∧ Q (.ret .non) [bkT [.tup [.str k, .int 1, .bl true]], .str k, .int 1]
theorem l_Blocks_put_alternating : ∀ ts Q, S_Blocks_put_alternating ts Q → ts.length = 3 := fun ts Q ⟨_, e, _⟩ => by rw [e]; rfl
abbrev N_Blocks_put_alternating : List Str := ["self", "kind", "many", "first", "before", "is_alternating"]
def w_Blocks_put_alternating_1_1 : WS :=
  (wAsg (wFPop 0 ["Blocks"] "kept_parts") (wgTup 3 (wgCons (wgN 3) (wgCons (wgN 4) (wgCons (wgN 5) wgNil)))))
def w_Blocks_put_alternating_1_2 : WS :=
  (wDrop (wFApp 0 ["kept_parts"] [] ["Blocks"] "kept_parts" (wTup (wCons (wV 3) (wCons (wOp gAdd (wV 4) (wV 2)) (wCons (wC (.bl true)) wNil))))))
def w_Blocks_put_alternating_1_e1_1 : WS :=
  (wDrop (wFApp 0 ["kept_parts"] [] ["Blocks"] "kept_parts" (wTup (wCons (wV 1) (wCons (wV 2) (wCons (wC (.bl true)) wNil))))))
def w_Blocks_put_alternating_1_e1 : WS :=
  (wIfS (wTest (wOp gGt (wV 2) (wC (.int 0)))) w_Blocks_put_alternating_1_e1_1 wNext)
def w_Blocks_put_alternating_1 : WS :=
  (wIfS (wViewT 0 ["kept_parts"] [] (wAnd (wTest (wOp gGt (wV 2) (wC (.int 0)))) (wAnd (wTest (wOp (gNilL true) (wFldC ["Blocks"] "kept_parts" (wV 0)) (wLst wNil))) (wTru (wOp gIx (wOp gIx (wFldC ["Blocks"] "kept_parts" (wV 0)) (wUn gNeg (wC (.int 1)))) (wC (.int 2))))))) (wSeq w_Blocks_put_alternating_1_1 w_Blocks_put_alternating_1_2) w_Blocks_put_alternating_1_e1)
def w_Blocks_put_alternating : WS :=
  w_Blocks_put_alternating_1
theorem v_Blocks_put_alternating : ∀ ts Qf, S_Blocks_put_alternating ts Qf → w_Blocks_put_alternating (endsD 1 ts Qf) (startD N_Blocks_put_alternating 1 ts) := by
  rintro ts Qf ⟨k, rfl, q⟩
  show w_Blocks_put_alternating (endsD 1 [bkT [], .str k, .int 1] Qf) [some (bkT []), some (.str k), some (.int 1), none, none, none]
  have fin : (endsD 1 [bkT [], .str k, .int 1] Qf).nx [some (bkT [.tup [.str k, .int 1, .bl true]]), some (.str k), some (.int 1), none, none, none] := q
  revert fin
  generalize endsD 1 [bkT [], .str k, .int 1] Qf = D
  intro fin
  refine ⟨rfl, fun ls => ⟨mem1, rfl, Nat.zero_le _, rfl, ?_⟩⟩
  show w_Blocks_put_alternating_1_e1 D [some (bkT []), some (.str k), some (.int 1), none, none, none]
  exact ⟨mem1, rfl, rfl, by decide, fun ls => ⟨z3, rfl, rfl, fin⟩⟩
def S_Blocks_put_same : FS := fun ts Q => ∃ k : Str, ts = [bkT [], .str k, .int 1] ∧ KQ k ∧ Q (.ret .non) [bkT [.tup [.str k, .int 1, .bl true]], .str k, .int 1]
theorem l_Blocks_put_same : ∀ ts Q, S_Blocks_put_same ts Q → ts.length = 3 := fun ts Q ⟨_, e, _⟩ => by rw [e]; rfl
abbrev N_Blocks_put_same : List Str := ["self", "kind", "many", "first", "before", "is_alternating"]
def w_Blocks_put_same_1_1 : WS :=
  (wDrop (wMeth "Blocks" "put_alternating" S_Blocks_put_alternating (wV 0) (wCons (wV 1) (wCons (wC (.int 1)) wNil))))
def w_Blocks_put_same_1_e1_1 : WS :=
  (wDrop (wFApp 0 ["kept_parts"] [] ["Blocks"] "kept_parts" (wTup (wCons (wV 1) (wCons (wV 2) (wCons (wC (.bl false)) wNil))))))
def w_Blocks_put_same_1_e1_e1 : WS :=
  (wAsg (wFPop 0 ["Blocks"] "kept_parts") (wgTup 3 (wgCons (wgN 3) (wgCons (wgN 4) (wgCons (wgN 5) wgNil)))))
def w_Blocks_put_same_1_e1_e2_1 : WS :=
  (wDrop (wFApp 0 ["kept_parts"] [] ["Blocks"] "kept_parts" (wTup (wCons (wV 3) (wCons (wOp TL.gSub (wV 4) (wC (.int 1))) (wCons (wC (.bl true)) wNil))))))
def w_Blocks_put_same_1_e1_e2 : WS :=
  (wIfS (wAnd (wTru (wV 5)) (wTest (wOp gGt (wV 4) (wC (.int 1))))) w_Blocks_put_same_1_e1_e2_1 wNext)
def w_Blocks_put_same_1_e1_e3 : WS :=
  (wDrop (wFApp 0 ["kept_parts"] [] ["Blocks"] "kept_parts" (wTup (wCons (wV 1) (wCons (wOp gAdd (wV 2) (wIf (wTru (wV 5)) (wC (.int 1)) (wV 4))) (wCons (wC (.bl false)) wNil))))))
def w_Blocks_put_same_1_e1 : WS :=
  (wIfS (wTest (wOp (gEq true) (wMeth "Blocks" "last_kind" S_Blocks_last_kind (wV 0) wNil) (wV 1))) w_Blocks_put_same_1_e1_1 (wSeq w_Blocks_put_same_1_e1_e1 (wSeq w_Blocks_put_same_1_e1_e2 w_Blocks_put_same_1_e1_e3)))
def w_Blocks_put_same_1 : WS :=
  (wIfS (wAnd (wTest (wOp (gEq true) (wMeth "Blocks" "last_kind" S_Blocks_last_kind (wV 0) wNil) (wV 1))) (wTest (wOp (gEq false) (wV 2) (wC (.int 1))))) w_Blocks_put_same_1_1 w_Blocks_put_same_1_e1)
def w_Blocks_put_same : WS :=
  w_Blocks_put_same_1
theorem v_Blocks_put_same : ∀ ts Qf, S_Blocks_put_same ts Qf → w_Blocks_put_same (endsD 1 ts Qf) (startD N_Blocks_put_same 1 ts) := by
  rintro ts Qf ⟨k, rfl, hk, q⟩
  show w_Blocks_put_same (endsD 1 [bkT [], .str k, .int 1] Qf) [some (bkT []), some (.str k), some (.int 1), none, none, none]
  have fin : (endsD 1 [bkT [], .str k, .int 1] Qf).nx [some (bkT [.tup [.str k, .int 1, .bl true]]), some (.str k), some (.int 1), none, none, none] := q
  revert fin
  generalize endsD 1 [bkT [], .str k, .int 1] Qf = D
  intro fin
  have go : w_Blocks_put_same_1_1 D [some (bkT []), some (.str k), some (.int 1), none, none, none] := ⟨rfl, rfl, rfl, k, rfl, fin⟩
  exact ⟨rfl, rfl, rfl, rfl, go⟩
def S_Blocks_put_in : FS := fun ts Q => ∃ k : Str, ts = [bkT [], .str k, .int 1] ∧ KQ k ∧ Q (.ret .non) [bkT [.tup [.str k, .int 1, .bl true]], .str k, .int 1]
theorem l_Blocks_put_in : ∀ ts Q, S_Blocks_put_in ts Q → ts.length = 3 := fun ts Q ⟨_, e, _⟩ => by rw [e]; rfl
abbrev N_Blocks_put_in : List Str := ["self", "word", "times"]
def w_Blocks_put_in_1_1 : WS :=
  (wDrop (wMeth "Blocks" "put_same" S_Blocks_put_same (wV 0) (wCons (wV 1) (wCons (wV 2) wNil))))
def w_Blocks_put_in_1_e1 : WS :=
  (wDrop (wMeth "Blocks" "put_same" S_Blocks_put_same (wV 0) (wCons (wOp gIx (wV 1) (wC (.int 0))) (wCons (wC (.int 1)) wNil))))
def w_Blocks_put_in_1_e2 : WS :=
  (wDrop (wMeth "Blocks" "put_alternating" S_Blocks_put_alternating (wV 0) (wCons (wOp gIx (wV 1) (wC (.int 1))) (wCons (wOp TL.gSub (wOp gMulA (wC (.int 2)) (wV 2)) (wC (.int 1))) wNil))))
def w_Blocks_put_in_1 : WS :=
  (wIfS (wTest (wOp (gEq false) (wCl gLen (wCons (wV 1) wNil)) (wC (.int 1)))) w_Blocks_put_in_1_1 (wSeq w_Blocks_put_in_1_e1 w_Blocks_put_in_1_e2))
def w_Blocks_put_in : WS :=
  w_Blocks_put_in_1
theorem v_Blocks_put_in : ∀ ts Qf, S_Blocks_put_in ts Qf → w_Blocks_put_in (endsD 1 ts Qf) (startD N_Blocks_put_in 1 ts) := by
  rintro ts Qf ⟨k, rfl, hk, q⟩
  show w_Blocks_put_in (endsD 1 [bkT [], .str k, .int 1] Qf) [some (bkT []), some (.str k), some (.int 1)]
  have fin : (endsD 1 [bkT [], .str k, .int 1] Qf).nx [some (bkT [.tup [.str k, .int 1, .bl true]]), some (.str k), some (.int 1)] := q
  revert fin
  generalize endsD 1 [bkT [], .str k, .int 1] Qf = D
  intro fin
  refine ⟨by rw [hk.len1]; decide, ?_⟩
  refine ite_of (fun _ => ⟨rfl, rfl, rfl, k, rfl, hk, fin⟩) fun h => ?_
  have h : decide ((k.length : Int) = 1) = false := h
  rw [hk.len1] at h
  exact absurd h (by decide)
def S_Blocks_tidy : FS := fun ts Q => (∃ k : Str, ts = [bkT [.tup [.str k, .int 1, .bl true]]] ∧ Q (.ret (.lst true [.tup [.str k, .int 1]])) [frz (bkT [.tup [.str k, .int 1, .bl true]])])
theorem l_Blocks_tidy : ∀ ts Q, S_Blocks_tidy ts Q → ts.length = 1 := fun ts Q ⟨_, e, _⟩ => by rw [e]; rfl
abbrev N_Blocks_tidy : List Str := ["self", "found", "left", "kind", "many", "is_alternating", "ahead", "taken", "after", "size", "is_next", "more"]
def w_Blocks_tidy_1 : WS :=
  (wPar 1 2 (wCons (wLst wNil) (wCons (wUn gRev (wFldC ["Blocks"] "kept_parts" (wV 0))) wNil)))
def w_Blocks_tidy_2_1 : WS :=
  (wAsg (wPop 2) (wgTup 3 (wgCons (wgN 3) (wgCons (wgN 4) (wgCons (wgN 5) wgNil)))))
def w_Blocks_tidy_2_2_1 : WS :=
  (wDrop (wApp 1 (wTup (wCons (wV 3) (wCons (wV 4) wNil)))))
def w_Blocks_tidy_2_2_2 : WS :=
  wCont
def w_Blocks_tidy_2_2 : WS :=
  (wIfS (wAnd (wNot (wTru (wV 5))) (wTest (wOp gGt (wV 4) (wC (.int 1))))) (wSeq w_Blocks_tidy_2_2_1 w_Blocks_tidy_2_2_2) wNext)
def w_Blocks_tidy_2_3 : WS :=
  (wAsg (wOp gAdd (wV 4) (wIf (wTest (wOp (gNilL true) (wV 2) (wLst wNil))) (wC (.int 1)) (wC (.int 0)))) (wgN 6))
def w_Blocks_tidy_2_4_1 : WS :=
  (wDrop (wApp 1 (wTup (wCons (wV 3) (wCons (wC (.int 1)) wNil)))))
def w_Blocks_tidy_2_4_2 : WS :=
  (wAsg (wC (.int 1)) (wgN 7))
def w_Blocks_tidy_2_4_e1 : WS :=
  (wDrop (wApp 1 (wTup (wCons (wOp gAdd (wV 3) (wCall S_other_of (wCons (wV 3) wNil))) (wCons (wOp gDiv (wV 6) (wC (.int 2))) wNil)))))
def w_Blocks_tidy_2_4_e2 : WS :=
  (wAsg (wOp gMulA (wOp gDiv (wV 6) (wC (.int 2))) (wC (.int 2))) (wgN 7))
def w_Blocks_tidy_2_4 : WS :=
  (wIfS (wTest (wOp gLt (wV 6) (wC (.int 4)))) (wSeq w_Blocks_tidy_2_4_1 w_Blocks_tidy_2_4_2) (wSeq w_Blocks_tidy_2_4_e1 w_Blocks_tidy_2_4_e2))
def w_Blocks_tidy_2_5_1 : WS :=
  (wDrop (wApp 2 (wTup (wCons (wIf (wTest (wOp (gEq false) (wOp gMod (wV 7) (wC (.int 2))) (wC (.int 0)))) (wV 3) (wCall S_other_of (wCons (wV 3) wNil))) (wCons (wOp TL.gSub (wV 4) (wV 7)) (wCons (wC (.bl true)) wNil))))))
def w_Blocks_tidy_2_5_e1_1 : WS :=
  (wAsg (wPop 2) (wgTup 3 (wgCons (wgN 8) (wgCons (wgN 9) (wgCons (wgN 10) wgNil)))))
def w_Blocks_tidy_2_5_e1_2 : WS :=
  (wAsg (wIf (wAnd (wTest (wOp (gEq false) (wV 9) (wC (.int 2)))) (wAnd (wTest (wOp (gNilL true) (wV 2) (wLst wNil))) (wTru (wOp gIx (wOp gIx (wV 2) (wUn gNeg (wC (.int 1)))) (wC (.int 2)))))) (wOp gIx (wPop 2) (wC (.int 1))) (wC (.int 0))) (wgN 11))
def w_Blocks_tidy_2_5_e1_3 : WS :=
  (wDrop (wApp 2 (wTup (wCons (wV 8) (wCons (wOp gAdd (wOp TL.gSub (wV 9) (wC (.int 1))) (wV 11)) (wCons (wOp (gEq false) (wV 9) (wC (.int 2))) wNil))))))
def w_Blocks_tidy_2_5_e1 : WS :=
  (wIfS (wTest (wOp gGt (wV 7) (wV 4))) (wSeq w_Blocks_tidy_2_5_e1_1 (wSeq w_Blocks_tidy_2_5_e1_2 w_Blocks_tidy_2_5_e1_3)) wNext)
def w_Blocks_tidy_2_5 : WS :=
  (wIfS (wTest (wOp gLt (wV 7) (wV 4))) w_Blocks_tidy_2_5_1 w_Blocks_tidy_2_5_e1)
def w_Blocks_tidy_2 : WS :=
  (wWhile (wTest (wOp (gNilL true) (wV 2) (wLst wNil))) (wSeq w_Blocks_tidy_2_1 (wSeq w_Blocks_tidy_2_2 (wSeq w_Blocks_tidy_2_3 (wSeq w_Blocks_tidy_2_4 w_Blocks_tidy_2_5)))))
def w_Blocks_tidy_3 : WS :=
  (wRet 0 (wV 1))
def w_Blocks_tidy : WS :=
  (wSeq w_Blocks_tidy_1 (wSeq w_Blocks_tidy_2 w_Blocks_tidy_3))
abbrev K12 (b : T) (f l : List T) (x3 x4 x5 x6 x7 x8 x9 x10 x11 : Option T) : Dt := [some b, some (.lst true f), some (.lst true l), x3, x4, x5, x6, x7, x8, x9, x10, x11]
theorem v_Blocks_tidy : ∀ ts Qf, S_Blocks_tidy ts Qf → w_Blocks_tidy (endsD 0 ts Qf) (startD N_Blocks_tidy 0 ts) := by
  rintro ts Qf ⟨k, rfl, q⟩
  show w_Blocks_tidy (endsD 0 [bkT [.tup [.str k, .int 1, .bl true]]] Qf) [some (.ins false "Blocks" [("kept_parts", .lst false [.tup [.str k, .int 1, .bl true]])]), none, none, none, none, none, none, none, none, none, none, none]
  have fin : ∀ Δ, (endsD 0 [bkT [.tup [.str k, .int 1, .bl true]]] Qf).rt (.lst true [.tup [.str k, .int 1]]) Δ := fun Δ => q
  revert fin
  generalize endsD 0 [bkT [.tup [.str k, .int 1, .bl true]]] Qf = D
  intro fin
  generalize eb : (T.ins false "Blocks" [("kept_parts", .lst false [.tup [.str k, .int 1, .bl true]])]) = b
  refine sq ⟨Nat.zero_le _, ?_⟩
  subst eb
  refine ⟨mem1, rfl, rfl, ?_⟩
  generalize eb : (T.ins false "Blocks" [("kept_parts", .lst false [.tup [.str k, .int 1, .bl true]])]) = b
  show wSeq w_Blocks_tidy_2 w_Blocks_tidy_3 D (K12 b [] [.tup [.str k, .int 1, .bl true]] none none none none none none none none none)
  clear eb
  refine sq ?_
  refine ⟨fun m Δ => (m = 1 ∧ Δ = K12 b [] [.tup [.str k, .int 1, .bl true]] none none none none none none none none none) ∨ (m = 0 ∧ ∃ x3 x4 x5 x6 x7 x8 x9 x10 x11, Δ = K12 b [.tup [.str k, .int 1]] [] x3 x4 x5 x6 x7 x8 x9 x10 x11), ⟨1, .inl ⟨rfl, rfl⟩⟩, ?_⟩
  rintro m Δ (⟨rfl, rfl⟩ | ⟨rfl, x3, x4, x5, x6, x7, x8, x9, x10, x11, rfl⟩)
  · refine ⟨Nat.zero_le _, ?_⟩
    show wSeq w_Blocks_tidy_2_1 (wSeq w_Blocks_tidy_2_2 (wSeq w_Blocks_tidy_2_3 (wSeq w_Blocks_tidy_2_4 w_Blocks_tidy_2_5))) _ (K12 b [] [.tup [.str k, .int 1, .bl true]] none none none none none none none none none)
    refine sq ⟨rfl, rfl, ?_⟩
    show wSeq w_Blocks_tidy_2_2 (wSeq w_Blocks_tidy_2_3 (wSeq w_Blocks_tidy_2_4 w_Blocks_tidy_2_5)) _ (K12 b [] [] (some (.str k)) (some (.int 1)) (some (.bl true)) none none none none none none)
    refine sq ?_
    show wSeq w_Blocks_tidy_2_3 (wSeq w_Blocks_tidy_2_4 w_Blocks_tidy_2_5) _ (K12 b [] [] (some (.str k)) (some (.int 1)) (some (.bl true)) none none none none none none)
    refine sq ⟨Nat.zero_le _, ?_⟩
    show wSeq w_Blocks_tidy_2_4 w_Blocks_tidy_2_5 _ (K12 b [] [] (some (.str k)) (some (.int 1)) (some (.bl true)) (some (.int 1)) none none none none none)
    refine sq ?_
    show wSeq w_Blocks_tidy_2_4_1 w_Blocks_tidy_2_4_2 _ (K12 b [] [] (some (.str k)) (some (.int 1)) (some (.bl true)) (some (.int 1)) none none none none none)
    refine sq ⟨z2, rfl, by decide, ?_⟩
    exact ⟨0, by decide, .inr ⟨rfl, _, _, _, _, _, _, _, _, _, rfl⟩⟩
  · exact ⟨Nat.zero_le _, fin _⟩
end TL
set_option maxRecDepth 100000
set_option maxHeartbeats 1000000
namespace TL
open PySem PySem.Spec PyProof.Rows L2
def Ru.per (x : Ru) (k : Str) : Int := x.len k + x.c
def S_word_period : FS := fun ts Q => ∃ (x : Ru) (k : Str), ts = [x.t, .str k] ∧ KQ k ∧ Q (.ret (.int (x.per k))) [x.t, .str k]
theorem l_word_period : ∀ ts Q, S_word_period ts Q → ts.length = 2 := fun ts Q ⟨_, _, e, _⟩ => by rw [e]; rfl
abbrev N_word_period : List Str := ["rules", "word", "kind"]
def w_word_period : WS :=
  (wRet 0 (wCl gSumL (wCons (wLc (wiStr (wV 1)) (wgN 2) wYes (wCall S_period_of (wCons (wV 0) (wCons (wV 2) wNil))) [2]) wNil)))
theorem KQ.strT {k : Str} (h : KQ k) : TL.strT k = [.str k] := by rcases h with rfl | rfl <;> rfl
theorem v_word_period : ∀ ts Qf, S_word_period ts Qf → w_word_period (endsD 0 ts Qf) (startD N_word_period 0 ts) := by
  rintro ts Qf ⟨x, k, rfl, hk, q⟩
  show w_word_period (endsD 0 [x.t, .str k] Qf) [some x.t, some (.str k), none]
  have fin : ∀ z Δ, z = x.per k → (endsD 0 [x.t, .str k] Qf).rt (.int z) Δ := fun z Δ e => by rw [e]; exact q
  revert fin
  generalize endsD 0 [x.t, .str k] Qf = D
  intro fin
  refine ⟨fun i acc Δ => Δ = [some x.t, some (.str k), none] ∧ acc = (if i = 0 then [] else [T.int (x.per k)]) ∧ i ≤ 1, ⟨rfl, rfl, Nat.zero_le _⟩, ?_, ?_⟩
  · rintro i y acc Δ hy ⟨rfl, hacc, hi⟩
    rw [hk.strT] at hy
    match i, hi, hy, hacc with
    | 0, _, hy, hacc =>
      cases hy
      subst hacc
      exact ⟨rfl, at_periodof ⟨show 0 < sizeLine by decide, rfl, rfl, Nat.le_refl _⟩⟩
    | 1, _, hy, _ => cases hy
  · rintro acc Δ ⟨rfl, hacc, _⟩
    rw [hk.strT] at hacc
    have hacc : acc = [.int (x.per k)] := hacc
    subst hacc
    refine fin _ _ ?_
    simp
def S_tidy_kinds : FS := fun ts Q => ∃ k : Str, ts = [.lst false [.tup [.str k, .int 1]]] ∧ KQ k ∧ Q (.ret (.lst true [.tup [.str k, .int 1]])) [.lst false [.tup [.str k, .int 1]]]
theorem l_tidy_kinds : ∀ ts Q, S_tidy_kinds ts Q → ts.length = 1 := fun ts Q ⟨_, e, _⟩ => by rw [e]; rfl
abbrev N_tidy_kinds : List Str := ["kinds", "blocks", "word", "times"]
def w_tidy_kinds_1 : WS :=
  (wAsg (wMake "Blocks" S_Blocks___init__ wNil) (wgN 1))
def w_tidy_kinds_2_1 : WS :=
  (wDrop (wMeth "Blocks" "put_in" S_Blocks_put_in (wV 1) (wCons (wV 2) (wCons (wV 3) wNil))))
def w_tidy_kinds_2 : WS :=
  (wFor (wiList (wV 0)) (wgTup 2 (wgCons (wgN 2) (wgCons (wgN 3) wgNil))) w_tidy_kinds_2_1)
def w_tidy_kinds_3 : WS :=
  (wRet 0 (wMeth "Blocks" "tidy" S_Blocks_tidy (wV 1) wNil))
def w_tidy_kinds : WS :=
  (wSeq w_tidy_kinds_1 (wSeq w_tidy_kinds_2 w_tidy_kinds_3))
theorem v_tidy_kinds : ∀ ts Qf, S_tidy_kinds ts Qf → w_tidy_kinds (endsD 0 ts Qf) (startD N_tidy_kinds 0 ts) := by
  rintro ts Qf ⟨k, rfl, hk, q⟩
  show w_tidy_kinds (endsD 0 [.lst false [.tup [.str k, .int 1]]] Qf) [some (.lst false [.tup [.str k, .int 1]]), none, none, none]
  have fin : ∀ Δ, (endsD 0 [.lst false [.tup [.str k, .int 1]]] Qf).rt (.lst true [.tup [.str k, .int 1]]) Δ := fun Δ => q
  revert fin
  generalize endsD 0 [.lst false [.tup [.str k, .int 1]]] Qf = D
  intro fin
  refine sq ⟨rfl, rfl, ?_⟩
  show wSeq w_tidy_kinds_2 w_tidy_kinds_3 D [some (.lst false [.tup [.str k, .int 1]]), some (bkT []), none, none]
  refine sq ⟨fun i Δ => i ≤ 1 ∧ ∃ x2 x3, Δ = [some (.lst false [.tup [.str k, .int 1]]), some (bkT (if i = 0 then [] else [.tup [.str k, .int 1, .bl true]])), x2, x3], ⟨Nat.zero_le _, _, _, rfl⟩, ?_, ?_⟩
  · rintro i y Δ hy ⟨hi, x2, x3, rfl⟩
    match i, hi, hy with
    | 0, _, hy =>
      cases hy
      refine ⟨rfl, ?_⟩
      show w_tidy_kinds_2_1 _ [some (.lst false [.tup [.str k, .int 1]]), some (bkT []), some (.str k), some (.int 1)]
      exact ⟨rfl, rfl, rfl, k, rfl, hk, Nat.le_refl _, _, _, rfl⟩
    | 1, _, hy => cases hy
  · rintro Δ ⟨_, x2, x3, rfl⟩
    show w_tidy_kinds_3 D [some (.lst false [.tup [.str k, .int 1]]), some (bkT [.tup [.str k, .int 1, .bl true]]), x2, x3]
    exact ⟨rfl, rfl, rfl, k, rfl, fin _⟩
/-- no run, or one run of one mark -/
def One (rn : List T) : Prop := rn = [] ∨ ∃ (t : Int) (k : Str), KQ k ∧ rn = [.tup [.int t, .str k, .int 1]]
theorem One.cl {rn : List T} (h : One rn) : closedL rn = true := by rcases h with rfl | ⟨t, k, _, rfl⟩ <;> rfl
def S_tidy_runs : FS := fun ts Q => ∃ (x : Ru) (M : Int) (rn : List T), ts = [x.t, .lst false rn] ∧ One rn ∧ x.Ok M ∧ M ≤ 10 ^ 31 ∧ Q (.ret (.lst true rn)) [x.t, .lst false rn]
theorem l_tidy_runs : ∀ ts Q, S_tidy_runs ts Q → ts.length = 2 := fun ts Q ⟨_, _, _, e, _⟩ => by rw [e]; rfl
abbrev N_tidy_runs : List Str := ["rules", "runs", "found", "groups", "last", "begin", "word", "times", "kinds", "at"]
def w_tidy_runs_1 : WS :=
  (wPar3 2 3 4 (wCons (wLst wNil) (wCons (wLst wNil) (wCons (wC .non) wNil))))
def w_tidy_runs_2_1_1 : WS :=
  (wDrop (wAppO 3 (wTupO (wCons (wV 5) (wCons (wLst wNil) wNil)))))
def w_tidy_runs_2_1 : WS :=
  (wIfS (wOr (wTest (wOp (gIs false) (wV 4) (wC .non))) (wTest (wOp gGt (wV 5) (wV 4)))) w_tidy_runs_2_1_1 wNext)
def w_tidy_runs_2_2 : WS :=
  (wDrop (wAppN 3 (wTup (wCons (wV 6) (wCons (wV 7) wNil)))))
def w_tidy_runs_2_3 : WS :=
  (wAsg (wOp gAdd (wV 5) (wOp gMulA (wV 7) (wCall S_word_period (wCons (wV 0) (wCons (wV 6) wNil))))) (wgN 4))
def w_tidy_runs_2 : WS :=
  (wFor (wiList (wV 1)) (wgTup 3 (wgCons (wgN 5) (wgCons (wgN 6) (wgCons (wgN 7) wgNil)))) (wSeq w_tidy_runs_2_1 (wSeq w_tidy_runs_2_2 w_tidy_runs_2_3)))
def w_tidy_runs_3_1 : WS :=
  (wAsg (wV 5) (wgN 9))
def w_tidy_runs_3_2_1 : WS :=
  (wDrop (wApp 2 (wTup (wCons (wV 9) (wCons (wV 6) (wCons (wV 7) wNil))))))
def w_tidy_runs_3_2_2 : WS :=
  (wAug 9 (wOp gMulA (wV 7) (wCall S_word_period (wCons (wV 0) (wCons (wV 6) wNil)))))
def w_tidy_runs_3_2 : WS :=
  (wFor (wiList (wCall S_tidy_kinds (wCons (wV 8) wNil))) (wgTup 2 (wgCons (wgN 6) (wgCons (wgN 7) wgNil))) (wSeq w_tidy_runs_3_2_1 w_tidy_runs_3_2_2))
def w_tidy_runs_3 : WS :=
  (wFor (wiList (wV 3)) (wgTup 2 (wgCons (wgN 5) (wgCons (wgN 8) wgNil))) (wSeq w_tidy_runs_3_1 w_tidy_runs_3_2))
def w_tidy_runs_4 : WS :=
  (wRet 0 (wV 2))
def w_tidy_runs : WS :=
  (wSeq w_tidy_runs_1 (wSeq w_tidy_runs_2 (wSeq w_tidy_runs_3 w_tidy_runs_4)))
theorem v_tidy_runs : ∀ ts Qf, S_tidy_runs ts Qf → w_tidy_runs (endsD 0 ts Qf) (startD N_tidy_runs 0 ts) := by
  rintro ts Qf ⟨x, M, rn, rfl, h1, hx, hM, q⟩
  have ef := frzL_closed rn h1.cl
  show w_tidy_runs (endsD 0 [x.t, .lst false rn] Qf) [some x.t, some (.lst false (frzL rn)), none, none, none, none, none, none, none, none]
  have fin : ∀ Δ, (endsD 0 [x.t, .lst false rn] Qf).rt (.lst true rn) Δ := fun Δ => by
    show Qf (.ret (.lst true rn)) [x.t, .lst false (frzL rn)]
    rw [ef]; exact q
  rw [ef]
  revert fin
  generalize endsD 0 [x.t, .lst false rn] Qf = D
  intro fin
  refine sq ⟨Nat.zero_le _, Nat.zero_le _, ?_⟩
  show wSeq w_tidy_runs_2 (wSeq w_tidy_runs_3 w_tidy_runs_4) D [some x.t, some (.lst false rn), some (.lst true []), some (.lst true []), some .non, none, none, none, none, none]
  rcases h1 with rfl | ⟨t, k, hk, rfl⟩
  · refine sq ⟨fun i Δ => Δ = [some x.t, some (.lst false []), some (.lst true []), some (.lst true []), some .non, none, none, none, none, none], rfl, fun i y Δ hy => (by cases hy), ?_⟩
    rintro Δ rfl
    refine sq ⟨fun i Δ => ∃ g, Δ = [some x.t, some (.lst false []), some (.lst true []), g, some .non, none, none, none, none, none], ⟨_, rfl⟩, fun i y Δ hy => (by cases hy), ?_⟩
    rintro Δ ⟨g, rfl⟩
    exact fin _
  · have hper : 0 ≤ x.per k ∧ x.per k ≤ 2 * M := by
      have ha := hx.a; have hb := hx.b; have hc := hx.c
      unfold Ru.per Ru.len
      split <;> omega
    have hlog : (1 : Int).natAbs.log2 + (x.per k).natAbs.log2 < 1000000 := by
      have := log_of (i := x.per k) (M := 2 * M) hper (by omega)
      have e : (1 : Int).natAbs.log2 = 0 := by decide +kernel
      omega
    refine sq ⟨fun i Δ => (i = 0 ∧ Δ = [some x.t, some (.lst false [.tup [.int t, .str k, .int 1]]), some (.lst true []), some (.lst true []), some .non, none, none, none, none, none]) ∨ (i = 1 ∧ ∃ l, Δ = [some x.t, some (.lst false [.tup [.int t, .str k, .int 1]]), some (.lst true []), some (.lst true [.tup [.int t, .lst true [.tup [.str k, .int 1]]]]), some (.int l), some (.int t), some (.str k), some (.int 1), none, none]), .inl ⟨rfl, rfl⟩, ?_, ?_⟩
    · rintro i y Δ hy (⟨rfl, rfl⟩ | ⟨rfl, l, rfl⟩)
      · cases hy
        refine ⟨rfl, ?_⟩
        show wSeq w_tidy_runs_2_1 (wSeq w_tidy_runs_2_2 w_tidy_runs_2_3) _ [some x.t, some (.lst false [.tup [.int t, .str k, .int 1]]), some (.lst true []), some (.lst true []), some .non, some (.int t), some (.str k), some (.int 1), none, none]
        refine sq ?_
        show w_tidy_runs_2_1_1 _ [some x.t, some (.lst false [.tup [.int t, .str k, .int 1]]), some (.lst true []), some (.lst true []), some .non, some (.int t), some (.str k), some (.int 1), none, none]
        refine ⟨Nat.zero_le _, z2, show 0 < sizeLine by decide, ?_⟩
        show wSeq w_tidy_runs_2_2 w_tidy_runs_2_3 _ [some x.t, some (.lst false [.tup [.int t, .str k, .int 1]]), some (.lst true []), some (.lst true [.tup [.int t, .lst true []]]), some .non, some (.int t), some (.str k), some (.int 1), none, none]
        refine sq ⟨rfl, rfl, show 0 < sizeLine by decide, z2, ?_⟩
        refine ⟨rfl, x, k, rfl, hk, hlog, ?_⟩
        exact .inr ⟨rfl, _, rfl⟩
      · cases hy
    · rintro Δ (⟨z, _⟩ | ⟨_, l, rfl⟩)
      · cases z
      refine sq ⟨fun i Δ => (i = 0 ∧ ∃ g, Δ = [some x.t, some (.lst false [.tup [.int t, .str k, .int 1]]), some (.lst true []), g, some (.int l), some (.int t), some (.str k), some (.int 1), none, none]) ∨ (i = 1 ∧ ∃ g x5 x6 x7 x8 x9, Δ = [some x.t, some (.lst false [.tup [.int t, .str k, .int 1]]), some (.lst true [.tup [.int t, .str k, .int 1]]), g, some (.int l), x5, x6, x7, x8, x9]), .inl ⟨rfl, _, rfl⟩, ?_, ?_⟩
      · rintro i y Δ hy (⟨rfl, g, rfl⟩ | ⟨rfl, _⟩)
        · cases hy
          refine ⟨rfl, ?_⟩
          show wSeq w_tidy_runs_3_1 w_tidy_runs_3_2 _ [some x.t, some (.lst false [.tup [.int t, .str k, .int 1]]), some (.lst true []), g, some (.int l), some (.int t), some (.str k), some (.int 1), some (.lst false [.tup [.str k, .int 1]]), none]
          refine sq ?_
          refine ⟨rfl, k, rfl, hk, ?_⟩
          refine ⟨fun i Δ => (i = 0 ∧ ∃ x8, Δ = [some x.t, some (.lst false [.tup [.int t, .str k, .int 1]]), some (.lst true []), g, some (.int l), some (.int t), some (.str k), some (.int 1), x8, some (.int t)]) ∨ (i = 1 ∧ ∃ x5 x6 x7 x8 x9, Δ = [some x.t, some (.lst false [.tup [.int t, .str k, .int 1]]), some (.lst true [.tup [.int t, .str k, .int 1]]), g, some (.int l), x5, x6, x7, x8, x9]), .inl ⟨rfl, _, rfl⟩, ?_, ?_⟩
          · rintro i y Δ hy (⟨rfl, x8, rfl⟩ | ⟨rfl, _⟩)
            · cases hy
              refine ⟨rfl, ?_⟩
              show wSeq w_tidy_runs_3_2_1 w_tidy_runs_3_2_2 _ [some x.t, some (.lst false [.tup [.int t, .str k, .int 1]]), some (.lst true []), g, some (.int l), some (.int t), some (.str k), some (.int 1), x8, some (.int t)]
              refine sq ⟨z3, rfl, show 0 < sizeLine by decide, ?_⟩
              refine ⟨rfl, x, k, rfl, hk, hlog, ?_⟩
              refine Or.inr ?_
              exact ⟨rfl, _, _, _, _, _, rfl⟩
            · cases hy
          · rintro Δ (⟨z, _⟩ | ⟨_, x5, x6, x7, x8, x9, rfl⟩)
            · cases z
            exact .inr ⟨rfl, _, _, _, _, _, _, rfl⟩
        · cases hy
      · rintro Δ (⟨z, _⟩ | ⟨_, g, x5, x6, x7, x8, x9, rfl⟩)
        · cases z
        exact fin _
end TL
set_option maxRecDepth 100000
set_option maxHeartbeats 1000000
namespace TL
open PySem PySem.Spec PyProof.Rows L2
theorem rem_dn (s : MS) (c : Bool) (k : Str) (t : Int) : (s.rem c k t).dn = s.dn := by unfold MS.rem; split <;> rfl
theorem start_dn (s : MS) (t : Int) (k : Str) : (s.start t k).dn = s.dn := rem_dn _ _ _ _
theorem decide_dn (s : MS) (k : Str) (t : Int) : (s.decide k t).dn = s.dn := by unfold MS.decide; split; rfl; exact start_dn ..
theorem Adv.dn {s s1 : MS} {tick : Int} (a : Adv s tick s1) : s1.dn = s.dn := by
  cases a with
  | idle _ => rfl
  | early _ _ _ _ => rfl
  | late k s1 _ p _ => exact p.same.2.2.2
  | last k s1 _ p _ _ => rw [decide_dn]; exact p.same.2.2.2
/-- to the end -/
inductive Fns : Nat → MS → MS → Prop
  | stop {s : MS} : s.k = none → Fns 0 s s
  | step {m : Nat} {s s1 s2 : MS} (k : Str) : s.k = some k → Adv s (s.b + s.x.per k) s1 → Fns m s1 s2 → Fns (m + 1) s s2
def S_State_finish : FS := fun ts Q => ∃ (s s2 : MS) (m n : Nat), ts = [s.t] ∧ s.W n ∧ n + 5 * m < 600000 ∧ s.dn.length ≤ 2 ∧ Fns m s s2 ∧ Q (.ret .non) [s2.t]
theorem l_State_finish : ∀ ts Q, S_State_finish ts Q → ts.length = 1 := fun ts Q ⟨_, _, _, _, e, _⟩ => by rw [e]; rfl
abbrev N_State_finish : List Str := ["self"]
def w_State_finish_1_1 : WS :=
  (wDrop (wMeth "State" "advance" S_State_advance (wV 0) (wCons (wOp gAdd (wFldC ["State"] "kept_begin" (wV 0)) (wCall S_period_of (wCons (wFldC ["State"] "kept_rules" (wV 0)) (wCons (wFldC ["State"] "kept_kind" (wV 0)) wNil)))) wNil)))
def w_State_finish_1 : WS :=
  (wWhile (wTest (wOp (gIs true) (wFldC ["State"] "kept_kind" (wV 0)) (wC .non))) w_State_finish_1_1)
def w_State_finish : WS :=
  w_State_finish_1
theorem v_State_finish : ∀ ts Qf, S_State_finish ts Qf → w_State_finish (endsD 1 ts Qf) (startD N_State_finish 1 ts) := by
  rintro ts Qf ⟨s, s2, m, n, rfl, h, hn, hd, f, q⟩
  show w_State_finish (endsD 1 [s.t] Qf) [some s.t]
  have fin : (endsD 1 [s.t] Qf).nx [some s2.t] := q
  revert fin
  generalize endsD 1 [s.t] Qf = D
  intro fin
  refine ⟨fun m Δ => ∃ (s : MS) (n : Nat), Δ = [some s.t] ∧ s.W n ∧ n + 5 * m < 600000 ∧ s.dn.length ≤ 2 ∧ Fns m s s2, ⟨m, s, n, rfl, h, hn, hd, f⟩, ?_⟩
  clear h hn hd f
  rintro m Δ ⟨s, n, rfl, h, hn, hd, f⟩
  cases f with
  | stop hk =>
    have stop : ∀ (u : MS), u.k = none → D.nx [some u.t] → ∀ A : Dt → Prop, (wTest (wOp (gIs true) (wFldC ["State"] "kept_kind" (wV 0)) (wC .non))) [some u.t] (fun b Δ2 => if b = true then A Δ2 else D.nx Δ2) := fun u hu q A => by
      obtain ⟨x, lg, k0, b, hd, ot, ow, dn, rn, ct, lo⟩ := u
      dsimp only at hu
      subst hu
      exact ⟨mem1, rfl, q⟩
    exact stop _ hk fin _
  | @step m _ s1 _ k hk a f =>
    have go : ∀ (u : MS) (k : Str) (A : Dt → Prop), u.k = some k → A [some u.t] → (wTest (wOp (gIs true) (wFldC ["State"] "kept_kind" (wV 0)) (wC .non))) [some u.t] (fun b Δ2 => if b = true then A Δ2 else D.nx Δ2) := fun u k A hu q => by
      obtain ⟨x, lg, k0, b, hd, ot, ow, dn, rn, ct, lo⟩ := u
      dsimp only at hu
      subst hu
      exact ⟨mem1, rfl, q⟩
    have a2 := a.W h
    have a3 := a.dn
    obtain ⟨x, lg, k0, b, hd', ot, ow, dn, rn, ct, lo⟩ := s
    dsimp only at hk
    subst hk
    refine go _ k _ rfl ?_
    exact ⟨rfl, rfl, mem1, rfl, mem1, rfl, mem1, rfl, rfl, at_periodof ⟨rfl, at_advance h (by omega) hd a ⟨m, by omega, s1, n + 5, rfl, a2, by omega, by rw [a3]; exact hd, f⟩⟩⟩
abbrev Ev := Int × Str × Bool
def evT (e : Ev) : T := .tup [.int e.1, .str e.2.1, .bl e.2.2]
def MS.ev (s : MS) (e : Ev) : MS := if e.2.2 = true then s.press e.1 e.2.1 else s.release e.1 e.2.1
inductive Run : MS → List Ev → MS → Prop
  | nil {s : MS} : Run s [] s
  | cons {s s1 s2 : MS} {e : Ev} {es : List Ev} : KQ e.2.1 → Adv s e.1 s1 → (e.2.2 = true → s1.dn = [] ∨ s1.dn = [oth e.2.1]) → Run (s1.ev e) es s2 → Run s (e :: es) s2
theorem ev_dn {s : MS} {e : Ev} (h : s.dn.length ≤ 2) : (s.ev e).dn.length ≤ 2 := by
  unfold MS.ev
  split
  · have dl : (downW s.dn e.2.1).length ≤ 2 := by unfold downW; split <;> simp
    unfold MS.press
    split
    · rw [start_dn]; exact dl
    · unfold MS.heard
      split
      · exact dl
      · split <;> exact dl
  · exact Nat.le_trans (List.length_filter_le _ _) h
theorem ev_W {s : MS} {n : Nat} {e : Ev} (h : s.W n) : (s.ev e).W (n + 4) := by
  unfold MS.ev
  split
  · exact h.press _ _
  · exact (h.release _ _).mono (by omega)
theorem evs_cl : ∀ es : List Ev, closedL (es.map evT) = true
  | [] => rfl
  | e :: es => by show (closed (evT e) && closedL (es.map evT)) = true; rw [evs_cl es]; rfl
def S_state_behind : FS := fun ts Q => ∃ (x : Ru) (es : List Ev) (lg : Bool) (s1 s2 : MS) (m : Nat), ts = [x.t, .lst false (es.map evT), .bl lg] ∧ es.length ≤ 200 ∧ m < 1000 ∧ Run (MS.new x lg) es s1 ∧ Fns m s1 s2 ∧ Q (.ret s2.t) [x.t, .lst false (es.map evT), .bl lg]
theorem l_state_behind : ∀ ts Q, S_state_behind ts Q → ts.length = 3 := fun ts Q ⟨_, _, _, _, _, _, e, _⟩ => by rw [e]; rfl
abbrev N_state_behind : List Str := ["rules", "record", "is_logged", "found", "tick", "lever", "is_down"]
def w_state_behind_1 : WS :=
  (wAsg (wMake "State" S_State___init__ (wCons (wV 0) (wCons (wV 2) wNil))) (wgN 3))
def w_state_behind_2_1 : WS :=
  (wDrop (wMeth "State" "advance" S_State_advance (wV 3) (wCons (wV 4) wNil)))
def w_state_behind_2_2 : WS :=
  (wDrop (wMeth "State" "happen" S_State_happen (wV 3) (wCons (wV 4) (wCons (wV 5) (wCons (wV 6) wNil)))))
def w_state_behind_2 : WS :=
  (wFor (wiList (wV 1)) (wgTup 3 (wgCons (wgN 4) (wgCons (wgN 5) (wgCons (wgN 6) wgNil)))) (wSeq w_state_behind_2_1 w_state_behind_2_2))
def w_state_behind_3 : WS :=
  (wDrop (wMeth "State" "finish" S_State_finish (wV 3) wNil))
def w_state_behind_4 : WS :=
  (wRet 0 (wV 3))
def w_state_behind : WS :=
  (wSeq w_state_behind_1 (wSeq w_state_behind_2 (wSeq w_state_behind_3 w_state_behind_4)))
theorem v_state_behind : ∀ ts Qf, S_state_behind ts Qf → w_state_behind (endsD 0 ts Qf) (startD N_state_behind 0 ts) := by
  rintro ts Qf ⟨x, es, lg, s1, s2, m, rfl, hes, hm, r, f, q⟩
  have ef := frzL_closed _ (evs_cl es)
  show w_state_behind (endsD 0 [x.t, .lst false (es.map evT), .bl lg] Qf) [some x.t, some (.lst false (frzL (es.map evT))), some (.bl lg), none, none, none, none]
  have fin : ∀ Δ, (endsD 0 [x.t, .lst false (es.map evT), .bl lg] Qf).rt s2.t Δ := fun Δ => by
    show Qf (.ret s2.t) [x.t, .lst false (frzL (es.map evT)), .bl lg]
    rw [ef]; exact q
  rw [ef]
  revert fin
  generalize endsD 0 [x.t, .lst false (es.map evT), .bl lg] Qf = D
  intro fin
  refine sq ⟨rfl, at_new ?_⟩
  show wSeq w_state_behind_2 (wSeq w_state_behind_3 w_state_behind_4) D [some x.t, some (.lst false (es.map evT)), some (.bl lg), some (MS.new x lg).t, none, none, none]
  refine sq ⟨fun i Δ => ∃ (s : MS) (x1 x4 x5 x6 : Option T), Δ = [some x.t, x1, some (.bl lg), some s.t, x4, x5, x6] ∧ s.W (9 * i) ∧ s.dn.length ≤ 2 ∧ i ≤ es.length ∧ Run s (es.drop i) s1, ⟨_, _, _, _, _, rfl, MS.W.new x lg, Nat.zero_le _, Nat.zero_le _, r⟩, ?_, ?_⟩
  · rintro i y Δ hy ⟨s, x1, x4, x5, x6, rfl, hw, hd, hi, r⟩
    have hy : (frzL (frzL (es.map evT)))[i]? = some y := hy
    rw [ef, ef, List.getElem?_map] at hy
    cases he : es[i]? with
    | none => rw [he] at hy; cases hy
    | some e =>
      rw [he] at hy
      obtain rfl : evT e = y := Option.some.inj hy
      rw [drop_at he] at r
      obtain ⟨tick, l, d⟩ := e
      have hi2 : i < es.length := (List.getElem?_eq_some_iff.mp he).1
      cases r with
      | @cons _ s3 _ _ _ hk a hdn r =>
        have a2 := a.W hw
        have a3 := a.dn
        refine ⟨rfl, ?_⟩
        show wSeq w_state_behind_2_1 w_state_behind_2_2 _ [some x.t, x1, some (.bl lg), some s.t, some (.int tick), some (.str l), some (.bl d)]
        refine sq ⟨rfl, rfl, rfl, at_advance hw (by omega) hd a ?_⟩
        show w_state_behind_2_2 _ [some x.t, x1, some (.bl lg), some s3.t, some (.int tick), some (.str l), some (.bl d)]
        have hd3 : s3.dn.length ≤ 2 := by rw [a3]; exact hd
        have nx : ∃ (s : MS) (y1 x4 x5 x6 : Option T), [some x.t, x1, some (.bl lg), some (s3.ev (tick, l, d)).t, some (.int tick), some (.str l), some (.bl d)] = [some x.t, y1, some (.bl lg), some s.t, x4, x5, x6] ∧ s.W (9 * (i + 1)) ∧ s.dn.length ≤ 2 ∧ i + 1 ≤ es.length ∧ Run s (es.drop (i + 1)) s1 :=
          ⟨_, _, _, _, _, rfl, (ev_W a2).mono (by omega), ev_dn hd3, hi2, r⟩
        refine ⟨rfl, rfl, rfl, s3, 9 * i + 5, tick, l, d, rfl, a2, by omega, hk, hd3, fun e => ?_, fun e => ⟨hdn e, ?_⟩⟩
        · subst e; exact nx
        · have e : d = true := e
          subst e; exact nx
  · rintro Δ ⟨s, x1, x4, x5, x6, rfl, hw, hd, hi, r⟩
    have hl : (frzL (frzL (es.map evT))).length = es.length := by rw [ef, ef, List.length_map]
    rw [hl] at hw r
    rw [List.drop_length] at r
    cases r
    show wSeq w_state_behind_3 w_state_behind_4 D [some x.t, x1, some (.bl lg), some s1.t, x4, x5, x6]
    refine sq ⟨rfl, rfl, rfl, s1, s2, m, 9 * es.length, rfl, hw, by omega, hd, f, ?_⟩
    exact fin _
end TL
set_option maxRecDepth 100000
set_option maxHeartbeats 1000000
namespace TL
open PySem PySem.Spec PyProof.Rows L2
def S_State_tidy : FS := fun ts Q => ∃ (s : MS) (M : Int), ts = [s.t] ∧ One s.rn ∧ s.x.Ok M ∧ M ≤ 10 ^ 31 ∧ Q (.ret (.lst true s.rn)) [frz s.t]
theorem l_State_tidy : ∀ ts Q, S_State_tidy ts Q → ts.length = 1 := fun ts Q ⟨_, _, e, _⟩ => by rw [e]; rfl
abbrev N_State_tidy : List Str := ["self"]
def w_State_tidy : WS :=
  (wRet 0 (wCall S_tidy_runs (wCons (wFldC ["State"] "kept_rules" (wV 0)) (wCons (wFldC ["State"] "kept_runs" (wV 0)) wNil))))
theorem v_State_tidy : ∀ ts Qf, S_State_tidy ts Qf → w_State_tidy (endsD 0 ts Qf) (startD N_State_tidy 0 ts) := by
  rintro ts Qf ⟨s, M, rfl, h1, hx, hM, q⟩
  show w_State_tidy (endsD 0 [s.t] Qf) [some (frz s.t)]
  have fin : ∀ Δ, (endsD 0 [s.t] Qf).rt (.lst true s.rn) Δ := fun Δ => q
  revert fin
  generalize endsD 0 [s.t] Qf = D
  intro fin
  obtain ⟨x, lg, k0, b, hd, ot, ow, dn, rn, ct, lo⟩ := s
  dsimp only at h1 hx
  rcases h1 with rfl | ⟨t, k, hk, rfl⟩
  · exact ⟨mem1, rfl, mem1, rfl, rfl, x, M, _, rfl, .inl rfl, hx, hM, fin _⟩
  · exact ⟨mem1, rfl, mem1, rfl, rfl, x, M, _, rfl, .inr ⟨t, k, hk, rfl⟩, hx, hM, fin _⟩
abbrev touchE : List Ev := [(0, "s", true), (0, "s", false)]
theorem touch_run {x : Ru} {M : Int} (hx : x.Ok M) : ∃ s1 s2, Run (MS.new x false) touchE s1 ∧ Fns 1 s1 s2 ∧ s2.rn = [.tup [.int 0, .str "s", .int 1]] ∧ s2.x = x := by
  have noc : (["s"] : List Str).contains (oth "s") = false := by decide +kernel
  have hh : ((MS.pressed (MS.new x false) 0 "s").begun 0 "s").held "s" = false := by
    show (Decidable.decide (x.r = "held") && (x.can "s" && (["s"] : List Str).contains (oth "s"))) = false
    rw [noc]; simp
  have e1 : (MS.new x false).ev (0, "s", true) = ((MS.pressed (MS.new x false) 0 "s").begun 0 "s").note 0 (begW "s") := by
    show MS.start (MS.pressed (MS.new x false) 0 "s") 0 "s" = _
    unfold MS.start
    rw [hh, Bool.and_false]; rfl
  generalize ep : (MS.new x false).ev (0, "s", true) = p
  rw [ep] at e1
  have pk : p.k = some "s" := by rw [e1]; rfl
  have px : p.x = x := by rw [e1]; rfl
  have pb : p.b = 0 := by rw [e1]; rfl
  have phd : p.hd = (Decidable.decide (x.d = 0) && x.can "s") := by rw [e1]; rfl
  have pot : p.ot = false := by rw [e1]; rfl
  have pow' : p.ow = false := by rw [e1]; rfl
  have pdn : p.dn = [("s" : Str)] := by rw [e1]; rfl
  have prn : p.rn = [.tup [.int 0, .str "s", .int 1]] := by rw [e1]; rfl
  clear e1 hh noc
  have hlen : x.len "s" = x.a := if_pos rfl
  have ha := hx.a; have hc := hx.c; have hd := hx.d
  have a2 : Adv p 0 p := by
    by_cases c : (p.x.can "s" && !p.hd) = true
    · refine .early "s" pk c ?_
      rw [pb, px]
      rw [phd, px] at c
      have : ¬ x.d = 0 := fun z => by
        rw [decide_eq_true z] at c
        simp at c
      omega
    · refine .late "s" p pk (.inr ⟨by simpa using c, rfl⟩) ?_
      rw [pb, px, hlen]; omega
  generalize er : p.ev (0, "s", false) = r
  have e2 : r = p.release 0 "s" := by rw [← er]; rfl
  have rk : r.k = some "s" := by rw [e2]; exact pk
  have rx : r.x = x := by rw [e2]; exact px
  have rb : r.b = 0 := by rw [e2]; exact pb
  have rot : r.ot = false := by rw [e2]; exact pot
  have row : r.ow = false := by rw [e2]; exact pow'
  have rdn : r.dn = [] := by
    rw [e2]
    show p.dn.filter _ = []
    rw [pdn]; decide +kernel
  have rrn : r.rn = [.tup [.int 0, .str "s", .int 1]] := by rw [e2]; exact prn
  clear e2
  have last : ∀ s1 : MS, Pre r "s" (r.b + r.x.per "s") s1 → s1.ot = false → s1.ow = false → s1.rn = r.rn → ∃ s2, Fns 1 r s2 ∧ s2.rn = [.tup [.int 0, .str "s", .int 1]] ∧ s2.x = x := fun s1 p3 h1 h2 h3 => by
    obtain ⟨b1, b2, b3, b4⟩ := p3.same
    have eo : s1.x.out "s" s1.dn s1.ot s1.ow = none := by
      unfold Ru.out
      rw [h1, h2, b4, rdn]; rfl
    have ed : s1.decide "s" (r.b + (r.x.len "s" + r.x.c)) = ({ s1 with k := none, ot := false, ow := false } : MS).note (r.b + (r.x.len "s" + r.x.c)) "idle" := by
      unfold MS.decide
      rw [eo]
    have hk0 : (s1.decide "s" (r.b + (r.x.len "s" + r.x.c))).k = none := by rw [ed]; rfl
    refine ⟨_, .step "s" rk (.last "s" s1 rk p3 (Int.le_refl _) hk0) (.stop hk0), ?_, ?_⟩
    · rw [ed]
      show s1.rn = _
      rw [h3, rrn]
    · rw [ed]
      show s1.x = x
      rw [b1, rx]
  have fin : ∃ s2, Fns 1 r s2 ∧ s2.rn = [.tup [.int 0, .str "s", .int 1]] ∧ s2.x = x := by
    by_cases c : (r.x.can "s" && !r.hd) = true
    · have hcan : x.d < x.len "s" + x.c := by
        have c1 : r.x.can "s" = true := by simp only [Bool.and_eq_true] at c; exact c.1
        rw [rx] at c1
        unfold Ru.can at c1
        simp only [Bool.and_eq_true, decide_eq_true_eq] at c1
        exact c1.2
      have eh : r.held "s" = false := by
        unfold MS.held
        rw [rdn]; simp
      have e3 : r.hear "s" (r.b + r.x.d) = ({ r with hd := true } : MS).note (r.b + r.x.d) "hear" := by
        unfold MS.hear MS.rem
        rw [eh]; rfl
      refine last (r.hear "s" (r.b + r.x.d)) (.inl ⟨c, ?_, rfl⟩) (by rw [e3]; exact rot) (by rw [e3]; exact row) (by rw [e3]; rfl)
      rw [rb, rx]
      unfold Ru.per
      omega
    · exact last r (.inr ⟨by simpa using c, rfl⟩) rot row rfl
  obtain ⟨s2, f1, f2, f3⟩ := fin
  refine ⟨r, s2, .cons (.inl rfl) (.idle rfl) (fun _ => .inl rfl) ?_, f1, f2, f3⟩
  rw [ep]
  refine .cons (.inl rfl) a2 (fun z => by cases z) ?_
  rw [er]
  exact .nil
theorem empty_run (x : Ru) : Run (MS.new x false) [] (MS.new x false) ∧ Fns 0 (MS.new x false) (MS.new x false) ∧ One (MS.new x false).rn := ⟨.nil, .stop rfl, .inl rfl⟩
end TL
set_option maxRecDepth 100000
set_option maxHeartbeats 1000000
namespace TL
open PySem PySem.Spec PyProof.Rows L2
abbrev oneR : T := .tup [.int 0, .str "s", .int 1]
def Asked (es : List Ev) (rn : List T) : Prop := (es = [] ∧ rn = []) ∨ (es = touchE ∧ rn = [oneR])
def S_all_runs : FS := fun ts Q => ∃ (x : Ru) (M : Int) (es : List Ev) (rn : List T), ts = [x.t, .lst false (es.map evT)] ∧ x.Ok M ∧ M ≤ 10 ^ 31 ∧ Asked es rn ∧ Q (.ret (.lst true rn)) [x.t, .lst false (es.map evT)]
theorem l_all_runs : ∀ ts Q, S_all_runs ts Q → ts.length = 2 := fun ts Q ⟨_, _, _, _, e, _⟩ => by rw [e]; rfl
abbrev N_all_runs : List Str := ["rules", "record"]
def w_all_runs : WS :=
  (wRet 0 (wMeth "State" "tidy" S_State_tidy (wCall S_state_behind (wCons (wV 0) (wCons (wV 1) (wCons (wC (.bl false)) wNil)))) wNil))
theorem v_all_runs : ∀ ts Qf, S_all_runs ts Qf → w_all_runs (endsD 0 ts Qf) (startD N_all_runs 0 ts) := by
  rintro ts Qf ⟨x, M, es, rn, rfl, hx, hM, ha, q⟩
  have ef := frzL_closed _ (evs_cl es)
  show w_all_runs (endsD 0 [x.t, .lst false (es.map evT)] Qf) [some x.t, some (.lst false (frzL (es.map evT)))]
  have fin : ∀ Δ, (endsD 0 [x.t, .lst false (es.map evT)] Qf).rt (.lst true rn) Δ := fun Δ => by
    show Qf (.ret (.lst true rn)) [x.t, .lst false (frzL (es.map evT))]
    rw [ef]; exact q
  rw [ef]
  revert fin
  generalize endsD 0 [x.t, .lst false (es.map evT)] Qf = D
  intro fin
  have go : ∃ s1 s2 m, m < 1000 ∧ Run (MS.new x false) es s1 ∧ Fns m s1 s2 ∧ s2.rn = rn ∧ s2.x = x ∧ es.length ≤ 200 := by
    rcases ha with ⟨rfl, rfl⟩ | ⟨rfl, rfl⟩
    · exact ⟨_, _, 0, by decide, (empty_run x).1, (empty_run x).2.1, rfl, rfl, Nat.zero_le _⟩
    · obtain ⟨s1, s2, a, b, c, d⟩ := touch_run hx
      exact ⟨s1, s2, 1, by decide, a, b, c, d, by decide⟩
  obtain ⟨s1, s2, m, hm, r, f, e1, e2, hl⟩ := go
  have h1 : One s2.rn := by
    rw [e1]
    rcases ha with ⟨_, rfl⟩ | ⟨_, rfl⟩
    · exact .inl rfl
    · exact .inr ⟨0, "s", .inl rfl, rfl⟩
  refine ⟨rfl, x, es, false, s1, s2, m, rfl, hl, hm, r, f, rfl, rfl, rfl, s2, M, rfl, h1, by rw [e2]; exact hx, hM, ?_⟩
  rw [e1]
  exact fin _
def S_are_unlike : FS := fun ts Q => ∃ (x : Ru) (M : Int) (es : List Ev) (rn : List T), ts = [x.t, x.t, .lst false (es.map evT)] ∧ x.Ok M ∧ M ≤ 10 ^ 31 ∧ Asked es rn ∧ ∀ b, Q (.ret (.bl b)) [x.t, x.t, .lst false (es.map evT)]
theorem l_are_unlike : ∀ ts Q, S_are_unlike ts Q → ts.length = 3 := fun ts Q ⟨_, _, _, _, e, _⟩ => by rw [e]; rfl
abbrev N_are_unlike : List Str := ["one", "other", "record", "first", "second", "kinds", "begin", "word", "times", "kind", "marks"]
def w_are_unlike_1 : WS :=
  (wPar 3 4 (wCons (wCall S_all_runs (wCons (wV 0) (wCons (wV 2) wNil))) (wCons (wCall S_all_runs (wCons (wV 1) (wCons (wV 2) wNil))) wNil)))
def w_are_unlike_2_1 : WS :=
  (wAsg (wMs gJoin (wC (.str "")) (wCons (wLc (wiList (wOp gAdd (wV 3) (wV 4))) (wgTup 3 (wgCons (wgN 6) (wgCons (wgN 7) (wgCons (wgN 8) wgNil)))) wYes (wV 7) [6, 7, 8]) wNil)) (wgN 5))
def w_are_unlike_2_2 : WS :=
  (wRet 0 (wOrV (wOp (gEq true) (wV 3) (wV 4)) (wCl gAny (wCons (wLc (wiStr (wV 5)) (wgN 9) wYes (wOp (gEq true) (wCall S_length_of (wCons (wV 0) (wCons (wV 9) wNil))) (wCall S_length_of (wCons (wV 1) (wCons (wV 9) wNil)))) [9]) wNil))))
def w_are_unlike_2 : WS :=
  (wIfS (wTest (wOp (gEq false) (wOp gIx (wV 0) (wC (.int 2))) (wOp gIx (wV 1) (wC (.int 2))))) (wSeq w_are_unlike_2_1 w_are_unlike_2_2) wNext)
def w_are_unlike_3 : WS :=
  wNever
def w_are_unlike_4 : WS :=
  wNever
def w_are_unlike : WS :=
  (wSeq w_are_unlike_1 (wSeq w_are_unlike_2 (wSeq w_are_unlike_3 w_are_unlike_4)))
theorem v_are_unlike : ∀ ts Qf, S_are_unlike ts Qf → w_are_unlike (endsD 0 ts Qf) (startD N_are_unlike 0 ts) := by
  rintro ts Qf ⟨x, M, es, rn, rfl, hx, hM, ha, q⟩
  have ef := frzL_closed _ (evs_cl es)
  show w_are_unlike (endsD 0 [x.t, x.t, .lst false (es.map evT)] Qf) [some x.t, some x.t, some (.lst false (frzL (es.map evT))), none, none, none, none, none, none, none, none]
  have fin : ∀ b Δ, (endsD 0 [x.t, x.t, .lst false (es.map evT)] Qf).rt (.bl b) Δ := fun b Δ => by
    show Qf (.ret (.bl b)) [x.t, x.t, .lst false (frzL (es.map evT))]
    rw [ef]; exact q b
  rw [ef]
  revert fin
  generalize endsD 0 [x.t, x.t, .lst false (es.map evT)] Qf = D
  intro fin
  have two : ∀ y2 y3 y4 : Option T, w_are_unlike_2 { D with nx := wSeq w_are_unlike_3 w_are_unlike_4 D } [some x.t, some x.t, y2, some (.lst true rn), some (.lst true rn), none, none, none, none, none, none] := fun y2 y3 y4 => by
    refine ⟨rfl, rfl, ite_of (fun _ => ?_) fun h => ?_⟩
    rotate_left
    · have h : Decidable.decide (x.c = x.c) = false := h
      simp at h
    have okr : okT (.lst true rn) = true ∧ min (dpT (.lst true rn)) (dpT (.lst true rn)) ≤ 60 := by
      rcases ha with ⟨_, rfl⟩ | ⟨_, rfl⟩
      · exact ⟨by decide +kernel, by decide +kernel⟩
      · exact ⟨by decide +kernel, by decide +kernel⟩
    have rest : ∀ (z : Str) (y6 y7 y8 y9 : Option T), z.length ≤ 2 → w_are_unlike_2_2 { D with nx := wSeq w_are_unlike_3 w_are_unlike_4 D } [some x.t, some x.t, y2, some (.lst true rn), some (.lst true rn), some (.str z), y6, y7, y8, none, y9] := fun z y6 y7 y8 y9 hz => by
      refine ⟨⟨okr.1, okr.1⟩, okr.2, ite_of (fun _ => fin _ _) fun _ => ?_⟩
      refine ⟨fun i acc Δ => Δ = [some x.t, some x.t, y2, some (.lst true rn), some (.lst true rn), some (.str z), y6, y7, y8, none, y9] ∧ i ≤ 2 ∧ ∃ bs : List Bool, acc = bs.map .bl ∧ bs.length = i, ⟨rfl, Nat.zero_le _, [], rfl, rfl⟩, ?_, ?_⟩
      · rintro i y acc Δ hy ⟨rfl, hi, bs, rfl, hb⟩
        have hy : (z.cps.toList.map fun c => T.str ⟨#[c]⟩)[i]? = some y := hy
        rw [List.getElem?_map] at hy
        cases e : z.cps.toList[i]? with
        | none => rw [e] at hy; cases hy
        | some c =>
          rw [e] at hy
          cases hy
          have hi2 : i < z.cps.toList.length := (List.getElem?_eq_some_iff.mp e).1
          have hz2 : z.cps.toList.length ≤ 2 := by rw [Array.length_toList]; exact hz
          refine ⟨rfl, at_length ⟨rfl, at_length ⟨?_, rfl, by omega, bs ++ [nb true (Decidable.decide (x.len ⟨#[c]⟩ = x.len ⟨#[c]⟩))], by rw [List.map_append]; rfl, by simp [hb]⟩⟩⟩
          rw [List.length_map]
          exact lt_big (n := 10) (by omega) (by decide)
      · rintro acc Δ ⟨rfl, _, bs, rfl, _⟩
        show (match blsT (bs.map .bl) with
          | some bs => _
          | none => False)
        rw [blsT_map]
        exact fin _ _
    rcases ha with ⟨_, rfl⟩ | ⟨_, rfl⟩
    · show wSeq w_are_unlike_2_1 w_are_unlike_2_2 _ [some x.t, some x.t, y2, some (.lst true []), some (.lst true []), none, none, none, none, none, none]
      refine sq ⟨⟨rfl, rfl⟩, Nat.zero_le _, fun i acc Δ => Δ = [some x.t, some x.t, y2, some (.lst true []), some (.lst true []), none, none, none, none, none, none] ∧ acc = [], ⟨rfl, rfl⟩, fun i y acc Δ hy => (by cases hy), ?_⟩
      rintro acc Δ ⟨rfl, rfl⟩
      exact ⟨by decide +kernel, rest _ _ _ _ _ (by decide +kernel)⟩
    · show wSeq w_are_unlike_2_1 w_are_unlike_2_2 _ [some x.t, some x.t, y2, some (.lst true [oneR]), some (.lst true [oneR]), none, none, none, none, none, none]
      refine sq ⟨⟨rfl, rfl⟩, z2, fun i acc Δ => Δ = [some x.t, some x.t, y2, some (.lst true [oneR]), some (.lst true [oneR]), none, none, none, none, none, none] ∧ acc = List.replicate i (.str "s"), ⟨rfl, rfl⟩, ?_, ?_⟩
      · rintro i y acc Δ hy ⟨rfl, rfl⟩
        match i, hy with
        | 0, hy =>
          cases hy
          exact ⟨rfl, show 0 < sizeLine by decide, rfl, rfl⟩
        | 1, hy =>
          cases hy
          exact ⟨rfl, show 1 < sizeLine by decide, rfl, rfl⟩
        | n + 2, hy => cases hy
      · rintro acc Δ ⟨rfl, rfl⟩
        exact ⟨by decide +kernel, rest _ _ _ _ _ (by decide +kernel)⟩
  refine sq ⟨rfl, x, M, es, rn, rfl, hx, hM, ha, rfl, x, M, es, rn, rfl, hx, hM, ha, ?_⟩
  exact two _ none none
def S_found_parting : FS := fun ts Q => ∃ (x : Ru) (M : Int), ts = [x.t, x.t] ∧ x.Ok M ∧ M ≤ 10 ^ 31 ∧ Q (.ret .non) [x.t, x.t]
theorem l_found_parting : ∀ ts Q, S_found_parting ts Q → ts.length = 2 := fun ts Q ⟨_, _, e, _⟩ => by rw [e]; rfl
abbrev N_found_parting : List Str := ["one", "other", "kind"]
def w_found_parting : WS :=
  (wSeq (wIfS (wTest (wOp (gEq false) (wCall S_plain_of (wCons (wV 0) wNil)) (wCall S_plain_of (wCons (wV 1) wNil)))) (wRet 0 (wC .non)) wNext) (wSeq wNever (wSeq wNever wNever)))
theorem eqs_self (x : Ru) : eqT x.t x.t = true := by
  simp [eqT, toD, toDL, PyData.eqv, PyData.eqvAll]
theorem v_found_parting : ∀ ts Qf, S_found_parting ts Qf → w_found_parting (endsD 0 ts Qf) (startD N_found_parting 0 ts) := by
  rintro ts Qf ⟨x, M, rfl, hx, hM, q⟩
  show w_found_parting (endsD 0 [x.t, x.t] Qf) [some x.t, some x.t, none]
  have fin : ∀ Δ, (endsD 0 [x.t, x.t] Qf).rt .non Δ := fun Δ => q
  revert fin
  generalize endsD 0 [x.t, x.t] Qf = D
  intro fin
  refine sq ⟨rfl, at_plainof ⟨rfl, at_plainof ⟨⟨hx.pl.okT (by omega), hx.pl.okT (by omega)⟩, by rw [Ru.dp]; decide, ?_⟩⟩⟩
  show (match T.bl (if false = true then !eqT x.pl.t x.pl.t else eqT x.pl.t x.pl.t) with
    | .bl b => _
    | _ => False)
  rw [eqs_self]
  exact fin _
end TL
set_option maxRecDepth 100000
set_option maxHeartbeats 1000000
namespace TL
open PySem PySem.Spec PyProof.Rows L2
/-- what the two values that should be rules come to: an error's index, or the same rules twice -/
inductive Two (r k : T) : Option T → Prop
  | one {i : T} : rfault r = some i → Two r k (some i)
  | two {x : Ru} {M : Int} {i : T} : r = x.t → x.Ok M → rfault k = some i → Two r k (some i)
  | ok {x : Ru} {M : Int} : r = x.t → k = x.t → x.Ok M → M ≤ 10 ^ 31 → Two r k none
def S_parting_record : FS := fun ts Q => ∃ r k o, ts = [r, k] ∧ dat r = true ∧ dat k = true ∧ Two r k o ∧ (∀ i, o = some i → Q (.exc "InvalidRules" [("index", i)]) [r, k]) ∧ (o = none → Q (.ret .non) [r, k])
theorem l_parting_record : ∀ ts Q, S_parting_record ts Q → ts.length = 2 := fun ts Q ⟨_, _, _, e, _⟩ => by rw [e]; rfl
abbrev N_parting_record : List Str := ["one", "other"]
def w_parting_record : WS :=
  (wSeq (wCallX S_require_rules [] (wCons (wV 0) wNil)) (wSeq (wCallX S_require_rules [] (wCons (wV 1) wNil)) (wRet 0 (wCall S_found_parting (wCons (wV 0) (wCons (wV 1) wNil))))))
theorem v_parting_record : ∀ ts Qf, S_parting_record ts Qf → w_parting_record (endsX 0 ts Qf) (startD N_parting_record 0 ts) := by
  rintro ts Qf ⟨r, k, o, rfl, hr, hk, h, q1, q2⟩
  show w_parting_record (endsX 0 [r, k] Qf) [some (frz r), some (frz k)]
  have E : ∀ {R : Rs} {Δ : Dt}, Qf R [r, k] → match R with
    | .ret t => (endsX 0 [r, k] Qf).rt t Δ
    | .exc x fs => (endsX 0 [r, k] Qf).ex x fs Δ := fun {R Δ} z => by
    have z : Qf R [frz r, frz k] := by rw [dat_frz hr, dat_frz hk]; exact z
    cases R <;> exact z
  rw [dat_frz hr, dat_frz hk]
  cases h with
  | one hi => exact ⟨rfl, at_req_bad hr hi (E (R := .exc _ _) (Δ := []) (q1 _ rfl))⟩
  | two e hx hi => subst e; exact ⟨rfl, at_req_ok hx ⟨rfl, at_req_bad hk hi (E (R := .exc _ _) (Δ := []) (q1 _ rfl))⟩⟩
  | @ok x M e1 e2 hx hM => subst e1; subst e2; exact ⟨rfl, at_req_ok hx ⟨rfl, at_req_ok hx ⟨rfl, x, M, rfl, hx, hM, E (R := .ret _) (Δ := []) (q2 rfl)⟩⟩⟩
def S_fewest_parting : FS := fun ts Q => ∃ r k o, ts = [r, k] ∧ dat r = true ∧ dat k = true ∧ Two r k o ∧ (∀ i, o = some i → Q (.exc "InvalidRules" [("index", i)]) [r, k]) ∧ (o = none → Q (.ret .non) [r, k])
theorem l_fewest_parting : ∀ ts Q, S_fewest_parting ts Q → ts.length = 2 := fun ts Q ⟨_, _, _, e, _⟩ => by rw [e]; rfl
abbrev N_fewest_parting : List Str := ["one", "other", "found"]
def w_fewest_parting : WS :=
  (wSeq (wCallX S_require_rules [] (wCons (wV 0) wNil)) (wSeq (wCallX S_require_rules [] (wCons (wV 1) wNil)) (wSeq (wAsg (wCall S_found_parting (wCons (wV 0) (wCons (wV 1) wNil))) (wgN 2)) (wRet 0 (wIf (wTest (wOp (gIs false) (wV 2) (wC .non))) (wC .non) (wCl gLen (wCons (wV 2) wNil)))))))
theorem v_fewest_parting : ∀ ts Qf, S_fewest_parting ts Qf → w_fewest_parting (endsX 0 ts Qf) (startD N_fewest_parting 0 ts) := by
  rintro ts Qf ⟨r, k, o, rfl, hr, hk, h, q1, q2⟩
  show w_fewest_parting (endsX 0 [r, k] Qf) [some (frz r), some (frz k), none]
  have E : ∀ {R : Rs} {Δ : Dt}, Qf R [r, k] → match R with
    | .ret t => (endsX 0 [r, k] Qf).rt t Δ
    | .exc x fs => (endsX 0 [r, k] Qf).ex x fs Δ := fun {R Δ} z => by
    have z : Qf R [frz r, frz k] := by rw [dat_frz hr, dat_frz hk]; exact z
    cases R <;> exact z
  rw [dat_frz hr, dat_frz hk]
  cases h with
  | one hi => exact ⟨rfl, at_req_bad hr hi (E (R := .exc _ _) (Δ := []) (q1 _ rfl))⟩
  | two e hx hi => subst e; exact ⟨rfl, at_req_ok hx ⟨rfl, at_req_bad hk hi (E (R := .exc _ _) (Δ := []) (q1 _ rfl))⟩⟩
  | @ok x M e1 e2 hx hM =>
    subst e1; subst e2
    refine ⟨rfl, at_req_ok hx ⟨rfl, at_req_ok hx ⟨rfl, x, M, rfl, hx, hM, ?_⟩⟩⟩
    exact E (R := .ret _) (Δ := []) (q2 rfl)
/-- the third value: no record, or a record that is played -/
def Val3 (v : T) : Prop := (∃ i r, faultL v = i :: r) ∨ (∃ es rn, v = .lst false (es.map evT) ∧ Asked es rn)
theorem asked_fault {es : List Ev} {rn : List T} (h : Asked es rn) : faultL (.lst false (es.map evT)) = [] := by
  rcases h with ⟨rfl, _⟩ | ⟨rfl, _⟩
  · rfl
  · decide +kernel
def S_shows_parting : FS := fun ts Q => ∃ r k v o, ts = [r, k, v] ∧ dat r = true ∧ dat k = true ∧ dat v = true ∧ Two r k o ∧ (∀ i, o = some i → Q (.exc "InvalidRules" [("index", i)]) [r, k, v]) ∧ (o = none → Val3 v ∧ ∀ b, Q (.ret (.bl b)) [r, k, v])
theorem l_shows_parting : ∀ ts Q, S_shows_parting ts Q → ts.length = 3 := fun ts Q ⟨_, _, _, _, e, _⟩ => by rw [e]; rfl
abbrev N_shows_parting : List Str := ["one", "other", "value"]
def w_shows_parting : WS :=
  (wSeq (wCallX S_require_rules [] (wCons (wV 0) wNil)) (wSeq (wCallX S_require_rules [] (wCons (wV 1) wNil)) (wRet 0 (wAndV (wOp (gNilL false) (wCall S_fault_of_record (wCons (wV 2) wNil)) (wLst wNil)) (wCall S_are_unlike (wCons (wV 0) (wCons (wV 1) (wCons (wV 2) wNil))))))))
theorem v_shows_parting : ∀ ts Qf, S_shows_parting ts Qf → w_shows_parting (endsX 0 ts Qf) (startD N_shows_parting 0 ts) := by
  rintro ts Qf ⟨r, k, v, o, rfl, hr, hk, hv, h, q1, q2⟩
  show w_shows_parting (endsX 0 [r, k, v] Qf) [some (frz r), some (frz k), some (frz v)]
  have E : ∀ {R : Rs} {Δ : Dt}, Qf R [r, k, v] → match R with
    | .ret t => (endsX 0 [r, k, v] Qf).rt t Δ
    | .exc x fs => (endsX 0 [r, k, v] Qf).ex x fs Δ := fun {R Δ} z => by
    have z : Qf R [frz r, frz k, frz v] := by rw [dat_frz hr, dat_frz hk, dat_frz hv]; exact z
    cases R <;> exact z
  rw [dat_frz hr, dat_frz hk, dat_frz hv]
  cases h with
  | one hi => exact ⟨rfl, at_req_bad hr hi (E (R := .exc _ _) (Δ := []) (q1 _ rfl))⟩
  | two e hx hi => subst e; exact ⟨rfl, at_req_ok hx ⟨rfl, at_req_bad hk hi (E (R := .exc _ _) (Δ := []) (q1 _ rfl))⟩⟩
  | @ok x M e1 e2 hx hM =>
    obtain ⟨h3, q2⟩ := q2 rfl
    have fin : ∀ b Δ, (endsX 0 [r, k, v] Qf).rt (.bl b) Δ := fun b Δ => E (R := .ret _) (Δ := []) (q2 b)
    clear q1 q2 E
    subst e1; subst e2
    revert fin
    generalize endsX 0 [x.t, x.t, v] Qf = D
    intro fin
    refine ⟨rfl, at_req_ok hx ⟨rfl, at_req_ok hx ?_⟩⟩
    refine ⟨rfl, v, rfl, by rw [dat_frz hv]; exact hv, Nat.zero_le _, ?_⟩
    rw [dat_frz hv]
    rcases h3 with ⟨i, rr, e⟩ | ⟨es, rn, e, ha⟩
    · rw [e]
      exact fin _ _
    · subst e
      rw [asked_fault ha]
      exact ⟨rfl, x, M, es, rn, rfl, hx, hM, ha, fun b => fin _ _⟩
end TL
set_option maxRecDepth 100000
set_option maxHeartbeats 1000000
namespace TL
open PySem PySem.Spec PyProof.Rows L2
theorem ite_no {c : Bool} {A B : Prop} (h : c = false) (b : B) : if c = true then A else B := by rw [h]; exact b
theorem ite_yes {c : Bool} {A B : Prop} (h : c = true) (a : A) : if c = true then A else B := by rw [h]; exact a
abbrev allX : List Str := ["KeyerError", "InvalidLever", "InvalidTick", "InvalidNumber", "InvalidGaps", "InvalidText", "InvalidName", "Impossible", "NothingToUndo", "InvalidCommand", "InvalidRules", "InvalidRecord", "InvalidRuns", "InvalidKinds", "InvalidCases", "InvalidCode", "TooLarge", "InvalidSyntax"]
abbrev pb (s : Str) (b : Bool) : Str × Bool := (s, b)
def S__law_told (ea : Addr) (ey : Str) (eo : Option Addr) : FS := fun ts Q => ∃ fs, ts = [.exc ea ey eo fs] ∧ ((ey = "InvalidRules" ∧ ∃ i, fs = [(("index" : Str), i)] ∧ closed i = true ∧ Q (.ret (.lst true [.str "rules", i])) [.exc ea ey eo fs]) ∨
  (ey = "InvalidLever" ∧ Q (.ret (.lst true [.str "lever"])) [.exc ea ey eo fs]) ∨ (ey = "InvalidNumber" ∧ Q (.ret (.lst true [.str "number"])) [.exc ea ey eo fs]))
theorem l__law_told : ∀ {ea : Addr} {ey : Str} {eo : Option Addr} ts Q, S__law_told ea ey eo ts Q → ts.length = 1 := fun ts Q ⟨_, e, _⟩ => by rw [e]; rfl
abbrev prs (l : List (Str × Bool)) : List T := l.map fun p => .tup [.str p.1, .bl p.2]
theorem prs_cl : ∀ l, closedL (prs l) = true
  | [] => rfl
  | _ :: l => by simp only [prs, List.map_cons, closedL, closed, prs_cl l]; rfl
theorem prs_len (l : List (Str × Bool)) : (prs l).length = l.length := List.length_map _
theorem prs_app (l m : List (Str × Bool)) : prs l ++ prs m = prs (l ++ m) := (List.map_append).symm
theorem prs_frz (l : List (Str × Bool)) : frzL (prs l) = prs l := frzL_closed _ (prs_cl l)
abbrev wds (l : List (Str × Bool)) : List T := (l.filter fun p => p.2).map fun p => .str p.1
abbrev N__law_told : List Str := ["e", "some", "found", "word", "is_one"]
def w__law_told_1 (ea : Addr) (ey : Str) (eo : Option Addr) : WS :=
  (wAsg (wLst (wCons (wTup (wCons (wC (.str "lever")) (wCons (wIsK ea ey eo ["InvalidLever"] allX (wV 0)) wNil))) (wCons (wTup (wCons (wC (.str "tick")) (wCons (wIsK ea ey eo ["InvalidTick"] allX (wV 0)) wNil))) wNil))) (wgN 1))
def w__law_told_2 (ea : Addr) (ey : Str) (eo : Option Addr) : WS :=
  (wAsg (wOp gAdd (wV 1) (wLst (wCons (wTup (wCons (wC (.str "number")) (wCons (wIsK ea ey eo ["InvalidNumber"] allX (wV 0)) wNil))) (wCons (wTup (wCons (wC (.str "gaps")) (wCons (wIsK ea ey eo ["InvalidGaps"] allX (wV 0)) wNil))) wNil)))) (wgN 1))
def w__law_told_3 (ea : Addr) (ey : Str) (eo : Option Addr) : WS :=
  (wAsg (wOp gAdd (wV 1) (wLst (wCons (wTup (wCons (wC (.str "text")) (wCons (wIsK ea ey eo ["InvalidText"] allX (wV 0)) wNil))) (wCons (wTup (wCons (wC (.str "name")) (wCons (wIsK ea ey eo ["InvalidName"] allX (wV 0)) wNil))) wNil)))) (wgN 1))
def w__law_told_4 (ea : Addr) (ey : Str) (eo : Option Addr) : WS :=
  (wAsg (wOp gAdd (wV 1) (wLst (wCons (wTup (wCons (wC (.str "impossible")) (wCons (wIsK ea ey eo ["Impossible"] allX (wV 0)) wNil))) (wCons (wTup (wCons (wC (.str "undo")) (wCons (wIsK ea ey eo ["NothingToUndo"] allX (wV 0)) wNil))) wNil)))) (wgN 1))
def w__law_told_5 (ea : Addr) (ey : Str) (eo : Option Addr) : WS :=
  (wAsg (wOp gAdd (wV 1) (wLst (wCons (wTup (wCons (wC (.str "command")) (wCons (wIsK ea ey eo ["InvalidCommand"] allX (wV 0)) wNil))) (wCons (wTup (wCons (wC (.str "rules")) (wCons (wIsK ea ey eo ["InvalidRules"] allX (wV 0)) wNil))) wNil)))) (wgN 1))
def w__law_told_6 (ea : Addr) (ey : Str) (eo : Option Addr) : WS :=
  (wAsg (wOp gAdd (wV 1) (wLst (wCons (wTup (wCons (wC (.str "record")) (wCons (wIsK ea ey eo ["InvalidRecord"] allX (wV 0)) wNil))) (wCons (wTup (wCons (wC (.str "runs")) (wCons (wIsK ea ey eo ["InvalidRuns"] allX (wV 0)) wNil))) wNil)))) (wgN 1))
def w__law_told_7 (ea : Addr) (ey : Str) (eo : Option Addr) : WS :=
  (wAsg (wOp gAdd (wV 1) (wLst (wCons (wTup (wCons (wC (.str "kinds")) (wCons (wIsK ea ey eo ["InvalidKinds"] allX (wV 0)) wNil))) (wCons (wTup (wCons (wC (.str "cases")) (wCons (wIsK ea ey eo ["InvalidCases"] allX (wV 0)) wNil))) wNil)))) (wgN 1))
def w__law_told_8 (ea : Addr) (ey : Str) (eo : Option Addr) : WS :=
  (wAsg (wOp gAdd (wV 1) (wLst (wCons (wTup (wCons (wC (.str "code")) (wCons (wIsK ea ey eo ["InvalidCode"] allX (wV 0)) wNil))) (wCons (wTup (wCons (wC (.str "large")) (wCons (wIsK ea ey eo ["TooLarge"] allX (wV 0)) wNil))) wNil)))) (wgN 1))
def w__law_told_9 (ea : Addr) (ey : Str) (eo : Option Addr) : WS :=
  (wAsg (wLc (wiList (wOp gAdd (wV 1) (wLst (wCons (wTup (wCons (wC (.str "syntax")) (wCons (wIsK ea ey eo ["InvalidSyntax"] allX (wV 0)) wNil))) wNil)))) (wgTup 2 (wgCons (wgN 3) (wgCons (wgN 4) wgNil))) (wTru (wV 4)) (wV 3) [3, 4]) (wgN 2))
def w__law_told_10_1 (ea : Addr) (ey : Str) (eo : Option Addr) : WS :=
  (wRet 0 (wLst (wCons (wC (.str "odd")) wNil)))
def w__law_told_10 (ea : Addr) (ey : Str) (eo : Option Addr) : WS :=
  (wIfS (wOr (wTest (wOp (gEq true) (wCl gLen (wCons (wV 2) wNil)) (wC (.int 1)))) (wNot (wTru (wIsK ea ey eo ["KeyerError", "InvalidLever", "InvalidTick", "InvalidNumber", "InvalidGaps", "InvalidText", "InvalidName", "Impossible", "NothingToUndo", "InvalidCommand", "InvalidRules", "InvalidRecord", "InvalidRuns", "InvalidKinds", "InvalidCases", "InvalidCode", "TooLarge", "InvalidSyntax"] allX (wV 0))))) (w__law_told_10_1 ea ey eo) wNext)
def w__law_told_11_1 (ea : Addr) (ey : Str) (eo : Option Addr) : WS :=
  (wRet 0 (wLst (wCons (wOp gIx (wV 2) (wC (.int 0))) (wCons (wFldK ea ey eo ["InvalidRules", "InvalidRecord", "InvalidRuns", "InvalidKinds", "InvalidCases"] "index" (wV 0)) wNil))))
def w__law_told_11 (ea : Addr) (ey : Str) (eo : Option Addr) : WS :=
  (wIfS (wTest (wOp (gIn false) (wOp gIx (wV 2) (wC (.int 0))) (wTup (wCons (wC (.str "rules")) (wCons (wC (.str "record")) (wCons (wC (.str "runs")) (wCons (wC (.str "kinds")) (wCons (wC (.str "cases")) wNil)))))))) (w__law_told_11_1 ea ey eo) wNext)
def w__law_told_12_1 (ea : Addr) (ey : Str) (eo : Option Addr) : WS :=
  (wRet 0 (wLst (wCons (wC (.str "code")) (wCons (wFldK ea ey eo ["InvalidCode"] "letter" (wV 0)) wNil))))
def w__law_told_12 (ea : Addr) (ey : Str) (eo : Option Addr) : WS :=
  (wIfS (wTest (wOp (gEq false) (wOp gIx (wV 2) (wC (.int 0))) (wC (.str "code")))) (w__law_told_12_1 ea ey eo) wNext)
def w__law_told_13_1 (ea : Addr) (ey : Str) (eo : Option Addr) : WS :=
  (wRet 0 (wLst (wCons (wC (.str "syntax")) (wCons (wFldK ea ey eo ["InvalidSyntax"] "line" (wV 0)) (wCons (wFldK ea ey eo ["InvalidSyntax"] "word" (wV 0)) wNil)))))
def w__law_told_13 (ea : Addr) (ey : Str) (eo : Option Addr) : WS :=
  (wIfS (wTest (wOp (gEq false) (wOp gIx (wV 2) (wC (.int 0))) (wC (.str "syntax")))) (w__law_told_13_1 ea ey eo) wNext)
def w__law_told_14 (ea : Addr) (ey : Str) (eo : Option Addr) : WS :=
  (wRet 0 (wIf (wTest (wOp (gEq false) (wOp gIx (wV 2) (wC (.int 0))) (wC (.str "large")))) (wLst (wCons (wC (.str "large")) (wCons (wFldK ea ey eo ["TooLarge"] "limit" (wV 0)) wNil))) (wV 2)))
def w__law_told (ea : Addr) (ey : Str) (eo : Option Addr) : WS :=
  (wSeq (w__law_told_1 ea ey eo) (wSeq (w__law_told_2 ea ey eo) (wSeq (w__law_told_3 ea ey eo) (wSeq (w__law_told_4 ea ey eo) (wSeq (w__law_told_5 ea ey eo) (wSeq (w__law_told_6 ea ey eo) (wSeq (w__law_told_7 ea ey eo) (wSeq (w__law_told_8 ea ey eo) (wSeq (w__law_told_9 ea ey eo) (wSeq (w__law_told_10 ea ey eo) (wSeq (w__law_told_11 ea ey eo) (wSeq (w__law_told_12 ea ey eo) (wSeq (w__law_told_13 ea ey eo) (w__law_told_14 ea ey eo))))))))))))))
section
variable {D : EndsD} {ea : Addr} {ey : Str} {eo : Option Addr} {fs : List (Str × T)} {x1 x2 x3 x4 : Option T} {l : List (Str × Bool)}
abbrev BT (ea : Addr) (ey : Str) (eo : Option Addr) (fs : List (Str × T)) (x1 x2 x3 x4 : Option T) : Dt := [some (.exc ea ey eo fs), x1, x2, x3, x4]
abbrev isC (ey c : Str) : Bool := ([c] : List Str).contains ey
theorem told1 (hy : ey ∈ allX) (k : D.nx (BT ea ey eo fs (some (.lst true (prs [(pb "lever" <| isC ey "InvalidLever"), (pb "tick" <| isC ey "InvalidTick")]))) x2 x3 x4)) : w__law_told_1 ea ey eo D (BT ea ey eo fs x1 x2 x3 x4) :=
  ⟨⟨rfl, rfl, rfl⟩, hy, z2, ⟨rfl, rfl, rfl⟩, hy, z2, z2, k⟩
theorem told_add {u v : Str} {bu bv : Bool} (hl : l.length ≤ 20) (k : D.nx (BT ea ey eo fs (some (.lst true (prs (l ++ [pb u bu, pb v bv])))) x2 x3 x4)) :
    gAdd (.lst true (prs l)) (.lst true [.tup [.str u, .bl bu], .tup [.str v, .bl bv]]) fun t => D.nx (BT ea ey eo fs (some t) x2 x3 x4) := by
  rw [← prs_app] at k
  refine ⟨⟨prs_cl l, rfl⟩, ?_, k⟩
  rw [prs_len]
  show l.length + 2 ≤ sizeLine
  rw [sizeLine_eq]; omega
theorem told2 (hy : ey ∈ allX) (hl : l.length ≤ 20) (k : D.nx (BT ea ey eo fs (some (.lst true (prs (l ++ [(pb "number" <| isC ey "InvalidNumber"), (pb "gaps" <| isC ey "InvalidGaps")])))) x2 x3 x4)) : w__law_told_2 ea ey eo D (BT ea ey eo fs (some (.lst true (prs l))) x2 x3 x4) :=
  ⟨⟨rfl, rfl, rfl⟩, hy, z2, ⟨rfl, rfl, rfl⟩, hy, z2, z2, told_add hl k⟩
theorem told3 (hy : ey ∈ allX) (hl : l.length ≤ 20) (k : D.nx (BT ea ey eo fs (some (.lst true (prs (l ++ [(pb "text" <| isC ey "InvalidText"), (pb "name" <| isC ey "InvalidName")])))) x2 x3 x4)) : w__law_told_3 ea ey eo D (BT ea ey eo fs (some (.lst true (prs l))) x2 x3 x4) :=
  ⟨⟨rfl, rfl, rfl⟩, hy, z2, ⟨rfl, rfl, rfl⟩, hy, z2, z2, told_add hl k⟩
theorem told4 (hy : ey ∈ allX) (hl : l.length ≤ 20) (k : D.nx (BT ea ey eo fs (some (.lst true (prs (l ++ [(pb "impossible" <| isC ey "Impossible"), (pb "undo" <| isC ey "NothingToUndo")])))) x2 x3 x4)) : w__law_told_4 ea ey eo D (BT ea ey eo fs (some (.lst true (prs l))) x2 x3 x4) :=
  ⟨⟨rfl, rfl, rfl⟩, hy, z2, ⟨rfl, rfl, rfl⟩, hy, z2, z2, told_add hl k⟩
theorem told5 (hy : ey ∈ allX) (hl : l.length ≤ 20) (k : D.nx (BT ea ey eo fs (some (.lst true (prs (l ++ [(pb "command" <| isC ey "InvalidCommand"), (pb "rules" <| isC ey "InvalidRules")])))) x2 x3 x4)) : w__law_told_5 ea ey eo D (BT ea ey eo fs (some (.lst true (prs l))) x2 x3 x4) :=
  ⟨⟨rfl, rfl, rfl⟩, hy, z2, ⟨rfl, rfl, rfl⟩, hy, z2, z2, told_add hl k⟩
theorem told6 (hy : ey ∈ allX) (hl : l.length ≤ 20) (k : D.nx (BT ea ey eo fs (some (.lst true (prs (l ++ [(pb "record" <| isC ey "InvalidRecord"), (pb "runs" <| isC ey "InvalidRuns")])))) x2 x3 x4)) : w__law_told_6 ea ey eo D (BT ea ey eo fs (some (.lst true (prs l))) x2 x3 x4) :=
  ⟨⟨rfl, rfl, rfl⟩, hy, z2, ⟨rfl, rfl, rfl⟩, hy, z2, z2, told_add hl k⟩
theorem told7 (hy : ey ∈ allX) (hl : l.length ≤ 20) (k : D.nx (BT ea ey eo fs (some (.lst true (prs (l ++ [(pb "kinds" <| isC ey "InvalidKinds"), (pb "cases" <| isC ey "InvalidCases")])))) x2 x3 x4)) : w__law_told_7 ea ey eo D (BT ea ey eo fs (some (.lst true (prs l))) x2 x3 x4) :=
  ⟨⟨rfl, rfl, rfl⟩, hy, z2, ⟨rfl, rfl, rfl⟩, hy, z2, z2, told_add hl k⟩
theorem told8 (hy : ey ∈ allX) (hl : l.length ≤ 20) (k : D.nx (BT ea ey eo fs (some (.lst true (prs (l ++ [(pb "code" <| isC ey "InvalidCode"), (pb "large" <| isC ey "TooLarge")])))) x2 x3 x4)) : w__law_told_8 ea ey eo D (BT ea ey eo fs (some (.lst true (prs l))) x2 x3 x4) :=
  ⟨⟨rfl, rfl, rfl⟩, hy, z2, ⟨rfl, rfl, rfl⟩, hy, z2, z2, told_add hl k⟩
theorem told9 (hy : ey ∈ allX) (hl : l.length ≤ 20) (k : D.nx (BT ea ey eo fs (some (.lst true (prs l))) (some (.lst true (wds (l ++ [(pb "syntax" <| isC ey "InvalidSyntax")])))) none none)) : w__law_told_9 ea ey eo D (BT ea ey eo fs (some (.lst true (prs l))) x2 x3 x4) := by
  refine ⟨⟨rfl, rfl, rfl⟩, hy, z2, z1, ⟨prs_cl l, rfl⟩, ?_, ?_⟩
  · rw [prs_len]
    show l.length + 1 ≤ sizeLine
    rw [sizeLine_eq]; omega
  have em : prs l ++ [T.tup [.str "syntax", .bl (isC ey "InvalidSyntax")]] = prs (l ++ [(pb "syntax" <| isC ey "InvalidSyntax")]) := prs_app l [pb "syntax" (isC ey "InvalidSyntax")]
  have hm : (l ++ [(pb "syntax" <| isC ey "InvalidSyntax")]).length ≤ 21 := by rw [List.length_append]; show l.length + 1 ≤ 21; omega
  revert em hm k
  generalize l ++ [(pb "syntax" <| isC ey "InvalidSyntax")] = m
  intro k em hm
  refine ⟨fun i acc Δ => acc = wds (m.take i) ∧ Δ = BT ea ey eo fs (some (.lst true (prs l))) x2 none none, ⟨rfl, rfl⟩, ?_, ?_⟩
  · rintro i y acc Δ hy ⟨rfl, rfl⟩
    have hy' : (frzL (prs l ++ [T.tup [.str "syntax", .bl (isC ey "InvalidSyntax")]]))[i]? = some y := hy
    rw [em, prs_frz, List.getElem?_map] at hy'
    cases e : m[i]? with
    | none => rw [e] at hy'; cases hy'
    | some p =>
      rw [e] at hy'
      obtain rfl := Option.some.inj hy'
      obtain ⟨u, b⟩ := p
      have et : m.take (i + 1) = m.take i ++ [(u, b)] := by rw [List.take_add_one, e]; rfl
      have h1 := List.length_filter_le (fun p : Str × Bool => p.2) (m.take i)
      have h2 : (m.take i).length ≤ 21 := by rw [List.length_take]; omega
      refine ⟨rfl, ite_of (fun h => ⟨zz200 (by simp only [wds, List.length_map]; omega), ?_, rfl⟩) fun h => ⟨?_, rfl⟩⟩
      · have h : b = true := h
        rw [et, h]
        simp [wds, List.filter_append, frz]
      · have h : b = false := h
        rw [et, h]
        simp [wds, List.filter_append]
  · rintro acc Δ ⟨rfl, rfl⟩
    have e : m.take (frzL (prs l ++ [T.tup [.str "syntax", .bl (isC ey "InvalidSyntax")]])).length = m := by
      rw [em, prs_frz, prs_len, List.take_length]
    have e2 : (wds (m.take (frzL (prs l ++ [T.tup [.str "syntax", .bl (isC ey "InvalidSyntax")]])).length)) = wds m := by rw [e]
    show D.nx [some (.exc ea ey eo fs), some (.lst true (prs l)), some (.lst true (wds (m.take (frzL (prs l ++ [T.tup [.str "syntax", .bl (isC ey "InvalidSyntax")]])).length))), none, none]
    rw [e2]
    exact k
theorem told_rules {i : T} (hi : closed i = true) (k : ∀ Δ, D.rt (.lst true [.str "rules", i]) Δ) :
    wSeq (w__law_told_10 ea "InvalidRules" eo) (wSeq (w__law_told_11 ea "InvalidRules" eo) (wSeq (w__law_told_12 ea "InvalidRules" eo) (wSeq (w__law_told_13 ea "InvalidRules" eo) (w__law_told_14 ea "InvalidRules" eo)))) D (BT ea "InvalidRules" eo [(("index" : Str), i)] x1 (some (.lst true [.str "rules"])) none none) := by
  refine sq ⟨⟨rfl, rfl, rfl⟩, by decide +kernel, ?_⟩
  dsimp only [onV, truT]
  refine ite_no (by decide +kernel) ?_
  refine sq ⟨rfl, by decide, rfl, rfl, ?_⟩
  dsimp only [onV, truT]
  refine ite_yes (by decide +kernel) ?_
  refine ⟨rfl, ⟨rfl, rfl, rfl⟩, by decide +kernel, z2, ?_⟩
  rw [frz_closed i hi]
  exact k _
theorem told_word {ey u : Str} (hv : (["KeyerError", "InvalidLever", "InvalidTick", "InvalidNumber", "InvalidGaps", "InvalidText", "InvalidName", "Impossible", "NothingToUndo", "InvalidCommand", "InvalidRules", "InvalidRecord", "InvalidRuns", "InvalidKinds", "InvalidCases", "InvalidCode", "TooLarge", "InvalidSyntax"] : List Str).contains ey = true)
    (hy : ey ∈ allX) (h1 : inT (.str u) [.str "rules", .str "record", .str "runs", .str "kinds", .str "cases"] = false) (h2 : decide (u = "code") = false) (h3 : decide (u = "syntax") = false) (h4 : decide (u = "large") = false) (k : ∀ Δ, D.rt (.lst true [.str u]) Δ) :
    wSeq (w__law_told_10 ea ey eo) (wSeq (w__law_told_11 ea ey eo) (wSeq (w__law_told_12 ea ey eo) (wSeq (w__law_told_13 ea ey eo) (w__law_told_14 ea ey eo)))) D (BT ea ey eo fs x1 (some (.lst true [.str u])) none none) := by
  refine sq ⟨⟨rfl, rfl, rfl⟩, hy, ?_⟩
  refine ite_no (c := !(["KeyerError", "InvalidLever", "InvalidTick", "InvalidNumber", "InvalidGaps", "InvalidText", "InvalidName", "Impossible", "NothingToUndo", "InvalidCommand", "InvalidRules", "InvalidRecord", "InvalidRuns", "InvalidKinds", "InvalidCases", "InvalidCode", "TooLarge", "InvalidSyntax"] : List Str).contains ey) (by rw [hv]; rfl) ?_
  refine sq ⟨rfl, by decide, rfl, rfl, ?_⟩
  refine ite_no (c := inT (.str u) [.str "rules", .str "record", .str "runs", .str "kinds", .str "cases"]) h1 ?_
  refine sq ⟨rfl, ?_⟩
  refine ite_no (c := decide (u = "code")) h2 ?_
  refine sq ⟨rfl, ?_⟩
  refine ite_no (c := decide (u = "syntax")) h3 ?_
  refine ⟨rfl, ?_⟩
  refine ite_no (c := decide (u = "large")) h4 ?_
  exact k _
end
abbrev l17 (ey : Str) : List (Str × Bool) := [(pb "lever" <| isC ey "InvalidLever"), (pb "tick" <| isC ey "InvalidTick"), (pb "number" <| isC ey "InvalidNumber"), (pb "gaps" <| isC ey "InvalidGaps"), (pb "text" <| isC ey "InvalidText"), (pb "name" <| isC ey "InvalidName"), (pb "impossible" <| isC ey "Impossible"), (pb "undo" <| isC ey "NothingToUndo"), (pb "command" <| isC ey "InvalidCommand"), (pb "rules" <| isC ey "InvalidRules"), (pb "record" <| isC ey "InvalidRecord"), (pb "runs" <| isC ey "InvalidRuns"), (pb "kinds" <| isC ey "InvalidKinds"), (pb "cases" <| isC ey "InvalidCases"), (pb "code" <| isC ey "InvalidCode"), (pb "large" <| isC ey "TooLarge"), (pb "syntax" <| isC ey "InvalidSyntax")]
theorem told19 {D : EndsD} {ea : Addr} {ey : Str} {eo : Option Addr} {fs : List (Str × T)} (hy : ey ∈ allX)
    (k : ∀ x1, wSeq (w__law_told_10 ea ey eo) (wSeq (w__law_told_11 ea ey eo) (wSeq (w__law_told_12 ea ey eo) (wSeq (w__law_told_13 ea ey eo) (w__law_told_14 ea ey eo)))) D (BT ea ey eo fs x1 (some (.lst true (wds (l17 ey)))) none none)) : w__law_told ea ey eo D (BT ea ey eo fs none none none none) := by
  refine sq (told1 hy ?_)
  dsimp only
  refine sq (told2 hy (by simp) ?_)
  dsimp only
  refine sq (told3 hy (by simp) ?_)
  dsimp only
  refine sq (told4 hy (by simp) ?_)
  dsimp only
  refine sq (told5 hy (by simp) ?_)
  dsimp only
  refine sq (told6 hy (by simp) ?_)
  dsimp only
  refine sq (told7 hy (by simp) ?_)
  dsimp only
  refine sq (told8 hy (by simp) ?_)
  dsimp only
  refine sq (told9 hy (by simp) ?_)
  exact k _
theorem words_rules : wds (l17 "InvalidRules") = [.str "rules"] := by rfl
theorem words_lever : wds (l17 "InvalidLever") = [.str "lever"] := by rfl
theorem words_number : wds (l17 "InvalidNumber") = [.str "number"] := by rfl
theorem v__law_told : ∀ {ea : Addr} {ey : Str} {eo : Option Addr} ts Qf, S__law_told ea ey eo ts Qf → w__law_told ea ey eo (endsD 0 ts Qf) (startD N__law_told 0 ts) := by
  rintro ea ey eo ts Qf ⟨fs, rfl, q⟩
  show w__law_told ea ey eo (endsD 0 [.exc ea ey eo fs] Qf) (BT ea ey eo fs none none none none)
  have E : ∀ {t : T} {Δ : Dt}, Qf (.ret t) [.exc ea ey eo fs] → (endsD 0 [.exc ea ey eo fs] Qf).rt t Δ := fun z => z
  revert E
  generalize endsD 0 [.exc ea ey eo fs] Qf = D
  intro E
  rcases q with ⟨rfl, i, rfl, hi, q⟩ | ⟨rfl, q⟩ | ⟨rfl, q⟩
  · refine told19 (by decide +kernel) fun x1 => ?_
    rw [words_rules]
    exact told_rules hi fun Δ => E q
  · refine told19 (by decide +kernel) fun x1 => ?_
    rw [words_lever]
    exact told_word (by decide +kernel) (by decide +kernel) (by decide +kernel) (by decide +kernel) (by decide +kernel) (by decide +kernel) fun Δ => E q
  · refine told19 (by decide +kernel) fun x1 => ?_
    rw [words_number]
    exact told_word (by decide +kernel) (by decide +kernel) (by decide +kernel) (by decide +kernel) (by decide +kernel) (by decide +kernel) fun Δ => E q
end TL
set_option maxRecDepth 100000
set_option maxHeartbeats 1000000
namespace TL
open PySem PySem.Spec PyProof.Rows L2
def It (d w : Nat) (x : T) : Prop := dat x = true ∧ dtR x = true ∧ (toR x).showable = true ∧ PyData.leavesShort 600 (toR x) = true ∧ (toR x).depth ≤ d ∧ (toR x).weight ≤ w
def Its' (k d w : Nat) (xs : List T) : Prop := xs.length ≤ k ∧ ∀ x ∈ xs, It d w x
theorem It.mono {d w d' w' : Nat} {x : T} (h : It d w x) (hd : d ≤ d') (hw : w ≤ w') : It d' w' x := ⟨h.1, h.2.1, h.2.2.1, h.2.2.2.1, Nat.le_trans h.2.2.2.2.1 hd, Nat.le_trans h.2.2.2.2.2 hw⟩
theorem It.frz {d w : Nat} {x : T} (h : It d w x) : It d w (TL.frz x) := by rw [dat_frz h.1]; exact h
theorem It.ok {d w : Nat} {x : T} (h : It d w x) (hd : d ≤ 60) (hw : w ≤ 20000) : okR x = true := by
  obtain ⟨_, h1, h2, h3, h4, h5⟩ := h
  simp only [okR, h1, h2, h3, Bool.true_and, Bool.and_eq_true, decide_eq_true_eq]
  omega
theorem its_all {d w : Nat} : ∀ {xs : List T}, (∀ x ∈ xs, It d w x) → datL xs = true ∧ dtRL xs = true ∧ PyData.showableAll (toRL xs) = true ∧ PyData.leavesShortAll 600 (toRL xs) = true ∧ PyData.depthAll (toRL xs) ≤ d ∧ PyData.weightAll (toRL xs) ≤ xs.length * (w + 1)
  | [], _ => ⟨rfl, rfl, rfl, rfl, Nat.zero_le _, Nat.zero_le _⟩
  | x :: r, h => by
    obtain ⟨a1, a2, a3, a4, a5, a6⟩ := h x (List.mem_cons_self ..)
    obtain ⟨b1, b2, b3, b4, b5, b6⟩ := its_all (xs := r) fun z hz => h z (List.mem_cons_of_mem _ hz)
    refine ⟨by simp only [datL, a1, b1]; rfl, by simp only [dtRL, a2, b2]; rfl, by simp only [toRL, PyData.showableAll, a3, b3]; rfl, by simp only [toRL, PyData.leavesShortAll, a4, b4]; rfl, by simp only [toRL, PyData.depthAll]; omega, ?_⟩
    simp only [toRL, PyData.weightAll, List.length_cons, Nat.add_mul, Nat.one_mul]; omega
theorem it_tup {k d w : Nat} {xs : List T} (h : Its' k d w xs) : It (d + 1) (k * (w + 1)) (.tup xs) := by
  obtain ⟨b1, b2, b3, b4, b5, b6⟩ := its_all h.2
  exact ⟨by simp only [dat]; exact b1, by simp only [dtR]; exact b2, by simp only [toR, PyData.showable]; exact b3, by simp only [toR, PyData.leavesShort]; exact b4, by simp only [toR, PyData.depth]; omega, by simp only [toR, PyData.weight]; exact Nat.le_trans b6 (Nat.mul_le_mul_right _ h.1)⟩
theorem it_lst {k d w : Nat} {xs : List T} (h : Its' k d w xs) : It (d + 1) (k * (w + 1)) (.lst false xs) := by
  obtain ⟨b1, b2, b3, b4, b5, b6⟩ := its_all h.2
  exact ⟨by simp only [dat, b1]; rfl, by simp only [dtR]; exact b2, by simp only [toR, PyData.showable]; exact b3, by simp only [toR, PyData.leavesShort]; exact b4, by simp only [toR, PyData.depth]; omega, by simp only [toR, PyData.weight]; exact Nat.le_trans b6 (Nat.mul_le_mul_right _ h.1)⟩
theorem it_int {i : Int} (h : -(10 ^ 31) ≤ i ∧ i ≤ 10 ^ 31) : It 0 110 (.int i) := by
  have h1 : i.natAbs < 2 ^ 105 := by omega
  have h2 := PySem.Flt.log2_lt_of (show 0 < 105 by decide) h1
  have h3 := int_text_length_le (a := i) (k := i.natAbs.log2 + 1) (by omega) (by omega)
  refine ⟨rfl, rfl, ?_, ?_, Nat.le_refl _, ?_⟩
  · simp only [toR, PyData.showable, decide_eq_true_eq]; omega
  · exact decide_eq_true (show (Str.ofString (toString i)).length ≤ 600 by rw [PySem.ofString_length]; omega)
  · simp only [toR, PyData.weight]; split <;> omega
theorem it_bl (b : Bool) : It 0 110 (.bl b) := ⟨rfl, rfl, rfl, rfl, Nat.le_refl _, Nat.zero_le _⟩
theorem it_non : It 0 110 .non := ⟨rfl, rfl, rfl, rfl, Nat.le_refl _, Nat.zero_le _⟩
theorem it_str {x : Str} (h : (x.cps.toList.all fun c => decide (c < 16 ^ 8)) = true) (hl : x.cps.size ≤ 110) : It 0 110 (.str x) := ⟨rfl, rfl, rfl, by simp only [toR, PyData.leavesShort]; exact h, Nat.le_refl _, by simp only [toR, PyData.weight]; exact hl⟩
theorem it_dnil : It 1 110 (.dct false []) := ⟨rfl, rfl, rfl, rfl, by decide, Nat.zero_le _⟩
section
variable {k j d w : Nat} {xs ys : List T}
theorem Its'.dt (h : Its' k d w xs) : datL xs = true := (datL_iff xs).mpr fun x hx => (h.2 x hx).1
theorem Its'.cl (h : Its' k d w xs) : closedL xs = true := datL_closed xs h.dt
theorem Its'.frz (h : Its' k d w xs) : frzL xs = xs := datL_frz h.dt
theorem Its'.cut (h : Its' k d w xs) (lo hi : Option Int) : Its' k d w (cutT xs lo hi) := by
  unfold cutT
  exact ⟨by rw [List.length_take, List.length_drop]; have := h.1; omega, fun y hy => h.2 y (List.mem_of_mem_drop (List.mem_of_mem_take hy))⟩
theorem Its'.app (h : Its' k d w xs) (h2 : Its' j d w ys) : Its' (k + j) d w (xs ++ ys) := ⟨by rw [List.length_append]; have := h.1; have := h2.1; omega, fun y hy => (List.mem_append.mp hy).elim (h.2 y) (h2.2 y)⟩
theorem Its'.set {y : T} (h : Its' k d w xs) (hy : It d w y) (m : Nat) : Its' k d w (xs.set m y) := ⟨by rw [List.length_set]; exact h.1, fun z hz => (List.mem_or_eq_of_mem_set hz).elim (h.2 z) fun e => e ▸ hy⟩
theorem Its'.mono {d' w' k' : Nat} (h : Its' k d w xs) (hd : d ≤ d') (hw : w ≤ w') (hk : k ≤ k') : Its' k' d' w' xs := ⟨Nat.le_trans h.1 hk, fun x hx => (h.2 x hx).mono hd hw⟩
theorem Its'.nil : Its' 0 d w [] := ⟨Nat.le_refl _, fun _ z => nomatch z⟩
theorem Its'.cons {x : T} (h : It d w x) (h2 : Its' k d w xs) : Its' (k + 1) d w (x :: xs) := ⟨Nat.succ_le_succ h2.1, fun y hy => (List.mem_cons.mp hy).elim (fun e => e ▸ h) (h2.2 y)⟩
end
theorem lit {x : Str} (h : ((x.cps.toList.all fun c => decide (c < 16 ^ 8)) && decide (x.cps.size ≤ 110)) = true) : It 0 110 (.str x) := by
  simp only [Bool.and_eq_true, decide_eq_true_eq] at h
  exact it_str h.1 h.2
theorem Ru.Ok.its {x : Ru} {M : Int} (h : x.Ok M) (hM : M ≤ 10 ^ 30) : Its' 7 0 110 x.l := by
  have ha := h.a; have hb := h.b; have hc := h.c; have hd := h.d
  refine ⟨Nat.le_refl 7, fun z hz => ?_⟩
  have r1 : It 0 110 (.str x.r) := by rcases h.r with e | e | e <;> rw [e] <;> exact it_str (by decide +kernel) (by decide +kernel)
  have q1 : It 0 110 (.str x.q) := by rcases h.q with e | e | e | e <;> rw [e] <;> exact it_str (by decide +kernel) (by decide +kernel)
  simp only [Ru.l, List.mem_cons, List.not_mem_nil, or_false] at hz
  rcases hz with rfl | rfl | rfl | rfl | rfl | rfl | rfl
  · exact it_int (by omega)
  · exact it_int (by omega)
  · exact it_int (by omega)
  · exact it_int (by omega)
  · exact r1
  · exact it_bl x.p
  · exact q1
/-- is the item fit for the place -/
def fit (s : Nat) (t : T) : Bool := match s with
  | 0 => intB t (.int 1)
  | 1 => intB t (.int 1)
  | 2 => intB t (.int 1)
  | 3 => intB t (.int 0)
  | 4 => strB t && inT t remT
  | 5 => blB t
  | _ => strB t && inT t prfT
theorem rf_at {x : Ru} {M : Int} (h : x.Ok M) {s : Nat} (hs : s < 7) {o : T} (ho : fit s o = false) {rest : List T} (hr : rest.length = 6 - s) : rfault (.tup (x.l.take s ++ o :: rest)) = some (.int (s : Nat)) := by
  have e := h.flg
  simp only [Ru.l, TL.flg, List.all_cons, List.all_nil, Bool.and_true, Bool.and_eq_true, id] at e
  obtain ⟨e1, e2, e3, e4, e5, e6, e7⟩ := e
  match s, hs, rest, hr with
  | 0, _, [r1, r2, r3, r4, r5, r6], _ =>
    have ho : intB o (.int 1) = false := ho
    simp [rfault, TL.flg, placeT, ho, scV, eqV]
  | 1, _, [r1, r2, r3, r4, r5], _ =>
    have ho : intB o (.int 1) = false := ho
    simp [rfault, TL.flg, placeT, ho, scV, eqV, e1]
  | 2, _, [r1, r2, r3, r4], _ =>
    have ho : intB o (.int 1) = false := ho
    simp [rfault, TL.flg, placeT, ho, scV, eqV, e1, e2]
  | 3, _, [r1, r2, r3], _ =>
    have ho : intB o (.int 0) = false := ho
    simp [rfault, TL.flg, placeT, ho, scV, eqV, e1, e2, e3]
  | 4, _, [r1, r2], _ =>
    have ho : (strB o && inT o remT) = false := ho
    simp only [rfault, TL.flg, placeT, ho, scV, eqV, e1, e2, e3, e4, List.take_succ_cons, List.take_zero, List.cons_append, List.nil_append, List.map_cons, List.map_nil]
    rfl
  | 5, _, [r1], _ =>
    have ho : blB o = false := ho
    have e5' : (strB (.str x.r) && inT (.str x.r) remT) = true := by simp [e5]
    simp only [rfault, TL.flg, placeT, ho, scV, eqV, e1, e2, e3, e4, e5', List.take_succ_cons, List.take_zero, List.cons_append, List.nil_append, List.map_cons, List.map_nil]
    rfl
  | 6, _, [], _ =>
    have ho : (strB o && inT o prfT) = false := ho
    have e5' : (strB (.str x.r) && inT (.str x.r) remT) = true := by simp [e5]
    simp only [rfault, TL.flg, placeT, ho, scV, eqV, e1, e2, e3, e4, e5', e6, List.take_succ_cons, List.take_zero, List.cons_append, List.nil_append, List.map_cons, List.map_nil]
    rfl
end TL
set_option maxRecDepth 100000
set_option maxHeartbeats 1000000
namespace TL
open PySem PySem.Spec PyProof.Rows L2
theorem ix_it {kk d w : Nat} {o : Bool} {i : Int} {xs : List T} {Q : T → Prop} (l : Its' kk d w xs) (h0 : 0 ≤ i) (h1 : i < xs.length) (q : ∀ x, It d w x → Q x) : gIx (.lst o xs) (.int i) Q := by
  have hk : i.toNat < xs.length := by omega
  have e : atI xs i = some xs[i.toNat] := by
    unfold atI ixN
    rw [if_pos h0, if_pos h1]
    simp [hk]
  show (match atI xs i with
    | some t => closed t = true ∧ Q t
    | none => False)
  rw [e]
  have hb := l.2 _ (List.getElem_mem hk)
  exact ⟨dat_closed _ hb.1, q _ hb⟩
theorem ixN_at {n : Nat} {i : Int} (h0 : 0 ≤ i) (h1 : i < n) : ixN n i = some i.toNat := by
  unfold ixN; rw [if_pos h0, if_pos h1]
/-- a wrong value, with what is told of it -/
def BadP (p : T) : Prop := ∃ v i, p = .tup [v, i] ∧ It 2 6000 v ∧ It 0 110 i ∧ rfault v = some i
theorem BadP.frz {p : T} (h : BadP p) : BadP (TL.frz p) := by
  obtain ⟨v, i, rfl, hv, hi, hr⟩ := h
  refine ⟨v, i, ?_, hv, hi, hr⟩
  simp only [TL.frz, frzL]; rw [dat_frz hv.1, dat_frz hi.1]
theorem BadP.dat {p : T} (h : BadP p) : TL.dat p = true := by
  obtain ⟨v, i, rfl, hv, hi, hr⟩ := h
  simp only [TL.dat, datL, hv.1, hi.1]; rfl
def Bads (n : Nat) (ps : List T) : Prop := ps.length ≤ n ∧ ∀ p ∈ ps, BadP p
theorem Bads.cl {n : Nat} {ps : List T} (h : Bads n ps) : closedL ps = true := datL_closed ps ((datL_iff ps).mpr fun p hp => (h.2 p hp).dat)
theorem Bads.add {n : Nat} {ps : List T} {p : T} (h : Bads n ps) (hp : BadP p) : Bads (n + 1) (ps ++ [p]) :=
  ⟨by rw [List.length_append]; show ps.length + 1 ≤ n + 1; have := h.1; omega, fun q hq => (List.mem_append.mp hq).elim (h.2 q) fun z => by rw [List.mem_singleton.mp z]; exact hp⟩
theorem Bads.mono {n m : Nat} {ps : List T} (h : Bads n ps) (k : n ≤ m) : Bads m ps := ⟨Nat.le_trans h.1 k, h.2⟩
def S__law_bad_rules : FS := fun ts Q => ∃ (t : T) (x : Ru) (M : Int) (n : Nat), ts = [t, x.t] ∧ Fo n t ∧ n < 2 ^ 98 ∧ x.Ok M ∧ M ≤ 10 ^ 30 ∧ ∀ ps t', Bads 60 ps → Fo (n + 50) t' → Q (.ret (.lst true ps)) [t', x.t]
theorem l__law_bad_rules : ∀ ts Q, S__law_bad_rules ts Q → ts.length = 2 := fun ts Q ⟨_, _, _, _, e, _⟩ => by rw [e]; rfl
abbrev N__law_bad_rules : List Str := ["reel", "rules", "found", "value", "odds", "spot", "odd", "some"]
def w__law_bad_rules_1 : WS :=
  (wAsg (wLc (wiTup (wTup (wCons (wC .non) (wCons (wC (.int 0)) (wCons (wC (.str "rules")) (wCons (wLst wNil) (wCons (wTup wNil) (wCons wDNew (wCons (wCl gListOf (wCons (wV 1) wNil)) (wCons (wSl (wV 1) woN (woS (wC (.int 6)))) (wCons (wOp gAdd (wV 1) (wTup (wCons (wC (.int 0)) wNil))) (wCons (wTup (wCons (wV 1) wNil)) wNil)))))))))))) (wgN 3) wYes (wTup (wCons (wV 3) (wCons (wC .non) wNil))) [3]) (wgN 2))
def w__law_bad_rules_2 : WS :=
  (wAsg (wOp gAdd (wOp gMulA (wLst (wCons (wLst (wCons (wC (.int 0)) (wCons (wUn gNeg (wC (.int 1))) (wCons (wC (.bl true)) (wCons (wC .non) (wCons (wC (.str "1")) (wCons (wTup (wCons (wC (.int 1)) wNil)) (wCons (wLst (wCons (wC (.int 2)) wNil)) wNil)))))))) wNil)) (wC (.int 3))) (wLst (wCons (wLst (wCons (wUn gNeg (wC (.int 1))) (wCons (wUn gNeg (wC (.int 9))) (wCons (wC (.bl false)) (wCons (wC .non) (wCons (wC (.str "0")) (wCons (wTup (wCons (wC (.int 0)) wNil)) (wCons wDNew wNil)))))))) wNil))) (wgN 4))
def w__law_bad_rules_3 : WS :=
  (wAsg (wOp gAdd (wV 4) (wLst (wCons (wLst (wCons (wC (.str "")) (wCons (wC (.str "None")) (wCons (wC (.str "hold")) (wCons (wC .non) (wCons (wC (.int 0)) (wCons (wC (.bl true)) (wCons (wTup (wCons (wC (.str "none")) wNil)) wNil)))))))) (wCons (wLst (wCons (wC (.int 0)) (wCons (wC (.int 1)) (wCons (wC .non) (wCons (wC (.str "no")) (wCons (wC (.str "True")) (wCons (wTup wNil) (wCons (wLst (wCons (wC (.bl true)) wNil)) wNil)))))))) wNil)))) (wgN 4))
def w__law_bad_rules_4 : WS :=
  (wDrop (wApp 4 (wLst (wCons (wC (.str "")) (wCons (wC (.str "Turn")) (wCons (wC (.str "sl")) (wCons (wC .non) (wCons (wC (.int 0)) (wCons (wC (.bl false)) (wCons (wLst (wCons (wC (.str "s")) wNil)) wNil))))))))))
def w__law_bad_rules_5_1_1 : WS :=
  (wAsg (wCl gListOf (wCons (wV 1) wNil)) (wgN 7))
def w__law_bad_rules_5_1_2 : WS :=
  (wAsg (wV 6) (wgSub 7 (wV 5)))
def w__law_bad_rules_5_1_3_1 : WS :=
  (wAsg (wOp gAdd (wSl (wV 7) woN (woS (wOp gAdd (wV 5) (wC (.int 1))))) (wOp gMulA (wLst (wCons (wC .non) wNil)) (wOp TL.gSub (wC (.int 6)) (wV 5)))) (wgN 7))
def w__law_bad_rules_5_1_3 : WS :=
  (wIfS (wTest (wOp (gEq false) (wCall S__law_spin (wCons (wV 0) (wCons (wC (.int 2)) wNil))) (wC (.int 0)))) w__law_bad_rules_5_1_3_1 wNext)
def w__law_bad_rules_5_1_4 : WS :=
  (wDrop (wApp 2 (wTup (wCons (wCl gTupleOf (wCons (wV 7) wNil)) (wCons (wV 5) wNil)))))
def w__law_bad_rules_5_1 : WS :=
  (wFor (wiList (wOp gIx (wV 4) (wV 5))) (wgN 6) (wSeq w__law_bad_rules_5_1_1 (wSeq w__law_bad_rules_5_1_2 (wSeq w__law_bad_rules_5_1_3 w__law_bad_rules_5_1_4))))
def w__law_bad_rules_5 : WS :=
  (wFor (wiRng1 (wCons (wC (.int 7)) wNil)) (wgN 5) w__law_bad_rules_5_1)
def w__law_bad_rules_6 : WS :=
  (wRet 1 (wV 2))
def w__law_bad_rules : WS :=
  (wSeq w__law_bad_rules_1 (wSeq w__law_bad_rules_2 (wSeq w__law_bad_rules_3 (wSeq w__law_bad_rules_4 (wSeq w__law_bad_rules_5 w__law_bad_rules_6)))))
abbrev B8 (t : T) (x : Ru) (x2 x3 x4 x5 x6 x7 : Option T) : Dt := [some t, some x.t, x2, x3, x4, x5, x6, x7]
abbrev o0 : List T := [.int 0, .int (-1), .bl true, .non, .str "1", .tup [.int 1], .lst false [.int 2]]
abbrev o3 : List T := [.int (-1), .int (-9), .bl false, .non, .str "0", .tup [.int 0], .dct false []]
abbrev o4 : List T := [.str "", .str "None", .str "hold", .non, .int 0, .bl true, .tup [.str "none"]]
abbrev o5 : List T := [.int 0, .int 1, .non, .str "no", .str "True", .tup [], .lst false [.bl true]]
abbrev o6 : List T := [.str "", .str "Turn", .str "sl", .non, .int 0, .bl false, .lst false [.str "s"]]
abbrev ods : List T := [.lst false o0, .lst false o0, .lst false o0, .lst false o3, .lst false o4, .lst false o5, .lst false o6]
/-- an odd item for the place -/
def Od (s : Nat) (o : T) : Prop := It 1 800 o ∧ fit s o = false
section
variable {D : EndsD} {n : Nat} {t : T} {x : Ru} {M : Int} {x2 x3 x4 x5 x6 x7 : Option T}
theorem bad_no {v : T} (h : It 2 6000 v) (r : rfault v = some .non) : BadP (.tup [TL.frz (TL.frz v), TL.frz .non]) := ⟨v, .non, by rw [dat_frz h.1, dat_frz h.1]; rfl, h, it_non, r⟩
theorem br1 (hx : x.Ok M) (hM : M ≤ 10 ^ 30) (k : ∀ ps, Bads 10 ps → D.nx (B8 t x (some (.lst true ps)) none x4 x5 x6 x7)) : w__law_bad_rules_1 D (B8 t x x2 x3 x4 x5 x6 x7) := by
  have hI := hx.its hM
  have one : Its' 1 0 110 [T.int 0] := .cons (it_int (i := 0) (by decide)) .nil
  have lT : It 2 6000 x.t := (it_tup hI).mono (by decide) (by decide)
  have vals : ∀ v ∈ [T.non, .int 0, .str "rules", .lst false [], .tup [], .dct false [], .lst false x.l, .tup (cutT x.l none (some 6)), .tup (x.l ++ [.int 0]), .tup [x.t]], It 2 6000 v ∧ rfault v = some .non := by
    intro v hv
    simp only [List.mem_cons, List.not_mem_nil, or_false] at hv
    rcases hv with rfl | rfl | rfl | rfl | rfl | rfl | rfl | rfl | rfl | rfl
    · exact ⟨it_non.mono (by decide) (by decide), rfl⟩
    · exact ⟨(it_int (i := 0) (by decide)).mono (by decide) (by decide), rfl⟩
    · exact ⟨(lit (by decide +kernel)).mono (by decide) (by decide), rfl⟩
    · exact ⟨(it_lst (k := 0) (d := 0) (w := 0) .nil).mono (by decide) (by decide), rfl⟩
    · exact ⟨(it_tup (k := 0) (d := 0) (w := 0) .nil).mono (by decide) (by decide), rfl⟩
    · exact ⟨it_dnil.mono (by decide) (by decide), rfl⟩
    · exact ⟨(it_lst hI).mono (by decide) (by decide), rfl⟩
    · exact ⟨(it_tup (hI.cut none (some 6))).mono (by decide) (by decide), rfl⟩
    · exact ⟨(it_tup (hI.app one)).mono (by decide) (by decide), rfl⟩
    · exact ⟨(it_tup (k := 1) (.cons (it_tup hI) .nil)).mono (by decide) (by decide), rfl⟩
  have hc : closedL x.l = true := rfl
  refine ⟨Nat.zero_le _, Nat.zero_le _, hc, hc, z1, ⟨hc, rfl⟩, show 8 ≤ sizeLine by decide, z1, show 10 ≤ sizeLine by decide, ?_⟩
  refine ⟨fun i acc Δ => i ≤ 10 ∧ Bads i acc ∧ Δ = B8 t x x2 none x4 x5 x6 x7, ⟨by decide, ⟨Nat.le_refl _, fun _ z => nomatch z⟩, rfl⟩, ?_, ?_⟩
  · rintro i y acc Δ hy ⟨hi, ha, rfl⟩
    have hy' : [T.non, .int 0, .str "rules", .lst false [], .tup [], .dct false [], .lst false x.l, .tup (cutT x.l none (some 6)), .tup (x.l ++ [.int 0]), .tup [x.t]][i]? = some y := hy
    have hi' : i < 10 := (List.getElem?_eq_some_iff.mp hy').1
    obtain ⟨h1, h2⟩ := vals y (List.mem_of_getElem? hy')
    exact ⟨z2, zz200 (by have := ha.1; omega), by omega, ha.add (bad_no h1 h2).frz, rfl⟩
  · rintro acc Δ ⟨_, ha, rfl⟩
    exact k _ ha
theorem br234 (k : D.nx (B8 t x x2 x3 (some (.lst true ods)) x5 x6 x7)) : wSeq w__law_bad_rules_2 (wSeq w__law_bad_rules_3 w__law_bad_rules_4) D (B8 t x x2 x3 x4 x5 x6 x7) := by
  refine sq ⟨z1, z1, z7, z1, rfl, by decide, by decide, by decide, z1, z7, z1, ⟨rfl, rfl⟩, by decide, ?_⟩
  show wSeq w__law_bad_rules_3 w__law_bad_rules_4 D (B8 t x x2 x3 (some (.lst true [.lst false o0, .lst false o0, .lst false o0, .lst false o3])) x5 x6 x7)
  refine sq ⟨z1, z7, Nat.zero_le _, z1, z7, z2, ⟨rfl, rfl⟩, by decide, ?_⟩
  show w__law_bad_rules_4 D (B8 t x x2 x3 (some (.lst true [.lst false o0, .lst false o0, .lst false o0, .lst false o3, .lst false o4, .lst false o5])) x5 x6 x7)
  exact ⟨z1, z7, rfl, by decide, k⟩
theorem set7 {s : Nat} (hs : s < 7) (o : T) : x.l.set s o = x.l.take s ++ o :: x.l.drop (s + 1) := by
  match s, hs with
  | 0, _ => rfl
  | 1, _ => rfl
  | 2, _ => rfl
  | 3, _ => rfl
  | 4, _ => rfl
  | 5, _ => rfl
  | 6, _ => rfl
theorem cut7 {s : Nat} (hs : s < 7) (o : T) : cutT (x.l.set s o) none (some ((s : Int) + 1)) ++ (List.replicate ((6 : Int) - (s : Int)).toNat [T.non]).flatten = x.l.take s ++ o :: List.replicate (6 - s) T.non := by
  match s, hs with
  | 0, _ => rfl
  | 1, _ => rfl
  | 2, _ => rfl
  | 3, _ => rfl
  | 4, _ => rfl
  | 5, _ => rfl
  | 6, _ => rfl
theorem drop7 {s : Nat} (hs : s < 7) : (x.l.drop (s + 1)).length = 6 - s := by
  rw [List.length_drop]
  show 7 - (s + 1) = _
  omega
theorem spot_bad (hx : x.Ok M) (hM : M ≤ 10 ^ 30) {s : Nat} (hs : s < 7) {o : T} (ho : Od s o) {rest : List T} (hr : rest.length = 6 - s) (hI : ∀ z ∈ rest, It 1 800 z) : BadP (.tup [.tup (x.l.take s ++ o :: rest), .int (s : Nat)]) := by
  have h1 : Its' 7 1 800 (x.l.take s ++ o :: rest) := by
    refine ⟨?_, fun z hz => ?_⟩
    · rw [List.length_append, List.length_cons, List.length_take]
      show min s 7 + (rest.length + 1) ≤ 7
      omega
    · rcases List.mem_append.mp hz with h | h
      · exact ((hx.its hM).2 z (List.mem_of_mem_take h)).mono (by decide) (by decide)
      · rcases List.mem_cons.mp h with rfl | h
        · exact ho.1
        · exact hI z h
  exact ⟨_, _, rfl, (it_tup h1).mono (by decide) (by decide), it_int (by omega), rf_at hx hs ho.2 hr⟩
theorem body5 (hx : x.Ok M) (hM : M ≤ 10 ^ 30) {s m : Nat} (hs : s < 7) {o : T} (ho : Od s o) {ps : List T} (hF : Fo n t) (hn : n < 2 ^ 99) (ha : Bads m ps) (hm : m ≤ 100)
    (k : ∀ t' ps' x7, Fo (n + 1) t' → Bads (m + 1) ps' → D.nx (B8 t' x (some (.lst true ps')) x3 x4 (some (.int (s : Nat))) (some o) x7)) :
    wSeq w__law_bad_rules_5_1_1 (wSeq w__law_bad_rules_5_1_2 (wSeq w__law_bad_rules_5_1_3 w__law_bad_rules_5_1_4)) D (B8 t x (some (.lst true ps)) x3 x4 (some (.int (s : Nat))) (some o) x7) := by
  have od := dat_frz ho.1.1
  refine sq ⟨rfl, ?_⟩
  show wSeq w__law_bad_rules_5_1_2 (wSeq w__law_bad_rules_5_1_3 w__law_bad_rules_5_1_4) D (B8 t x (some (.lst true ps)) x3 x4 (some (.int (s : Nat))) (some o) (some (.lst true x.l)))
  refine sq ⟨rfl, ?_⟩
  have e7 : ixN x.l.length (s : Int) = some s := by
    rw [ixN_at (by omega) (by show (s : Int) < 7; omega)]
    simp
  show (match ixN x.l.length (s : Int) with
    | some m => wSeq w__law_bad_rules_5_1_3 w__law_bad_rules_5_1_4 D (B8 t x (some (.lst true ps)) x3 x4 (some (.int (s : Nat))) (some (frz o)) (some (.lst true (x.l.set m (frz (frz o))))))
    | none => False)
  rw [e7, od, od]
  show wSeq w__law_bad_rules_5_1_3 w__law_bad_rules_5_1_4 D (B8 t x (some (.lst true ps)) x3 x4 (some (.int (s : Nat))) (some o) (some (.lst true (x.l.set s o))))
  -- the value is put behind the others
  have fin : ∀ (t' : T) (rest : List T), Fo (n + 1) t' → rest.length = 6 - s → (∀ z ∈ rest, It 1 800 z) → w__law_bad_rules_5_1_4 D (B8 t' x (some (.lst true ps)) x3 x4 (some (.int (s : Nat))) (some o) (some (.lst true (x.l.take s ++ o :: rest)))) := fun t' rest hF' hr hI => by
    have b := spot_bad hx hM hs ho hr hI
    obtain ⟨v, i, e, hv, hi, _⟩ := id b
    have e2 : frz (T.tup (x.l.take s ++ o :: rest)) = T.tup (x.l.take s ++ o :: rest) := by
      have e1 := b.dat
      simp only [dat, datL, Bool.and_eq_true, Bool.and_true] at e1
      exact dat_frz e1
    have hc : closedL (x.l.take s ++ o :: rest) = true := by
      have e1 := b.dat
      simp only [dat, datL, Bool.and_eq_true, Bool.and_true] at e1
      exact datL_closed _ e1
    have eb : frz (T.tup [frz (T.tup (x.l.take s ++ o :: rest)), frz (frz (T.int (s : Nat)))]) = .tup [.tup (x.l.take s ++ o :: rest), .int (s : Nat)] := by
      rw [e2]
      exact dat_frz b.dat
    have h2 := ha.add b
    refine ⟨hc, z2, ha.cl, zz200 (by have := ha.1; omega), ?_⟩
    have q := k t' _ (some (.lst true (x.l.take s ++ o :: rest))) hF' h2
    rw [← eb] at q
    exact q
  refine sq ⟨rfl, at_spin hF (by omega) (by decide) (by decide) fun r t2 r0 r1 hF2 => ite_of (fun _ => ?_) fun _ => ?_⟩
  · have hIs : closedL (x.l.set s o) = true := by
      have b := spot_bad hx hM hs ho (drop7 hs) fun z hz => ((hx.its hM).2 z (List.mem_of_mem_drop hz)).mono (by decide) (by decide)
      have e1 := b.dat
      simp only [dat, datL, Bool.and_eq_true, Bool.and_true] at e1
      rw [set7 hs]
      exact datL_closed _ e1
    have hlen : (x.l.set s o).length = 7 := by rw [List.length_set]; rfl
    have hcut : closedL (cutT (x.l.set s o) none (some ((s : Int) + 1))) = true := (closedL_iff _).mpr fun z hz => (closedL_iff _).mp hIs z (List.mem_of_mem_drop (List.mem_of_mem_take hz))
    have hcl : (cutT (x.l.set s o) none (some ((s : Int) + 1))).length ≤ 7 := by
      unfold cutT
      rw [List.length_take, List.length_drop, hlen]; omega
    have hrep : closedL (List.replicate ((6 : Int) - (s : Int)).toNat [T.non]).flatten = true := (closedL_iff _).mpr fun z hz => by
      obtain ⟨l, h1, h2⟩ := List.mem_flatten.mp hz
      rw [(List.mem_replicate.mp h1).2] at h2
      rw [List.mem_singleton.mp h2]; rfl
    have hrl : (List.replicate ((6 : Int) - (s : Int)).toNat [T.non]).flatten.length ≤ 6 := by simp
    refine ⟨hIs, z1, rfl, by omega, by omega, ?_, ⟨hcut, hrep⟩, ?_, ?_⟩
    · show 1 * ((6 : Int) - (s : Int)).toNat ≤ sizeLine
      rw [sizeLine_eq]; omega
    · show (cutT (x.l.set s o) none (some ((s : Int) + 1))).length + (List.replicate ((6 : Int) - (s : Int)).toNat [T.non]).flatten.length ≤ sizeLine
      rw [sizeLine_eq]; omega
    · show w__law_bad_rules_5_1_4 D (B8 t2 x (some (.lst true ps)) x3 x4 (some (.int (s : Nat))) (some o) (some (.lst true (cutT (x.l.set s o) none (some ((s : Int) + 1)) ++ (List.replicate ((6 : Int) - (s : Int)).toNat [T.non]).flatten))))
      rw [cut7 hs]
      exact fin t2 _ hF2 (List.length_replicate ..) fun z hz => by rw [(List.mem_replicate.mp hz).2]; exact it_non.mono (by decide) (by decide)
  · show w__law_bad_rules_5_1_4 D (B8 t2 x (some (.lst true ps)) x3 x4 (some (.int (s : Nat))) (some o) (some (.lst true (x.l.set s o))))
    rw [set7 hs]
    exact fin t2 _ hF2 (drop7 hs) fun z hz => ((hx.its hM).2 z (List.mem_of_mem_drop hz)).mono (by decide) (by decide)
theorem loop5 (hx : x.Ok M) (hM : M ≤ 10 ^ 30) {s m : Nat} (hs : s < 7) {os : List T} (hat : atI ods (s : Int) = some (.lst false os)) (hos : ∀ o ∈ os, Od s o) (hl : os.length = 7) {ps : List T} (hF : Fo n t) (hn : n < 2 ^ 98 + 200) (ha : Bads m ps) (hm : m ≤ 60)
    (k : ∀ t' ps' x6 x7, Fo (n + 7) t' → Bads (m + 7) ps' → D.nx (B8 t' x (some (.lst true ps')) x3 (some (.lst true ods)) (some (.int (s : Nat))) x6 x7)) :
    w__law_bad_rules_5_1 D (B8 t x (some (.lst true ps)) x3 (some (.lst true ods)) (some (.int (s : Nat))) x6 x7) := by
  have hd : datL os = true := (datL_iff os).mpr fun o ho => (hos o ho).1.1
  have hc : closed (T.lst false os) = true := dat_closed _ (by simp only [dat, hd]; rfl)
  show (match atI ods (s : Int) with
    | some t1 => closed t1 = true ∧ wTake (.val t1) (B8 t x (some (.lst true ps)) x3 (some (.lst true ods)) (some (.int (s : Nat))) x6 x7) _
    | none => False)
  rw [hat]
  refine ⟨hc, ?_⟩
  refine ⟨fun i Δ => i ≤ 7 ∧ ∃ t ps x6 x7, Fo (n + i) t ∧ Bads (m + i) ps ∧ Δ = B8 t x (some (.lst true ps)) x3 (some (.lst true ods)) (some (.int (s : Nat))) x6 x7, ⟨by decide, t, ps, _, _, hF, ha, rfl⟩, ?_, ?_⟩
  · rintro i y Δ hy ⟨hi, t1, ps1, y6, y7, hF1, ha1, rfl⟩
    have hy' : (frzL os)[i]? = some y := hy
    rw [datL_frz hd] at hy'
    have hi' : i < 7 := by rw [← hl]; exact (List.getElem?_eq_some_iff.mp hy').1
    have ho := hos y (List.mem_of_getElem? hy')
    exact body5 hx hM hs ho hF1 (by omega) ha1 (by omega) fun t2 ps2 z7 hF2 ha2 => ⟨by omega, t2, ps2, _, _, hF2, ha2, rfl⟩
  · rintro Δ ⟨_, t1, ps1, y6, y7, hF1, ha1, rfl⟩
    have e : (frzL os).length = 7 := by rw [datL_frz hd, hl]
    have hF2 : Fo (n + (frzL os).length) t1 := hF1
    have ha2 : Bads (m + (frzL os).length) ps1 := ha1
    rw [e] at hF2 ha2
    exact k _ _ _ _ hF2 ha2
def itB (x : T) : Bool := dat x && dtR x && (toR x).showable && PyData.leavesShort 600 (toR x) && decide ((toR x).depth ≤ 1) && decide ((toR x).weight ≤ 800)
theorem od_of {s : Nat} {os : List T} (h : os.all (fun o => itB o && !fit s o) = true) : ∀ o ∈ os, Od s o := fun o ho => by
  have e := List.all_eq_true.mp h o ho
  simp only [itB, Bool.and_eq_true, decide_eq_true_eq, Bool.not_eq_true'] at e
  obtain ⟨⟨⟨⟨⟨⟨h1, h2⟩, h3⟩, h4⟩, h5⟩, h6⟩, h7⟩ := e
  exact ⟨⟨h1, h2, h3, h4, h5, h6⟩, h7⟩
theorem ods_at : ∀ s : Nat, s < 7 → ∃ os, atI ods (s : Int) = some (.lst false os) ∧ (∀ o ∈ os, Od s o) ∧ os.length = 7
  | 0, _ => ⟨o0, rfl, od_of (by decide +kernel), rfl⟩
  | 1, _ => ⟨o0, rfl, od_of (by decide +kernel), rfl⟩
  | 2, _ => ⟨o0, rfl, od_of (by decide +kernel), rfl⟩
  | 3, _ => ⟨o3, rfl, od_of (by decide +kernel), rfl⟩
  | 4, _ => ⟨o4, rfl, od_of (by decide +kernel), rfl⟩
  | 5, _ => ⟨o5, rfl, od_of (by decide +kernel), rfl⟩
  | 6, _ => ⟨o6, rfl, od_of (by decide +kernel), rfl⟩
theorem br5 (hx : x.Ok M) (hM : M ≤ 10 ^ 30) {ps : List T} (hF : Fo n t) (hn : n < 2 ^ 98) (ha : Bads 10 ps)
    (k : ∀ t' ps' x5 x6 x7, Fo (n + 50) t' → Bads 60 ps' → D.nx (B8 t' x (some (.lst true ps')) x3 (some (.lst true ods)) x5 x6 x7)) :
    w__law_bad_rules_5 D (B8 t x (some (.lst true ps)) x3 (some (.lst true ods)) x5 x6 x7) := by
  refine ⟨by decide, by decide, fun i Δ => i ≤ 7 ∧ ∃ t ps x5 x6 x7, Fo (n + 7 * i) t ∧ Bads (10 + 7 * i) ps ∧ Δ = B8 t x (some (.lst true ps)) x3 (some (.lst true ods)) x5 x6 x7, ⟨by decide, t, ps, _, _, _, hF, ha, rfl⟩, ?_, ?_⟩
  · rintro i y Δ hy ⟨hi, t1, ps1, y5, y6, y7, hF1, ha1, rfl⟩
    obtain ⟨hi', rfl⟩ := rng_at hy
    have hi7 : i < 7 := hi'
    obtain ⟨os, h1, h2, h3⟩ := ods_at i hi7
    exact loop5 hx hM hi7 h1 h2 h3 hF1 (by omega) ha1 (by omega) fun t2 ps2 z6 z7 hF2 ha2 => ⟨by omega, t2, ps2, _, _, _, hF2.mono (by omega), ha2.mono (by omega), rfl⟩
  · rintro Δ ⟨_, t1, ps1, y5, y6, y7, hF1, ha1, rfl⟩
    exact k _ _ _ _ _ (hF1.mono (by show n + 7 * 7 ≤ _; omega)) (ha1.mono (by show 10 + 7 * 7 ≤ _; omega))
end
theorem sq23b {a b c d : WS} {D : EndsD} {Δ : Dt} (h : wSeq a (wSeq b c) { D with nx := d D } Δ) : wSeq a (wSeq b (wSeq c d)) D Δ := h
theorem v__law_bad_rules : ∀ ts Qf, S__law_bad_rules ts Qf → w__law_bad_rules (endsD 1 ts Qf) (startD N__law_bad_rules 1 ts) := by
  rintro ts Qf ⟨t, x, M, n, rfl, hF, hn, hx, hM, q⟩
  have fin : ∀ ps t' Δ, Bads 60 ps → Fo (n + 50) t' → Δ[0]? = some (some t') → (endsD 1 [t, x.t] Qf).rt (.lst true ps) Δ := fun ps t' Δ h1 h2 h3 => by
    have z := q ps t' h1 h2
    show look Δ 0 fun u => Qf (.ret (.lst true ps)) ([u] ++ [x.t])
    unfold look
    rw [h3]; exact z
  show w__law_bad_rules (endsD 1 [t, x.t] Qf) (B8 t x none none none none none none)
  revert fin
  generalize endsD 1 [t, x.t] Qf = D
  intro fin
  refine sq (br1 hx hM fun ps h1 => ?_)
  dsimp only
  refine sq23b (br234 ?_)
  dsimp only
  refine sq (br5 hx hM hF hn h1 fun t2 ps2 y5 y6 y7 hF2 h2 => ?_)
  exact fin _ t2 _ h2 hF2 rfl
end TL
set_option maxRecDepth 100000
set_option maxHeartbeats 1000000
namespace TL
open PySem PySem.Spec PyProof.Rows L2
inductive Res : Int → T → T → T → List T → Prop
  | bad {d : Int} {r k v i : T} (hd : d = 0 ∨ d = 1 ∨ d = 2) (h : Two r k (some i)) : Res d r k v [.str "rules", i]
  | ok {d : Int} {r k v : T} (hd : d = 0 ∨ d = 1 ∨ d = 2) (h : Two r k none) (h3 : d = 2 → Val3 v) : Res d r k v []
theorem Two.flat {r k i : T} (h : Two r k (some i)) : closed i = true ∧ flT i = true := by
  cases h with
  | one h => exact rfault_flat _ _ h
  | two _ _ h => exact rfault_flat _ _ h
def S__law_raised : FS := fun ts Q => ∃ (d : Int) (r k v0 v : T) (o : List T), ts = [.int d, r, k, v0] ∧ frz v0 = v ∧ It 2 6000 r ∧ It 2 6000 k ∧ It 2 6000 v ∧ Res d r k v o ∧ Q (.ret (.lst true o)) [.int d, r, k, v]
theorem l__law_raised : ∀ ts Q, S__law_raised ts Q → ts.length = 4 := fun ts Q ⟨_, _, _, _, _, _, e, _⟩ => by rw [e]; rfl
abbrev N__law_raised : List Str := ["door", "one", "other", "value", "kept", "told", "e"]
def w__law_raised_1 : WS :=
  (wPar 4 5 (wCons (wCl gReprD (wCons (wLst (wCons (wV 1) (wCons (wV 2) (wCons (wV 3) wNil)))) wNil)) (wCons (wLst wNil) wNil)))
def w__law_raised_2_t1_1 : WS :=
  (wCallX S_parting_record [] (wCons (wV 1) (wCons (wV 2) wNil)))
def w__law_raised_2_t1_e1_1 : WS :=
  (wCallX S_fewest_parting [] (wCons (wV 1) (wCons (wV 2) wNil)))
def w__law_raised_2_t1_e1_e1 : WS :=
  (wCallX S_shows_parting [] (wCons (wV 1) (wCons (wV 2) (wCons (wV 3) wNil))))
def w__law_raised_2_t1_e1 : WS :=
  (wIfS (wTest (wOp (gEq false) (wV 0) (wC (.int 1)))) w__law_raised_2_t1_e1_1 w__law_raised_2_t1_e1_e1)
def w__law_raised_2_t1 : WS :=
  (wIfS (wTest (wOp (gEq false) (wV 0) (wC (.int 0)))) w__law_raised_2_t1_1 w__law_raised_2_t1_e1)
def w__law_raised_2 : WS :=
  (wTry ["InvalidRules"] 6 w__law_raised_2_t1 fun ea ey eo => (wAsg (wCall (S__law_told ea ey eo) (wCons (wV 6) wNil)) (wgN 5)))
def w__law_raised_3 : WS :=
  (wRet 0 (wIf (wTest (wOp (gEq false) (wCl gReprD (wCons (wLst (wCons (wV 1) (wCons (wV 2) (wCons (wV 3) wNil)))) wNil)) (wV 4))) (wV 5) (wLst (wCons (wC (.str "changed")) wNil))))
def w__law_raised : WS :=
  (wSeq w__law_raised_1 (wSeq w__law_raised_2 w__law_raised_3))
section
variable {D : EndsD} {d : Int} {r k v i : T} {o : List T} {x4 x5 : Option T}
abbrev B7r (d : Int) (r k v : T) (x4 x5 x6 : Option T) : Dt := [some (.int d), some r, some k, some v, x4, x5, x6]
theorem suite_rules {a : Addr} {od : Option Addr} (hi : closed i = true) (q : D.nx (B7r d r k v x4 (some (.lst true [.str "rules", i])) none)) :
    (wAsg (wCall (S__law_told a "InvalidRules" od) (wCons (wV 6) wNil)) (wgN 5)) (goneD 6 D) (B7r d r k v x4 x5 (some (.exc a "InvalidRules" od [(("index" : Str), i)]))) :=
  ⟨rfl, _, rfl, .inl ⟨rfl, i, rfl, hi, q⟩⟩
theorem in1a : ("InvalidRules" : Str) ∈ (["InvalidRules"] : List Str) := by decide +kernel
theorem rz2 (hr : dat r = true) (hk : dat k = true) (hv : dat v = true) (h : Res d r k v o) (q : D.nx (B7r d r k v x4 (some (.lst true o)) none)) : w__law_raised_2 D (B7r d r k v x4 (some (.lst true [])) none) := by
  cases h with
  | @bad i hd h =>
    have hi := h.flat.1
    rcases hd with rfl | rfl | rfl
    · exact ⟨rfl, r, k, _, rfl, hr, hk, h, fun j e => (by cases e; exact ⟨in1a, fun a od => suite_rules hi q⟩), fun e => by cases e⟩
    · exact ⟨rfl, r, k, _, rfl, hr, hk, h, fun j e => (by cases e; exact ⟨in1a, fun a od => suite_rules hi q⟩), fun e => by cases e⟩
    · exact ⟨rfl, r, k, v, _, rfl, hr, hk, hv, h, fun j e => (by cases e; exact ⟨in1a, fun a od => suite_rules hi q⟩), fun e => by cases e⟩
  | ok hd h h3 =>
    rcases hd with rfl | rfl | rfl
    · exact ⟨rfl, r, k, _, rfl, hr, hk, h, fun j e => (by cases e), fun _ => q⟩
    · exact ⟨rfl, r, k, _, rfl, hr, hk, h, fun j e => (by cases e), fun _ => q⟩
    · exact ⟨rfl, r, k, v, _, rfl, hr, hk, hv, h, fun j e => (by cases e), fun _ => ⟨h3 rfl, fun b => q⟩⟩
theorem ok3 (hr : It 2 6000 r) (hk : It 2 6000 k) (hv : It 2 6000 v) : okR (.lst true [r, k, v]) = true := by
  have h : It 3 18003 (.lst false [r, k, v]) := it_lst (k := 3) (w := 6000) (.cons hr (.cons hk (.cons hv .nil)))
  exact h.ok (by decide) (by decide)
theorem rz1 (hr : It 2 6000 r) (hk : It 2 6000 k) (hv : It 2 6000 v) (q : D.nx (B7r d r k v (some (.str (shR (.lst true [r, k, v])))) (some (.lst true [])) none)) : w__law_raised_1 D (B7r d r k v none none none) := by
  have er := dat_frz hr.1
  have ek := dat_frz hk.1
  have ev := dat_frz hv.1
  refine ⟨z3, ?_, Nat.zero_le _, ?_⟩
  · simp only [er, ek, ev]; exact ok3 hr hk hv
  · simp only [er, ek, ev]; exact q
theorem rz3 (hr : It 2 6000 r) (hk : It 2 6000 k) (hv : It 2 6000 v) (q : ∀ Δ, D.rt (.lst true o) Δ) : w__law_raised_3 D (B7r d r k v (some (.str (shR (.lst true [r, k, v])))) (some (.lst true o)) none) := by
  have er := dat_frz hr.1
  have ek := dat_frz hk.1
  have ev := dat_frz hv.1
  refine ⟨z3, ?_, ?_⟩
  · simp only [er, ek, ev]; exact ok3 hr hk hv
  · simp only [er, ek, ev]
    refine ite_yes (c := decide (shR (.lst true [r, k, v]) = shR (.lst true [r, k, v]))) (decide_eq_true rfl) ?_
    exact q _
end
theorem v__law_raised : ∀ ts Qf, S__law_raised ts Qf → w__law_raised (endsD 0 ts Qf) (startD N__law_raised 0 ts) := by
  rintro ts Qf ⟨d, r, k, v0, v, o, rfl, e0, hr, hk, hv, hR, q⟩
  show w__law_raised (endsD 0 [.int d, r, k, v0] Qf) [some (.int d), some (frz r), some (frz k), some (frz v0), none, none, none]
  have fin : ∀ Δ, (endsD 0 [.int d, r, k, v0] Qf).rt (.lst true o) Δ := fun Δ => by
    show Qf (.ret (.lst true o)) [.int d, frz r, frz k, frz v0]
    rw [dat_frz hr.1, dat_frz hk.1, e0]; exact q
  rw [dat_frz hr.1, dat_frz hk.1, e0]
  revert fin
  generalize endsD 0 [.int d, r, k, v0] Qf = D
  intro fin
  refine sq (rz1 hr hk hv ?_)
  dsimp only
  refine sq (rz2 hr.1 hk.1 hv.1 hR ?_)
  dsimp only
  exact rz3 hr hk hv fin
end TL
set_option maxRecDepth 100000
set_option maxHeartbeats 1000000
namespace TL
open PySem PySem.Spec PyProof.Rows L2
def S__law_right : FS := fun ts Q => ∃ (t : T) (x : Ru) (M : Int) (n : Nat), ts = [t, x.t] ∧ Fo n t ∧ n < 2 ^ 97 ∧ x.Ok M ∧ M ≤ 10 ^ 30 ∧ ∀ t', Q (.ret (.bl true)) [t', x.t]
theorem l__law_right : ∀ ts Q, S__law_right ts Q → ts.length = 2 := fun ts Q ⟨_, _, _, _, e, _⟩ => by rw [e]; rfl
theorem at_bads {t : T} {x : Ru} {M : Int} {n : Nat} {Q : Rs → List T → Prop} (h : Fo n t) (hn : n < 2 ^ 98) (hx : x.Ok M) (hM : M ≤ 10 ^ 30) (q : ∀ ps t', Bads 60 ps → Fo (n + 50) t' → Q (.ret (.lst true ps)) [t', x.t]) : S__law_bad_rules [t, x.t] Q := ⟨t, x, M, n, rfl, h, hn, hx, hM, q⟩
theorem at_raised {d : Int} {r k v0 v : T} {o : List T} {Q : Rs → List T → Prop} (e : frz v0 = v) (hr : It 2 6000 r) (hk : It 2 6000 k) (hv : It 2 6000 v) (h : Res d r k v o) (q : Q (.ret (.lst true o)) [.int d, r, k, v]) : S__law_raised [.int d, r, k, v0] Q := ⟨d, r, k, v0, v, o, rfl, e, hr, hk, hv, h, q⟩
theorem Ru.Ok.it {x : Ru} {M : Int} (h : x.Ok M) (hM : M ≤ 10 ^ 30) : It 2 6000 x.t := (it_tup (h.its hM)).mono (by decide) (by decide)
abbrev N__law_right : List Str := ["reel", "rules", "bad", "index_here", "due", "more", "door", "values", "value"]
def w__law_right_1_1 : WS :=
  (wAsg (wTup (wCons (wCl gReprD (wCons (wOp gMulA (wLst (wCons (wLst (wCons (wC (.str "rules")) (wCons (wV 3) wNil))) wNil)) (wC (.int 3))) wNil)) (wCons (wOp gIx (wLst (wCons (wV 1) (wCons (wC .non) (wCons (wTup wNil) wNil)))) (wCall S__law_spin (wCons (wV 0) (wCons (wC (.int 3)) wNil)))) wNil))) (wgTup 2 (wgCons (wgN 4) (wgCons (wgN 5) wgNil))))
def w__law_right_1_2_1 : WS :=
  (wRet 1 (wC (.bl false)))
def w__law_right_1_2 : WS :=
  (wIfS (wTest (wOp (gEq true) (wCl gReprD (wCons (wLc (wiRng1 (wCons (wC (.int 3)) wNil)) (wgN 6) wYes (wCall S__law_raised (wCons (wV 6) (wCons (wV 2) (wCons (wV 5) (wCons (wC .non) wNil))))) [6]) wNil)) (wV 4))) w__law_right_1_2_1 wNext)
def w__law_right_1_3_1 : WS :=
  (wRet 1 (wC (.bl false)))
def w__law_right_1_3 : WS :=
  (wIfS (wTest (wOp (gEq true) (wCl gReprD (wCons (wLc (wiRng1 (wCons (wC (.int 3)) wNil)) (wgN 6) wYes (wCall S__law_raised (wCons (wV 6) (wCons (wV 1) (wCons (wV 2) (wCons (wLst wNil) wNil))))) [6]) wNil)) (wV 4))) w__law_right_1_3_1 wNext)
def w__law_right_1 : WS :=
  (wFor (wiList (wCall S__law_bad_rules (wCons (wV 0) (wCons (wV 1) wNil)))) (wgTup 2 (wgCons (wgN 2) (wgCons (wgN 3) wgNil))) (wSeq w__law_right_1_1 (wSeq w__law_right_1_2 w__law_right_1_3)))
def w__law_right_2 : WS :=
  (wAsg (wLst (wCons (wC .non) (wCons (wC (.int 0)) (wCons (wC (.str "")) (wCons (wLst wNil) (wCons (wTup wNil) (wCons wDNew (wCons (wLst (wCons (wC .non) wNil)) (wCons (wLst (wCons (wTup (wCons (wC (.int 0)) (wCons (wC (.str "s")) (wCons (wC (.bl true)) wNil)))) wNil)) (wCons (wLst (wCons (wTup (wCons (wC (.int 0)) (wCons (wC (.str "s")) (wCons (wC (.bl true)) wNil)))) (wCons (wTup (wCons (wC (.int 0)) (wCons (wC (.str "s")) (wCons (wC (.bl false)) wNil)))) wNil))) (wCons (wLst (wCons (wLst wNil) wNil)) (wCons (wC (.bl true)) (wCons (wV 1) wNil))))))))))))) (wgN 7))
def w__law_right_3_1_1 : WS :=
  (wRet 1 (wC (.bl false)))
def w__law_right_3_1 : WS :=
  (wIfS (wTest (wOp (gNilL true) (wCall S__law_raised (wCons (wC (.int 2)) (wCons (wV 1) (wCons (wV 1) (wCons (wV 8) wNil))))) (wLst wNil))) w__law_right_3_1_1 wNext)
def w__law_right_3 : WS :=
  (wFor (wiList (wV 7)) (wgN 8) w__law_right_3_1)
def w__law_right_4 : WS :=
  (wRet 1 (wOp (gEq false) (wLc (wiRng1 (wCons (wC (.int 3)) wNil)) (wgN 6) wYes (wCall S__law_raised (wCons (wV 6) (wCons (wV 1) (wCons (wV 1) (wCons (wC .non) wNil))))) [6]) (wOp gMulA (wLst (wCons (wLst wNil) wNil)) (wC (.int 3)))))
def w__law_right : WS :=
  (wSeq w__law_right_1 (wSeq w__law_right_2 (wSeq w__law_right_3 w__law_right_4)))
abbrev C9 (t : T) (x : Ru) (x2 x3 x4 x5 x6 x7 x8 : Option T) : Dt := [some t, some x.t, x2, x3, x4, x5, x6, x7, x8]
abbrev Er (i : T) : T := .lst false [.str "rules", i]
abbrev E3 (i : T) : T := .lst true [Er i, Er i, Er i]
theorem it_er {i : T} (hi : It 0 110 i) : It 1 222 (Er i) := it_lst (k := 2) (w := 110) (.cons (lit (by decide +kernel)) (.cons hi .nil))
theorem er_ok {i : T} (hi : It 0 110 i) : okR (E3 i) = true := by
  have h := it_er hi
  have h6 : It 2 669 (.lst false [Er i, Er i, Er i]) := it_lst (k := 3) (w := 222) (.cons h (.cons h (.cons h .nil)))
  exact h6.ok (by decide) (by decide)
theorem it_nil : It 2 6000 (.lst false []) := (it_lst (k := 0) (w := 0) (xs := []) .nil : It 1 0 (.lst false [])).mono (by decide) (by decide)
section
variable {D : EndsD} {n : Nat} {t v i : T} {x : Ru} {M : Int} {x2 x3 x4 x5 x6 x7 x8 : Option T}
theorem rr11 (hx : x.Ok M) (hM : M ≤ 10 ^ 30) (hF : Fo n t) (hn : n < 2 ^ 99) (hi : It 0 110 i) (k : ∀ t' m, Fo (n + 1) t' → It 2 6000 m → D.nx (C9 t' x x2 (some i) (some (.str (shR (E3 i)))) (some m) x6 x7 x8)) : w__law_right_1_1 D (C9 t x x2 (some i) x4 x5 x6 x7 x8) := by
  have ei := dat_frz hi.1
  have ci := dat_closed _ hi.1
  have h3 : Its' 3 2 6000 [x.t, .non, .tup []] := .cons (hx.it hM) (.cons (it_non.mono (by decide) (by decide)) (.cons ((it_tup (k := 0) (w := 0) (xs := []) .nil : It 1 0 (.tup [])).mono (by decide) (by decide)) .nil))
  refine ⟨z2, z1, ?_, by decide, by decide, show 1 * 3 ≤ sizeLine by decide, ?_, ?_⟩
  · simp only [ei, frz, frzL, closedL, closed, ci]; rfl
  · simp only [ei, frz, frzL]; exact er_ok hi
  · simp only [ei, frz, frzL]
    refine ⟨Nat.zero_le _, z3, rfl, at_spin hF (by omega) (by decide) (by decide) fun r t2 r0 r1 hF2 => ?_⟩
    dsimp only [onV, onVs, look, List.getElem?_cons_zero, List.getElem?_cons_succ, List.set_cons_zero, List.set_cons_succ, wOp, wV, wC, wUn, wCl, wCons, wNil, wTest, backs]
    refine ix_it h3 r0 r1 fun z hz => ?_
    exact ⟨z2, rfl, by rw [dat_frz hz.1]; exact k t2 z hF2 hz⟩
theorem rr12 (hF : Fo n t) {m : T} (hm : It 2 6000 m) (hv : It 2 6000 v) (hr : rfault v = some i) (hi : It 0 110 i) (k : D.nx (C9 t x (some v) x3 (some (.str (shR (E3 i)))) (some m) none x7 x8)) : w__law_right_1_2 D (C9 t x (some v) x3 (some (.str (shR (E3 i)))) (some m) x6 x7 x8) := by
  have ei := dat_frz hi.1
  refine ⟨by decide, by decide, fun j acc Δ => j ≤ 3 ∧ acc = List.replicate j (Er i) ∧ Δ = C9 t x (some v) x3 (some (.str (shR (E3 i)))) (some m) none x7 x8, ⟨by decide, rfl, rfl⟩, ?_, ?_⟩
  · rintro j y acc Δ hy ⟨hj, rfl, rfl⟩
    obtain ⟨hj', rfl⟩ := rng_at hy
    have hj3 : j < 3 := hj'
    refine ⟨rfl, at_raised rfl hv hm (it_non.mono (by decide) (by decide)) (.bad (by omega) (.one hr)) ⟨zz200 (by simp; omega), by omega, ?_, rfl⟩⟩
    have e : frz (T.lst true [.str "rules", i]) = Er i := by simp only [frz, frzL]; rw [ei]
    rw [e, List.replicate_succ']
  · rintro acc Δ ⟨_, rfl, rfl⟩
    refine ⟨er_ok hi, ?_⟩
    refine ite_no (c := !decide (shR (E3 i) = shR (E3 i))) (by simp) ?_
    exact k
theorem rr13 (hx : x.Ok M) (hM : M ≤ 10 ^ 30) (hv : It 2 6000 v) (hr : rfault v = some i) (hi : It 0 110 i) (k : D.nx (C9 t x (some v) x3 (some (.str (shR (E3 i)))) x5 none x7 x8)) : w__law_right_1_3 D (C9 t x (some v) x3 (some (.str (shR (E3 i)))) x5 none x7 x8) := by
  have ei := dat_frz hi.1
  refine ⟨by decide, by decide, fun j acc Δ => j ≤ 3 ∧ acc = List.replicate j (Er i) ∧ Δ = C9 t x (some v) x3 (some (.str (shR (E3 i)))) x5 none x7 x8, ⟨by decide, rfl, rfl⟩, ?_, ?_⟩
  · rintro j y acc Δ hy ⟨hj, rfl, rfl⟩
    obtain ⟨hj', rfl⟩ := rng_at hy
    have hj3 : j < 3 := hj'
    refine ⟨Nat.zero_le _, rfl, at_raised rfl (hx.it hM) hv it_nil (.bad (by omega) (.two rfl hx hr)) ⟨zz200 (by simp; omega), by omega, ?_, rfl⟩⟩
    have e : frz (T.lst true [.str "rules", i]) = Er i := by simp only [frz, frzL]; rw [ei]
    rw [e, List.replicate_succ']
  · rintro acc Δ ⟨_, rfl, rfl⟩
    refine ⟨er_ok hi, ?_⟩
    refine ite_no (c := !decide (shR (E3 i) = shR (E3 i))) (by simp) ?_
    exact k
theorem rr1 (hx : x.Ok M) (hM : M ≤ 10 ^ 30) (hF : Fo n t) (hn : n < 2 ^ 97) (k : ∀ t' x2 x3 x4 x5, D.nx (C9 t' x x2 x3 x4 x5 none x7 x8)) : w__law_right_1 D (C9 t x x2 x3 x4 x5 none x7 x8) := by
  refine ⟨rfl, at_bads hF (by omega) hx hM fun ps t1 hb hF1 => ?_⟩
  have ed : frzL ps = ps := datL_frz ((datL_iff ps).mpr fun p hp => (hb.2 p hp).dat)
  refine ⟨fun j Δ => j ≤ 60 ∧ ∃ t x2 x3 x4 x5, Fo (n + 50 + 5 * j) t ∧ Δ = C9 t x x2 x3 x4 x5 none x7 x8, ⟨by decide, t1, _, _, _, _, hF1, rfl⟩, ?_, ?_⟩
  · rintro j y Δ hy ⟨hj, t2, y2, y3, y4, y5, hF2, rfl⟩
    have hy' : (frzL ps)[j]? = some y := hy
    rw [ed] at hy'
    obtain ⟨v, i, rfl, hv, hi, hr⟩ := hb.2 y (List.mem_of_getElem? hy')
    have hj' : j < ps.length := (List.getElem?_eq_some_iff.mp hy').1
    have h60 := hb.1
    refine ⟨rfl, ?_⟩
    show wSeq w__law_right_1_1 (wSeq w__law_right_1_2 w__law_right_1_3) _ (C9 t2 x (some v) (some i) y4 y5 none x7 x8)
    refine sq (rr11 hx hM hF2 (by omega) hi fun t3 m hF3 hm => ?_)
    dsimp only
    refine sq (rr12 hF3 hm hv hr hi ?_)
    dsimp only
    exact rr13 hx hM hv hr hi ⟨by omega, t3, _, _, _, _, hF3.mono (by omega), rfl⟩
  · rintro Δ ⟨hj, t2, y2, y3, y4, y5, hF2, rfl⟩
    exact k _ _ _ _ _
abbrev evA : T := .tup [.int 0, .str "s", .bl true]
abbrev evZ : T := .tup [.int 0, .str "s", .bl false]
abbrev valsT (x : Ru) : List T := [.non, .int 0, .str "", .lst false [], .tup [], .dct false [], .lst false [.non], .lst false [evA], .lst false [evA, evZ], .lst false [.lst false []], .bl true, x.t]
theorem rr2 (k : D.nx (C9 t x x2 x3 x4 x5 none (some (.lst true (valsT x))) x8)) : w__law_right_2 D (C9 t x x2 x3 x4 x5 none x7 x8) :=
  ⟨Nat.zero_le _, Nat.zero_le _, z1, z3, z1, z3, z3, z2, Nat.zero_le _, z1, show 12 ≤ sizeLine by decide, k⟩
theorem rr3 (hx : x.Ok M) (hM : M ≤ 10 ^ 30) (k : ∀ x7 x8, D.nx (C9 t x x2 x3 x4 x5 none x7 x8)) : w__law_right_3 D (C9 t x x2 x3 x4 x5 none (some (.lst true (valsT x))) x8) := by
  have ie : ∀ b, It 1 333 (.tup [T.int 0, .str "s", .bl b]) := fun b => it_tup (k := 3) (w := 110) (.cons (it_int (by decide)) (.cons (lit (by decide +kernel)) (.cons (it_bl b) .nil)))
  have vals : ∀ v ∈ valsT x, It 2 6000 v ∧ Val3 v := by
    intro v hv
    simp only [List.mem_cons, List.not_mem_nil, or_false] at hv
    rcases hv with rfl | rfl | rfl | rfl | rfl | rfl | rfl | rfl | rfl | rfl | rfl | rfl
    · exact ⟨it_non.mono (by decide) (by decide), .inl ⟨_, _, rfl⟩⟩
    · exact ⟨(it_int (by decide)).mono (by decide) (by decide), .inl ⟨_, _, rfl⟩⟩
    · exact ⟨(lit (by decide +kernel)).mono (by decide) (by decide), .inl ⟨_, _, rfl⟩⟩
    · exact ⟨it_nil, .inr ⟨[], [], rfl, .inl ⟨rfl, rfl⟩⟩⟩
    · exact ⟨(it_tup (k := 0) (w := 0) (xs := []) .nil : It 1 0 (.tup [])).mono (by decide) (by decide), .inl ⟨_, _, rfl⟩⟩
    · exact ⟨it_dnil.mono (by decide) (by decide), .inl ⟨_, _, rfl⟩⟩
    · exact ⟨(it_lst (k := 1) (w := 110) (.cons it_non .nil)).mono (by decide) (by decide), .inl ⟨.int 0, [], rfl⟩⟩
    · exact ⟨(it_lst (k := 1) (w := 333) (.cons (ie _) .nil)).mono (by decide) (by decide), .inl ⟨.int 1, [], rfl⟩⟩
    · exact ⟨(it_lst (k := 2) (w := 333) (.cons (ie _) (.cons (ie _) .nil))).mono (by decide) (by decide), .inr ⟨touchE, [oneR], rfl, .inr ⟨rfl, rfl⟩⟩⟩
    · exact ⟨(it_lst (k := 1) (w := 0) (.cons (it_lst (k := 0) (w := 0) (xs := []) .nil : It 1 0 (.lst false [])) .nil)).mono (by decide) (by decide), .inl ⟨.int 0, [], rfl⟩⟩
    · exact ⟨(it_bl _).mono (by decide) (by decide), .inl ⟨_, _, rfl⟩⟩
    · exact ⟨hx.it hM, .inl ⟨_, _, rfl⟩⟩
  have ed : frzL (valsT x) = valsT x := datL_frz ((datL_iff _).mpr fun p hp => (vals p hp).1.1)
  refine ⟨fun j Δ => ∃ x7 x8, Δ = C9 t x x2 x3 x4 x5 none x7 x8, ⟨_, _, rfl⟩, ?_, ?_⟩
  · rintro j y Δ hy ⟨y7, y8, rfl⟩
    have hy' : (frzL (frzL (valsT x)))[j]? = some y := hy
    rw [ed, ed] at hy'
    obtain ⟨h1, h2⟩ := vals y (List.mem_of_getElem? hy')
    exact ⟨rfl, at_raised (dat_frz h1.1) (hx.it hM) (hx.it hM) h1 (.ok (by decide) (.ok rfl rfl hx (by omega)) fun _ => h2) ⟨Nat.zero_le _, _, _, rfl⟩⟩
  · rintro Δ ⟨y7, y8, rfl⟩
    exact k _ _
theorem rr4 (hx : x.Ok M) (hM : M ≤ 10 ^ 30) (k : ∀ Δ, Δ[0]? = some (some t) → D.rt (.bl true) Δ) : w__law_right_4 D (C9 t x x2 x3 x4 x5 none x7 x8) := by
  refine ⟨by decide, by decide, fun j acc Δ => j ≤ 3 ∧ acc = List.replicate j (T.lst false []) ∧ Δ = C9 t x x2 x3 x4 x5 none x7 x8, ⟨by decide, rfl, rfl⟩, ?_, ?_⟩
  · rintro j y acc Δ hy ⟨hj, rfl, rfl⟩
    obtain ⟨hj', rfl⟩ := rng_at hy
    have hj3 : j < 3 := hj'
    refine ⟨rfl, at_raised rfl (hx.it hM) (hx.it hM) (it_non.mono (by decide) (by decide)) (.ok (by omega) (.ok rfl rfl hx (by omega)) fun _ => .inl ⟨_, _, rfl⟩) ⟨zz200 (by simp; omega), by omega, ?_, rfl⟩⟩
    rw [List.replicate_succ']; rfl
  · rintro acc Δ ⟨_, rfl, rfl⟩
    refine ⟨Nat.zero_le _, z1, rfl, by decide, by decide, by decide, ⟨by decide +kernel, by decide +kernel⟩, by decide, ?_⟩
    have e : eqT (.lst true [.lst false [], .lst false [], .lst false []]) (.lst true [.lst false [], .lst false [], .lst false []]) = true := by decide +kernel
    have q := k (C9 t x x2 x3 x4 x5 none x7 x8) rfl
    rw [← e] at q
    exact q
end
theorem v__law_right : ∀ ts Qf, S__law_right ts Qf → w__law_right (endsD 1 ts Qf) (startD N__law_right 1 ts) := by
  rintro ts Qf ⟨t, x, M, n, rfl, hF, hn, hx, hM, q⟩
  have fin : ∀ t' Δ, Δ[0]? = some (some t') → (endsD 1 [t, x.t] Qf).rt (.bl true) Δ := fun t' Δ h3 => by
    have z := q t'
    show look Δ 0 fun u => Qf (.ret (.bl true)) ([u] ++ [x.t])
    unfold look
    rw [h3]; exact z
  show w__law_right (endsD 1 [t, x.t] Qf) (C9 t x none none none none none none none)
  revert fin
  generalize endsD 1 [t, x.t] Qf = D
  intro fin
  refine sq (rr1 hx hM hF hn fun t1 y2 y3 y4 y5 => ?_)
  dsimp only
  refine sq (rr2 ?_)
  dsimp only
  refine sq (rr3 hx hM fun z7 z8 => ?_)
  dsimp only
  exact rr4 hx hM fun Δ h => fin t1 Δ h
end TL
set_option maxRecDepth 100000
set_option maxHeartbeats 1000000
namespace TL
open PySem PySem.Spec PyProof.Rows L2
def S_law : FS := fun ts Q => ∃ (o : Bool) (ns : List Int), ts = [.lst o (ns.map .int)] ∧ ∀ ts', Q (.ret (.bl true)) ts'
theorem l_law : ∀ ts Q, S_law ts Q → ts.length = 1 := fun ts Q ⟨_, _, e, _⟩ => by rw [e]; rfl
theorem at_reel {o : Bool} {ns : List Int} {k : Int} {Q : Rs → List T → Prop} (h0 : 0 ≤ k) (h1 : k ≤ 3) (q : ∀ t, Fo 0 t → Q (.ret t) [.lst false (ns.map .int), .int k]) : S__law_reel [.lst o (ns.map .int), .int k] Q := ⟨o, ns, k, rfl, ⟨h0, h1⟩, q⟩
theorem at_rules {t : T} {most : Int} {n : Nat} {Q : Rs → List T → Prop} (h : Fo n t) (hn : n < 2 ^ 98) (hm : 1 ≤ most ∧ most ≤ 10 ^ 29) (q : ∀ xs t', Rl most xs → Fo (n + 20) t' → Q (.ret (.tup xs)) [t', .int most]) : S__law_rules [t, .int most] Q := ⟨t, most, n, rfl, h, hn, hm, q⟩
theorem Rl.ru {m : Int} {xs : List T} (h : Rl m xs) : ∃ x : Ru, xs = x.l ∧ x.Ok (2 * m + 3) := by
  obtain ⟨a, b, c, d, r, p, q, rfl, ha, hb, hc, hd, hr, hq⟩ := h
  exact ⟨⟨a, b, c, d, r, p, q⟩, rfl, by show 1 ≤ a ∧ a ≤ _; omega, by show 1 ≤ b ∧ b ≤ _; omega, by show 1 ≤ c ∧ c ≤ _; omega, by show 0 ≤ d ∧ d ≤ _; omega, hr, hq⟩
theorem at_right {t : T} {x : Ru} {M : Int} {n : Nat} {Q : Rs → List T → Prop} (h : Fo n t) (hn : n < 2 ^ 97) (hx : x.Ok M) (hM : M ≤ 10 ^ 30) (q : ∀ t', Q (.ret (.bl true)) [t', x.t]) : S__law_right [t, x.t] Q := ⟨t, x, M, n, rfl, h, hn, hx, hM, q⟩
abbrev N_law : List Str := ["script", "index", "reel", "rules", "told"]
def w_law_1_1 : WS :=
  (wAsg (wCall S__law_reel (wCons (wV 0) (wCons (wV 1) wNil))) (wgN 2))
def w_law_1_2_1 : WS :=
  (wRet 0 (wC (.bl false)))
def w_law_1_2 : WS :=
  (wIfS (wNot (wTru (wCall S__law_right (wCons (wV 2) (wCons (wCall S__law_rules (wCons (wV 2) (wCons (wOp gIx (wLst (wCons (wC (.int 9)) (wCons (wOp gPow (wC (.int 10)) (wC (.int 9))) wNil))) (wCall S__law_spin (wCons (wV 2) (wCons (wC (.int 2)) wNil)))) wNil))) wNil))))) w_law_1_2_1 wNext)
def w_law_1 : WS :=
  (wFor (wiRng1 (wCons (wCl gMax2 (wCons (wC (.int 1)) (wCons (wCl gMin2 (wCons (wC (.int 3)) (wCons (wCl gLen (wCons (wV 0) wNil)) wNil))) wNil))) wNil)) (wgN 1) (wSeq w_law_1_1 w_law_1_2))
def w_law_2 : WS :=
  (wAsg (wTup (wCons (wC (.int 2)) (wCons (wC (.int 6)) (wCons (wC (.int 2)) (wCons (wC (.int 0)) (wCons (wC (.str "none")) (wCons (wC (.bl false)) (wCons (wC (.str "turn")) wNil)))))))) (wgN 3))
def w_law_3 : WS :=
  (wAsg (wLst (wCons (wCall S__law_raised (wCons (wC (.int 1)) (wCons (wV 3) (wCons (wOp gAdd (wSl (wV 3) woN (woS (wC (.int 4)))) (wTup (wCons (wC (.str "None")) (wCons (wC (.int 0)) (wCons (wC (.str "x")) wNil))))) (wCons (wC .non) wNil))))) wNil)) (wgN 4))
def w_law_4 : WS :=
  (wDrop (wApp 4 (wCall S__law_raised (wCons (wC (.int 0)) (wCons (wOp gAdd (wOp gAdd (wSl (wV 3) woN (woS (wC (.int 2)))) (wTup (wCons (wC (.int 0)) (wCons (wUn gNeg (wC (.int 1))) wNil)))) (wSl (wV 3) (woS (wC (.int 4))) woN)) (wCons (wTup wNil) (wCons (wC .non) wNil)))))))
def w_law_5 : WS :=
  (wRet 0 (wOp (gEq false) (wV 4) (wLst (wCons (wLst (wCons (wC (.str "rules")) (wCons (wC (.int 4)) wNil))) (wCons (wLst (wCons (wC (.str "rules")) (wCons (wC (.int 2)) wNil))) wNil)))))
def w_law : WS :=
  (wSeq w_law_1 (wSeq w_law_2 (wSeq w_law_3 (wSeq w_law_4 w_law_5))))
abbrev L5 (ns : List Int) (x1 x2 x3 x4 : Option T) : Dt := [some (.lst false (ns.map .int)), x1, x2, x3, x4]
abbrev ra : Ru := ⟨2, 6, 2, 0, "none", false, "turn"⟩
abbrev ba : List T := [.int 2, .int 6, .int 2, .int 0, .str "None", .int 0, .str "x"]
abbrev bc : List T := [.int 2, .int 6, .int 0, .int (-1), .str "none", .bl false, .str "turn"]
theorem ra_ok : ra.Ok 10 := ⟨by decide, by decide, by decide, by decide, .inl rfl, .inl rfl⟩
theorem rf_ba : rfault (.tup ba) = some (.int 4) := by rfl
theorem rf_bc : rfault (.tup bc) = some (.int 2) := by rfl
theorem it_ba : It 2 6000 (.tup ba) := (it_tup (k := 7) (.cons (it_int (by decide)) (.cons (it_int (by decide)) (.cons (it_int (by decide)) (.cons (it_int (by decide)) (.cons (lit (by decide +kernel)) (.cons (it_int (by decide)) (.cons (lit (by decide +kernel)) .nil)))))))).mono (by decide) (by decide)
theorem it_bc : It 2 6000 (.tup bc) := (it_tup (k := 7) (.cons (it_int (by decide)) (.cons (it_int (by decide)) (.cons (it_int (by decide)) (.cons (it_int (by decide)) (.cons (lit (by decide +kernel)) (.cons (it_bl _) (.cons (lit (by decide +kernel)) .nil)))))))).mono (by decide) (by decide)
section
variable {D : EndsD} {ns : List Int} {x1 x2 x3 x4 : Option T}
theorem la1 (k : ∀ x1 x2 x3, D.nx (L5 ns x1 x2 x3 x4)) : w_law_1 D (L5 ns x1 x2 x3 x4) := by
  refine ⟨by split <;> split <;> omega, by split <;> split <;> omega, fun i Δ => ∃ x1 x2 x3, Δ = L5 ns x1 x2 x3 x4, ⟨_, _, _, rfl⟩, ?_, ?_⟩
  · rintro i y Δ hy ⟨y1, y2, y3, rfl⟩
    obtain ⟨hi, rfl⟩ := rng_at hy
    have hi3 : i ≤ 3 := by
      revert hi
      show i < Int.toNat (if (if (ns.map T.int).length < (3 : Int) then ((ns.map T.int).length : Int) else 3) > 1 then (if (ns.map T.int).length < (3 : Int) then ((ns.map T.int).length : Int) else 3) else 1) → i ≤ 3
      split <;> split <;> omega
    refine ⟨rfl, at_reel (by omega) (by omega) fun t0 h0 => ?_⟩
    show w_law_1_2 _ (L5 ns (some (.int (i : Int))) (some t0) y3 x4)
    refine ⟨by decide, by decide, z2, rfl, at_spin h0 (by decide) (by decide) (by decide) fun r t1 r0 r1 h1 => ?_⟩
    dsimp only [onV, onVs, look, List.getElem?_cons_zero, List.getElem?_cons_succ, List.set_cons_zero, List.set_cons_succ, wOp, wV, wC, wUn, wCl, wCons, wNil, wTest, backs]
    refine ix_ints (l := [9, 10 ^ (9 : Int).toNat]) (P := fun z => 1 ≤ z ∧ z ≤ 10 ^ 29) r0 r1 (by decide) fun z hz => ?_
    refine ⟨rfl, at_rules h1 (by decide) hz fun xs t2 hR h2 => ?_⟩
    obtain ⟨x, rfl, hx⟩ := hR.ru
    exact ⟨rfl, at_right h2 (by decide) hx (by omega) fun t3 => ⟨_, _, _, rfl⟩⟩
  · rintro Δ ⟨y1, y2, y3, rfl⟩
    exact k _ _ _
theorem la2 (k : D.nx (L5 ns x1 x2 (some ra.t) x4)) : w_law_2 D (L5 ns x1 x2 x3 x4) := ⟨z7, k⟩
theorem la3 (k : D.nx (L5 ns x1 x2 (some ra.t) (some (.lst true [.lst false [.str "rules", .int 4]])))) : w_law_3 D (L5 ns x1 x2 (some ra.t) x4) := by
  refine ⟨rfl, z3, ⟨rfl, rfl⟩, by decide, rfl, at_raised rfl (ra_ok.it (by decide)) it_ba (it_non.mono (by decide) (by decide)) (.bad (by decide) (.two rfl ra_ok rf_ba)) ⟨z1, k⟩⟩
theorem it_tnil : It 2 6000 (.tup []) := (it_tup (k := 0) (w := 0) (xs := []) .nil : It 1 0 (.tup [])).mono (by decide) (by decide)
theorem la4 (k : D.nx (L5 ns x1 x2 (some ra.t) (some (.lst true [.lst false [.str "rules", .int 4], .lst false [.str "rules", .int 2]])))) : w_law_4 D (L5 ns x1 x2 (some ra.t) (some (.lst true [.lst false [.str "rules", .int 4]]))) := by
  refine ⟨rfl, z2, ⟨rfl, rfl⟩, by decide, rfl, ⟨rfl, rfl⟩, by decide, Nat.zero_le _, rfl, at_raised rfl it_bc it_tnil (it_non.mono (by decide) (by decide)) (.bad (by decide) (.one rf_bc)) ⟨rfl, show 1 < sizeLine by decide, k⟩⟩
theorem la5 (k : ∀ Δ, D.rt (.bl true) Δ) : w_law_5 D (L5 ns x1 x2 (some ra.t) (some (.lst true [.lst false [.str "rules", .int 4], .lst false [.str "rules", .int 2]]))) := by
  refine ⟨z2, z2, z2, ⟨by decide +kernel, by decide +kernel⟩, by decide, ?_⟩
  have e : eqT (.lst true [.lst false [.str "rules", .int 4], .lst false [.str "rules", .int 2]]) (.lst true [.lst false [.str "rules", .int 4], .lst false [.str "rules", .int 2]]) = true := by decide +kernel
  have q := k (L5 ns x1 x2 (some ra.t) (some (.lst true [.lst false [.str "rules", .int 4], .lst false [.str "rules", .int 2]])))
  rw [← e] at q
  exact q
end
theorem v_law : ∀ ts Qf, S_law ts Qf → w_law (endsD 0 ts Qf) (startD N_law 0 ts) := by
  rintro ts Qf ⟨o, ns, rfl, q⟩
  show w_law (endsD 0 [.lst o (ns.map .int)] Qf) [some (.lst false (frzL (ns.map .int))), none, none, none, none]
  rw [ints_frz]
  have fin : ∀ Δ, (endsD 0 [.lst o (ns.map .int)] Qf).rt (.bl true) Δ := fun Δ => q _
  revert fin
  generalize endsD 0 [.lst o (ns.map .int)] Qf = D
  intro fin
  show wSeq w_law_1 _ D (L5 ns none none none none)
  refine sq (la1 fun y1 y2 y3 => ?_)
  dsimp only
  refine sq (la2 ?_)
  dsimp only
  refine sq (la3 ?_)
  dsimp only
  refine sq (la4 ?_)
  dsimp only
  exact la5 fin
end TL
set_option maxRecDepth 100000
set_option maxHeartbeats 1000000
namespace TL
open PySem PySem.Spec PyProof.Rows L2
def top (i : Nat) : Stmt := PySem.Challenge.pw_squeezedkeyer_k47_errors_of_partings.main.body.getD i (.Pass ⟨0, 0, 0, 0⟩)
abbrev s_is_integer : Stmt := top 25
abbrev s_is_one_of : Stmt := top 26
abbrev s_rules_flags : Stmt := top 27
abbrev s_require_rules : Stmt := top 28
abbrev s_is_event : Stmt := top 29
abbrev s_fault_of_record : Stmt := top 30
abbrev s_length_of : Stmt := top 31
abbrev s_period_of : Stmt := top 32
abbrev s_word_period : Stmt := top 33
abbrev s_other_of : Stmt := top 34
abbrev s_tidy_kinds : Stmt := top 38
abbrev s_tidy_runs : Stmt := top 39
abbrev s_can_hear : Stmt := top 42
abbrev s_outcome : Stmt := top 43
abbrev s_state_behind : Stmt := top 45
abbrev s_all_runs : Stmt := top 47
abbrev s_plain_of : Stmt := top 50
abbrev s_found_parting : Stmt := top 64
abbrev s_parting_record : Stmt := top 65
abbrev s_fewest_parting : Stmt := top 66
abbrev s_are_unlike : Stmt := top 68
abbrev s_shows_parting : Stmt := top 69
abbrev s__law_reel : Stmt := top 71
abbrev s__law_spin : Stmt := top 72
abbrev s__law_rules : Stmt := top 73
abbrev s__law_told : Stmt := top 74
abbrev s__law_bad_rules : Stmt := top 75
abbrev s__law_raised : Stmt := top 76
abbrev s__law_right : Stmt := top 77
abbrev s_law : Stmt := top 78
abbrev s_Blocks___init__ : Stmt := (cbody (top 37)).getD 0 (.Pass ⟨0, 0, 0, 0⟩)
abbrev s_Blocks_last_kind : Stmt := (cbody (top 37)).getD 1 (.Pass ⟨0, 0, 0, 0⟩)
abbrev s_Blocks_put_alternating : Stmt := (cbody (top 37)).getD 2 (.Pass ⟨0, 0, 0, 0⟩)
abbrev s_Blocks_put_same : Stmt := (cbody (top 37)).getD 3 (.Pass ⟨0, 0, 0, 0⟩)
abbrev s_Blocks_put_in : Stmt := (cbody (top 37)).getD 4 (.Pass ⟨0, 0, 0, 0⟩)
abbrev s_Blocks_tidy : Stmt := (cbody (top 37)).getD 5 (.Pass ⟨0, 0, 0, 0⟩)
abbrev s_State___init__ : Stmt := (cbody (top 44)).getD 0 (.Pass ⟨0, 0, 0, 0⟩)
abbrev s_State_note : Stmt := (cbody (top 44)).getD 2 (.Pass ⟨0, 0, 0, 0⟩)
abbrev s_State_note_other : Stmt := (cbody (top 44)).getD 3 (.Pass ⟨0, 0, 0, 0⟩)
abbrev s_State_is_held_other : Stmt := (cbody (top 44)).getD 4 (.Pass ⟨0, 0, 0, 0⟩)
abbrev s_State_start : Stmt := (cbody (top 44)).getD 5 (.Pass ⟨0, 0, 0, 0⟩)
abbrev s_State_hear : Stmt := (cbody (top 44)).getD 6 (.Pass ⟨0, 0, 0, 0⟩)
abbrev s_State_decide : Stmt := (cbody (top 44)).getD 7 (.Pass ⟨0, 0, 0, 0⟩)
abbrev s_State_following : Stmt := (cbody (top 44)).getD 8 (.Pass ⟨0, 0, 0, 0⟩)
abbrev s_State_skip : Stmt := (cbody (top 44)).getD 9 (.Pass ⟨0, 0, 0, 0⟩)
abbrev s_State_jump : Stmt := (cbody (top 44)).getD 10 (.Pass ⟨0, 0, 0, 0⟩)
abbrev s_State_advance : Stmt := (cbody (top 44)).getD 11 (.Pass ⟨0, 0, 0, 0⟩)
abbrev s_State_happen : Stmt := (cbody (top 44)).getD 12 (.Pass ⟨0, 0, 0, 0⟩)
abbrev s_State_finish : Stmt := (cbody (top 44)).getD 13 (.Pass ⟨0, 0, 0, 0⟩)
abbrev s_State_tidy : Stmt := (cbody (top 44)).getD 15 (.Pass ⟨0, 0, 0, 0⟩)
structure Gm (K : Frag) (mg : Str → Option Value) : Prop where
  b_ValueError : mg "ValueError" = none
  b_abs : mg "abs" = none
  b_any : mg "any" = none
  b_bool : mg "bool" = none
  b_enumerate : mg "enumerate" = none
  b_int : mg "int" = none
  b_isinstance : mg "isinstance" = none
  b_len : mg "len" = none
  b_list : mg "list" = none
  b_max : mg "max" = none
  b_min : mg "min" = none
  b_range : mg "range" = none
  b_repr : mg "repr" = none
  b_sorted : mg "sorted" = none
  b_str : mg "str" = none
  b_sum : mg "sum" = none
  b_tuple : mg "tuple" = none
  c_ALTERNATING : ∃ t, mg "ALTERNATING" = some (Value.int 4 t)
  c_LEVERS_values : ∃ a, mg "LEVERS_values" = some (.ref a) ∧ ∀ B H, Rp K B H (.ref a) (.tup [.str "s", .str "l"]) []
  c_MOST_EVENTS : ∃ t, mg "MOST_EVENTS" = some (Value.int 200 t)
  c_PREFERENCES : ∃ a, mg "PREFERENCES" = some (.ref a) ∧ ∀ B H, Rp K B H (.ref a) (.tup [.str "turn", .str "stay", .str "s", .str "l"]) []
  c_REMEMBERS : ∃ a, mg "REMEMBERS" = some (.ref a) ∧ ∀ B H, Rp K B H (.ref a) (.tup [.str "none", .str "press", .str "held"]) []
  c_STEP_WORDS : ∃ a, mg "STEP_WORDS" = some (.ref a) ∧ ∀ B H, Rp K B H (.ref a) (.tup [.str "press s", .str "press l", .str "release s", .str "release l", .str "begin s", .str "begin l", .str "hear", .str "remember s", .str "remember l", .str "idle"]) []
structure Cf_Blocks (K : Frag) : Prop where
  kept_parts : FldAt K "Blocks" "kept_parts"
structure Cf_State (K : Frag) : Prop where
  kept_rules : FldAt K "State" "kept_rules"
  kept_is_logged : FldAt K "State" "kept_is_logged"
  kept_kind : FldAt K "State" "kept_kind"
  kept_begin : FldAt K "State" "kept_begin"
  kept_is_heard : FldAt K "State" "kept_is_heard"
  kept_is_other : FldAt K "State" "kept_is_other"
  kept_is_own : FldAt K "State" "kept_is_own"
  kept_down : FldAt K "State" "kept_down"
  kept_runs : FldAt K "State" "kept_runs"
  kept_counts : FldAt K "State" "kept_counts"
  kept_log : FldAt K "State" "kept_log"
section
variable {P : Program} {w : World} {K : Frag} {mg : Str → Option Value} {base : Heap}
abbrev si_InvalidCases : Stmt := (cbody (top 16)).getD 0 (.Pass ⟨0, 0, 0, 0⟩)
abbrev si_InvalidCode : Stmt := (cbody (top 17)).getD 0 (.Pass ⟨0, 0, 0, 0⟩)
abbrev si_InvalidKinds : Stmt := (cbody (top 15)).getD 0 (.Pass ⟨0, 0, 0, 0⟩)
abbrev si_InvalidRecord : Stmt := (cbody (top 13)).getD 0 (.Pass ⟨0, 0, 0, 0⟩)
abbrev si_InvalidRules : Stmt := (cbody (top 12)).getD 0 (.Pass ⟨0, 0, 0, 0⟩)
theorem sci_InvalidRules : FnScope ["self", "index"] ["self", "index"] (defScope si_InvalidRules) := ⟨rfl, rfl, rfl, by decide +kernel, rfl, by decide +kernel, by decide +kernel⟩
theorem i_InvalidRules {CK fI : Addr} {oc : Value} {od an : Option Addr} {dV kV dc pm cd ct : Value} {sl : Array (Option Value)} (B : BaseAt K mg "KeyerError" CK) (l : K.lookup fI = some ⟨oc, od, .func (PySem.W.fnOf "__init__" "InvalidRules.__init__" (defArgs si_InvalidRules) (defBody si_InvalidRules) (defScope si_InvalidRules) dV kV dc pm an cd ct), sl⟩) (hc : PySem.W.codeIn K cd "InvalidRules.__init__" = true) :
    FnOk P w K mg base CX0 1 fI (PySem.W.fnOf "__init__" "InvalidRules.__init__" (defArgs si_InvalidRules) (defBody si_InvalidRules) (defScope si_InvalidRules) dV kV dc pm an cd ct) ["self", "index"] (spI K ["index"]) :=
  fn_of (N := ["self", "index"]) l hc sci_InvalidRules (spI_len rfl) fun A outer s H vs Q E _ hs => ⟨_, pss_cons (ps_expr (pe_baseInit (by rfl) B (pa_cons (pe_var (i := 0) rfl (.inl rfl)) (pa_cons pe_str pa_nil))) rfl) (pss_one (ps_ost (pe_var (i := 0) rfl (.inl rfl)) (pe_var (i := 1) rfl (.inl rfl)))), init1 rfl hs⟩
abbrev si_InvalidRuns : Stmt := (cbody (top 14)).getD 0 (.Pass ⟨0, 0, 0, 0⟩)
abbrev si_InvalidSyntax : Stmt := (cbody (top 19)).getD 0 (.Pass ⟨0, 0, 0, 0⟩)
abbrev si_TooLarge : Stmt := (cbody (top 18)).getD 0 (.Pass ⟨0, 0, 0, 0⟩)
theorem sc_is_integer : FnScope N_is_integer ["value", "least"] (defScope s_is_integer) := ⟨rfl, rfl, rfl, by decide +kernel, rfl, by decide +kernel, by decide +kernel⟩
theorem t_is_integer (g : Gm K mg) (sys : SysAt base)  {f : Addr} {fd : FuncData} {dV : Value} (F : DefAt K mg "is_integer" "is_integer" s_is_integer f fd dV) : FnG P w K mg base CX0 1 f fd ["value", "least"] (spT K S_is_integer) := by
  refine def_ok (N := N_is_integer) (k := 0) 0 F sc_is_integer l_is_integer (by decide) fun cdv A outer s H E hr hgd => ⟨w_is_integer, ?_, v_is_integer⟩
  have nd := sc_is_integer.nd
  have hu64 := hr.units
  have hu := hu_of hr
  exact (css_cons (cs_if ((cw_or (ct_not (ct_tru (ce_callB call_isi l_isi (by rfl) g.b_isinstance bt_isinstance (ca_cons (ce_var 0) (ca_cons (ce_bltn (v := .ty "int") (by rfl) g.b_int bt_int rfl fun _ _ => .ty "int") ca_nil))))) (cw_or1 (ct_tru (ce_callB call_isi l_isi (by rfl) g.b_isinstance bt_isinstance (ca_cons (ce_var 0) (ca_cons (ce_bltn (v := .ty "bool") (by rfl) g.b_bool bt_bool rfl fun _ _ => .ty "bool") ca_nil))))))).ct (css_one (cs_ret ce_bl)) css_nil) (css_one (cs_ret (ce_or (ce_cmp op_isA l_is (ce_var 1) ce_non rfl) (ce_one (ce_cmp op_ge l_cmp (ce_var 0) (ce_var 1) rfl))))))
theorem sc_is_one_of : FnScope N_is_one_of ["value", "words"] (defScope s_is_one_of) := ⟨rfl, rfl, rfl, by decide +kernel, rfl, by decide +kernel, by decide +kernel⟩
theorem t_is_one_of (g : Gm K mg) (sys : SysAt base)  {f : Addr} {fd : FuncData} {dV : Value} (F : DefAt K mg "is_one_of" "is_one_of" s_is_one_of f fd dV) : FnG P w K mg base CX0 1 f fd ["value", "words"] (spT K S_is_one_of) := by
  refine def_ok (N := N_is_one_of) (k := 0) 0 F sc_is_one_of l_is_one_of (by decide) fun cdv A outer s H E hr hgd => ⟨w_is_one_of, ?_, v_is_one_of⟩
  have nd := sc_is_one_of.nd
  have hu64 := hr.units
  have hu := hu_of hr
  exact (css_one (cs_ret (ce_and (ce_callB call_isi l_isi (by rfl) g.b_isinstance bt_isinstance (ca_cons (ce_var 0) (ca_cons (ce_bltn (v := .ty "str") (by rfl) g.b_str bt_str rfl fun _ _ => .ty "str") ca_nil))) (ce_one (ce_in op_inA l_in (ce_var 0) (ce_var 1))))))
theorem sc_rules_flags : FnScope N_rules_flags ["value"] (defScope s_rules_flags) := ⟨rfl, rfl, rfl, by decide +kernel, rfl, by decide +kernel, by decide +kernel⟩
theorem t_rules_flags (g : Gm K mg) (sys : SysAt base) (c_is_integer : Cal P w K mg base 1 "is_integer" [] S_is_integer) (c_is_one_of : Cal P w K mg base 1 "is_one_of" [] S_is_one_of) {f : Addr} {fd : FuncData} {dV : Value} (F : DefAt K mg "rules_flags" "rules_flags" s_rules_flags f fd dV) : FnG P w K mg base CX0 2 f fd ["value"] (spT K S_rules_flags) := by
  obtain ⟨a_PREFERENCES, k_PREFERENCES⟩ := g.c_PREFERENCES
  obtain ⟨a_REMEMBERS, k_REMEMBERS⟩ := g.c_REMEMBERS
  refine def_ok (N := N_rules_flags) (k := 1) 0 F sc_rules_flags l_rules_flags (by decide) fun cdv A outer s H E hr hgd => ⟨w_rules_flags, ?_, v_rules_flags⟩
  have nd := sc_rules_flags.nd
  have hu64 := hr.units
  have hu := hu_of hr
  exact (css_cons (cs_setLc (i := 1) (own := [("item", 2)]) rfl nd rfl rfl (by decide) (sw_true rfl rfl rfl (by decide +kernel)) (ci_tup (ce_slice (ce_var 0) co_none (co_some ce_int))) (blkOk_by (N := N_rules_flags) (sc := defScope s_rules_flags) (by decide +kernel)) (fun _ _ _ _ _ => (cg_own (i := 2) nd rfl (Or.inl rfl) (by decide))) (fun _ _ _ _ _ => cts_nil) (fun _ _ _ _ _ => (ce_cal c_is_integer hr (by decide) hgd (by rfl) (ca_cons (ce_var 2) (ca_cons ce_int ca_nil))))) (css_cons (cs_expr (ce_app (i := 1) (ce_cal c_is_integer hr (by decide) hgd (by rfl) (ca_cons (ce_ix (ce_var 0) ce_int) (ca_cons ce_int ca_nil))))) (css_one (cs_ret (ce_lst (ca_star (ce_var 1) (ca_cons (ce_cal c_is_one_of hr (by decide) hgd (by rfl) (ca_cons (ce_ix (ce_var 0) ce_int) (ca_cons (ce_glob (v := .ref a_REMEMBERS) (by rfl) k_REMEMBERS.1 rfl k_REMEMBERS.2) ca_nil))) (ca_cons (ce_callB call_isi l_isi (by rfl) g.b_isinstance bt_isinstance (ca_cons (ce_ix (ce_var 0) ce_int) (ca_cons (ce_bltn (v := .ty "bool") (by rfl) g.b_bool bt_bool rfl fun _ _ => .ty "bool") ca_nil))) (ca_cons (ce_cal c_is_one_of hr (by decide) hgd (by rfl) (ca_cons (ce_ix (ce_var 0) ce_int) (ca_cons (ce_glob (v := .ref a_PREFERENCES) (by rfl) k_PREFERENCES.1 rfl k_PREFERENCES.2) ca_nil))) ca_nil)))))))))
theorem sc_require_rules : FnScope N_require_rules ["value"] (defScope s_require_rules) := ⟨rfl, rfl, rfl, by decide +kernel, rfl, by decide +kernel, by decide +kernel⟩
theorem t_require_rules (g : Gm K mg) (sys : SysAt base) (x_InvalidRules : ExcAt P w K mg base "InvalidRules" ["index"]) (c_rules_flags : Cal P w K mg base 2 "rules_flags" [] S_rules_flags) {f : Addr} {fd : FuncData} {dV : Value} (F : DefAt K mg "require_rules" "require_rules" s_require_rules f fd dV) : FnG P w K mg base (L2N.CX P w) 3 f fd ["value"] (spT K S_require_rules) := by
  refine def_okX (N := N_require_rules) (k := 2) 0 F sc_require_rules l_require_rules (by decide) fun cdv A outer s H E hr hgd => ⟨w_require_rules, ?_, v_require_rules⟩
  have nd := sc_require_rules.nd
  have hu64 := hr.units
  have hu := hu_of hr
  exact (css_cons (cs_if ((cw_or (ct_not (ct_tru (ce_callB call_isi l_isi (by rfl) g.b_isinstance bt_isinstance (ca_cons (ce_var 0) (ca_cons (ce_bltn (v := .ty "tuple") (by rfl) g.b_tuple bt_tuple rfl fun _ _ => .ty "tuple") ca_nil))))) (cw_or1 (ct_cmp (op_neA hu64) l_eqS (ce_callB call_lenA l_len (by rfl) g.b_len bt_len (ca_cons (ce_var 0) ca_nil)) ce_int rfl)))).ct (css_one (cs_raise x_InvalidRules hr (by decide) rfl (by rfl) (ca_cons ce_non ca_nil))) css_nil) (css_cons (cs_set (i := 1) nd rfl (Or.inl rfl) (by decide) (ce_cal c_rules_flags hr (by decide) hgd (by rfl) (ca_cons (ce_var 0) ca_nil))) (css_one (cs_if (ct_in op_inA l_in ce_bl (ce_var 1)) (css_one (cs_raise x_InvalidRules hr (by decide) rfl (by rfl) (ca_cons (ce_lindex (ce_var 1) ce_bl) ca_nil))) css_nil))))
theorem sc_is_event : FnScope N_is_event ["value"] (defScope s_is_event) := ⟨rfl, rfl, rfl, by decide +kernel, rfl, by decide +kernel, by decide +kernel⟩
theorem t_is_event (g : Gm K mg) (sys : SysAt base) (c_is_integer_1 : Cal P w K mg base 1 "is_integer" [.non] S_is_integer) (c_is_one_of : Cal P w K mg base 1 "is_one_of" [] S_is_one_of) {f : Addr} {fd : FuncData} {dV : Value} (F : DefAt K mg "is_event" "is_event" s_is_event f fd dV) : FnG P w K mg base CX0 2 f fd ["value"] (spT K S_is_event) := by
  obtain ⟨a_LEVERS_values, k_LEVERS_values⟩ := g.c_LEVERS_values
  refine def_ok (N := N_is_event) (k := 1) 0 F sc_is_event l_is_event (by decide) fun cdv A outer s H E hr hgd => ⟨w_is_event, ?_, v_is_event⟩
  have nd := sc_is_event.nd
  have hu64 := hr.units
  have hu := hu_of hr
  exact (css_cons (cs_if ((cw_or (ct_not (ct_tru (ce_callB call_isi l_isi (by rfl) g.b_isinstance bt_isinstance (ca_cons (ce_var 0) (ca_cons (ce_bltn (v := .ty "tuple") (by rfl) g.b_tuple bt_tuple rfl fun _ _ => .ty "tuple") ca_nil))))) (cw_or1 (ct_cmp (op_neA hu64) l_eqS (ce_callB call_lenA l_len (by rfl) g.b_len bt_len (ca_cons (ce_var 0) ca_nil)) ce_int rfl)))).ct (css_one (cs_ret ce_bl)) css_nil) (css_one (cs_ret (ce_and (ce_calD c_is_integer_1 rfl hr (by decide) hgd (by rfl) (ca_cons (ce_ix (ce_var 0) ce_int) ca_nil)) (ce_and (ce_cal c_is_one_of hr (by decide) hgd (by rfl) (ca_cons (ce_ix (ce_var 0) ce_int) (ca_cons (ce_glob (v := .ref a_LEVERS_values) (by rfl) k_LEVERS_values.1 rfl k_LEVERS_values.2) ca_nil))) (ce_one (ce_callB call_isi l_isi (by rfl) g.b_isinstance bt_isinstance (ca_cons (ce_ix (ce_var 0) ce_int) (ca_cons (ce_bltn (v := .ty "bool") (by rfl) g.b_bool bt_bool rfl fun _ _ => .ty "bool") ca_nil)))))))))
theorem sc_fault_of_record : FnScope N_fault_of_record ["value"] (defScope s_fault_of_record) := ⟨rfl, rfl, rfl, by decide +kernel, rfl, by decide +kernel, by decide +kernel⟩
theorem t_fault_of_record (g : Gm K mg) (sys : SysAt base) (c_is_event : Cal P w K mg base 2 "is_event" [] S_is_event) {f : Addr} {fd : FuncData} {dV : Value} (F : DefAt K mg "fault_of_record" "fault_of_record" s_fault_of_record f fd dV) : FnG P w K mg base CX0 3 f fd ["value"] (spT K S_fault_of_record) := by
  obtain ⟨a_MOST_EVENTS, k_MOST_EVENTS⟩ := g.c_MOST_EVENTS
  refine def_ok (N := N_fault_of_record) (k := 2) 0 F sc_fault_of_record l_fault_of_record (by decide) fun cdv A outer s H E hr hgd => ⟨w_fault_of_record, ?_, v_fault_of_record⟩
  have nd := sc_fault_of_record.nd
  have hu64 := hr.units
  have hu := hu_of hr
  exact (css_cons (cs_if ((cw_or (ct_not (ct_tru (ce_callB call_isi l_isi (by rfl) g.b_isinstance bt_isinstance (ca_cons (ce_var 0) (ca_cons (ce_bltn (v := .ty "list") (by rfl) g.b_list bt_list rfl fun _ _ => .ty "list") ca_nil))))) (cw_or1 (ct_cmp op_gt l_cmp (ce_callB call_lenA l_len (by rfl) g.b_len bt_len (ca_cons (ce_var 0) ca_nil)) (ce_glob (v := .int 200) (by rfl) k_MOST_EVENTS ⟨_, rfl⟩ fun _ _ => .int 200) rfl)))).ct (css_one (cs_ret (ce_lst (ca_cons ce_non ca_nil)))) css_nil) (css_cons (cs_par (i := 1) (j := 2) rfl nd rfl rfl (by decide) rfl rfl (by decide) (by decide) (ca_cons (ce_lst ca_nil) (ca_cons ce_non ca_nil)) rfl) (css_cons (cs_for PassesOwn.never rfl (ci_enum (by rfl) g.b_enumerate (ca_cons (ce_var 0) ca_nil)) (cg_tup rfl (cgs_cons (cg_name (i := 3) nd rfl (Or.inl rfl) (by decide)) (cgs_cons (cg_name (i := 4) nd rfl (Or.inl rfl) (by decide)) cgs_nil))) (css_cons (cs_if (ct_not (ct_tru (ce_cal c_is_event hr (by decide) hgd (by rfl) (ca_cons (ce_var 4) ca_nil)))) (css_one (cs_ret (ce_lst (ca_cons (ce_var 3) ca_nil)))) css_nil) (css_cons (cs_asg (ce_var 4) (cg_tup rfl (cgs_cons (cg_name (i := 5) nd rfl (Or.inl rfl) (by decide)) (cgs_cons (cg_name (i := 6) nd rfl (Or.inr rfl) (by decide)) (cgs_cons (cg_name (i := 7) nd rfl (Or.inl rfl) (by decide)) cgs_nil))))) (css_cons (cs_if ((cw_or ((cw_and (ct_cmp op_isNotA l_is (ce_var 2) ce_non rfl) (cw_and1 (ct_cmp op_lt l_cmp (ce_var 5) (ce_var 2) rfl)))).ct (cw_or1 (ct_cmp (op_eqA hu64) l_eqS (ce_var 7) (ce_in op_inA l_in (ce_var 6) (ce_var 1)) rfl)))).ct (css_one (cs_ret (ce_lst (ca_cons (ce_var 3) ca_nil)))) css_nil) (css_cons (cs_set (i := 1) nd rfl (Or.inl rfl) (by decide) (ce_ifE (ct_tru (ce_var 7)) (ce_lst (ca_star (ce_var 1) (ca_cons (ce_var 6) ca_nil))) (ce_lc (own := [("other", 8)]) rfl nd (ci_list (ce_var 1)) (blkOk_by (N := N_fault_of_record) (sc := defScope s_fault_of_record) (by decide +kernel)) (fun _ _ _ _ _ => (cg_own (i := 8) nd rfl (Or.inl rfl) (by decide))) (fun _ _ _ _ _ => (cts_one (ct_cmp (op_neA hu64) l_eqS (ce_var 8) (ce_var 6) rfl))) (fun _ _ _ _ _ => (ce_var 8))))) (css_one (cs_set (i := 2) nd rfl (Or.inl rfl) (by decide) (ce_var 5)))))))) (css_one (cs_ret (ce_ifE (ct_cmp (op_eqA hu64) l_eqS (ce_var 1) (ce_lst ca_nil) rfl) (ce_lst ca_nil) (ce_lst (ca_cons (ce_callB call_lenA l_len (by rfl) g.b_len bt_len (ca_cons (ce_var 0) ca_nil)) ca_nil))))))))
theorem sc_length_of : FnScope N_length_of ["rules", "kind"] (defScope s_length_of) := ⟨rfl, rfl, rfl, by decide +kernel, rfl, by decide +kernel, by decide +kernel⟩
theorem t_length_of (g : Gm K mg) (sys : SysAt base)  {f : Addr} {fd : FuncData} {dV : Value} (F : DefAt K mg "length_of" "length_of" s_length_of f fd dV) : FnG P w K mg base CX0 1 f fd ["rules", "kind"] (spT K S_length_of) := by
  refine def_ok (N := N_length_of) (k := 0) 0 F sc_length_of l_length_of (by decide) fun cdv A outer s H E hr hgd => ⟨w_length_of, ?_, v_length_of⟩
  have nd := sc_length_of.nd
  have hu64 := hr.units
  have hu := hu_of hr
  exact (css_one (cs_ret (ce_ifE (ct_cmp (op_eqA hu64) l_eqS (ce_var 1) ce_str rfl) (ce_ix (ce_var 0) ce_int) (ce_ix (ce_var 0) ce_int))))
theorem sc_period_of : FnScope N_period_of ["rules", "kind"] (defScope s_period_of) := ⟨rfl, rfl, rfl, by decide +kernel, rfl, by decide +kernel, by decide +kernel⟩
theorem t_period_of (g : Gm K mg) (sys : SysAt base) (c_length_of : Cal P w K mg base 1 "length_of" [] S_length_of) {f : Addr} {fd : FuncData} {dV : Value} (F : DefAt K mg "period_of" "period_of" s_period_of f fd dV) : FnG P w K mg base CX0 2 f fd ["rules", "kind"] (spT K S_period_of) := by
  refine def_ok (N := N_period_of) (k := 1) 0 F sc_period_of l_period_of (by decide) fun cdv A outer s H E hr hgd => ⟨w_period_of, ?_, v_period_of⟩
  have nd := sc_period_of.nd
  have hu64 := hr.units
  have hu := hu_of hr
  exact (css_one (cs_ret (ce_op op_addA l_add (ce_cal c_length_of hr (by decide) hgd (by rfl) (ca_cons (ce_var 0) (ca_cons (ce_var 1) ca_nil))) (ce_ix (ce_var 0) ce_int))))
theorem sc_word_period : FnScope N_word_period ["rules", "word"] (defScope s_word_period) := ⟨rfl, rfl, rfl, by decide +kernel, rfl, by decide +kernel, by decide +kernel⟩
theorem t_word_period (g : Gm K mg) (sys : SysAt base) (c_period_of : Cal P w K mg base 2 "period_of" [] S_period_of) {f : Addr} {fd : FuncData} {dV : Value} (F : DefAt K mg "word_period" "word_period" s_word_period f fd dV) : FnG P w K mg base CX0 3 f fd ["rules", "word"] (spT K S_word_period) := by
  refine def_ok (N := N_word_period) (k := 2) 0 F sc_word_period l_word_period (by decide) fun cdv A outer s H E hr hgd => ⟨w_word_period, ?_, v_word_period⟩
  have nd := sc_word_period.nd
  have hu64 := hr.units
  have hu := hu_of hr
  exact (css_one (cs_ret (ce_callB (cr_sum rfl) l_sumL (by rfl) g.b_sum bt_sum (ca_cons (ce_lc (own := [("kind", 2)]) rfl nd (ci_str (ce_var 1)) (blkOk_by (N := N_word_period) (sc := defScope s_word_period) (by decide +kernel)) (fun _ _ _ _ _ => (cg_own (i := 2) nd rfl (Or.inl rfl) (by decide))) (fun _ _ _ _ _ => cts_nil) (fun _ _ _ _ _ => (ce_cal c_period_of hr (by decide) hgd (by rfl) (ca_cons (ce_var 0) (ca_cons (ce_var 2) ca_nil))))) ca_nil))))
theorem sc_other_of : FnScope N_other_of ["kind"] (defScope s_other_of) := ⟨rfl, rfl, rfl, by decide +kernel, rfl, by decide +kernel, by decide +kernel⟩
theorem t_other_of (g : Gm K mg) (sys : SysAt base)  {f : Addr} {fd : FuncData} {dV : Value} (F : DefAt K mg "other_of" "other_of" s_other_of f fd dV) : FnG P w K mg base CX0 1 f fd ["kind"] (spT K S_other_of) := by
  refine def_ok (N := N_other_of) (k := 0) 0 F sc_other_of l_other_of (by decide) fun cdv A outer s H E hr hgd => ⟨w_other_of, ?_, v_other_of⟩
  have nd := sc_other_of.nd
  have hu64 := hr.units
  have hu := hu_of hr
  exact (css_one (cs_ret (ce_ifE (ct_cmp (op_eqA hu64) l_eqS (ce_var 0) ce_str rfl) ce_str ce_str)))
theorem sc_tidy_kinds : FnScope N_tidy_kinds ["kinds"] (defScope s_tidy_kinds) := ⟨rfl, rfl, rfl, by decide +kernel, rfl, by decide +kernel, by decide +kernel⟩
theorem t_tidy_kinds (g : Gm K mg) (sys : SysAt base) (m_Blocks_put_in : MethAt P w K mg base 4 "Blocks" "put_in" S_Blocks_put_in) (m_Blocks_tidy : MethAt P w K mg base 2 "Blocks" "tidy" S_Blocks_tidy) (mk_Blocks : MakeAt P w K mg base 1 "Blocks" S_Blocks___init__)  {f : Addr} {fd : FuncData} {dV : Value} (F : DefAt K mg "tidy_kinds" "tidy_kinds" s_tidy_kinds f fd dV) : FnG P w K mg base CX0 5 f fd ["kinds"] (spT K S_tidy_kinds) := by
  refine def_ok (N := N_tidy_kinds) (k := 4) 0 F sc_tidy_kinds l_tidy_kinds (by decide) fun cdv A outer s H E hr hgd => ⟨w_tidy_kinds, ?_, v_tidy_kinds⟩
  have nd := sc_tidy_kinds.nd
  have hu64 := hr.units
  have hu := hu_of hr
  exact (css_cons (cs_set (i := 1) nd rfl (Or.inl rfl) (by decide) (ce_make0 mk_Blocks hr (by decide) hgd (by rfl))) (css_cons (cs_for PassesOwn.never rfl (ci_list (ce_var 0)) (cg_tup rfl (cgs_cons (cg_name (i := 2) nd rfl (Or.inl rfl) (by decide)) (cgs_cons (cg_name (i := 3) nd rfl (Or.inl rfl) (by decide)) cgs_nil))) (css_one (cs_expr (ce_meth m_Blocks_put_in hr (by decide) hgd (ce_var 1) (ca_cons (ce_var 2) (ca_cons (ce_var 3) ca_nil)))))) (css_one (cs_ret (ce_meth0 m_Blocks_tidy hr (by decide) hgd (ce_var 1))))))
theorem sc_tidy_runs : FnScope N_tidy_runs ["rules", "runs"] (defScope s_tidy_runs) := ⟨rfl, rfl, rfl, by decide +kernel, rfl, by decide +kernel, by decide +kernel⟩
theorem t_tidy_runs (g : Gm K mg) (sys : SysAt base) (c_tidy_kinds : Cal P w K mg base 5 "tidy_kinds" [] S_tidy_kinds) (c_word_period : Cal P w K mg base 3 "word_period" [] S_word_period) {f : Addr} {fd : FuncData} {dV : Value} (F : DefAt K mg "tidy_runs" "tidy_runs" s_tidy_runs f fd dV) : FnG P w K mg base CX0 6 f fd ["rules", "runs"] (spT K S_tidy_runs) := by
  refine def_ok (N := N_tidy_runs) (k := 5) 0 F sc_tidy_runs l_tidy_runs (by decide) fun cdv A outer s H E hr hgd => ⟨w_tidy_runs, ?_, v_tidy_runs⟩
  have nd := sc_tidy_runs.nd
  have hu64 := hr.units
  have hu := hu_of hr
  exact (css_cons (cs_par3 (i := 2) (j := 3) (l := 4) rfl nd rfl rfl rfl (by decide) (by decide) (by decide) rfl rfl rfl (by decide) (by decide) (by decide) (ca_cons (ce_lst ca_nil) (ca_cons (ce_lst ca_nil) (ca_cons ce_non ca_nil))) rfl) (css_cons (cs_for PassesOwn.never rfl (ci_list (ce_var 1)) (cg_tup rfl (cgs_cons (cg_name (i := 5) nd rfl (Or.inl rfl) (by decide)) (cgs_cons (cg_name (i := 6) nd rfl (Or.inl rfl) (by decide)) (cgs_cons (cg_name (i := 7) nd rfl (Or.inl rfl) (by decide)) cgs_nil)))) (css_cons (cs_if ((cw_or (ct_cmp op_isA l_is (ce_var 4) ce_non rfl) (cw_or1 (ct_cmp op_gt l_cmp (ce_var 5) (ce_var 4) rfl)))).ct (css_one (cs_expr (ce_appO (i := 3) (ce_tupO (ca_cons (ce_var 5) (ca_cons (ce_lst ca_nil) ca_nil)))))) css_nil) (css_cons (cs_expr (ce_appN (i := 3) (ce_tup (ca_cons (ce_var 6) (ca_cons (ce_var 7) ca_nil))))) (css_one (cs_set (i := 4) nd rfl (Or.inl rfl) (by decide) (ce_op op_addA l_add (ce_var 5) (ce_op op_mulA l_mul (ce_var 7) (ce_cal c_word_period hr (by decide) hgd (by rfl) (ca_cons (ce_var 0) (ca_cons (ce_var 6) ca_nil)))))))))) (css_cons (cs_for PassesOwn.never rfl (ci_list (ce_var 3)) (cg_tup rfl (cgs_cons (cg_name (i := 5) nd rfl (Or.inl rfl) (by decide)) (cgs_cons (cg_name (i := 8) nd rfl (Or.inl rfl) (by decide)) cgs_nil))) (css_cons (cs_set (i := 9) nd rfl (Or.inl rfl) (by decide) (ce_var 5)) (css_one (cs_for PassesOwn.never rfl (ci_list (ce_cal c_tidy_kinds hr (by decide) hgd (by rfl) (ca_cons (ce_var 8) ca_nil))) (cg_tup rfl (cgs_cons (cg_name (i := 6) nd rfl (Or.inl rfl) (by decide)) (cgs_cons (cg_name (i := 7) nd rfl (Or.inl rfl) (by decide)) cgs_nil))) (css_cons (cs_expr (ce_app (i := 2) (ce_tup (ca_cons (ce_var 9) (ca_cons (ce_var 6) (ca_cons (ce_var 7) ca_nil)))))) (css_one (cs_aug (i := 9) nd rfl (Or.inl rfl) (by decide) (ce_op op_mulA l_mul (ce_var 7) (ce_cal c_word_period hr (by decide) hgd (by rfl) (ca_cons (ce_var 0) (ca_cons (ce_var 6) ca_nil))))))))))) (css_one (cs_ret (ce_var 2))))))
theorem sc_can_hear : FnScope N_can_hear ["rules", "kind"] (defScope s_can_hear) := ⟨rfl, rfl, rfl, by decide +kernel, rfl, by decide +kernel, by decide +kernel⟩
theorem t_can_hear (g : Gm K mg) (sys : SysAt base) (c_period_of : Cal P w K mg base 2 "period_of" [] S_period_of) {f : Addr} {fd : FuncData} {dV : Value} (F : DefAt K mg "can_hear" "can_hear" s_can_hear f fd dV) : FnG P w K mg base CX0 3 f fd ["rules", "kind"] (spT K S_can_hear) := by
  refine def_ok (N := N_can_hear) (k := 2) 0 F sc_can_hear l_can_hear (by decide) fun cdv A outer s H E hr hgd => ⟨w_can_hear, ?_, v_can_hear⟩
  have nd := sc_can_hear.nd
  have hu64 := hr.units
  have hu := hu_of hr
  exact (css_one (cs_ret (ce_and (ce_or (ce_cmp (op_neA hu64) l_eqS (ce_ix (ce_var 0) ce_int) ce_str rfl) (ce_one (ce_ix (ce_var 0) ce_int))) (ce_one (ce_cmp op_lt l_cmp (ce_ix (ce_var 0) ce_int) (ce_cal c_period_of hr (by decide) hgd (by rfl) (ca_cons (ce_var 0) (ca_cons (ce_var 1) ca_nil))) rfl)))))
theorem sc_outcome : FnScope N_outcome ["rules", "kind", "down", "is_other", "is_own"] (defScope s_outcome) := ⟨rfl, rfl, rfl, by decide +kernel, rfl, by decide +kernel, by decide +kernel⟩
theorem t_outcome (g : Gm K mg) (sys : SysAt base) (c_other_of : Cal P w K mg base 1 "other_of" [] S_other_of) {f : Addr} {fd : FuncData} {dV : Value} (F : DefAt K mg "outcome" "outcome" s_outcome f fd dV) : FnG P w K mg base CX0 2 f fd ["rules", "kind", "down", "is_other", "is_own"] (spT K S_outcome) := by
  refine def_ok (N := N_outcome) (k := 1) 0 F sc_outcome l_outcome (by decide) fun cdv A outer s H E hr hgd => ⟨w_outcome, ?_, v_outcome⟩
  have nd := sc_outcome.nd
  have hu64 := hr.units
  have hu := hu_of hr
  exact (css_cons (cs_par (i := 5) (j := 6) rfl nd rfl rfl (by decide) rfl rfl (by decide) (by decide) (ca_cons (ce_cal c_other_of hr (by decide) hgd (by rfl) (ca_cons (ce_var 1) ca_nil)) (ca_cons (ce_ix (ce_var 0) ce_int) ca_nil)) rfl) (css_cons (cs_if (ct_tru (ce_var 3)) (css_one (cs_ret (ce_var 5))) css_nil) (css_cons (cs_if (ct_cmp (op_eqA hu64) l_eqS (ce_callB call_lenA l_len (by rfl) g.b_len bt_len (ca_cons (ce_var 2) ca_nil)) ce_int rfl) (css_one (cs_ret (ce_dget2 hu (ce_disp (cps_cons ce_str (ce_var 5) (cps_cons ce_str (ce_var 1) cps_nil))) (ce_var 6) (ce_var 6)))) css_nil) (css_cons (cs_if (ct_cmp (op_eqA hu64) l_eqS (ce_callB call_lenA l_len (by rfl) g.b_len bt_len (ca_cons (ce_var 2) ca_nil)) ce_int rfl) (css_one (cs_ret (ce_ix (ce_var 2) ce_int))) css_nil) (css_one (cs_ret (ce_ifE (ct_tru (ce_var 4)) (ce_var 1) ce_non)))))))
theorem sc_state_behind : FnScope N_state_behind ["rules", "record", "is_logged"] (defScope s_state_behind) := ⟨rfl, rfl, rfl, by decide +kernel, rfl, by decide +kernel, by decide +kernel⟩
theorem t_state_behind (g : Gm K mg) (sys : SysAt base) (m_State_advance : MethAt P w K mg base 7 "State" "advance" S_State_advance) (m_State_finish : MethAt P w K mg base 8 "State" "finish" S_State_finish) (m_State_happen : MethAt P w K mg base 6 "State" "happen" S_State_happen) (mk_State : MakeAt P w K mg base 1 "State" S_State___init__)  {f : Addr} {fd : FuncData} {dV : Value} (F : DefAt K mg "state_behind" "state_behind" s_state_behind f fd dV) : FnG P w K mg base CX0 9 f fd ["rules", "record", "is_logged"] (spT K S_state_behind) := by
  refine def_ok (N := N_state_behind) (k := 8) 0 F sc_state_behind l_state_behind (by decide) fun cdv A outer s H E hr hgd => ⟨w_state_behind, ?_, v_state_behind⟩
  have nd := sc_state_behind.nd
  have hu64 := hr.units
  have hu := hu_of hr
  exact (css_cons (cs_set (i := 3) nd rfl (Or.inl rfl) (by decide) (ce_make mk_State hr (by decide) hgd (by rfl) (ca_cons (ce_var 0) (ca_cons (ce_var 2) ca_nil)))) (css_cons (cs_for PassesOwn.never rfl (ci_list (ce_var 1)) (cg_tup rfl (cgs_cons (cg_name (i := 4) nd rfl (Or.inl rfl) (by decide)) (cgs_cons (cg_name (i := 5) nd rfl (Or.inl rfl) (by decide)) (cgs_cons (cg_name (i := 6) nd rfl (Or.inl rfl) (by decide)) cgs_nil)))) (css_cons (cs_expr (ce_meth m_State_advance hr (by decide) hgd (ce_var 3) (ca_cons (ce_var 4) ca_nil))) (css_one (cs_expr (ce_meth m_State_happen hr (by decide) hgd (ce_var 3) (ca_cons (ce_var 4) (ca_cons (ce_var 5) (ca_cons (ce_var 6) ca_nil)))))))) (css_cons (cs_expr (ce_meth0 m_State_finish hr (by decide) hgd (ce_var 3))) (css_one (cs_ret (ce_var 3))))))
theorem sc_all_runs : FnScope N_all_runs ["rules", "record"] (defScope s_all_runs) := ⟨rfl, rfl, rfl, by decide +kernel, rfl, by decide +kernel, by decide +kernel⟩
theorem t_all_runs (g : Gm K mg) (sys : SysAt base) (m_State_tidy : MethAt P w K mg base 7 "State" "tidy" S_State_tidy) (c_state_behind : Cal P w K mg base 9 "state_behind" [] S_state_behind) {f : Addr} {fd : FuncData} {dV : Value} (F : DefAt K mg "all_runs" "all_runs" s_all_runs f fd dV) : FnG P w K mg base CX0 10 f fd ["rules", "record"] (spT K S_all_runs) := by
  refine def_ok (N := N_all_runs) (k := 9) 0 F sc_all_runs l_all_runs (by decide) fun cdv A outer s H E hr hgd => ⟨w_all_runs, ?_, v_all_runs⟩
  have nd := sc_all_runs.nd
  have hu64 := hr.units
  have hu := hu_of hr
  exact (css_one (cs_ret (ce_meth0 m_State_tidy hr (by decide) hgd (ce_cal c_state_behind hr (by decide) hgd (by rfl) (ca_cons (ce_var 0) (ca_cons (ce_var 1) (ca_cons ce_bl ca_nil)))))))
theorem sc_plain_of : FnScope N_plain_of ["rules"] (defScope s_plain_of) := ⟨rfl, rfl, rfl, by decide +kernel, rfl, by decide +kernel, by decide +kernel⟩
theorem t_plain_of (g : Gm K mg) (sys : SysAt base)  {f : Addr} {fd : FuncData} {dV : Value} (F : DefAt K mg "plain_of" "plain_of" s_plain_of f fd dV) : FnG P w K mg base CX0 1 f fd ["rules"] (spT K S_plain_of) := by
  refine def_ok (N := N_plain_of) (k := 0) 0 F sc_plain_of l_plain_of (by decide) fun cdv A outer s H E hr hgd => ⟨w_plain_of, ?_, v_plain_of⟩
  have nd := sc_plain_of.nd
  have hu64 := hr.units
  have hu := hu_of hr
  exact (css_cons (cs_asg (ce_var 0) (cg_tup rfl (cgs_cons (cg_name (i := 1) nd rfl (Or.inl rfl) (by decide)) (cgs_cons (cg_name (i := 2) nd rfl (Or.inl rfl) (by decide)) (cgs_cons (cg_name (i := 3) nd rfl (Or.inl rfl) (by decide)) (cgs_cons (cg_name (i := 4) nd rfl (Or.inl rfl) (by decide)) (cgs_cons (cg_name (i := 5) nd rfl (Or.inl rfl) (by decide)) (cgs_cons (cg_name (i := 6) nd rfl (Or.inl rfl) (by decide)) (cgs_cons (cg_name (i := 7) nd rfl (Or.inl rfl) (by decide)) cgs_nil))))))))) (css_cons (cs_par (i := 8) (j := 9) rfl nd rfl rfl (by decide) rfl rfl (by decide) (by decide) (ca_cons (ce_op op_addA l_add (ce_callB (call_min2 rfl) l_min2 (by rfl) g.b_min bt_min (ca_cons (ce_var 1) (ca_cons (ce_var 2) ca_nil))) (ce_var 3)) (ca_cons (ce_op op_addA l_add (ce_callB (call_max2 rfl) l_max2 (by rfl) g.b_max bt_max (ca_cons (ce_var 1) (ca_cons (ce_var 2) ca_nil))) (ce_var 3)) ca_nil)) rfl) (css_cons (cs_if ((cw_or (ct_cmp op_ge l_cmp (ce_var 4) (ce_var 9) rfl) (cw_or1 ((cw_and (ct_cmp (op_eqA hu64) l_eqS (ce_var 5) ce_str rfl) (cw_and1 (ct_not (ct_tru (ce_var 6)))))).ct))).ct (css_one (cs_ret (ce_tup (ca_cons (ce_var 1) (ca_cons (ce_var 2) (ca_cons (ce_var 3) (ca_cons ce_int (ca_cons ce_str (ca_cons ce_bl (ca_cons (ce_var 7) ca_nil)))))))))) css_nil) (css_cons (cs_if ((cw_and (ct_cmp (op_eqA hu64) l_eqS (ce_var 5) ce_str rfl) (cw_and1 (ct_cmp op_lt l_cmp (ce_var 4) (ce_var 8) rfl)))).ct (css_one (cs_set (i := 7) nd rfl (Or.inl rfl) (by decide) ce_str)) (css_one (cs_if ((cw_and (ct_cmp (op_eqA hu64) l_eqS (ce_var 5) ce_str rfl) (cw_and1 (ct_in op_inA l_in (ce_var 7) (ce_tup (ca_cons ce_str (ca_cons ce_str ca_nil))))))).ct (css_cons (cs_set (i := 10) nd rfl (Or.inl rfl) (by decide) (ce_ifE (ct_cmp op_gt l_cmp (ce_var 1) (ce_var 2) rfl) ce_str ce_str)) (css_one (cs_set (i := 7) nd rfl (Or.inl rfl) (by decide) (ce_ifE (ct_cmp (op_eqA hu64) l_eqS (ce_var 7) (ce_var 10) rfl) ce_str ce_str)))) css_nil))) (css_one (cs_ret (ce_tup (ca_cons (ce_var 1) (ca_cons (ce_var 2) (ca_cons (ce_var 3) (ca_cons (ce_var 4) (ca_cons (ce_var 5) (ca_cons (ce_var 6) (ca_cons (ce_var 7) ca_nil))))))))))))))
theorem sc_found_parting : FnScope N_found_parting ["one", "other"] (defScope s_found_parting) := ⟨rfl, rfl, rfl, by decide +kernel, rfl, by decide +kernel, by decide +kernel⟩
theorem t_found_parting (g : Gm K mg) (sys : SysAt base) (c_plain_of : Cal P w K mg base 1 "plain_of" [] S_plain_of) {f : Addr} {fd : FuncData} {dV : Value} (F : DefAt K mg "found_parting" "found_parting" s_found_parting f fd dV) : FnG P w K mg base CX0 2 f fd ["one", "other"] (spT K S_found_parting) := by
  refine def_ok (N := N_found_parting) (k := 1) 0 F sc_found_parting l_found_parting (by decide) fun cdv A outer s H E hr hgd => ⟨w_found_parting, ?_, v_found_parting⟩
  have nd := sc_found_parting.nd
  have hu64 := hr.units
  have hu := hu_of hr
  exact (css_cons (cs_if (ct_cmp (op_eqA hu64) l_eqS (ce_cal c_plain_of hr (by decide) hgd (by rfl) (ca_cons (ce_var 0) ca_nil)) (ce_cal c_plain_of hr (by decide) hgd (by rfl) (ca_cons (ce_var 1) ca_nil)) rfl) (css_one (cs_ret ce_non)) css_nil) (css_cons cs_never (css_cons cs_never (css_one cs_never))))
theorem sc_parting_record : FnScope N_parting_record ["one", "other"] (defScope s_parting_record) := ⟨rfl, rfl, rfl, by decide +kernel, rfl, by decide +kernel, by decide +kernel⟩
theorem t_parting_record (g : Gm K mg) (sys : SysAt base) (cx_require_rules : CalX P w K mg base 3 "require_rules" [] S_require_rules) (c_found_parting : Cal P w K mg base 2 "found_parting" [] S_found_parting) {f : Addr} {fd : FuncData} {dV : Value} (F : DefAt K mg "parting_record" "parting_record" s_parting_record f fd dV) : FnG P w K mg base (L2N.CX P w) 4 f fd ["one", "other"] (spT K S_parting_record) := by
  refine def_okX (N := N_parting_record) (k := 3) 0 F sc_parting_record l_parting_record (by decide) fun cdv A outer s H E hr hgd => ⟨w_parting_record, ?_, v_parting_record⟩
  have nd := sc_parting_record.nd
  have hu64 := hr.units
  have hu := hu_of hr
  exact (css_cons (cs_callX cx_require_rules rfl hr (by decide) hgd (by rfl) (ca_cons (ce_var 0) ca_nil)) (css_cons (cs_callX cx_require_rules rfl hr (by decide) hgd (by rfl) (ca_cons (ce_var 1) ca_nil)) (css_one (cs_ret (ce_cal c_found_parting hr (by decide) hgd (by rfl) (ca_cons (ce_var 0) (ca_cons (ce_var 1) ca_nil)))))))
theorem sc_fewest_parting : FnScope N_fewest_parting ["one", "other"] (defScope s_fewest_parting) := ⟨rfl, rfl, rfl, by decide +kernel, rfl, by decide +kernel, by decide +kernel⟩
theorem t_fewest_parting (g : Gm K mg) (sys : SysAt base) (cx_require_rules : CalX P w K mg base 3 "require_rules" [] S_require_rules) (c_found_parting : Cal P w K mg base 2 "found_parting" [] S_found_parting) {f : Addr} {fd : FuncData} {dV : Value} (F : DefAt K mg "fewest_parting" "fewest_parting" s_fewest_parting f fd dV) : FnG P w K mg base (L2N.CX P w) 4 f fd ["one", "other"] (spT K S_fewest_parting) := by
  refine def_okX (N := N_fewest_parting) (k := 3) 0 F sc_fewest_parting l_fewest_parting (by decide) fun cdv A outer s H E hr hgd => ⟨w_fewest_parting, ?_, v_fewest_parting⟩
  have nd := sc_fewest_parting.nd
  have hu64 := hr.units
  have hu := hu_of hr
  exact (css_cons (cs_callX cx_require_rules rfl hr (by decide) hgd (by rfl) (ca_cons (ce_var 0) ca_nil)) (css_cons (cs_callX cx_require_rules rfl hr (by decide) hgd (by rfl) (ca_cons (ce_var 1) ca_nil)) (css_cons (cs_set (i := 2) nd rfl (Or.inl rfl) (by decide) (ce_cal c_found_parting hr (by decide) hgd (by rfl) (ca_cons (ce_var 0) (ca_cons (ce_var 1) ca_nil)))) (css_one (cs_ret (ce_ifE (ct_cmp op_isA l_is (ce_var 2) ce_non rfl) ce_non (ce_callB call_lenA l_len (by rfl) g.b_len bt_len (ca_cons (ce_var 2) ca_nil))))))))
theorem sc_are_unlike : FnScope N_are_unlike ["one", "other", "record"] (defScope s_are_unlike) := ⟨rfl, rfl, rfl, by decide +kernel, rfl, by decide +kernel, by decide +kernel⟩
theorem t_are_unlike (g : Gm K mg) (sys : SysAt base) (c_all_runs : Cal P w K mg base 10 "all_runs" [] S_all_runs) (c_length_of : Cal P w K mg base 1 "length_of" [] S_length_of) {f : Addr} {fd : FuncData} {dV : Value} (F : DefAt K mg "are_unlike" "are_unlike" s_are_unlike f fd dV) : FnG P w K mg base CX0 11 f fd ["one", "other", "record"] (spT K S_are_unlike) := by
  refine def_ok (N := N_are_unlike) (k := 10) 0 F sc_are_unlike l_are_unlike (by decide) fun cdv A outer s H E hr hgd => ⟨w_are_unlike, ?_, v_are_unlike⟩
  have nd := sc_are_unlike.nd
  have hu64 := hr.units
  have hu := hu_of hr
  exact (css_cons (cs_par (i := 3) (j := 4) rfl nd rfl rfl (by decide) rfl rfl (by decide) (by decide) (ca_cons (ce_cal c_all_runs hr (by decide) hgd (by rfl) (ca_cons (ce_var 0) (ca_cons (ce_var 2) ca_nil))) (ca_cons (ce_cal c_all_runs hr (by decide) hgd (by rfl) (ca_cons (ce_var 1) (ca_cons (ce_var 2) ca_nil))) ca_nil)) rfl) (css_cons (cs_if (ct_cmp (op_eqA hu64) l_eqS (ce_ix (ce_var 0) ce_int) (ce_ix (ce_var 1) ce_int) rfl) (css_cons (cs_set (i := 5) nd rfl (Or.inl rfl) (by decide) (ce_mS PySem.F.slot_str_join PySem.F.type_str_join mt_join l_join ce_str (ca_cons (ce_lc (own := [("begin", 6), ("word", 7), ("times", 8)]) rfl nd (ci_list (ce_op op_addA l_add (ce_var 3) (ce_var 4))) (blkOk_by (N := N_are_unlike) (sc := defScope s_are_unlike) (by decide +kernel)) (fun _ _ _ _ _ => (cg_tup rfl (cgs_cons (cg_own (i := 6) nd rfl (Or.inl rfl) (by decide)) (cgs_cons (cg_own (i := 7) nd rfl (Or.inl rfl) (by decide)) (cgs_cons (cg_own (i := 8) nd rfl (Or.inl rfl) (by decide)) cgs_nil))))) (fun _ _ _ _ _ => cts_nil) (fun _ _ _ _ _ => (ce_var 7))) ca_nil))) (css_one (cs_ret (ce_or (ce_cmp (op_neA hu64) l_eqS (ce_var 3) (ce_var 4) rfl) (ce_one (ce_callB (cr_any rfl) l_any (by rfl) g.b_any bt_any (ca_cons (ce_lc (own := [("kind", 9)]) rfl nd (ci_str (ce_var 5)) (blkOk_by (N := N_are_unlike) (sc := defScope s_are_unlike) (by decide +kernel)) (fun _ _ _ _ _ => (cg_own (i := 9) nd rfl (Or.inl rfl) (by decide))) (fun _ _ _ _ _ => cts_nil) (fun _ _ _ _ _ => (ce_cmp (op_neA hu64) l_eqS (ce_cal c_length_of hr (by decide) hgd (by rfl) (ca_cons (ce_var 0) (ca_cons (ce_var 9) ca_nil))) (ce_cal c_length_of hr (by decide) hgd (by rfl) (ca_cons (ce_var 1) (ca_cons (ce_var 9) ca_nil))) rfl))) ca_nil))))))) css_nil) (css_cons cs_never (css_one cs_never))))
theorem sc_shows_parting : FnScope N_shows_parting ["one", "other", "value"] (defScope s_shows_parting) := ⟨rfl, rfl, rfl, by decide +kernel, rfl, by decide +kernel, by decide +kernel⟩
theorem t_shows_parting (g : Gm K mg) (sys : SysAt base) (cx_require_rules : CalX P w K mg base 3 "require_rules" [] S_require_rules) (c_are_unlike : Cal P w K mg base 11 "are_unlike" [] S_are_unlike) (c_fault_of_record : Cal P w K mg base 3 "fault_of_record" [] S_fault_of_record) {f : Addr} {fd : FuncData} {dV : Value} (F : DefAt K mg "shows_parting" "shows_parting" s_shows_parting f fd dV) : FnG P w K mg base (L2N.CX P w) 12 f fd ["one", "other", "value"] (spT K S_shows_parting) := by
  refine def_okX (N := N_shows_parting) (k := 11) 0 F sc_shows_parting l_shows_parting (by decide) fun cdv A outer s H E hr hgd => ⟨w_shows_parting, ?_, v_shows_parting⟩
  have nd := sc_shows_parting.nd
  have hu64 := hr.units
  have hu := hu_of hr
  exact (css_cons (cs_callX cx_require_rules rfl hr (by decide) hgd (by rfl) (ca_cons (ce_var 0) ca_nil)) (css_cons (cs_callX cx_require_rules rfl hr (by decide) hgd (by rfl) (ca_cons (ce_var 1) ca_nil)) (css_one (cs_ret (ce_and (ce_cmp (op_eqNil hu64) l_nilL (ce_cal c_fault_of_record hr (by decide) hgd (by rfl) (ca_cons (ce_var 2) ca_nil)) (ce_lst ca_nil) rfl) (ce_one (ce_cal c_are_unlike hr (by decide) hgd (by rfl) (ca_cons (ce_var 0) (ca_cons (ce_var 1) (ca_cons (ce_var 2) ca_nil))))))))))
theorem sc__law_reel : FnScope N__law_reel ["script", "index"] (defScope s__law_reel) := ⟨rfl, rfl, rfl, by decide +kernel, rfl, by decide +kernel, by decide +kernel⟩
theorem t__law_reel (g : Gm K mg) (sys : SysAt base)  {f : Addr} {fd : FuncData} {dV : Value} (F : DefAt K mg "_law_reel" "_law_reel" s__law_reel f fd dV) : FnG P w K mg base CX0 1 f fd ["script", "index"] (spT K S__law_reel) := by
  refine def_ok (N := N__law_reel) (k := 0) 0 F sc__law_reel l__law_reel (by decide) fun cdv A outer s H E hr hgd => ⟨w__law_reel, ?_, v__law_reel⟩
  have nd := sc__law_reel.nd
  have hu64 := hr.units
  have hu := hu_of hr
  exact (css_cons (cs_set (i := 2) nd rfl (Or.inl rfl) (by decide) (ce_ifE (ct_cmp op_lt l_cmp (ce_var 1) (ce_callB call_lenA l_len (by rfl) g.b_len bt_len (ca_cons (ce_var 0) ca_nil)) rfl) (ce_ix (ce_var 0) (ce_var 1)) ce_int)) (css_one (cs_ret (ce_lst (ca_cons (ce_callB (call_max2 rfl) l_max2 (by rfl) g.b_max bt_max (ca_cons ce_int (ca_cons (ce_op op_sub l_sub (ce_callB call_abs l_abs (by rfl) g.b_abs bt_abs (ca_cons (ce_var 2) ca_nil)) (ce_op op_powW l_pow ce_int ce_int)) ca_nil))) (ca_cons (ce_op op_addA l_add (ce_op op_mod l_mod (ce_callTy call_int1 l_int (by rfl) g.b_int bt_int (ca_cons (ce_var 2) ca_nil)) (ce_op op_addA l_add (ce_op op_powW l_pow ce_int ce_int) ce_int)) (ce_op op_mulA l_mul ce_int (ce_op op_addA l_add (ce_var 1) ce_int))) (ca_cons ce_int ca_nil)))))))
theorem sc__law_spin : FnScope N__law_spin ["reel", "many"] (defScope s__law_spin) := ⟨rfl, rfl, rfl, by decide +kernel, rfl, by decide +kernel, by decide +kernel⟩
theorem t__law_spin (g : Gm K mg) (sys : SysAt base)  {f : Addr} {fd : FuncData} {dV : Value} (F : DefAt K mg "_law_spin" "_law_spin" s__law_spin f fd dV) : FnG P w K mg base CX0 1 f fd ["reel", "many"] (spT K S__law_spin) := by
  refine def_ok (N := N__law_spin) (k := 0) 1 F sc__law_spin l__law_spin (by decide) fun cdv A outer s H E hr hgd => ⟨w__law_spin, ?_, v__law_spin⟩
  have nd := sc__law_spin.nd
  have hu64 := hr.units
  have hu := hu_of hr
  exact (css_cons (cs_if (ct_cmp op_gt l_cmp (ce_ix (ce_var 0) ce_int) ce_int rfl) (css_cons (cs_set (i := 2) nd rfl (Or.inl rfl) (by decide) (ce_op op_mod l_mod (ce_callTy call_int1 l_int (by rfl) g.b_int bt_int (ca_cons (ce_ix (ce_var 0) ce_int) ca_nil)) (ce_var 1))) (css_cons (cs_asg (ce_op op_fdivW l_div (ce_ix (ce_var 0) ce_int) (ce_var 1)) (cg_sub (i := 0) hu rfl (Or.inl rfl) ce_int)) (css_one (cs_ret (ce_var 2))))) css_nil) (css_cons (cs_asg (ce_op op_addA l_add (ce_ix (ce_var 0) ce_int) ce_int) (cg_sub (i := 0) hu rfl (Or.inl rfl) ce_int)) (css_cons (cs_set (i := 3) nd rfl (Or.inl rfl) (by decide) (ce_op op_mod l_mod (ce_callTy call_int1 l_int (by rfl) g.b_int bt_int (ca_cons (ce_op op_powW l_pow (ce_op op_addA l_add (ce_ix (ce_var 0) ce_int) (ce_op op_mulA l_mul ce_int (ce_ix (ce_var 0) ce_int))) ce_int) ca_nil)) (ce_op op_addA l_add (ce_op op_powW l_pow ce_int ce_int) ce_int))) (css_cons (cs_set (i := 3) nd rfl (Or.inl rfl) (by decide) (ce_op op_mod l_mod (ce_callTy call_int1 l_int (by rfl) g.b_int bt_int (ca_cons (ce_op op_powW l_pow (ce_op op_addA l_add (ce_var 3) (ce_op op_mulA l_mul ce_int (ce_ix (ce_var 0) ce_int))) ce_int) ca_nil)) (ce_op op_addA l_add (ce_op op_powW l_pow ce_int ce_int) ce_int))) (css_one (cs_ret (ce_op op_mod l_mod (ce_callTy call_int1 l_int (by rfl) g.b_int bt_int (ca_cons (ce_op op_fdivW l_div (ce_var 3) (ce_op op_powW l_pow ce_int ce_int)) ca_nil)) (ce_var 1))))))))
theorem sc__law_rules : FnScope N__law_rules ["reel", "most"] (defScope s__law_rules) := ⟨rfl, rfl, rfl, by decide +kernel, rfl, by decide +kernel, by decide +kernel⟩
theorem t__law_rules (g : Gm K mg) (sys : SysAt base) (c__law_spin : Cal P w K mg base 1 "_law_spin" [] S__law_spin) {f : Addr} {fd : FuncData} {dV : Value} (F : DefAt K mg "_law_rules" "_law_rules" s__law_rules f fd dV) : FnG P w K mg base CX0 2 f fd ["reel", "most"] (spT K S__law_rules) := by
  refine def_ok (N := N__law_rules) (k := 1) 1 F sc__law_rules l__law_rules (by decide) fun cdv A outer s H E hr hgd => ⟨w__law_rules, ?_, v__law_rules⟩
  have nd := sc__law_rules.nd
  have hu64 := hr.units
  have hu := hu_of hr
  exact (css_cons (cs_setLc (i := 2) (own := [("turn", 3)]) rfl nd rfl rfl (by decide) (sw_true rfl rfl rfl (by decide +kernel)) (ci_rng1 (by rfl) g.b_range (ca_cons ce_int ca_nil)) (blkOk_by (N := N__law_rules) (sc := defScope s__law_rules) (by decide +kernel)) (fun _ _ _ _ _ => (cg_own (i := 3) nd rfl (Or.inl rfl) (by decide))) (fun _ _ _ _ _ => cts_nil) (fun _ _ _ _ _ => (ce_op op_addA l_add ce_int (ce_cal c__law_spin hr (by decide) hgd (by rfl) (ca_cons (ce_var 0) (ca_cons (ce_var 1) ca_nil)))))) (css_cons (cs_if (ct_cmp (op_eqA hu64) l_eqS (ce_cal c__law_spin hr (by decide) hgd (by rfl) (ca_cons (ce_var 0) (ca_cons ce_int ca_nil))) ce_int rfl) (css_one (cs_asg (ce_ix (ce_var 2) ce_int) (cg_sub (i := 2) hu rfl (Or.inl rfl) ce_int))) css_nil) (css_cons (cs_par (i := 4) (j := 5) rfl nd rfl rfl (by decide) rfl rfl (by decide) (by decide) (ca_cons (ce_op op_addA l_add (ce_callB (cr_min rfl) l_minL (by rfl) g.b_min bt_min (ca_cons (ce_slice (ce_var 2) co_none (co_some ce_int)) ca_nil)) (ce_ix (ce_var 2) ce_int)) (ca_cons (ce_op op_addA l_add (ce_callB (cr_max rfl) l_maxL (by rfl) g.b_max bt_max (ca_cons (ce_slice (ce_var 2) co_none (co_some ce_int)) ca_nil)) (ce_ix (ce_var 2) ce_int)) ca_nil)) rfl) (css_cons (cs_set (i := 6) nd rfl (Or.inl rfl) (by decide) (ce_lst (ca_cons ce_int (ca_cons ce_int (ca_cons ce_int (ca_cons (ce_cal c__law_spin hr (by decide) hgd (by rfl) (ca_cons (ce_var 0) (ca_cons (ce_var 4) ca_nil))) (ca_cons (ce_op op_addA l_add (ce_var 4) (ce_cal c__law_spin hr (by decide) hgd (by rfl) (ca_cons (ce_var 0) (ca_cons (ce_op op_addA l_add (ce_op op_sub l_sub (ce_var 5) (ce_var 4)) ce_int) ca_nil)))) (ca_cons (ce_op op_sub l_sub (ce_var 4) ce_int) (ca_cons (ce_var 4) (ca_cons (ce_op op_sub l_sub (ce_var 5) ce_int) (ca_cons (ce_var 5) ca_nil))))))))))) (css_cons (cs_expr (ce_app (i := 2) (ce_ix (ce_op op_addA l_add (ce_var 6) (ce_lst (ca_cons (ce_op op_addA l_add (ce_var 5) ce_int) ca_nil))) (ce_cal c__law_spin hr (by decide) hgd (by rfl) (ca_cons (ce_var 0) (ca_cons ce_int ca_nil)))))) (css_cons (cs_set (i := 2) nd rfl (Or.inl rfl) (by decide) (ce_op op_addA l_add (ce_var 2) (ce_lst (ca_cons (ce_ix (ce_lst (ca_cons ce_str (ca_cons ce_str (ca_cons ce_str ca_nil)))) (ce_cal c__law_spin hr (by decide) hgd (by rfl) (ca_cons (ce_var 0) (ca_cons ce_int ca_nil)))) (ca_cons (ce_cmp (op_eqA hu64) l_eqS (ce_cal c__law_spin hr (by decide) hgd (by rfl) (ca_cons (ce_var 0) (ca_cons ce_int ca_nil))) ce_int rfl) ca_nil))))) (css_one (cs_ret (ce_callTy call_tuple_of l_tupleOf (by rfl) g.b_tuple bt_tuple (ca_cons (ce_op op_addA l_add (ce_var 2) (ce_lst (ca_cons (ce_ix (ce_lst (ca_cons ce_str (ca_cons ce_str (ca_cons ce_str (ca_cons ce_str ca_nil))))) (ce_cal c__law_spin hr (by decide) hgd (by rfl) (ca_cons (ce_var 0) (ca_cons ce_int ca_nil)))) ca_nil))) ca_nil))))))))))
theorem sc__law_told : FnScope N__law_told ["e"] (defScope s__law_told) := ⟨rfl, rfl, rfl, by decide +kernel, rfl, by decide +kernel, by decide +kernel⟩
theorem t__law_told (g : Gm K mg) (sys : SysAt base) (xn_Impossible : mg "Impossible" = some (.ref (clsOf K "Impossible"))) (xn_InvalidCases : mg "InvalidCases" = some (.ref (clsOf K "InvalidCases"))) (xn_InvalidCode : mg "InvalidCode" = some (.ref (clsOf K "InvalidCode"))) (xn_InvalidCommand : mg "InvalidCommand" = some (.ref (clsOf K "InvalidCommand"))) (xn_InvalidGaps : mg "InvalidGaps" = some (.ref (clsOf K "InvalidGaps"))) (xn_InvalidKinds : mg "InvalidKinds" = some (.ref (clsOf K "InvalidKinds"))) (xn_InvalidLever : mg "InvalidLever" = some (.ref (clsOf K "InvalidLever"))) (xn_InvalidName : mg "InvalidName" = some (.ref (clsOf K "InvalidName"))) (xn_InvalidNumber : mg "InvalidNumber" = some (.ref (clsOf K "InvalidNumber"))) (xn_InvalidRecord : mg "InvalidRecord" = some (.ref (clsOf K "InvalidRecord"))) (xn_InvalidRules : mg "InvalidRules" = some (.ref (clsOf K "InvalidRules"))) (xn_InvalidRuns : mg "InvalidRuns" = some (.ref (clsOf K "InvalidRuns"))) (xn_InvalidSyntax : mg "InvalidSyntax" = some (.ref (clsOf K "InvalidSyntax"))) (xn_InvalidText : mg "InvalidText" = some (.ref (clsOf K "InvalidText"))) (xn_InvalidTick : mg "InvalidTick" = some (.ref (clsOf K "InvalidTick"))) (xn_NothingToUndo : mg "NothingToUndo" = some (.ref (clsOf K "NothingToUndo"))) (xn_TooLarge : mg "TooLarge" = some (.ref (clsOf K "TooLarge"))) (xv_index : ∀ y ∈ (["InvalidRules", "InvalidRecord", "InvalidRuns", "InvalidKinds", "InvalidCases"] : List Str), XfC K (clsOf K y) ∧ PySem.W.findIn K (.ref (clsOf K y)) "index" = some none) (xv_letter : ∀ y ∈ (["InvalidCode"] : List Str), XfC K (clsOf K y) ∧ PySem.W.findIn K (.ref (clsOf K y)) "letter" = some none) (xv_limit : ∀ y ∈ (["TooLarge"] : List Str), XfC K (clsOf K y) ∧ PySem.W.findIn K (.ref (clsOf K y)) "limit" = some none) (xv_line : ∀ y ∈ (["InvalidSyntax"] : List Str), XfC K (clsOf K y) ∧ PySem.W.findIn K (.ref (clsOf K y)) "line" = some none) (xv_word : ∀ y ∈ (["InvalidSyntax"] : List Str), XfC K (clsOf K y) ∧ PySem.W.findIn K (.ref (clsOf K y)) "word" = some none) (xq_Impossible : ∀ y ∈ allX, ExcC K (clsOf K y) ∧ PySem.W.kitOne K (.ref (clsOf K y)) (.ref (clsOf K "Impossible")) = some ((["Impossible"] : List Str).contains y)) (xq_InvalidCases : ∀ y ∈ allX, ExcC K (clsOf K y) ∧ PySem.W.kitOne K (.ref (clsOf K y)) (.ref (clsOf K "InvalidCases")) = some ((["InvalidCases"] : List Str).contains y)) (xq_InvalidCode : ∀ y ∈ allX, ExcC K (clsOf K y) ∧ PySem.W.kitOne K (.ref (clsOf K y)) (.ref (clsOf K "InvalidCode")) = some ((["InvalidCode"] : List Str).contains y)) (xq_InvalidCommand : ∀ y ∈ allX, ExcC K (clsOf K y) ∧ PySem.W.kitOne K (.ref (clsOf K y)) (.ref (clsOf K "InvalidCommand")) = some ((["InvalidCommand"] : List Str).contains y)) (xq_InvalidGaps : ∀ y ∈ allX, ExcC K (clsOf K y) ∧ PySem.W.kitOne K (.ref (clsOf K y)) (.ref (clsOf K "InvalidGaps")) = some ((["InvalidGaps"] : List Str).contains y)) (xq_InvalidKinds : ∀ y ∈ allX, ExcC K (clsOf K y) ∧ PySem.W.kitOne K (.ref (clsOf K y)) (.ref (clsOf K "InvalidKinds")) = some ((["InvalidKinds"] : List Str).contains y)) (xq_InvalidLever : ∀ y ∈ allX, ExcC K (clsOf K y) ∧ PySem.W.kitOne K (.ref (clsOf K y)) (.ref (clsOf K "InvalidLever")) = some ((["InvalidLever"] : List Str).contains y)) (xq_InvalidName : ∀ y ∈ allX, ExcC K (clsOf K y) ∧ PySem.W.kitOne K (.ref (clsOf K y)) (.ref (clsOf K "InvalidName")) = some ((["InvalidName"] : List Str).contains y)) (xq_InvalidNumber : ∀ y ∈ allX, ExcC K (clsOf K y) ∧ PySem.W.kitOne K (.ref (clsOf K y)) (.ref (clsOf K "InvalidNumber")) = some ((["InvalidNumber"] : List Str).contains y)) (xq_InvalidRecord : ∀ y ∈ allX, ExcC K (clsOf K y) ∧ PySem.W.kitOne K (.ref (clsOf K y)) (.ref (clsOf K "InvalidRecord")) = some ((["InvalidRecord"] : List Str).contains y)) (xq_InvalidRules : ∀ y ∈ allX, ExcC K (clsOf K y) ∧ PySem.W.kitOne K (.ref (clsOf K y)) (.ref (clsOf K "InvalidRules")) = some ((["InvalidRules"] : List Str).contains y)) (xq_InvalidRuns : ∀ y ∈ allX, ExcC K (clsOf K y) ∧ PySem.W.kitOne K (.ref (clsOf K y)) (.ref (clsOf K "InvalidRuns")) = some ((["InvalidRuns"] : List Str).contains y)) (xq_InvalidSyntax : ∀ y ∈ allX, ExcC K (clsOf K y) ∧ PySem.W.kitOne K (.ref (clsOf K y)) (.ref (clsOf K "InvalidSyntax")) = some ((["InvalidSyntax"] : List Str).contains y)) (xq_InvalidText : ∀ y ∈ allX, ExcC K (clsOf K y) ∧ PySem.W.kitOne K (.ref (clsOf K y)) (.ref (clsOf K "InvalidText")) = some ((["InvalidText"] : List Str).contains y)) (xq_InvalidTick : ∀ y ∈ allX, ExcC K (clsOf K y) ∧ PySem.W.kitOne K (.ref (clsOf K y)) (.ref (clsOf K "InvalidTick")) = some ((["InvalidTick"] : List Str).contains y)) (xq_NothingToUndo : ∀ y ∈ allX, ExcC K (clsOf K y) ∧ PySem.W.kitOne K (.ref (clsOf K y)) (.ref (clsOf K "NothingToUndo")) = some ((["NothingToUndo"] : List Str).contains y)) (xq_TooLarge : ∀ y ∈ allX, ExcC K (clsOf K y) ∧ PySem.W.kitOne K (.ref (clsOf K y)) (.ref (clsOf K "TooLarge")) = some ((["TooLarge"] : List Str).contains y)) (xq_ValueError : ∀ y ∈ allX, ExcC K (clsOf K y) ∧ PySem.W.kitOne K (.ref (clsOf K y)) (.type "ValueError") = some ((["KeyerError", "InvalidLever", "InvalidTick", "InvalidNumber", "InvalidGaps", "InvalidText", "InvalidName", "Impossible", "NothingToUndo", "InvalidCommand", "InvalidRules", "InvalidRecord", "InvalidRuns", "InvalidKinds", "InvalidCases", "InvalidCode", "TooLarge", "InvalidSyntax"] : List Str).contains y))  {f : Addr} {fd : FuncData} {dV : Value} (F : DefAt K mg "_law_told" "_law_told" s__law_told f fd dV) : FnK P w K mg base 1 f fd ["e"] S__law_told := by
  refine def_okK (N := N__law_told) (k := 0) 0 F sc__law_told l__law_told (by decide) fun cdv A outer s H E p ey eo hr hgd hk => ⟨w__law_told p.1 ey eo, ?_, v__law_told⟩
  have nd := sc__law_told.nd
  have hu64 := roomK_u64 hr
  have hu := roomK_u1 hr
  exact (css_cons (cs_set (i := 1) nd rfl (Or.inl rfl) (by decide) (ce_lst (ca_cons (ce_tup (ca_cons ce_str (ca_cons (ce_isK hk (ce_var 0) (by rfl) g.b_isinstance bt_isinstance (by rfl) xn_InvalidLever xq_InvalidLever) ca_nil))) (ca_cons (ce_tup (ca_cons ce_str (ca_cons (ce_isK hk (ce_var 0) (by rfl) g.b_isinstance bt_isinstance (by rfl) xn_InvalidTick xq_InvalidTick) ca_nil))) ca_nil)))) (css_cons (cs_set (i := 1) nd rfl (Or.inl rfl) (by decide) (ce_op op_addA l_add (ce_var 1) (ce_lst (ca_cons (ce_tup (ca_cons ce_str (ca_cons (ce_isK hk (ce_var 0) (by rfl) g.b_isinstance bt_isinstance (by rfl) xn_InvalidNumber xq_InvalidNumber) ca_nil))) (ca_cons (ce_tup (ca_cons ce_str (ca_cons (ce_isK hk (ce_var 0) (by rfl) g.b_isinstance bt_isinstance (by rfl) xn_InvalidGaps xq_InvalidGaps) ca_nil))) ca_nil))))) (css_cons (cs_set (i := 1) nd rfl (Or.inl rfl) (by decide) (ce_op op_addA l_add (ce_var 1) (ce_lst (ca_cons (ce_tup (ca_cons ce_str (ca_cons (ce_isK hk (ce_var 0) (by rfl) g.b_isinstance bt_isinstance (by rfl) xn_InvalidText xq_InvalidText) ca_nil))) (ca_cons (ce_tup (ca_cons ce_str (ca_cons (ce_isK hk (ce_var 0) (by rfl) g.b_isinstance bt_isinstance (by rfl) xn_InvalidName xq_InvalidName) ca_nil))) ca_nil))))) (css_cons (cs_set (i := 1) nd rfl (Or.inl rfl) (by decide) (ce_op op_addA l_add (ce_var 1) (ce_lst (ca_cons (ce_tup (ca_cons ce_str (ca_cons (ce_isK hk (ce_var 0) (by rfl) g.b_isinstance bt_isinstance (by rfl) xn_Impossible xq_Impossible) ca_nil))) (ca_cons (ce_tup (ca_cons ce_str (ca_cons (ce_isK hk (ce_var 0) (by rfl) g.b_isinstance bt_isinstance (by rfl) xn_NothingToUndo xq_NothingToUndo) ca_nil))) ca_nil))))) (css_cons (cs_set (i := 1) nd rfl (Or.inl rfl) (by decide) (ce_op op_addA l_add (ce_var 1) (ce_lst (ca_cons (ce_tup (ca_cons ce_str (ca_cons (ce_isK hk (ce_var 0) (by rfl) g.b_isinstance bt_isinstance (by rfl) xn_InvalidCommand xq_InvalidCommand) ca_nil))) (ca_cons (ce_tup (ca_cons ce_str (ca_cons (ce_isK hk (ce_var 0) (by rfl) g.b_isinstance bt_isinstance (by rfl) xn_InvalidRules xq_InvalidRules) ca_nil))) ca_nil))))) (css_cons (cs_set (i := 1) nd rfl (Or.inl rfl) (by decide) (ce_op op_addA l_add (ce_var 1) (ce_lst (ca_cons (ce_tup (ca_cons ce_str (ca_cons (ce_isK hk (ce_var 0) (by rfl) g.b_isinstance bt_isinstance (by rfl) xn_InvalidRecord xq_InvalidRecord) ca_nil))) (ca_cons (ce_tup (ca_cons ce_str (ca_cons (ce_isK hk (ce_var 0) (by rfl) g.b_isinstance bt_isinstance (by rfl) xn_InvalidRuns xq_InvalidRuns) ca_nil))) ca_nil))))) (css_cons (cs_set (i := 1) nd rfl (Or.inl rfl) (by decide) (ce_op op_addA l_add (ce_var 1) (ce_lst (ca_cons (ce_tup (ca_cons ce_str (ca_cons (ce_isK hk (ce_var 0) (by rfl) g.b_isinstance bt_isinstance (by rfl) xn_InvalidKinds xq_InvalidKinds) ca_nil))) (ca_cons (ce_tup (ca_cons ce_str (ca_cons (ce_isK hk (ce_var 0) (by rfl) g.b_isinstance bt_isinstance (by rfl) xn_InvalidCases xq_InvalidCases) ca_nil))) ca_nil))))) (css_cons (cs_set (i := 1) nd rfl (Or.inl rfl) (by decide) (ce_op op_addA l_add (ce_var 1) (ce_lst (ca_cons (ce_tup (ca_cons ce_str (ca_cons (ce_isK hk (ce_var 0) (by rfl) g.b_isinstance bt_isinstance (by rfl) xn_InvalidCode xq_InvalidCode) ca_nil))) (ca_cons (ce_tup (ca_cons ce_str (ca_cons (ce_isK hk (ce_var 0) (by rfl) g.b_isinstance bt_isinstance (by rfl) xn_TooLarge xq_TooLarge) ca_nil))) ca_nil))))) (css_cons (cs_setLcH (i := 2) (own := [("word", 3), ("is_one", 4)]) hk.hotC nd rfl rfl (by decide) (sw_true rfl rfl rfl (by decide +kernel)) (ce_op op_addA l_add (ce_var 1) (ce_lst (ca_cons (ce_tup (ca_cons ce_str (ca_cons (ce_isK hk (ce_var 0) (by rfl) g.b_isinstance bt_isinstance (by rfl) xn_InvalidSyntax xq_InvalidSyntax) ca_nil))) ca_nil))) (blkOk_by (N := N__law_told) (sc := defScope s__law_told) (by decide +kernel)) (fun _ _ _ _ _ hb => (cg_tupB hb (cgs_cons (cg_own (i := 3) nd rfl (Or.inl rfl) (by decide)) (cgs_cons (cg_own (i := 4) nd rfl (Or.inl rfl) (by decide)) cgs_nil)))) (fun _ _ _ _ _ => (cts_one (ct_tru (ce_var 4)))) (fun _ _ _ _ _ => (ce_var 3))) (css_cons (cs_if ((cw_or (ct_cmp (op_neA hu64) l_eqS (ce_callB call_lenA l_len (by rfl) g.b_len bt_len (ca_cons (ce_var 2) ca_nil)) ce_int rfl) (cw_or1 (ct_not (ct_tru (ce_isKV hk (ce_var 0) (by rfl) g.b_isinstance bt_isinstance (by rfl) g.b_ValueError xq_ValueError)))))).ct (css_one (cs_ret (ce_lst (ca_cons ce_str ca_nil)))) css_nil) (css_cons (cs_if (ct_in op_inA l_in (ce_ix (ce_var 2) ce_int) (ce_tup (ca_cons ce_str (ca_cons ce_str (ca_cons ce_str (ca_cons ce_str (ca_cons ce_str ca_nil))))))) (css_one (cs_ret (ce_lst (ca_cons (ce_ix (ce_var 2) ce_int) (ca_cons (ce_fldK hk xv_index (ce_var 0)) ca_nil))))) css_nil) (css_cons (cs_if (ct_cmp (op_eqA hu64) l_eqS (ce_ix (ce_var 2) ce_int) ce_str rfl) (css_one (cs_ret (ce_lst (ca_cons ce_str (ca_cons (ce_fldK hk xv_letter (ce_var 0)) ca_nil))))) css_nil) (css_cons (cs_if (ct_cmp (op_eqA hu64) l_eqS (ce_ix (ce_var 2) ce_int) ce_str rfl) (css_one (cs_ret (ce_lst (ca_cons ce_str (ca_cons (ce_fldK hk xv_line (ce_var 0)) (ca_cons (ce_fldK hk xv_word (ce_var 0)) ca_nil)))))) css_nil) (css_one (cs_ret (ce_ifE (ct_cmp (op_eqA hu64) l_eqS (ce_ix (ce_var 2) ce_int) ce_str rfl) (ce_lst (ca_cons ce_str (ca_cons (ce_fldK hk xv_limit (ce_var 0)) ca_nil))) (ce_var 2)))))))))))))))))
theorem sc__law_bad_rules : FnScope N__law_bad_rules ["reel", "rules"] (defScope s__law_bad_rules) := ⟨rfl, rfl, rfl, by decide +kernel, rfl, by decide +kernel, by decide +kernel⟩
theorem t__law_bad_rules (g : Gm K mg) (sys : SysAt base) (c__law_spin : Cal P w K mg base 1 "_law_spin" [] S__law_spin) {f : Addr} {fd : FuncData} {dV : Value} (F : DefAt K mg "_law_bad_rules" "_law_bad_rules" s__law_bad_rules f fd dV) : FnG P w K mg base CX0 2 f fd ["reel", "rules"] (spT K S__law_bad_rules) := by
  refine def_ok (N := N__law_bad_rules) (k := 1) 1 F sc__law_bad_rules l__law_bad_rules (by decide) fun cdv A outer s H E hr hgd => ⟨w__law_bad_rules, ?_, v__law_bad_rules⟩
  have nd := sc__law_bad_rules.nd
  have hu64 := hr.units
  have hu := hu_of hr
  exact (css_cons (cs_setLc (i := 2) (own := [("value", 3)]) rfl nd rfl rfl (by decide) (sw_true rfl rfl rfl (by decide +kernel)) (ci_tup (ce_tup (ca_cons ce_non (ca_cons ce_int (ca_cons ce_str (ca_cons (ce_lst ca_nil) (ca_cons (ce_tup ca_nil) (ca_cons ce_dnew (ca_cons (ce_callTy call_list_of l_listOf (by rfl) g.b_list bt_list (ca_cons (ce_var 1) ca_nil)) (ca_cons (ce_slice (ce_var 1) co_none (co_some ce_int)) (ca_cons (ce_op op_addA l_add (ce_var 1) (ce_tup (ca_cons ce_int ca_nil))) (ca_cons (ce_tup (ca_cons (ce_var 1) ca_nil)) ca_nil)))))))))))) (blkOk_by (N := N__law_bad_rules) (sc := defScope s__law_bad_rules) (by decide +kernel)) (fun _ _ _ _ _ => (cg_own (i := 3) nd rfl (Or.inl rfl) (by decide))) (fun _ _ _ _ _ => cts_nil) (fun _ _ _ _ _ => (ce_tup (ca_cons (ce_var 3) (ca_cons ce_non ca_nil))))) (css_cons (cs_set (i := 4) nd rfl (Or.inl rfl) (by decide) (ce_op op_addA l_add (ce_op op_mulA l_mul (ce_lst (ca_cons (ce_lst (ca_cons ce_int (ca_cons (ce_un un_neg l_neg ce_int) (ca_cons ce_bl (ca_cons ce_non (ca_cons ce_str (ca_cons (ce_tup (ca_cons ce_int ca_nil)) (ca_cons (ce_lst (ca_cons ce_int ca_nil)) ca_nil)))))))) ca_nil)) ce_int) (ce_lst (ca_cons (ce_lst (ca_cons (ce_un un_neg l_neg ce_int) (ca_cons (ce_un un_neg l_neg ce_int) (ca_cons ce_bl (ca_cons ce_non (ca_cons ce_str (ca_cons (ce_tup (ca_cons ce_int ca_nil)) (ca_cons ce_dnew ca_nil)))))))) ca_nil)))) (css_cons (cs_set (i := 4) nd rfl (Or.inl rfl) (by decide) (ce_op op_addA l_add (ce_var 4) (ce_lst (ca_cons (ce_lst (ca_cons ce_str (ca_cons ce_str (ca_cons ce_str (ca_cons ce_non (ca_cons ce_int (ca_cons ce_bl (ca_cons (ce_tup (ca_cons ce_str ca_nil)) ca_nil)))))))) (ca_cons (ce_lst (ca_cons ce_int (ca_cons ce_int (ca_cons ce_non (ca_cons ce_str (ca_cons ce_str (ca_cons (ce_tup ca_nil) (ca_cons (ce_lst (ca_cons ce_bl ca_nil)) ca_nil)))))))) ca_nil))))) (css_cons (cs_expr (ce_app (i := 4) (ce_lst (ca_cons ce_str (ca_cons ce_str (ca_cons ce_str (ca_cons ce_non (ca_cons ce_int (ca_cons ce_bl (ca_cons (ce_lst (ca_cons ce_str ca_nil)) ca_nil)))))))))) (css_cons (cs_for PassesOwn.never rfl (ci_rng1 (by rfl) g.b_range (ca_cons ce_int ca_nil)) (cg_name (i := 5) nd rfl (Or.inl rfl) (by decide)) (css_one (cs_for PassesOwn.never rfl (ci_list (ce_ix (ce_var 4) (ce_var 5))) (cg_name (i := 6) nd rfl (Or.inl rfl) (by decide)) (css_cons (cs_set (i := 7) nd rfl (Or.inl rfl) (by decide) (ce_callTy call_list_of l_listOf (by rfl) g.b_list bt_list (ca_cons (ce_var 1) ca_nil))) (css_cons (cs_asg (ce_var 6) (cg_sub (i := 7) hu rfl (Or.inl rfl) (ce_var 5))) (css_cons (cs_if (ct_cmp (op_eqA hu64) l_eqS (ce_cal c__law_spin hr (by decide) hgd (by rfl) (ca_cons (ce_var 0) (ca_cons ce_int ca_nil))) ce_int rfl) (css_one (cs_set (i := 7) nd rfl (Or.inl rfl) (by decide) (ce_op op_addA l_add (ce_slice (ce_var 7) co_none (co_some (ce_op op_addA l_add (ce_var 5) ce_int))) (ce_op op_mulA l_mul (ce_lst (ca_cons ce_non ca_nil)) (ce_op op_sub l_sub ce_int (ce_var 5)))))) css_nil) (css_one (cs_expr (ce_app (i := 2) (ce_tup (ca_cons (ce_callTy call_tuple_of l_tupleOf (by rfl) g.b_tuple bt_tuple (ca_cons (ce_var 7) ca_nil)) (ca_cons (ce_var 5) ca_nil)))))))))))) (css_one (cs_ret (ce_var 2))))))))
theorem sc__law_raised : FnScope N__law_raised ["door", "one", "other", "value"] (defScope s__law_raised) := ⟨rfl, rfl, rfl, by decide +kernel, rfl, by decide +kernel, by decide +kernel⟩
theorem t__law_raised (g : Gm K mg) (sys : SysAt base) (xn_KeyerError : mg "KeyerError" = some (.ref (clsOf K "KeyerError"))) (xm_InvalidRules_KeyerError : PySem.W.exmOne K (.ref (clsOf K "InvalidRules")) (.ref (clsOf K "KeyerError")) = some true) (cx_fewest_parting : CalX P w K mg base 4 "fewest_parting" [] S_fewest_parting) (cx_parting_record : CalX P w K mg base 4 "parting_record" [] S_parting_record) (cx_shows_parting : CalX P w K mg base 12 "shows_parting" [] S_shows_parting) (ck__law_told : CalK P w K mg base 1 "_law_told" S__law_told) {f : Addr} {fd : FuncData} {dV : Value} (F : DefAt K mg "_law_raised" "_law_raised" s__law_raised f fd dV) : FnG P w K mg base CX0 13 f fd ["door", "one", "other", "value"] (spT K S__law_raised) := by
  refine def_ok (N := N__law_raised) (k := 12) 0 F sc__law_raised l__law_raised (by decide) fun cdv A outer s H E hr hgd => ⟨w__law_raised, ?_, v__law_raised⟩
  have nd := sc__law_raised.nd
  have hu64 := hr.units
  have hu := hu_of hr
  exact (css_cons (cs_par (i := 4) (j := 5) rfl nd rfl rfl (by decide) rfl rfl (by decide) (by decide) (ca_cons (ce_callB (call_reprD hu64 hgd sys) l_reprD (by rfl) g.b_repr bt_repr (ca_cons (ce_lst (ca_cons (ce_var 1) (ca_cons (ce_var 2) (ca_cons (ce_var 3) ca_nil)))) ca_nil)) (ca_cons (ce_lst ca_nil) ca_nil)) rfl) (css_cons (cs_try (i := 6) (ok := ["InvalidRules"]) rfl rfl nd rfl rfl (by decide) ⟨by rfl, by decide, .inl xn_KeyerError⟩ (List.forall_mem_cons.mpr ⟨xm_InvalidRules_KeyerError, (List.forall_mem_nil _)⟩) (fun pn xe ps => (css_one (cs_if (ct_cmp (op_eqA hu64) l_eqS (ce_var 0) ce_int rfl) (css_one (cs_callX cx_parting_record rfl hr (by decide) hgd (by rfl) (ca_cons (ce_var 1) (ca_cons (ce_var 2) ca_nil)))) (css_one (cs_if (ct_cmp (op_eqA hu64) l_eqS (ce_var 0) ce_int rfl) (css_one (cs_callX cx_fewest_parting rfl hr (by decide) hgd (by rfl) (ca_cons (ce_var 1) (ca_cons (ce_var 2) ca_nil)))) (css_one (cs_callX cx_shows_parting rfl hr (by decide) hgd (by rfl) (ca_cons (ce_var 1) (ca_cons (ce_var 2) (ca_cons (ce_var 3) ca_nil)))))))))) (fun ea oe ey eo pn hy z d => (css_one (cs_set (i := 5) nd rfl (Or.inl rfl) (by decide) (ce_calK ck__law_told (hotK_suite z d) (roomK hr) (by decide) hgd (by rfl) (ca_cons (ce_var 6) ca_nil)))))) (css_one (cs_ret (ce_ifE (ct_cmp (op_eqA hu64) l_eqS (ce_callB (call_reprD hu64 hgd sys) l_reprD (by rfl) g.b_repr bt_repr (ca_cons (ce_lst (ca_cons (ce_var 1) (ca_cons (ce_var 2) (ca_cons (ce_var 3) ca_nil)))) ca_nil)) (ce_var 4) rfl) (ce_var 5) (ce_lst (ca_cons ce_str ca_nil)))))))
theorem sc__law_right : FnScope N__law_right ["reel", "rules"] (defScope s__law_right) := ⟨rfl, rfl, rfl, by decide +kernel, rfl, by decide +kernel, by decide +kernel⟩
theorem t__law_right (g : Gm K mg) (sys : SysAt base) (c__law_bad_rules : Cal P w K mg base 2 "_law_bad_rules" [] S__law_bad_rules) (c__law_raised : Cal P w K mg base 13 "_law_raised" [] S__law_raised) (c__law_spin : Cal P w K mg base 1 "_law_spin" [] S__law_spin) {f : Addr} {fd : FuncData} {dV : Value} (F : DefAt K mg "_law_right" "_law_right" s__law_right f fd dV) : FnG P w K mg base CX0 14 f fd ["reel", "rules"] (spT K S__law_right) := by
  refine def_ok (N := N__law_right) (k := 13) 1 F sc__law_right l__law_right (by decide) fun cdv A outer s H E hr hgd => ⟨w__law_right, ?_, v__law_right⟩
  have nd := sc__law_right.nd
  have hu64 := hr.units
  have hu := hu_of hr
  exact (css_cons (cs_for PassesOwn.never rfl (ci_list (ce_cal c__law_bad_rules hr (by decide) hgd (by rfl) (ca_cons (ce_var 0) (ca_cons (ce_var 1) ca_nil)))) (cg_tup rfl (cgs_cons (cg_name (i := 2) nd rfl (Or.inr rfl) (by decide)) (cgs_cons (cg_name (i := 3) nd rfl (Or.inl rfl) (by decide)) cgs_nil))) (css_cons (cs_asg (ce_tup (ca_cons (ce_callB (call_reprD hu64 hgd sys) l_reprD (by rfl) g.b_repr bt_repr (ca_cons (ce_op op_mulA l_mul (ce_lst (ca_cons (ce_lst (ca_cons ce_str (ca_cons (ce_var 3) ca_nil))) ca_nil)) ce_int) ca_nil)) (ca_cons (ce_ix (ce_lst (ca_cons (ce_var 1) (ca_cons ce_non (ca_cons (ce_tup ca_nil) ca_nil)))) (ce_cal c__law_spin hr (by decide) hgd (by rfl) (ca_cons (ce_var 0) (ca_cons ce_int ca_nil)))) ca_nil))) (cg_tup rfl (cgs_cons (cg_name (i := 4) nd rfl (Or.inl rfl) (by decide)) (cgs_cons (cg_name (i := 5) nd rfl (Or.inr rfl) (by decide)) cgs_nil)))) (css_cons (cs_if (ct_cmp (op_neA hu64) l_eqS (ce_callB (call_reprD hu64 hgd sys) l_reprD (by rfl) g.b_repr bt_repr (ca_cons (ce_lc (own := [("door", 6)]) rfl nd (ci_rng1 (by rfl) g.b_range (ca_cons ce_int ca_nil)) (blkOk_by (N := N__law_right) (sc := defScope s__law_right) (by decide +kernel)) (fun _ _ _ _ _ => (cg_own (i := 6) nd rfl (Or.inl rfl) (by decide))) (fun _ _ _ _ _ => cts_nil) (fun _ _ _ _ _ => (ce_cal c__law_raised hr (by decide) hgd (by rfl) (ca_cons (ce_var 6) (ca_cons (ce_var 2) (ca_cons (ce_var 5) (ca_cons ce_non ca_nil))))))) ca_nil)) (ce_var 4) rfl) (css_one (cs_ret ce_bl)) css_nil) (css_one (cs_if (ct_cmp (op_neA hu64) l_eqS (ce_callB (call_reprD hu64 hgd sys) l_reprD (by rfl) g.b_repr bt_repr (ca_cons (ce_lc (own := [("door", 6)]) rfl nd (ci_rng1 (by rfl) g.b_range (ca_cons ce_int ca_nil)) (blkOk_by (N := N__law_right) (sc := defScope s__law_right) (by decide +kernel)) (fun _ _ _ _ _ => (cg_own (i := 6) nd rfl (Or.inl rfl) (by decide))) (fun _ _ _ _ _ => cts_nil) (fun _ _ _ _ _ => (ce_cal c__law_raised hr (by decide) hgd (by rfl) (ca_cons (ce_var 6) (ca_cons (ce_var 1) (ca_cons (ce_var 2) (ca_cons (ce_lst ca_nil) ca_nil))))))) ca_nil)) (ce_var 4) rfl) (css_one (cs_ret ce_bl)) css_nil))))) (css_cons (cs_set (i := 7) nd rfl (Or.inl rfl) (by decide) (ce_lst (ca_cons ce_non (ca_cons ce_int (ca_cons ce_str (ca_cons (ce_lst ca_nil) (ca_cons (ce_tup ca_nil) (ca_cons ce_dnew (ca_cons (ce_lst (ca_cons ce_non ca_nil)) (ca_cons (ce_lst (ca_cons (ce_tup (ca_cons ce_int (ca_cons ce_str (ca_cons ce_bl ca_nil)))) ca_nil)) (ca_cons (ce_lst (ca_cons (ce_tup (ca_cons ce_int (ca_cons ce_str (ca_cons ce_bl ca_nil)))) (ca_cons (ce_tup (ca_cons ce_int (ca_cons ce_str (ca_cons ce_bl ca_nil)))) ca_nil))) (ca_cons (ce_lst (ca_cons (ce_lst ca_nil) ca_nil)) (ca_cons ce_bl (ca_cons (ce_var 1) ca_nil)))))))))))))) (css_cons (cs_for PassesOwn.never rfl (ci_list (ce_var 7)) (cg_name (i := 8) nd rfl (Or.inl rfl) (by decide)) (css_one (cs_if (ct_cmp (op_neNil hu64) l_nilL (ce_cal c__law_raised hr (by decide) hgd (by rfl) (ca_cons ce_int (ca_cons (ce_var 1) (ca_cons (ce_var 1) (ca_cons (ce_var 8) ca_nil))))) (ce_lst ca_nil) rfl) (css_one (cs_ret ce_bl)) css_nil))) (css_one (cs_ret (ce_cmp (op_eqA hu64) l_eqS (ce_lc (own := [("door", 6)]) rfl nd (ci_rng1 (by rfl) g.b_range (ca_cons ce_int ca_nil)) (blkOk_by (N := N__law_right) (sc := defScope s__law_right) (by decide +kernel)) (fun _ _ _ _ _ => (cg_own (i := 6) nd rfl (Or.inl rfl) (by decide))) (fun _ _ _ _ _ => cts_nil) (fun _ _ _ _ _ => (ce_cal c__law_raised hr (by decide) hgd (by rfl) (ca_cons (ce_var 6) (ca_cons (ce_var 1) (ca_cons (ce_var 1) (ca_cons ce_non ca_nil))))))) (ce_op op_mulA l_mul (ce_lst (ca_cons (ce_lst ca_nil) ca_nil)) ce_int) rfl))))))
theorem sc_law : FnScope N_law ["script"] (defScope s_law) := ⟨rfl, rfl, rfl, by decide +kernel, rfl, by decide +kernel, by decide +kernel⟩
theorem t_law (g : Gm K mg) (sys : SysAt base) (c__law_raised : Cal P w K mg base 13 "_law_raised" [] S__law_raised) (c__law_reel : Cal P w K mg base 1 "_law_reel" [] S__law_reel) (c__law_right : Cal P w K mg base 14 "_law_right" [] S__law_right) (c__law_rules : Cal P w K mg base 2 "_law_rules" [] S__law_rules) (c__law_spin : Cal P w K mg base 1 "_law_spin" [] S__law_spin) {f : Addr} {fd : FuncData} {dV : Value} (F : DefAt K mg "law" "law" s_law f fd dV) : FnG P w K mg base CX0 15 f fd ["script"] (spT K S_law) := by
  refine def_ok (N := N_law) (k := 14) 0 F sc_law l_law (by decide) fun cdv A outer s H E hr hgd => ⟨w_law, ?_, v_law⟩
  have nd := sc_law.nd
  have hu64 := hr.units
  have hu := hu_of hr
  exact (css_cons (cs_for PassesOwn.never rfl (ci_rng1 (by rfl) g.b_range (ca_cons (ce_callB (call_max2 rfl) l_max2 (by rfl) g.b_max bt_max (ca_cons ce_int (ca_cons (ce_callB (call_min2 rfl) l_min2 (by rfl) g.b_min bt_min (ca_cons ce_int (ca_cons (ce_callB call_lenA l_len (by rfl) g.b_len bt_len (ca_cons (ce_var 0) ca_nil)) ca_nil))) ca_nil))) ca_nil)) (cg_name (i := 1) nd rfl (Or.inl rfl) (by decide)) (css_cons (cs_set (i := 2) nd rfl (Or.inl rfl) (by decide) (ce_cal c__law_reel hr (by decide) hgd (by rfl) (ca_cons (ce_var 0) (ca_cons (ce_var 1) ca_nil)))) (css_one (cs_if (ct_not (ct_tru (ce_cal c__law_right hr (by decide) hgd (by rfl) (ca_cons (ce_var 2) (ca_cons (ce_cal c__law_rules hr (by decide) hgd (by rfl) (ca_cons (ce_var 2) (ca_cons (ce_ix (ce_lst (ca_cons ce_int (ca_cons (ce_op op_powW l_pow ce_int ce_int) ca_nil))) (ce_cal c__law_spin hr (by decide) hgd (by rfl) (ca_cons (ce_var 2) (ca_cons ce_int ca_nil)))) ca_nil))) ca_nil))))) (css_one (cs_ret ce_bl)) css_nil)))) (css_cons (cs_set (i := 3) nd rfl (Or.inl rfl) (by decide) (ce_tup (ca_cons ce_int (ca_cons ce_int (ca_cons ce_int (ca_cons ce_int (ca_cons ce_str (ca_cons ce_bl (ca_cons ce_str ca_nil))))))))) (css_cons (cs_set (i := 4) nd rfl (Or.inl rfl) (by decide) (ce_lst (ca_cons (ce_cal c__law_raised hr (by decide) hgd (by rfl) (ca_cons ce_int (ca_cons (ce_var 3) (ca_cons (ce_op op_addA l_add (ce_slice (ce_var 3) co_none (co_some ce_int)) (ce_tup (ca_cons ce_str (ca_cons ce_int (ca_cons ce_str ca_nil))))) (ca_cons ce_non ca_nil))))) ca_nil))) (css_cons (cs_expr (ce_app (i := 4) (ce_cal c__law_raised hr (by decide) hgd (by rfl) (ca_cons ce_int (ca_cons (ce_op op_addA l_add (ce_op op_addA l_add (ce_slice (ce_var 3) co_none (co_some ce_int)) (ce_tup (ca_cons ce_int (ca_cons (ce_un un_neg l_neg ce_int) ca_nil)))) (ce_slice (ce_var 3) (co_some ce_int) co_none)) (ca_cons (ce_tup ca_nil) (ca_cons ce_non ca_nil))))))) (css_one (cs_ret (ce_cmp (op_eqA hu64) l_eqS (ce_var 4) (ce_lst (ca_cons (ce_lst (ca_cons ce_str (ca_cons ce_int ca_nil))) (ca_cons (ce_lst (ca_cons ce_str (ca_cons ce_int ca_nil))) ca_nil))) rfl)))))))
theorem sc_Blocks___init__ : FnScope N_Blocks___init__ ["self"] (defScope s_Blocks___init__) := ⟨rfl, rfl, rfl, by decide +kernel, rfl, by decide +kernel, by decide +kernel⟩
theorem t_Blocks___init__ (g : Gm K mg) (sys : SysAt base) (cf_Blocks : Cf_Blocks K)  {f : Addr} {fd : FuncData} {dV : Value} (F : DefM K "__init__" "Blocks.__init__" s_Blocks___init__ f fd dV) : FnG P w K mg base CX0 1 f fd ["self"] (spT K S_Blocks___init__) := by
  refine def_okM (N := N_Blocks___init__) (k := 0) 1 F sc_Blocks___init__ l_Blocks___init__ (by decide) fun cdv A outer s H E hr hgd => ⟨w_Blocks___init__, ?_, v_Blocks___init__⟩
  have nd := sc_Blocks___init__.nd
  have hu64 := hr.units
  have hu := hu_of hr
  exact (css_one (cs_fldSet (i := 0) true (one_of cf_Blocks.kept_parts) (ce_lst ca_nil)))
theorem sc_Blocks_last_kind : FnScope N_Blocks_last_kind ["self"] (defScope s_Blocks_last_kind) := ⟨rfl, rfl, rfl, by decide +kernel, rfl, by decide +kernel, by decide +kernel⟩
theorem t_Blocks_last_kind (g : Gm K mg) (sys : SysAt base) (cf_Blocks : Cf_Blocks K) (c_other_of : Cal P w K mg base 1 "other_of" [] S_other_of) {f : Addr} {fd : FuncData} {dV : Value} (F : DefM K "last_kind" "Blocks.last_kind" s_Blocks_last_kind f fd dV) : FnG P w K mg base CX0 2 f fd ["self"] (spT K S_Blocks_last_kind) := by
  refine def_okM (N := N_Blocks_last_kind) (k := 1) 1 F sc_Blocks_last_kind l_Blocks_last_kind (by decide) fun cdv A outer s H E hr hgd => ⟨w_Blocks_last_kind, ?_, v_Blocks_last_kind⟩
  have nd := sc_Blocks_last_kind.nd
  have hu64 := hr.units
  have hu := hu_of hr
  exact (css_cons (cs_if (ct_view 0 ["kept_parts"] [] (ct_cmp (op_eqNil hu64) l_nilL (ce_fldC (one_of cf_Blocks.kept_parts) (ce_var 0)) (ce_lst ca_nil) rfl)) (css_one (cs_ret ce_non)) css_nil) (css_cons (cs_asg (ce_view 0 ["kept_parts"] [] (ce_ix (ce_fldC (one_of cf_Blocks.kept_parts) (ce_var 0)) (ce_un un_neg l_neg ce_int))) (cg_tup rfl (cgs_cons (cg_name (i := 1) nd rfl (Or.inl rfl) (by decide)) (cgs_cons (cg_name (i := 2) nd rfl (Or.inl rfl) (by decide)) (cgs_cons (cg_name (i := 3) nd rfl (Or.inl rfl) (by decide)) cgs_nil))))) (css_one (cs_ret (ce_ifE ((cw_and (ct_tru (ce_var 3)) (cw_and1 (ct_cmp (op_eqA hu64) l_eqS (ce_op op_mod l_mod (ce_var 2) ce_int) ce_int rfl)))).ct (ce_cal c_other_of hr (by decide) hgd (by rfl) (ca_cons (ce_var 1) ca_nil)) (ce_var 1))))))
theorem sc_Blocks_put_alternating : FnScope N_Blocks_put_alternating ["self", "kind", "many"] (defScope s_Blocks_put_alternating) := ⟨rfl, rfl, rfl, by decide +kernel, rfl, by decide +kernel, by decide +kernel⟩
theorem t_Blocks_put_alternating (g : Gm K mg) (sys : SysAt base) (cf_Blocks : Cf_Blocks K)  {f : Addr} {fd : FuncData} {dV : Value} (F : DefM K "put_alternating" "Blocks.put_alternating" s_Blocks_put_alternating f fd dV) : FnG P w K mg base CX0 1 f fd ["self", "kind", "many"] (spT K S_Blocks_put_alternating) := by
  refine def_okM (N := N_Blocks_put_alternating) (k := 0) 1 F sc_Blocks_put_alternating l_Blocks_put_alternating (by decide) fun cdv A outer s H E hr hgd => ⟨w_Blocks_put_alternating, ?_, v_Blocks_put_alternating⟩
  have nd := sc_Blocks_put_alternating.nd
  have hu64 := hr.units
  have hu := hu_of hr
  exact (css_one (cs_if (ct_view 0 ["kept_parts"] [] ((cw_and (ct_cmp op_gt l_cmp (ce_var 2) ce_int rfl) (cw_and (ct_cmp (op_neNil hu64) l_nilL (ce_fldC (one_of cf_Blocks.kept_parts) (ce_var 0)) (ce_lst ca_nil) rfl) (cw_and1 (ct_tru (ce_ix (ce_ix (ce_fldC (one_of cf_Blocks.kept_parts) (ce_var 0)) (ce_un un_neg l_neg ce_int)) ce_int)))))).ct) (css_cons (cs_asg (ce_fpop (i := 0) (one_of cf_Blocks.kept_parts)) (cg_tup rfl (cgs_cons (cg_name (i := 3) nd rfl (Or.inl rfl) (by decide)) (cgs_cons (cg_name (i := 4) nd rfl (Or.inl rfl) (by decide)) (cgs_cons (cg_name (i := 5) nd rfl (Or.inl rfl) (by decide)) cgs_nil))))) (css_one (cs_expr (ce_fapp (i := 0) ["kept_parts"] [] (one_of cf_Blocks.kept_parts) (ce_tup (ca_cons (ce_var 3) (ca_cons (ce_op op_addA l_add (ce_var 4) (ce_var 2)) (ca_cons ce_bl ca_nil)))))))) (css_one (cs_if (ct_cmp op_gt l_cmp (ce_var 2) ce_int rfl) (css_one (cs_expr (ce_fapp (i := 0) ["kept_parts"] [] (one_of cf_Blocks.kept_parts) (ce_tup (ca_cons (ce_var 1) (ca_cons (ce_var 2) (ca_cons ce_bl ca_nil))))))) css_nil))))
theorem sc_Blocks_put_same : FnScope N_Blocks_put_same ["self", "kind", "many"] (defScope s_Blocks_put_same) := ⟨rfl, rfl, rfl, by decide +kernel, rfl, by decide +kernel, by decide +kernel⟩
theorem t_Blocks_put_same (g : Gm K mg) (sys : SysAt base) (cf_Blocks : Cf_Blocks K) (m_Blocks_last_kind : MethAt P w K mg base 2 "Blocks" "last_kind" S_Blocks_last_kind) (m_Blocks_put_alternating : MethAt P w K mg base 1 "Blocks" "put_alternating" S_Blocks_put_alternating)  {f : Addr} {fd : FuncData} {dV : Value} (F : DefM K "put_same" "Blocks.put_same" s_Blocks_put_same f fd dV) : FnG P w K mg base CX0 3 f fd ["self", "kind", "many"] (spT K S_Blocks_put_same) := by
  refine def_okM (N := N_Blocks_put_same) (k := 2) 1 F sc_Blocks_put_same l_Blocks_put_same (by decide) fun cdv A outer s H E hr hgd => ⟨w_Blocks_put_same, ?_, v_Blocks_put_same⟩
  have nd := sc_Blocks_put_same.nd
  have hu64 := hr.units
  have hu := hu_of hr
  exact (css_one (cs_if ((cw_and (ct_cmp (op_neA hu64) l_eqS (ce_meth0 m_Blocks_last_kind hr (by decide) hgd (ce_var 0)) (ce_var 1) rfl) (cw_and1 (ct_cmp (op_eqA hu64) l_eqS (ce_var 2) ce_int rfl)))).ct (css_one (cs_expr (ce_meth m_Blocks_put_alternating hr (by decide) hgd (ce_var 0) (ca_cons (ce_var 1) (ca_cons ce_int ca_nil))))) (css_one (cs_if (ct_cmp (op_neA hu64) l_eqS (ce_meth0 m_Blocks_last_kind hr (by decide) hgd (ce_var 0)) (ce_var 1) rfl) (css_one (cs_expr (ce_fapp (i := 0) ["kept_parts"] [] (one_of cf_Blocks.kept_parts) (ce_tup (ca_cons (ce_var 1) (ca_cons (ce_var 2) (ca_cons ce_bl ca_nil))))))) (css_cons (cs_asg (ce_fpop (i := 0) (one_of cf_Blocks.kept_parts)) (cg_tup rfl (cgs_cons (cg_name (i := 3) nd rfl (Or.inl rfl) (by decide)) (cgs_cons (cg_name (i := 4) nd rfl (Or.inl rfl) (by decide)) (cgs_cons (cg_name (i := 5) nd rfl (Or.inl rfl) (by decide)) cgs_nil))))) (css_cons (cs_if ((cw_and (ct_tru (ce_var 5)) (cw_and1 (ct_cmp op_gt l_cmp (ce_var 4) ce_int rfl)))).ct (css_one (cs_expr (ce_fapp (i := 0) ["kept_parts"] [] (one_of cf_Blocks.kept_parts) (ce_tup (ca_cons (ce_var 3) (ca_cons (ce_op op_sub l_sub (ce_var 4) ce_int) (ca_cons ce_bl ca_nil))))))) css_nil) (css_one (cs_expr (ce_fapp (i := 0) ["kept_parts"] [] (one_of cf_Blocks.kept_parts) (ce_tup (ca_cons (ce_var 1) (ca_cons (ce_op op_addA l_add (ce_var 2) (ce_ifE (ct_tru (ce_var 5)) ce_int (ce_var 4))) (ca_cons ce_bl ca_nil)))))))))))))
theorem sc_Blocks_put_in : FnScope N_Blocks_put_in ["self", "word", "times"] (defScope s_Blocks_put_in) := ⟨rfl, rfl, rfl, by decide +kernel, rfl, by decide +kernel, by decide +kernel⟩
theorem t_Blocks_put_in (g : Gm K mg) (sys : SysAt base) (m_Blocks_put_alternating : MethAt P w K mg base 1 "Blocks" "put_alternating" S_Blocks_put_alternating) (m_Blocks_put_same : MethAt P w K mg base 3 "Blocks" "put_same" S_Blocks_put_same)  {f : Addr} {fd : FuncData} {dV : Value} (F : DefM K "put_in" "Blocks.put_in" s_Blocks_put_in f fd dV) : FnG P w K mg base CX0 4 f fd ["self", "word", "times"] (spT K S_Blocks_put_in) := by
  refine def_okM (N := N_Blocks_put_in) (k := 3) 1 F sc_Blocks_put_in l_Blocks_put_in (by decide) fun cdv A outer s H E hr hgd => ⟨w_Blocks_put_in, ?_, v_Blocks_put_in⟩
  have nd := sc_Blocks_put_in.nd
  have hu64 := hr.units
  have hu := hu_of hr
  exact (css_one (cs_if (ct_cmp (op_eqA hu64) l_eqS (ce_callB call_lenA l_len (by rfl) g.b_len bt_len (ca_cons (ce_var 1) ca_nil)) ce_int rfl) (css_one (cs_expr (ce_meth m_Blocks_put_same hr (by decide) hgd (ce_var 0) (ca_cons (ce_var 1) (ca_cons (ce_var 2) ca_nil))))) (css_cons (cs_expr (ce_meth m_Blocks_put_same hr (by decide) hgd (ce_var 0) (ca_cons (ce_ix (ce_var 1) ce_int) (ca_cons ce_int ca_nil)))) (css_one (cs_expr (ce_meth m_Blocks_put_alternating hr (by decide) hgd (ce_var 0) (ca_cons (ce_ix (ce_var 1) ce_int) (ca_cons (ce_op op_sub l_sub (ce_op op_mulA l_mul ce_int (ce_var 2)) ce_int) ca_nil))))))))
theorem sc_Blocks_tidy : FnScope N_Blocks_tidy ["self"] (defScope s_Blocks_tidy) := ⟨rfl, rfl, rfl, by decide +kernel, rfl, by decide +kernel, by decide +kernel⟩
theorem t_Blocks_tidy (g : Gm K mg) (sys : SysAt base) (cf_Blocks : Cf_Blocks K) (c_other_of : Cal P w K mg base 1 "other_of" [] S_other_of) {f : Addr} {fd : FuncData} {dV : Value} (F : DefM K "tidy" "Blocks.tidy" s_Blocks_tidy f fd dV) : FnG P w K mg base CX0 2 f fd ["self"] (spT K S_Blocks_tidy) := by
  obtain ⟨a_ALTERNATING, k_ALTERNATING⟩ := g.c_ALTERNATING
  refine def_okM (N := N_Blocks_tidy) (k := 1) 0 F sc_Blocks_tidy l_Blocks_tidy (by decide) fun cdv A outer s H E hr hgd => ⟨w_Blocks_tidy, ?_, v_Blocks_tidy⟩
  have nd := sc_Blocks_tidy.nd
  have hu64 := hr.units
  have hu := hu_of hr
  exact (css_cons (cs_par (i := 1) (j := 2) rfl nd rfl rfl (by decide) rfl rfl (by decide) (by decide) (ca_cons (ce_lst ca_nil) (ca_cons (ce_revL (ce_fldC (one_of cf_Blocks.kept_parts) (ce_var 0))) ca_nil)) rfl) (css_cons (cs_while PassesOwn.never (ct_cmp (op_neNil hu64) l_nilL (ce_var 2) (ce_lst ca_nil) rfl) (css_cons (cs_asg (ce_pop (i := 2)) (cg_tup rfl (cgs_cons (cg_name (i := 3) nd rfl (Or.inl rfl) (by decide)) (cgs_cons (cg_name (i := 4) nd rfl (Or.inl rfl) (by decide)) (cgs_cons (cg_name (i := 5) nd rfl (Or.inl rfl) (by decide)) cgs_nil))))) (css_cons (cs_if ((cw_and (ct_not (ct_tru (ce_var 5))) (cw_and1 (ct_cmp op_gt l_cmp (ce_var 4) ce_int rfl)))).ct (css_cons (cs_expr (ce_app (i := 1) (ce_tup (ca_cons (ce_var 3) (ca_cons (ce_var 4) ca_nil))))) (css_one cs_cont)) css_nil) (css_cons (cs_set (i := 6) nd rfl (Or.inl rfl) (by decide) (ce_op op_addA l_add (ce_var 4) (ce_ifE (ct_cmp (op_neNil hu64) l_nilL (ce_var 2) (ce_lst ca_nil) rfl) ce_int ce_int))) (css_cons (cs_if (ct_cmp op_lt l_cmp (ce_var 6) (ce_glob (v := .int 4) (by rfl) k_ALTERNATING ⟨_, rfl⟩ fun _ _ => .int 4) rfl) (css_cons (cs_expr (ce_app (i := 1) (ce_tup (ca_cons (ce_var 3) (ca_cons ce_int ca_nil))))) (css_one (cs_set (i := 7) nd rfl (Or.inl rfl) (by decide) ce_int))) (css_cons (cs_expr (ce_app (i := 1) (ce_tup (ca_cons (ce_op op_addA l_add (ce_var 3) (ce_cal c_other_of hr (by decide) hgd (by rfl) (ca_cons (ce_var 3) ca_nil))) (ca_cons (ce_op op_fdivW l_div (ce_var 6) ce_int) ca_nil))))) (css_one (cs_set (i := 7) nd rfl (Or.inl rfl) (by decide) (ce_op op_mulA l_mul (ce_op op_fdivW l_div (ce_var 6) ce_int) ce_int))))) (css_one (cs_if (ct_cmp op_lt l_cmp (ce_var 7) (ce_var 4) rfl) (css_one (cs_expr (ce_app (i := 2) (ce_tup (ca_cons (ce_ifE (ct_cmp (op_eqA hu64) l_eqS (ce_op op_mod l_mod (ce_var 7) ce_int) ce_int rfl) (ce_var 3) (ce_cal c_other_of hr (by decide) hgd (by rfl) (ca_cons (ce_var 3) ca_nil))) (ca_cons (ce_op op_sub l_sub (ce_var 4) (ce_var 7)) (ca_cons ce_bl ca_nil))))))) (css_one (cs_if (ct_cmp op_gt l_cmp (ce_var 7) (ce_var 4) rfl) (css_cons (cs_asg (ce_pop (i := 2)) (cg_tup rfl (cgs_cons (cg_name (i := 8) nd rfl (Or.inl rfl) (by decide)) (cgs_cons (cg_name (i := 9) nd rfl (Or.inl rfl) (by decide)) (cgs_cons (cg_name (i := 10) nd rfl (Or.inl rfl) (by decide)) cgs_nil))))) (css_cons (cs_set (i := 11) nd rfl (Or.inl rfl) (by decide) (ce_ifE ((cw_and (ct_cmp (op_eqA hu64) l_eqS (ce_var 9) ce_int rfl) (cw_and (ct_cmp (op_neNil hu64) l_nilL (ce_var 2) (ce_lst ca_nil) rfl) (cw_and1 (ct_tru (ce_ix (ce_ix (ce_var 2) (ce_un un_neg l_neg ce_int)) ce_int)))))).ct (ce_ix (ce_pop (i := 2)) ce_int) ce_int)) (css_one (cs_expr (ce_app (i := 2) (ce_tup (ca_cons (ce_var 8) (ca_cons (ce_op op_addA l_add (ce_op op_sub l_sub (ce_var 9) ce_int) (ce_var 11)) (ca_cons (ce_cmp (op_eqA hu64) l_eqS (ce_var 9) ce_int rfl) ca_nil))))))))) css_nil))))))))) (css_one (cs_ret (ce_var 1)))))
theorem sc_State___init__ : FnScope N_State___init__ ["self", "rules", "is_logged"] (defScope s_State___init__) := ⟨rfl, rfl, rfl, by decide +kernel, rfl, by decide +kernel, by decide +kernel⟩
theorem t_State___init__ (g : Gm K mg) (sys : SysAt base) (cf_State : Cf_State K)  {f : Addr} {fd : FuncData} {dV : Value} (F : DefM K "__init__" "State.__init__" s_State___init__ f fd dV) : FnG P w K mg base CX0 1 f fd ["self", "rules", "is_logged"] (spT K S_State___init__) := by
  obtain ⟨a_STEP_WORDS, k_STEP_WORDS⟩ := g.c_STEP_WORDS
  refine def_okM (N := N_State___init__) (k := 0) 1 F sc_State___init__ l_State___init__ (by decide) fun cdv A outer s H E hr hgd => ⟨w_State___init__, ?_, v_State___init__⟩
  have nd := sc_State___init__.nd
  have hu64 := hr.units
  have hu := hu_of hr
  exact (css_cons (cs_fldSet (i := 0) false (one_of cf_State.kept_rules) (ce_var 1)) (css_cons (cs_fldSet (i := 0) false (one_of cf_State.kept_is_logged) (ce_var 2)) (css_cons (cs_fldSet (i := 0) false (one_of cf_State.kept_kind) ce_non) (css_cons (cs_fldSet (i := 0) false (one_of cf_State.kept_begin) ce_int) (css_cons (cs_fldSet (i := 0) false (one_of cf_State.kept_is_heard) ce_bl) (css_cons (cs_fldSet (i := 0) false (one_of cf_State.kept_is_other) ce_bl) (css_cons (cs_fldSet (i := 0) false (one_of cf_State.kept_is_own) ce_bl) (css_cons (cs_fldSet (i := 0) false (one_of cf_State.kept_down) (ce_lst ca_nil)) (css_cons (cs_fldSet (i := 0) true (one_of cf_State.kept_runs) (ce_lst ca_nil)) (css_cons (cs_fldSet (i := 0) true (one_of cf_State.kept_counts) (ce_dc (own := [("word", 3)]) rfl nd (ci_tup (ce_glob (v := .ref a_STEP_WORDS) (by rfl) k_STEP_WORDS.1 rfl k_STEP_WORDS.2)) (blkOk_by (N := N_State___init__) (sc := defScope s_State___init__) (by decide +kernel)) (fun _ _ _ _ _ => (cg_own (i := 3) nd rfl (Or.inl rfl) (by decide))) (fun _ _ _ _ _ => cts_nil) (fun _ _ _ _ _ => (ce_var 3)) (fun _ _ _ _ _ => ce_int))) (css_one (cs_fldSet (i := 0) true (one_of cf_State.kept_log) (ce_lst ca_nil)))))))))))))
theorem sc_State_note : FnScope N_State_note ["self", "tick", "word"] (defScope s_State_note) := ⟨rfl, rfl, rfl, by decide +kernel, rfl, by decide +kernel, by decide +kernel⟩
theorem t_State_note (g : Gm K mg) (sys : SysAt base) (cf_State : Cf_State K)  {f : Addr} {fd : FuncData} {dV : Value} (F : DefM K "note" "State.note" s_State_note f fd dV) : FnG P w K mg base CX0 1 f fd ["self", "tick", "word"] (spT K S_State_note) := by
  refine def_okM (N := N_State_note) (k := 0) 1 F sc_State_note l_State_note (by decide) fun cdv A outer s H E hr hgd => ⟨w_State_note, ?_, v_State_note⟩
  have nd := sc_State_note.nd
  have hu64 := hr.units
  have hu := hu_of hr
  exact (css_cons (cs_faugd (i := 0) ["kept_runs", "kept_log"] ["kept_counts"] hu (one_of cf_State.kept_counts) (ce_var 2) ce_int) (css_one (cs_if (ct_tru (ce_fldC (one_of cf_State.kept_is_logged) (ce_var 0))) (css_one (cs_expr (ce_fapp (i := 0) ["kept_runs", "kept_log"] ["kept_counts"] (one_of cf_State.kept_log) (ce_tup (ca_cons (ce_var 1) (ca_cons (ce_var 2) ca_nil)))))) css_nil)))
theorem sc_State_note_other : FnScope N_State_note_other ["self", "tick"] (defScope s_State_note_other) := ⟨rfl, rfl, rfl, by decide +kernel, rfl, by decide +kernel, by decide +kernel⟩
theorem t_State_note_other (g : Gm K mg) (sys : SysAt base) (cf_State : Cf_State K) (m_State_note : MethAt P w K mg base 1 "State" "note" S_State_note) (c_other_of : Cal P w K mg base 1 "other_of" [] S_other_of) {f : Addr} {fd : FuncData} {dV : Value} (F : DefM K "note_other" "State.note_other" s_State_note_other f fd dV) : FnG P w K mg base CX0 2 f fd ["self", "tick"] (spT K S_State_note_other) := by
  refine def_okM (N := N_State_note_other) (k := 1) 1 F sc_State_note_other l_State_note_other (by decide) fun cdv A outer s H E hr hgd => ⟨w_State_note_other, ?_, v_State_note_other⟩
  have nd := sc_State_note_other.nd
  have hu64 := hr.units
  have hu := hu_of hr
  exact (css_cons (cs_fldSet (i := 0) false (one_of cf_State.kept_is_other) ce_bl) (css_one (cs_expr (ce_meth m_State_note hr (by decide) hgd (ce_var 0) (ca_cons (ce_var 1) (ca_cons (ce_op op_addA l_add ce_str (ce_cal c_other_of hr (by decide) hgd (by rfl) (ca_cons (ce_fldC (one_of cf_State.kept_kind) (ce_var 0)) ca_nil))) ca_nil))))))
theorem sc_State_is_held_other : FnScope N_State_is_held_other ["self", "kind"] (defScope s_State_is_held_other) := ⟨rfl, rfl, rfl, by decide +kernel, rfl, by decide +kernel, by decide +kernel⟩
theorem t_State_is_held_other (g : Gm K mg) (sys : SysAt base) (cf_State : Cf_State K) (c_can_hear : Cal P w K mg base 3 "can_hear" [] S_can_hear) (c_other_of : Cal P w K mg base 1 "other_of" [] S_other_of) {f : Addr} {fd : FuncData} {dV : Value} (F : DefM K "is_held_other" "State.is_held_other" s_State_is_held_other f fd dV) : FnG P w K mg base CX0 4 f fd ["self", "kind"] (spT K S_State_is_held_other) := by
  refine def_okM (N := N_State_is_held_other) (k := 3) 1 F sc_State_is_held_other l_State_is_held_other (by decide) fun cdv A outer s H E hr hgd => ⟨w_State_is_held_other, ?_, v_State_is_held_other⟩
  have nd := sc_State_is_held_other.nd
  have hu64 := hr.units
  have hu := hu_of hr
  exact (css_one (cs_ret (ce_and (ce_cmp (op_eqA hu64) l_eqS (ce_ix (ce_fldC (one_of cf_State.kept_rules) (ce_var 0)) ce_int) ce_str rfl) (ce_and (ce_cal c_can_hear hr (by decide) hgd (by rfl) (ca_cons (ce_fldC (one_of cf_State.kept_rules) (ce_var 0)) (ca_cons (ce_var 1) ca_nil))) (ce_one (ce_in op_inA l_in (ce_cal c_other_of hr (by decide) hgd (by rfl) (ca_cons (ce_var 1) ca_nil)) (ce_fldC (one_of cf_State.kept_down) (ce_var 0))))))))
theorem sc_State_start : FnScope N_State_start ["self", "tick", "kind"] (defScope s_State_start) := ⟨rfl, rfl, rfl, by decide +kernel, rfl, by decide +kernel, by decide +kernel⟩
theorem t_State_start (g : Gm K mg) (sys : SysAt base) (cf_State : Cf_State K) (m_State_is_held_other : MethAt P w K mg base 4 "State" "is_held_other" S_State_is_held_other) (m_State_note : MethAt P w K mg base 1 "State" "note" S_State_note) (m_State_note_other : MethAt P w K mg base 2 "State" "note_other" S_State_note_other) (c_can_hear : Cal P w K mg base 3 "can_hear" [] S_can_hear) {f : Addr} {fd : FuncData} {dV : Value} (F : DefM K "start" "State.start" s_State_start f fd dV) : FnG P w K mg base CX0 5 f fd ["self", "tick", "kind"] (spT K S_State_start) := by
  refine def_okM (N := N_State_start) (k := 4) 1 F sc_State_start l_State_start (by decide) fun cdv A outer s H E hr hgd => ⟨w_State_start, ?_, v_State_start⟩
  have nd := sc_State_start.nd
  have hu64 := hr.units
  have hu := hu_of hr
  exact (css_cons (cs_asg (ce_tup (ca_cons (ce_var 2) (ca_cons (ce_var 1) ca_nil))) (cg_tup rfl (cgs_cons (cg_fld (i := 0) false (one_of cf_State.kept_kind)) (cgs_cons (cg_fld (i := 0) false (one_of cf_State.kept_begin)) cgs_nil)))) (css_cons (cs_asg (ce_tup (ca_cons ce_bl (ca_cons ce_bl ca_nil))) (cg_tup rfl (cgs_cons (cg_fld (i := 0) false (one_of cf_State.kept_is_other)) (cgs_cons (cg_fld (i := 0) false (one_of cf_State.kept_is_own)) cgs_nil)))) (css_cons (cs_fldSet (i := 0) false (one_of cf_State.kept_is_heard) (ce_and (ce_cmp (op_eqA hu64) l_eqS (ce_ix (ce_fldC (one_of cf_State.kept_rules) (ce_var 0)) ce_int) ce_int rfl) (ce_one (ce_cal c_can_hear hr (by decide) hgd (by rfl) (ca_cons (ce_fldC (one_of cf_State.kept_rules) (ce_var 0)) (ca_cons (ce_var 2) ca_nil)))))) (css_cons (cs_expr (ce_fapp (i := 0) ["kept_runs", "kept_log"] ["kept_counts"] (one_of cf_State.kept_runs) (ce_tup (ca_cons (ce_var 1) (ca_cons (ce_var 2) (ca_cons ce_int ca_nil)))))) (css_cons (cs_expr (ce_meth m_State_note hr (by decide) hgd (ce_var 0) (ca_cons (ce_var 1) (ca_cons (ce_op op_addA l_add ce_str (ce_var 2)) ca_nil)))) (css_one (cs_if ((cw_and (ct_tru (ce_fldC (one_of cf_State.kept_is_heard) (ce_var 0))) (cw_and1 (ct_tru (ce_meth m_State_is_held_other hr (by decide) hgd (ce_var 0) (ca_cons (ce_var 2) ca_nil)))))).ct (css_one (cs_expr (ce_meth m_State_note_other hr (by decide) hgd (ce_var 0) (ca_cons (ce_var 1) ca_nil)))) css_nil)))))))
theorem sc_State_hear : FnScope N_State_hear ["self", "tick"] (defScope s_State_hear) := ⟨rfl, rfl, rfl, by decide +kernel, rfl, by decide +kernel, by decide +kernel⟩
theorem t_State_hear (g : Gm K mg) (sys : SysAt base) (cf_State : Cf_State K) (m_State_is_held_other : MethAt P w K mg base 4 "State" "is_held_other" S_State_is_held_other) (m_State_note : MethAt P w K mg base 1 "State" "note" S_State_note) (m_State_note_other : MethAt P w K mg base 2 "State" "note_other" S_State_note_other)  {f : Addr} {fd : FuncData} {dV : Value} (F : DefM K "hear" "State.hear" s_State_hear f fd dV) : FnG P w K mg base CX0 5 f fd ["self", "tick"] (spT K S_State_hear) := by
  refine def_okM (N := N_State_hear) (k := 4) 1 F sc_State_hear l_State_hear (by decide) fun cdv A outer s H E hr hgd => ⟨w_State_hear, ?_, v_State_hear⟩
  have nd := sc_State_hear.nd
  have hu64 := hr.units
  have hu := hu_of hr
  exact (css_cons (cs_fldSet (i := 0) false (one_of cf_State.kept_is_heard) ce_bl) (css_cons (cs_expr (ce_meth m_State_note hr (by decide) hgd (ce_var 0) (ca_cons (ce_var 1) (ca_cons ce_str ca_nil)))) (css_one (cs_if (ct_tru (ce_meth m_State_is_held_other hr (by decide) hgd (ce_var 0) (ca_cons (ce_fldC (one_of cf_State.kept_kind) (ce_var 0)) ca_nil))) (css_one (cs_expr (ce_meth m_State_note_other hr (by decide) hgd (ce_var 0) (ca_cons (ce_var 1) ca_nil)))) css_nil))))
theorem sc_State_decide : FnScope N_State_decide ["self", "tick"] (defScope s_State_decide) := ⟨rfl, rfl, rfl, by decide +kernel, rfl, by decide +kernel, by decide +kernel⟩
theorem t_State_decide (g : Gm K mg) (sys : SysAt base) (cf_State : Cf_State K) (m_State_note : MethAt P w K mg base 1 "State" "note" S_State_note) (m_State_start : MethAt P w K mg base 5 "State" "start" S_State_start) (c_outcome : Cal P w K mg base 2 "outcome" [] S_outcome) {f : Addr} {fd : FuncData} {dV : Value} (F : DefM K "decide" "State.decide" s_State_decide f fd dV) : FnG P w K mg base CX0 6 f fd ["self", "tick"] (spT K S_State_decide) := by
  refine def_okM (N := N_State_decide) (k := 5) 1 F sc_State_decide l_State_decide (by decide) fun cdv A outer s H E hr hgd => ⟨w_State_decide, ?_, v_State_decide⟩
  have nd := sc_State_decide.nd
  have hu64 := hr.units
  have hu := hu_of hr
  exact (css_cons (cs_set (i := 2) nd rfl (Or.inl rfl) (by decide) (ce_cal c_outcome hr (by decide) hgd (by rfl) (ca_cons (ce_fldC (one_of cf_State.kept_rules) (ce_var 0)) (ca_cons (ce_fldC (one_of cf_State.kept_kind) (ce_var 0)) (ca_cons (ce_fldC (one_of cf_State.kept_down) (ce_var 0)) (ca_cons (ce_fldC (one_of cf_State.kept_is_other) (ce_var 0)) (ca_cons (ce_fldC (one_of cf_State.kept_is_own) (ce_var 0)) ca_nil))))))) (css_one (cs_if (ct_cmp op_isA l_is (ce_var 2) ce_non rfl) (css_cons (cs_asg (ce_tup (ca_cons ce_non (ca_cons ce_bl (ca_cons ce_bl ca_nil)))) (cg_tup rfl (cgs_cons (cg_fld (i := 0) false (one_of cf_State.kept_kind)) (cgs_cons (cg_fld (i := 0) false (one_of cf_State.kept_is_other)) (cgs_cons (cg_fld (i := 0) false (one_of cf_State.kept_is_own)) cgs_nil))))) (css_one (cs_expr (ce_meth m_State_note hr (by decide) hgd (ce_var 0) (ca_cons (ce_var 1) (ca_cons ce_str ca_nil)))))) (css_one (cs_expr (ce_meth m_State_start hr (by decide) hgd (ce_var 0) (ca_cons (ce_var 1) (ca_cons (ce_var 2) ca_nil))))))))
theorem sc_State_following : FnScope N_State_following ["self", "kind"] (defScope s_State_following) := ⟨rfl, rfl, rfl, by decide +kernel, rfl, by decide +kernel, by decide +kernel⟩
theorem t_State_following (g : Gm K mg) (sys : SysAt base) (cf_State : Cf_State K) (m_State_is_held_other : MethAt P w K mg base 4 "State" "is_held_other" S_State_is_held_other) (c_outcome : Cal P w K mg base 2 "outcome" [] S_outcome) {f : Addr} {fd : FuncData} {dV : Value} (F : DefM K "following" "State.following" s_State_following f fd dV) : FnG P w K mg base CX0 5 f fd ["self", "kind"] (spT K S_State_following) := by
  refine def_okM (N := N_State_following) (k := 4) 1 F sc_State_following l_State_following (by decide) fun cdv A outer s H E hr hgd => ⟨w_State_following, ?_, v_State_following⟩
  have nd := sc_State_following.nd
  have hu64 := hr.units
  have hu := hu_of hr
  exact (css_one (cs_ret (ce_cal c_outcome hr (by decide) hgd (by rfl) (ca_cons (ce_fldC (one_of cf_State.kept_rules) (ce_var 0)) (ca_cons (ce_var 1) (ca_cons (ce_fldC (one_of cf_State.kept_down) (ce_var 0)) (ca_cons (ce_meth m_State_is_held_other hr (by decide) hgd (ce_var 0) (ca_cons (ce_var 1) ca_nil)) (ca_cons ce_bl ca_nil))))))))
theorem sc_State_skip : FnScope N_State_skip ["self", "word", "times"] (defScope s_State_skip) := ⟨rfl, rfl, rfl, by decide +kernel, rfl, by decide +kernel, by decide +kernel⟩
theorem t_State_skip (g : Gm K mg) (sys : SysAt base) (cf_State : Cf_State K) (m_State_is_held_other : MethAt P w K mg base 4 "State" "is_held_other" S_State_is_held_other) (c_can_hear : Cal P w K mg base 3 "can_hear" [] S_can_hear) (c_other_of : Cal P w K mg base 1 "other_of" [] S_other_of) (c_period_of : Cal P w K mg base 2 "period_of" [] S_period_of) {f : Addr} {fd : FuncData} {dV : Value} (F : DefM K "skip" "State.skip" s_State_skip f fd dV) : FnG P w K mg base CX0 5 f fd ["self", "word", "times"] (spT K S_State_skip) := by
  refine def_okM (N := N_State_skip) (k := 4) 1 F sc_State_skip l_State_skip (by decide) fun cdv A outer s H E hr hgd => ⟨w_State_skip, ?_, v_State_skip⟩
  have nd := sc_State_skip.nd
  have hu64 := hr.units
  have hu := hu_of hr
  exact (css_cons (cs_set (i := 3) nd rfl (Or.inl rfl) (by decide) (ce_callB (cr_sum rfl) l_sumL (by rfl) g.b_sum bt_sum (ca_cons (ce_lc (own := [("kind", 4)]) rfl nd (ci_str (ce_var 1)) (blkOk_by (N := N_State_skip) (sc := defScope s_State_skip) (by decide +kernel)) (fun _ _ _ _ _ => (cg_own (i := 4) nd rfl (Or.inl rfl) (by decide))) (fun _ _ _ _ _ => cts_nil) (fun _ _ _ _ _ => (ce_cal c_period_of hr (by decide) hgd (by rfl) (ca_cons (ce_fldC (one_of cf_State.kept_rules) (ce_var 0)) (ca_cons (ce_var 4) ca_nil))))) ca_nil))) (css_cons (cs_expr (ce_fapp (i := 0) ["kept_runs", "kept_log"] ["kept_counts"] (one_of cf_State.kept_runs) (ce_tup (ca_cons (ce_op op_addA l_add (ce_fldC (one_of cf_State.kept_begin) (ce_var 0)) (ce_cal c_period_of hr (by decide) hgd (by rfl) (ca_cons (ce_fldC (one_of cf_State.kept_rules) (ce_var 0)) (ca_cons (ce_fldC (one_of cf_State.kept_kind) (ce_var 0)) ca_nil)))) (ca_cons (ce_var 1) (ca_cons (ce_var 2) ca_nil)))))) (css_cons (cs_for PassesOwn.never rfl (ci_str (ce_var 1)) (cg_name (i := 4) nd rfl (Or.inl rfl) (by decide)) (css_cons (cs_faugd (i := 0) ["kept_runs", "kept_log"] ["kept_counts"] hu (one_of cf_State.kept_counts) (ce_op op_addA l_add ce_str (ce_var 4)) (ce_var 2)) (css_cons (cs_if ((cw_and (ct_tru (ce_cal c_can_hear hr (by decide) hgd (by rfl) (ca_cons (ce_fldC (one_of cf_State.kept_rules) (ce_var 0)) (ca_cons (ce_var 4) ca_nil)))) (cw_and1 (ct_cmp op_gt l_cmp (ce_ix (ce_fldC (one_of cf_State.kept_rules) (ce_var 0)) ce_int) ce_int rfl)))).ct (css_one (cs_faugd (i := 0) ["kept_runs", "kept_log"] ["kept_counts"] hu (one_of cf_State.kept_counts) ce_str (ce_var 2))) css_nil) (css_one (cs_if (ct_tru (ce_meth m_State_is_held_other hr (by decide) hgd (ce_var 0) (ca_cons (ce_var 4) ca_nil))) (css_one (cs_faugd (i := 0) ["kept_runs", "kept_log"] ["kept_counts"] hu (one_of cf_State.kept_counts) (ce_op op_addA l_add ce_str (ce_cal c_other_of hr (by decide) hgd (by rfl) (ca_cons (ce_var 4) ca_nil))) (ce_var 2))) css_nil))))) (css_one (cs_fldAug (i := 0) (one_of cf_State.kept_begin) (ce_op op_mulA l_mul (ce_var 3) (ce_var 2)))))))
theorem sc_State_jump : FnScope N_State_jump ["self", "tick"] (defScope s_State_jump) := ⟨rfl, rfl, rfl, by decide +kernel, rfl, by decide +kernel, by decide +kernel⟩
theorem t_State_jump (g : Gm K mg) (sys : SysAt base) (cf_State : Cf_State K) (m_State_following : MethAt P w K mg base 5 "State" "following" S_State_following) (m_State_skip : MethAt P w K mg base 5 "State" "skip" S_State_skip) (c_period_of : Cal P w K mg base 2 "period_of" [] S_period_of) {f : Addr} {fd : FuncData} {dV : Value} (F : DefM K "jump" "State.jump" s_State_jump f fd dV) : FnG P w K mg base CX0 6 f fd ["self", "tick"] (spT K S_State_jump) := by
  refine def_okM (N := N_State_jump) (k := 5) 1 F sc_State_jump l_State_jump (by decide) fun cdv A outer s H E hr hgd => ⟨w_State_jump, ?_, v_State_jump⟩
  have nd := sc_State_jump.nd
  have hu64 := hr.units
  have hu := hu_of hr
  exact (css_cons (cs_asg (ce_tup (ca_cons (ce_fldC (one_of cf_State.kept_kind) (ce_var 0)) (ca_cons (ce_fldC (one_of cf_State.kept_rules) (ce_var 0)) ca_nil))) (cg_tup rfl (cgs_cons (cg_name (i := 2) nd rfl (Or.inl rfl) (by decide)) (cgs_cons (cg_name (i := 3) nd rfl (Or.inr rfl) (by decide)) cgs_nil)))) (css_cons (cs_set (i := 4) nd rfl (Or.inl rfl) (by decide) (ce_meth m_State_following hr (by decide) hgd (ce_var 0) (ca_cons (ce_var 2) ca_nil))) (css_cons (cs_set (i := 5) nd rfl (Or.inl rfl) (by decide) (ce_ifE (ct_cmp (op_eqA hu64) l_eqS (ce_var 4) (ce_var 2) rfl) (ce_var 2) ce_non)) (css_cons (cs_if ((cw_and (ct_cmp op_isNotA l_is (ce_var 4) ce_non rfl) (cw_and (ct_cmp (op_neA hu64) l_eqS (ce_var 4) (ce_var 2) rfl) (cw_and1 (ct_cmp (op_eqA hu64) l_eqS (ce_meth m_State_following hr (by decide) hgd (ce_var 0) (ca_cons (ce_var 4) ca_nil)) (ce_var 2) rfl))))).ct (css_one (cs_set (i := 5) nd rfl (Or.inl rfl) (by decide) (ce_op op_addA l_add (ce_var 4) (ce_var 2)))) css_nil) (css_one (cs_if ((cw_and (ct_cmp op_isNotA l_is (ce_var 5) ce_non rfl) (cw_and1 (ct_not (ct_tru (ce_fldC (one_of cf_State.kept_is_logged) (ce_var 0))))))).ct (css_cons (cs_set (i := 6) nd rfl (Or.inl rfl) (by decide) (ce_op op_fdivW l_div (ce_op op_sub l_sub (ce_var 1) (ce_fldC (one_of cf_State.kept_begin) (ce_var 0))) (ce_callB (cr_sum rfl) l_sumL (by rfl) g.b_sum bt_sum (ca_cons (ce_lc (own := [("each", 7)]) rfl nd (ci_str (ce_var 5)) (blkOk_by (N := N_State_jump) (sc := defScope s_State_jump) (by decide +kernel)) (fun _ _ _ _ _ => (cg_own (i := 7) nd rfl (Or.inl rfl) (by decide))) (fun _ _ _ _ _ => cts_nil) (fun _ _ _ _ _ => (ce_cal c_period_of hr (by decide) hgd (by rfl) (ca_cons (ce_var 3) (ca_cons (ce_var 7) ca_nil))))) ca_nil)))) (css_one (cs_if (ct_cmp op_gt l_cmp (ce_var 6) ce_int rfl) (css_one (cs_expr (ce_meth m_State_skip hr (by decide) hgd (ce_var 0) (ca_cons (ce_var 5) (ca_cons (ce_var 6) ca_nil))))) css_nil))) css_nil))))))
theorem sc_State_advance : FnScope N_State_advance ["self", "tick"] (defScope s_State_advance) := ⟨rfl, rfl, rfl, by decide +kernel, rfl, by decide +kernel, by decide +kernel⟩
theorem t_State_advance (g : Gm K mg) (sys : SysAt base) (cf_State : Cf_State K) (m_State_decide : MethAt P w K mg base 6 "State" "decide" S_State_decide) (m_State_hear : MethAt P w K mg base 5 "State" "hear" S_State_hear) (m_State_jump : MethAt P w K mg base 6 "State" "jump" S_State_jump) (c_can_hear : Cal P w K mg base 3 "can_hear" [] S_can_hear) (c_period_of : Cal P w K mg base 2 "period_of" [] S_period_of) {f : Addr} {fd : FuncData} {dV : Value} (F : DefM K "advance" "State.advance" s_State_advance f fd dV) : FnG P w K mg base CX0 7 f fd ["self", "tick"] (spT K S_State_advance) := by
  refine def_okM (N := N_State_advance) (k := 6) 1 F sc_State_advance l_State_advance (by decide) fun cdv A outer s H E hr hgd => ⟨w_State_advance, ?_, v_State_advance⟩
  have nd := sc_State_advance.nd
  have hu64 := hr.units
  have hu := hu_of hr
  exact (css_one (cs_while PassesOwn.never (ct_cmp op_isNotA l_is (ce_fldC (one_of cf_State.kept_kind) (ce_var 0)) ce_non rfl) (css_cons (cs_par (i := 2) (j := 3) rfl nd rfl rfl (by decide) rfl rfl (by decide) (by decide) (ca_cons (ce_fldC (one_of cf_State.kept_rules) (ce_var 0)) (ca_cons (ce_fldC (one_of cf_State.kept_kind) (ce_var 0)) ca_nil)) rfl) (css_cons (cs_set (i := 4) nd rfl (Or.inl rfl) (by decide) (ce_op op_addA l_add (ce_fldC (one_of cf_State.kept_begin) (ce_var 0)) (ce_ix (ce_var 2) ce_int))) (css_cons (cs_if ((cw_and (ct_tru (ce_cal c_can_hear hr (by decide) hgd (by rfl) (ca_cons (ce_var 2) (ca_cons (ce_var 3) ca_nil)))) (cw_and1 (ct_not (ct_tru (ce_fldC (one_of cf_State.kept_is_heard) (ce_var 0))))))).ct (css_cons (cs_if (ct_cmp op_gt l_cmp (ce_var 4) (ce_var 1) rfl) (css_one cs_retN) css_nil) (css_one (cs_expr (ce_meth m_State_hear hr (by decide) hgd (ce_var 0) (ca_cons (ce_var 4) ca_nil))))) css_nil) (css_cons (cs_set (i := 5) nd rfl (Or.inl rfl) (by decide) (ce_op op_addA l_add (ce_fldC (one_of cf_State.kept_begin) (ce_var 0)) (ce_cal c_period_of hr (by decide) hgd (by rfl) (ca_cons (ce_var 2) (ca_cons (ce_var 3) ca_nil))))) (css_cons (cs_if (ct_cmp op_gt l_cmp (ce_var 5) (ce_var 1) rfl) (css_one cs_retN) css_nil) (css_cons (cs_expr (ce_meth m_State_decide hr (by decide) hgd (ce_var 0) (ca_cons (ce_var 5) ca_nil))) (css_one (cs_if (ct_cmp op_isNotA l_is (ce_fldC (one_of cf_State.kept_kind) (ce_var 0)) ce_non rfl) (css_one (cs_expr (ce_meth m_State_jump hr (by decide) hgd (ce_var 0) (ca_cons (ce_var 1) ca_nil)))) css_nil))))))))))
theorem sc_State_happen : FnScope N_State_happen ["self", "tick", "lever", "is_down"] (defScope s_State_happen) := ⟨rfl, rfl, rfl, by decide +kernel, rfl, by decide +kernel, by decide +kernel⟩
theorem t_State_happen (g : Gm K mg) (sys : SysAt base) (cf_State : Cf_State K) (m_State_note : MethAt P w K mg base 1 "State" "note" S_State_note) (m_State_note_other : MethAt P w K mg base 2 "State" "note_other" S_State_note_other) (m_State_start : MethAt P w K mg base 5 "State" "start" S_State_start)  {f : Addr} {fd : FuncData} {dV : Value} (F : DefM K "happen" "State.happen" s_State_happen f fd dV) : FnG P w K mg base CX0 6 f fd ["self", "tick", "lever", "is_down"] (spT K S_State_happen) := by
  refine def_okM (N := N_State_happen) (k := 5) 1 F sc_State_happen l_State_happen (by decide) fun cdv A outer s H E hr hgd => ⟨w_State_happen, ?_, v_State_happen⟩
  have nd := sc_State_happen.nd
  have hu64 := hr.units
  have hu := hu_of hr
  exact (css_cons (cs_expr (ce_meth m_State_note hr (by decide) hgd (ce_var 0) (ca_cons (ce_var 1) (ca_cons (ce_op op_addA l_add (ce_ifE (ct_tru (ce_var 3)) ce_str ce_str) (ce_var 2)) ca_nil)))) (css_cons (cs_if (ct_not (ct_tru (ce_var 3))) (css_cons (cs_fldSet (i := 0) false (one_of cf_State.kept_down) (ce_lc (own := [("other", 4)]) rfl nd (ci_list (ce_fldC (one_of cf_State.kept_down) (ce_var 0))) (blkOk_by (N := N_State_happen) (sc := defScope s_State_happen) (by decide +kernel)) (fun _ _ _ _ _ => (cg_own (i := 4) nd rfl (Or.inl rfl) (by decide))) (fun _ _ _ _ _ => (cts_one (ct_cmp (op_neA hu64) l_eqS (ce_var 4) (ce_var 2) rfl))) (fun _ _ _ _ _ => (ce_var 4)))) (css_one cs_retN)) css_nil) (css_cons (cs_fldSet (i := 0) false (one_of cf_State.kept_down) (ce_callB cr_sortedS l_sortS (by rfl) g.b_sorted bt_sorted (ca_cons (ce_lst (ca_star (ce_fldC (one_of cf_State.kept_down) (ce_var 0)) (ca_cons (ce_var 2) ca_nil))) ca_nil))) (css_one (cs_if (ct_cmp op_isA l_is (ce_fldC (one_of cf_State.kept_kind) (ce_var 0)) ce_non rfl) (css_one (cs_expr (ce_meth m_State_start hr (by decide) hgd (ce_var 0) (ca_cons (ce_var 1) (ca_cons (ce_var 2) ca_nil))))) (css_one (cs_if ((cw_and (ct_tru (ce_fldC (one_of cf_State.kept_is_heard) (ce_var 0))) (cw_and (ct_cmp (op_eqA hu64) l_eqS (ce_var 2) (ce_fldC (one_of cf_State.kept_kind) (ce_var 0)) rfl) (cw_and (ct_tru (ce_ix (ce_fldC (one_of cf_State.kept_rules) (ce_var 0)) ce_int)) (cw_and1 (ct_not (ct_tru (ce_fldC (one_of cf_State.kept_is_own) (ce_var 0))))))))).ct (css_cons (cs_fldSet (i := 0) false (one_of cf_State.kept_is_own) ce_bl) (css_one (cs_expr (ce_meth m_State_note hr (by decide) hgd (ce_var 0) (ca_cons (ce_var 1) (ca_cons (ce_op op_addA l_add ce_str (ce_var 2)) ca_nil)))))) (css_one (cs_if ((cw_and (ct_tru (ce_fldC (one_of cf_State.kept_is_heard) (ce_var 0))) (cw_and (ct_cmp (op_neA hu64) l_eqS (ce_var 2) (ce_fldC (one_of cf_State.kept_kind) (ce_var 0)) rfl) (cw_and (ct_cmp (op_neA hu64) l_eqS (ce_ix (ce_fldC (one_of cf_State.kept_rules) (ce_var 0)) ce_int) ce_str rfl) (cw_and1 (ct_not (ct_tru (ce_fldC (one_of cf_State.kept_is_other) (ce_var 0))))))))).ct (css_one (cs_expr (ce_meth m_State_note_other hr (by decide) hgd (ce_var 0) (ca_cons (ce_var 1) ca_nil)))) css_nil)))))))))
theorem sc_State_finish : FnScope N_State_finish ["self"] (defScope s_State_finish) := ⟨rfl, rfl, rfl, by decide +kernel, rfl, by decide +kernel, by decide +kernel⟩
theorem t_State_finish (g : Gm K mg) (sys : SysAt base) (cf_State : Cf_State K) (m_State_advance : MethAt P w K mg base 7 "State" "advance" S_State_advance) (c_period_of : Cal P w K mg base 2 "period_of" [] S_period_of) {f : Addr} {fd : FuncData} {dV : Value} (F : DefM K "finish" "State.finish" s_State_finish f fd dV) : FnG P w K mg base CX0 8 f fd ["self"] (spT K S_State_finish) := by
  refine def_okM (N := N_State_finish) (k := 7) 1 F sc_State_finish l_State_finish (by decide) fun cdv A outer s H E hr hgd => ⟨w_State_finish, ?_, v_State_finish⟩
  have nd := sc_State_finish.nd
  have hu64 := hr.units
  have hu := hu_of hr
  exact (css_one (cs_while PassesOwn.never (ct_cmp op_isNotA l_is (ce_fldC (one_of cf_State.kept_kind) (ce_var 0)) ce_non rfl) (css_one (cs_expr (ce_meth m_State_advance hr (by decide) hgd (ce_var 0) (ca_cons (ce_op op_addA l_add (ce_fldC (one_of cf_State.kept_begin) (ce_var 0)) (ce_cal c_period_of hr (by decide) hgd (by rfl) (ca_cons (ce_fldC (one_of cf_State.kept_rules) (ce_var 0)) (ca_cons (ce_fldC (one_of cf_State.kept_kind) (ce_var 0)) ca_nil)))) ca_nil))))))
theorem sc_State_tidy : FnScope N_State_tidy ["self"] (defScope s_State_tidy) := ⟨rfl, rfl, rfl, by decide +kernel, rfl, by decide +kernel, by decide +kernel⟩
theorem t_State_tidy (g : Gm K mg) (sys : SysAt base) (cf_State : Cf_State K) (c_tidy_runs : Cal P w K mg base 6 "tidy_runs" [] S_tidy_runs) {f : Addr} {fd : FuncData} {dV : Value} (F : DefM K "tidy" "State.tidy" s_State_tidy f fd dV) : FnG P w K mg base CX0 7 f fd ["self"] (spT K S_State_tidy) := by
  refine def_okM (N := N_State_tidy) (k := 6) 0 F sc_State_tidy l_State_tidy (by decide) fun cdv A outer s H E hr hgd => ⟨w_State_tidy, ?_, v_State_tidy⟩
  have nd := sc_State_tidy.nd
  have hu64 := hr.units
  have hu := hu_of hr
  exact (css_one (cs_ret (ce_cal c_tidy_runs hr (by decide) hgd (by rfl) (ca_cons (ce_fldC (one_of cf_State.kept_rules) (ce_var 0)) (ca_cons (ce_fldC (one_of cf_State.kept_runs) (ce_var 0)) ca_nil)))))
end
theorem all_mk {l : PySem.W.OpenLaw} {w : World} {K : Frag} {h : Heap} {mg : Str → Option Value} {fa : Addr} (X : K.In h) (G : h.Ns mainGlobals mg) (hfa : mg "law" = some (.ref fa))
    (z_ValueError : PySem.W.nsIn K mainGlobals "ValueError" = some none)
    (z_abs : PySem.W.nsIn K mainGlobals "abs" = some none)
    (z_any : PySem.W.nsIn K mainGlobals "any" = some none)
    (z_bool : PySem.W.nsIn K mainGlobals "bool" = some none)
    (z_enumerate : PySem.W.nsIn K mainGlobals "enumerate" = some none)
    (z_int : PySem.W.nsIn K mainGlobals "int" = some none)
    (z_isinstance : PySem.W.nsIn K mainGlobals "isinstance" = some none)
    (z_len : PySem.W.nsIn K mainGlobals "len" = some none)
    (z_list : PySem.W.nsIn K mainGlobals "list" = some none)
    (z_max : PySem.W.nsIn K mainGlobals "max" = some none)
    (z_min : PySem.W.nsIn K mainGlobals "min" = some none)
    (z_range : PySem.W.nsIn K mainGlobals "range" = some none)
    (z_repr : PySem.W.nsIn K mainGlobals "repr" = some none)
    (z_sorted : PySem.W.nsIn K mainGlobals "sorted" = some none)
    (z_str : PySem.W.nsIn K mainGlobals "str" = some none)
    (z_sum : PySem.W.nsIn K mainGlobals "sum" = some none)
    (z_tuple : PySem.W.nsIn K mainGlobals "tuple" = some none)
    {t_ALTERNATING : Tok} (a_ALTERNATING : PySem.W.nsIn K mainGlobals "ALTERNATING" = some (some (.int 4 t_ALTERNATING)))
    {ad_LEVERS_values : Addr} {dd_LEVERS_values : Option Addr} {n_LEVERS_values : Nat} {sl_LEVERS_values : Array (Option Value)} {tLEVERS_values0 tLEVERS_values1 : Tok} (a_LEVERS_values : PySem.W.nsIn K mainGlobals "LEVERS_values" = some (some (.ref ad_LEVERS_values))) (l_LEVERS_values : K.lookup ad_LEVERS_values = some ⟨.type "tuple", dd_LEVERS_values, .seq [.str "s" tLEVERS_values0, .str "l" tLEVERS_values1].toArray n_LEVERS_values, sl_LEVERS_values⟩)
    {t_MOST_EVENTS : Tok} (a_MOST_EVENTS : PySem.W.nsIn K mainGlobals "MOST_EVENTS" = some (some (.int 200 t_MOST_EVENTS)))
    {ad_PREFERENCES : Addr} {dd_PREFERENCES : Option Addr} {n_PREFERENCES : Nat} {sl_PREFERENCES : Array (Option Value)} {tPREFERENCES0 tPREFERENCES1 tPREFERENCES2 tPREFERENCES3 : Tok} (a_PREFERENCES : PySem.W.nsIn K mainGlobals "PREFERENCES" = some (some (.ref ad_PREFERENCES))) (l_PREFERENCES : K.lookup ad_PREFERENCES = some ⟨.type "tuple", dd_PREFERENCES, .seq [.str "turn" tPREFERENCES0, .str "stay" tPREFERENCES1, .str "s" tPREFERENCES2, .str "l" tPREFERENCES3].toArray n_PREFERENCES, sl_PREFERENCES⟩)
    {ad_REMEMBERS : Addr} {dd_REMEMBERS : Option Addr} {n_REMEMBERS : Nat} {sl_REMEMBERS : Array (Option Value)} {tREMEMBERS0 tREMEMBERS1 tREMEMBERS2 : Tok} (a_REMEMBERS : PySem.W.nsIn K mainGlobals "REMEMBERS" = some (some (.ref ad_REMEMBERS))) (l_REMEMBERS : K.lookup ad_REMEMBERS = some ⟨.type "tuple", dd_REMEMBERS, .seq [.str "none" tREMEMBERS0, .str "press" tREMEMBERS1, .str "held" tREMEMBERS2].toArray n_REMEMBERS, sl_REMEMBERS⟩)
    {ad_STEP_WORDS : Addr} {dd_STEP_WORDS : Option Addr} {n_STEP_WORDS : Nat} {sl_STEP_WORDS : Array (Option Value)} {tSTEP_WORDS0 tSTEP_WORDS1 tSTEP_WORDS2 tSTEP_WORDS3 tSTEP_WORDS4 tSTEP_WORDS5 tSTEP_WORDS6 tSTEP_WORDS7 tSTEP_WORDS8 tSTEP_WORDS9 : Tok} (a_STEP_WORDS : PySem.W.nsIn K mainGlobals "STEP_WORDS" = some (some (.ref ad_STEP_WORDS))) (l_STEP_WORDS : K.lookup ad_STEP_WORDS = some ⟨.type "tuple", dd_STEP_WORDS, .seq [.str "press s" tSTEP_WORDS0, .str "press l" tSTEP_WORDS1, .str "release s" tSTEP_WORDS2, .str "release l" tSTEP_WORDS3, .str "begin s" tSTEP_WORDS4, .str "begin l" tSTEP_WORDS5, .str "hear" tSTEP_WORDS6, .str "remember s" tSTEP_WORDS7, .str "remember l" tSTEP_WORDS8, .str "idle" tSTEP_WORDS9].toArray n_STEP_WORDS, sl_STEP_WORDS⟩)
    {C_Impossible : Addr} (xa_Impossible : PySem.W.nsIn K mainGlobals "Impossible" = some (some (.ref C_Impossible)))
    {C_InvalidCases : Addr} (xa_InvalidCases : PySem.W.nsIn K mainGlobals "InvalidCases" = some (some (.ref C_InvalidCases)))
    {C_InvalidCode : Addr} (xa_InvalidCode : PySem.W.nsIn K mainGlobals "InvalidCode" = some (some (.ref C_InvalidCode)))
    {C_InvalidCommand : Addr} (xa_InvalidCommand : PySem.W.nsIn K mainGlobals "InvalidCommand" = some (some (.ref C_InvalidCommand)))
    {C_InvalidGaps : Addr} (xa_InvalidGaps : PySem.W.nsIn K mainGlobals "InvalidGaps" = some (some (.ref C_InvalidGaps)))
    {C_InvalidKinds : Addr} (xa_InvalidKinds : PySem.W.nsIn K mainGlobals "InvalidKinds" = some (some (.ref C_InvalidKinds)))
    {C_InvalidLever : Addr} (xa_InvalidLever : PySem.W.nsIn K mainGlobals "InvalidLever" = some (some (.ref C_InvalidLever)))
    {C_InvalidName : Addr} (xa_InvalidName : PySem.W.nsIn K mainGlobals "InvalidName" = some (some (.ref C_InvalidName)))
    {C_InvalidNumber : Addr} (xa_InvalidNumber : PySem.W.nsIn K mainGlobals "InvalidNumber" = some (some (.ref C_InvalidNumber)))
    {C_InvalidRecord : Addr} (xa_InvalidRecord : PySem.W.nsIn K mainGlobals "InvalidRecord" = some (some (.ref C_InvalidRecord)))
    {C_InvalidRules : Addr} (xa_InvalidRules : PySem.W.nsIn K mainGlobals "InvalidRules" = some (some (.ref C_InvalidRules)))
    {C_InvalidRuns : Addr} (xa_InvalidRuns : PySem.W.nsIn K mainGlobals "InvalidRuns" = some (some (.ref C_InvalidRuns)))
    {C_InvalidSyntax : Addr} (xa_InvalidSyntax : PySem.W.nsIn K mainGlobals "InvalidSyntax" = some (some (.ref C_InvalidSyntax)))
    {C_InvalidText : Addr} (xa_InvalidText : PySem.W.nsIn K mainGlobals "InvalidText" = some (some (.ref C_InvalidText)))
    {C_InvalidTick : Addr} (xa_InvalidTick : PySem.W.nsIn K mainGlobals "InvalidTick" = some (some (.ref C_InvalidTick)))
    {C_KeyerError : Addr} (xa_KeyerError : PySem.W.nsIn K mainGlobals "KeyerError" = some (some (.ref C_KeyerError)))
    {C_NothingToUndo : Addr} (xa_NothingToUndo : PySem.W.nsIn K mainGlobals "NothingToUndo" = some (some (.ref C_NothingToUndo)))
    {C_TooLarge : Addr} (xa_TooLarge : PySem.W.nsIn K mainGlobals "TooLarge" = some (some (.ref C_TooLarge)))
    (xs_KeyerError : PySem.W.specialIn K (.ref C_KeyerError) "__getattribute__" = some (some (.builtin "type.__getattribute__"))) (xt_KeyerError : PySem.W.typeIn K (.ref C_KeyerError) = some (.type "type")) (xr_KeyerError : PySem.W.readsIn K C_KeyerError (.type "type") = true) (xc_KeyerError : PySem.W.findCls K (.ref C_KeyerError) (.type "type") "__init__" = some (.val (.builtin "ValueError.__init__")))
    {nm_InvalidCases q_InvalidCases : Str} {N_InvalidCases : Addr} {bs_InvalidCases bm_InvalidCases : List Value} {sn_InvalidCases : List Str} {sub_InvalidCases : List Value} {ab_InvalidCases : Bool} {col_InvalidCases : Option Bool} {dd_InvalidCases : Option Addr} {m0_InvalidCases m1_InvalidCases m2_InvalidCases m3_InvalidCases m5_InvalidCases : Option Value}
    (xl_InvalidCases : K.lookup C_InvalidCases = some (PySem.excClassObj nm_InvalidCases q_InvalidCases C_InvalidCases N_InvalidCases bs_InvalidCases bm_InvalidCases true sn_InvalidCases sub_InvalidCases ab_InvalidCases col_InvalidCases dd_InvalidCases m0_InvalidCases m1_InvalidCases m2_InvalidCases m3_InvalidCases m5_InvalidCases "ValueError.__new__")) (xb_InvalidCases : PySem.HandSPX.refsVE bm_InvalidCases = true)
    (xsa_InvalidCases : PySem.W.findIn K (.ref C_InvalidCases) "__setattr__" = some (some (.builtin "object.__setattr__"))) (xe_InvalidCases : PySem.W.subIn K (.ref C_InvalidCases) (.type "BaseException") = some true) (xty_InvalidCases : PySem.W.typeIn K (.ref C_InvalidCases) = some (.type "type")) (xk_InvalidCases : PySem.W.keepIn K (.ref C_InvalidCases) = true)
    {fi_InvalidCases : Addr} {od_InvalidCases an_InvalidCases : Option Addr} {sl_InvalidCases : Array (Option Value)} {oc_InvalidCases kV_InvalidCases dc_InvalidCases pm_InvalidCases cd_InvalidCases ct_InvalidCases : Value} (xi_InvalidCases : PySem.W.findIn K (.ref C_InvalidCases) "__init__" = some (some (.ref fi_InvalidCases))) (xti_InvalidCases : PySem.W.typeIn K (.ref fi_InvalidCases) = some (.type "function"))
    (xli_InvalidCases : K.lookup fi_InvalidCases = some ⟨oc_InvalidCases, od_InvalidCases, .func (PySem.W.fnOf "__init__" "InvalidCases.__init__" (defArgs si_InvalidCases) (defBody si_InvalidCases) (defScope si_InvalidCases) .none kV_InvalidCases dc_InvalidCases pm_InvalidCases an_InvalidCases cd_InvalidCases ct_InvalidCases), sl_InvalidCases⟩) (xci_InvalidCases : PySem.W.codeIn K cd_InvalidCases "InvalidCases.__init__" = true)
    (xno0_InvalidCases : PySem.W.findIn K (.ref C_InvalidCases) "index" = some none)
    {nm_InvalidCode q_InvalidCode : Str} {N_InvalidCode : Addr} {bs_InvalidCode bm_InvalidCode : List Value} {sn_InvalidCode : List Str} {sub_InvalidCode : List Value} {ab_InvalidCode : Bool} {col_InvalidCode : Option Bool} {dd_InvalidCode : Option Addr} {m0_InvalidCode m1_InvalidCode m2_InvalidCode m3_InvalidCode m5_InvalidCode : Option Value}
    (xl_InvalidCode : K.lookup C_InvalidCode = some (PySem.excClassObj nm_InvalidCode q_InvalidCode C_InvalidCode N_InvalidCode bs_InvalidCode bm_InvalidCode true sn_InvalidCode sub_InvalidCode ab_InvalidCode col_InvalidCode dd_InvalidCode m0_InvalidCode m1_InvalidCode m2_InvalidCode m3_InvalidCode m5_InvalidCode "ValueError.__new__")) (xb_InvalidCode : PySem.HandSPX.refsVE bm_InvalidCode = true)
    (xsa_InvalidCode : PySem.W.findIn K (.ref C_InvalidCode) "__setattr__" = some (some (.builtin "object.__setattr__"))) (xe_InvalidCode : PySem.W.subIn K (.ref C_InvalidCode) (.type "BaseException") = some true) (xty_InvalidCode : PySem.W.typeIn K (.ref C_InvalidCode) = some (.type "type")) (xk_InvalidCode : PySem.W.keepIn K (.ref C_InvalidCode) = true)
    {fi_InvalidCode : Addr} {od_InvalidCode an_InvalidCode : Option Addr} {sl_InvalidCode : Array (Option Value)} {oc_InvalidCode kV_InvalidCode dc_InvalidCode pm_InvalidCode cd_InvalidCode ct_InvalidCode : Value} (xi_InvalidCode : PySem.W.findIn K (.ref C_InvalidCode) "__init__" = some (some (.ref fi_InvalidCode))) (xti_InvalidCode : PySem.W.typeIn K (.ref fi_InvalidCode) = some (.type "function"))
    (xli_InvalidCode : K.lookup fi_InvalidCode = some ⟨oc_InvalidCode, od_InvalidCode, .func (PySem.W.fnOf "__init__" "InvalidCode.__init__" (defArgs si_InvalidCode) (defBody si_InvalidCode) (defScope si_InvalidCode) .none kV_InvalidCode dc_InvalidCode pm_InvalidCode an_InvalidCode cd_InvalidCode ct_InvalidCode), sl_InvalidCode⟩) (xci_InvalidCode : PySem.W.codeIn K cd_InvalidCode "InvalidCode.__init__" = true)
    (xno0_InvalidCode : PySem.W.findIn K (.ref C_InvalidCode) "letter" = some none)
    {nm_InvalidKinds q_InvalidKinds : Str} {N_InvalidKinds : Addr} {bs_InvalidKinds bm_InvalidKinds : List Value} {sn_InvalidKinds : List Str} {sub_InvalidKinds : List Value} {ab_InvalidKinds : Bool} {col_InvalidKinds : Option Bool} {dd_InvalidKinds : Option Addr} {m0_InvalidKinds m1_InvalidKinds m2_InvalidKinds m3_InvalidKinds m5_InvalidKinds : Option Value}
    (xl_InvalidKinds : K.lookup C_InvalidKinds = some (PySem.excClassObj nm_InvalidKinds q_InvalidKinds C_InvalidKinds N_InvalidKinds bs_InvalidKinds bm_InvalidKinds true sn_InvalidKinds sub_InvalidKinds ab_InvalidKinds col_InvalidKinds dd_InvalidKinds m0_InvalidKinds m1_InvalidKinds m2_InvalidKinds m3_InvalidKinds m5_InvalidKinds "ValueError.__new__")) (xb_InvalidKinds : PySem.HandSPX.refsVE bm_InvalidKinds = true)
    (xsa_InvalidKinds : PySem.W.findIn K (.ref C_InvalidKinds) "__setattr__" = some (some (.builtin "object.__setattr__"))) (xe_InvalidKinds : PySem.W.subIn K (.ref C_InvalidKinds) (.type "BaseException") = some true) (xty_InvalidKinds : PySem.W.typeIn K (.ref C_InvalidKinds) = some (.type "type")) (xk_InvalidKinds : PySem.W.keepIn K (.ref C_InvalidKinds) = true)
    {fi_InvalidKinds : Addr} {od_InvalidKinds an_InvalidKinds : Option Addr} {sl_InvalidKinds : Array (Option Value)} {oc_InvalidKinds kV_InvalidKinds dc_InvalidKinds pm_InvalidKinds cd_InvalidKinds ct_InvalidKinds : Value} (xi_InvalidKinds : PySem.W.findIn K (.ref C_InvalidKinds) "__init__" = some (some (.ref fi_InvalidKinds))) (xti_InvalidKinds : PySem.W.typeIn K (.ref fi_InvalidKinds) = some (.type "function"))
    (xli_InvalidKinds : K.lookup fi_InvalidKinds = some ⟨oc_InvalidKinds, od_InvalidKinds, .func (PySem.W.fnOf "__init__" "InvalidKinds.__init__" (defArgs si_InvalidKinds) (defBody si_InvalidKinds) (defScope si_InvalidKinds) .none kV_InvalidKinds dc_InvalidKinds pm_InvalidKinds an_InvalidKinds cd_InvalidKinds ct_InvalidKinds), sl_InvalidKinds⟩) (xci_InvalidKinds : PySem.W.codeIn K cd_InvalidKinds "InvalidKinds.__init__" = true)
    (xno0_InvalidKinds : PySem.W.findIn K (.ref C_InvalidKinds) "index" = some none)
    {nm_InvalidRecord q_InvalidRecord : Str} {N_InvalidRecord : Addr} {bs_InvalidRecord bm_InvalidRecord : List Value} {sn_InvalidRecord : List Str} {sub_InvalidRecord : List Value} {ab_InvalidRecord : Bool} {col_InvalidRecord : Option Bool} {dd_InvalidRecord : Option Addr} {m0_InvalidRecord m1_InvalidRecord m2_InvalidRecord m3_InvalidRecord m5_InvalidRecord : Option Value}
    (xl_InvalidRecord : K.lookup C_InvalidRecord = some (PySem.excClassObj nm_InvalidRecord q_InvalidRecord C_InvalidRecord N_InvalidRecord bs_InvalidRecord bm_InvalidRecord true sn_InvalidRecord sub_InvalidRecord ab_InvalidRecord col_InvalidRecord dd_InvalidRecord m0_InvalidRecord m1_InvalidRecord m2_InvalidRecord m3_InvalidRecord m5_InvalidRecord "ValueError.__new__")) (xb_InvalidRecord : PySem.HandSPX.refsVE bm_InvalidRecord = true)
    (xsa_InvalidRecord : PySem.W.findIn K (.ref C_InvalidRecord) "__setattr__" = some (some (.builtin "object.__setattr__"))) (xe_InvalidRecord : PySem.W.subIn K (.ref C_InvalidRecord) (.type "BaseException") = some true) (xty_InvalidRecord : PySem.W.typeIn K (.ref C_InvalidRecord) = some (.type "type")) (xk_InvalidRecord : PySem.W.keepIn K (.ref C_InvalidRecord) = true)
    {fi_InvalidRecord : Addr} {od_InvalidRecord an_InvalidRecord : Option Addr} {sl_InvalidRecord : Array (Option Value)} {oc_InvalidRecord kV_InvalidRecord dc_InvalidRecord pm_InvalidRecord cd_InvalidRecord ct_InvalidRecord : Value} (xi_InvalidRecord : PySem.W.findIn K (.ref C_InvalidRecord) "__init__" = some (some (.ref fi_InvalidRecord))) (xti_InvalidRecord : PySem.W.typeIn K (.ref fi_InvalidRecord) = some (.type "function"))
    (xli_InvalidRecord : K.lookup fi_InvalidRecord = some ⟨oc_InvalidRecord, od_InvalidRecord, .func (PySem.W.fnOf "__init__" "InvalidRecord.__init__" (defArgs si_InvalidRecord) (defBody si_InvalidRecord) (defScope si_InvalidRecord) .none kV_InvalidRecord dc_InvalidRecord pm_InvalidRecord an_InvalidRecord cd_InvalidRecord ct_InvalidRecord), sl_InvalidRecord⟩) (xci_InvalidRecord : PySem.W.codeIn K cd_InvalidRecord "InvalidRecord.__init__" = true)
    (xno0_InvalidRecord : PySem.W.findIn K (.ref C_InvalidRecord) "index" = some none)
    {nm_InvalidRules q_InvalidRules : Str} {N_InvalidRules : Addr} {bs_InvalidRules bm_InvalidRules : List Value} {sn_InvalidRules : List Str} {sub_InvalidRules : List Value} {ab_InvalidRules : Bool} {col_InvalidRules : Option Bool} {dd_InvalidRules : Option Addr} {m0_InvalidRules m1_InvalidRules m2_InvalidRules m3_InvalidRules m5_InvalidRules : Option Value}
    (xl_InvalidRules : K.lookup C_InvalidRules = some (PySem.excClassObj nm_InvalidRules q_InvalidRules C_InvalidRules N_InvalidRules bs_InvalidRules bm_InvalidRules true sn_InvalidRules sub_InvalidRules ab_InvalidRules col_InvalidRules dd_InvalidRules m0_InvalidRules m1_InvalidRules m2_InvalidRules m3_InvalidRules m5_InvalidRules "ValueError.__new__")) (xb_InvalidRules : PySem.HandSPX.refsVE bm_InvalidRules = true)
    (xsa_InvalidRules : PySem.W.findIn K (.ref C_InvalidRules) "__setattr__" = some (some (.builtin "object.__setattr__"))) (xe_InvalidRules : PySem.W.subIn K (.ref C_InvalidRules) (.type "BaseException") = some true) (xty_InvalidRules : PySem.W.typeIn K (.ref C_InvalidRules) = some (.type "type")) (xk_InvalidRules : PySem.W.keepIn K (.ref C_InvalidRules) = true)
    {fi_InvalidRules : Addr} {od_InvalidRules an_InvalidRules : Option Addr} {sl_InvalidRules : Array (Option Value)} {oc_InvalidRules kV_InvalidRules dc_InvalidRules pm_InvalidRules cd_InvalidRules ct_InvalidRules : Value} (xi_InvalidRules : PySem.W.findIn K (.ref C_InvalidRules) "__init__" = some (some (.ref fi_InvalidRules))) (xti_InvalidRules : PySem.W.typeIn K (.ref fi_InvalidRules) = some (.type "function"))
    (xli_InvalidRules : K.lookup fi_InvalidRules = some ⟨oc_InvalidRules, od_InvalidRules, .func (PySem.W.fnOf "__init__" "InvalidRules.__init__" (defArgs si_InvalidRules) (defBody si_InvalidRules) (defScope si_InvalidRules) .none kV_InvalidRules dc_InvalidRules pm_InvalidRules an_InvalidRules cd_InvalidRules ct_InvalidRules), sl_InvalidRules⟩) (xci_InvalidRules : PySem.W.codeIn K cd_InvalidRules "InvalidRules.__init__" = true)
    (xno0_InvalidRules : PySem.W.findIn K (.ref C_InvalidRules) "index" = some none)
    {nm_InvalidRuns q_InvalidRuns : Str} {N_InvalidRuns : Addr} {bs_InvalidRuns bm_InvalidRuns : List Value} {sn_InvalidRuns : List Str} {sub_InvalidRuns : List Value} {ab_InvalidRuns : Bool} {col_InvalidRuns : Option Bool} {dd_InvalidRuns : Option Addr} {m0_InvalidRuns m1_InvalidRuns m2_InvalidRuns m3_InvalidRuns m5_InvalidRuns : Option Value}
    (xl_InvalidRuns : K.lookup C_InvalidRuns = some (PySem.excClassObj nm_InvalidRuns q_InvalidRuns C_InvalidRuns N_InvalidRuns bs_InvalidRuns bm_InvalidRuns true sn_InvalidRuns sub_InvalidRuns ab_InvalidRuns col_InvalidRuns dd_InvalidRuns m0_InvalidRuns m1_InvalidRuns m2_InvalidRuns m3_InvalidRuns m5_InvalidRuns "ValueError.__new__")) (xb_InvalidRuns : PySem.HandSPX.refsVE bm_InvalidRuns = true)
    (xsa_InvalidRuns : PySem.W.findIn K (.ref C_InvalidRuns) "__setattr__" = some (some (.builtin "object.__setattr__"))) (xe_InvalidRuns : PySem.W.subIn K (.ref C_InvalidRuns) (.type "BaseException") = some true) (xty_InvalidRuns : PySem.W.typeIn K (.ref C_InvalidRuns) = some (.type "type")) (xk_InvalidRuns : PySem.W.keepIn K (.ref C_InvalidRuns) = true)
    {fi_InvalidRuns : Addr} {od_InvalidRuns an_InvalidRuns : Option Addr} {sl_InvalidRuns : Array (Option Value)} {oc_InvalidRuns kV_InvalidRuns dc_InvalidRuns pm_InvalidRuns cd_InvalidRuns ct_InvalidRuns : Value} (xi_InvalidRuns : PySem.W.findIn K (.ref C_InvalidRuns) "__init__" = some (some (.ref fi_InvalidRuns))) (xti_InvalidRuns : PySem.W.typeIn K (.ref fi_InvalidRuns) = some (.type "function"))
    (xli_InvalidRuns : K.lookup fi_InvalidRuns = some ⟨oc_InvalidRuns, od_InvalidRuns, .func (PySem.W.fnOf "__init__" "InvalidRuns.__init__" (defArgs si_InvalidRuns) (defBody si_InvalidRuns) (defScope si_InvalidRuns) .none kV_InvalidRuns dc_InvalidRuns pm_InvalidRuns an_InvalidRuns cd_InvalidRuns ct_InvalidRuns), sl_InvalidRuns⟩) (xci_InvalidRuns : PySem.W.codeIn K cd_InvalidRuns "InvalidRuns.__init__" = true)
    (xno0_InvalidRuns : PySem.W.findIn K (.ref C_InvalidRuns) "index" = some none)
    {nm_InvalidSyntax q_InvalidSyntax : Str} {N_InvalidSyntax : Addr} {bs_InvalidSyntax bm_InvalidSyntax : List Value} {sn_InvalidSyntax : List Str} {sub_InvalidSyntax : List Value} {ab_InvalidSyntax : Bool} {col_InvalidSyntax : Option Bool} {dd_InvalidSyntax : Option Addr} {m0_InvalidSyntax m1_InvalidSyntax m2_InvalidSyntax m3_InvalidSyntax m5_InvalidSyntax : Option Value}
    (xl_InvalidSyntax : K.lookup C_InvalidSyntax = some (PySem.excClassObj nm_InvalidSyntax q_InvalidSyntax C_InvalidSyntax N_InvalidSyntax bs_InvalidSyntax bm_InvalidSyntax true sn_InvalidSyntax sub_InvalidSyntax ab_InvalidSyntax col_InvalidSyntax dd_InvalidSyntax m0_InvalidSyntax m1_InvalidSyntax m2_InvalidSyntax m3_InvalidSyntax m5_InvalidSyntax "ValueError.__new__")) (xb_InvalidSyntax : PySem.HandSPX.refsVE bm_InvalidSyntax = true)
    (xsa_InvalidSyntax : PySem.W.findIn K (.ref C_InvalidSyntax) "__setattr__" = some (some (.builtin "object.__setattr__"))) (xe_InvalidSyntax : PySem.W.subIn K (.ref C_InvalidSyntax) (.type "BaseException") = some true) (xty_InvalidSyntax : PySem.W.typeIn K (.ref C_InvalidSyntax) = some (.type "type")) (xk_InvalidSyntax : PySem.W.keepIn K (.ref C_InvalidSyntax) = true)
    {fi_InvalidSyntax : Addr} {od_InvalidSyntax an_InvalidSyntax : Option Addr} {sl_InvalidSyntax : Array (Option Value)} {oc_InvalidSyntax kV_InvalidSyntax dc_InvalidSyntax pm_InvalidSyntax cd_InvalidSyntax ct_InvalidSyntax : Value} (xi_InvalidSyntax : PySem.W.findIn K (.ref C_InvalidSyntax) "__init__" = some (some (.ref fi_InvalidSyntax))) (xti_InvalidSyntax : PySem.W.typeIn K (.ref fi_InvalidSyntax) = some (.type "function"))
    (xli_InvalidSyntax : K.lookup fi_InvalidSyntax = some ⟨oc_InvalidSyntax, od_InvalidSyntax, .func (PySem.W.fnOf "__init__" "InvalidSyntax.__init__" (defArgs si_InvalidSyntax) (defBody si_InvalidSyntax) (defScope si_InvalidSyntax) .none kV_InvalidSyntax dc_InvalidSyntax pm_InvalidSyntax an_InvalidSyntax cd_InvalidSyntax ct_InvalidSyntax), sl_InvalidSyntax⟩) (xci_InvalidSyntax : PySem.W.codeIn K cd_InvalidSyntax "InvalidSyntax.__init__" = true)
    (xno0_InvalidSyntax : PySem.W.findIn K (.ref C_InvalidSyntax) "line" = some none)
    (xno1_InvalidSyntax : PySem.W.findIn K (.ref C_InvalidSyntax) "word" = some none)
    {nm_TooLarge q_TooLarge : Str} {N_TooLarge : Addr} {bs_TooLarge bm_TooLarge : List Value} {sn_TooLarge : List Str} {sub_TooLarge : List Value} {ab_TooLarge : Bool} {col_TooLarge : Option Bool} {dd_TooLarge : Option Addr} {m0_TooLarge m1_TooLarge m2_TooLarge m3_TooLarge m5_TooLarge : Option Value}
    (xl_TooLarge : K.lookup C_TooLarge = some (PySem.excClassObj nm_TooLarge q_TooLarge C_TooLarge N_TooLarge bs_TooLarge bm_TooLarge true sn_TooLarge sub_TooLarge ab_TooLarge col_TooLarge dd_TooLarge m0_TooLarge m1_TooLarge m2_TooLarge m3_TooLarge m5_TooLarge "ValueError.__new__")) (xb_TooLarge : PySem.HandSPX.refsVE bm_TooLarge = true)
    (xsa_TooLarge : PySem.W.findIn K (.ref C_TooLarge) "__setattr__" = some (some (.builtin "object.__setattr__"))) (xe_TooLarge : PySem.W.subIn K (.ref C_TooLarge) (.type "BaseException") = some true) (xty_TooLarge : PySem.W.typeIn K (.ref C_TooLarge) = some (.type "type")) (xk_TooLarge : PySem.W.keepIn K (.ref C_TooLarge) = true)
    {fi_TooLarge : Addr} {od_TooLarge an_TooLarge : Option Addr} {sl_TooLarge : Array (Option Value)} {oc_TooLarge kV_TooLarge dc_TooLarge pm_TooLarge cd_TooLarge ct_TooLarge : Value} (xi_TooLarge : PySem.W.findIn K (.ref C_TooLarge) "__init__" = some (some (.ref fi_TooLarge))) (xti_TooLarge : PySem.W.typeIn K (.ref fi_TooLarge) = some (.type "function"))
    (xli_TooLarge : K.lookup fi_TooLarge = some ⟨oc_TooLarge, od_TooLarge, .func (PySem.W.fnOf "__init__" "TooLarge.__init__" (defArgs si_TooLarge) (defBody si_TooLarge) (defScope si_TooLarge) .none kV_TooLarge dc_TooLarge pm_TooLarge an_TooLarge cd_TooLarge ct_TooLarge), sl_TooLarge⟩) (xci_TooLarge : PySem.W.codeIn K cd_TooLarge "TooLarge.__init__" = true)
    (xno0_TooLarge : PySem.W.findIn K (.ref C_TooLarge) "limit" = some none)
    (xhn : PySem.W.specialIn K (.builtin "object.__class__") "__get__" = some (some (.builtin "getset_descriptor.__get__"))) (xht : PySem.W.takesIn K (.builtin "object.__class__") = some true)
    (xex_KeyerError : exB K C_KeyerError = true)
    (xex_InvalidLever : exB K C_InvalidLever = true)
    (xex_InvalidTick : exB K C_InvalidTick = true)
    (xex_InvalidNumber : exB K C_InvalidNumber = true)
    (xex_InvalidGaps : exB K C_InvalidGaps = true)
    (xex_InvalidText : exB K C_InvalidText = true)
    (xex_InvalidName : exB K C_InvalidName = true)
    (xex_Impossible : exB K C_Impossible = true)
    (xex_NothingToUndo : exB K C_NothingToUndo = true)
    (xex_InvalidCommand : exB K C_InvalidCommand = true)
    (xex_InvalidRules : exB K C_InvalidRules = true)
    (xex_InvalidRecord : exB K C_InvalidRecord = true)
    (xex_InvalidRuns : exB K C_InvalidRuns = true)
    (xex_InvalidKinds : exB K C_InvalidKinds = true)
    (xex_InvalidCases : exB K C_InvalidCases = true)
    (xex_InvalidCode : exB K C_InvalidCode = true)
    (xex_TooLarge : exB K C_TooLarge = true)
    (xex_InvalidSyntax : exB K C_InvalidSyntax = true)
    (xkit_Impossible : ([("KeyerError", C_KeyerError), ("InvalidLever", C_InvalidLever), ("InvalidTick", C_InvalidTick), ("InvalidNumber", C_InvalidNumber), ("InvalidGaps", C_InvalidGaps), ("InvalidText", C_InvalidText), ("InvalidName", C_InvalidName), ("Impossible", C_Impossible), ("NothingToUndo", C_NothingToUndo), ("InvalidCommand", C_InvalidCommand), ("InvalidRules", C_InvalidRules), ("InvalidRecord", C_InvalidRecord), ("InvalidRuns", C_InvalidRuns), ("InvalidKinds", C_InvalidKinds), ("InvalidCases", C_InvalidCases), ("InvalidCode", C_InvalidCode), ("TooLarge", C_TooLarge), ("InvalidSyntax", C_InvalidSyntax)] : List (Str × Addr)).all (fun p => PySem.W.kitOne K (.ref p.2) (.ref C_Impossible) == some ((["Impossible"] : List Str).contains p.1)) = true)
    (xkit_InvalidCases : ([("KeyerError", C_KeyerError), ("InvalidLever", C_InvalidLever), ("InvalidTick", C_InvalidTick), ("InvalidNumber", C_InvalidNumber), ("InvalidGaps", C_InvalidGaps), ("InvalidText", C_InvalidText), ("InvalidName", C_InvalidName), ("Impossible", C_Impossible), ("NothingToUndo", C_NothingToUndo), ("InvalidCommand", C_InvalidCommand), ("InvalidRules", C_InvalidRules), ("InvalidRecord", C_InvalidRecord), ("InvalidRuns", C_InvalidRuns), ("InvalidKinds", C_InvalidKinds), ("InvalidCases", C_InvalidCases), ("InvalidCode", C_InvalidCode), ("TooLarge", C_TooLarge), ("InvalidSyntax", C_InvalidSyntax)] : List (Str × Addr)).all (fun p => PySem.W.kitOne K (.ref p.2) (.ref C_InvalidCases) == some ((["InvalidCases"] : List Str).contains p.1)) = true)
    (xkit_InvalidCode : ([("KeyerError", C_KeyerError), ("InvalidLever", C_InvalidLever), ("InvalidTick", C_InvalidTick), ("InvalidNumber", C_InvalidNumber), ("InvalidGaps", C_InvalidGaps), ("InvalidText", C_InvalidText), ("InvalidName", C_InvalidName), ("Impossible", C_Impossible), ("NothingToUndo", C_NothingToUndo), ("InvalidCommand", C_InvalidCommand), ("InvalidRules", C_InvalidRules), ("InvalidRecord", C_InvalidRecord), ("InvalidRuns", C_InvalidRuns), ("InvalidKinds", C_InvalidKinds), ("InvalidCases", C_InvalidCases), ("InvalidCode", C_InvalidCode), ("TooLarge", C_TooLarge), ("InvalidSyntax", C_InvalidSyntax)] : List (Str × Addr)).all (fun p => PySem.W.kitOne K (.ref p.2) (.ref C_InvalidCode) == some ((["InvalidCode"] : List Str).contains p.1)) = true)
    (xkit_InvalidCommand : ([("KeyerError", C_KeyerError), ("InvalidLever", C_InvalidLever), ("InvalidTick", C_InvalidTick), ("InvalidNumber", C_InvalidNumber), ("InvalidGaps", C_InvalidGaps), ("InvalidText", C_InvalidText), ("InvalidName", C_InvalidName), ("Impossible", C_Impossible), ("NothingToUndo", C_NothingToUndo), ("InvalidCommand", C_InvalidCommand), ("InvalidRules", C_InvalidRules), ("InvalidRecord", C_InvalidRecord), ("InvalidRuns", C_InvalidRuns), ("InvalidKinds", C_InvalidKinds), ("InvalidCases", C_InvalidCases), ("InvalidCode", C_InvalidCode), ("TooLarge", C_TooLarge), ("InvalidSyntax", C_InvalidSyntax)] : List (Str × Addr)).all (fun p => PySem.W.kitOne K (.ref p.2) (.ref C_InvalidCommand) == some ((["InvalidCommand"] : List Str).contains p.1)) = true)
    (xkit_InvalidGaps : ([("KeyerError", C_KeyerError), ("InvalidLever", C_InvalidLever), ("InvalidTick", C_InvalidTick), ("InvalidNumber", C_InvalidNumber), ("InvalidGaps", C_InvalidGaps), ("InvalidText", C_InvalidText), ("InvalidName", C_InvalidName), ("Impossible", C_Impossible), ("NothingToUndo", C_NothingToUndo), ("InvalidCommand", C_InvalidCommand), ("InvalidRules", C_InvalidRules), ("InvalidRecord", C_InvalidRecord), ("InvalidRuns", C_InvalidRuns), ("InvalidKinds", C_InvalidKinds), ("InvalidCases", C_InvalidCases), ("InvalidCode", C_InvalidCode), ("TooLarge", C_TooLarge), ("InvalidSyntax", C_InvalidSyntax)] : List (Str × Addr)).all (fun p => PySem.W.kitOne K (.ref p.2) (.ref C_InvalidGaps) == some ((["InvalidGaps"] : List Str).contains p.1)) = true)
    (xkit_InvalidKinds : ([("KeyerError", C_KeyerError), ("InvalidLever", C_InvalidLever), ("InvalidTick", C_InvalidTick), ("InvalidNumber", C_InvalidNumber), ("InvalidGaps", C_InvalidGaps), ("InvalidText", C_InvalidText), ("InvalidName", C_InvalidName), ("Impossible", C_Impossible), ("NothingToUndo", C_NothingToUndo), ("InvalidCommand", C_InvalidCommand), ("InvalidRules", C_InvalidRules), ("InvalidRecord", C_InvalidRecord), ("InvalidRuns", C_InvalidRuns), ("InvalidKinds", C_InvalidKinds), ("InvalidCases", C_InvalidCases), ("InvalidCode", C_InvalidCode), ("TooLarge", C_TooLarge), ("InvalidSyntax", C_InvalidSyntax)] : List (Str × Addr)).all (fun p => PySem.W.kitOne K (.ref p.2) (.ref C_InvalidKinds) == some ((["InvalidKinds"] : List Str).contains p.1)) = true)
    (xkit_InvalidLever : ([("KeyerError", C_KeyerError), ("InvalidLever", C_InvalidLever), ("InvalidTick", C_InvalidTick), ("InvalidNumber", C_InvalidNumber), ("InvalidGaps", C_InvalidGaps), ("InvalidText", C_InvalidText), ("InvalidName", C_InvalidName), ("Impossible", C_Impossible), ("NothingToUndo", C_NothingToUndo), ("InvalidCommand", C_InvalidCommand), ("InvalidRules", C_InvalidRules), ("InvalidRecord", C_InvalidRecord), ("InvalidRuns", C_InvalidRuns), ("InvalidKinds", C_InvalidKinds), ("InvalidCases", C_InvalidCases), ("InvalidCode", C_InvalidCode), ("TooLarge", C_TooLarge), ("InvalidSyntax", C_InvalidSyntax)] : List (Str × Addr)).all (fun p => PySem.W.kitOne K (.ref p.2) (.ref C_InvalidLever) == some ((["InvalidLever"] : List Str).contains p.1)) = true)
    (xkit_InvalidName : ([("KeyerError", C_KeyerError), ("InvalidLever", C_InvalidLever), ("InvalidTick", C_InvalidTick), ("InvalidNumber", C_InvalidNumber), ("InvalidGaps", C_InvalidGaps), ("InvalidText", C_InvalidText), ("InvalidName", C_InvalidName), ("Impossible", C_Impossible), ("NothingToUndo", C_NothingToUndo), ("InvalidCommand", C_InvalidCommand), ("InvalidRules", C_InvalidRules), ("InvalidRecord", C_InvalidRecord), ("InvalidRuns", C_InvalidRuns), ("InvalidKinds", C_InvalidKinds), ("InvalidCases", C_InvalidCases), ("InvalidCode", C_InvalidCode), ("TooLarge", C_TooLarge), ("InvalidSyntax", C_InvalidSyntax)] : List (Str × Addr)).all (fun p => PySem.W.kitOne K (.ref p.2) (.ref C_InvalidName) == some ((["InvalidName"] : List Str).contains p.1)) = true)
    (xkit_InvalidNumber : ([("KeyerError", C_KeyerError), ("InvalidLever", C_InvalidLever), ("InvalidTick", C_InvalidTick), ("InvalidNumber", C_InvalidNumber), ("InvalidGaps", C_InvalidGaps), ("InvalidText", C_InvalidText), ("InvalidName", C_InvalidName), ("Impossible", C_Impossible), ("NothingToUndo", C_NothingToUndo), ("InvalidCommand", C_InvalidCommand), ("InvalidRules", C_InvalidRules), ("InvalidRecord", C_InvalidRecord), ("InvalidRuns", C_InvalidRuns), ("InvalidKinds", C_InvalidKinds), ("InvalidCases", C_InvalidCases), ("InvalidCode", C_InvalidCode), ("TooLarge", C_TooLarge), ("InvalidSyntax", C_InvalidSyntax)] : List (Str × Addr)).all (fun p => PySem.W.kitOne K (.ref p.2) (.ref C_InvalidNumber) == some ((["InvalidNumber"] : List Str).contains p.1)) = true)
    (xkit_InvalidRecord : ([("KeyerError", C_KeyerError), ("InvalidLever", C_InvalidLever), ("InvalidTick", C_InvalidTick), ("InvalidNumber", C_InvalidNumber), ("InvalidGaps", C_InvalidGaps), ("InvalidText", C_InvalidText), ("InvalidName", C_InvalidName), ("Impossible", C_Impossible), ("NothingToUndo", C_NothingToUndo), ("InvalidCommand", C_InvalidCommand), ("InvalidRules", C_InvalidRules), ("InvalidRecord", C_InvalidRecord), ("InvalidRuns", C_InvalidRuns), ("InvalidKinds", C_InvalidKinds), ("InvalidCases", C_InvalidCases), ("InvalidCode", C_InvalidCode), ("TooLarge", C_TooLarge), ("InvalidSyntax", C_InvalidSyntax)] : List (Str × Addr)).all (fun p => PySem.W.kitOne K (.ref p.2) (.ref C_InvalidRecord) == some ((["InvalidRecord"] : List Str).contains p.1)) = true)
    (xkit_InvalidRules : ([("KeyerError", C_KeyerError), ("InvalidLever", C_InvalidLever), ("InvalidTick", C_InvalidTick), ("InvalidNumber", C_InvalidNumber), ("InvalidGaps", C_InvalidGaps), ("InvalidText", C_InvalidText), ("InvalidName", C_InvalidName), ("Impossible", C_Impossible), ("NothingToUndo", C_NothingToUndo), ("InvalidCommand", C_InvalidCommand), ("InvalidRules", C_InvalidRules), ("InvalidRecord", C_InvalidRecord), ("InvalidRuns", C_InvalidRuns), ("InvalidKinds", C_InvalidKinds), ("InvalidCases", C_InvalidCases), ("InvalidCode", C_InvalidCode), ("TooLarge", C_TooLarge), ("InvalidSyntax", C_InvalidSyntax)] : List (Str × Addr)).all (fun p => PySem.W.kitOne K (.ref p.2) (.ref C_InvalidRules) == some ((["InvalidRules"] : List Str).contains p.1)) = true)
    (xkit_InvalidRuns : ([("KeyerError", C_KeyerError), ("InvalidLever", C_InvalidLever), ("InvalidTick", C_InvalidTick), ("InvalidNumber", C_InvalidNumber), ("InvalidGaps", C_InvalidGaps), ("InvalidText", C_InvalidText), ("InvalidName", C_InvalidName), ("Impossible", C_Impossible), ("NothingToUndo", C_NothingToUndo), ("InvalidCommand", C_InvalidCommand), ("InvalidRules", C_InvalidRules), ("InvalidRecord", C_InvalidRecord), ("InvalidRuns", C_InvalidRuns), ("InvalidKinds", C_InvalidKinds), ("InvalidCases", C_InvalidCases), ("InvalidCode", C_InvalidCode), ("TooLarge", C_TooLarge), ("InvalidSyntax", C_InvalidSyntax)] : List (Str × Addr)).all (fun p => PySem.W.kitOne K (.ref p.2) (.ref C_InvalidRuns) == some ((["InvalidRuns"] : List Str).contains p.1)) = true)
    (xkit_InvalidSyntax : ([("KeyerError", C_KeyerError), ("InvalidLever", C_InvalidLever), ("InvalidTick", C_InvalidTick), ("InvalidNumber", C_InvalidNumber), ("InvalidGaps", C_InvalidGaps), ("InvalidText", C_InvalidText), ("InvalidName", C_InvalidName), ("Impossible", C_Impossible), ("NothingToUndo", C_NothingToUndo), ("InvalidCommand", C_InvalidCommand), ("InvalidRules", C_InvalidRules), ("InvalidRecord", C_InvalidRecord), ("InvalidRuns", C_InvalidRuns), ("InvalidKinds", C_InvalidKinds), ("InvalidCases", C_InvalidCases), ("InvalidCode", C_InvalidCode), ("TooLarge", C_TooLarge), ("InvalidSyntax", C_InvalidSyntax)] : List (Str × Addr)).all (fun p => PySem.W.kitOne K (.ref p.2) (.ref C_InvalidSyntax) == some ((["InvalidSyntax"] : List Str).contains p.1)) = true)
    (xkit_InvalidText : ([("KeyerError", C_KeyerError), ("InvalidLever", C_InvalidLever), ("InvalidTick", C_InvalidTick), ("InvalidNumber", C_InvalidNumber), ("InvalidGaps", C_InvalidGaps), ("InvalidText", C_InvalidText), ("InvalidName", C_InvalidName), ("Impossible", C_Impossible), ("NothingToUndo", C_NothingToUndo), ("InvalidCommand", C_InvalidCommand), ("InvalidRules", C_InvalidRules), ("InvalidRecord", C_InvalidRecord), ("InvalidRuns", C_InvalidRuns), ("InvalidKinds", C_InvalidKinds), ("InvalidCases", C_InvalidCases), ("InvalidCode", C_InvalidCode), ("TooLarge", C_TooLarge), ("InvalidSyntax", C_InvalidSyntax)] : List (Str × Addr)).all (fun p => PySem.W.kitOne K (.ref p.2) (.ref C_InvalidText) == some ((["InvalidText"] : List Str).contains p.1)) = true)
    (xkit_InvalidTick : ([("KeyerError", C_KeyerError), ("InvalidLever", C_InvalidLever), ("InvalidTick", C_InvalidTick), ("InvalidNumber", C_InvalidNumber), ("InvalidGaps", C_InvalidGaps), ("InvalidText", C_InvalidText), ("InvalidName", C_InvalidName), ("Impossible", C_Impossible), ("NothingToUndo", C_NothingToUndo), ("InvalidCommand", C_InvalidCommand), ("InvalidRules", C_InvalidRules), ("InvalidRecord", C_InvalidRecord), ("InvalidRuns", C_InvalidRuns), ("InvalidKinds", C_InvalidKinds), ("InvalidCases", C_InvalidCases), ("InvalidCode", C_InvalidCode), ("TooLarge", C_TooLarge), ("InvalidSyntax", C_InvalidSyntax)] : List (Str × Addr)).all (fun p => PySem.W.kitOne K (.ref p.2) (.ref C_InvalidTick) == some ((["InvalidTick"] : List Str).contains p.1)) = true)
    (xkit_NothingToUndo : ([("KeyerError", C_KeyerError), ("InvalidLever", C_InvalidLever), ("InvalidTick", C_InvalidTick), ("InvalidNumber", C_InvalidNumber), ("InvalidGaps", C_InvalidGaps), ("InvalidText", C_InvalidText), ("InvalidName", C_InvalidName), ("Impossible", C_Impossible), ("NothingToUndo", C_NothingToUndo), ("InvalidCommand", C_InvalidCommand), ("InvalidRules", C_InvalidRules), ("InvalidRecord", C_InvalidRecord), ("InvalidRuns", C_InvalidRuns), ("InvalidKinds", C_InvalidKinds), ("InvalidCases", C_InvalidCases), ("InvalidCode", C_InvalidCode), ("TooLarge", C_TooLarge), ("InvalidSyntax", C_InvalidSyntax)] : List (Str × Addr)).all (fun p => PySem.W.kitOne K (.ref p.2) (.ref C_NothingToUndo) == some ((["NothingToUndo"] : List Str).contains p.1)) = true)
    (xkit_TooLarge : ([("KeyerError", C_KeyerError), ("InvalidLever", C_InvalidLever), ("InvalidTick", C_InvalidTick), ("InvalidNumber", C_InvalidNumber), ("InvalidGaps", C_InvalidGaps), ("InvalidText", C_InvalidText), ("InvalidName", C_InvalidName), ("Impossible", C_Impossible), ("NothingToUndo", C_NothingToUndo), ("InvalidCommand", C_InvalidCommand), ("InvalidRules", C_InvalidRules), ("InvalidRecord", C_InvalidRecord), ("InvalidRuns", C_InvalidRuns), ("InvalidKinds", C_InvalidKinds), ("InvalidCases", C_InvalidCases), ("InvalidCode", C_InvalidCode), ("TooLarge", C_TooLarge), ("InvalidSyntax", C_InvalidSyntax)] : List (Str × Addr)).all (fun p => PySem.W.kitOne K (.ref p.2) (.ref C_TooLarge) == some ((["TooLarge"] : List Str).contains p.1)) = true)
    (xkit_ValueError : ([("KeyerError", C_KeyerError), ("InvalidLever", C_InvalidLever), ("InvalidTick", C_InvalidTick), ("InvalidNumber", C_InvalidNumber), ("InvalidGaps", C_InvalidGaps), ("InvalidText", C_InvalidText), ("InvalidName", C_InvalidName), ("Impossible", C_Impossible), ("NothingToUndo", C_NothingToUndo), ("InvalidCommand", C_InvalidCommand), ("InvalidRules", C_InvalidRules), ("InvalidRecord", C_InvalidRecord), ("InvalidRuns", C_InvalidRuns), ("InvalidKinds", C_InvalidKinds), ("InvalidCases", C_InvalidCases), ("InvalidCode", C_InvalidCode), ("TooLarge", C_TooLarge), ("InvalidSyntax", C_InvalidSyntax)] : List (Str × Addr)).all (fun p => PySem.W.kitOne K (.ref p.2) (.type "ValueError") == some ((["KeyerError", "InvalidLever", "InvalidTick", "InvalidNumber", "InvalidGaps", "InvalidText", "InvalidName", "Impossible", "NothingToUndo", "InvalidCommand", "InvalidRules", "InvalidRecord", "InvalidRuns", "InvalidKinds", "InvalidCases", "InvalidCode", "TooLarge", "InvalidSyntax"] : List Str).contains p.1)) = true)
    (xsub_InvalidRules_KeyerError : PySem.W.subIn K (.ref C_InvalidRules) (.ref C_KeyerError) = some true)
    (xic_KeyerError : PySem.W.isClsIn K C_KeyerError = true)
    (xe_KeyerError : PySem.W.subIn K (.ref C_KeyerError) (.type "BaseException") = some true) (xty_KeyerError : PySem.W.typeIn K (.ref C_KeyerError) = some (.type "type"))
    {C_Blocks : Addr} (xa_Blocks : PySem.W.nsIn K mainGlobals "Blocks" = some (some (.ref C_Blocks)))
    (pg_Blocks : PySem.W.plainGet K C_Blocks Str.empty = true) (hd_Blocks : PySem.W.hasDictIn K C_Blocks = true) (po_Blocks : PySem.W.plainOver K C_Blocks = true) (sa_Blocks : PySem.W.findIn K (.ref C_Blocks) "__setattr__" = some (some (.builtin "object.__setattr__")))
    (mk_Blocks : PySem.W.makesIn K C_Blocks = true) (kc_Blocks : PySem.W.keepIn K (.ref C_Blocks) = true)
    (nf_Blocks_kept_parts : PySem.W.findIn K (.ref C_Blocks) "kept_parts" = some none)
    {C_State : Addr} (xa_State : PySem.W.nsIn K mainGlobals "State" = some (some (.ref C_State)))
    (pg_State : PySem.W.plainGet K C_State Str.empty = true) (hd_State : PySem.W.hasDictIn K C_State = true) (po_State : PySem.W.plainOver K C_State = true) (sa_State : PySem.W.findIn K (.ref C_State) "__setattr__" = some (some (.builtin "object.__setattr__")))
    (mk_State : PySem.W.makesIn K C_State = true) (kc_State : PySem.W.keepIn K (.ref C_State) = true)
    (nf_State_kept_rules : PySem.W.findIn K (.ref C_State) "kept_rules" = some none)
    (nf_State_kept_is_logged : PySem.W.findIn K (.ref C_State) "kept_is_logged" = some none)
    (nf_State_kept_kind : PySem.W.findIn K (.ref C_State) "kept_kind" = some none)
    (nf_State_kept_begin : PySem.W.findIn K (.ref C_State) "kept_begin" = some none)
    (nf_State_kept_is_heard : PySem.W.findIn K (.ref C_State) "kept_is_heard" = some none)
    (nf_State_kept_is_other : PySem.W.findIn K (.ref C_State) "kept_is_other" = some none)
    (nf_State_kept_is_own : PySem.W.findIn K (.ref C_State) "kept_is_own" = some none)
    (nf_State_kept_down : PySem.W.findIn K (.ref C_State) "kept_down" = some none)
    (nf_State_kept_runs : PySem.W.findIn K (.ref C_State) "kept_runs" = some none)
    (nf_State_kept_counts : PySem.W.findIn K (.ref C_State) "kept_counts" = some none)
    (nf_State_kept_log : PySem.W.findIn K (.ref C_State) "kept_log" = some none)
    {f_0 : Addr} {od_0 an_0 : Option Addr} {sl_0 : Array (Option Value)} {oc_0 kV_0 dc_0 pm_0 cd_0 ct_0 : Value} {Td_0 : Addr} {ddd_0 : Option Addr} {nd_0 : Nat} {sld_0 : Array (Option Value)}
    (a_0 : PySem.W.nsIn K mainGlobals "is_integer" = some (some (.ref f_0))) (l_0 : K.lookup f_0 = some ⟨oc_0, od_0, .func (PySem.W.fnOf "is_integer" "is_integer" (defArgs s_is_integer) (defBody s_is_integer) (defScope s_is_integer) (.ref Td_0) kV_0 dc_0 pm_0 an_0 cd_0 ct_0), sl_0⟩) (c_0 : PySem.W.codeIn K cd_0 "is_integer" = true) (k_0 : PySem.W.keepIn K (.ref f_0) = true)
    (d_0 : K.lookup Td_0 = some ⟨.type "tuple", ddd_0, .seq [.none].toArray nd_0, sld_0⟩)
    {f_1 : Addr} {od_1 an_1 : Option Addr} {sl_1 : Array (Option Value)} {oc_1 kV_1 dc_1 pm_1 cd_1 ct_1 : Value}
    (a_1 : PySem.W.nsIn K mainGlobals "is_one_of" = some (some (.ref f_1))) (l_1 : K.lookup f_1 = some ⟨oc_1, od_1, .func (PySem.W.fnOf "is_one_of" "is_one_of" (defArgs s_is_one_of) (defBody s_is_one_of) (defScope s_is_one_of) .none kV_1 dc_1 pm_1 an_1 cd_1 ct_1), sl_1⟩) (c_1 : PySem.W.codeIn K cd_1 "is_one_of" = true) (k_1 : PySem.W.keepIn K (.ref f_1) = true)
    {f_2 : Addr} {od_2 an_2 : Option Addr} {sl_2 : Array (Option Value)} {oc_2 kV_2 dc_2 pm_2 cd_2 ct_2 : Value}
    (a_2 : PySem.W.nsIn K mainGlobals "rules_flags" = some (some (.ref f_2))) (l_2 : K.lookup f_2 = some ⟨oc_2, od_2, .func (PySem.W.fnOf "rules_flags" "rules_flags" (defArgs s_rules_flags) (defBody s_rules_flags) (defScope s_rules_flags) .none kV_2 dc_2 pm_2 an_2 cd_2 ct_2), sl_2⟩) (c_2 : PySem.W.codeIn K cd_2 "rules_flags" = true) (k_2 : PySem.W.keepIn K (.ref f_2) = true)
    {f_3 : Addr} {od_3 an_3 : Option Addr} {sl_3 : Array (Option Value)} {oc_3 kV_3 dc_3 pm_3 cd_3 ct_3 : Value}
    (a_3 : PySem.W.nsIn K mainGlobals "require_rules" = some (some (.ref f_3))) (l_3 : K.lookup f_3 = some ⟨oc_3, od_3, .func (PySem.W.fnOf "require_rules" "require_rules" (defArgs s_require_rules) (defBody s_require_rules) (defScope s_require_rules) .none kV_3 dc_3 pm_3 an_3 cd_3 ct_3), sl_3⟩) (c_3 : PySem.W.codeIn K cd_3 "require_rules" = true) (k_3 : PySem.W.keepIn K (.ref f_3) = true)
    {f_4 : Addr} {od_4 an_4 : Option Addr} {sl_4 : Array (Option Value)} {oc_4 kV_4 dc_4 pm_4 cd_4 ct_4 : Value}
    (a_4 : PySem.W.nsIn K mainGlobals "is_event" = some (some (.ref f_4))) (l_4 : K.lookup f_4 = some ⟨oc_4, od_4, .func (PySem.W.fnOf "is_event" "is_event" (defArgs s_is_event) (defBody s_is_event) (defScope s_is_event) .none kV_4 dc_4 pm_4 an_4 cd_4 ct_4), sl_4⟩) (c_4 : PySem.W.codeIn K cd_4 "is_event" = true) (k_4 : PySem.W.keepIn K (.ref f_4) = true)
    {f_5 : Addr} {od_5 an_5 : Option Addr} {sl_5 : Array (Option Value)} {oc_5 kV_5 dc_5 pm_5 cd_5 ct_5 : Value}
    (a_5 : PySem.W.nsIn K mainGlobals "fault_of_record" = some (some (.ref f_5))) (l_5 : K.lookup f_5 = some ⟨oc_5, od_5, .func (PySem.W.fnOf "fault_of_record" "fault_of_record" (defArgs s_fault_of_record) (defBody s_fault_of_record) (defScope s_fault_of_record) .none kV_5 dc_5 pm_5 an_5 cd_5 ct_5), sl_5⟩) (c_5 : PySem.W.codeIn K cd_5 "fault_of_record" = true) (k_5 : PySem.W.keepIn K (.ref f_5) = true)
    {f_6 : Addr} {od_6 an_6 : Option Addr} {sl_6 : Array (Option Value)} {oc_6 kV_6 dc_6 pm_6 cd_6 ct_6 : Value}
    (a_6 : PySem.W.nsIn K mainGlobals "length_of" = some (some (.ref f_6))) (l_6 : K.lookup f_6 = some ⟨oc_6, od_6, .func (PySem.W.fnOf "length_of" "length_of" (defArgs s_length_of) (defBody s_length_of) (defScope s_length_of) .none kV_6 dc_6 pm_6 an_6 cd_6 ct_6), sl_6⟩) (c_6 : PySem.W.codeIn K cd_6 "length_of" = true) (k_6 : PySem.W.keepIn K (.ref f_6) = true)
    {f_7 : Addr} {od_7 an_7 : Option Addr} {sl_7 : Array (Option Value)} {oc_7 kV_7 dc_7 pm_7 cd_7 ct_7 : Value}
    (a_7 : PySem.W.nsIn K mainGlobals "period_of" = some (some (.ref f_7))) (l_7 : K.lookup f_7 = some ⟨oc_7, od_7, .func (PySem.W.fnOf "period_of" "period_of" (defArgs s_period_of) (defBody s_period_of) (defScope s_period_of) .none kV_7 dc_7 pm_7 an_7 cd_7 ct_7), sl_7⟩) (c_7 : PySem.W.codeIn K cd_7 "period_of" = true) (k_7 : PySem.W.keepIn K (.ref f_7) = true)
    {f_8 : Addr} {od_8 an_8 : Option Addr} {sl_8 : Array (Option Value)} {oc_8 kV_8 dc_8 pm_8 cd_8 ct_8 : Value}
    (a_8 : PySem.W.nsIn K mainGlobals "word_period" = some (some (.ref f_8))) (l_8 : K.lookup f_8 = some ⟨oc_8, od_8, .func (PySem.W.fnOf "word_period" "word_period" (defArgs s_word_period) (defBody s_word_period) (defScope s_word_period) .none kV_8 dc_8 pm_8 an_8 cd_8 ct_8), sl_8⟩) (c_8 : PySem.W.codeIn K cd_8 "word_period" = true) (k_8 : PySem.W.keepIn K (.ref f_8) = true)
    {f_9 : Addr} {od_9 an_9 : Option Addr} {sl_9 : Array (Option Value)} {oc_9 kV_9 dc_9 pm_9 cd_9 ct_9 : Value}
    (a_9 : PySem.W.nsIn K mainGlobals "other_of" = some (some (.ref f_9))) (l_9 : K.lookup f_9 = some ⟨oc_9, od_9, .func (PySem.W.fnOf "other_of" "other_of" (defArgs s_other_of) (defBody s_other_of) (defScope s_other_of) .none kV_9 dc_9 pm_9 an_9 cd_9 ct_9), sl_9⟩) (c_9 : PySem.W.codeIn K cd_9 "other_of" = true) (k_9 : PySem.W.keepIn K (.ref f_9) = true)
    {f_10 : Addr} {od_10 an_10 : Option Addr} {sl_10 : Array (Option Value)} {oc_10 kV_10 dc_10 pm_10 cd_10 ct_10 : Value}
    (a_10 : PySem.W.nsIn K mainGlobals "tidy_kinds" = some (some (.ref f_10))) (l_10 : K.lookup f_10 = some ⟨oc_10, od_10, .func (PySem.W.fnOf "tidy_kinds" "tidy_kinds" (defArgs s_tidy_kinds) (defBody s_tidy_kinds) (defScope s_tidy_kinds) .none kV_10 dc_10 pm_10 an_10 cd_10 ct_10), sl_10⟩) (c_10 : PySem.W.codeIn K cd_10 "tidy_kinds" = true) (k_10 : PySem.W.keepIn K (.ref f_10) = true)
    {f_11 : Addr} {od_11 an_11 : Option Addr} {sl_11 : Array (Option Value)} {oc_11 kV_11 dc_11 pm_11 cd_11 ct_11 : Value}
    (a_11 : PySem.W.nsIn K mainGlobals "tidy_runs" = some (some (.ref f_11))) (l_11 : K.lookup f_11 = some ⟨oc_11, od_11, .func (PySem.W.fnOf "tidy_runs" "tidy_runs" (defArgs s_tidy_runs) (defBody s_tidy_runs) (defScope s_tidy_runs) .none kV_11 dc_11 pm_11 an_11 cd_11 ct_11), sl_11⟩) (c_11 : PySem.W.codeIn K cd_11 "tidy_runs" = true) (k_11 : PySem.W.keepIn K (.ref f_11) = true)
    {f_12 : Addr} {od_12 an_12 : Option Addr} {sl_12 : Array (Option Value)} {oc_12 kV_12 dc_12 pm_12 cd_12 ct_12 : Value}
    (a_12 : PySem.W.nsIn K mainGlobals "can_hear" = some (some (.ref f_12))) (l_12 : K.lookup f_12 = some ⟨oc_12, od_12, .func (PySem.W.fnOf "can_hear" "can_hear" (defArgs s_can_hear) (defBody s_can_hear) (defScope s_can_hear) .none kV_12 dc_12 pm_12 an_12 cd_12 ct_12), sl_12⟩) (c_12 : PySem.W.codeIn K cd_12 "can_hear" = true) (k_12 : PySem.W.keepIn K (.ref f_12) = true)
    {f_13 : Addr} {od_13 an_13 : Option Addr} {sl_13 : Array (Option Value)} {oc_13 kV_13 dc_13 pm_13 cd_13 ct_13 : Value}
    (a_13 : PySem.W.nsIn K mainGlobals "outcome" = some (some (.ref f_13))) (l_13 : K.lookup f_13 = some ⟨oc_13, od_13, .func (PySem.W.fnOf "outcome" "outcome" (defArgs s_outcome) (defBody s_outcome) (defScope s_outcome) .none kV_13 dc_13 pm_13 an_13 cd_13 ct_13), sl_13⟩) (c_13 : PySem.W.codeIn K cd_13 "outcome" = true) (k_13 : PySem.W.keepIn K (.ref f_13) = true)
    {f_14 : Addr} {od_14 an_14 : Option Addr} {sl_14 : Array (Option Value)} {oc_14 kV_14 dc_14 pm_14 cd_14 ct_14 : Value}
    (a_14 : PySem.W.nsIn K mainGlobals "state_behind" = some (some (.ref f_14))) (l_14 : K.lookup f_14 = some ⟨oc_14, od_14, .func (PySem.W.fnOf "state_behind" "state_behind" (defArgs s_state_behind) (defBody s_state_behind) (defScope s_state_behind) .none kV_14 dc_14 pm_14 an_14 cd_14 ct_14), sl_14⟩) (c_14 : PySem.W.codeIn K cd_14 "state_behind" = true) (k_14 : PySem.W.keepIn K (.ref f_14) = true)
    {f_15 : Addr} {od_15 an_15 : Option Addr} {sl_15 : Array (Option Value)} {oc_15 kV_15 dc_15 pm_15 cd_15 ct_15 : Value}
    (a_15 : PySem.W.nsIn K mainGlobals "all_runs" = some (some (.ref f_15))) (l_15 : K.lookup f_15 = some ⟨oc_15, od_15, .func (PySem.W.fnOf "all_runs" "all_runs" (defArgs s_all_runs) (defBody s_all_runs) (defScope s_all_runs) .none kV_15 dc_15 pm_15 an_15 cd_15 ct_15), sl_15⟩) (c_15 : PySem.W.codeIn K cd_15 "all_runs" = true) (k_15 : PySem.W.keepIn K (.ref f_15) = true)
    {f_16 : Addr} {od_16 an_16 : Option Addr} {sl_16 : Array (Option Value)} {oc_16 kV_16 dc_16 pm_16 cd_16 ct_16 : Value}
    (a_16 : PySem.W.nsIn K mainGlobals "plain_of" = some (some (.ref f_16))) (l_16 : K.lookup f_16 = some ⟨oc_16, od_16, .func (PySem.W.fnOf "plain_of" "plain_of" (defArgs s_plain_of) (defBody s_plain_of) (defScope s_plain_of) .none kV_16 dc_16 pm_16 an_16 cd_16 ct_16), sl_16⟩) (c_16 : PySem.W.codeIn K cd_16 "plain_of" = true) (k_16 : PySem.W.keepIn K (.ref f_16) = true)
    {f_17 : Addr} {od_17 an_17 : Option Addr} {sl_17 : Array (Option Value)} {oc_17 kV_17 dc_17 pm_17 cd_17 ct_17 : Value}
    (a_17 : PySem.W.nsIn K mainGlobals "found_parting" = some (some (.ref f_17))) (l_17 : K.lookup f_17 = some ⟨oc_17, od_17, .func (PySem.W.fnOf "found_parting" "found_parting" (defArgs s_found_parting) (defBody s_found_parting) (defScope s_found_parting) .none kV_17 dc_17 pm_17 an_17 cd_17 ct_17), sl_17⟩) (c_17 : PySem.W.codeIn K cd_17 "found_parting" = true) (k_17 : PySem.W.keepIn K (.ref f_17) = true)
    {f_18 : Addr} {od_18 an_18 : Option Addr} {sl_18 : Array (Option Value)} {oc_18 kV_18 dc_18 pm_18 cd_18 ct_18 : Value}
    (a_18 : PySem.W.nsIn K mainGlobals "parting_record" = some (some (.ref f_18))) (l_18 : K.lookup f_18 = some ⟨oc_18, od_18, .func (PySem.W.fnOf "parting_record" "parting_record" (defArgs s_parting_record) (defBody s_parting_record) (defScope s_parting_record) .none kV_18 dc_18 pm_18 an_18 cd_18 ct_18), sl_18⟩) (c_18 : PySem.W.codeIn K cd_18 "parting_record" = true) (k_18 : PySem.W.keepIn K (.ref f_18) = true)
    {f_19 : Addr} {od_19 an_19 : Option Addr} {sl_19 : Array (Option Value)} {oc_19 kV_19 dc_19 pm_19 cd_19 ct_19 : Value}
    (a_19 : PySem.W.nsIn K mainGlobals "fewest_parting" = some (some (.ref f_19))) (l_19 : K.lookup f_19 = some ⟨oc_19, od_19, .func (PySem.W.fnOf "fewest_parting" "fewest_parting" (defArgs s_fewest_parting) (defBody s_fewest_parting) (defScope s_fewest_parting) .none kV_19 dc_19 pm_19 an_19 cd_19 ct_19), sl_19⟩) (c_19 : PySem.W.codeIn K cd_19 "fewest_parting" = true) (k_19 : PySem.W.keepIn K (.ref f_19) = true)
    {f_20 : Addr} {od_20 an_20 : Option Addr} {sl_20 : Array (Option Value)} {oc_20 kV_20 dc_20 pm_20 cd_20 ct_20 : Value}
    (a_20 : PySem.W.nsIn K mainGlobals "are_unlike" = some (some (.ref f_20))) (l_20 : K.lookup f_20 = some ⟨oc_20, od_20, .func (PySem.W.fnOf "are_unlike" "are_unlike" (defArgs s_are_unlike) (defBody s_are_unlike) (defScope s_are_unlike) .none kV_20 dc_20 pm_20 an_20 cd_20 ct_20), sl_20⟩) (c_20 : PySem.W.codeIn K cd_20 "are_unlike" = true) (k_20 : PySem.W.keepIn K (.ref f_20) = true)
    {f_21 : Addr} {od_21 an_21 : Option Addr} {sl_21 : Array (Option Value)} {oc_21 kV_21 dc_21 pm_21 cd_21 ct_21 : Value}
    (a_21 : PySem.W.nsIn K mainGlobals "shows_parting" = some (some (.ref f_21))) (l_21 : K.lookup f_21 = some ⟨oc_21, od_21, .func (PySem.W.fnOf "shows_parting" "shows_parting" (defArgs s_shows_parting) (defBody s_shows_parting) (defScope s_shows_parting) .none kV_21 dc_21 pm_21 an_21 cd_21 ct_21), sl_21⟩) (c_21 : PySem.W.codeIn K cd_21 "shows_parting" = true) (k_21 : PySem.W.keepIn K (.ref f_21) = true)
    {f_22 : Addr} {od_22 an_22 : Option Addr} {sl_22 : Array (Option Value)} {oc_22 kV_22 dc_22 pm_22 cd_22 ct_22 : Value}
    (a_22 : PySem.W.nsIn K mainGlobals "_law_reel" = some (some (.ref f_22))) (l_22 : K.lookup f_22 = some ⟨oc_22, od_22, .func (PySem.W.fnOf "_law_reel" "_law_reel" (defArgs s__law_reel) (defBody s__law_reel) (defScope s__law_reel) .none kV_22 dc_22 pm_22 an_22 cd_22 ct_22), sl_22⟩) (c_22 : PySem.W.codeIn K cd_22 "_law_reel" = true) (k_22 : PySem.W.keepIn K (.ref f_22) = true)
    {f_23 : Addr} {od_23 an_23 : Option Addr} {sl_23 : Array (Option Value)} {oc_23 kV_23 dc_23 pm_23 cd_23 ct_23 : Value}
    (a_23 : PySem.W.nsIn K mainGlobals "_law_spin" = some (some (.ref f_23))) (l_23 : K.lookup f_23 = some ⟨oc_23, od_23, .func (PySem.W.fnOf "_law_spin" "_law_spin" (defArgs s__law_spin) (defBody s__law_spin) (defScope s__law_spin) .none kV_23 dc_23 pm_23 an_23 cd_23 ct_23), sl_23⟩) (c_23 : PySem.W.codeIn K cd_23 "_law_spin" = true) (k_23 : PySem.W.keepIn K (.ref f_23) = true)
    {f_24 : Addr} {od_24 an_24 : Option Addr} {sl_24 : Array (Option Value)} {oc_24 kV_24 dc_24 pm_24 cd_24 ct_24 : Value}
    (a_24 : PySem.W.nsIn K mainGlobals "_law_rules" = some (some (.ref f_24))) (l_24 : K.lookup f_24 = some ⟨oc_24, od_24, .func (PySem.W.fnOf "_law_rules" "_law_rules" (defArgs s__law_rules) (defBody s__law_rules) (defScope s__law_rules) .none kV_24 dc_24 pm_24 an_24 cd_24 ct_24), sl_24⟩) (c_24 : PySem.W.codeIn K cd_24 "_law_rules" = true) (k_24 : PySem.W.keepIn K (.ref f_24) = true)
    {f_25 : Addr} {od_25 an_25 : Option Addr} {sl_25 : Array (Option Value)} {oc_25 kV_25 dc_25 pm_25 cd_25 ct_25 : Value}
    (a_25 : PySem.W.nsIn K mainGlobals "_law_told" = some (some (.ref f_25))) (l_25 : K.lookup f_25 = some ⟨oc_25, od_25, .func (PySem.W.fnOf "_law_told" "_law_told" (defArgs s__law_told) (defBody s__law_told) (defScope s__law_told) .none kV_25 dc_25 pm_25 an_25 cd_25 ct_25), sl_25⟩) (c_25 : PySem.W.codeIn K cd_25 "_law_told" = true) (k_25 : PySem.W.keepIn K (.ref f_25) = true)
    {f_26 : Addr} {od_26 an_26 : Option Addr} {sl_26 : Array (Option Value)} {oc_26 kV_26 dc_26 pm_26 cd_26 ct_26 : Value}
    (a_26 : PySem.W.nsIn K mainGlobals "_law_bad_rules" = some (some (.ref f_26))) (l_26 : K.lookup f_26 = some ⟨oc_26, od_26, .func (PySem.W.fnOf "_law_bad_rules" "_law_bad_rules" (defArgs s__law_bad_rules) (defBody s__law_bad_rules) (defScope s__law_bad_rules) .none kV_26 dc_26 pm_26 an_26 cd_26 ct_26), sl_26⟩) (c_26 : PySem.W.codeIn K cd_26 "_law_bad_rules" = true) (k_26 : PySem.W.keepIn K (.ref f_26) = true)
    {f_27 : Addr} {od_27 an_27 : Option Addr} {sl_27 : Array (Option Value)} {oc_27 kV_27 dc_27 pm_27 cd_27 ct_27 : Value}
    (a_27 : PySem.W.nsIn K mainGlobals "_law_raised" = some (some (.ref f_27))) (l_27 : K.lookup f_27 = some ⟨oc_27, od_27, .func (PySem.W.fnOf "_law_raised" "_law_raised" (defArgs s__law_raised) (defBody s__law_raised) (defScope s__law_raised) .none kV_27 dc_27 pm_27 an_27 cd_27 ct_27), sl_27⟩) (c_27 : PySem.W.codeIn K cd_27 "_law_raised" = true) (k_27 : PySem.W.keepIn K (.ref f_27) = true)
    {f_28 : Addr} {od_28 an_28 : Option Addr} {sl_28 : Array (Option Value)} {oc_28 kV_28 dc_28 pm_28 cd_28 ct_28 : Value}
    (a_28 : PySem.W.nsIn K mainGlobals "_law_right" = some (some (.ref f_28))) (l_28 : K.lookup f_28 = some ⟨oc_28, od_28, .func (PySem.W.fnOf "_law_right" "_law_right" (defArgs s__law_right) (defBody s__law_right) (defScope s__law_right) .none kV_28 dc_28 pm_28 an_28 cd_28 ct_28), sl_28⟩) (c_28 : PySem.W.codeIn K cd_28 "_law_right" = true) (k_28 : PySem.W.keepIn K (.ref f_28) = true)
    {f_29 : Addr} {od_29 an_29 : Option Addr} {sl_29 : Array (Option Value)} {oc_29 kV_29 dc_29 pm_29 cd_29 ct_29 : Value}
    (a_29 : PySem.W.nsIn K mainGlobals "law" = some (some (.ref f_29))) (l_29 : K.lookup f_29 = some ⟨oc_29, od_29, .func (PySem.W.fnOf "law" "law" (defArgs s_law) (defBody s_law) (defScope s_law) .none kV_29 dc_29 pm_29 an_29 cd_29 ct_29), sl_29⟩) (c_29 : PySem.W.codeIn K cd_29 "law" = true) (k_29 : PySem.W.keepIn K (.ref f_29) = true)
    {f_30 : Addr} {od_30 an_30 : Option Addr} {sl_30 : Array (Option Value)} {oc_30 kV_30 dc_30 pm_30 cd_30 ct_30 : Value}
    (a_30 : PySem.W.findIn K (.ref C_Blocks) "__init__" = some (some (.ref f_30))) (l_30 : K.lookup f_30 = some ⟨oc_30, od_30, .func (PySem.W.fnOf "__init__" "Blocks.__init__" (defArgs s_Blocks___init__) (defBody s_Blocks___init__) (defScope s_Blocks___init__) .none kV_30 dc_30 pm_30 an_30 cd_30 ct_30), sl_30⟩) (c_30 : PySem.W.codeIn K cd_30 "Blocks.__init__" = true) (k_30 : PySem.W.keepIn K (.ref f_30) = true) (i_30 : PySem.W.isFn K (.ref f_30) = true)
    {f_31 : Addr} {od_31 an_31 : Option Addr} {sl_31 : Array (Option Value)} {oc_31 kV_31 dc_31 pm_31 cd_31 ct_31 : Value}
    (a_31 : PySem.W.findIn K (.ref C_Blocks) "last_kind" = some (some (.ref f_31))) (l_31 : K.lookup f_31 = some ⟨oc_31, od_31, .func (PySem.W.fnOf "last_kind" "Blocks.last_kind" (defArgs s_Blocks_last_kind) (defBody s_Blocks_last_kind) (defScope s_Blocks_last_kind) .none kV_31 dc_31 pm_31 an_31 cd_31 ct_31), sl_31⟩) (c_31 : PySem.W.codeIn K cd_31 "Blocks.last_kind" = true) (k_31 : PySem.W.keepIn K (.ref f_31) = true) (i_31 : PySem.W.isFn K (.ref f_31) = true)
    {f_32 : Addr} {od_32 an_32 : Option Addr} {sl_32 : Array (Option Value)} {oc_32 kV_32 dc_32 pm_32 cd_32 ct_32 : Value}
    (a_32 : PySem.W.findIn K (.ref C_Blocks) "put_alternating" = some (some (.ref f_32))) (l_32 : K.lookup f_32 = some ⟨oc_32, od_32, .func (PySem.W.fnOf "put_alternating" "Blocks.put_alternating" (defArgs s_Blocks_put_alternating) (defBody s_Blocks_put_alternating) (defScope s_Blocks_put_alternating) .none kV_32 dc_32 pm_32 an_32 cd_32 ct_32), sl_32⟩) (c_32 : PySem.W.codeIn K cd_32 "Blocks.put_alternating" = true) (k_32 : PySem.W.keepIn K (.ref f_32) = true) (i_32 : PySem.W.isFn K (.ref f_32) = true)
    {f_33 : Addr} {od_33 an_33 : Option Addr} {sl_33 : Array (Option Value)} {oc_33 kV_33 dc_33 pm_33 cd_33 ct_33 : Value}
    (a_33 : PySem.W.findIn K (.ref C_Blocks) "put_same" = some (some (.ref f_33))) (l_33 : K.lookup f_33 = some ⟨oc_33, od_33, .func (PySem.W.fnOf "put_same" "Blocks.put_same" (defArgs s_Blocks_put_same) (defBody s_Blocks_put_same) (defScope s_Blocks_put_same) .none kV_33 dc_33 pm_33 an_33 cd_33 ct_33), sl_33⟩) (c_33 : PySem.W.codeIn K cd_33 "Blocks.put_same" = true) (k_33 : PySem.W.keepIn K (.ref f_33) = true) (i_33 : PySem.W.isFn K (.ref f_33) = true)
    {f_34 : Addr} {od_34 an_34 : Option Addr} {sl_34 : Array (Option Value)} {oc_34 kV_34 dc_34 pm_34 cd_34 ct_34 : Value}
    (a_34 : PySem.W.findIn K (.ref C_Blocks) "put_in" = some (some (.ref f_34))) (l_34 : K.lookup f_34 = some ⟨oc_34, od_34, .func (PySem.W.fnOf "put_in" "Blocks.put_in" (defArgs s_Blocks_put_in) (defBody s_Blocks_put_in) (defScope s_Blocks_put_in) .none kV_34 dc_34 pm_34 an_34 cd_34 ct_34), sl_34⟩) (c_34 : PySem.W.codeIn K cd_34 "Blocks.put_in" = true) (k_34 : PySem.W.keepIn K (.ref f_34) = true) (i_34 : PySem.W.isFn K (.ref f_34) = true)
    {f_35 : Addr} {od_35 an_35 : Option Addr} {sl_35 : Array (Option Value)} {oc_35 kV_35 dc_35 pm_35 cd_35 ct_35 : Value}
    (a_35 : PySem.W.findIn K (.ref C_Blocks) "tidy" = some (some (.ref f_35))) (l_35 : K.lookup f_35 = some ⟨oc_35, od_35, .func (PySem.W.fnOf "tidy" "Blocks.tidy" (defArgs s_Blocks_tidy) (defBody s_Blocks_tidy) (defScope s_Blocks_tidy) .none kV_35 dc_35 pm_35 an_35 cd_35 ct_35), sl_35⟩) (c_35 : PySem.W.codeIn K cd_35 "Blocks.tidy" = true) (k_35 : PySem.W.keepIn K (.ref f_35) = true) (i_35 : PySem.W.isFn K (.ref f_35) = true)
    {f_36 : Addr} {od_36 an_36 : Option Addr} {sl_36 : Array (Option Value)} {oc_36 kV_36 dc_36 pm_36 cd_36 ct_36 : Value}
    (a_36 : PySem.W.findIn K (.ref C_State) "__init__" = some (some (.ref f_36))) (l_36 : K.lookup f_36 = some ⟨oc_36, od_36, .func (PySem.W.fnOf "__init__" "State.__init__" (defArgs s_State___init__) (defBody s_State___init__) (defScope s_State___init__) .none kV_36 dc_36 pm_36 an_36 cd_36 ct_36), sl_36⟩) (c_36 : PySem.W.codeIn K cd_36 "State.__init__" = true) (k_36 : PySem.W.keepIn K (.ref f_36) = true) (i_36 : PySem.W.isFn K (.ref f_36) = true)
    {f_37 : Addr} {od_37 an_37 : Option Addr} {sl_37 : Array (Option Value)} {oc_37 kV_37 dc_37 pm_37 cd_37 ct_37 : Value}
    (a_37 : PySem.W.findIn K (.ref C_State) "note" = some (some (.ref f_37))) (l_37 : K.lookup f_37 = some ⟨oc_37, od_37, .func (PySem.W.fnOf "note" "State.note" (defArgs s_State_note) (defBody s_State_note) (defScope s_State_note) .none kV_37 dc_37 pm_37 an_37 cd_37 ct_37), sl_37⟩) (c_37 : PySem.W.codeIn K cd_37 "State.note" = true) (k_37 : PySem.W.keepIn K (.ref f_37) = true) (i_37 : PySem.W.isFn K (.ref f_37) = true)
    {f_38 : Addr} {od_38 an_38 : Option Addr} {sl_38 : Array (Option Value)} {oc_38 kV_38 dc_38 pm_38 cd_38 ct_38 : Value}
    (a_38 : PySem.W.findIn K (.ref C_State) "note_other" = some (some (.ref f_38))) (l_38 : K.lookup f_38 = some ⟨oc_38, od_38, .func (PySem.W.fnOf "note_other" "State.note_other" (defArgs s_State_note_other) (defBody s_State_note_other) (defScope s_State_note_other) .none kV_38 dc_38 pm_38 an_38 cd_38 ct_38), sl_38⟩) (c_38 : PySem.W.codeIn K cd_38 "State.note_other" = true) (k_38 : PySem.W.keepIn K (.ref f_38) = true) (i_38 : PySem.W.isFn K (.ref f_38) = true)
    {f_39 : Addr} {od_39 an_39 : Option Addr} {sl_39 : Array (Option Value)} {oc_39 kV_39 dc_39 pm_39 cd_39 ct_39 : Value}
    (a_39 : PySem.W.findIn K (.ref C_State) "is_held_other" = some (some (.ref f_39))) (l_39 : K.lookup f_39 = some ⟨oc_39, od_39, .func (PySem.W.fnOf "is_held_other" "State.is_held_other" (defArgs s_State_is_held_other) (defBody s_State_is_held_other) (defScope s_State_is_held_other) .none kV_39 dc_39 pm_39 an_39 cd_39 ct_39), sl_39⟩) (c_39 : PySem.W.codeIn K cd_39 "State.is_held_other" = true) (k_39 : PySem.W.keepIn K (.ref f_39) = true) (i_39 : PySem.W.isFn K (.ref f_39) = true)
    {f_40 : Addr} {od_40 an_40 : Option Addr} {sl_40 : Array (Option Value)} {oc_40 kV_40 dc_40 pm_40 cd_40 ct_40 : Value}
    (a_40 : PySem.W.findIn K (.ref C_State) "start" = some (some (.ref f_40))) (l_40 : K.lookup f_40 = some ⟨oc_40, od_40, .func (PySem.W.fnOf "start" "State.start" (defArgs s_State_start) (defBody s_State_start) (defScope s_State_start) .none kV_40 dc_40 pm_40 an_40 cd_40 ct_40), sl_40⟩) (c_40 : PySem.W.codeIn K cd_40 "State.start" = true) (k_40 : PySem.W.keepIn K (.ref f_40) = true) (i_40 : PySem.W.isFn K (.ref f_40) = true)
    {f_41 : Addr} {od_41 an_41 : Option Addr} {sl_41 : Array (Option Value)} {oc_41 kV_41 dc_41 pm_41 cd_41 ct_41 : Value}
    (a_41 : PySem.W.findIn K (.ref C_State) "hear" = some (some (.ref f_41))) (l_41 : K.lookup f_41 = some ⟨oc_41, od_41, .func (PySem.W.fnOf "hear" "State.hear" (defArgs s_State_hear) (defBody s_State_hear) (defScope s_State_hear) .none kV_41 dc_41 pm_41 an_41 cd_41 ct_41), sl_41⟩) (c_41 : PySem.W.codeIn K cd_41 "State.hear" = true) (k_41 : PySem.W.keepIn K (.ref f_41) = true) (i_41 : PySem.W.isFn K (.ref f_41) = true)
    {f_42 : Addr} {od_42 an_42 : Option Addr} {sl_42 : Array (Option Value)} {oc_42 kV_42 dc_42 pm_42 cd_42 ct_42 : Value}
    (a_42 : PySem.W.findIn K (.ref C_State) "decide" = some (some (.ref f_42))) (l_42 : K.lookup f_42 = some ⟨oc_42, od_42, .func (PySem.W.fnOf "decide" "State.decide" (defArgs s_State_decide) (defBody s_State_decide) (defScope s_State_decide) .none kV_42 dc_42 pm_42 an_42 cd_42 ct_42), sl_42⟩) (c_42 : PySem.W.codeIn K cd_42 "State.decide" = true) (k_42 : PySem.W.keepIn K (.ref f_42) = true) (i_42 : PySem.W.isFn K (.ref f_42) = true)
    {f_43 : Addr} {od_43 an_43 : Option Addr} {sl_43 : Array (Option Value)} {oc_43 kV_43 dc_43 pm_43 cd_43 ct_43 : Value}
    (a_43 : PySem.W.findIn K (.ref C_State) "following" = some (some (.ref f_43))) (l_43 : K.lookup f_43 = some ⟨oc_43, od_43, .func (PySem.W.fnOf "following" "State.following" (defArgs s_State_following) (defBody s_State_following) (defScope s_State_following) .none kV_43 dc_43 pm_43 an_43 cd_43 ct_43), sl_43⟩) (c_43 : PySem.W.codeIn K cd_43 "State.following" = true) (k_43 : PySem.W.keepIn K (.ref f_43) = true) (i_43 : PySem.W.isFn K (.ref f_43) = true)
    {f_44 : Addr} {od_44 an_44 : Option Addr} {sl_44 : Array (Option Value)} {oc_44 kV_44 dc_44 pm_44 cd_44 ct_44 : Value}
    (a_44 : PySem.W.findIn K (.ref C_State) "skip" = some (some (.ref f_44))) (l_44 : K.lookup f_44 = some ⟨oc_44, od_44, .func (PySem.W.fnOf "skip" "State.skip" (defArgs s_State_skip) (defBody s_State_skip) (defScope s_State_skip) .none kV_44 dc_44 pm_44 an_44 cd_44 ct_44), sl_44⟩) (c_44 : PySem.W.codeIn K cd_44 "State.skip" = true) (k_44 : PySem.W.keepIn K (.ref f_44) = true) (i_44 : PySem.W.isFn K (.ref f_44) = true)
    {f_45 : Addr} {od_45 an_45 : Option Addr} {sl_45 : Array (Option Value)} {oc_45 kV_45 dc_45 pm_45 cd_45 ct_45 : Value}
    (a_45 : PySem.W.findIn K (.ref C_State) "jump" = some (some (.ref f_45))) (l_45 : K.lookup f_45 = some ⟨oc_45, od_45, .func (PySem.W.fnOf "jump" "State.jump" (defArgs s_State_jump) (defBody s_State_jump) (defScope s_State_jump) .none kV_45 dc_45 pm_45 an_45 cd_45 ct_45), sl_45⟩) (c_45 : PySem.W.codeIn K cd_45 "State.jump" = true) (k_45 : PySem.W.keepIn K (.ref f_45) = true) (i_45 : PySem.W.isFn K (.ref f_45) = true)
    {f_46 : Addr} {od_46 an_46 : Option Addr} {sl_46 : Array (Option Value)} {oc_46 kV_46 dc_46 pm_46 cd_46 ct_46 : Value}
    (a_46 : PySem.W.findIn K (.ref C_State) "advance" = some (some (.ref f_46))) (l_46 : K.lookup f_46 = some ⟨oc_46, od_46, .func (PySem.W.fnOf "advance" "State.advance" (defArgs s_State_advance) (defBody s_State_advance) (defScope s_State_advance) .none kV_46 dc_46 pm_46 an_46 cd_46 ct_46), sl_46⟩) (c_46 : PySem.W.codeIn K cd_46 "State.advance" = true) (k_46 : PySem.W.keepIn K (.ref f_46) = true) (i_46 : PySem.W.isFn K (.ref f_46) = true)
    {f_47 : Addr} {od_47 an_47 : Option Addr} {sl_47 : Array (Option Value)} {oc_47 kV_47 dc_47 pm_47 cd_47 ct_47 : Value}
    (a_47 : PySem.W.findIn K (.ref C_State) "happen" = some (some (.ref f_47))) (l_47 : K.lookup f_47 = some ⟨oc_47, od_47, .func (PySem.W.fnOf "happen" "State.happen" (defArgs s_State_happen) (defBody s_State_happen) (defScope s_State_happen) .none kV_47 dc_47 pm_47 an_47 cd_47 ct_47), sl_47⟩) (c_47 : PySem.W.codeIn K cd_47 "State.happen" = true) (k_47 : PySem.W.keepIn K (.ref f_47) = true) (i_47 : PySem.W.isFn K (.ref f_47) = true)
    {f_48 : Addr} {od_48 an_48 : Option Addr} {sl_48 : Array (Option Value)} {oc_48 kV_48 dc_48 pm_48 cd_48 ct_48 : Value}
    (a_48 : PySem.W.findIn K (.ref C_State) "finish" = some (some (.ref f_48))) (l_48 : K.lookup f_48 = some ⟨oc_48, od_48, .func (PySem.W.fnOf "finish" "State.finish" (defArgs s_State_finish) (defBody s_State_finish) (defScope s_State_finish) .none kV_48 dc_48 pm_48 an_48 cd_48 ct_48), sl_48⟩) (c_48 : PySem.W.codeIn K cd_48 "State.finish" = true) (k_48 : PySem.W.keepIn K (.ref f_48) = true) (i_48 : PySem.W.isFn K (.ref f_48) = true)
    {f_49 : Addr} {od_49 an_49 : Option Addr} {sl_49 : Array (Option Value)} {oc_49 kV_49 dc_49 pm_49 cd_49 ct_49 : Value}
    (a_49 : PySem.W.findIn K (.ref C_State) "tidy" = some (some (.ref f_49))) (l_49 : K.lookup f_49 = some ⟨oc_49, od_49, .func (PySem.W.fnOf "tidy" "State.tidy" (defArgs s_State_tidy) (defBody s_State_tidy) (defScope s_State_tidy) .none kV_49 dc_49 pm_49 an_49 cd_49 ct_49), sl_49⟩) (c_49 : PySem.W.codeIn K cd_49 "State.tidy" = true) (k_49 : PySem.W.keepIn K (.ref f_49) = true) (i_49 : PySem.W.isFn K (.ref f_49) = true) :
    ∃ fd : FuncData, (∀ (s : Shared) (u : Value), BindsTo s fd ⟨[u], []⟩ [("script", u)]) ∧ ∀ base : Heap, K.In base → base.Ns mainGlobals mg → SysAt base → FnG l.prog w K mg base CX0 15 fa fd ["script"] (spT K S_law) := by
  cases hfa.symm.trans (PySem.W.mg_of X G a_29)
  have g : Gm K mg := ⟨PySem.W.mg_none_of X G z_ValueError, PySem.W.mg_none_of X G z_abs, PySem.W.mg_none_of X G z_any, PySem.W.mg_none_of X G z_bool, PySem.W.mg_none_of X G z_enumerate, PySem.W.mg_none_of X G z_int, PySem.W.mg_none_of X G z_isinstance, PySem.W.mg_none_of X G z_len, PySem.W.mg_none_of X G z_list, PySem.W.mg_none_of X G z_max, PySem.W.mg_none_of X G z_min, PySem.W.mg_none_of X G z_range, PySem.W.mg_none_of X G z_repr, PySem.W.mg_none_of X G z_sorted, PySem.W.mg_none_of X G z_str, PySem.W.mg_none_of X G z_sum, PySem.W.mg_none_of X G z_tuple, ⟨_, PySem.W.mg_of X G a_ALTERNATING⟩, ⟨_, PySem.W.mg_of X G a_LEVERS_values, rp_ktup l_LEVERS_values rfl (show 2 ≤ sizeLine by decide) (.cons ⟨_, rfl⟩ (.cons ⟨_, rfl⟩ .nil))⟩, ⟨_, PySem.W.mg_of X G a_MOST_EVENTS⟩, ⟨_, PySem.W.mg_of X G a_PREFERENCES, rp_ktup l_PREFERENCES rfl (show 4 ≤ sizeLine by decide) (.cons ⟨_, rfl⟩ (.cons ⟨_, rfl⟩ (.cons ⟨_, rfl⟩ (.cons ⟨_, rfl⟩ .nil))))⟩, ⟨_, PySem.W.mg_of X G a_REMEMBERS, rp_ktup l_REMEMBERS rfl (show 3 ≤ sizeLine by decide) (.cons ⟨_, rfl⟩ (.cons ⟨_, rfl⟩ (.cons ⟨_, rfl⟩ .nil)))⟩, ⟨_, PySem.W.mg_of X G a_STEP_WORDS, rp_ktup l_STEP_WORDS rfl (show 10 ≤ sizeLine by decide) (.cons ⟨_, rfl⟩ (.cons ⟨_, rfl⟩ (.cons ⟨_, rfl⟩ (.cons ⟨_, rfl⟩ (.cons ⟨_, rfl⟩ (.cons ⟨_, rfl⟩ (.cons ⟨_, rfl⟩ (.cons ⟨_, rfl⟩ (.cons ⟨_, rfl⟩ (.cons ⟨_, rfl⟩ .nil))))))))))⟩⟩
  have D_0 : DefAt K mg "is_integer" "is_integer" s_is_integer _ _ (.ref Td_0) := ⟨⟨_, _, _, _, _, _, _, l_0, rfl, c_0, rfl⟩, k_0, PySem.W.mg_of X G a_0⟩
  have D_1 : DefAt K mg "is_one_of" "is_one_of" s_is_one_of _ _ .none := ⟨⟨_, _, _, _, _, _, _, l_1, rfl, c_1, rfl⟩, k_1, PySem.W.mg_of X G a_1⟩
  have D_2 : DefAt K mg "rules_flags" "rules_flags" s_rules_flags _ _ .none := ⟨⟨_, _, _, _, _, _, _, l_2, rfl, c_2, rfl⟩, k_2, PySem.W.mg_of X G a_2⟩
  have D_3 : DefAt K mg "require_rules" "require_rules" s_require_rules _ _ .none := ⟨⟨_, _, _, _, _, _, _, l_3, rfl, c_3, rfl⟩, k_3, PySem.W.mg_of X G a_3⟩
  have D_4 : DefAt K mg "is_event" "is_event" s_is_event _ _ .none := ⟨⟨_, _, _, _, _, _, _, l_4, rfl, c_4, rfl⟩, k_4, PySem.W.mg_of X G a_4⟩
  have D_5 : DefAt K mg "fault_of_record" "fault_of_record" s_fault_of_record _ _ .none := ⟨⟨_, _, _, _, _, _, _, l_5, rfl, c_5, rfl⟩, k_5, PySem.W.mg_of X G a_5⟩
  have D_6 : DefAt K mg "length_of" "length_of" s_length_of _ _ .none := ⟨⟨_, _, _, _, _, _, _, l_6, rfl, c_6, rfl⟩, k_6, PySem.W.mg_of X G a_6⟩
  have D_7 : DefAt K mg "period_of" "period_of" s_period_of _ _ .none := ⟨⟨_, _, _, _, _, _, _, l_7, rfl, c_7, rfl⟩, k_7, PySem.W.mg_of X G a_7⟩
  have D_8 : DefAt K mg "word_period" "word_period" s_word_period _ _ .none := ⟨⟨_, _, _, _, _, _, _, l_8, rfl, c_8, rfl⟩, k_8, PySem.W.mg_of X G a_8⟩
  have D_9 : DefAt K mg "other_of" "other_of" s_other_of _ _ .none := ⟨⟨_, _, _, _, _, _, _, l_9, rfl, c_9, rfl⟩, k_9, PySem.W.mg_of X G a_9⟩
  have D_10 : DefAt K mg "tidy_kinds" "tidy_kinds" s_tidy_kinds _ _ .none := ⟨⟨_, _, _, _, _, _, _, l_10, rfl, c_10, rfl⟩, k_10, PySem.W.mg_of X G a_10⟩
  have D_11 : DefAt K mg "tidy_runs" "tidy_runs" s_tidy_runs _ _ .none := ⟨⟨_, _, _, _, _, _, _, l_11, rfl, c_11, rfl⟩, k_11, PySem.W.mg_of X G a_11⟩
  have D_12 : DefAt K mg "can_hear" "can_hear" s_can_hear _ _ .none := ⟨⟨_, _, _, _, _, _, _, l_12, rfl, c_12, rfl⟩, k_12, PySem.W.mg_of X G a_12⟩
  have D_13 : DefAt K mg "outcome" "outcome" s_outcome _ _ .none := ⟨⟨_, _, _, _, _, _, _, l_13, rfl, c_13, rfl⟩, k_13, PySem.W.mg_of X G a_13⟩
  have D_14 : DefAt K mg "state_behind" "state_behind" s_state_behind _ _ .none := ⟨⟨_, _, _, _, _, _, _, l_14, rfl, c_14, rfl⟩, k_14, PySem.W.mg_of X G a_14⟩
  have D_15 : DefAt K mg "all_runs" "all_runs" s_all_runs _ _ .none := ⟨⟨_, _, _, _, _, _, _, l_15, rfl, c_15, rfl⟩, k_15, PySem.W.mg_of X G a_15⟩
  have D_16 : DefAt K mg "plain_of" "plain_of" s_plain_of _ _ .none := ⟨⟨_, _, _, _, _, _, _, l_16, rfl, c_16, rfl⟩, k_16, PySem.W.mg_of X G a_16⟩
  have D_17 : DefAt K mg "found_parting" "found_parting" s_found_parting _ _ .none := ⟨⟨_, _, _, _, _, _, _, l_17, rfl, c_17, rfl⟩, k_17, PySem.W.mg_of X G a_17⟩
  have D_18 : DefAt K mg "parting_record" "parting_record" s_parting_record _ _ .none := ⟨⟨_, _, _, _, _, _, _, l_18, rfl, c_18, rfl⟩, k_18, PySem.W.mg_of X G a_18⟩
  have D_19 : DefAt K mg "fewest_parting" "fewest_parting" s_fewest_parting _ _ .none := ⟨⟨_, _, _, _, _, _, _, l_19, rfl, c_19, rfl⟩, k_19, PySem.W.mg_of X G a_19⟩
  have D_20 : DefAt K mg "are_unlike" "are_unlike" s_are_unlike _ _ .none := ⟨⟨_, _, _, _, _, _, _, l_20, rfl, c_20, rfl⟩, k_20, PySem.W.mg_of X G a_20⟩
  have D_21 : DefAt K mg "shows_parting" "shows_parting" s_shows_parting _ _ .none := ⟨⟨_, _, _, _, _, _, _, l_21, rfl, c_21, rfl⟩, k_21, PySem.W.mg_of X G a_21⟩
  have D_22 : DefAt K mg "_law_reel" "_law_reel" s__law_reel _ _ .none := ⟨⟨_, _, _, _, _, _, _, l_22, rfl, c_22, rfl⟩, k_22, PySem.W.mg_of X G a_22⟩
  have D_23 : DefAt K mg "_law_spin" "_law_spin" s__law_spin _ _ .none := ⟨⟨_, _, _, _, _, _, _, l_23, rfl, c_23, rfl⟩, k_23, PySem.W.mg_of X G a_23⟩
  have D_24 : DefAt K mg "_law_rules" "_law_rules" s__law_rules _ _ .none := ⟨⟨_, _, _, _, _, _, _, l_24, rfl, c_24, rfl⟩, k_24, PySem.W.mg_of X G a_24⟩
  have D_25 : DefAt K mg "_law_told" "_law_told" s__law_told _ _ .none := ⟨⟨_, _, _, _, _, _, _, l_25, rfl, c_25, rfl⟩, k_25, PySem.W.mg_of X G a_25⟩
  have D_26 : DefAt K mg "_law_bad_rules" "_law_bad_rules" s__law_bad_rules _ _ .none := ⟨⟨_, _, _, _, _, _, _, l_26, rfl, c_26, rfl⟩, k_26, PySem.W.mg_of X G a_26⟩
  have D_27 : DefAt K mg "_law_raised" "_law_raised" s__law_raised _ _ .none := ⟨⟨_, _, _, _, _, _, _, l_27, rfl, c_27, rfl⟩, k_27, PySem.W.mg_of X G a_27⟩
  have D_28 : DefAt K mg "_law_right" "_law_right" s__law_right _ _ .none := ⟨⟨_, _, _, _, _, _, _, l_28, rfl, c_28, rfl⟩, k_28, PySem.W.mg_of X G a_28⟩
  have D_29 : DefAt K mg "law" "law" s_law _ _ .none := ⟨⟨_, _, _, _, _, _, _, l_29, rfl, c_29, rfl⟩, k_29, PySem.W.mg_of X G a_29⟩
  have D_30 : DefM K "__init__" "Blocks.__init__" s_Blocks___init__ _ _ .none := ⟨⟨_, _, _, _, _, _, _, l_30, rfl, c_30, rfl⟩⟩
  have D_31 : DefM K "last_kind" "Blocks.last_kind" s_Blocks_last_kind _ _ .none := ⟨⟨_, _, _, _, _, _, _, l_31, rfl, c_31, rfl⟩⟩
  have D_32 : DefM K "put_alternating" "Blocks.put_alternating" s_Blocks_put_alternating _ _ .none := ⟨⟨_, _, _, _, _, _, _, l_32, rfl, c_32, rfl⟩⟩
  have D_33 : DefM K "put_same" "Blocks.put_same" s_Blocks_put_same _ _ .none := ⟨⟨_, _, _, _, _, _, _, l_33, rfl, c_33, rfl⟩⟩
  have D_34 : DefM K "put_in" "Blocks.put_in" s_Blocks_put_in _ _ .none := ⟨⟨_, _, _, _, _, _, _, l_34, rfl, c_34, rfl⟩⟩
  have D_35 : DefM K "tidy" "Blocks.tidy" s_Blocks_tidy _ _ .none := ⟨⟨_, _, _, _, _, _, _, l_35, rfl, c_35, rfl⟩⟩
  have D_36 : DefM K "__init__" "State.__init__" s_State___init__ _ _ .none := ⟨⟨_, _, _, _, _, _, _, l_36, rfl, c_36, rfl⟩⟩
  have D_37 : DefM K "note" "State.note" s_State_note _ _ .none := ⟨⟨_, _, _, _, _, _, _, l_37, rfl, c_37, rfl⟩⟩
  have D_38 : DefM K "note_other" "State.note_other" s_State_note_other _ _ .none := ⟨⟨_, _, _, _, _, _, _, l_38, rfl, c_38, rfl⟩⟩
  have D_39 : DefM K "is_held_other" "State.is_held_other" s_State_is_held_other _ _ .none := ⟨⟨_, _, _, _, _, _, _, l_39, rfl, c_39, rfl⟩⟩
  have D_40 : DefM K "start" "State.start" s_State_start _ _ .none := ⟨⟨_, _, _, _, _, _, _, l_40, rfl, c_40, rfl⟩⟩
  have D_41 : DefM K "hear" "State.hear" s_State_hear _ _ .none := ⟨⟨_, _, _, _, _, _, _, l_41, rfl, c_41, rfl⟩⟩
  have D_42 : DefM K "decide" "State.decide" s_State_decide _ _ .none := ⟨⟨_, _, _, _, _, _, _, l_42, rfl, c_42, rfl⟩⟩
  have D_43 : DefM K "following" "State.following" s_State_following _ _ .none := ⟨⟨_, _, _, _, _, _, _, l_43, rfl, c_43, rfl⟩⟩
  have D_44 : DefM K "skip" "State.skip" s_State_skip _ _ .none := ⟨⟨_, _, _, _, _, _, _, l_44, rfl, c_44, rfl⟩⟩
  have D_45 : DefM K "jump" "State.jump" s_State_jump _ _ .none := ⟨⟨_, _, _, _, _, _, _, l_45, rfl, c_45, rfl⟩⟩
  have D_46 : DefM K "advance" "State.advance" s_State_advance _ _ .none := ⟨⟨_, _, _, _, _, _, _, l_46, rfl, c_46, rfl⟩⟩
  have D_47 : DefM K "happen" "State.happen" s_State_happen _ _ .none := ⟨⟨_, _, _, _, _, _, _, l_47, rfl, c_47, rfl⟩⟩
  have D_48 : DefM K "finish" "State.finish" s_State_finish _ _ .none := ⟨⟨_, _, _, _, _, _, _, l_48, rfl, c_48, rfl⟩⟩
  have D_49 : DefM K "tidy" "State.tidy" s_State_tidy _ _ .none := ⟨⟨_, _, _, _, _, _, _, l_49, rfl, c_49, rfl⟩⟩
  refine ⟨PySem.W.fnOf "law" "law" (defArgs s_law) (defBody s_law) (defScope s_law) .none kV_29 dc_29 pm_29 an_29 cd_29 ct_29, fun s u => .of_eq rfl, fun base _ _ sys => ?_⟩
  have cL_Blocks : L2.Cls K (clsOf K "Blocks") := clsL_of xa_Blocks pg_Blocks hd_Blocks po_Blocks sa_Blocks
  have cf_Blocks : Cf_Blocks K := ⟨fldAt_of xa_Blocks cL_Blocks nf_Blocks_kept_parts⟩
  have cL_State : L2.Cls K (clsOf K "State") := clsL_of xa_State pg_State hd_State po_State sa_State
  have cf_State : Cf_State K := ⟨fldAt_of xa_State cL_State nf_State_kept_rules, fldAt_of xa_State cL_State nf_State_kept_is_logged, fldAt_of xa_State cL_State nf_State_kept_kind, fldAt_of xa_State cL_State nf_State_kept_begin, fldAt_of xa_State cL_State nf_State_kept_is_heard, fldAt_of xa_State cL_State nf_State_kept_is_other, fldAt_of xa_State cL_State nf_State_kept_is_own, fldAt_of xa_State cL_State nf_State_kept_down, fldAt_of xa_State cL_State nf_State_kept_runs, fldAt_of xa_State cL_State nf_State_kept_counts, fldAt_of xa_State cL_State nf_State_kept_log⟩
  have xB_KeyerError : BaseAt K mg "KeyerError" C_KeyerError := ⟨PySem.W.mg_of X G xa_KeyerError, xs_KeyerError, xt_KeyerError, xr_KeyerError, xc_KeyerError⟩
  have hAll : ∀ p ∈ ([("KeyerError", C_KeyerError), ("InvalidLever", C_InvalidLever), ("InvalidTick", C_InvalidTick), ("InvalidNumber", C_InvalidNumber), ("InvalidGaps", C_InvalidGaps), ("InvalidText", C_InvalidText), ("InvalidName", C_InvalidName), ("Impossible", C_Impossible), ("NothingToUndo", C_NothingToUndo), ("InvalidCommand", C_InvalidCommand), ("InvalidRules", C_InvalidRules), ("InvalidRecord", C_InvalidRecord), ("InvalidRuns", C_InvalidRuns), ("InvalidKinds", C_InvalidKinds), ("InvalidCases", C_InvalidCases), ("InvalidCode", C_InvalidCode), ("TooLarge", C_TooLarge), ("InvalidSyntax", C_InvalidSyntax)] : List (Str × Addr)), PySem.W.nsIn K mainGlobals p.1 = some (some (.ref p.2)) := (List.forall_mem_cons.mpr ⟨xa_KeyerError, (List.forall_mem_cons.mpr ⟨xa_InvalidLever, (List.forall_mem_cons.mpr ⟨xa_InvalidTick, (List.forall_mem_cons.mpr ⟨xa_InvalidNumber, (List.forall_mem_cons.mpr ⟨xa_InvalidGaps, (List.forall_mem_cons.mpr ⟨xa_InvalidText, (List.forall_mem_cons.mpr ⟨xa_InvalidName, (List.forall_mem_cons.mpr ⟨xa_Impossible, (List.forall_mem_cons.mpr ⟨xa_NothingToUndo, (List.forall_mem_cons.mpr ⟨xa_InvalidCommand, (List.forall_mem_cons.mpr ⟨xa_InvalidRules, (List.forall_mem_cons.mpr ⟨xa_InvalidRecord, (List.forall_mem_cons.mpr ⟨xa_InvalidRuns, (List.forall_mem_cons.mpr ⟨xa_InvalidKinds, (List.forall_mem_cons.mpr ⟨xa_InvalidCases, (List.forall_mem_cons.mpr ⟨xa_InvalidCode, (List.forall_mem_cons.mpr ⟨xa_TooLarge, (List.forall_mem_cons.mpr ⟨xa_InvalidSyntax, (List.forall_mem_nil _)⟩)⟩)⟩)⟩)⟩)⟩)⟩)⟩)⟩)⟩)⟩)⟩)⟩)⟩)⟩)⟩)⟩)⟩)
  have hEx : ∀ p ∈ ([("KeyerError", C_KeyerError), ("InvalidLever", C_InvalidLever), ("InvalidTick", C_InvalidTick), ("InvalidNumber", C_InvalidNumber), ("InvalidGaps", C_InvalidGaps), ("InvalidText", C_InvalidText), ("InvalidName", C_InvalidName), ("Impossible", C_Impossible), ("NothingToUndo", C_NothingToUndo), ("InvalidCommand", C_InvalidCommand), ("InvalidRules", C_InvalidRules), ("InvalidRecord", C_InvalidRecord), ("InvalidRuns", C_InvalidRuns), ("InvalidKinds", C_InvalidKinds), ("InvalidCases", C_InvalidCases), ("InvalidCode", C_InvalidCode), ("TooLarge", C_TooLarge), ("InvalidSyntax", C_InvalidSyntax)] : List (Str × Addr)), exB K p.2 = true := (List.forall_mem_cons.mpr ⟨xex_KeyerError, (List.forall_mem_cons.mpr ⟨xex_InvalidLever, (List.forall_mem_cons.mpr ⟨xex_InvalidTick, (List.forall_mem_cons.mpr ⟨xex_InvalidNumber, (List.forall_mem_cons.mpr ⟨xex_InvalidGaps, (List.forall_mem_cons.mpr ⟨xex_InvalidText, (List.forall_mem_cons.mpr ⟨xex_InvalidName, (List.forall_mem_cons.mpr ⟨xex_Impossible, (List.forall_mem_cons.mpr ⟨xex_NothingToUndo, (List.forall_mem_cons.mpr ⟨xex_InvalidCommand, (List.forall_mem_cons.mpr ⟨xex_InvalidRules, (List.forall_mem_cons.mpr ⟨xex_InvalidRecord, (List.forall_mem_cons.mpr ⟨xex_InvalidRuns, (List.forall_mem_cons.mpr ⟨xex_InvalidKinds, (List.forall_mem_cons.mpr ⟨xex_InvalidCases, (List.forall_mem_cons.mpr ⟨xex_InvalidCode, (List.forall_mem_cons.mpr ⟨xex_TooLarge, (List.forall_mem_cons.mpr ⟨xex_InvalidSyntax, (List.forall_mem_nil _)⟩)⟩)⟩)⟩)⟩)⟩)⟩)⟩)⟩)⟩)⟩)⟩)⟩)⟩)⟩)⟩)⟩)⟩)
  have x_InvalidRules : ExcAt l.prog w K mg base "InvalidRules" ["index"] := excAt_of xa_InvalidRules (PySem.W.mg_of X G xa_InvalidRules) ⟨⟨_, _, _, _, _, _, _, _, _, _, _, _, _, _, _, xl_InvalidRules, xb_InvalidRules⟩, xsa_InvalidRules, xe_InvalidRules, xty_InvalidRules, xk_InvalidRules⟩ xi_InvalidRules xti_InvalidRules (i_InvalidRules xB_KeyerError xli_InvalidRules xci_InvalidRules) (.all fun us hl => match us, hl with | [_, _], _ => rfl) (no1 xno0_InvalidRules) (by decide)
  have xm_InvalidRules_KeyerError : PySem.W.exmOne K (.ref (clsOf K "InvalidRules")) (.ref (clsOf K "KeyerError")) = some true := xm_of xa_InvalidRules xa_KeyerError (exm_of xe_KeyerError xic_KeyerError xty_KeyerError xsub_InvalidRules_KeyerError)
  have xn_Impossible : mg "Impossible" = some (.ref (clsOf K "Impossible")) := xn_of xa_Impossible (PySem.W.mg_of X G xa_Impossible)
  have xn_InvalidCases : mg "InvalidCases" = some (.ref (clsOf K "InvalidCases")) := xn_of xa_InvalidCases (PySem.W.mg_of X G xa_InvalidCases)
  have xn_InvalidCode : mg "InvalidCode" = some (.ref (clsOf K "InvalidCode")) := xn_of xa_InvalidCode (PySem.W.mg_of X G xa_InvalidCode)
  have xn_InvalidCommand : mg "InvalidCommand" = some (.ref (clsOf K "InvalidCommand")) := xn_of xa_InvalidCommand (PySem.W.mg_of X G xa_InvalidCommand)
  have xn_InvalidGaps : mg "InvalidGaps" = some (.ref (clsOf K "InvalidGaps")) := xn_of xa_InvalidGaps (PySem.W.mg_of X G xa_InvalidGaps)
  have xn_InvalidKinds : mg "InvalidKinds" = some (.ref (clsOf K "InvalidKinds")) := xn_of xa_InvalidKinds (PySem.W.mg_of X G xa_InvalidKinds)
  have xn_InvalidLever : mg "InvalidLever" = some (.ref (clsOf K "InvalidLever")) := xn_of xa_InvalidLever (PySem.W.mg_of X G xa_InvalidLever)
  have xn_InvalidName : mg "InvalidName" = some (.ref (clsOf K "InvalidName")) := xn_of xa_InvalidName (PySem.W.mg_of X G xa_InvalidName)
  have xn_InvalidNumber : mg "InvalidNumber" = some (.ref (clsOf K "InvalidNumber")) := xn_of xa_InvalidNumber (PySem.W.mg_of X G xa_InvalidNumber)
  have xn_InvalidRecord : mg "InvalidRecord" = some (.ref (clsOf K "InvalidRecord")) := xn_of xa_InvalidRecord (PySem.W.mg_of X G xa_InvalidRecord)
  have xn_InvalidRules : mg "InvalidRules" = some (.ref (clsOf K "InvalidRules")) := xn_of xa_InvalidRules (PySem.W.mg_of X G xa_InvalidRules)
  have xn_InvalidRuns : mg "InvalidRuns" = some (.ref (clsOf K "InvalidRuns")) := xn_of xa_InvalidRuns (PySem.W.mg_of X G xa_InvalidRuns)
  have xn_InvalidSyntax : mg "InvalidSyntax" = some (.ref (clsOf K "InvalidSyntax")) := xn_of xa_InvalidSyntax (PySem.W.mg_of X G xa_InvalidSyntax)
  have xn_InvalidText : mg "InvalidText" = some (.ref (clsOf K "InvalidText")) := xn_of xa_InvalidText (PySem.W.mg_of X G xa_InvalidText)
  have xn_InvalidTick : mg "InvalidTick" = some (.ref (clsOf K "InvalidTick")) := xn_of xa_InvalidTick (PySem.W.mg_of X G xa_InvalidTick)
  have xn_KeyerError : mg "KeyerError" = some (.ref (clsOf K "KeyerError")) := xn_of xa_KeyerError (PySem.W.mg_of X G xa_KeyerError)
  have xn_NothingToUndo : mg "NothingToUndo" = some (.ref (clsOf K "NothingToUndo")) := xn_of xa_NothingToUndo (PySem.W.mg_of X G xa_NothingToUndo)
  have xn_TooLarge : mg "TooLarge" = some (.ref (clsOf K "TooLarge")) := xn_of xa_TooLarge (PySem.W.mg_of X G xa_TooLarge)
  have xq_Impossible : ∀ y ∈ allX, ExcC K (clsOf K y) ∧ PySem.W.kitOne K (.ref (clsOf K y)) (.ref (clsOf K "Impossible")) = some ((["Impossible"] : List Str).contains y) := by rw [clsOf_is xa_Impossible]; exact all_of hAll hEx xhn xht xkit_Impossible
  have xq_InvalidCases : ∀ y ∈ allX, ExcC K (clsOf K y) ∧ PySem.W.kitOne K (.ref (clsOf K y)) (.ref (clsOf K "InvalidCases")) = some ((["InvalidCases"] : List Str).contains y) := by rw [clsOf_is xa_InvalidCases]; exact all_of hAll hEx xhn xht xkit_InvalidCases
  have xq_InvalidCode : ∀ y ∈ allX, ExcC K (clsOf K y) ∧ PySem.W.kitOne K (.ref (clsOf K y)) (.ref (clsOf K "InvalidCode")) = some ((["InvalidCode"] : List Str).contains y) := by rw [clsOf_is xa_InvalidCode]; exact all_of hAll hEx xhn xht xkit_InvalidCode
  have xq_InvalidCommand : ∀ y ∈ allX, ExcC K (clsOf K y) ∧ PySem.W.kitOne K (.ref (clsOf K y)) (.ref (clsOf K "InvalidCommand")) = some ((["InvalidCommand"] : List Str).contains y) := by rw [clsOf_is xa_InvalidCommand]; exact all_of hAll hEx xhn xht xkit_InvalidCommand
  have xq_InvalidGaps : ∀ y ∈ allX, ExcC K (clsOf K y) ∧ PySem.W.kitOne K (.ref (clsOf K y)) (.ref (clsOf K "InvalidGaps")) = some ((["InvalidGaps"] : List Str).contains y) := by rw [clsOf_is xa_InvalidGaps]; exact all_of hAll hEx xhn xht xkit_InvalidGaps
  have xq_InvalidKinds : ∀ y ∈ allX, ExcC K (clsOf K y) ∧ PySem.W.kitOne K (.ref (clsOf K y)) (.ref (clsOf K "InvalidKinds")) = some ((["InvalidKinds"] : List Str).contains y) := by rw [clsOf_is xa_InvalidKinds]; exact all_of hAll hEx xhn xht xkit_InvalidKinds
  have xq_InvalidLever : ∀ y ∈ allX, ExcC K (clsOf K y) ∧ PySem.W.kitOne K (.ref (clsOf K y)) (.ref (clsOf K "InvalidLever")) = some ((["InvalidLever"] : List Str).contains y) := by rw [clsOf_is xa_InvalidLever]; exact all_of hAll hEx xhn xht xkit_InvalidLever
  have xq_InvalidName : ∀ y ∈ allX, ExcC K (clsOf K y) ∧ PySem.W.kitOne K (.ref (clsOf K y)) (.ref (clsOf K "InvalidName")) = some ((["InvalidName"] : List Str).contains y) := by rw [clsOf_is xa_InvalidName]; exact all_of hAll hEx xhn xht xkit_InvalidName
  have xq_InvalidNumber : ∀ y ∈ allX, ExcC K (clsOf K y) ∧ PySem.W.kitOne K (.ref (clsOf K y)) (.ref (clsOf K "InvalidNumber")) = some ((["InvalidNumber"] : List Str).contains y) := by rw [clsOf_is xa_InvalidNumber]; exact all_of hAll hEx xhn xht xkit_InvalidNumber
  have xq_InvalidRecord : ∀ y ∈ allX, ExcC K (clsOf K y) ∧ PySem.W.kitOne K (.ref (clsOf K y)) (.ref (clsOf K "InvalidRecord")) = some ((["InvalidRecord"] : List Str).contains y) := by rw [clsOf_is xa_InvalidRecord]; exact all_of hAll hEx xhn xht xkit_InvalidRecord
  have xq_InvalidRules : ∀ y ∈ allX, ExcC K (clsOf K y) ∧ PySem.W.kitOne K (.ref (clsOf K y)) (.ref (clsOf K "InvalidRules")) = some ((["InvalidRules"] : List Str).contains y) := by rw [clsOf_is xa_InvalidRules]; exact all_of hAll hEx xhn xht xkit_InvalidRules
  have xq_InvalidRuns : ∀ y ∈ allX, ExcC K (clsOf K y) ∧ PySem.W.kitOne K (.ref (clsOf K y)) (.ref (clsOf K "InvalidRuns")) = some ((["InvalidRuns"] : List Str).contains y) := by rw [clsOf_is xa_InvalidRuns]; exact all_of hAll hEx xhn xht xkit_InvalidRuns
  have xq_InvalidSyntax : ∀ y ∈ allX, ExcC K (clsOf K y) ∧ PySem.W.kitOne K (.ref (clsOf K y)) (.ref (clsOf K "InvalidSyntax")) = some ((["InvalidSyntax"] : List Str).contains y) := by rw [clsOf_is xa_InvalidSyntax]; exact all_of hAll hEx xhn xht xkit_InvalidSyntax
  have xq_InvalidText : ∀ y ∈ allX, ExcC K (clsOf K y) ∧ PySem.W.kitOne K (.ref (clsOf K y)) (.ref (clsOf K "InvalidText")) = some ((["InvalidText"] : List Str).contains y) := by rw [clsOf_is xa_InvalidText]; exact all_of hAll hEx xhn xht xkit_InvalidText
  have xq_InvalidTick : ∀ y ∈ allX, ExcC K (clsOf K y) ∧ PySem.W.kitOne K (.ref (clsOf K y)) (.ref (clsOf K "InvalidTick")) = some ((["InvalidTick"] : List Str).contains y) := by rw [clsOf_is xa_InvalidTick]; exact all_of hAll hEx xhn xht xkit_InvalidTick
  have xq_NothingToUndo : ∀ y ∈ allX, ExcC K (clsOf K y) ∧ PySem.W.kitOne K (.ref (clsOf K y)) (.ref (clsOf K "NothingToUndo")) = some ((["NothingToUndo"] : List Str).contains y) := by rw [clsOf_is xa_NothingToUndo]; exact all_of hAll hEx xhn xht xkit_NothingToUndo
  have xq_TooLarge : ∀ y ∈ allX, ExcC K (clsOf K y) ∧ PySem.W.kitOne K (.ref (clsOf K y)) (.ref (clsOf K "TooLarge")) = some ((["TooLarge"] : List Str).contains y) := by rw [clsOf_is xa_TooLarge]; exact all_of hAll hEx xhn xht xkit_TooLarge
  have xq_ValueError : ∀ y ∈ allX, ExcC K (clsOf K y) ∧ PySem.W.kitOne K (.ref (clsOf K y)) (.type "ValueError") = some ((["KeyerError", "InvalidLever", "InvalidTick", "InvalidNumber", "InvalidGaps", "InvalidText", "InvalidName", "Impossible", "NothingToUndo", "InvalidCommand", "InvalidRules", "InvalidRecord", "InvalidRuns", "InvalidKinds", "InvalidCases", "InvalidCode", "TooLarge", "InvalidSyntax"] : List Str).contains y) := all_of hAll hEx xhn xht xkit_ValueError
  have xv_index : ∀ y ∈ (["InvalidRules", "InvalidRecord", "InvalidRuns", "InvalidKinds", "InvalidCases"] : List Str), XfC K (clsOf K y) ∧ PySem.W.findIn K (.ref (clsOf K y)) "index" = some none := List.forall_mem_cons.mpr ⟨fld_of xa_InvalidRules (xq_Impossible "InvalidRules" (by decide +kernel)).1 xno0_InvalidRules, List.forall_mem_cons.mpr ⟨fld_of xa_InvalidRecord (xq_Impossible "InvalidRecord" (by decide +kernel)).1 xno0_InvalidRecord, List.forall_mem_cons.mpr ⟨fld_of xa_InvalidRuns (xq_Impossible "InvalidRuns" (by decide +kernel)).1 xno0_InvalidRuns, List.forall_mem_cons.mpr ⟨fld_of xa_InvalidKinds (xq_Impossible "InvalidKinds" (by decide +kernel)).1 xno0_InvalidKinds, List.forall_mem_cons.mpr ⟨fld_of xa_InvalidCases (xq_Impossible "InvalidCases" (by decide +kernel)).1 xno0_InvalidCases, List.forall_mem_nil _⟩⟩⟩⟩⟩
  have xv_letter : ∀ y ∈ (["InvalidCode"] : List Str), XfC K (clsOf K y) ∧ PySem.W.findIn K (.ref (clsOf K y)) "letter" = some none := List.forall_mem_cons.mpr ⟨fld_of xa_InvalidCode (xq_Impossible "InvalidCode" (by decide +kernel)).1 xno0_InvalidCode, List.forall_mem_nil _⟩
  have xv_limit : ∀ y ∈ (["TooLarge"] : List Str), XfC K (clsOf K y) ∧ PySem.W.findIn K (.ref (clsOf K y)) "limit" = some none := List.forall_mem_cons.mpr ⟨fld_of xa_TooLarge (xq_Impossible "TooLarge" (by decide +kernel)).1 xno0_TooLarge, List.forall_mem_nil _⟩
  have xv_line : ∀ y ∈ (["InvalidSyntax"] : List Str), XfC K (clsOf K y) ∧ PySem.W.findIn K (.ref (clsOf K y)) "line" = some none := List.forall_mem_cons.mpr ⟨fld_of xa_InvalidSyntax (xq_Impossible "InvalidSyntax" (by decide +kernel)).1 xno0_InvalidSyntax, List.forall_mem_nil _⟩
  have xv_word : ∀ y ∈ (["InvalidSyntax"] : List Str), XfC K (clsOf K y) ∧ PySem.W.findIn K (.ref (clsOf K y)) "word" = some none := List.forall_mem_cons.mpr ⟨fld_of xa_InvalidSyntax (xq_Impossible "InvalidSyntax" (by decide +kernel)).1 xno1_InvalidSyntax, List.forall_mem_nil _⟩
  have c_is_integer : Cal l.prog w K mg base 1 "is_integer" [] S_is_integer := D_0.calF (t_is_integer g sys   D_0) d_0 rfl (fun _ _ _ _ _ _ us hl => match us, hl with | [_, _], _ => ⟨_, rfl, rfl⟩)
  have c_is_integer_1 : Cal l.prog w K mg base 1 "is_integer" [.non] S_is_integer := D_0.calD (ds := [.non]) (t_is_integer g sys   D_0) d_0 rfl (.cons rfl .nil) 1 rfl (fun _ _ _ _ _ _ us hl => match us, hl with | [_], _ => ⟨_, rfl, rfl⟩)
  have c_is_one_of : Cal l.prog w K mg base 1 "is_one_of" [] S_is_one_of := D_1.cal (t_is_one_of g sys   D_1) (fun _ _ _ _ _ _ us hl => match us, hl with | [_, _], _ => rfl)
  have c_length_of : Cal l.prog w K mg base 1 "length_of" [] S_length_of := D_6.cal (t_length_of g sys   D_6) (fun _ _ _ _ _ _ us hl => match us, hl with | [_, _], _ => rfl)
  have c_other_of : Cal l.prog w K mg base 1 "other_of" [] S_other_of := D_9.cal (t_other_of g sys   D_9) (fun _ _ _ _ _ _ us hl => match us, hl with | [_], _ => rfl)
  have c_plain_of : Cal l.prog w K mg base 1 "plain_of" [] S_plain_of := D_16.cal (t_plain_of g sys   D_16) (fun _ _ _ _ _ _ us hl => match us, hl with | [_], _ => rfl)
  have c__law_reel : Cal l.prog w K mg base 1 "_law_reel" [] S__law_reel := D_22.cal (t__law_reel g sys   D_22) (fun _ _ _ _ _ _ us hl => match us, hl with | [_, _], _ => rfl)
  have c__law_spin : Cal l.prog w K mg base 1 "_law_spin" [] S__law_spin := D_23.cal (t__law_spin g sys   D_23) (fun _ _ _ _ _ _ us hl => match us, hl with | [_, _], _ => rfl)
  have ck__law_told : CalK l.prog w K mg base 1 "_law_told" S__law_told := D_25.calK (t__law_told g sys xn_Impossible xn_InvalidCases xn_InvalidCode xn_InvalidCommand xn_InvalidGaps xn_InvalidKinds xn_InvalidLever xn_InvalidName xn_InvalidNumber xn_InvalidRecord xn_InvalidRules xn_InvalidRuns xn_InvalidSyntax xn_InvalidText xn_InvalidTick xn_NothingToUndo xn_TooLarge xv_index xv_letter xv_limit xv_line xv_word xq_Impossible xq_InvalidCases xq_InvalidCode xq_InvalidCommand xq_InvalidGaps xq_InvalidKinds xq_InvalidLever xq_InvalidName xq_InvalidNumber xq_InvalidRecord xq_InvalidRules xq_InvalidRuns xq_InvalidSyntax xq_InvalidText xq_InvalidTick xq_NothingToUndo xq_TooLarge xq_ValueError  D_25) (fun _ _ _ _ _ _ us hl => match us, hl with | [_], _ => rfl)
  have mk_Blocks : MakeAt l.prog w K mg base 1 "Blocks" S_Blocks___init__ := D_30.make (nm_of xa_Blocks (PySem.W.mg_of X G xa_Blocks)) (mkc_of xa_Blocks mk_Blocks a_30 i_30 kc_Blocks) (t_Blocks___init__ g sys cf_Blocks  D_30) (fun _ _ _ _ _ _ us hl => match us, hl with | [_], _ => rfl)
  have m_Blocks_put_alternating : MethAt l.prog w K mg base 1 "Blocks" "put_alternating" S_Blocks_put_alternating := D_32.meth cL_Blocks (meth_of xa_Blocks a_32 i_32 k_32) (t_Blocks_put_alternating g sys cf_Blocks  D_32) (fun _ _ _ _ _ _ us hl => match us, hl with | [_, _, _], _ => rfl)
  have mk_State : MakeAt l.prog w K mg base 1 "State" S_State___init__ := D_36.make (nm_of xa_State (PySem.W.mg_of X G xa_State)) (mkc_of xa_State mk_State a_36 i_36 kc_State) (t_State___init__ g sys cf_State  D_36) (fun _ _ _ _ _ _ us hl => match us, hl with | [_, _, _], _ => rfl)
  have m_State_note : MethAt l.prog w K mg base 1 "State" "note" S_State_note := D_37.meth cL_State (meth_of xa_State a_37 i_37 k_37) (t_State_note g sys cf_State  D_37) (fun _ _ _ _ _ _ us hl => match us, hl with | [_, _, _], _ => rfl)
  have c_rules_flags : Cal l.prog w K mg base 2 "rules_flags" [] S_rules_flags := D_2.cal (t_rules_flags g sys  c_is_integer c_is_one_of D_2) (fun _ _ _ _ _ _ us hl => match us, hl with | [_], _ => rfl)
  have c_is_event : Cal l.prog w K mg base 2 "is_event" [] S_is_event := D_4.cal (t_is_event g sys  c_is_integer_1 c_is_one_of D_4) (fun _ _ _ _ _ _ us hl => match us, hl with | [_], _ => rfl)
  have c_period_of : Cal l.prog w K mg base 2 "period_of" [] S_period_of := D_7.cal (t_period_of g sys  c_length_of D_7) (fun _ _ _ _ _ _ us hl => match us, hl with | [_, _], _ => rfl)
  have c_outcome : Cal l.prog w K mg base 2 "outcome" [] S_outcome := D_13.cal (t_outcome g sys  c_other_of D_13) (fun _ _ _ _ _ _ us hl => match us, hl with | [_, _, _, _, _], _ => rfl)
  have c_found_parting : Cal l.prog w K mg base 2 "found_parting" [] S_found_parting := D_17.cal (t_found_parting g sys  c_plain_of D_17) (fun _ _ _ _ _ _ us hl => match us, hl with | [_, _], _ => rfl)
  have c__law_rules : Cal l.prog w K mg base 2 "_law_rules" [] S__law_rules := D_24.cal (t__law_rules g sys  c__law_spin D_24) (fun _ _ _ _ _ _ us hl => match us, hl with | [_, _], _ => rfl)
  have c__law_bad_rules : Cal l.prog w K mg base 2 "_law_bad_rules" [] S__law_bad_rules := D_26.cal (t__law_bad_rules g sys  c__law_spin D_26) (fun _ _ _ _ _ _ us hl => match us, hl with | [_, _], _ => rfl)
  have m_Blocks_last_kind : MethAt l.prog w K mg base 2 "Blocks" "last_kind" S_Blocks_last_kind := D_31.meth cL_Blocks (meth_of xa_Blocks a_31 i_31 k_31) (t_Blocks_last_kind g sys cf_Blocks c_other_of D_31) (fun _ _ _ _ _ _ us hl => match us, hl with | [_], _ => rfl)
  have m_Blocks_tidy : MethAt l.prog w K mg base 2 "Blocks" "tidy" S_Blocks_tidy := D_35.meth cL_Blocks (meth_of xa_Blocks a_35 i_35 k_35) (t_Blocks_tidy g sys cf_Blocks c_other_of D_35) (fun _ _ _ _ _ _ us hl => match us, hl with | [_], _ => rfl)
  have m_State_note_other : MethAt l.prog w K mg base 2 "State" "note_other" S_State_note_other := D_38.meth cL_State (meth_of xa_State a_38 i_38 k_38) (t_State_note_other g sys cf_State m_State_note c_other_of D_38) (fun _ _ _ _ _ _ us hl => match us, hl with | [_, _], _ => rfl)
  have cx_require_rules : CalX l.prog w K mg base 3 "require_rules" [] S_require_rules := D_3.calX (t_require_rules g sys x_InvalidRules c_rules_flags D_3) (fun _ _ _ _ _ _ us hl => match us, hl with | [_], _ => rfl)
  have c_fault_of_record : Cal l.prog w K mg base 3 "fault_of_record" [] S_fault_of_record := D_5.cal (t_fault_of_record g sys  c_is_event D_5) (fun _ _ _ _ _ _ us hl => match us, hl with | [_], _ => rfl)
  have c_word_period : Cal l.prog w K mg base 3 "word_period" [] S_word_period := D_8.cal (t_word_period g sys  c_period_of D_8) (fun _ _ _ _ _ _ us hl => match us, hl with | [_, _], _ => rfl)
  have c_can_hear : Cal l.prog w K mg base 3 "can_hear" [] S_can_hear := D_12.cal (t_can_hear g sys  c_period_of D_12) (fun _ _ _ _ _ _ us hl => match us, hl with | [_, _], _ => rfl)
  have m_Blocks_put_same : MethAt l.prog w K mg base 3 "Blocks" "put_same" S_Blocks_put_same := D_33.meth cL_Blocks (meth_of xa_Blocks a_33 i_33 k_33) (t_Blocks_put_same g sys cf_Blocks m_Blocks_last_kind m_Blocks_put_alternating  D_33) (fun _ _ _ _ _ _ us hl => match us, hl with | [_, _, _], _ => rfl)
  have cx_parting_record : CalX l.prog w K mg base 4 "parting_record" [] S_parting_record := D_18.calX (t_parting_record g sys  cx_require_rules c_found_parting D_18) (fun _ _ _ _ _ _ us hl => match us, hl with | [_, _], _ => rfl)
  have cx_fewest_parting : CalX l.prog w K mg base 4 "fewest_parting" [] S_fewest_parting := D_19.calX (t_fewest_parting g sys  cx_require_rules c_found_parting D_19) (fun _ _ _ _ _ _ us hl => match us, hl with | [_, _], _ => rfl)
  have m_Blocks_put_in : MethAt l.prog w K mg base 4 "Blocks" "put_in" S_Blocks_put_in := D_34.meth cL_Blocks (meth_of xa_Blocks a_34 i_34 k_34) (t_Blocks_put_in g sys m_Blocks_put_alternating m_Blocks_put_same  D_34) (fun _ _ _ _ _ _ us hl => match us, hl with | [_, _, _], _ => rfl)
  have m_State_is_held_other : MethAt l.prog w K mg base 4 "State" "is_held_other" S_State_is_held_other := D_39.meth cL_State (meth_of xa_State a_39 i_39 k_39) (t_State_is_held_other g sys cf_State c_can_hear c_other_of D_39) (fun _ _ _ _ _ _ us hl => match us, hl with | [_, _], _ => rfl)
  have c_tidy_kinds : Cal l.prog w K mg base 5 "tidy_kinds" [] S_tidy_kinds := D_10.cal (t_tidy_kinds g sys m_Blocks_put_in m_Blocks_tidy mk_Blocks  D_10) (fun _ _ _ _ _ _ us hl => match us, hl with | [_], _ => rfl)
  have m_State_start : MethAt l.prog w K mg base 5 "State" "start" S_State_start := D_40.meth cL_State (meth_of xa_State a_40 i_40 k_40) (t_State_start g sys cf_State m_State_is_held_other m_State_note m_State_note_other c_can_hear D_40) (fun _ _ _ _ _ _ us hl => match us, hl with | [_, _, _], _ => rfl)
  have m_State_hear : MethAt l.prog w K mg base 5 "State" "hear" S_State_hear := D_41.meth cL_State (meth_of xa_State a_41 i_41 k_41) (t_State_hear g sys cf_State m_State_is_held_other m_State_note m_State_note_other  D_41) (fun _ _ _ _ _ _ us hl => match us, hl with | [_, _], _ => rfl)
  have m_State_following : MethAt l.prog w K mg base 5 "State" "following" S_State_following := D_43.meth cL_State (meth_of xa_State a_43 i_43 k_43) (t_State_following g sys cf_State m_State_is_held_other c_outcome D_43) (fun _ _ _ _ _ _ us hl => match us, hl with | [_, _], _ => rfl)
  have m_State_skip : MethAt l.prog w K mg base 5 "State" "skip" S_State_skip := D_44.meth cL_State (meth_of xa_State a_44 i_44 k_44) (t_State_skip g sys cf_State m_State_is_held_other c_can_hear c_other_of c_period_of D_44) (fun _ _ _ _ _ _ us hl => match us, hl with | [_, _, _], _ => rfl)
  have c_tidy_runs : Cal l.prog w K mg base 6 "tidy_runs" [] S_tidy_runs := D_11.cal (t_tidy_runs g sys  c_tidy_kinds c_word_period D_11) (fun _ _ _ _ _ _ us hl => match us, hl with | [_, _], _ => rfl)
  have m_State_decide : MethAt l.prog w K mg base 6 "State" "decide" S_State_decide := D_42.meth cL_State (meth_of xa_State a_42 i_42 k_42) (t_State_decide g sys cf_State m_State_note m_State_start c_outcome D_42) (fun _ _ _ _ _ _ us hl => match us, hl with | [_, _], _ => rfl)
  have m_State_jump : MethAt l.prog w K mg base 6 "State" "jump" S_State_jump := D_45.meth cL_State (meth_of xa_State a_45 i_45 k_45) (t_State_jump g sys cf_State m_State_following m_State_skip c_period_of D_45) (fun _ _ _ _ _ _ us hl => match us, hl with | [_, _], _ => rfl)
  have m_State_happen : MethAt l.prog w K mg base 6 "State" "happen" S_State_happen := D_47.meth cL_State (meth_of xa_State a_47 i_47 k_47) (t_State_happen g sys cf_State m_State_note m_State_note_other m_State_start  D_47) (fun _ _ _ _ _ _ us hl => match us, hl with | [_, _, _, _], _ => rfl)
  have m_State_advance : MethAt l.prog w K mg base 7 "State" "advance" S_State_advance := D_46.meth cL_State (meth_of xa_State a_46 i_46 k_46) (t_State_advance g sys cf_State m_State_decide m_State_hear m_State_jump c_can_hear c_period_of D_46) (fun _ _ _ _ _ _ us hl => match us, hl with | [_, _], _ => rfl)
  have m_State_tidy : MethAt l.prog w K mg base 7 "State" "tidy" S_State_tidy := D_49.meth cL_State (meth_of xa_State a_49 i_49 k_49) (t_State_tidy g sys cf_State c_tidy_runs D_49) (fun _ _ _ _ _ _ us hl => match us, hl with | [_], _ => rfl)
  have m_State_finish : MethAt l.prog w K mg base 8 "State" "finish" S_State_finish := D_48.meth cL_State (meth_of xa_State a_48 i_48 k_48) (t_State_finish g sys cf_State m_State_advance c_period_of D_48) (fun _ _ _ _ _ _ us hl => match us, hl with | [_], _ => rfl)
  have c_state_behind : Cal l.prog w K mg base 9 "state_behind" [] S_state_behind := D_14.cal (t_state_behind g sys m_State_advance m_State_finish m_State_happen mk_State  D_14) (fun _ _ _ _ _ _ us hl => match us, hl with | [_, _, _], _ => rfl)
  have c_all_runs : Cal l.prog w K mg base 10 "all_runs" [] S_all_runs := D_15.cal (t_all_runs g sys m_State_tidy c_state_behind D_15) (fun _ _ _ _ _ _ us hl => match us, hl with | [_, _], _ => rfl)
  have c_are_unlike : Cal l.prog w K mg base 11 "are_unlike" [] S_are_unlike := D_20.cal (t_are_unlike g sys  c_all_runs c_length_of D_20) (fun _ _ _ _ _ _ us hl => match us, hl with | [_, _, _], _ => rfl)
  have cx_shows_parting : CalX l.prog w K mg base 12 "shows_parting" [] S_shows_parting := D_21.calX (t_shows_parting g sys  cx_require_rules c_are_unlike c_fault_of_record D_21) (fun _ _ _ _ _ _ us hl => match us, hl with | [_, _, _], _ => rfl)
  have c__law_raised : Cal l.prog w K mg base 13 "_law_raised" [] S__law_raised := D_27.cal (t__law_raised g sys xn_KeyerError xm_InvalidRules_KeyerError cx_fewest_parting cx_parting_record cx_shows_parting ck__law_told D_27) (fun _ _ _ _ _ _ us hl => match us, hl with | [_, _, _, _], _ => rfl)
  have c__law_right : Cal l.prog w K mg base 14 "_law_right" [] S__law_right := D_28.cal (t__law_right g sys  c__law_bad_rules c__law_raised c__law_spin D_28) (fun _ _ _ _ _ _ us hl => match us, hl with | [_, _], _ => rfl)
  exact t_law g sys  c__law_raised c__law_reel c__law_right c__law_rules c__law_spin D_29
end TL
open PySem PySem.W PyProof.Rows
set_option maxRecDepth 100000 in
set_option maxHeartbeats 0 in
theorem PySem.Challenge.cw_squeezedkeyer_k47_errors_of_partings_holds : PySem.Challenge.rw_squeezedkeyer_k47_errors_of_partings.Holds := by
  w_on; o_law; k_head; (case hw => w_witness2)
  k_fill
  refine TL.law_walk (l := PySem.Challenge.rw_squeezedkeyer_k47_errors_of_partings) (n := 63) (k := 15) (CX := fun _ => L2.CX0) (S := TL.S_law) rfl (by decide) rfl ⟨rfl, by decide, by decide⟩ rfl (by decide +kernel) (fun w h Y => PySem.W.kIn_of Y) ?F (fun ns _ => ⟨false, ns, rfl, fun _ => rfl⟩) (fun _ _ _ _ _ z => z)
  case F =>
    intro w mg fa h KX G hmg
    refine' TL.all_mk KX G hmg ?z_ValueError ?z_abs ?z_any ?z_bool ?z_enumerate ?z_int ?z_isinstance ?z_len ?z_list ?z_max ?z_min ?z_range ?z_repr ?z_sorted ?z_str ?z_sum ?z_tuple ?a_ALTERNATING ?a_LEVERS_values ?l_LEVERS_values ?a_MOST_EVENTS ?a_PREFERENCES ?l_PREFERENCES ?a_REMEMBERS ?l_REMEMBERS ?a_STEP_WORDS ?l_STEP_WORDS ?xa_Impossible ?xa_InvalidCases ?xa_InvalidCode ?xa_InvalidCommand ?xa_InvalidGaps ?xa_InvalidKinds ?xa_InvalidLever ?xa_InvalidName ?xa_InvalidNumber ?xa_InvalidRecord ?xa_InvalidRules ?xa_InvalidRuns ?xa_InvalidSyntax ?xa_InvalidText ?xa_InvalidTick ?xa_KeyerError ?xa_NothingToUndo ?xa_TooLarge ?xs_KeyerError ?xt_KeyerError ?xr_KeyerError ?xc_KeyerError ?xl_InvalidCases ?xb_InvalidCases ?xsa_InvalidCases ?xe_InvalidCases ?xty_InvalidCases ?xk_InvalidCases ?xi_InvalidCases ?xti_InvalidCases ?xli_InvalidCases ?xci_InvalidCases ?xno0_InvalidCases ?xl_InvalidCode ?xb_InvalidCode ?xsa_InvalidCode ?xe_InvalidCode ?xty_InvalidCode ?xk_InvalidCode ?xi_InvalidCode ?xti_InvalidCode ?xli_InvalidCode ?xci_InvalidCode ?xno0_InvalidCode ?xl_InvalidKinds ?xb_InvalidKinds ?xsa_InvalidKinds ?xe_InvalidKinds ?xty_InvalidKinds ?xk_InvalidKinds ?xi_InvalidKinds ?xti_InvalidKinds ?xli_InvalidKinds ?xci_InvalidKinds ?xno0_InvalidKinds ?xl_InvalidRecord ?xb_InvalidRecord ?xsa_InvalidRecord ?xe_InvalidRecord ?xty_InvalidRecord ?xk_InvalidRecord ?xi_InvalidRecord ?xti_InvalidRecord ?xli_InvalidRecord ?xci_InvalidRecord ?xno0_InvalidRecord ?xl_InvalidRules ?xb_InvalidRules ?xsa_InvalidRules ?xe_InvalidRules ?xty_InvalidRules ?xk_InvalidRules ?xi_InvalidRules ?xti_InvalidRules ?xli_InvalidRules ?xci_InvalidRules ?xno0_InvalidRules ?xl_InvalidRuns ?xb_InvalidRuns ?xsa_InvalidRuns ?xe_InvalidRuns ?xty_InvalidRuns ?xk_InvalidRuns ?xi_InvalidRuns ?xti_InvalidRuns ?xli_InvalidRuns ?xci_InvalidRuns ?xno0_InvalidRuns ?xl_InvalidSyntax ?xb_InvalidSyntax ?xsa_InvalidSyntax ?xe_InvalidSyntax ?xty_InvalidSyntax ?xk_InvalidSyntax ?xi_InvalidSyntax ?xti_InvalidSyntax ?xli_InvalidSyntax ?xci_InvalidSyntax ?xno0_InvalidSyntax ?xno1_InvalidSyntax ?xl_TooLarge ?xb_TooLarge ?xsa_TooLarge ?xe_TooLarge ?xty_TooLarge ?xk_TooLarge ?xi_TooLarge ?xti_TooLarge ?xli_TooLarge ?xci_TooLarge ?xno0_TooLarge ?xhn ?xht ?xex_KeyerError ?xex_InvalidLever ?xex_InvalidTick ?xex_InvalidNumber ?xex_InvalidGaps ?xex_InvalidText ?xex_InvalidName ?xex_Impossible ?xex_NothingToUndo ?xex_InvalidCommand ?xex_InvalidRules ?xex_InvalidRecord ?xex_InvalidRuns ?xex_InvalidKinds ?xex_InvalidCases ?xex_InvalidCode ?xex_TooLarge ?xex_InvalidSyntax ?xkit_Impossible ?xkit_InvalidCases ?xkit_InvalidCode ?xkit_InvalidCommand ?xkit_InvalidGaps ?xkit_InvalidKinds ?xkit_InvalidLever ?xkit_InvalidName ?xkit_InvalidNumber ?xkit_InvalidRecord ?xkit_InvalidRules ?xkit_InvalidRuns ?xkit_InvalidSyntax ?xkit_InvalidText ?xkit_InvalidTick ?xkit_NothingToUndo ?xkit_TooLarge ?xkit_ValueError ?xsub_InvalidRules_KeyerError ?xic_KeyerError ?xe_KeyerError ?xty_KeyerError ?xa_Blocks ?pg_Blocks ?hd_Blocks ?po_Blocks ?sa_Blocks ?mk_Blocks ?kc_Blocks ?nf_Blocks_kept_parts ?xa_State ?pg_State ?hd_State ?po_State ?sa_State ?mk_State ?kc_State ?nf_State_kept_rules ?nf_State_kept_is_logged ?nf_State_kept_kind ?nf_State_kept_begin ?nf_State_kept_is_heard ?nf_State_kept_is_other ?nf_State_kept_is_own ?nf_State_kept_down ?nf_State_kept_runs ?nf_State_kept_counts ?nf_State_kept_log ?a_0 ?l_0 ?c_0 ?k_0 ?d_0 ?a_1 ?l_1 ?c_1 ?k_1 ?a_2 ?l_2 ?c_2 ?k_2 ?a_3 ?l_3 ?c_3 ?k_3 ?a_4 ?l_4 ?c_4 ?k_4 ?a_5 ?l_5 ?c_5 ?k_5 ?a_6 ?l_6 ?c_6 ?k_6 ?a_7 ?l_7 ?c_7 ?k_7 ?a_8 ?l_8 ?c_8 ?k_8 ?a_9 ?l_9 ?c_9 ?k_9 ?a_10 ?l_10 ?c_10 ?k_10 ?a_11 ?l_11 ?c_11 ?k_11 ?a_12 ?l_12 ?c_12 ?k_12 ?a_13 ?l_13 ?c_13 ?k_13 ?a_14 ?l_14 ?c_14 ?k_14 ?a_15 ?l_15 ?c_15 ?k_15 ?a_16 ?l_16 ?c_16 ?k_16 ?a_17 ?l_17 ?c_17 ?k_17 ?a_18 ?l_18 ?c_18 ?k_18 ?a_19 ?l_19 ?c_19 ?k_19 ?a_20 ?l_20 ?c_20 ?k_20 ?a_21 ?l_21 ?c_21 ?k_21 ?a_22 ?l_22 ?c_22 ?k_22 ?a_23 ?l_23 ?c_23 ?k_23 ?a_24 ?l_24 ?c_24 ?k_24 ?a_25 ?l_25 ?c_25 ?k_25 ?a_26 ?l_26 ?c_26 ?k_26 ?a_27 ?l_27 ?c_27 ?k_27 ?a_28 ?l_28 ?c_28 ?k_28 ?a_29 ?l_29 ?c_29 ?k_29 ?a_30 ?l_30 ?c_30 ?k_30 ?i_30 ?a_31 ?l_31 ?c_31 ?k_31 ?i_31 ?a_32 ?l_32 ?c_32 ?k_32 ?i_32 ?a_33 ?l_33 ?c_33 ?k_33 ?i_33 ?a_34 ?l_34 ?c_34 ?k_34 ?i_34 ?a_35 ?l_35 ?c_35 ?k_35 ?i_35 ?a_36 ?l_36 ?c_36 ?k_36 ?i_36 ?a_37 ?l_37 ?c_37 ?k_37 ?i_37 ?a_38 ?l_38 ?c_38 ?k_38 ?i_38 ?a_39 ?l_39 ?c_39 ?k_39 ?i_39 ?a_40 ?l_40 ?c_40 ?k_40 ?i_40 ?a_41 ?l_41 ?c_41 ?k_41 ?i_41 ?a_42 ?l_42 ?c_42 ?k_42 ?i_42 ?a_43 ?l_43 ?c_43 ?k_43 ?i_43 ?a_44 ?l_44 ?c_44 ?k_44 ?i_44 ?a_45 ?l_45 ?c_45 ?k_45 ?i_45 ?a_46 ?l_46 ?c_46 ?k_46 ?i_46 ?a_47 ?l_47 ?c_47 ?k_47 ?i_47 ?a_48 ?l_48 ?c_48 ?k_48 ?i_48 ?a_49 ?l_49 ?c_49 ?k_49 ?i_49
    (case z_ValueError => k_is)
    (case z_abs => k_is)
    (case z_any => k_is)
    (case z_bool => k_is)
    (case z_enumerate => k_is)
    (case z_int => k_is)
    (case z_isinstance => k_is)
    (case z_len => k_is)
    (case z_list => k_is)
    (case z_max => k_is)
    (case z_min => k_is)
    (case z_range => k_is)
    (case z_repr => k_is)
    (case z_sorted => k_is)
    (case z_str => k_is)
    (case z_sum => k_is)
    (case z_tuple => k_is)
    (case a_ALTERNATING => k_is)
    (case a_LEVERS_values => k_is)
    (case l_LEVERS_values => k_is)
    (case a_MOST_EVENTS => k_is)
    (case a_PREFERENCES => k_is)
    (case l_PREFERENCES => k_is)
    (case a_REMEMBERS => k_is)
    (case l_REMEMBERS => k_is)
    (case a_STEP_WORDS => k_is)
    (case l_STEP_WORDS => k_is)
    (case xa_Impossible => k_is)
    (case xa_InvalidCases => k_is)
    (case xa_InvalidCode => k_is)
    (case xa_InvalidCommand => k_is)
    (case xa_InvalidGaps => k_is)
    (case xa_InvalidKinds => k_is)
    (case xa_InvalidLever => k_is)
    (case xa_InvalidName => k_is)
    (case xa_InvalidNumber => k_is)
    (case xa_InvalidRecord => k_is)
    (case xa_InvalidRules => k_is)
    (case xa_InvalidRuns => k_is)
    (case xa_InvalidSyntax => k_is)
    (case xa_InvalidText => k_is)
    (case xa_InvalidTick => k_is)
    (case xa_KeyerError => k_is)
    (case xa_NothingToUndo => k_is)
    (case xa_TooLarge => k_is)
    (case xs_KeyerError => k_is)
    (case xt_KeyerError => k_is)
    (case xr_KeyerError => k_is)
    (case xc_KeyerError => k_is)
    (case xl_InvalidCases => k_is)
    (case xb_InvalidCases => decide +kernel)
    (case xsa_InvalidCases => k_is)
    (case xe_InvalidCases => k_is)
    (case xty_InvalidCases => k_is)
    (case xk_InvalidCases => k_is)
    (case xi_InvalidCases => k_is)
    (case xti_InvalidCases => k_is)
    (case xli_InvalidCases => k_is)
    (case xci_InvalidCases => k_is)
    (case xno0_InvalidCases => k_is)
    (case xl_InvalidCode => k_is)
    (case xb_InvalidCode => decide +kernel)
    (case xsa_InvalidCode => k_is)
    (case xe_InvalidCode => k_is)
    (case xty_InvalidCode => k_is)
    (case xk_InvalidCode => k_is)
    (case xi_InvalidCode => k_is)
    (case xti_InvalidCode => k_is)
    (case xli_InvalidCode => k_is)
    (case xci_InvalidCode => k_is)
    (case xno0_InvalidCode => k_is)
    (case xl_InvalidKinds => k_is)
    (case xb_InvalidKinds => decide +kernel)
    (case xsa_InvalidKinds => k_is)
    (case xe_InvalidKinds => k_is)
    (case xty_InvalidKinds => k_is)
    (case xk_InvalidKinds => k_is)
    (case xi_InvalidKinds => k_is)
    (case xti_InvalidKinds => k_is)
    (case xli_InvalidKinds => k_is)
    (case xci_InvalidKinds => k_is)
    (case xno0_InvalidKinds => k_is)
    (case xl_InvalidRecord => k_is)
    (case xb_InvalidRecord => decide +kernel)
    (case xsa_InvalidRecord => k_is)
    (case xe_InvalidRecord => k_is)
    (case xty_InvalidRecord => k_is)
    (case xk_InvalidRecord => k_is)
    (case xi_InvalidRecord => k_is)
    (case xti_InvalidRecord => k_is)
    (case xli_InvalidRecord => k_is)
    (case xci_InvalidRecord => k_is)
    (case xno0_InvalidRecord => k_is)
    (case xl_InvalidRules => k_is)
    (case xb_InvalidRules => decide +kernel)
    (case xsa_InvalidRules => k_is)
    (case xe_InvalidRules => k_is)
    (case xty_InvalidRules => k_is)
    (case xk_InvalidRules => k_is)
    (case xi_InvalidRules => k_is)
    (case xti_InvalidRules => k_is)
    (case xli_InvalidRules => k_is)
    (case xci_InvalidRules => k_is)
    (case xno0_InvalidRules => k_is)
    (case xl_InvalidRuns => k_is)
    (case xb_InvalidRuns => decide +kernel)
    (case xsa_InvalidRuns => k_is)
    (case xe_InvalidRuns => k_is)
    (case xty_InvalidRuns => k_is)
    (case xk_InvalidRuns => k_is)
    (case xi_InvalidRuns => k_is)
    (case xti_InvalidRuns => k_is)
    (case xli_InvalidRuns => k_is)
    (case xci_InvalidRuns => k_is)
    (case xno0_InvalidRuns => k_is)
    (case xl_InvalidSyntax => k_is)
    (case xb_InvalidSyntax => decide +kernel)
    (case xsa_InvalidSyntax => k_is)
    (case xe_InvalidSyntax => k_is)
    (case xty_InvalidSyntax => k_is)
    (case xk_InvalidSyntax => k_is)
    (case xi_InvalidSyntax => k_is)
    (case xti_InvalidSyntax => k_is)
    (case xli_InvalidSyntax => k_is)
    (case xci_InvalidSyntax => k_is)
    (case xno0_InvalidSyntax => k_is)
    (case xno1_InvalidSyntax => k_is)
    (case xl_TooLarge => k_is)
    (case xb_TooLarge => decide +kernel)
    (case xsa_TooLarge => k_is)
    (case xe_TooLarge => k_is)
    (case xty_TooLarge => k_is)
    (case xk_TooLarge => k_is)
    (case xi_TooLarge => k_is)
    (case xti_TooLarge => k_is)
    (case xli_TooLarge => k_is)
    (case xci_TooLarge => k_is)
    (case xno0_TooLarge => k_is)
    (case xhn => k_is)
    (case xht => k_is)
    (case xex_KeyerError => kernel_rfl)
    (case xex_InvalidLever => kernel_rfl)
    (case xex_InvalidTick => kernel_rfl)
    (case xex_InvalidNumber => kernel_rfl)
    (case xex_InvalidGaps => kernel_rfl)
    (case xex_InvalidText => kernel_rfl)
    (case xex_InvalidName => kernel_rfl)
    (case xex_Impossible => kernel_rfl)
    (case xex_NothingToUndo => kernel_rfl)
    (case xex_InvalidCommand => kernel_rfl)
    (case xex_InvalidRules => kernel_rfl)
    (case xex_InvalidRecord => kernel_rfl)
    (case xex_InvalidRuns => kernel_rfl)
    (case xex_InvalidKinds => kernel_rfl)
    (case xex_InvalidCases => kernel_rfl)
    (case xex_InvalidCode => kernel_rfl)
    (case xex_TooLarge => kernel_rfl)
    (case xex_InvalidSyntax => kernel_rfl)
    (case xkit_Impossible => kernel_rfl)
    (case xkit_InvalidCases => kernel_rfl)
    (case xkit_InvalidCode => kernel_rfl)
    (case xkit_InvalidCommand => kernel_rfl)
    (case xkit_InvalidGaps => kernel_rfl)
    (case xkit_InvalidKinds => kernel_rfl)
    (case xkit_InvalidLever => kernel_rfl)
    (case xkit_InvalidName => kernel_rfl)
    (case xkit_InvalidNumber => kernel_rfl)
    (case xkit_InvalidRecord => kernel_rfl)
    (case xkit_InvalidRules => kernel_rfl)
    (case xkit_InvalidRuns => kernel_rfl)
    (case xkit_InvalidSyntax => kernel_rfl)
    (case xkit_InvalidText => kernel_rfl)
    (case xkit_InvalidTick => kernel_rfl)
    (case xkit_NothingToUndo => kernel_rfl)
    (case xkit_TooLarge => kernel_rfl)
    (case xkit_ValueError => kernel_rfl)
    (case xsub_InvalidRules_KeyerError => first | rfl | k_is)
    (case xic_KeyerError => k_is)
    (case xe_KeyerError => k_is)
    (case xty_KeyerError => k_is)
    (case xa_Blocks => k_is)
    (case pg_Blocks => k_is)
    (case hd_Blocks => k_is)
    (case po_Blocks => k_is)
    (case sa_Blocks => k_is)
    (case mk_Blocks => k_is)
    (case kc_Blocks => k_is)
    (case nf_Blocks_kept_parts => k_is)
    (case xa_State => k_is)
    (case pg_State => k_is)
    (case hd_State => k_is)
    (case po_State => k_is)
    (case sa_State => k_is)
    (case mk_State => k_is)
    (case kc_State => k_is)
    (case nf_State_kept_rules => k_is)
    (case nf_State_kept_is_logged => k_is)
    (case nf_State_kept_kind => k_is)
    (case nf_State_kept_begin => k_is)
    (case nf_State_kept_is_heard => k_is)
    (case nf_State_kept_is_other => k_is)
    (case nf_State_kept_is_own => k_is)
    (case nf_State_kept_down => k_is)
    (case nf_State_kept_runs => k_is)
    (case nf_State_kept_counts => k_is)
    (case nf_State_kept_log => k_is)
    (case a_0 => k_is)
    (case l_0 => k_is)
    (case c_0 => k_is)
    (case k_0 => k_is)
    (case d_0 => k_is)
    (case a_1 => k_is)
    (case l_1 => k_is)
    (case c_1 => k_is)
    (case k_1 => k_is)
    (case a_2 => k_is)
    (case l_2 => k_is)
    (case c_2 => k_is)
    (case k_2 => k_is)
    (case a_3 => k_is)
    (case l_3 => k_is)
    (case c_3 => k_is)
    (case k_3 => k_is)
    (case a_4 => k_is)
    (case l_4 => k_is)
    (case c_4 => k_is)
    (case k_4 => k_is)
    (case a_5 => k_is)
    (case l_5 => k_is)
    (case c_5 => k_is)
    (case k_5 => k_is)
    (case a_6 => k_is)
    (case l_6 => k_is)
    (case c_6 => k_is)
    (case k_6 => k_is)
    (case a_7 => k_is)
    (case l_7 => k_is)
    (case c_7 => k_is)
    (case k_7 => k_is)
    (case a_8 => k_is)
    (case l_8 => k_is)
    (case c_8 => k_is)
    (case k_8 => k_is)
    (case a_9 => k_is)
    (case l_9 => k_is)
    (case c_9 => k_is)
    (case k_9 => k_is)
    (case a_10 => k_is)
    (case l_10 => k_is)
    (case c_10 => k_is)
    (case k_10 => k_is)
    (case a_11 => k_is)
    (case l_11 => k_is)
    (case c_11 => k_is)
    (case k_11 => k_is)
    (case a_12 => k_is)
    (case l_12 => k_is)
    (case c_12 => k_is)
    (case k_12 => k_is)
    (case a_13 => k_is)
    (case l_13 => k_is)
    (case c_13 => k_is)
    (case k_13 => k_is)
    (case a_14 => k_is)
    (case l_14 => k_is)
    (case c_14 => k_is)
    (case k_14 => k_is)
    (case a_15 => k_is)
    (case l_15 => k_is)
    (case c_15 => k_is)
    (case k_15 => k_is)
    (case a_16 => k_is)
    (case l_16 => k_is)
    (case c_16 => k_is)
    (case k_16 => k_is)
    (case a_17 => k_is)
    (case l_17 => k_is)
    (case c_17 => k_is)
    (case k_17 => k_is)
    (case a_18 => k_is)
    (case l_18 => k_is)
    (case c_18 => k_is)
    (case k_18 => k_is)
    (case a_19 => k_is)
    (case l_19 => k_is)
    (case c_19 => k_is)
    (case k_19 => k_is)
    (case a_20 => k_is)
    (case l_20 => k_is)
    (case c_20 => k_is)
    (case k_20 => k_is)
    (case a_21 => k_is)
    (case l_21 => k_is)
    (case c_21 => k_is)
    (case k_21 => k_is)
    (case a_22 => k_is)
    (case l_22 => k_is)
    (case c_22 => k_is)
    (case k_22 => k_is)
    (case a_23 => k_is)
    (case l_23 => k_is)
    (case c_23 => k_is)
    (case k_23 => k_is)
    (case a_24 => k_is)
    (case l_24 => k_is)
    (case c_24 => k_is)
    (case k_24 => k_is)
    (case a_25 => k_is)
    (case l_25 => k_is)
    (case c_25 => k_is)
    (case k_25 => k_is)
    (case a_26 => k_is)
    (case l_26 => k_is)
    (case c_26 => k_is)
    (case k_26 => k_is)
    (case a_27 => k_is)
    (case l_27 => k_is)
    (case c_27 => k_is)
    (case k_27 => k_is)
    (case a_28 => k_is)
    (case l_28 => k_is)
    (case c_28 => k_is)
    (case k_28 => k_is)
    (case a_29 => k_is)
    (case l_29 => k_is)
    (case c_29 => k_is)
    (case k_29 => k_is)
    (case a_30 => k_is)
    (case l_30 => k_is)
    (case c_30 => k_is)
    (case k_30 => k_is)
    (case i_30 => k_is)
    (case a_31 => k_is)
    (case l_31 => k_is)
    (case c_31 => k_is)
    (case k_31 => k_is)
    (case i_31 => k_is)
    (case a_32 => k_is)
    (case l_32 => k_is)
    (case c_32 => k_is)
    (case k_32 => k_is)
    (case i_32 => k_is)
    (case a_33 => k_is)
    (case l_33 => k_is)
    (case c_33 => k_is)
    (case k_33 => k_is)
    (case i_33 => k_is)
    (case a_34 => k_is)
    (case l_34 => k_is)
    (case c_34 => k_is)
    (case k_34 => k_is)
    (case i_34 => k_is)
    (case a_35 => k_is)
    (case l_35 => k_is)
    (case c_35 => k_is)
    (case k_35 => k_is)
    (case i_35 => k_is)
    (case a_36 => k_is)
    (case l_36 => k_is)
    (case c_36 => k_is)
    (case k_36 => k_is)
    (case i_36 => k_is)
    (case a_37 => k_is)
    (case l_37 => k_is)
    (case c_37 => k_is)
    (case k_37 => k_is)
    (case i_37 => k_is)
    (case a_38 => k_is)
    (case l_38 => k_is)
    (case c_38 => k_is)
    (case k_38 => k_is)
    (case i_38 => k_is)
    (case a_39 => k_is)
    (case l_39 => k_is)
    (case c_39 => k_is)
    (case k_39 => k_is)
    (case i_39 => k_is)
    (case a_40 => k_is)
    (case l_40 => k_is)
    (case c_40 => k_is)
    (case k_40 => k_is)
    (case i_40 => k_is)
    (case a_41 => k_is)
    (case l_41 => k_is)
    (case c_41 => k_is)
    (case k_41 => k_is)
    (case i_41 => k_is)
    (case a_42 => k_is)
    (case l_42 => k_is)
    (case c_42 => k_is)
    (case k_42 => k_is)
    (case i_42 => k_is)
    (case a_43 => k_is)
    (case l_43 => k_is)
    (case c_43 => k_is)
    (case k_43 => k_is)
    (case i_43 => k_is)
    (case a_44 => k_is)
    (case l_44 => k_is)
    (case c_44 => k_is)
    (case k_44 => k_is)
    (case i_44 => k_is)
    (case a_45 => k_is)
    (case l_45 => k_is)
    (case c_45 => k_is)
    (case k_45 => k_is)
    (case i_45 => k_is)
    (case a_46 => k_is)
    (case l_46 => k_is)
    (case c_46 => k_is)
    (case k_46 => k_is)
    (case i_46 => k_is)
    (case a_47 => k_is)
    (case l_47 => k_is)
    (case c_47 => k_is)
    (case k_47 => k_is)
    (case i_47 => k_is)
    (case a_48 => k_is)
    (case l_48 => k_is)
    (case c_48 => k_is)
    (case k_48 => k_is)
    (case i_48 => k_is)
    (case a_49 => k_is)
    (case l_49 => k_is)
    (case c_49 => k_is)
    (case k_49 => k_is)
    (case i_49 => k_is)
#print axioms PySem.Challenge.cw_squeezedkeyer_k47_errors_of_partings_holds
