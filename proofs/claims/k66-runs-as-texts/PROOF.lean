import PyProof.Rows.All
import Wide.All
import OpenK.AllK
import Wide.FinOn
import HandS.Base
import HandS.Call
import HandS.List
import HandS.Comp
import HandS.Ends
import HandS.Dict
import HandS.Iter
import HandS.Text
import HandS.IsInst
import HandS.Words
import HandS.Exc
import HandS.ExcInit
import HandS.ExcField
import HandS.ExcValue
import KE.KExcIs
import HandS.ExcCtx
import HandS.HotCalls
import HandS.Wide
import HandS.Style
import HandS.TupAny
import HandS.Small
import HandS.RaiseMore
import HandS.Star
import PyProof.ReprRoads
import PyProof.ReprLen
import HandS.Defaults
import PyProof.RowDictHeap
import KE.KRevSl
import HandS.Replace
import KE.DatumOrd
import HandS.FStr
import HandS.ExcOwn
import PyProof.StrOps2
import PyProof.Rows.StrFit
import PyProof.DictWalks
import PyProof.ConsumeWalk
import HandS.ExcIs
import KE.KDictZip
import KE.KItemsList
import HandS.Conv
import HandS.TupMul
import PySem.Challenge.RW_squeezedkeyer_k66_runs_as_texts
set_option Elab.async false
set_option linter.all false
set_option maxRecDepth 100000
set_option maxHeartbeats 1000000
namespace TL
open PySem PySem.Spec PyProof.Rows L2

/-! ### trees -/
inductive T where
  | non | bl (b : Bool) | int (i : Int) | str (x : Str)
  | tup (xs : List T) | lst (o : Bool) (xs : List T) | dct (o : Bool) (kvs : List (Key × T)) | ins (o : Bool) (C : Addr) (fs : List (Str × T))
  | fn (a : Addr) | ty (n : String)
  /-- an exception: where it stands, its class's name, its dict, its fields -/
  | exc (a : Addr) (x : Str) (od : Option Addr) (fs : List (Str × T))
  /-- an exception object held as a value: its class's name, its fields -/
  | exv (x : Str) (fs : List (Str × T))
deriving Inhabited

mutual
def frz : T → T
  | .tup xs => .tup (frzL xs)
  | .lst _ xs => .lst false (frzL xs)
  | .dct _ kvs => .dct false (frzK kvs)
  | .ins _ C fs => .ins false C (frzF fs)
  | .non => .non | .bl b => .bl b | .int i => .int i | .str x => .str x | .fn a => .fn a | .ty n => .ty n | .exc a x od fs => .exc a x od fs | .exv x fs => .exv x fs
def frzL : List T → List T
  | [] => []
  | t :: r => frz t :: frzL r
def frzK : List (Key × T) → List (Key × T)
  | [] => []
  | (k, t) :: r => (k, frz t) :: frzK r
def frzF : List (Str × T) → List (Str × T)
  | [] => []
  | (k, t) :: r => (k, frz t) :: frzF r
end
mutual
def closed : T → Bool
  | .tup xs => closedL xs
  | .lst o xs => !o && closedL xs
  | .dct o kvs => !o && closedK kvs
  | .ins o _ fs => !o && closedF fs
  | .non => true | .bl _ => true | .int _ => true | .str _ => true | .fn _ => true | .ty _ => true | .exc _ _ _ _ => true | .exv _ _ => true
def closedL : List T → Bool
  | [] => true
  | t :: r => closed t && closedL r
def closedK : List (Key × T) → Bool
  | [] => true
  | (_, t) :: r => closed t && closedK r
def closedF : List (Str × T) → Bool
  | [] => true
  | (_, t) :: r => closed t && closedF r
end
mutual
theorem frz_closed : ∀ t : T, closed t = true → frz t = t
  | .tup xs, h => by simp only [frz]; rw [frzL_closed xs (by simpa [closed] using h)]
  | .lst o xs, h => by
    simp only [closed, Bool.and_eq_true, Bool.not_eq_true'] at h
    simp only [frz]; rw [frzL_closed xs h.2, h.1]
  | .dct o kvs, h => by
    simp only [closed, Bool.and_eq_true, Bool.not_eq_true'] at h
    simp only [frz]; rw [frzK_closed kvs h.2, h.1]
  | .ins o C fs, h => by
    simp only [closed, Bool.and_eq_true, Bool.not_eq_true'] at h
    simp only [frz]; rw [frzF_closed fs h.2, h.1]
  | .non, _ => by simp only [frz]
  | .bl _, _ => by simp only [frz]
  | .int _, _ => by simp only [frz]
  | .str _, _ => by simp only [frz]
  | .fn _, _ => by simp only [frz]
  | .ty _, _ => by simp only [frz]
  | .exc _ _ _ _, _ => by simp only [frz]
  | .exv _ _, _ => by simp only [frz]
theorem frzL_closed : ∀ ts : List T, closedL ts = true → frzL ts = ts
  | [], _ => by simp only [frzL]
  | t :: r, h => by
    simp only [closedL, Bool.and_eq_true] at h
    simp only [frzL]; rw [frz_closed t h.1, frzL_closed r h.2]
theorem frzK_closed : ∀ ts : List (Key × T), closedK ts = true → frzK ts = ts
  | [], _ => by simp only [frzK]
  | (k, t) :: r, h => by
    simp only [closedK, Bool.and_eq_true] at h
    simp only [frzK]; rw [frz_closed t h.1, frzK_closed r h.2]
theorem frzF_closed : ∀ ts : List (Str × T), closedF ts = true → frzF ts = ts
  | [], _ => by simp only [frzF]
  | (k, t) :: r, h => by
    simp only [closedF, Bool.and_eq_true] at h
    simp only [frzF]; rw [frz_closed t h.1, frzF_closed r h.2]
end
mutual
theorem closed_frz : ∀ t : T, closed (frz t) = true
  | .tup xs => by simp only [frz, closed]; exact closedL_frz xs
  | .lst o xs => by simp only [frz, closed]; rw [closedL_frz xs]; rfl
  | .dct o kvs => by simp only [frz, closed]; rw [closedK_frz kvs]; rfl
  | .ins o C fs => by simp only [frz, closed]; rw [closedF_frz fs]; rfl
  | .non => by simp only [frz, closed]
  | .bl _ => by simp only [frz, closed]
  | .int _ => by simp only [frz, closed]
  | .str _ => by simp only [frz, closed]
  | .fn _ => by simp only [frz, closed]
  | .ty _ => by simp only [frz, closed]
  | .exc _ _ _ _ => by simp only [frz, closed]
  | .exv _ _ => by simp only [frz, closed]
theorem closedL_frz : ∀ ts : List T, closedL (frzL ts) = true
  | [] => by simp only [frzL, closedL]
  | t :: r => by simp only [frzL, closedL]; rw [closed_frz t, closedL_frz r]; rfl
theorem closedK_frz : ∀ ts : List (Key × T), closedK (frzK ts) = true
  | [] => by simp only [frzK, closedK]
  | (k, t) :: r => by simp only [frzK, closedK]; rw [closed_frz t, closedK_frz r]; rfl
theorem closedF_frz : ∀ ts : List (Str × T), closedF (frzF ts) = true
  | [] => by simp only [frzF, closedF]
  | (k, t) :: r => by simp only [frzF, closedF]; rw [closed_frz t, closedF_frz r]; rfl
end
theorem frzL_map : ∀ ts : List T, frzL ts = ts.map frz
  | [] => by simp only [frzL, List.map_nil]
  | t :: r => by simp only [frzL, List.map_cons]; rw [frzL_map r]
theorem frzK_map : ∀ ts : List (Key × T), frzK ts = ts.map fun p => (p.1, frz p.2)
  | [] => by simp only [frzK, List.map_nil]
  | (k, t) :: r => by simp only [frzK, List.map_cons]; rw [frzK_map r]
theorem frzF_map : ∀ ts : List (Str × T), frzF ts = ts.map fun p => (p.1, frz p.2)
  | [] => by simp only [frzF, List.map_nil]
  | (k, t) :: r => by simp only [frzF, List.map_cons]; rw [frzF_map r]
theorem closedL_iff : ∀ ts : List T, closedL ts = true ↔ ∀ t ∈ ts, closed t = true
  | [] => by simp [closedL]
  | t :: r => by simp [closedL, closedL_iff r]
theorem closedK_iff : ∀ ts : List (Key × T), closedK ts = true ↔ ∀ p ∈ ts, closed p.2 = true
  | [] => by simp [closedK]
  | (k, t) :: r => by simp [closedK, closedK_iff r]
theorem closedF_iff : ∀ ts : List (Str × T), closedF ts = true ↔ ∀ p ∈ ts, closed p.2 = true
  | [] => by simp [closedF]
  | (k, t) :: r => by simp [closedF, closedF_iff r]

/-! ### a tree lies at a value -/
abbrev Frag := PySem.W.Frag
/-- where the class of that name stands -/
def clsOf (K : Frag) (x : Str) : Addr := match PySem.W.nsIn K mainGlobals x with
  | some (some (.ref a)) => a
  | _ => 0
/-- at a: an exception of the class cls, its dict at d -/
def xvO (a : Addr) (cls : Value) (d : Option Addr) : HO := .ext fun h => ∃ (oe : Obj) (vs : Array Value), h.get? a = some oe ∧ Zc cls d oe ∧ oe.data = .fields vs
/-- a list that stands still: tracked, or an object of the written part, just so -/
def RdL (K : Frag) (B : Hp) (a : Addr) (vs : List V) : Prop := Rd B a (.lst vs) ∨ ∃ (its : Array Value) (n : Nat), K.lookup a = some { cls := .type "list", data := .seq its n } ∧ its.size ≤ sizeLine ∧ Vals vs its.toList
mutual
inductive Rp (K : Frag) (B H : Hp) : V → T → List Addr → Prop
  | non : Rp K B H .non .non []
  | bl (b : Bool) : Rp K B H (.bl b) (.bl b) []
  | int (i : Int) : Rp K B H (.int i) (.int i) []
  | str (x : Str) : Rp K B H (.str x) (.str x) []
  | fn (a : Addr) : Rp K B H (.ref a) (.fn a) []
  | ty (n : String) : Rp K B H (.ty n) (.ty n) []
  | exc0 (a : Addr) (x : Str) : Rp K B H (.ref a) (.exc a x none []) []
  | excD {a d : Addr} {x : Str} {fv : List (Str × V)} {ts : List (Str × T)} : B d = some (.xd fv) → fv.map (·.1) = ts.map (·.1) → RpL K B H (fv.map (·.2)) (ts.map (·.2)) [] → Rp K B H (.ref a) (.exc a x (some d) ts) []
  | exv0 {a : Addr} {x : Str} : B a = some (ExO (.ref (clsOf K x)) a) → Rp K B H (.ref a) (.exv x []) []
  | exvD {a d : Addr} {x : Str} {fv : List (Str × V)} {ts : List (Str × T)} : B a = some (xvO a (.ref (clsOf K x)) (some d)) → B d = some (.xd fv) → fv.map (·.1) = ts.map (·.1) → RpL K B H (fv.map (·.2)) (ts.map (·.2)) [] → Rp K B H (.ref a) (.exv x ts) []
  | tup {a : Addr} {vs : List V} {ts : List T} {F : List Addr} : SqT K B a vs → RpL K B H vs ts F → Rp K B H (.ref a) (.tup ts) F
  | lstF {a : Addr} {vs : List V} {ts : List T} : RdL K B a vs → RpL K B H vs ts [] → Rp K B H (.ref a) (.lst false ts) []
  | lstO {a : Addr} {vs : List V} {ts : List T} {F : List Addr} : H a = some (.lst vs) → RpL K B H vs ts F → Rp K B H (.ref a) (.lst true ts) (a :: F)
  | dctF {a : Addr} {kv : List (Key × V)} {ts : List (Key × T)} : Rd B a (.dK kv) → kv.map (·.1) = ts.map (·.1) → RpL K B H (kv.map (·.2)) (ts.map (·.2)) [] → Rp K B H (.ref a) (.dct false ts) []
  | dctO {a : Addr} {kv : List (Key × V)} {ts : List (Key × T)} {F : List Addr} : H a = some (.dK kv) → kv.map (·.1) = ts.map (·.1) → RpL K B H (kv.map (·.2)) (ts.map (·.2)) F → Rp K B H (.ref a) (.dct true ts) (a :: F)
  | insF {a C dx : Addr} {fv : List (Str × V)} {ts : List (Str × T)} : B a = some (.ins C dx fv) → fv.map (·.1) = ts.map (·.1) → RpL K B H (fv.map (·.2)) (ts.map (·.2)) [] → Rp K B H (.ref a) (.ins false C ts) []
  | insO {a C dx : Addr} {fv : List (Str × V)} {ts : List (Str × T)} {F : List Addr} : H a = some (.ins C dx fv) → H dx = some (.own a) → fv.map (·.1) = ts.map (·.1) → RpL K B H (fv.map (·.2)) (ts.map (·.2)) F →
      Rp K B H (.ref a) (.ins true C ts) (a :: dx :: F)
inductive RpL (K : Frag) (B H : Hp) : List V → List T → List Addr → Prop
  | nil : RpL K B H [] [] []
  | cons {v : V} {vs : List V} {t : T} {ts : List T} {F G : List Addr} : Rp K B H v t F → RpL K B H vs ts G → RpL K B H (v :: vs) (t :: ts) (F ++ G)
end

/-- the frozen part only grows; a dict may be locked -/
def Le (B B' : Hp) : Prop := ∀ a o, B a = some o → B' a = some o ∨ ∃ kv od, o = .dK kv ∧ B' a = some (.frz od o)
theorem Le.refl (B : Hp) : Le B B := fun _ _ h => .inl h
theorem Le.trans {B C D : Hp} (h : Le B C) (k : Le C D) : Le B D := fun a o e => by
  rcases h a o e with e1 | ⟨kv, od, rfl, e1⟩
  · exact k a o e1
  · rcases k a _ e1 with e2 | ⟨_, _, z, _⟩
    · exact .inr ⟨kv, od, rfl, e2⟩
    · cases z
theorem Le.of_same {B B' : Hp} (h : Same B B') : Le B B' := fun a o e => .inl (h a o e)
theorem Le.ext {B B' : Hp} (h : Le B B') {a : Addr} {φ : Heap → Prop} (r : B a = some (.ext φ)) : B' a = some (.ext φ) := by
  rcases h a _ r with e | ⟨_, _, z, _⟩
  · exact e
  · cases z
def plainO : HO → Bool
  | .frz _ _ => false
  | _ => true
theorem Le.rd {B B' : Hp} (h : Le B B') {a : Addr} {u : HO} (hu : plainO u = true) (r : Rd B a u) : Rd B' a u := by
  rcases r with r | ⟨o, r⟩
  · rcases h a u r with e | ⟨kv, od, _, e⟩
    · exact .inl e
    · exact .inr ⟨od, e⟩
  · rcases h a _ r with e | ⟨kv, od, z, _⟩
    · exact .inr ⟨o, e⟩
    · cases z
theorem Le.sqL {K : Frag} {B B' : Hp} (h : Le B B') {a : Addr} {vs : List V} (r : SqL K B a vs) : SqL K B' a vs := r.elim (fun r => .inl (h.rd rfl r)) .inr
theorem Le.sqT {K : Frag} {B B' : Hp} (h : Le B B') {a : Addr} {vs : List V} (r : SqT K B a vs) : SqT K B' a vs := r.elim (fun r => .inl (h.rd rfl r)) .inr
theorem Le.rdL {K : Frag} {B B' : Hp} (h : Le B B') {a : Addr} {vs : List V} (r : RdL K B a vs) : RdL K B' a vs := r.elim (fun r => .inl (h.rd rfl r)) .inr
theorem RdL.sq {K : Frag} {B : Hp} {a : Addr} {vs : List V} (r : RdL K B a vs) : SqL K B a vs := r.elim .inl fun ⟨its, n, e, z, r⟩ => .inr ⟨_, its, n, e, rfl, rfl, rfl, z, r⟩
theorem Le.not_none {B B' : Hp} (h : Le B B') {a : Addr} (e : B' a = none) : B a = none := by
  cases q : B a with
  | none => rfl
  | some o =>
    rcases h a o q with e1 | ⟨_, od, _, e1⟩ <;> rw [e] at e1 <;> cases e1

section
variable {K : Frag} {B B' H H' : Hp}
mutual
theorem Rp.mono (hB : Le B B') : ∀ {v : V} {t : T} {F : List Addr}, Rp K B H v t F → (∀ a ∈ F, H' a = H a) → Rp K B' H' v t F
  | _, _, _, .non, _ => .non
  | _, _, _, .bl b, _ => .bl b
  | _, _, _, .int i, _ => .int i
  | _, _, _, .str x, _ => .str x
  | _, _, _, .fn a, _ => .fn a
  | _, _, _, .ty n, _ => .ty n
  | _, _, _, .exc0 a x, _ => .exc0 a x
  | _, _, _, .excD h1 h2 h3, _ => .excD (by rcases hB _ _ h1 with e | ⟨_, _, z, _⟩; exact e; cases z) h2 (RpL.mono hB h3 fun _ z => nomatch z)
  | _, _, _, .exv0 h1, _ => .exv0 (hB.ext h1)
  | _, _, _, .exvD h0 h1 h2 h3, _ => .exvD (hB.ext h0) (by rcases hB _ _ h1 with e | ⟨_, _, z, _⟩; exact e; cases z) h2 (RpL.mono hB h3 fun _ z => nomatch z)
  | _, _, _, .tup h1 h2, hF => .tup (hB.sqT h1) (RpL.mono hB h2 hF)
  | _, _, _, .lstF h1 h2, _ => .lstF (hB.rdL h1) (RpL.mono hB h2 fun _ z => nomatch z)
  | _, _, _, .lstO h1 h2, hF => .lstO ((hF _ List.mem_cons_self).trans h1) (RpL.mono hB h2 fun a z => hF a (List.mem_cons_of_mem _ z))
  | _, _, _, .dctF h1 h2 h3, _ => .dctF (hB.rd rfl h1) h2 (RpL.mono hB h3 fun _ z => nomatch z)
  | _, _, _, .dctO h1 h2 h3, hF => .dctO ((hF _ List.mem_cons_self).trans h1) h2 (RpL.mono hB h3 fun a z => hF a (List.mem_cons_of_mem _ z))
  | _, _, _, .insF h1 h2 h3, _ => .insF (by rcases hB _ _ h1 with e | ⟨_, _, z, _⟩; exact e; cases z) h2 (RpL.mono hB h3 fun _ z => nomatch z)
  | _, _, _, .insO h1 h0 h2 h3, hF => .insO ((hF _ List.mem_cons_self).trans h1) ((hF _ (List.mem_cons_of_mem _ List.mem_cons_self)).trans h0) h2
      (RpL.mono hB h3 fun a z => hF a (List.mem_cons_of_mem _ (List.mem_cons_of_mem _ z)))
theorem RpL.mono (hB : Le B B') : ∀ {vs : List V} {ts : List T} {F : List Addr}, RpL K B H vs ts F → (∀ a ∈ F, H' a = H a) → RpL K B' H' vs ts F
  | _, _, _, .nil, _ => .nil
  | _, _, _, .cons h1 h2, hF => .cons (Rp.mono hB h1 fun a z => hF a (List.mem_append_left _ z)) (RpL.mono hB h2 fun a z => hF a (List.mem_append_right _ z))
end
mutual
/-- frozen: nothing is owned -/
theorem Rp.fr (hB : Le B B') : ∀ {v : V} {t : T} {F : List Addr}, Rp K B H v t F → (∀ a ∈ F, B' a = H a) → Rp K B' H' v (frz t) []
  | _, _, _, .non, _ => by simp only [frz]; exact .non
  | _, _, _, .bl b, _ => by simp only [frz]; exact .bl b
  | _, _, _, .int i, _ => by simp only [frz]; exact .int i
  | _, _, _, .str x, _ => by simp only [frz]; exact .str x
  | _, _, _, .fn a, _ => by simp only [frz]; exact .fn a
  | _, _, _, .ty n, _ => by simp only [frz]; exact .ty n
  | _, _, _, .exc0 a x, _ => by simp only [frz]; exact .exc0 a x
  | _, _, _, .excD h1 h2 h3, _ => by simp only [frz]; exact .excD (by rcases hB _ _ h1 with e | ⟨_, _, z, _⟩; exact e; cases z) h2 (RpL.mono hB h3 fun _ z => nomatch z)
  | _, _, _, .exv0 h1, _ => by simp only [frz]; exact .exv0 (hB.ext h1)
  | _, _, _, .exvD h0 h1 h2 h3, _ => by simp only [frz]; exact .exvD (hB.ext h0) (by rcases hB _ _ h1 with e | ⟨_, _, z, _⟩; exact e; cases z) h2 (RpL.mono hB h3 fun _ z => nomatch z)
  | _, _, _, .tup h1 h2, hF => by simp only [frz]; exact .tup (hB.sqT h1) (RpL.fr hB h2 hF)
  | _, _, _, .lstF h1 h2, _ => by simp only [frz]; exact .lstF (hB.rdL h1) (RpL.fr hB h2 fun _ z => nomatch z)
  | _, _, _, .lstO h1 h2, hF => by simp only [frz]; exact .lstF (.inl (.inl ((hF _ List.mem_cons_self).trans h1))) (RpL.fr hB h2 fun a z => hF a (List.mem_cons_of_mem _ z))
  | _, _, _, .dctF h1 h2 h3, _ => by
    simp only [frz]
    exact .dctF (hB.rd rfl h1) (by rw [h2, frzK_map, List.map_map]; rfl) (by have := RpL.fr hB h3 (fun _ z => nomatch z); rw [frzK_map, List.map_map]; rw [frzL_map, List.map_map] at this; exact this)
  | _, _, _, .dctO h1 h2 h3, hF => by
    simp only [frz]
    exact .dctF (.inl ((hF _ List.mem_cons_self).trans h1)) (by rw [h2, frzK_map, List.map_map]; rfl) (by have := RpL.fr hB h3 (fun a z => hF a (List.mem_cons_of_mem _ z)); rw [frzK_map, List.map_map]; rw [frzL_map, List.map_map] at this; exact this)
  | _, _, _, .insF h1 h2 h3, _ => by
    simp only [frz]
    exact .insF (by rcases hB _ _ h1 with e | ⟨_, _, z, _⟩; exact e; cases z) (by rw [h2, frzF_map, List.map_map]; rfl) (by have := RpL.fr hB h3 (fun _ z => nomatch z); rw [frzF_map, List.map_map]; rw [frzL_map, List.map_map] at this; exact this)
  | _, _, _, .insO h1 h0 h2 h3, hF => by
    simp only [frz]
    exact .insF ((hF _ List.mem_cons_self).trans h1) (by rw [h2, frzF_map, List.map_map]; rfl) (by have := RpL.fr hB h3 (fun a z => hF a (List.mem_cons_of_mem _ (List.mem_cons_of_mem _ z))); rw [frzF_map, List.map_map]; rw [frzL_map, List.map_map] at this; exact this)
theorem RpL.fr (hB : Le B B') : ∀ {vs : List V} {ts : List T} {F : List Addr}, RpL K B H vs ts F → (∀ a ∈ F, B' a = H a) → RpL K B' H' vs (frzL ts) []
  | _, _, _, .nil, _ => by simp only [frzL]; exact .nil
  | _, _, _, .cons h1 h2, hF => by
    simp only [frzL]
    exact RpL.cons (F := []) (G := []) (Rp.fr hB h1 fun a z => hF a (List.mem_append_left _ z)) (RpL.fr hB h2 fun a z => hF a (List.mem_append_right _ z))
end
mutual
theorem Rp.nil_of_closed : ∀ {v : V} {t : T} {F : List Addr}, Rp K B H v t F → closed t = true → F = []
  | _, _, _, .non, _ => rfl
  | _, _, _, .bl b, _ => rfl
  | _, _, _, .int i, _ => rfl
  | _, _, _, .str x, _ => rfl
  | _, _, _, .fn a, _ => rfl
  | _, _, _, .ty n, _ => rfl
  | _, _, _, .exc0 a x, _ => rfl
  | _, _, _, .excD h1 h2 h3, _ => rfl
  | _, _, _, .exv0 _, _ => rfl
  | _, _, _, .exvD _ _ _ _, _ => rfl
  | _, _, _, .tup h1 h2, h => RpL.nil_of_closed h2 (by simpa [closed] using h)
  | _, _, _, .lstF h1 h2, _ => rfl
  | _, _, _, .lstO h1 h2, h => by simp [closed] at h
  | _, _, _, .dctF h1 h2 h3, _ => rfl
  | _, _, _, .dctO h1 h2 h3, h => by simp [closed] at h
  | _, _, _, .insF h1 h2 h3, _ => rfl
  | _, _, _, .insO h1 h0 h2 h3, h => by simp [closed] at h
theorem RpL.nil_of_closed : ∀ {vs : List V} {ts : List T} {F : List Addr}, RpL K B H vs ts F → closedL ts = true → F = []
  | _, _, _, .nil, _ => rfl
  | _, _, _, .cons h1 h2, h => by
    simp only [closedL, Bool.and_eq_true] at h
    rw [Rp.nil_of_closed h1 h.1, RpL.nil_of_closed h2 h.2]; rfl
end
mutual
theorem Rp.closed_of_nil : ∀ {v : V} {t : T} {F : List Addr}, Rp K B H v t F → F = [] → closed t = true
  | _, _, _, .non, _ => by simp only [closed]
  | _, _, _, .bl b, _ => by simp only [closed]
  | _, _, _, .int i, _ => by simp only [closed]
  | _, _, _, .str x, _ => by simp only [closed]
  | _, _, _, .fn a, _ => by simp only [closed]
  | _, _, _, .ty n, _ => by simp only [closed]
  | _, _, _, .exc0 a x, _ => by simp only [closed]
  | _, _, _, .excD h1 h2 h3, _ => by simp only [closed]
  | _, _, _, .exv0 _, _ => by simp only [closed]
  | _, _, _, .exvD _ _ _ _, _ => by simp only [closed]
  | _, _, _, .tup h1 h2, h => by simp only [closed]; exact RpL.closed_of_nil h2 h
  | _, _, _, .lstF h1 h2, _ => by simp only [closed]; rw [RpL.closed_of_nil h2 rfl]; rfl
  | _, _, _, .lstO h1 h2, h => nomatch h
  | _, _, _, .dctF h1 h2 h3, _ => by
    have h := RpL.closed_of_nil h3 rfl
    simp only [closed]
    rw [(closedK_iff _).mpr fun p hp => (closedL_iff _).mp h p.2 (List.mem_map.mpr ⟨p, hp, rfl⟩)]; rfl
  | _, _, _, .dctO h1 h2 h3, h => nomatch h
  | _, _, _, .insF h1 h2 h3, _ => by
    have h := RpL.closed_of_nil h3 rfl
    simp only [closed]
    rw [(closedF_iff _).mpr fun p hp => (closedL_iff _).mp h p.2 (List.mem_map.mpr ⟨p, hp, rfl⟩)]; rfl
  | _, _, _, .insO h1 h0 h2 h3, h => nomatch h
theorem RpL.closed_of_nil : ∀ {vs : List V} {ts : List T} {F : List Addr}, RpL K B H vs ts F → F = [] → closedL ts = true
  | _, _, _, .nil, _ => by simp only [closedL]
  | _, _, _, .cons h1 h2, h => by
    have h := List.append_eq_nil_iff.mp h
    simp only [closedL]
    rw [Rp.closed_of_nil h1 h.1, RpL.closed_of_nil h2 h.2]; rfl
end
/-- nothing owned: H plays no part -/
theorem Rp.cl {v : V} {t : T} {F : List Addr} (h : Rp K B H v t F) (hc : closed t = true) (hB : Le B B') : Rp K B' H' v t [] := by
  have e := h.nil_of_closed hc
  subst e
  exact h.mono hB fun _ z => nomatch z
theorem RpL.cl {vs : List V} {ts : List T} {F : List Addr} (h : RpL K B H vs ts F) (hc : closedL ts = true) (hB : Le B B') : RpL K B' H' vs ts [] := by
  have e := h.nil_of_closed hc
  subst e
  exact h.mono hB fun _ z => nomatch z
theorem RpL.length : ∀ {vs : List V} {ts : List T} {F : List Addr}, RpL K B H vs ts F → vs.length = ts.length
  | _, _, _, .nil => rfl
  | _, _, _, .cons _ h => by simp [h.length]
theorem RpL.get' : ∀ {vs : List V} {ts : List T} {F : List Addr} {i : Nat} {v : V}, RpL K B H vs ts F → F = [] → vs[i]? = some v → ∃ t, ts[i]? = some t ∧ Rp K B H v t []
  | _, _, _, i, v, .nil, _, e => by simp at e
  | _, _, _, 0, v, .cons h1 h2, hF, e => by
    have hF := List.append_eq_nil_iff.mp hF
    simp at e; subst e
    have h3 := h1
    rw [hF.1] at h3
    exact ⟨_, rfl, h3⟩
  | _, _, _, i + 1, v, .cons h1 h2, hF, e => by
    have hF := List.append_eq_nil_iff.mp hF
    obtain ⟨t, e1, e2⟩ := RpL.get' (i := i) (v := v) h2 hF.2 (by simpa using e)
    exact ⟨t, by simpa using e1, e2⟩
theorem RpL.get {vs : List V} {ts : List T} {i : Nat} {v : V} (h : RpL K B H vs ts []) (e : vs[i]? = some v) : ∃ t, ts[i]? = some t ∧ Rp K B H v t [] := RpL.get' h rfl e
theorem RpL.get_t' : ∀ {vs : List V} {ts : List T} {F : List Addr} {i : Nat} {t : T}, RpL K B H vs ts F → F = [] → ts[i]? = some t → ∃ v, vs[i]? = some v ∧ Rp K B H v t []
  | _, _, _, i, t, .nil, _, e => by simp at e
  | _, _, _, 0, t, .cons h1 h2, hF, e => by
    have hF := List.append_eq_nil_iff.mp hF
    simp at e; subst e
    have h3 := h1
    rw [hF.1] at h3
    exact ⟨_, rfl, h3⟩
  | _, _, _, i + 1, t, .cons h1 h2, hF, e => by
    have hF := List.append_eq_nil_iff.mp hF
    obtain ⟨v, e1, e2⟩ := RpL.get_t' (i := i) (t := t) h2 hF.2 (by simpa using e)
    exact ⟨v, by simpa using e1, e2⟩
theorem RpL.get_t {vs : List V} {ts : List T} {i : Nat} {t : T} (h : RpL K B H vs ts []) (e : ts[i]? = some t) : ∃ v, vs[i]? = some v ∧ Rp K B H v t [] := RpL.get_t' h rfl e
theorem RpL.one {v : V} {vs : List V} {t : T} {ts : List T} {F : List Addr} (h : RpL K B H (v :: vs) (t :: ts) F) : ∃ F1 F2, F = F1 ++ F2 ∧ Rp K B H v t F1 ∧ RpL K B H vs ts F2 := by
  cases h with
  | cons h1 h2 => exact ⟨_, _, rfl, h1, h2⟩
theorem RpL.append : ∀ {vs ws : List V} {ts us : List T} {F G : List Addr}, RpL K B H vs ts F → RpL K B H ws us G → RpL K B H (vs ++ ws) (ts ++ us) (F ++ G)
  | _, _, _, _, _, _, .nil, h => h
  | _, _, _, _, _, _, .cons h1 h2, h => by rw [List.append_assoc]; exact .cons h1 (h2.append h)
theorem RpL.take0 : ∀ {vs : List V} {ts : List T} {F : List Addr} (n : Nat), RpL K B H vs ts F → F = [] → RpL K B H (vs.take n) (ts.take n) []
  | _, _, _, 0, _, _ => by simp; exact .nil
  | _, _, _, n + 1, .nil, _ => by simp; exact .nil
  | _, _, _, n + 1, .cons h1 h2, e => by
    have e := List.append_eq_nil_iff.mp e
    have h3 := h1
    rw [e.1] at h3
    simp only [List.take_succ_cons]
    exact RpL.cons (F := []) (G := []) h3 (RpL.take0 n h2 e.2)
theorem RpL.drop0 : ∀ {vs : List V} {ts : List T} {F : List Addr} (n : Nat), RpL K B H vs ts F → F = [] → RpL K B H (vs.drop n) (ts.drop n) []
  | _, _, _, 0, h, e => by subst e; simpa using h
  | _, _, _, n + 1, .nil, _ => by simp; exact .nil
  | _, _, _, n + 1, .cons h1 h2, e => by
    have e := List.append_eq_nil_iff.mp e
    simp only [List.drop_succ_cons]
    exact RpL.drop0 n h2 e.2
theorem RpL.rev0 : ∀ {vs : List V} {ts : List T} {F : List Addr}, RpL K B H vs ts F → F = [] → RpL K B H vs.reverse ts.reverse []
  | _, _, _, .nil, _ => by simp; exact .nil
  | _, _, _, .cons h1 h2, e => by
    have e := List.append_eq_nil_iff.mp e
    have h3 := h1
    rw [e.1] at h3
    simp only [List.reverse_cons]
    exact RpL.append (F := []) (G := []) (RpL.rev0 h2 e.2) (RpL.cons (F := []) (G := []) h3 .nil)
end
end TL

set_option maxRecDepth 100000
set_option maxHeartbeats 1000000
namespace TL
open PySem PySem.Spec PyProof.Rows L2

abbrev Sg := List (Option V)
abbrev Dt := List (Option T)
def Sub (B H : Hp) : Prop := ∀ a o, B a = some o → H a = some o
def RpO (K : Frag) (B H : Hp) : Option V → Option T → List Addr → Prop
  | _, none, F => F = []
  | some v, some t, F => Rp K B H v t F
  | none, some _, _ => False
inductive RpS (K : Frag) (B H : Hp) : Sg → Dt → List Addr → Prop
  | nil : RpS K B H [] [] []
  | cons {x : Option V} {d : Option T} {σ : Sg} {Δ : Dt} {F G : List Addr} : RpO K B H x d F → RpS K B H σ Δ G → RpS K B H (x :: σ) (d :: Δ) (F ++ G)
def Dj (B H : Hp) (L : List Addr) : Prop := ∀ a, L.count a ≤ 1 ∧ (a ∈ L → B a = none ∧ H a ≠ none)
def Keep (R : List Addr) (H H' : Hp) : Prop := ∀ a ∈ R, H' a = H a
structure Rep (K : Frag) (B H : Hp) (R : List Addr) (σ : Sg) (Δ : Dt) : Prop where
  sub : Sub B H
  fp : ∃ F, RpS K B H σ Δ F ∧ Dj B H (F ++ R)
/-- what is new -/
def Ext (H H' : Hp) (G : List Addr) : Prop := Same H H' ∧ ∀ a, G.count a ≤ 1 ∧ (a ∈ G → H a = none ∧ H' a ≠ none)
theorem Ext.refl (H : Hp) : Ext H H [] := ⟨Same.refl H, fun a => ⟨by simp, fun z => nomatch z⟩⟩
theorem Ext.new {H : Hp} {p : Addr} {o : HO} (h : H p = none) : Ext H (upd H p o) [p] :=
  ⟨fun a u e => by rw [upd_ne (ne_of_none e h)]; exact e, fun a => ⟨by simp only [List.count_singleton]; split <;> omega, fun z => by
    have e : a = p := by simpa using z
    subst e; exact ⟨h, by rw [upd_same]; simp⟩⟩⟩

theorem Keep.refl {R : List Addr} {H : Hp} : Keep R H H := fun _ _ => rfl
theorem Keep.trans {R : List Addr} {H H1 H2 : Hp} (h : Keep R H H1) (k : Keep R H1 H2) : Keep R H H2 := fun a z => (k a z).trans (h a z)
theorem Keep.left {R R' : List Addr} {H H1 : Hp} (h : Keep (R ++ R') H H1) : Keep R H H1 := fun a z => h a (List.mem_append_left _ z)
theorem Keep.right {R R' : List Addr} {H H1 : Hp} (h : Keep (R ++ R') H H1) : Keep R' H H1 := fun a z => h a (List.mem_append_right _ z)
theorem Dj.of_le {B H : Hp} {L L' : List Addr} (h : Dj B H L) (k : ∀ a, L'.count a ≤ L.count a) : Dj B H L' := fun a =>
  ⟨Nat.le_trans (k a) (h a).1, fun z => (h a).2 (List.count_pos_iff.mp (Nat.lt_of_lt_of_le (List.count_pos_iff.mpr z) (k a)))⟩
theorem Dj.keep {B H H' : Hp} {L : List Addr} (h : Dj B H L) (k : Same H H') : ∀ a ∈ L, H' a = H a := fun a z => by
  have q := ((h a).2 z).2
  cases e : H a with
  | none => exact absurd e q
  | some o => exact k a o e

section
variable {K : Frag} {B B' H H' : Hp} {R R' G : List Addr} {σ : Sg} {Δ : Dt} {v : V} {t : T} {i : Nat}
theorem RpO.mono (hB : Le B B') {x : Option V} {d : Option T} {F : List Addr} (h : RpO K B H x d F) (k : ∀ a ∈ F, H' a = H a) : RpO K B' H' x d F := by
  cases d with
  | none => cases x <;> exact h
  | some t =>
    cases x with
    | none => exact h.elim
    | some v => exact Rp.mono hB h k
theorem RpS.mono (hB : Le B B') : ∀ {σ : Sg} {Δ : Dt} {F : List Addr}, RpS K B H σ Δ F → (∀ a ∈ F, H' a = H a) → RpS K B' H' σ Δ F
  | _, _, _, .nil, _ => .nil
  | _, _, _, .cons h1 h2, k => .cons (h1.mono hB fun a z => k a (List.mem_append_left _ z)) (h2.mono hB fun a z => k a (List.mem_append_right _ z))
theorem RpS.len : ∀ {σ : Sg} {Δ : Dt} {F : List Addr}, RpS K B H σ Δ F → σ.length = Δ.length
  | _, _, _, .nil => rfl
  | _, _, _, .cons _ h => by simp [h.len]
theorem RpS.at_ : ∀ {σ : Sg} {Δ : Dt} {F : List Addr} {i : Nat} {d : Option T}, RpS K B H σ Δ F → Δ[i]? = some d → ∃ x F1 Fi F2, σ[i]? = some x ∧ F = F1 ++ (Fi ++ F2) ∧ RpO K B H x d Fi ∧
    ∀ x' d' G, RpO K B H x' d' G → RpS K B H (σ.set i x') (Δ.set i d') (F1 ++ (G ++ F2))
  | _, _, _, i, d, .nil, e => by simp at e
  | _, _, _, 0, d, .cons (x := x) (F := F) (G := G) h1 h2, e => by
    simp at e; subst e
    exact ⟨x, [], F, G, rfl, rfl, h1, fun x' d' G' h' => by rw [List.nil_append]; exact .cons h' h2⟩
  | _, _, _, i + 1, d, .cons (F := F) (G := G) h1 h2, e => by
    obtain ⟨x, F1, Fi, F2, e1, e2, r, k⟩ := RpS.at_ (i := i) (d := d) h2 (by simpa using e)
    refine ⟨x, F ++ F1, Fi, F2, by simpa using e1, by rw [e2, List.append_assoc], r, fun x' d' G' h' => ?_⟩
    rw [List.append_assoc]
    exact .cons h1 (k x' d' G' h')
theorem Rep.len (h : Rep K B H R σ Δ) : σ.length = Δ.length := let ⟨_, h1, _⟩ := h.fp; h1.len
theorem Rep.get (h : Rep K B H R σ Δ) (e : Δ[i]? = some (some t)) : ∃ v G, σ[i]? = some (some v) ∧ Rp K B H v t G := by
  obtain ⟨F, h1, h2⟩ := h.fp
  obtain ⟨x, F1, Fi, F2, e1, e2, r, k⟩ := h1.at_ e
  cases x with
  | none => exact r.elim
  | some v => exact ⟨v, Fi, e1, r⟩
theorem Rep.weak (h : Rep K B H R σ Δ) (k : ∀ a, R'.count a ≤ R.count a) : Rep K B H R' σ Δ := by
  obtain ⟨F, h1, h2⟩ := h.fp
  exact ⟨h.sub, F, h1, h2.of_le fun a => by rw [List.count_append, List.count_append]; exact Nat.add_le_add_left (k a) _⟩
theorem Rep.drop (h : Rep K B H (G ++ R) σ Δ) : Rep K B H R σ Δ := h.weak fun a => by rw [List.count_append]; omega
theorem Sub.none (h : Sub B H) {a : Addr} (e : H a = none) : B a = none := by
  cases q : B a with
  | none => rfl
  | some o => rw [h a o q] at e; cases e
/-- something new beside -/
theorem Rep.ext (h : Rep K B H R σ Δ) (e : Ext H H' G) : Rep K B H' (G ++ R) σ Δ := by
  obtain ⟨F, h1, h2⟩ := h.fp
  have hk := h2.keep e.1
  refine ⟨fun a o q => e.1 a o (h.sub a o q), F, h1.mono (Le.refl B) fun a z => hk a (List.mem_append_left _ z), fun a => ?_⟩
  have hc : (F ++ (G ++ R)).count a = G.count a + (F ++ R).count a := by simp only [List.count_append]; omega
  by_cases hg : a ∈ G
  · have hn : ¬ a ∈ F ++ R := fun z => ((h2 a).2 z).2 ((e.2 a).2 hg).1
    have h0 : (F ++ R).count a = 0 := List.count_eq_zero.mpr hn
    exact ⟨by rw [hc, h0]; exact (e.2 a).1, fun _ => ⟨h.sub.none ((e.2 a).2 hg).1, ((e.2 a).2 hg).2⟩⟩
  · have h0 : G.count a = 0 := List.count_eq_zero.mpr hg
    refine ⟨by rw [hc, h0]; have := (h2 a).1; omega, fun z => ?_⟩
    have z' : a ∈ F ++ R := by
      rcases List.mem_append.mp z with z | z
      · exact List.mem_append_left _ z
      · rcases List.mem_append.mp z with z | z
        · exact absurd z hg
        · exact List.mem_append_right _ z
    exact ⟨((h2 a).2 z').1, by rw [hk a z']; exact ((h2 a).2 z').2⟩
/-- something new beside, some of it frozen at once -/
def Gro (B H B' H' : Hp) (G : List Addr) : Prop := Same H H' ∧ Le B B' ∧ Sub B' H' ∧ (∀ a, H a ≠ none → B' a = B a) ∧ ∀ a, G.count a ≤ 1 ∧ (a ∈ G → H a = none ∧ H' a ≠ none ∧ B' a = none)
theorem Gro.refl (h : Sub B H) : Gro B H B H [] := ⟨Same.refl H, Le.refl B, h, fun _ _ => rfl, fun a => ⟨by simp, fun z => nomatch z⟩⟩
theorem Gro.own {p : Addr} {o : HO} (hs : Sub B H) (h : H p = none) : Gro B H B (upd H p o) [p] :=
  ⟨(Ext.new h).1, Le.refl B, fun a u e => (Ext.new h).1 a u (hs a u e), fun _ _ => rfl, fun a => ⟨((Ext.new (o := o) h).2 a).1, fun z => ⟨(((Ext.new (o := o) h).2 a).2 z).1, (((Ext.new (o := o) h).2 a).2 z).2, hs.none (((Ext.new (o := o) h).2 a).2 z).1⟩⟩⟩
theorem Gro.fro {p : Addr} {o : HO} (hs : Sub B H) (h : H p = none) : Gro B H (upd B p o) (upd H p o) [] :=
  ⟨(Ext.new h).1, Le.of_same (Ext.new (hs.none h)).1, fun b u z => by
      by_cases hb : b = p
      · subst hb; rw [upd_same] at z ⊢; exact z
      · rw [upd_ne hb] at z ⊢; exact hs b u z, fun b hb => upd_ne fun z => hb (by rw [z]; exact h), fun a => ⟨by simp, fun z => nomatch z⟩⟩
theorem Rep.gro (h : Rep K B H R σ Δ) (e : Gro B H B' H' G) : Rep K B' H' (G ++ R) σ Δ := by
  obtain ⟨F, h1, h2⟩ := h.fp
  have hk := h2.keep e.1
  refine ⟨e.2.2.1, F, h1.mono e.2.1 fun a z => hk a (List.mem_append_left _ z), fun a => ?_⟩
  have hc : (F ++ (G ++ R)).count a = G.count a + (F ++ R).count a := by simp only [List.count_append]; omega
  by_cases hg : a ∈ G
  · have hn : ¬ a ∈ F ++ R := fun z => ((h2 a).2 z).2 ((e.2.2.2.2 a).2 hg).1
    have h0 : (F ++ R).count a = 0 := List.count_eq_zero.mpr hn
    exact ⟨by rw [hc, h0]; exact (e.2.2.2.2 a).1, fun _ => ⟨((e.2.2.2.2 a).2 hg).2.2, ((e.2.2.2.2 a).2 hg).2.1⟩⟩
  · have h0 : G.count a = 0 := List.count_eq_zero.mpr hg
    refine ⟨by rw [hc, h0]; have := (h2 a).1; omega, fun z => ?_⟩
    have z' : a ∈ F ++ R := by
      rcases List.mem_append.mp z with z | z
      · exact List.mem_append_left _ z
      · rcases List.mem_append.mp z with z | z
        · exact absurd z hg
        · exact List.mem_append_right _ z
    exact ⟨by rw [e.2.2.2.1 a ((h2 a).2 z').2]; exact ((h2 a).2 z').1, by rw [hk a z']; exact ((h2 a).2 z').2⟩
theorem Rep.keepExt (h : Rep K B H R σ Δ) (e : Same H H') : Keep R H H' := by
  obtain ⟨F, h1, h2⟩ := h.fp
  exact fun a z => h2.keep e a (List.mem_append_right _ z)
theorem Rep.set {x : Option V} {d : Option T} (h : Rep K B H (G ++ R) σ Δ) (r : RpO K B H x d G) : Rep K B H R (σ.set i x) (Δ.set i d) := by
  by_cases hi : i < Δ.length
  · obtain ⟨F, h1, h2⟩ := h.fp
    obtain ⟨x0, F1, Fi, F2, e1, e2, r0, k⟩ := h1.at_ (i := i) (d := Δ[i]) (by simp [hi])
    refine ⟨h.sub, _, k x d G r, h2.of_le fun a => ?_⟩
    subst e2
    simp only [List.count_append]; omega
  · have hl := h.len
    rw [List.set_eq_of_length_le (by omega), List.set_eq_of_length_le (by omega)]
    exact h.drop
theorem set_same {σ : Sg} {i : Nat} {x : Option V} (h : σ[i]? = some x) : σ.set i x = σ := by
  obtain ⟨hi, e⟩ := List.getElem?_eq_some_iff.mp h
  rw [← e]; exact List.set_getElem_self hi
theorem Rep.out (h : Rep K B H R σ Δ) (e : Δ[i]? = some (some t)) : ∃ v G, σ[i]? = some (some v) ∧ Rp K B H v t G ∧ Rep K B H (G ++ R) σ (Δ.set i none) := by
  obtain ⟨F, h1, h2⟩ := h.fp
  obtain ⟨x, F1, Fi, F2, e1, e2, r, k⟩ := h1.at_ e
  cases x with
  | none => exact r.elim
  | some v =>
    have k' := k (some v) none [] rfl
    rw [set_same e1] at k'
    refine ⟨v, Fi, e1, r, h.sub, _, k', h2.of_le fun a => ?_⟩
    subst e2
    simp only [List.count_append]; simp; omega
/-- frozen -/
theorem Rep.frzT (h : Rep K B H (G ++ R) σ Δ) (r : Rp K B H v t G) : ∃ B', Le B B' ∧ Rep K B' H R σ Δ ∧ Rp K B' H v (frz t) [] := by
  obtain ⟨F, h1, h2⟩ := h.fp
  have hle : Le B (fun a => if a ∈ G then H a else B a) := Le.of_same fun a o e => by
    have hn : a ∉ G := fun z => by
      have := ((h2 a).2 (List.mem_append_right _ (List.mem_append_left _ z))).1
      rw [e] at this; cases this
    show (if a ∈ G then H a else B a) = some o
    rw [if_neg hn]; exact e
  refine ⟨fun a => if a ∈ G then H a else B a, hle, ⟨fun a o e => ?_, F, h1.mono hle fun _ _ => rfl, fun a => ?_⟩, r.fr hle fun a z => if_pos z⟩
  · have e' : (if a ∈ G then H a else B a) = some o := e
    by_cases z : a ∈ G
    · rw [if_pos z] at e'; exact e'
    · rw [if_neg z] at e'; exact h.sub a o e'
  · have hc := (h2 a).1
    simp only [List.count_append] at hc
    refine ⟨by simp only [List.count_append]; omega, fun z => ?_⟩
    have hn : a ∉ G := fun y => by
      have h3 := List.count_pos_iff.mpr y
      have h4 := List.count_pos_iff.mpr z
      simp only [List.count_append] at h4
      omega
    have z' : a ∈ F ++ (G ++ R) := by
      rcases List.mem_append.mp z with z | z
      · exact List.mem_append_left _ z
      · exact List.mem_append_right _ (List.mem_append_right _ z)
    exact ⟨by show (if a ∈ G then H a else B a) = none; rw [if_neg hn]; exact ((h2 a).2 z').1, ((h2 a).2 z').2⟩
theorem Rep.frzS (h : Rep K B H R σ Δ) (e : Δ[i]? = some (some t)) : ∃ B' v, Le B B' ∧ σ[i]? = some (some v) ∧ Rep K B' H R σ (Δ.set i (some (frz t))) ∧ Rp K B' H v (frz t) [] := by
  obtain ⟨v, G, e1, r, h1⟩ := h.out e
  obtain ⟨B', hle, h2, r'⟩ := h1.frzT r
  have hi : i < Δ.length := (List.getElem?_eq_some_iff.mp e).1
  have h3 := Rep.set (i := i) (x := some v) (d := some (frz t)) (G := []) (R := R) (σ := σ) (Δ := Δ.set i none) h2 r'
  rw [set_same e1, List.set_set] at h3
  exact ⟨B', v, hle, e1, h3, r'⟩
end

/-! ### judgements -/
/-- what an expression comes to: a tree, or the name in a slot -/
inductive PV where
  | val (t : T) | pl (i : Nat)
abbrev WE := Dt → (PV → Dt → Prop) → Prop
abbrev WT := Dt → (Bool → Dt → Prop) → Prop
abbrev WA := Dt → (List PV → Dt → Prop) → Prop
structure EndsD where
  nx : Dt → Prop
  rt : T → Dt → Prop
  bk : Dt → Prop := fun _ => False
  ct : Dt → Prop := fun _ => False
  /-- an exception leaves: its class's name, its fields -/
  ex : Str → List (Str × T) → Dt → Prop := fun _ _ _ => False
abbrev WS := EndsD → Dt → Prop

def look (Δ : Dt) (i : Nat) (k : T → Prop) : Prop := match Δ[i]? with
  | some (some t) => k t
  | _ => False
def onV (Δ : Dt) (p : PV) (k : T → Prop) : Prop := match p with
  | .val t => k t
  | .pl i => look Δ i k
def onVs (Δ : Dt) (ps : List PV) (k : List T → Prop) : Prop := match ps with
  | [] => k []
  | p :: r => onV Δ p fun t => onVs Δ r fun ts => k (t :: ts)
theorem look_iff {Δ : Dt} {i : Nat} {k : T → Prop} (h : look Δ i k) : ∃ t, Δ[i]? = some (some t) ∧ k t := by
  unfold look at h
  split at h
  · exact ⟨_, by assumption, h⟩
  · exact h.elim
def PvR (K : Frag) (B H : Hp) (σ : Sg) (p : PV) (v : V) (G : List Addr) : Prop := match p with
  | .val t => Rp K B H v t G
  | .pl i => G = [] ∧ σ[i]? = some (some v)
def Out (K : Frag) (B H : Hp) (R : List Addr) (σ : Sg) (Δ : Dt) (p : PV) (v : V) : Prop := ∃ G, PvR K B H σ p v G ∧ Rep K B H (G ++ R) σ Δ
inductive PvL (K : Frag) (B H : Hp) (σ : Sg) : List PV → List V → List Addr → Prop
  | nil : PvL K B H σ [] [] []
  | cons {p : PV} {ps : List PV} {v : V} {vs : List V} {F G : List Addr} : PvR K B H σ p v F → PvL K B H σ ps vs G → PvL K B H σ (p :: ps) (v :: vs) (F ++ G)
def OutL (K : Frag) (B H : Hp) (R : List Addr) (σ : Sg) (Δ : Dt) (ps : List PV) (vs : List V) : Prop := ∃ G, PvL K B H σ ps vs G ∧ Rep K B H (G ++ R) σ Δ

def RfE (K : Frag) (te : TE) (w : WE) : Prop := ∀ (Δ : Dt) (Q : PV → Dt → Prop) (σ : Sg) (H B : Hp) (R : List Addr), Rep K B H R σ Δ → w Δ Q → ∀ Qv : VK,
  (∀ p Δ' v H' B', Q p Δ' → Le B B' → Keep R H H' → Out K B' H' R σ Δ' p v → Qv v H') → te σ H Qv
def RfT (K : Frag) (tt : TT) (w : WT) : Prop := ∀ (Δ : Dt) (Q : Bool → Dt → Prop) (σ : Sg) (H B : Hp) (R : List Addr), Rep K B H R σ Δ → w Δ Q → ∀ Qv : Bool → Hp → Prop,
  (∀ b Δ' H' B', Q b Δ' → Le B B' → Keep R H H' → Rep K B' H' R σ Δ' → Qv b H') → tt σ H Qv
def RfA (K : Frag) (ta : TA) (w : WA) : Prop := ∀ (Δ : Dt) (Q : List PV → Dt → Prop) (σ : Sg) (H B : Hp) (R : List Addr), Rep K B H R σ Δ → w Δ Q → ∀ Qv : List V → Hp → Prop,
  (∀ ps Δ' vs H' B', Q ps Δ' → Le B B' → Keep R H H' → OutL K B' H' R σ Δ' ps vs → Qv vs H') → ta σ H Qv
structure CE (X : Cx) (e : Expr) (w : WE) : Prop where
  ex : ∃ te, PE X e te ∧ RfE X.K te w
structure CT (X : Cx) (e : Expr) (w : WT) : Prop where
  ex : ∃ tt, PT X e tt ∧ RfT X.K tt w
structure CW (X : Cx) (e : Expr) (w : WT) : Prop where
  ex : ∃ tt, PW X e tt ∧ RfT X.K tt w
structure CA (X : Cx) (es : List Expr) (w : WA) : Prop where
  ex : ∃ ta, PA X es ta ∧ RfA X.K ta w
/-- np: the first np slots are never stored to -/
def Fin (K : Frag) (B : Hp) (H : Hp) (R : List Addr) (np : Nat) (σ : Sg) (B' H' : Hp) (σ' : Sg) : Prop := Le B B' ∧ Keep R H H' ∧ ∀ j, j < np → σ'[j]? = σ[j]?
/-- the dict of an exception that leaves -/
def ExR (K : Frag) (B H : Hp) (fs : List (Str × T)) : Option Addr → Prop
  | none => fs = []
  | some d => ∃ fv, B d = some (.xd fv) ∧ fv.map (·.1) = fs.map (·.1) ∧ RpL K B H (fv.map (·.2)) (fs.map (·.2)) []
def RfS (K : Frag) (np : Nat) (W : WX) (ts : TS) (w : WS) : Prop := ∀ (D : EndsD) (Δ : Dt) (σ : Sg) (H B : Hp) (R : List Addr), Rep K B H R σ Δ → w D Δ → ∀ E : Ends,
  (∀ Δ' σ' H' B', D.nx Δ' → Fin K B H R np σ B' H' σ' → Rep K B' H' R σ' Δ' → E.nx σ' H') →
  (∀ t Δ' σ' v H' B' G, D.rt t Δ' → Fin K B H R np σ B' H' σ' → Rp K B' H' v t G → Rep K B' H' (G ++ R) σ' Δ' → E.rt v H') →
  (∀ Δ' σ' H' B', D.bk Δ' → Fin K B H R np σ B' H' σ' → Rep K B' H' R σ' Δ' → E.bk σ' H') →
  (∀ Δ' σ' H' B', D.ct Δ' → Fin K B H R np σ B' H' σ' → Rep K B' H' R σ' Δ' → E.ct σ' H') →
  (∀ x fs Δ' σ' od H' B', D.ex x fs Δ' → Fin K B H R np σ B' H' σ' → Rep K B' H' R σ' Δ' → ExR K B' H' fs od → W (.ref (clsOf K x)) od σ' H') → ts E σ H
structure CS (X : Cx) (np : Nat) (st : Stmt) (w : WS) : Prop where
  ex : ∀ W : WX, L2N.Takes X W → ∃ ts, PS X st ts ∧ RfS X.K np W ts w
structure CSs (X : Cx) (np : Nat) (st : List Stmt) (w : WS) : Prop where
  ex : ∀ W : WX, L2N.Takes X W → ∃ ts, PSs X st ts ∧ RfS X.K np W ts w

section
variable {K : Frag} {B B' B1 B2 H H' H1 H2 : Hp} {R R' G : List Addr} {σ σ1 σ2 : Sg} {Δ : Dt} {v : V} {t : T} {i : Nat} {p : PV} {np : Nat}
theorem Fin.refl : Fin K B H R np σ B H σ := ⟨Le.refl B, Keep.refl, fun _ _ => rfl⟩
theorem Fin.trans (h : Fin K B H R np σ B1 H1 σ1) (k : Fin K B1 H1 R np σ1 B2 H2 σ2) : Fin K B H R np σ B2 H2 σ2 :=
  ⟨h.1.trans k.1, h.2.1.trans k.2.1, fun j hj => (k.2.2 j hj).trans (h.2.2 j hj)⟩
theorem Fin.of (h : Le B B') (k : Keep R H H') : Fin K B H R np σ B' H' σ := ⟨h, k, fun _ _ => rfl⟩
theorem PvR.mono (hB : Le B B') (h : PvR K B H σ p v G) (k : Keep G H H') : PvR K B' H' σ p v G := by
  cases p with
  | val t => exact Rp.mono hB h k
  | pl i => exact h
theorem PvL.mono (hB : Le B B') : ∀ {ps : List PV} {vs : List V} {G : List Addr}, PvL K B H σ ps vs G → Keep G H H' → PvL K B' H' σ ps vs G
  | _, _, _, .nil, _ => .nil
  | _, _, _, .cons h1 h2, k => .cons (h1.mono hB k.left) (h2.mono hB k.right)
/-- the tree that stands for it now -/
theorem PvR.tree {k : T → Prop} (h : PvR K B H σ p v G) (r : Rep K B H R σ Δ) (o : onV Δ p k) : ∃ t F, Rp K B H v t F ∧ k t := by
  cases p with
  | val t => exact ⟨t, G, h, o⟩
  | pl i =>
    obtain ⟨t, e, q⟩ := look_iff o
    obtain ⟨v', F, e1, r1⟩ := r.get e
    rw [h.2] at e1
    cases e1
    exact ⟨t, F, r1, q⟩
theorem PvL.trees : ∀ {ps : List PV} {vs : List V} {G : List Addr} {k : List T → Prop}, PvL K B H σ ps vs G → Rep K B H R σ Δ → onVs Δ ps k → ∃ ts F, RpL K B H vs ts F ∧ k ts
  | _, _, _, k, .nil, _, o => ⟨[], [], .nil, o⟩
  | _, _, _, k, .cons h1 h2, r, o => by
    obtain ⟨t, F, r1, q⟩ := h1.tree r o
    obtain ⟨ts, F2, r2, q2⟩ := PvL.trees h2 r q
    exact ⟨t :: ts, F ++ F2, .cons r1 r2, q2⟩
end
end TL

set_option maxRecDepth 100000
set_option maxHeartbeats 1000000
namespace TL
open PySem PySem.Spec PyProof.Rows L2

/-! ### lifting -/
def LOp (K : Frag) (r : R2) (g : T → T → (T → Prop) → Prop) : Prop := ∀ (B H : Hp) (x y : V) (tx ty : T) (Fx Fy : List Addr), Sub B H → Rp K B H x tx Fx → Rp K B H y ty Fy →
  ∀ Q : T → Prop, g tx ty Q → ∀ Qv : VK, (∀ v t H' B' G, Q t → Gro B H B' H' G → Rp K B' H' v t G → Qv v H') → r x y H Qv
def LUn (K : Frag) (r : V → Hp → VK → Prop) (g : T → (T → Prop) → Prop) : Prop := ∀ (B H : Hp) (x : V) (tx : T) (Fx : List Addr), Sub B H → Rp K B H x tx Fx →
  ∀ Q : T → Prop, g tx Q → ∀ Qv : VK, (∀ v t H' B' G, Q t → Gro B H B' H' G → Rp K B' H' v t G → Qv v H') → r x H Qv
def LCl (K : Frag) (r : List V → Hp → VK → Prop) (g : List T → (T → Prop) → Prop) : Prop := ∀ (B H : Hp) (xs : List V) (ts : List T) (F : List Addr), Sub B H → RpL K B H xs ts F →
  ∀ Q : T → Prop, g ts Q → ∀ Qv : VK, (∀ v t H' B' G, Q t → Gro B H B' H' G → Rp K B' H' v t G → Qv v H') → r xs H Qv

def wV (i : Nat) : WE := fun Δ Q => look Δ i fun _ => Q (.pl i) Δ
def wC (t : T) : WE := fun Δ Q => Q (.val t) Δ
def wOp (g : T → T → (T → Prop) → Prop) (wa wb : WE) : WE := fun Δ Q => wa Δ fun p Δ1 => wb Δ1 fun q Δ2 => onV Δ2 p fun x => onV Δ2 q fun y => g x y fun t => Q (.val t) Δ2
def wUn (g : T → (T → Prop) → Prop) (wa : WE) : WE := fun Δ Q => wa Δ fun p Δ1 => onV Δ1 p fun x => g x fun t => Q (.val t) Δ1
def wCl (g : List T → (T → Prop) → Prop) (wa : WA) : WE := fun Δ Q => wa Δ fun ps Δ1 => onVs Δ1 ps fun ts => g ts fun t => Q (.val t) Δ1
def wNil : WA := fun Δ Q => Q [] Δ
def wCons (wa : WE) (wr : WA) : WA := fun Δ Q => wa Δ fun p Δ1 => wr Δ1 fun ps Δ2 => Q (p :: ps) Δ2

section
variable {K : Frag} {te ta tb : TE} {wa wb w : WE} {t : T} {v : V} {i : Nat}
theorem rf_var : RfE K (tVar i) (wV i) := fun Δ Q σ H B R hr hw Qv k => by
  obtain ⟨t, e, q⟩ := look_iff hw
  obtain ⟨v, G, e1, r⟩ := hr.get e
  exact ⟨v, e1, k (.pl i) Δ v H B q (Le.refl B) Keep.refl ⟨[], ⟨rfl, e1⟩, hr⟩⟩
theorem rf_c (h : ∀ B H, Rp K B H v t []) : RfE K (tC v) (wC t) := fun Δ Q σ H B R hr hw Qv k => k (.val t) Δ v H B hw (Le.refl B) Keep.refl ⟨[], h B H, hr⟩
theorem rf_op {r : R2} {g : T → T → (T → Prop) → Prop} (ho : LOp K r g) (ha : RfE K ta wa) (hb : RfE K tb wb) : RfE K (tOp r ta tb) (wOp g wa wb) := fun Δ Q σ H B R hr hw Qv k => by
  refine ha Δ _ σ H B R hr hw _ fun p Δ1 x H1 B1 hq hl1 hk1 ⟨G1, pr1, hr1⟩ => ?_
  refine hb Δ1 _ σ H1 B1 (G1 ++ R) hr1 hq _ fun q Δ2 y H2 B2 hq2 hl2 hk2 ⟨G2, pr2, hr2⟩ => ?_
  have pr1' := pr1.mono hl2 hk2.left
  obtain ⟨tx, Fx, rx, o2⟩ := pr1'.tree hr2 hq2
  obtain ⟨ty, Fy, ry, o3⟩ := pr2.tree hr2 o2
  refine ho B2 H2 x y tx ty Fx Fy hr2.sub rx ry _ o3 Qv fun v t H3 B3 G hQ he hv => ?_
  have hr3 : Rep K B2 H2 R σ Δ2 := hr2.drop.drop
  exact k (.val t) Δ2 v H3 B3 hQ ((hl1.trans hl2).trans he.2.1) ((hk1.trans hk2.right).trans (hr3.keepExt he.1)) ⟨G, hv, hr3.gro he⟩
theorem rf_un {r : V → Hp → VK → Prop} {g : T → (T → Prop) → Prop} (ho : LUn K r g) (ha : RfE K ta wa) : RfE K (tUn r ta) (wUn g wa) := fun Δ Q σ H B R hr hw Qv k => by
  refine ha Δ _ σ H B R hr hw _ fun p Δ1 x H1 B1 hq hl1 hk1 ⟨G1, pr1, hr1⟩ => ?_
  obtain ⟨tx, Fx, rx, o2⟩ := pr1.tree hr1 hq
  refine ho B1 H1 x tx Fx hr1.sub rx _ o2 Qv fun v t H3 B3 G hQ he hv => ?_
  have hr3 : Rep K B1 H1 R σ Δ1 := hr1.drop
  exact k (.val t) Δ1 v H3 B3 hQ (hl1.trans he.2.1) (hk1.trans (hr3.keepExt he.1)) ⟨G, hv, hr3.gro he⟩
theorem rf_nil : RfA K tNil wNil := fun Δ Q σ H B R hr hw Qv k => k [] Δ [] H B hw (Le.refl B) Keep.refl ⟨[], .nil, hr⟩
theorem rf_cons {tr : TA} {wr : WA} (ha : RfE K ta wa) (hb : RfA K tr wr) : RfA K (tCons ta tr) (wCons wa wr) := fun Δ Q σ H B R hr hw Qv k => by
  refine ha Δ _ σ H B R hr hw _ fun p Δ1 x H1 B1 hq hl1 hk1 ⟨G1, pr1, hr1⟩ => ?_
  refine hb Δ1 _ σ H1 B1 (G1 ++ R) hr1 hq _ fun ps Δ2 vs H2 B2 hq2 hl2 hk2 ⟨G2, pr2, hr2⟩ => ?_
  refine k (p :: ps) Δ2 (x :: vs) H2 B2 hq2 (hl1.trans hl2) (hk1.trans hk2.right) ⟨G1 ++ G2, .cons (pr1.mono hl2 hk2.left) pr2, hr2.weak fun a => ?_⟩
  simp only [List.count_append]; omega
theorem rf_cl {r : List V → Hp → VK → Prop} {g : List T → (T → Prop) → Prop} {tr : TA} {wr : WA} (ho : LCl K r g) (ha : RfA K tr wr) : RfE K (tCB r tr) (wCl g wr) := fun Δ Q σ H B R hr hw Qv k => by
  refine ha Δ _ σ H B R hr hw _ fun ps Δ1 xs H1 B1 hq hl1 hk1 ⟨G1, pr1, hr1⟩ => ?_
  obtain ⟨ts, F, rx, o2⟩ := pr1.trees hr1 hq
  refine ho B1 H1 xs ts F hr1.sub rx _ o2 Qv fun v t H3 B3 G hQ he hv => ?_
  have hr3 : Rep K B1 H1 R σ Δ1 := hr1.drop
  exact k (.val t) Δ1 v H3 B3 hQ (hl1.trans he.2.1) (hk1.trans (hr3.keepExt he.1)) ⟨G, hv, hr3.gro he⟩
end

section
variable {X : Cx} {a b c e : Expr} {es : List Expr} {wa wb wc w : WE} {pos : Pos} {wr : WA}
theorem ce_var (i : Nat) {x : Str} (hN : X.N[i]? = some x := by rfl) (hv : Vis X.env.scope x := by first | exact Or.inl rfl | exact Or.inr (Or.inl rfl) | exact Or.inr (Or.inr rfl)) (hd : (x == ("__debug__" : Str)) = false := by decide)
    (hcd : (x == ("__classdict__" : Str)) = false := by decide) : CE X (.Name x pos) (wV i) := ⟨_, pe_var hN hv hd hcd, rf_var⟩
theorem ce_of {te : TE} (h : PE X e te) {w : WE} (r : RfE X.K te w) : CE X e w := ⟨te, h, r⟩
theorem ce_int {i j} : CE X (.Constant (.int i) j pos) (wC (.int i)) := ⟨_, pe_int, rf_c fun _ _ => .int i⟩
theorem ce_bl {i j} : CE X (.Constant (.bool i) j pos) (wC (.bl i)) := ⟨_, pe_bl, rf_c fun _ _ => .bl i⟩
theorem ce_non {j} : CE X (.Constant .none j pos) (wC .non) := ⟨_, pe_non, rf_c fun _ _ => .non⟩
theorem ce_str {x j} : CE X (.Constant (.str x) j pos) (wC (.str x)) := ⟨_, pe_str, rf_c fun _ _ => .str x⟩
theorem ce_glob {x : Str} {v : V} {u : Value} {t : T} (hg : Gl X x) (hm : X.mg x = some u) (r : RelV v u) (h : ∀ B H, Rp X.K B H v t []) (hd : (x == ("__debug__" : Str)) = false := by decide) : CE X (.Name x pos) (wC t) :=
  ⟨_, pe_glob hg hm r hd, rf_c h⟩
theorem ce_bltn {x : Str} {v : V} {u : Value} {t : T} (hg : Gl X x) (hm : X.mg x = none) (hv : bootBuiltins x = some u) (r : RelV v u) (h : ∀ B H, Rp X.K B H v t []) (hn : x ≠ "__name__" := by decide) (hd : (x == ("__debug__" : Str)) = false := by decide) :
    CE X (.Name x pos) (wC t) := ⟨_, pe_bltn hg hm hv r hn hd, rf_c h⟩
theorem ce_op {op : Operator} {r : R2} {g : T → T → (T → Prop) → Prop} (ho : OpR X (binaryOp op) r) (hl : LOp X.K r g) (ha : CE X a wa) (hb : CE X b wb) : CE X (.BinOp a op b pos) (wOp g wa wb) := by
  obtain ⟨ta, pa, ra⟩ := ha
  obtain ⟨tb, pb, rb⟩ := hb
  exact ⟨_, pe_op ho pa pb, rf_op hl ra rb⟩
theorem ce_un {op : UnaryOp} {r : V → Hp → VK → Prop} {g : T → (T → Prop) → Prop} (ho : UnR X (unaryOp op) r) (hl : LUn X.K r g) (ha : CE X a wa) : CE X (.UnaryOp op a pos) (wUn g wa) := by
  obtain ⟨ta, pa, ra⟩ := ha
  exact ⟨_, pe_un ho pa, rf_un hl ra⟩
theorem ca_nil : CA X [] wNil := ⟨_, pa_nil, rf_nil⟩
theorem ca_cons (ha : CE X e wa) (hr : CA X es wr) (hs : starEach (e :: es) X.env = (false, eval e X.env) :: starEach es X.env := by rfl) : CA X (e :: es) (wCons wa wr) := by
  obtain ⟨ta, pa, ra⟩ := ha
  obtain ⟨tr, pr, rr⟩ := hr
  exact ⟨_, pa_cons pa pr hs, rf_cons ra rr⟩
theorem ce_callB {x : Str} {p : Pos} {id : String} {r : List V → Hp → VK → Prop} {g : List T → (T → Prop) → Prop} (hc : CallR X (.builtin id) r) (hl : LCl X.K r g) (hg : Gl X x) (hm : X.mg x = none) (hv : bootBuiltins x = some (.builtin id)) (ha : CA X (e :: es) wr) (hn : x ≠ "__name__" := by decide)
    (hdb : (x == ("__debug__" : Str)) = false := by decide) (he : starEach (e :: es) X.env = (false, eval e X.env) :: starEach es X.env := by rfl) (hpl : (backTo pos (starEach es X.env)).any (·.1) = false := by rfl) : CE X (.Call (.Name x p) (e :: es) [] pos) (wCl g wr) := by
  obtain ⟨ta, pa, ra⟩ := ha
  exact ⟨_, pe_callB hc hg hm hv pa hn hdb he hpl, rf_cl hl ra⟩
theorem ce_callTy {x : Str} {p : Pos} {T' : String} {r : List V → Hp → VK → Prop} {g : List T → (T → Prop) → Prop} (hc : CallR X (.type T') r) (hl : LCl X.K r g) (hg : Gl X x) (hm : X.mg x = none) (hv : bootBuiltins x = some (.type T')) (ha : CA X (e :: es) wr) (hn : x ≠ "__name__" := by decide)
    (hdb : (x == ("__debug__" : Str)) = false := by decide) (he : starEach (e :: es) X.env = (false, eval e X.env) :: starEach es X.env := by rfl) (hpl : (backTo pos (starEach es X.env)).any (·.1) = false := by rfl) : CE X (.Call (.Name x p) (e :: es) [] pos) (wCl g wr) := by
  obtain ⟨ta, pa, ra⟩ := ha
  exact ⟨_, pe_callTy hc hg hm hv pa hn hdb he hpl, rf_cl hl ra⟩
end

/-! ### tests -/
def wTest (w : WE) : WT := fun Δ Q => w Δ fun p Δ1 => onV Δ1 p fun t => match t with
  | .bl b => Q b Δ1
  | _ => False
def truT : T → (Bool → Prop) → Prop
  | .non, k => k false
  | .bl b, k => k b
  | .int i, k => k (i != 0)
  | .str y, k => y.length ≤ sizeLine ∧ k ((y.length : Int) != 0)
  | .lst _ xs, k => k (!xs.isEmpty)
  | .tup xs, k => k (!xs.isEmpty)
  | _, _ => False
def wTru (w : WE) : WT := fun Δ Q => w Δ fun p Δ1 => onV Δ1 p fun t => truT t fun b => Q b Δ1
def wAnd (a b : WT) : WT := fun Δ Q => a Δ fun c Δ1 => if c = true then b Δ1 Q else Q false Δ1
def wOr (a b : WT) : WT := fun Δ Q => a Δ fun c Δ1 => if c = true then Q true Δ1 else b Δ1 Q
def wNot (a : WT) : WT := fun Δ Q => a Δ fun c Δ1 => Q (!c) Δ1
def wAndV (a b : WE) : WE := fun Δ Q => a Δ fun p Δ1 => onV Δ1 p fun t => match t with
  | .bl c => if c = true then b Δ1 Q else Q (.val (.bl false)) Δ1
  | _ => False
def wOrV (a b : WE) : WE := fun Δ Q => a Δ fun p Δ1 => onV Δ1 p fun t => match t with
  | .bl c => if c = true then Q (.val (.bl true)) Δ1 else b Δ1 Q
  | _ => False
def wNotV (a : WE) : WE := fun Δ Q => a Δ fun p Δ1 => onV Δ1 p fun t => match t with
  | .bl c => Q (.val (.bl (!c))) Δ1
  | _ => False
def wIf (c : WT) (a b : WE) : WE := fun Δ Q => c Δ fun k Δ1 => if k = true then a Δ1 Q else b Δ1 Q
section
variable {K : Frag} {te ta tb : TE} {wa wb w : WE} {tt t1 t2 : TT} {wt w1 w2 : WT}
theorem Rp.bl_inv {B H : Hp} {v : V} {b : Bool} {F : List Addr} (h : Rp K B H v (.bl b) F) : v = .bl b ∧ F = [] := by cases h; exact ⟨rfl, rfl⟩
theorem Rp.int_inv {B H : Hp} {v : V} {b : Int} {F : List Addr} (h : Rp K B H v (.int b) F) : v = .int b ∧ F = [] := by cases h; exact ⟨rfl, rfl⟩
theorem Rp.str_inv {B H : Hp} {v : V} {b : Str} {F : List Addr} (h : Rp K B H v (.str b) F) : v = .str b ∧ F = [] := by cases h; exact ⟨rfl, rfl⟩
theorem Rp.non_inv {B H : Hp} {v : V} {F : List Addr} (h : Rp K B H v .non F) : v = .non ∧ F = [] := by cases h; exact ⟨rfl, rfl⟩
theorem Sub.le {B H : Hp} (h : Sub B H) : Le B H := fun a o e => .inl (h a o e)
theorem Rp.lst_rd {B H : Hp} {v : V} {o : Bool} {ts : List T} {F : List Addr} (hs : Sub B H) (h : Rp K B H v (.lst o ts) F) : ∃ a vs F', v = .ref a ∧ RdL K H a vs ∧ RpL K B H vs ts F' := by
  cases h with
  | lstF h1 h2 => exact ⟨_, _, _, rfl, hs.le.rdL h1, h2⟩
  | lstO h1 h2 => exact ⟨_, _, _, rfl, .inl (.inl h1), h2⟩
theorem Rp.lst_inv {B H : Hp} {v : V} {o : Bool} {ts : List T} {F : List Addr} (hs : Sub B H) (h : Rp K B H v (.lst o ts) F) : ∃ a vs F', v = .ref a ∧ SqL K H a vs ∧ RpL K B H vs ts F' := by
  obtain ⟨a, vs, F', e, h1, h2⟩ := h.lst_rd hs
  exact ⟨a, vs, F', e, h1.sq, h2⟩
theorem Rp.tup_inv {B H : Hp} {v : V} {ts : List T} {F : List Addr} (hs : Sub B H) (h : Rp K B H v (.tup ts) F) : ∃ a vs, v = .ref a ∧ SqT K H a vs ∧ RpL K B H vs ts F := by
  cases h with
  | tup h1 h2 => exact ⟨_, _, rfl, hs.le.sqT h1, h2⟩
theorem RpL.c0 {B H : Hp} {vs : List V} {ts : List T} {F : List Addr} (h : RpL K B H vs ts F) (hc : closedL ts = true) : RpL K B H vs ts [] := by
  have e := h.nil_of_closed hc
  subst e; exact h
theorem Rp.c0 {B H : Hp} {v : V} {t : T} {F : List Addr} (h : Rp K B H v t F) (hc : closed t = true) : Rp K B H v t [] := by
  have e := h.nil_of_closed hc
  subst e; exact h
theorem rf_test (h : RfE K te w) : RfT K (tTest te) (wTest w) := fun Δ Q σ H B R hr hw Qv k => by
  refine h Δ _ σ H B R hr hw _ fun p Δ1 x H1 B1 hq hl1 hk1 ⟨G1, pr1, hr1⟩ => ?_
  obtain ⟨t, F, rx, o⟩ := pr1.tree hr1 hq
  cases t with
  | bl b => exact ⟨b, rx.bl_inv.1, k b Δ1 H1 B1 o hl1 hk1 hr1.drop⟩
  | _ => exact o.elim
theorem rf_testB (h : RfE K te w) : RfT K (tB te) (wTest w) := rf_test h
theorem isEmpty_of_len {α β : Type} {xs : List α} {ys : List β} (h : xs.length = ys.length) : (!xs.isEmpty) = !ys.isEmpty := by
  cases xs <;> cases ys <;> simp at h ⊢
theorem rf_tru (h : RfE K te w) : RfT K (fun σ H Q => te σ H fun x H' => ∃ k, TruV K x H' k ∧ Q k H') (wTru w) := fun Δ Q σ H B R hr hw Qv k => by
  refine h Δ _ σ H B R hr hw _ fun p Δ1 x H1 B1 hq hl1 hk1 ⟨G1, pr1, hr1⟩ => ?_
  obtain ⟨t, F, rx, o⟩ := pr1.tree hr1 hq
  have fin : ∀ b, Q b Δ1 → Qv b H1 := fun b q => k b Δ1 H1 B1 q hl1 hk1 hr1.drop
  cases t with
  | non => obtain ⟨rfl, _⟩ := rx.non_inv; exact ⟨false, rfl, fin _ o⟩
  | bl b => obtain ⟨rfl, _⟩ := rx.bl_inv; exact ⟨b, rfl, fin _ o⟩
  | int b => obtain ⟨rfl, _⟩ := rx.int_inv; exact ⟨_, rfl, fin _ o⟩
  | str b => obtain ⟨rfl, _⟩ := rx.str_inv; exact ⟨_, ⟨o.1, rfl⟩, fin _ o.2⟩
  | lst c ts => obtain ⟨a, vs, F', rfl, hs, hl⟩ := rx.lst_inv hr1.sub; exact ⟨_, .inl ⟨vs, hs, rfl⟩, by rw [isEmpty_of_len hl.length]; exact fin _ o⟩
  | tup ts => obtain ⟨a, vs, rfl, hs, hl⟩ := rx.tup_inv hr1.sub; exact ⟨_, .inr (.inl ⟨vs, hs, rfl⟩), by rw [isEmpty_of_len hl.length]; exact fin _ o⟩
  | _ => exact o.elim
theorem rf_and (h1 : RfT K t1 w1) (h2 : RfT K t2 w2) : RfT K (tAnd t1 t2) (wAnd w1 w2) := fun Δ Q σ H B R hr hw Qv k => by
  refine h1 Δ _ σ H B R hr hw _ fun b Δ1 H1 B1 hq hl1 hk1 hr1 => ?_
  cases b with
  | true => exact h2 Δ1 _ σ H1 B1 R hr1 hq _ fun b Δ2 H2 B2 hq2 hl2 hk2 hr2 => k b Δ2 H2 B2 hq2 (hl1.trans hl2) (hk1.trans hk2) hr2
  | false => exact k false Δ1 H1 B1 hq hl1 hk1 hr1
theorem rf_or (h1 : RfT K t1 w1) (h2 : RfT K t2 w2) : RfT K (tOr t1 t2) (wOr w1 w2) := fun Δ Q σ H B R hr hw Qv k => by
  refine h1 Δ _ σ H B R hr hw _ fun b Δ1 H1 B1 hq hl1 hk1 hr1 => ?_
  cases b with
  | false => exact h2 Δ1 _ σ H1 B1 R hr1 hq _ fun b Δ2 H2 B2 hq2 hl2 hk2 hr2 => k b Δ2 H2 B2 hq2 (hl1.trans hl2) (hk1.trans hk2) hr2
  | true => exact k true Δ1 H1 B1 hq hl1 hk1 hr1
theorem rf_not (h1 : RfT K t1 w1) : RfT K (tNot t1) (wNot w1) := fun Δ Q σ H B R hr hw Qv k => h1 Δ _ σ H B R hr hw _ fun b Δ1 H1 B1 hq hl1 hk1 hr1 => k _ Δ1 H1 B1 hq hl1 hk1 hr1
theorem rf_andV (ha : RfE K ta wa) (hb : RfE K tb wb) : RfE K (tAndV ta tb) (wAndV wa wb) := fun Δ Q σ H B R hr hw Qv k => by
  refine ha Δ _ σ H B R hr hw _ fun p Δ1 x H1 B1 hq hl1 hk1 ⟨G1, pr1, hr1⟩ => ?_
  obtain ⟨t, F, rx, o⟩ := pr1.tree hr1 hq
  cases t with
  | bl b =>
    refine ⟨b, rx.bl_inv.1, ?_⟩
    cases b with
    | true => exact hb Δ1 _ σ H1 B1 R hr1.drop o _ fun p2 Δ2 y H2 B2 hq2 hl2 hk2 o2 => k p2 Δ2 y H2 B2 hq2 (hl1.trans hl2) (hk1.trans hk2) o2
    | false => exact k _ Δ1 _ H1 B1 o hl1 hk1 ⟨[], .bl false, hr1.drop⟩
  | _ => exact o.elim
theorem rf_orV (ha : RfE K ta wa) (hb : RfE K tb wb) : RfE K (tOrV ta tb) (wOrV wa wb) := fun Δ Q σ H B R hr hw Qv k => by
  refine ha Δ _ σ H B R hr hw _ fun p Δ1 x H1 B1 hq hl1 hk1 ⟨G1, pr1, hr1⟩ => ?_
  obtain ⟨t, F, rx, o⟩ := pr1.tree hr1 hq
  cases t with
  | bl b =>
    refine ⟨b, rx.bl_inv.1, ?_⟩
    cases b with
    | false => exact hb Δ1 _ σ H1 B1 R hr1.drop o _ fun p2 Δ2 y H2 B2 hq2 hl2 hk2 o2 => k p2 Δ2 y H2 B2 hq2 (hl1.trans hl2) (hk1.trans hk2) o2
    | true => exact k _ Δ1 _ H1 B1 o hl1 hk1 ⟨[], .bl true, hr1.drop⟩
  | _ => exact o.elim
theorem rf_notV (ha : RfE K ta wa) : RfE K (tNotV ta) (wNotV wa) := fun Δ Q σ H B R hr hw Qv k => by
  refine ha Δ _ σ H B R hr hw _ fun p Δ1 x H1 B1 hq hl1 hk1 ⟨G1, pr1, hr1⟩ => ?_
  obtain ⟨t, F, rx, o⟩ := pr1.tree hr1 hq
  cases t with
  | bl b => exact ⟨b, rx.bl_inv.1, k _ Δ1 _ H1 B1 o hl1 hk1 ⟨[], .bl _, hr1.drop⟩⟩
  | _ => exact o.elim
theorem rf_ifE (h : RfT K tt wt) (ha : RfE K ta wa) (hb : RfE K tb wb) : RfE K (tIf tt ta tb) (wIf wt wa wb) := fun Δ Q σ H B R hr hw Qv k => by
  refine h Δ _ σ H B R hr hw _ fun b Δ1 H1 B1 hq hl1 hk1 hr1 => ?_
  cases b with
  | true => exact ha Δ1 _ σ H1 B1 R hr1 hq _ fun p2 Δ2 y H2 B2 hq2 hl2 hk2 o2 => k p2 Δ2 y H2 B2 hq2 (hl1.trans hl2) (hk1.trans hk2) o2
  | false => exact hb Δ1 _ σ H1 B1 R hr1 hq _ fun p2 Δ2 y H2 B2 hq2 hl2 hk2 o2 => k p2 Δ2 y H2 B2 hq2 (hl1.trans hl2) (hk1.trans hk2) o2
end
section
variable {X : Cx} {a b c e : Expr} {es rest : List Expr} {wa wb w : WE} {pos : Pos} {wt w1 w2 : WT}
theorem ct_cmp {op : CmpOp} {r : R2} {g : T → T → (T → Prop) → Prop} (ho : OpR X (compareOp op) r) (hl : LOp X.K r g) (ha : CE X a wa) (hb : CE X b wb) (hm : behindInMarks op b = false) : CT X (.Compare a [op] [b] pos) (wTest (wOp g wa wb)) := by
  obtain ⟨ta, pa, ra⟩ := ha
  obtain ⟨tb, pb, rb⟩ := hb
  exact ⟨_, pt_cmpR ho pa pb hm, rf_test (rf_op hl ra rb)⟩
theorem ce_cmp {op : CmpOp} {r : R2} {g : T → T → (T → Prop) → Prop} (ho : OpR X (compareOp op) r) (hl : LOp X.K r g) (ha : CE X a wa) (hb : CE X b wb) (hm : behindInMarks op b = false) : CE X (.Compare a [op] [b] pos) (wOp g wa wb) := by
  obtain ⟨ta, pa, ra⟩ := ha
  obtain ⟨tb, pb, rb⟩ := hb
  exact ⟨_, pe_cmpR ho pa pb hm, rf_op hl ra rb⟩
theorem ct_val (h : CE X e w) (he : ∀ whole, isTrue e X.env whole = (do let v ← whole; standAt e.pos; holding [v] (truthy v)) := by intro _; rfl) : CT X e (wTest w) := by
  obtain ⟨te, p, r⟩ := h
  exact ⟨_, pt_val p he, rf_testB r⟩
theorem ct_tru (h : CE X e w) (he : ∀ whole, isTrue e X.env whole = (do let v ← whole; standAt e.pos; holding [v] (truthy v)) := by intro _; rfl) : CT X e (wTru w) := by
  obtain ⟨te, p, r⟩ := h
  exact ⟨_, pt_truth p he, rf_tru r⟩
theorem cw_and1 (h : CT X a wt) : CW X (.BoolOp .And [a] pos) wt := by
  obtain ⟨te, p, r⟩ := h
  exact ⟨_, pw_and1 p, r⟩
theorem cw_or1 (h : CT X a wt) : CW X (.BoolOp .Or [a] pos) wt := by
  obtain ⟨te, p, r⟩ := h
  exact ⟨_, pw_or1 p, r⟩
theorem cw_and (h1 : CT X a w1) (h2 : CW X (.BoolOp .And (b :: rest) pos) w2) : CW X (.BoolOp .And (a :: b :: rest) pos) (wAnd w1 w2) := by
  obtain ⟨t1, p1, r1⟩ := h1
  obtain ⟨t2, p2, r2⟩ := h2
  exact ⟨_, pw_and p1 p2, rf_and r1 r2⟩
theorem cw_or (h1 : CT X a w1) (h2 : CW X (.BoolOp .Or (b :: rest) pos) w2) : CW X (.BoolOp .Or (a :: b :: rest) pos) (wOr w1 w2) := by
  obtain ⟨t1, p1, r1⟩ := h1
  obtain ⟨t2, p2, r2⟩ := h2
  exact ⟨_, pw_or p1 p2, rf_or r1 r2⟩
theorem CW.ct (h : CW X e wt) : CT X e wt := by
  obtain ⟨t1, p1, r1⟩ := h
  exact ⟨_, p1.pt, r1⟩
theorem ct_not (h : CT X a wt) : CT X (.UnaryOp .Not a pos) (wNot wt) := by
  obtain ⟨t1, p1, r1⟩ := h
  exact ⟨_, pt_not p1, rf_not r1⟩
theorem ce_one {op} (h : CE X a w) : CE X (.BoolOp op [a] pos) w := by
  obtain ⟨t1, p1, r1⟩ := h
  exact ⟨_, pe_one p1, r1⟩
theorem ce_and (h1 : CE X a wa) (h2 : CE X (.BoolOp .And (b :: rest) pos) wb) : CE X (.BoolOp .And (a :: b :: rest) pos) (wAndV wa wb) := by
  obtain ⟨t1, p1, r1⟩ := h1
  obtain ⟨t2, p2, r2⟩ := h2
  exact ⟨_, pe_and p1 p2, rf_andV r1 r2⟩
theorem ce_or (h1 : CE X a wa) (h2 : CE X (.BoolOp .Or (b :: rest) pos) wb) : CE X (.BoolOp .Or (a :: b :: rest) pos) (wOrV wa wb) := by
  obtain ⟨t1, p1, r1⟩ := h1
  obtain ⟨t2, p2, r2⟩ := h2
  exact ⟨_, pe_or p1 p2, rf_orV r1 r2⟩
theorem ce_not (h1 : CE X a wa) : CE X (.UnaryOp .Not a pos) (wNotV wa) := by
  obtain ⟨t1, p1, r1⟩ := h1
  exact ⟨_, pe_not p1, rf_notV r1⟩
theorem ce_ifE (h : CT X c wt) (ha : CE X a wa) (hb : CE X b wb) : CE X (.IfExp c a b pos) (wIf wt wa wb) := by
  obtain ⟨t, p, r⟩ := h
  obtain ⟨t1, p1, r1⟩ := ha
  obtain ⟨t2, p2, r2⟩ := hb
  exact ⟨_, pe_ifExp p p1 p2, rf_ifE r r1 r2⟩
end
end TL

set_option maxRecDepth 100000
set_option maxHeartbeats 1000000
namespace TL
open PySem PySem.Spec PyProof.Rows L2

/-- the value goes elsewhere: what a name holds is frozen -/
def wTake (p : PV) (Δ : Dt) (k : T → Dt → Prop) : Prop := match p with
  | .val t => k t Δ
  | .pl j => look Δ j fun t => k (frz t) (Δ.set j (some (frz t)))
section
variable {K : Frag} {B H : Hp} {R : List Addr} {σ : Sg} {Δ : Dt} {p : PV} {v : V} {k : T → Dt → Prop}
theorem take_ok (h : Out K B H R σ Δ p v) (w : wTake p Δ k) : ∃ t Δ' B' G, k t Δ' ∧ Le B B' ∧ Rp K B' H v t G ∧ Rep K B' H (G ++ R) σ Δ' := by
  obtain ⟨G, pr, hr⟩ := h
  cases p with
  | val t => exact ⟨t, Δ, B, G, w, Le.refl B, pr, hr⟩
  | pl j =>
    obtain ⟨rfl, e⟩ := pr
    obtain ⟨t, e1, q⟩ := look_iff w
    obtain ⟨B', v', hle, e2, hr', r'⟩ := Rep.frzS hr e1
    rw [e] at e2; cases e2
    exact ⟨_, _, B', [], q, hle, r', hr'⟩
/-- .. and is frozen -/
theorem take_fr (h : Out K B H R σ Δ p v) (w : wTake p Δ k) : ∃ t Δ' B', k t Δ' ∧ Le B B' ∧ Rp K B' H v (frz t) [] ∧ Rep K B' H R σ Δ' := by
  obtain ⟨t, Δ', B', G, q, hle, r, hr⟩ := take_ok h w
  obtain ⟨B2, hle2, hr2, r2⟩ := hr.frzT r
  exact ⟨t, Δ', B2, q, hle.trans hle2, r2, hr2⟩
end

/-! ### targets -/
abbrev WG := T → Dt → (Dt → Prop) → Prop
abbrev WGs := List T → Dt → (Dt → Prop) → Prop
def RfG (K : Frag) (S : Nat → Prop) (g : TG) (w : WG) : Prop := ∀ (t : T) (Δ : Dt) (Q : Dt → Prop) (σ : Sg) (H B : Hp) (R G : List Addr) (v : V), Rep K B H (G ++ R) σ Δ → Rp K B H v t G → w t Δ Q → ∀ Qv : Sg → Hp → Prop,
  (∀ Δ' σ' H' B', Q Δ' → Le B B' → Keep R H H' → (∀ j : Nat, S j → σ'[j]? = σ[j]?) → Rep K B' H' R σ' Δ' → σ'.length = σ.length → Qv σ' H') → g v σ H Qv
def RfGs (K : Frag) (S : Nat → Prop) (g : TGs) (w : WGs) : Prop := ∀ (ts : List T) (Δ : Dt) (Q : Dt → Prop) (σ : Sg) (H B : Hp) (R G : List Addr) (vs : List V), Rep K B H (G ++ R) σ Δ → RpL K B H vs ts G → w ts Δ Q → ∀ Qv : Sg → Hp → Prop,
  (∀ Δ' σ' H' B', Q Δ' → Le B B' → Keep R H H' → (∀ j : Nat, S j → σ'[j]? = σ[j]?) → Rep K B' H' R σ' Δ' → σ'.length = σ.length → Qv σ' H') → g vs σ H Qv
structure CG (X : Cx) (S : Nat → Prop) (tg : Expr) (w : WG) : Prop where
  ex : ∃ g, PG X tg g ∧ RfG X.K S g w
structure CGs (X : Cx) (S : Nat → Prop) (tg : List Expr) (w : WGs) : Prop where
  ex : ∃ g, PGs X tg g ∧ RfGs X.K S g w
def wgN (i : Nat) : WG := fun t Δ Q => Q (Δ.set i (some t))
def wgNil : WGs := fun ts Δ Q => match ts with
  | [] => Q Δ
  | _ => False
def wgCons (a : WG) (r : WGs) : WGs := fun ts Δ Q => match ts with
  | t :: ts => a t Δ fun Δ' => r ts Δ' Q
  | [] => False
def wgTup (n : Nat) (a : WGs) : WG := fun t Δ Q => match t with
  | .tup ts => ts.length = n ∧ a ts Δ Q
  | _ => False
section
variable {K : Frag} {S : Nat → Prop} {np i : Nat} {g : TG} {gs : TGs} {w : WG} {ws : WGs}
theorem rf_gN (h : ∀ j, S j → j ≠ i) : RfG K S (gName i) (wgN i) := fun t Δ Q σ H B R G v hr r hw Qv k =>
  k _ _ H B hw (Le.refl B) Keep.refl (fun j hj => List.getElem?_set_ne (Ne.symm (h j hj))) (Rep.set (x := some v) (d := some t) hr r) (by simp)
theorem rf_gNil : RfGs K S gNil wgNil := fun ts Δ Q σ H B R G vs hr r hw Qv k => by
  cases r with
  | nil => exact ⟨rfl, k _ _ H B hw (Le.refl B) Keep.refl (fun _ _ => rfl) hr rfl⟩
  | cons _ _ => exact hw.elim
theorem rf_gCons (h1 : RfG K S g w) (h2 : RfGs K S gs ws) : RfGs K S (gCons g gs) (wgCons w ws) := fun ts Δ Q σ H B R G vs hr r hw Qv k => by
  cases r with
  | nil => exact hw.elim
  | @cons v vs t ts F G r1 r2 =>
    refine ⟨v, vs, rfl, ?_⟩
    rw [List.append_assoc] at hr
    refine h1 t Δ _ σ H B (G ++ R) F v hr r1 hw _ fun Δ1 σ1 H1 B1 q a1 b1 c1 hr1 l1 => ?_
    exact h2 ts Δ1 Q σ1 H1 B1 R G vs hr1 (r2.mono a1 b1.left) q Qv fun Δ2 σ2 H2 B2 q2 a2 b2 c2 hr2 l2 => k Δ2 σ2 H2 B2 q2 (a1.trans a2) (b1.right.trans b2) (fun j hj => (c2 j hj).trans (c1 j hj)) hr2 (l2.trans l1)
theorem rf_gTup {n : Nat} (h2 : RfGs K S gs ws) : RfG K S (gTup K n gs) (wgTup n ws) := fun t Δ Q σ H B R G v hr r hw Qv k => by
  cases t with
  | tup ts =>
    obtain ⟨a, vs, rfl, hs, hl⟩ := r.tup_inv hr.sub
    exact ⟨a, vs, rfl, hs, by rw [hl.length]; exact hw.1, h2 ts Δ Q σ H B R G vs hr hl hw.2 Qv k⟩
  | _ => exact hw.elim
end
/-- slots that are never stored to: the first np -/
abbrev Pin (np : Nat) : Nat → Prop := fun j => j < np
/-- all slots but a comprehension's own -/
abbrev Own (vs : List Nat) : Nat → Prop := fun j => j ∉ vs
section
variable {X : Cx} {S : Nat → Prop} {np i n : Nat} {vs : List Nat} {x : Str} {pos : Pos} {w : WG} {ws : WGs} {e : Expr} {es : List Expr}
theorem cg_name (hN : X.N.Nodup) (hi : X.N[i]? = some x) (hx : Loc X.env.scope x) (h : np ≤ i) (hf : X.fn x = true ∨ X.env.scope.names.lookup x = some .local := by first | exact .inl rfl | exact .inr rfl | assumption) : CG X (Pin np) (.Name x pos) (wgN i) :=
  ⟨_, pg_name hN hi hx hf, rf_gN fun j hj => Nat.ne_of_lt (Nat.lt_of_lt_of_le hj h)⟩
theorem cg_own (hN : X.N.Nodup) (hi : X.N[i]? = some x) (hx : Loc X.env.scope x) (h : i ∈ vs) (hf : X.fn x = true ∨ X.env.scope.names.lookup x = some .local := by first | exact .inl rfl | exact .inr rfl | assumption) : CG X (Own vs) (.Name x pos) (wgN i) :=
  ⟨_, pg_name hN hi hx hf, rf_gN fun j hj z => hj (z ▸ h)⟩
theorem cgs_nil : CGs X S [] wgNil := ⟨_, pgs_nil, rf_gNil⟩
theorem cgs_cons (h1 : CG X S e w) (h2 : CGs X S es ws) (hs : (assignEach (e :: es) X.env).map (·.2) = assign e X.env :: (assignEach es X.env).map (·.2) := by rfl) : CGs X S (e :: es) (wgCons w ws) := by
  obtain ⟨g, p, r⟩ := h1
  obtain ⟨gs, ps, rs⟩ := h2
  exact ⟨_, pgs_cons p ps hs, rf_gCons r rs⟩
theorem cg_tup {k : Nat} (hc : X.calm = true) (h : CGs X S es ws) (hn : (assignEach es X.env).length = n := by rfl) (hst : (assignEach es X.env).findIdx? (·.1) = none := by rfl) : CG X S (.Tuple es k pos) (wgTup n ws) := by
  obtain ⟨gs, ps, rs⟩ := h
  exact ⟨_, pg_tup hc ps hn hst, rf_gTup rs⟩
end

/-! ### statements -/
def wNext : WS := fun D Δ => D.nx Δ
def wSeq (a b : WS) : WS := fun D Δ => a { D with nx := b D } Δ
def wBreak : WS := fun D Δ => D.bk Δ
def wCont : WS := fun D Δ => D.ct Δ
def wNever : WS := fun _ _ => False
def wDrop (w : WE) : WS := fun D Δ => w Δ fun _ Δ1 => D.nx Δ1
def wRet (np : Nat) (w : WE) : WS := fun D Δ => w Δ fun p Δ1 => match p with
  | .val t => D.rt t Δ1
  | .pl i => look Δ1 i fun t => if np ≤ i then D.rt t (Δ1.set i none) else D.rt (frz t) (Δ1.set i (some (frz t)))
def wRetN : WS := fun D Δ => D.rt .non Δ
def wIfS (c : WT) (a b : WS) : WS := fun D Δ => c Δ fun k Δ1 => if k = true then a D Δ1 else b D Δ1
def wAsg (w : WE) (g : WG) : WS := fun D Δ => w Δ fun p Δ1 => wTake p Δ1 fun t Δ2 => g t Δ2 D.nx
section
variable {K : Frag} {W : WX} {np : Nat} {t u : TS} {wt wu : WS} {te : TE} {we : WE} {tc : TT} {wc : WT} {g : TG} {wg : WG}
theorem rf_next : RfS K np W tNext wNext := fun D Δ σ H B R hr hw E k1 k2 k3 k4 k5 => k1 _ _ _ _ hw Fin.refl hr
theorem rf_break : RfS K np W tBreak wBreak := fun D Δ σ H B R hr hw E k1 k2 k3 k4 k5 => k3 _ _ _ _ hw Fin.refl hr
theorem rf_cont : RfS K np W tCont wCont := fun D Δ σ H B R hr hw E k1 k2 k3 k4 k5 => k4 _ _ _ _ hw Fin.refl hr
theorem rf_never : RfS K np W tNever wNever := fun D Δ σ H B R hr hw E k1 k2 k3 k4 k5 => hw
theorem rf_retN : RfS K np W tRetN wRetN := fun D Δ σ H B R hr hw E k1 k2 k3 k4 k5 => k2 _ _ _ _ _ _ [] hw Fin.refl .non hr
theorem rf_seq (h1 : RfS K np W t wt) (h2 : RfS K np W u wu) : RfS K np W (tSeq t u) (wSeq wt wu) := fun D Δ σ H B R hr hw E k1 k2 k3 k4 k5 => by
  refine h1 _ Δ σ H B R hr hw _ (fun Δ1 σ1 H1 B1 q f1 hr1 => ?_) k2 k3 k4 k5
  refine h2 D Δ1 σ1 H1 B1 R hr1 q E (fun Δ2 σ2 H2 B2 q2 f2 hr2 => k1 _ _ _ _ q2 (f1.trans f2) hr2) (fun t Δ2 σ2 v H2 B2 G q2 f2 r hr2 => k2 _ _ _ _ _ _ G q2 (f1.trans f2) r hr2)
    (fun Δ2 σ2 H2 B2 q2 f2 hr2 => k3 _ _ _ _ q2 (f1.trans f2) hr2) (fun Δ2 σ2 H2 B2 q2 f2 hr2 => k4 _ _ _ _ q2 (f1.trans f2) hr2) (fun x fs Δ2 σ2 od H2 B2 q2 f2 hr2 r2 => k5 _ _ _ _ _ _ _ q2 (f1.trans f2) hr2 r2)
theorem rf_drop (h : RfE K te we) : RfS K np W (tDrop te) (wDrop we) := fun D Δ σ H B R hr hw E k1 k2 k3 k4 k5 =>
  h Δ _ σ H B R hr hw _ fun p Δ1 v H1 B1 q hl hk ⟨G, _, hr1⟩ => k1 _ _ _ _ q (Fin.of hl hk) hr1.drop
theorem rf_if (hc : RfT K tc wc) (h1 : RfS K np W t wt) (h2 : RfS K np W u wu) : RfS K np W (tIfS tc t u) (wIfS wc wt wu) := fun D Δ σ H B R hr hw E k1 k2 k3 k4 k5 => by
  refine hc Δ _ σ H B R hr hw _ fun b Δ1 H1 B1 q hl hk hr1 => ?_
  have f1 : Fin K B H R np σ B1 H1 σ := Fin.of hl hk
  cases b with
  | true =>
    exact h1 D Δ1 σ H1 B1 R hr1 q E (fun Δ2 σ2 H2 B2 q2 f2 hr2 => k1 _ _ _ _ q2 (f1.trans f2) hr2) (fun t Δ2 σ2 v H2 B2 G q2 f2 r hr2 => k2 _ _ _ _ _ _ G q2 (f1.trans f2) r hr2)
      (fun Δ2 σ2 H2 B2 q2 f2 hr2 => k3 _ _ _ _ q2 (f1.trans f2) hr2) (fun Δ2 σ2 H2 B2 q2 f2 hr2 => k4 _ _ _ _ q2 (f1.trans f2) hr2) (fun x fs Δ2 σ2 od H2 B2 q2 f2 hr2 r2 => k5 _ _ _ _ _ _ _ q2 (f1.trans f2) hr2 r2)
  | false =>
    exact h2 D Δ1 σ H1 B1 R hr1 q E (fun Δ2 σ2 H2 B2 q2 f2 hr2 => k1 _ _ _ _ q2 (f1.trans f2) hr2) (fun t Δ2 σ2 v H2 B2 G q2 f2 r hr2 => k2 _ _ _ _ _ _ G q2 (f1.trans f2) r hr2)
      (fun Δ2 σ2 H2 B2 q2 f2 hr2 => k3 _ _ _ _ q2 (f1.trans f2) hr2) (fun Δ2 σ2 H2 B2 q2 f2 hr2 => k4 _ _ _ _ q2 (f1.trans f2) hr2) (fun x fs Δ2 σ2 od H2 B2 q2 f2 hr2 r2 => k5 _ _ _ _ _ _ _ q2 (f1.trans f2) hr2 r2)
theorem rf_ret (h : RfE K te we) : RfS K np W (tRet te) (wRet np we) := fun D Δ σ H B R hr hw E k1 k2 k3 k4 k5 => by
  refine h Δ _ σ H B R hr hw _ fun p Δ1 v H1 B1 q hl hk ⟨G, pr, hr1⟩ => ?_
  cases p with
  | val t => exact k2 t Δ1 σ v H1 B1 G q (Fin.of hl hk) pr hr1
  | pl i =>
    obtain ⟨rfl, e⟩ := pr
    obtain ⟨t, e1, q⟩ := look_iff q
    by_cases hi : np ≤ i
    · rw [if_pos hi] at q
      obtain ⟨v', G, e2, r, hr2⟩ := Rep.out hr1 e1
      rw [e] at e2; cases e2
      exact k2 t _ σ v H1 B1 G q (Fin.of hl hk) r hr2
    · rw [if_neg hi] at q
      obtain ⟨B2, v', hle, e2, hr2, r⟩ := Rep.frzS hr1 e1
      rw [e] at e2; cases e2
      exact k2 _ _ σ v H1 B2 [] q (Fin.of (hl.trans hle) hk) r hr2
theorem rf_asg (h : RfE K te we) (hg : RfG K (Pin np) g wg) : RfS K np W (tAsg te g) (wAsg we wg) := fun D Δ σ H B R hr hw E k1 k2 k3 k4 k5 => by
  refine h Δ _ σ H B R hr hw _ fun p Δ1 v H1 B1 q hl hk o => ?_
  obtain ⟨t, Δ2, B2, G, q2, hle, r, hr2⟩ := take_ok o q
  refine hg t Δ2 D.nx σ H1 B2 R G v hr2 r q2 _ fun Δ3 σ3 H3 B3 q3 a3 b3 c3 hr3 _ => k1 _ _ _ _ q3 (Fin.trans (Fin.of (hl.trans hle) hk) ⟨a3, b3, c3⟩) hr3
end
section
variable {X : Cx} {np : Nat} {st : Stmt} {rest a b : List Stmt} {w wt wu : WS} {we : WE} {wc : WT} {wg : WG} {e c tg : Expr} {pos : Pos}
theorem css_nil : CSs X np [] wNext := ⟨fun W tk => ⟨_, pss_nil, rf_next⟩⟩
theorem css_cons (h1 : CS X np st wt) (h2 : CSs X np rest wu) : CSs X np (st :: rest) (wSeq wt wu) := by
  refine ⟨fun W tk => ?_⟩
  obtain ⟨t1, p1, r1⟩ := h1.ex W tk
  obtain ⟨t2, p2, r2⟩ := h2.ex W tk
  exact ⟨_, pss_cons p1 p2, rf_seq r1 r2⟩
theorem css_one (h1 : CS X np st w) : CSs X np [st] w := by
  refine ⟨fun W tk => ?_⟩
  obtain ⟨t1, p1, r1⟩ := h1.ex W tk
  exact ⟨_, pss_one p1, r1⟩
theorem cs_pass : CS X np (.Pass pos) wNext := ⟨fun W tk => ⟨_, ps_pass, rf_next⟩⟩
theorem cs_break : CS X np (.Break pos) wBreak := ⟨fun W tk => ⟨_, ps_break, rf_break⟩⟩
theorem cs_cont : CS X np (.Continue pos) wCont := ⟨fun W tk => ⟨_, ps_continue, rf_cont⟩⟩
theorem cs_never : CS X np st wNever := ⟨fun W tk => ⟨_, ps_never, rf_never⟩⟩
theorem css_never : CSs X np rest wNever := ⟨fun W tk => ⟨_, pss_never, rf_never⟩⟩
theorem cs_expr (h : CE X e we) (hs : swapsWith e none pos.line X.env = pure false := by rfl) : CS X np (.Expr e pos) (wDrop we) := by
  refine ⟨fun W tk => ?_⟩
  obtain ⟨t1, p1, r1⟩ := h
  exact ⟨_, ps_expr p1 hs, rf_drop r1⟩
theorem cs_ret (h : CE X e we) : CS X np (.Return (some e) pos) (wRet np we) := by
  refine ⟨fun W tk => ?_⟩
  obtain ⟨t1, p1, r1⟩ := h
  exact ⟨_, ps_ret p1, rf_ret r1⟩
theorem cs_retN : CS X np (.Return none pos) wRetN := ⟨fun W tk => ⟨_, ps_retN, rf_retN⟩⟩
theorem cs_if (hc : CT X c wc) (h1 : CSs X np a wt) (h2 : CSs X np b wu) : CS X np (.If c a b pos) (wIfS wc wt wu) := by
  refine ⟨fun W tk => ?_⟩
  obtain ⟨t, p, r⟩ := hc
  obtain ⟨t1, p1, r1⟩ := h1.ex W tk
  obtain ⟨t2, p2, r2⟩ := h2.ex W tk
  exact ⟨_, ps_if p p1 p2, rf_if r r1 r2⟩
theorem cs_set {i : Nat} {x : Str} {pos' : Pos} (hN : X.N.Nodup) (hi : X.N[i]? = some x) (hx : Loc X.env.scope x) (hp : np ≤ i) (he : CE X e we) (hs : swapsWith e (some (.Name x pos')) pos.line X.env = pure false := by rfl)
    (hf : X.fn x = true ∨ X.env.scope.names.lookup x = some .local := by first | exact .inl rfl | exact .inr rfl | assumption) : CS X np (.Assign [.Name x pos'] e pos) (wAsg we (wgN i)) := by
  refine ⟨fun W tk => ?_⟩
  obtain ⟨t1, p1, r1⟩ := he
  exact ⟨_, ps_set hN hi hx p1 hs hf, rf_asg r1 (rf_gN fun j hj => Nat.ne_of_lt (Nat.lt_of_lt_of_le hj hp))⟩
theorem cs_asg (he : CE X e we) (hg : CG X (Pin np) tg wg) (hs : swapsWithSole [tg] e pos.line X.env = pure false := by rfl) (hw : swappedStores [tg] e X.env = pure none := by rfl) (h1 : (assignEach [tg] X.env).map (·.2) = [assign tg X.env] := by rfl) :
    CS X np (.Assign [tg] e pos) (wAsg we wg) := by
  refine ⟨fun W tk => ?_⟩
  obtain ⟨t1, p1, r1⟩ := he
  obtain ⟨g, pg, rg⟩ := hg
  exact ⟨_, ps_asg p1 pg hs hw h1, rf_asg r1 rg⟩
end

/-! ### what is walked; for -/
/-- the items, one after another -/
def ItR (K : Frag) (B : Hp) (J : It) (ts : List T) : Prop := ∀ (i : Nat) (B2 H2 : Hp), Le B B2 → Sub B2 H2 →
  (∀ t, ts[i]? = some t → J.go i H2 ∧ ∀ x H3, J.yld i H2 x H3 → Same H2 H3 ∧ ∃ B3, Le B2 B3 ∧ Sub B3 H3 ∧ Rp K B3 H3 x t [] ∧ ∀ a, H2 a ≠ none → B3 a = B2 a) ∧ (ts.length ≤ i → J.stop i H2)
abbrev WI := Dt → (List T → Dt → Prop) → Prop
def RfI (K : Frag) (ti : TI) (wi : WI) : Prop := ∀ (Δ : Dt) (Q : List T → Dt → Prop) (σ : Sg) (H B : Hp) (R : List Addr), Rep K B H R σ Δ → wi Δ Q → ∀ Rr : It → Hp → Prop,
  (∀ J ts Δ' H' B', Q ts Δ' → Le B B' → Keep R H H' → Rep K B' H' R σ Δ' → ItR K B' J ts → Rr J H') → ti σ H Rr
structure CI (X : Cx) (tg iter : Expr) (w : WI) : Prop where
  ex : ∃ ti, PI X tg iter ti ∧ RfI X.K ti w
theorem Rep.grow {K : Frag} {B B' H H' : Hp} {R : List Addr} {σ : Sg} {Δ : Dt} (h : Rep K B H R σ Δ) (hs : Same H H') (hl : Le B B') (hb : Sub B' H') (hn : ∀ a, H a ≠ none → B' a = B a) : Rep K B' H' R σ Δ := by
  obtain ⟨F, h1, h2⟩ := h.fp
  have hk := h2.keep hs
  exact ⟨hb, F, h1.mono hl fun a z => hk a (List.mem_append_left _ z), fun a => ⟨(h2 a).1, fun z => ⟨by rw [hn a ((h2 a).2 z).2]; exact ((h2 a).2 z).1, by rw [hk a z]; exact ((h2 a).2 z).2⟩⟩⟩
def wFor (wi : WI) (wg : WG) (wb : WS) : WS := fun D Δ => wi Δ fun ts Δ1 => ∃ Pv : Nat → Dt → Prop, Pv 0 Δ1 ∧
  (∀ i t Δ2, ts[i]? = some t → Pv i Δ2 → wg t Δ2 fun Δ3 => wb { D with nx := Pv (i + 1), ct := Pv (i + 1), bk := D.nx } Δ3) ∧ ∀ Δ2, Pv ts.length Δ2 → D.nx Δ2
theorem rf_for {K : Frag} {W : WX} {np : Nat} {ti : TI} {wi : WI} {g : TG} {wg : WG} {tb : TS} {wb : WS} (hi : RfI K ti wi) (hg : RfG K (Pin np) g wg) (hb : RfS K np W tb wb) : RfS K np W (tFor ti g tb) (wFor wi wg wb) := fun D Δ σ H B R hr hw E k1 k2 k3 k4 k5 => by
  refine hi Δ _ σ H B R hr hw _ fun J ts Δ1 H1 B1 q hl hk hr1 hJ => ?_
  obtain ⟨Pv, h0, hs, hd⟩ := q
  have f1 : Fin K B H R np σ B1 H1 σ := Fin.of hl hk
  refine ⟨fun i m σ' H' => m = ts.length - i ∧ i ≤ ts.length ∧ ∃ Δ' B', Pv i Δ' ∧ Fin K B1 H1 R np σ B' H' σ' ∧ Rep K B' H' R σ' Δ', ⟨_, rfl, Nat.zero_le _, Δ1, B1, h0, Fin.refl, hr1⟩, fun i m σ' H' hW => ?_⟩
  obtain ⟨rfl, hle, Δ2, B2, hp, f2, hr2⟩ := hW
  obtain ⟨hgo, hst⟩ := hJ i B2 H' f2.1 hr2.sub
  by_cases hi : i < ts.length
  · right
    obtain ⟨go, yl⟩ := hgo ts[i] (by simp [hi])
    refine ⟨go, fun σ' H' => ∃ Δ' B', Pv (i + 1) Δ' ∧ Fin K B1 H1 R np σ B' H' σ' ∧ Rep K B' H' R σ' Δ', fun σ3 H3 ⟨Δ3, B3, a, b, c⟩ => ⟨ts.length - (i + 1), by omega, rfl, by omega, Δ3, B3, a, b, c⟩, fun x H3 hy => ?_⟩
    obtain ⟨hsame, B3, hl3, hs3, r3, hn3⟩ := yl x H3 hy
    have hr3 : Rep K B3 H3 R σ' Δ2 := hr2.grow hsame hl3 hs3 hn3
    have f3 : Fin K B1 H1 R np σ B3 H3 σ' := f2.trans (Fin.of hl3 (hr2.keepExt hsame))
    refine hg ts[i] Δ2 _ σ' H3 B3 R [] x hr3 r3 (hs i ts[i] Δ2 (by simp [hi]) hp) _ fun Δ4 σ4 H4 B4 q4 a4 b4 c4 hr4 _ => ?_
    have f34 := f3.trans ⟨a4, b4, c4⟩
    refine hb _ Δ4 σ4 H4 B4 R hr4 q4 _ (fun Δ5 σ5 H5 B5 q5 f5 hr5 => ⟨Δ5, B5, q5, f34.trans f5, hr5⟩) (fun t Δ5 σ5 v H5 B5 G q5 f5 r5 hr5 => k2 _ _ _ _ _ _ G q5 ((f1.trans f34).trans f5) r5 hr5)
      (fun Δ5 σ5 H5 B5 q5 f5 hr5 => k1 _ _ _ _ q5 ((f1.trans f34).trans f5) hr5) (fun Δ5 σ5 H5 B5 q5 f5 hr5 => ⟨Δ5, B5, q5, f34.trans f5, hr5⟩)
      (fun x fs Δ5 σ5 od H5 B5 q5 f5 hr5 r5 => k5 _ _ _ _ _ _ _ q5 ((f1.trans f34).trans f5) hr5 r5)
  · left
    have e : i = ts.length := by omega
    subst e
    exact ⟨hst (Nat.le_refl _), k1 _ _ _ _ (hd Δ2 hp) (f1.trans f2) hr2⟩
theorem cs_for {X : Cx} {np : Nat} {tg iter : Expr} {body : List Stmt} {wi : WI} {wg : WG} {wb : WS} {pos : Pos} (hp : PassesOwn (model X.prog X.w) X.A X.env X.xe) (hc : X.calm = true) (hi : CI X tg iter wi) (hg : CG X (Pin np) tg wg) (hb : CSs X np body wb)
    (hs : ∀ x, foldedSetIterable iter X.env x = pure x := by intro _; rfl) : CS X np (.For tg iter body [] pos) (wFor wi wg wb) := by
  refine ⟨fun W tk => ?_⟩
  obtain ⟨t1, p1, r1⟩ := hi
  obtain ⟨t2, p2, r2⟩ := hg
  obtain ⟨t3, p3, r3⟩ := hb.ex W tk
  exact ⟨_, ps_for hp hc p1 p2 p3 hs, rf_for r1 r2 r3⟩
def wWhile (c : WT) (wb : WS) : WS := fun D Δ => ∃ Pv : Nat → Dt → Prop, (∃ m, Pv m Δ) ∧ ∀ m Δ1, Pv m Δ1 → c Δ1 fun b Δ2 => if b = true then wb { D with nx := fun Δ' => ∃ m', m' < m ∧ Pv m' Δ', ct := fun Δ' => ∃ m', m' < m ∧ Pv m' Δ', bk := D.nx } Δ2 else D.nx Δ2
theorem rf_while {K : Frag} {W : WX} {np : Nat} {tc : TT} {wc : WT} {tb : TS} {wb : WS} (hc : RfT K tc wc) (hb : RfS K np W tb wb) : RfS K np W (tWhile tc tb) (wWhile wc wb) := fun D Δ σ H B R hr hw E k1 k2 k3 k4 k5 => by
  obtain ⟨Pv, ⟨m0, h0⟩, hs⟩ := hw
  refine ⟨fun m σ' H' => ∃ Δ' B', Pv m Δ' ∧ Fin K B H R np σ B' H' σ' ∧ Rep K B' H' R σ' Δ', ⟨m0, Δ, B, h0, Fin.refl, hr⟩, fun m σ1 H1 hW => ?_⟩
  obtain ⟨Δ1, B1, hp, f1, hr1⟩ := hW
  refine hc Δ1 _ σ1 H1 B1 R hr1 (hs m Δ1 hp) _ fun b Δ2 H2 B2 q hl hk hr2 => ?_
  have f2 : Fin K B H R np σ B2 H2 σ1 := f1.trans (Fin.of hl hk)
  cases b with
  | false => exact k1 _ _ _ _ q f2 hr2
  | true =>
    show ∃ N : L2.St → Hp → Prop, _
    refine ⟨fun σ' H' => ∃ m', m' < m ∧ ∃ Δ' B', Pv m' Δ' ∧ Fin K B H R np σ B' H' σ' ∧ Rep K B' H' R σ' Δ', fun σ' H' h => h, ?_⟩
    exact hb _ Δ2 σ1 H2 B2 R hr2 q _ (fun Δ5 σ5 H5 B5 ⟨m', hm, q5⟩ f5 hr5 => ⟨m', hm, Δ5, B5, q5, f2.trans f5, hr5⟩) (fun t Δ5 σ5 v H5 B5 G q5 f5 r5 hr5 => k2 _ _ _ _ _ _ G q5 (f2.trans f5) r5 hr5)
      (fun Δ5 σ5 H5 B5 q5 f5 hr5 => k1 _ _ _ _ q5 (f2.trans f5) hr5) (fun Δ5 σ5 H5 B5 ⟨m', hm, q5⟩ f5 hr5 => ⟨m', hm, Δ5, B5, q5, f2.trans f5, hr5⟩)
      (fun x fs Δ5 σ5 od H5 B5 q5 f5 hr5 r5 => k5 _ _ _ _ _ _ _ q5 (f2.trans f5) hr5 r5)
theorem cs_while {X : Cx} {np : Nat} {c : Expr} {body : List Stmt} {wc : WT} {wb : WS} {pos : Pos} (hp : PassesOwn (model X.prog X.w) X.A X.env X.xe) (hc : CT X c wc) (hb : CSs X np body wb) : CS X np (.While c body [] pos) (wWhile wc wb) := by
  refine ⟨fun W tk => ?_⟩
  obtain ⟨t1, p1, r1⟩ := hc
  obtain ⟨t3, p3, r3⟩ := hb.ex W tk
  exact ⟨_, ps_while hp p1 p3, rf_while r1 r3⟩
end TL

set_option maxRecDepth 100000
set_option maxHeartbeats 1000000
namespace TL
open PySem PySem.Spec PyProof.Rows L2

/-! ### a def, where no repr runs around it -/
/-- where a call stands: rooms are left, no repr is under way, the arguments meet the parameters -/
structure Stand (P : Program) (w : World) (K : Frag) (mg : Str → Option Value) (base : Heap) (k : Nat) (fd : FuncData) (ps : List Str) (A : Around) (outer : List Env) (s : Shared) (H : Hp) (args : Args) (us : List Value) (vs : List V) : Prop where
  room : Room k A
  quiet : A.guards = some []
  env : Env0 P w K mg base A outer s H
  meets : BindsTo s fd args (ps.zip us)
  vals : Vals vs us
/-- what a def promises to all who stand so -/
structure FnG (P : Program) (w : World) (K : Frag) (mg : Str → Option Value) (base : Heap) (CX : CXT) (k : Nat) (f : Addr) (fd : FuncData) (ps : List Str) (sp : Sp) : Prop where
  arity : ∀ {vs H Q E}, sp vs H Q E → vs.length = ps.length
  keeps : ∀ {A outer s H args us vs Q E}, Stand P w K mg base k fd ps A outer s H args us vs → sp vs H Q E → codeAny (model P w) A (.call (.ref f) args) (fun r s' => CR CX outer P w H s Q E r s') s
theorem FnG.mono {P : Program} {w : World} {K : Frag} {mg : Str → Option Value} {base : Heap} {CX : CXT} {j k : Nat} {f : Addr} {fd : FuncData} {ps : List Str} {sp : Sp} (F : FnG P w K mg base CX j f fd ps sp) (h : j ≤ k) : FnG P w K mg base CX k f fd ps sp :=
  ⟨F.arity, fun S => F.keeps { S with room := S.room.mono h }⟩
section
variable {X : Cx} {CX : CXT} {k : Nat} {f : Addr} {fd : FuncData} {ps : List Str} {sp : Sp} {E : XK}
/-- it is called from X: ds (as values us0) fill up -/
theorem callG {vs0 : List V} {us0 : List Value} {pins : List (Addr × Obj)} {σ : Sg} {H : Hp} {s : Shared} {Q : VK} {us : List Value} {vs : List V} (F : FnG X.prog X.w X.K X.mg X.base CX k f fd ps sp) (room : Room k X.A) (quiet : X.A.guards = some []) (bd : Binds X.K fd ps us0) (fill : Vals vs0 us0)
    (out : Passes CX X E) (I : Inv X pins σ H s) (got : Vals vs us) (asks : sp (vs ++ vs0) H Q E) : wpAny (model X.prog X.w) X.A (call (.ref f) us) (EP X pins σ Q) X.xe s :=
  have all := got.append fill
  have st : Stand X.prog X.w X.K X.mg X.base k fd ps X.A X.stack s H ⟨us, []⟩ (us ++ us0) (vs ++ vs0) := { room, quiet, env := I.env0, meets := bd s us I.kIn (all.length.symm.trans (F.arity asks)), vals := all }
  wpAny_call (codeAny_mono (F.keeps st asks) fun r s' end' => match r, end' with
    | .ok (.ret _), e => I.after e
    | .error ex, e => out pins σ H s ex s' I e
    | .ok .next, e => False.elim e
    | .ok .brk, e => False.elim e
    | .ok .cont, e => False.elim e)
theorem pe_callG {vs0 : List V} {us0 : List Value} {x : Str} {p pos : Pos} {e : Expr} {es : List Expr} {t : TA} (F : FnG X.prog X.w X.K X.mg X.base CX k f fd ps sp) (room : Room k X.A) (quiet : X.A.guards = some []) (gl : Gl X x) (nm : X.mg x = some (.ref f)) (kp : PySem.W.keepIn X.K (.ref f) = true)
    (bd : Binds X.K fd ps us0) (fill : Vals vs0 us0) (out : Passes CX X E) (args : PA X (e :: es) t) (nodebug : (x == ("__debug__" : Str)) = false) (first : starEach (e :: es) X.env = (false, eval e X.env) :: starEach es X.env) (plain : (backTo pos (starEach es X.env)).any (·.1) = false) :
    PE X (.Call (.Name x p) (e :: es) [] pos) (tCall sp vs0 E t) := ⟨fun pins s σ H Q I asks =>
  wpAny_Call_Name_kw (ld_glob I gl nm (PySem.W.callWith_K (h₀ := X.base) I.ok.mod.kin kp (thn (args.run pos pins s σ H _ I asks) fun _ _ ⟨_, _, J, got, more⟩ => ⟨J.kIn, callG F room quiet bd fill out J got more⟩) first plain) nodebug)⟩
end
/-- a body that is read gives the promise -/
theorem fnG_of {CX : CXT} {P : Program} {w : World} {K : Frag} {mg : Str → Option Value} {base : Heap} {k : Nat} {f : Addr} {nm qual : Str} {pr : Arguments} {body : List Stmt} {sc : Scope} {dV kV doc pm cdv ct : Value} {an : Option Addr} {o : Obj} {N ps : List Str} {sp : Sp}
    (stands : K.lookup f = some o) (isF : o.data = .func (PySem.W.fnOf nm qual pr body sc dV kV doc pm an cdv ct)) (code : PySem.W.codeIn K cdv qual = true) (S : FnScope N ps sc) (arity : ∀ {vs H Q E}, sp vs H Q E → vs.length = ps.length)
    (read : ∀ (A : Around) (outer : List Env) (s : Shared) (H : Hp) (vs : List V) (Q : VK) (E : XK), Room k (A.deeper (envOfC qual sc s.heap.objs.size f cdv)) → (A.deeper (envOfC qual sc s.heap.objs.size f cdv)).guards = some [] → sp vs H Q E →
      ∃ t : TS, PSs (cxOf CX P w K mg base N qual sc f cdv A outer s H E) body t ∧ t ⟨fun _ H' => Q .non H', Q, fun _ _ => False, fun _ _ => False⟩ (start N vs) H) : FnG P w K mg base CX (k + 1) f (PySem.W.fnOf nm qual pr body sc dV kV doc pm an cdv ct) ps sp where
  arity := arity
  keeps := fun {A outer s H args us vs Q E} st asks => by
    have back : ∀ {b o'}, base.get? b = some o' → s.heap.get? b = some o' := fun {b o'} z => (st.env.bs b o' z).1
    have inHeap : K.In s.heap := st.env.mod.kin.keeps @back
    have unlimited := st.env.mod.nolimit.keeps @back
    have places : ∀ z ∈ ps.zip us, sc.names.lookup z.1 = some .local ∨ (sc.names.lookup z.1 = some .cell ∧ ((cellsFrom (s.heap.objs.size + 1) sc.names []).lookup z.1).isSome = true) := by
      rintro ⟨y, u⟩ hz
      exact (S.par y (List.of_mem_zip hz).1).imp id fun c => ⟨c, PySem.W.cellsFrom_some _ _ _ (.inl c)⟩
    refine codeAny_call_function st.room.depth (inHeap _ _ stands) isF S.co S.gen rfl (PySem.W.codeRec_of inHeap code) (st.meets _ _ _ _ (wpAny_newFunctionEnv_cells S.kind places ?_))
    rintro _ rfl s1 entered
    obtain ⟨t, walks, reads⟩ := read A outer s H vs Q E (st.room.deeper _) st.quiet asks
    have ends := walks.run [] s1 (start N vs) H _ (inv_start S st.room.hd st.env (arity asks) st.vals entered) reads
    refine ⟨unlimited.keeps entered.toInCall.keep, codeAny_func (wpAny_mono ends (fun fl s' how => ?_) fun _ _ z => z)⟩
    match fl, how with
    | .ret u, ⟨v, _, H', J, same, q⟩ => exact ⟨v, H', J.os, J.bare, J.base, J.hok, same, q⟩
    | .next, ⟨_, H', J, q⟩ => exact ⟨.non, H', J.os, J.bare, J.base, J.hok, rfl, q⟩
    | .brk, ⟨_, _, _, q⟩ => exact False.elim q
    | .cont, ⟨_, _, _, q⟩ => exact False.elim q

/-! ### what a def is asked, over trees -/
inductive Rs where
  | ret (t : T) | exc (x : Str) (fs : List (Str × T))
abbrev FS := List T → (Rs → List T → Prop) → Prop
def spT (K : Frag) (S : FS) : Sp := fun vs H Q E => ∃ (ts : List T) (B : Hp) (R : List Addr) (Qf : Rs → List T → Prop), Rep K B H R (vs.map some) (ts.map some) ∧ S ts Qf ∧
  (∀ t ts' v H' B' G, Qf (.ret t) ts' → Le B B' → Keep R H H' → Rp K B' H' v t G → Rep K B' H' (G ++ R) (vs.map some) (ts'.map some) → Q v H') ∧
  (∀ x fs ts' od H' B', Qf (.exc x fs) ts' → Le B B' → Keep R H H' → Rep K B' H' R (vs.map some) (ts'.map some) → ExR K B' H' fs od → E (.ref (clsOf K x)) od H')
def lookUp (Δ : Dt) : Nat → Nat → (List T → Prop) → Prop
  | _, 0, k => k []
  | j, n + 1, k => look Δ j fun t => lookUp Δ (j + 1) n fun ts => k (t :: ts)
def startD (N : List Str) (np : Nat) (ts : List T) : Dt := (ts.take np).map some ++ ((ts.drop np).map fun t => some (frz t)) ++ List.replicate (N.length - ts.length) none
def endsD (np : Nat) (ts : List T) (Qf : Rs → List T → Prop) : EndsD :=
  { nx := fun Δ => lookUp Δ 0 np fun us => Qf (.ret .non) (us ++ (ts.drop np).map frz), rt := fun t Δ => lookUp Δ 0 np fun us => Qf (.ret t) (us ++ (ts.drop np).map frz) }
/-- .. of a def that exceptions may leave -/
def endsX (np : Nat) (ts : List T) (Qf : Rs → List T → Prop) : EndsD :=
  { nx := fun Δ => lookUp Δ 0 np fun us => Qf (.ret .non) (us ++ (ts.drop np).map frz), rt := fun t Δ => lookUp Δ 0 np fun us => Qf (.ret t) (us ++ (ts.drop np).map frz), ex := fun x fs Δ => lookUp Δ 0 np fun us => Qf (.exc x fs) (us ++ (ts.drop np).map frz) }
section
variable {K : Frag} {B B' H H' : Hp} {R : List Addr} {σ : Sg} {Δ : Dt}
theorem RpS.of_L : ∀ {vs : List V} {ts : List T} {F : List Addr}, RpL K B H vs ts F → RpS K B H (vs.map some) (ts.map some) F
  | _, _, _, .nil => .nil
  | _, _, _, .cons h1 h2 => .cons h1 (RpS.of_L h2)
theorem RpS.to_L : ∀ {vs : List V} {ts : List T} {F : List Addr}, RpS K B H (vs.map some) (ts.map some) F → RpL K B H vs ts F
  | [], [], _, .nil => .nil
  | _ :: _, _ :: _, _, .cons h1 h2 => .cons h1 (RpS.to_L h2)
theorem RpS.nones : ∀ n : Nat, RpS K B H (List.replicate n none) (List.replicate n none) []
  | 0 => .nil
  | n + 1 => RpS.cons (F := []) (G := []) rfl (RpS.nones n)
theorem RpS.append : ∀ {σ σ' : Sg} {Δ Δ' : Dt} {F G : List Addr}, RpS K B H σ Δ F → RpS K B H σ' Δ' G → RpS K B H (σ ++ σ') (Δ ++ Δ') (F ++ G)
  | _, _, _, _, _, _, .nil, h => h
  | _, _, _, _, _, _, .cons h1 h2, h => by rw [List.append_assoc]; exact .cons h1 (h2.append h)
theorem RpL.split : ∀ {vs : List V} {ts : List T} {F : List Addr} (n : Nat), RpL K B H vs ts F → ∃ F1 F2, F = F1 ++ F2 ∧ RpL K B H (vs.take n) (ts.take n) F1 ∧ RpL K B H (vs.drop n) (ts.drop n) F2
  | _, _, _, 0, h => ⟨[], _, rfl, by simpa using RpL.nil, by simpa using h⟩
  | _, _, _, n + 1, .nil => ⟨[], [], rfl, .nil, .nil⟩
  | _, _, _, n + 1, .cons (F := F) h1 h2 => by
    obtain ⟨F1, F2, e, a, b⟩ := RpL.split n h2
    refine ⟨F ++ F1, F2, by rw [e, List.append_assoc], .cons h1 a, b⟩
theorem lookUp_pre : ∀ {n j : Nat} {k : List T → Prop}, lookUp Δ j n k → ∃ us, us.length = n ∧ (∀ (i : Nat) t, us[i]? = some t → Δ[j + i]? = some (some t)) ∧ k us
  | 0, j, k, h => ⟨[], rfl, fun i t e => by simp at e, h⟩
  | n + 1, j, k, h => by
    obtain ⟨t, e, q⟩ := look_iff h
    obtain ⟨us, hl, hu, q2⟩ := lookUp_pre q
    refine ⟨t :: us, by simp [hl], fun i t' e' => ?_, q2⟩
    cases i with
    | zero => simp at e'; subst e'; exact e
    | succ i => have := hu i t' (by simpa using e'); rw [show j + (i + 1) = j + 1 + i by omega]; exact this
/-- the first slots, still as they were handed in -/
theorem RpS.pre : ∀ {vs : List V} {ts : List T} {σ : Sg} {Δ : Dt} {F : List Addr}, RpS K B H σ Δ F → vs.length = ts.length → (∀ (i : Nat) v, vs[i]? = some v → σ[i]? = some (some v)) → (∀ (i : Nat) t, ts[i]? = some t → Δ[i]? = some (some t)) →
    ∃ F1 F2, F = F1 ++ F2 ∧ RpL K B H vs ts F1
  | [], [], _, _, F, _, _, _, _ => ⟨[], F, rfl, .nil⟩
  | v :: vs, t :: ts, _, _, _, .nil, _, _, h => by have := h 0 t rfl; simp at this
  | v :: vs, t :: ts, _, _, _, .cons (F := F) (G := G) h1 h2, hl, hv, ht => by
    have e1 := hv 0 v rfl
    have e2 := ht 0 t rfl
    simp at e1 e2
    subst e1; subst e2
    obtain ⟨F1, F2, e, r⟩ := RpS.pre h2 (by simpa using hl) (fun i w e => by simpa using hv (i + 1) w (by simpa using e)) fun i w e => by simpa using ht (i + 1) w (by simpa using e)
    exact ⟨F ++ F1, F2, by rw [e, List.append_assoc], .cons h1 r⟩
theorem start_take {N : List Str} {vs : List V} (np : Nat) : start N vs = (vs.take np).map some ++ (vs.drop np).map some ++ List.replicate (N.length - vs.length) none := by
  unfold L2.start
  rw [← List.map_append, List.take_append_drop]
/-- the entry of a def -/
theorem entry {N : List Str} {vs : List V} {ts : List T} (np : Nat) (h : Rep K B H R (vs.map some) (ts.map some)) : ∃ B1, Le B B1 ∧ Rep K B1 H R (start N vs) (startD N np ts) ∧ RpL K B1 H (vs.drop np) ((ts.drop np).map frz) [] := by
  obtain ⟨F, h1, h2⟩ := h.fp
  have hL := RpS.to_L h1
  obtain ⟨F1, F2, e, ra, rb⟩ := hL.split np
  subst e
  have hr : Rep K B H (F2 ++ (F1 ++ R)) [] [] := ⟨h.sub, [], .nil, h2.of_le fun a => by simp only [List.count_append, List.count_nil]; omega⟩
  -- the rest is frozen, all at once
  have hle : Le B (fun a => if a ∈ F2 then H a else B a) := Le.of_same fun a o e => by
    have hn : a ∉ F2 := fun z => by
      have := ((h2 a).2 (List.mem_append_left _ (List.mem_append_right _ z))).1
      rw [e] at this; cases this
    show (if a ∈ F2 then H a else B a) = some o
    rw [if_neg hn]; exact e
  refine ⟨fun a => if a ∈ F2 then H a else B a, hle, ⟨fun a o e => ?_, F1, ?_, fun a => ?_⟩, by rw [← frzL_map]; exact rb.fr hle fun a z => if_pos z⟩
  · have e' : (if a ∈ F2 then H a else B a) = some o := e
    by_cases z : a ∈ F2
    · rw [if_pos z] at e'; exact e'
    · rw [if_neg z] at e'; exact h.sub a o e'
  · rw [start_take np, show F1 = F1 ++ [] ++ [] by simp]
    unfold startD
    have hlen : vs.length = ts.length := hL.length
    rw [hlen]
    refine RpS.append (RpS.append (RpS.of_L (ra.mono hle fun _ _ => rfl)) ?_) (RpS.nones _)
    have := RpS.of_L (rb.fr (H' := H) hle fun a z => if_pos z)
    rw [frzL_map, List.map_map] at this
    exact this
  · have hc := (h2 a).1
    simp only [List.count_append] at hc
    refine ⟨by simp only [List.count_append]; omega, fun z => ?_⟩
    have hn : a ∉ F2 := fun y => by
      have h3 := List.count_pos_iff.mpr y
      have h4 := List.count_pos_iff.mpr z
      simp only [List.count_append] at h4
      omega
    have z' : a ∈ (F1 ++ F2) ++ R := by
      rcases List.mem_append.mp z with z | z
      · exact List.mem_append_left _ (List.mem_append_left _ z)
      · exact List.mem_append_right _ z
    exact ⟨by show (if a ∈ F2 then H a else B a) = none; rw [if_neg hn]; exact ((h2 a).2 z').1, ((h2 a).2 z').2⟩
/-- the way out of a def -/
theorem leave {N : List Str} {vs : List V} {np : Nat} {B1 : Hp} {G : List Addr} {σ' : Sg} {Δ' : Dt} {us rs : List T} (hle : np ≤ vs.length) (hr : Rep K B' H' (G ++ R) σ' Δ') (hB : Le B1 B') (hσ : ∀ j, j < np → σ'[j]? = (start N vs)[j]?)
    (hu : us.length = np) (hΔ : ∀ (i : Nat) t, us[i]? = some t → Δ'[0 + i]? = some (some t)) (rest : RpL K B1 H (vs.drop np) (rs.map frz) []) :
    Rep K B' H' (G ++ R) (vs.map some) ((us ++ rs.map frz).map some) := by
  obtain ⟨F, h1, h2⟩ := hr.fp
  have hlt : (vs.take np).length = np := by rw [List.length_take]; omega
  have hv : ∀ (i : Nat) v, (vs.take np)[i]? = some v → σ'[i]? = some (some v) := fun i v e => by
    have hi : i < np := by rw [← hlt]; exact (List.getElem?_eq_some_iff.mp e).1
    have e2 : vs[i]? = some v := by rw [List.getElem?_take_of_lt hi] at e; exact e
    rw [hσ i hi, L2.start, List.getElem?_append_left (by simp; omega), List.getElem?_map, e2]; rfl
  obtain ⟨F1, F2, e, r⟩ := RpS.pre (vs := vs.take np) (ts := us) h1 (hlt.trans hu.symm) hv (fun i t e => by have := hΔ i t e; rw [Nat.zero_add] at this; exact this)
  subst e
  refine ⟨hr.sub, F1 ++ [], ?_, h2.of_le fun a => by simp only [List.count_append, List.count_nil]; omega⟩
  have q : RpL K B' H' (vs.take np ++ vs.drop np) (us ++ rs.map frz) (F1 ++ []) := RpL.append r (rest.mono hB fun _ z => nomatch z)
  rw [List.take_append_drop] at q
  exact RpS.of_L q
end
/-! ### a call -/
def hasPl (i : Nat) : List PV → Bool
  | [] => false
  | .val _ :: r => hasPl i r
  | .pl j :: r => j == i || hasPl i r
def closedAt (Δ : Dt) (i : Nat) : Bool := match Δ[i]? with
  | some (some t) => closed t
  | _ => true
def dupOk (Δ : Dt) : List PV → Bool
  | [] => true
  | .val _ :: r => dupOk Δ r
  | .pl i :: r => (!hasPl i r || closedAt Δ i) && dupOk Δ r
def backs : Dt → List PV → List T → Dt
  | Δ, .val _ :: ps, _ :: ts => backs Δ ps ts
  | Δ, .pl i :: ps, t :: ts => backs (Δ.set i (some t)) ps ts
  | Δ, _, _ => Δ
def wCall (S : FS) (wa : WA) : WE := fun Δ Q => wa Δ fun ps Δ1 => onVs Δ1 ps fun ts => dupOk Δ1 ps = true ∧ S ts fun r ts' => match r with
  | .ret t => Q (.val t) (backs Δ1 ps ts')
  | .exc _ _ => False
section
variable {K : Frag} {B B' H H' : Hp} {R : List Addr} {σ : Sg}
theorem onVs_set {i : Nat} {d : Option T} : ∀ {ps : List PV} {Δ : Dt} {k : List T → Prop}, hasPl i ps = false → onVs Δ ps k → onVs (Δ.set i d) ps k
  | [], _, _, _, h => h
  | .val t :: ps, Δ, k, hh, h => onVs_set (ps := ps) (by simpa [hasPl] using hh) h
  | .pl j :: ps, Δ, k, hh, h => by
    simp only [hasPl, Bool.or_eq_false_iff, beq_eq_false_iff_ne] at hh
    obtain ⟨t, e, q⟩ := look_iff h
    show look (Δ.set i d) j _
    unfold look
    rw [List.getElem?_set_ne (Ne.symm hh.1), e]
    exact onVs_set hh.2 q
theorem closedAt_set {i j : Nat} {d : Option T} {Δ : Dt} (h : j ≠ i) : closedAt (Δ.set i d) j = closedAt Δ j := by
  unfold closedAt; rw [List.getElem?_set_ne (Ne.symm h)]
theorem dupOk_set {i : Nat} {d : Option T} : ∀ {ps : List PV} {Δ : Dt}, hasPl i ps = false → dupOk (Δ.set i d) ps = dupOk Δ ps
  | [], _, _ => rfl
  | .val t :: ps, Δ, hh => dupOk_set (ps := ps) (by simpa [hasPl] using hh)
  | .pl j :: ps, Δ, hh => by
    simp only [hasPl, Bool.or_eq_false_iff, beq_eq_false_iff_ne] at hh
    simp only [dupOk]
    rw [dupOk_set hh.2, closedAt_set hh.1]
theorem backs_set_no {i : Nat} {d : Option T} : ∀ {ps : List PV} {ts : List T} {Δ : Dt}, hasPl i ps = false → backs (Δ.set i d) ps ts = (backs Δ ps ts).set i d
  | [], ts, _, _ => by cases ts <;> rfl
  | .val t :: ps, [], _, _ => rfl
  | .val t :: ps, u :: ts, Δ, hh => by simp only [backs]; exact backs_set_no (by simpa [hasPl] using hh)
  | .pl j :: ps, [], _, _ => rfl
  | .pl j :: ps, u :: ts, Δ, hh => by
    simp only [hasPl, Bool.or_eq_false_iff, beq_eq_false_iff_ne] at hh
    simp only [backs]
    rw [List.set_comm _ _ (Ne.symm hh.1), backs_set_no hh.2]
theorem backs_set_yes {i : Nat} {d : Option T} : ∀ {ps : List PV} {ts : List T} {Δ : Dt}, hasPl i ps = true → ps.length = ts.length → backs (Δ.set i d) ps ts = backs Δ ps ts
  | [], ts, _, h, _ => by cases h
  | .val t :: ps, [], _, _, h => by simp at h
  | .val t :: ps, u :: ts, Δ, hh, hl => by simp only [backs]; exact backs_set_yes (by simpa [hasPl] using hh) (by simpa using hl)
  | .pl j :: ps, [], _, _, h => by simp at h
  | .pl j :: ps, u :: ts, Δ, hh, hl => by
    simp only [backs]
    by_cases hj : j = i
    · subst hj; rw [List.set_set]
    · simp only [hasPl, Bool.or_eq_true, beq_iff_eq, hj, false_or] at hh
      rw [List.set_comm _ _ (fun z => hj z.symm), backs_set_yes hh (by simpa using hl)]
theorem args_out : ∀ {ps : List PV} {vs : List V} {G R : List Addr} {Δ : Dt} {k : List T → Prop}, PvL K B H σ ps vs G → Rep K B H (G ++ R) σ Δ → onVs Δ ps k → dupOk Δ ps = true →
    ∃ ts G0 Δ0, RpL K B H vs ts G0 ∧ Rep K B H (G0 ++ R) σ Δ0 ∧ k ts ∧ ∀ (B' H' : Hp) (ts' : List T) (G' R' : List Addr), RpL K B' H' vs ts' G' → Rep K B' H' (G' ++ R') σ Δ0 → Rep K B' H' R' σ (backs Δ ps ts')
  | _, _, _, R, Δ, k, .nil, hr, ho, _ => ⟨[], [], Δ, .nil, hr, ho, fun B' H' ts' G' R' r h => by cases r; exact h⟩
  | _, _, _, R, Δ, k, .cons (p := .val t) (v := v) (F := F) (G := G) h1 h2, hr, ho, hd => by
    have hr' : Rep K B H (G ++ (F ++ R)) σ Δ := hr.weak fun a => by simp only [List.count_append]; omega
    obtain ⟨ts, G0, Δ0, rL, hr0, q, back⟩ := args_out (R := F ++ R) h2 hr' ho hd
    refine ⟨t :: ts, F ++ G0, Δ0, .cons h1 rL, hr0.weak fun a => by simp only [List.count_append]; omega, q, fun B' H' ts' G' R' r h => ?_⟩
    cases r with
    | @cons _ _ t' ts' F' G' r1 r2 =>
      exact back B' H' ts' G' R' r2 (h.weak fun a => by simp only [List.count_append]; omega)
  | _, _, _, R, Δ, k, .cons (p := .pl i) (ps := ps) (v := v) (F := F) (G := G) h1 h2, hr, ho, hd => by
    obtain ⟨rfl, ev⟩ := h1
    obtain ⟨t, et, q⟩ := look_iff ho
    simp only [dupOk, Bool.and_eq_true] at hd
    cases hh : hasPl i ps with
    | false =>
      obtain ⟨v', Gi, e', r, hr1⟩ := Rep.out hr et
      rw [ev] at e'; cases e'
      have hr2 : Rep K B H (G ++ (Gi ++ R)) σ (Δ.set i none) := hr1.weak fun a => by simp only [List.count_append, List.count_nil]; omega
      obtain ⟨ts, G0, Δ0, rL, hr0, q, back⟩ := args_out (R := Gi ++ R) h2 hr2 (onVs_set hh q) (by rw [dupOk_set hh]; exact hd.2)
      refine ⟨t :: ts, Gi ++ G0, Δ0, .cons r rL, hr0.weak fun a => by simp only [List.count_append]; omega, q, fun B' H' ts' G' R' r h => ?_⟩
      cases r with
      | @cons _ _ t' ts' F' G' r1 r2 =>
        have h3 := back B' H' ts' G' (F' ++ R') r2 (h.weak fun a => by simp only [List.count_append]; omega)
        rw [backs_set_no hh] at h3
        have h4 := Rep.set (i := i) (x := some v) (d := some t') h3 r1
        rw [set_same ev, List.set_set] at h4
        show Rep K B' H' R' σ (backs (Δ.set i (some t')) ps ts')
        rw [backs_set_no hh]; exact h4
    | true =>
      have hc : closed t = true := by
        have := hd.1
        rw [hh] at this
        simpa [closedAt, et] using this
      obtain ⟨v', Gi, e', r⟩ := Rep.get hr et
      rw [ev] at e'; cases e'
      obtain ⟨ts, G0, Δ0, rL, hr0, q, back⟩ := args_out (R := R) h2 (by simpa using hr) q hd.2
      refine ⟨t :: ts, [] ++ G0, Δ0, .cons (r.c0 hc) rL, by simpa using hr0, q, fun B' H' ts' G' R' r h => ?_⟩
      cases r with
      | @cons _ _ t' ts' F' G' r1 r2 =>
        have h3 := back B' H' ts' G' R' r2 (h.weak fun a => by simp only [List.count_append]; omega)
        have hl : ps.length = ts'.length := by
          have e1 := r2.length
          have e2 : ∀ {ps : List PV} {vs : List V} {G : List Addr}, PvL K B H σ ps vs G → ps.length = vs.length := fun {ps vs G} h => by
            induction h with
            | nil => rfl
            | cons _ _ ih => simp [ih]
          rw [e2 h2, e1]
        show Rep K B' H' R' σ (backs (Δ.set i (some t')) ps ts')
        rw [backs_set_yes hh hl]; exact h3
theorem rf_call {ta : TA} {wa : WA} {S : FS} {E : XK} (ha : RfA K ta wa) : RfE K (tCall (spT K S) [] E ta) (wCall S wa) := fun Δ Q σ H B R hr hw Qv k => by
  refine ha Δ _ σ H B R hr hw _ fun ps Δ1 vs H1 B1 q hl hk ⟨G, pr, hr1⟩ => ?_
  have hd : dupOk Δ1 ps = true := by
    obtain ⟨ts, F, _, q2⟩ := pr.trees hr1 q
    exact q2.1
  obtain ⟨ts, G0, Δ0, rL, hr0, q2, back⟩ := args_out pr hr1 q hd
  obtain ⟨F0, hS0, hdj⟩ := hr0.fp
  show spT K S (vs ++ []) H1 Qv E
  rw [List.append_nil]
  refine ⟨ts, B1, F0 ++ R, _, ⟨hr0.sub, G0, RpS.of_L rL, hdj.of_le fun a => by simp only [List.count_append]; omega⟩, q2.2, fun t ts' v H' B' G2 qf hle hkp r hrep => ?_, fun C fs ts' od H' B' qf => qf.elim⟩
  obtain ⟨G', hS', hdj'⟩ := hrep.fp
  have rL' := RpS.to_L hS'
  have hrB : Rep K B' H' (G' ++ (G2 ++ R)) σ Δ0 := ⟨hrep.sub, F0, hS0.mono hle hkp.left, hdj'.of_le fun a => by simp only [List.count_append]; omega⟩
  exact k (.val t) _ v H' B' qf (hl.trans hle) (hk.trans hkp.right) ⟨G2, r, back B' H' ts' G' (G2 ++ R) rL' hrB⟩
theorem ce_call {X : Cx} {CX : CXT} {k : Nat} {f : Addr} {fd : FuncData} {ps : List Str} {S : FS} {E : XK} {x : Str} {p pos : Pos} {e : Expr} {es : List Expr} {wa : WA} (F : FnG X.prog X.w X.K X.mg X.base CX k f fd ps (spT X.K S)) (hr : Room k X.A) (hgd : X.A.guards = some []) (hg : Gl X x)
    (hm : X.mg x = some (.ref f)) (hk : PySem.W.keepIn X.K (.ref f) = true) (hb : Binds X.K fd ps []) (hx : Passes CX X E) (ha : CA X (e :: es) wa) (hdb : (x == ("__debug__" : Str)) = false := by decide)
    (he : starEach (e :: es) X.env = (false, eval e X.env) :: starEach es X.env := by rfl) (hpl : (backTo pos (starEach es X.env)).any (·.1) = false := by rfl) : CE X (.Call (.Name x p) (e :: es) [] pos) (wCall S wa) := by
  obtain ⟨ta, pa, ra⟩ := ha
  exact ⟨_, pe_callG F hr hgd hg hm hk hb Paired.nil hx pa hdb he hpl, rf_call ra⟩
end
end TL

set_option maxRecDepth 100000
set_option maxHeartbeats 1000000
namespace TL
open PySem PySem.Spec PyProof.Rows L2

/-! ### the readings that are asked least: one for each w -/
def TEof (K : Frag) (w : WE) : TE := fun σ H Qv => ∃ (Δ : Dt) (Q : PV → Dt → Prop) (B : Hp) (R : List Addr), Rep K B H R σ Δ ∧ w Δ Q ∧ ∀ p Δ' v H' B', Q p Δ' → Le B B' → Keep R H H' → Out K B' H' R σ Δ' p v → Qv v H'
def TTof (K : Frag) (w : WT) : TT := fun σ H Qv => ∃ (Δ : Dt) (Q : Bool → Dt → Prop) (B : Hp) (R : List Addr), Rep K B H R σ Δ ∧ w Δ Q ∧ ∀ b Δ' H' B', Q b Δ' → Le B B' → Keep R H H' → Rep K B' H' R σ Δ' → Qv b H'
def TGof (K : Frag) (S : Nat → Prop) (w : WG) : TG := fun v σ H Qv => ∃ (t : T) (Δ : Dt) (Q : Dt → Prop) (B : Hp) (R G : List Addr), Rep K B H (G ++ R) σ Δ ∧ Rp K B H v t G ∧ w t Δ Q ∧
  ∀ Δ' σ' H' B', Q Δ' → Le B B' → Keep R H H' → (∀ j : Nat, S j → σ'[j]? = σ[j]?) → Rep K B' H' R σ' Δ' → σ'.length = σ.length → Qv σ' H'
def TIof (K : Frag) (w : WI) : TI := fun σ H Rr => ∃ (Δ : Dt) (Q : List T → Dt → Prop) (B : Hp) (R : List Addr), Rep K B H R σ Δ ∧ w Δ Q ∧ ∀ J ts Δ' H' B', Q ts Δ' → Le B B' → Keep R H H' → Rep K B' H' R σ Δ' → ItR K B' J ts → Rr J H'
section
variable {X : Cx} {e tg : Expr}
theorem CE.pe {w : WE} (h : CE X e w) : PE X e (TEof X.K w) := by
  obtain ⟨te, p, r⟩ := h
  exact ⟨fun pins s σ H Q I ⟨Δ, Qd, B, R, hr, hw, k⟩ => p.run pins s σ H Q I (r Δ Qd σ H B R hr hw Q k)⟩
theorem CT.pt {w : WT} (h : CT X e w) : PT X e (TTof X.K w) := by
  obtain ⟨te, p, r⟩ := h
  exact ⟨fun pins s σ H Q I ⟨Δ, Qd, B, R, hr, hw, k⟩ => p.run pins s σ H Q I (r Δ Qd σ H B R hr hw Q k)⟩
theorem CG.pg {S : Nat → Prop} {w : WG} (h : CG X S e w) : PG X e (TGof X.K S w) := by
  obtain ⟨te, p, r⟩ := h
  exact ⟨fun pins s σ H v u Q I rv ⟨t, Δ, Qd, B, R, G, hr, rp, hw, k⟩ => p.run pins s σ H v u Q I rv (r t Δ Qd σ H B R G v hr rp hw Q k)⟩
theorem CI.pi {w : WI} (h : CI X tg e w) : PI X tg e (TIof X.K w) := by
  obtain ⟨te, p, r⟩ := h
  exact ⟨fun pins s σ H Rr I ⟨Δ, Qd, B, R, hr, hw, k⟩ => p.run pins s σ H Rr I (r Δ Qd σ H B R hr hw Rr k)⟩
theorem rf_TE {K : Frag} {w : WE} : RfE K (TEof K w) w := fun Δ Q σ H B R hr hw Qv k => ⟨Δ, Q, B, R, hr, hw, k⟩
theorem rf_TT {K : Frag} {w : WT} : RfT K (TTof K w) w := fun Δ Q σ H B R hr hw Qv k => ⟨Δ, Q, B, R, hr, hw, k⟩
theorem rf_TG {K : Frag} {S : Nat → Prop} {w : WG} : RfG K S (TGof K S w) w := fun t Δ Q σ H B R G v hr r hw Qv k => ⟨t, Δ, Q, B, R, G, hr, r, hw, k⟩
theorem rf_TI {K : Frag} {w : WI} : RfI K (TIof K w) w := fun Δ Q σ H B R hr hw Qv k => ⟨Δ, Q, B, R, hr, hw, k⟩
end

/-! ### what is walked -/
def keyT : Key → T
  | .inl i => .int i
  | .inr x => .str x
def strT (x : Str) : List T := x.cps.toList.map fun c => .str ⟨#[c]⟩
def rngT (lo : Int) (n : Nat) : List T := (List.range n).map fun k : Nat => .int (lo + (k : Int))
def enumT : Nat → List T → List T
  | _, [] => []
  | n, x :: r => .tup [.int (n : Int), x] :: enumT (n + 1) r
def wiList (w : WE) : WI := fun Δ Q => w Δ fun p Δ1 => wTake p Δ1 fun t Δ2 => match t with
  | .lst _ xs => Q (frzL xs) Δ2
  | _ => False
def wiTup (w : WE) : WI := fun Δ Q => w Δ fun p Δ1 => wTake p Δ1 fun t Δ2 => match t with
  | .tup xs => Q (frzL xs) Δ2
  | _ => False
def wiStr (w : WE) : WI := fun Δ Q => w Δ fun p Δ1 => onV Δ1 p fun t => match t with
  | .str x => Q (strT x) Δ1
  | _ => False
def wiRng1 (wa : WA) : WI := fun Δ Q => wa Δ fun ps Δ1 => onVs Δ1 ps fun ts => match ts with
  | [.int j] => -(2 ^ 62) ≤ j ∧ j < 2 ^ 62 ∧ Q (rngT 0 j.toNat) Δ1
  | _ => False
def wiRng2 (wa : WA) : WI := fun Δ Q => wa Δ fun ps Δ1 => onVs Δ1 ps fun ts => match ts with
  | [.int i, .int j] => (-(2 ^ 62) ≤ i ∧ i < 2 ^ 62 ∧ -(2 ^ 62) ≤ j ∧ j < 2 ^ 62) ∧ Q (rngT i (j - i).toNat) Δ1
  | _ => False
def wiEnum (wa : WA) : WI := fun Δ Q => wa Δ fun ps Δ1 => match ps with
  | [p] => wTake p Δ1 fun t Δ2 => match t with
    | .lst _ xs => Q (enumT 0 (frzL xs)) Δ2
    | _ => False
  | _ => False
theorem enumT_get : ∀ {xs : List T} {n i : Nat}, (enumT n xs)[i]? = xs[i]?.map fun x => .tup [.int ((n + i : Nat) : Int), x]
  | [], n, i => by simp [enumT]
  | x :: r, n, 0 => by simp [enumT]
  | x :: r, n, i + 1 => by
    simp only [enumT, List.getElem?_cons_succ]
    rw [enumT_get (xs := r) (n := n + 1) (i := i), show n + 1 + i = n + (i + 1) by omega]
theorem enumT_len : ∀ {xs : List T} {n : Nat}, (enumT n xs).length = xs.length
  | [], _ => rfl
  | x :: r, n => by simp [enumT, enumT_len (xs := r)]
section
variable {K : Frag} {B H : Hp} {te : TE} {we : WE} {ta : TA} {wa : WA}
theorem itR_list {a : Addr} {ts : List T} {F : List Addr} (r : Rp K B H (.ref a) (.lst false ts) F) : ItR K B (Itl K a) ts := by
  cases r with
  | lstF h1 h2 =>
    intro i B2 H2 hl hs
    have q : SqL K H2 _ _ := (hs.le.rdL (hl.rdL h1)).sq
    refine ⟨fun t e => ?_, fun hi => ⟨_, q, by rw [h2.length]; exact hi⟩⟩
    obtain ⟨v, e1, r1⟩ := h2.get_t e
    refine ⟨⟨_, v, q, e1⟩, fun x H3 ⟨eH, hx⟩ => ?_⟩
    have e2 := hx _ q
    rw [e1] at e2; cases e2
    subst eH
    exact ⟨Same.refl _, B2, Le.refl _, hs, r1.mono hl (fun _ z => nomatch z), fun _ _ => rfl⟩
theorem itR_tup {a : Addr} {ts : List T} (r : Rp K B H (.ref a) (.tup ts) []) : ItR K B (Itt K a) ts := by
  cases r with
  | tup h1 h2 =>
    intro i B2 H2 hl hs
    have q := hs.le.sqT (hl.sqT h1)
    refine ⟨fun t e => ?_, fun hi => ⟨_, q, by rw [h2.length]; exact hi⟩⟩
    obtain ⟨v, e1, r1⟩ := h2.get_t e
    refine ⟨⟨_, v, q, e1⟩, fun x H3 ⟨eH, hx⟩ => ?_⟩
    have e2 := hx _ q
    rw [e1] at e2; cases e2
    subst eH
    exact ⟨Same.refl _, B2, Le.refl _, hs, r1.mono hl (fun _ z => nomatch z), fun _ _ => rfl⟩
theorem itR_str {x : Str} : ItR K B (Its x) (strT x) := by
  intro i B2 H2 hl hs
  refine ⟨fun t e => ?_, fun hi => by show x.cps.size ≤ i; simpa [strT] using hi⟩
  unfold strT at e
  rw [List.getElem?_map] at e
  cases q : x.cps.toList[i]? with
  | none => rw [q] at e; cases e
  | some c =>
    rw [q] at e; cases e
    have hi : i < x.cps.size := by simpa using (List.getElem?_eq_some_iff.mp q).1
    refine ⟨hi, fun y H3 ⟨eH, c', e1, e2⟩ => ?_⟩
    subst eH
    have : c' = c := by rw [Array.getElem?_toList] at q; rw [q] at e1; cases e1; rfl
    subst this; subst e2
    exact ⟨Same.refl _, B2, Le.refl _, hs, .str _, fun _ _ => rfl⟩
theorem itR_rng {lo : Int} {n : Nat} : ItR K B (Itr lo n) (rngT lo n) := by
  intro i B2 H2 hl hs
  refine ⟨fun t e => ?_, fun hi => by show n ≤ i; simpa [rngT] using hi⟩
  unfold rngT at e
  rw [List.getElem?_map] at e
  cases q : (List.range n)[i]? with
  | none => rw [q] at e; cases e
  | some c =>
    rw [q] at e; cases e
    obtain ⟨hi, e1⟩ := List.getElem?_eq_some_iff.mp q
    simp at hi e1
    subst e1
    refine ⟨hi, fun y H3 ⟨eH, e2⟩ => ?_⟩
    subst eH; subst e2
    exact ⟨Same.refl _, B2, Le.refl _, hs, .int _, fun _ _ => rfl⟩
theorem itR_enum {a : Addr} {ts : List T} {F : List Addr} (r : Rp K B H (.ref a) (.lst false ts) F) : ItR K B (Ite K a) (enumT 0 ts) := by
  cases r with
  | lstF h1 h2 =>
    intro i B2 H2 hl hs
    have q : SqL K H2 _ _ := (hs.le.rdL (hl.rdL h1)).sq
    refine ⟨fun t e => ?_, fun hi => ⟨_, q, by rw [h2.length]; rw [enumT_len] at hi; exact hi⟩⟩
    rw [enumT_get] at e
    cases e0 : ts[i]? with
    | none => rw [e0] at e; cases e
    | some t0 =>
      rw [e0] at e
      obtain ⟨v, e1, r1⟩ := h2.get_t e0
      refine ⟨⟨_, v, q, e1⟩, fun x H3 ⟨Tp, y, ex, hn, eH, hx⟩ => ?_⟩
      have e2 := hx _ q
      rw [e1] at e2; cases e2
      subst eH; subst ex
      have et : t = .tup [.int ((0 + i : Nat) : Int), t0] := (Option.some.inj e).symm
      subst et
      have hnB := hs.none hn
      refine ⟨(Ext.new hn).1, upd B2 Tp (.tup [.int (i : Nat), v]), Le.of_same (Ext.new hnB).1, fun b o z => ?_, .tup (F := [] ++ ([] ++ [])) (.inl (.inl upd_same)) (.cons ?_ (.cons ?_ .nil)), fun b hb => ?_⟩
      · by_cases hbT : b = Tp
        · subst hbT; rw [upd_same] at z ⊢; exact z
        · rw [upd_ne hbT] at z ⊢; exact hs b o z
      · rw [Nat.zero_add]; exact .int _
      · exact r1.mono (hl.trans (Le.of_same (Ext.new hnB).1)) fun _ z => nomatch z
      · exact upd_ne (fun z => hb (by rw [z]; exact hn))
theorem rf_iList (h : RfE K te we) : RfI K (iList K te) (wiList we) := fun Δ Q σ H B R hr hw Rr k => by
  refine h Δ _ σ H B R hr hw _ fun p Δ1 v H1 B1 q hl hk o => ?_
  obtain ⟨t, Δ2, B2, q2, hle, r, hr2⟩ := take_fr o q
  cases t with
  | lst c xs =>
    simp only [frz] at r
    obtain ⟨a, vs, F', e, hs, hL⟩ := r.lst_inv hr2.sub
    subst e
    exact ⟨a, rfl, ⟨vs, hs⟩, k _ _ Δ2 H1 B2 q2 (hl.trans hle) hk hr2 (itR_list r)⟩
  | _ => exact q2.elim
theorem rf_iTup (h : RfE K te we) : RfI K (iTup K te) (wiTup we) := fun Δ Q σ H B R hr hw Rr k => by
  refine h Δ _ σ H B R hr hw _ fun p Δ1 v H1 B1 q hl hk o => ?_
  obtain ⟨t, Δ2, B2, q2, hle, r, hr2⟩ := take_fr o q
  cases t with
  | tup xs =>
    simp only [frz] at r
    obtain ⟨a, vs, e, hs, hL⟩ := r.tup_inv hr2.sub
    subst e
    exact ⟨a, rfl, ⟨vs, hs⟩, k _ _ Δ2 H1 B2 q2 (hl.trans hle) hk hr2 (itR_tup r)⟩
  | _ => exact q2.elim
theorem rf_iStr (h : RfE K te we) : RfI K (iStr te) (wiStr we) := fun Δ Q σ H B R hr hw Rr k => by
  refine h Δ _ σ H B R hr hw _ fun p Δ1 v H1 B1 q hl hk ⟨G, pr, hr1⟩ => ?_
  obtain ⟨t, F, r, q2⟩ := pr.tree hr1 q
  cases t with
  | str x => exact ⟨x, r.str_inv.1, k _ _ Δ1 H1 B1 q2 hl hk hr1.drop itR_str⟩
  | _ => exact q2.elim
theorem rf_iRng1 (h : RfA K ta wa) : RfI K (iRng1 ta) (wiRng1 wa) := fun Δ Q σ H B R hr hw Rr k => by
  refine h Δ _ σ H B R hr hw _ fun ps Δ1 vs H1 B1 q hl hk ⟨G, pr, hr1⟩ => ?_
  obtain ⟨ts, F, r, q2⟩ := pr.trees hr1 q
  match ts, r, q2 with
  | [.int j], .cons r1 .nil, q2 => exact ⟨j, by rw [r1.int_inv.1], q2.1, q2.2.1, k _ _ Δ1 H1 B1 q2.2.2 hl hk hr1.drop itR_rng⟩
theorem rf_iRng2 (h : RfA K ta wa) : RfI K (iRng2 ta) (wiRng2 wa) := fun Δ Q σ H B R hr hw Rr k => by
  refine h Δ _ σ H B R hr hw _ fun ps Δ1 vs H1 B1 q hl hk ⟨G, pr, hr1⟩ => ?_
  obtain ⟨ts, F, r, q2⟩ := pr.trees hr1 q
  match ts, r, q2 with
  | [.int i, .int j], .cons r1 (.cons r2 .nil), q2 => exact ⟨i, j, by rw [r1.int_inv.1, r2.int_inv.1], q2.1, k _ _ Δ1 H1 B1 q2.2 hl hk hr1.drop itR_rng⟩
theorem OutL.one {R : List Addr} {σ : Sg} {Δ : Dt} {p : PV} {vs : List V} (h : OutL K B H R σ Δ [p] vs) : ∃ v, vs = [v] ∧ Out K B H R σ Δ p v := by
  obtain ⟨G, pr, hr⟩ := h
  cases pr with
  | cons h1 h2 =>
    cases h2 with
    | nil => rw [List.append_nil] at hr; exact ⟨_, rfl, _, h1, hr⟩
theorem rf_iEnum (h : RfA K ta wa) : RfI K (iEnum K ta) (wiEnum wa) := fun Δ Q σ H B R hr hw Rr k => by
  refine h Δ _ σ H B R hr hw _ fun ps Δ1 vs H1 B1 q hl hk o => ?_
  match ps, o, q with
  | [p], o, q =>
    obtain ⟨v, rfl, o1⟩ := o.one
    obtain ⟨t, Δ2, B2, q2, hle, r, hr2⟩ := take_fr o1 q
    cases t with
    | lst c xs =>
      simp only [frz] at r
      obtain ⟨a, vs, F', e, hs, hL⟩ := r.lst_inv hr2.sub
      subst e
      exact ⟨a, vs, rfl, hs, k _ _ Δ2 H1 B2 q2 (hl.trans hle) hk hr2 (itR_enum r)⟩
    | _ => exact q2.elim
end
section
variable {X : Cx} {tg e a b : Expr} {we : WE} {wa : WA} {p pos : Pos}
theorem ci_list (h : CE X e we) : CI X tg e (wiList we) := by
  obtain ⟨te, p, r⟩ := h
  exact ⟨_, pi_list p, rf_iList r⟩
theorem ci_tup (h : CE X e we) : CI X tg e (wiTup we) := by
  obtain ⟨te, p, r⟩ := h
  exact ⟨_, pi_tup p, rf_iTup r⟩
theorem ci_str (h : CE X e we) : CI X tg e (wiStr we) := by
  obtain ⟨te, p, r⟩ := h
  exact ⟨_, pi_str p, rf_iStr r⟩
theorem ci_rng1 (hg : Gl X "range") (hm : X.mg "range" = none) (h : CA X [a] wa) (hs : starEach [a] X.env = [(false, eval a X.env)] := by rfl) : CI X tg (.Call (.Name "range" p) [a] [] pos) (wiRng1 wa) := by
  obtain ⟨te, p, r⟩ := h
  exact ⟨_, pi_range1 hg hm p hs, rf_iRng1 r⟩
theorem ci_rng2 (hg : Gl X "range") (hm : X.mg "range" = none) (h : CA X [a, b] wa) (hs : starEach [a, b] X.env = [(false, eval a X.env), (false, eval b X.env)] := by rfl) (hs2 : starEach [b] X.env = [(false, eval b X.env)] := by rfl) :
    CI X tg (.Call (.Name "range" p) [a, b] [] pos) (wiRng2 wa) := by
  obtain ⟨te, p, r⟩ := h
  exact ⟨_, pi_range2 hg hm p hs hs2, rf_iRng2 r⟩
theorem ci_enum {elts : List Expr} {kk : Nat} {tpos : Pos} (hg : Gl X "enumerate") (hm : X.mg "enumerate" = none) (h : CA X [e] wa) (hs : starEach [e] X.env = [(false, eval e X.env)] := by rfl) :
    CI X (.Tuple elts kk tpos) (.Call (.Name "enumerate" p) [e] [] pos) (wiEnum wa) := by
  obtain ⟨te, p, r⟩ := h
  exact ⟨_, pi_enum hg hm p hs, rf_iEnum r⟩
end

/-! ### comprehensions -/
def wipeD (Δ : Dt) : List Nat → Dt
  | [] => Δ
  | v :: vs => (wipeD Δ vs).set v none
def wTs (Q : Bool → Dt → Prop) (Δ : Dt) : Prop := Q true Δ
def wYes : WT := fun Δ Q => Q true Δ
structure CTs (X : Cx) (ifs : List Expr) (w : WT) : Prop where
  ex : ∃ tt, PTs X ifs tt ∧ RfT X.K tt w
theorem CTs.pts {X : Cx} {ifs : List Expr} {w : WT} (h : CTs X ifs w) : PTs X ifs (TTof X.K w) := by
  obtain ⟨te, p, r⟩ := h
  exact ⟨fun pins s σ H Q I ⟨Δ, Qd, B, R, hr, hw, k⟩ => p.run pins s σ H Q I (r Δ Qd σ H B R hr hw Q k)⟩
theorem cts_nil {X : Cx} : CTs X [] wYes := ⟨_, pts_nil, fun Δ Q σ H B R hr hw Qv k => k true Δ H B hw (Le.refl B) Keep.refl hr⟩
theorem cts_one {X : Cx} {c : Expr} {w : WT} (h : CT X c w) : CTs X [c] w := by
  obtain ⟨te, p, r⟩ := h
  exact ⟨_, pts_one p, r⟩
def wLc (wi : WI) (wg : WG) (wt : WT) (we : WE) (vs : List Nat) : WE := fun Δ Q => wi Δ fun ts Δ1 => ∃ Pv : Nat → List T → Dt → Prop, Pv 0 [] (wipeD Δ1 vs) ∧
  (∀ i t acc Δ2, ts[i]? = some t → Pv i acc Δ2 → wg t Δ2 fun Δ3 => wt Δ3 fun b Δ4 => if b = true then we Δ4 fun p Δ5 => wTake p Δ5 fun y Δ6 => acc.length < sizeLine ∧ Pv (i + 1) (acc ++ [frz y]) (wipeD Δ6 vs) else Pv (i + 1) acc (wipeD Δ4 vs)) ∧
  ∀ acc Δ2, Pv ts.length acc Δ2 → Q (.val (.lst true acc)) (wipeD Δ2 vs)
section
variable {K : Frag} {B B' H H' : Hp} {R : List Addr} {σ σ' : Sg} {Δ : Dt}
theorem Rep.wipe (h : Rep K B H R σ Δ) : ∀ vs : List Nat, Rep K B H R (L2.wipe σ vs) (wipeD Δ vs)
  | [] => h
  | v :: vs => Rep.set (G := []) (x := none) (d := none) (h.wipe vs) rfl
theorem wipeD_get {i : Nat} : ∀ {vs : List Nat} {Δ : Dt} {t : T}, (wipeD Δ vs)[i]? = some (some t) → i ∉ vs
  | [], Δ, t, _ => by simp
  | v :: vs, Δ, t, h => by
    simp only [wipeD] at h
    by_cases e : v = i
    · subst e
      rw [List.getElem?_set] at h
      simp at h
    · rw [List.getElem?_set_ne e] at h
      have := wipeD_get h
      simp only [List.mem_cons, not_or]
      exact ⟨fun z => e z.symm, this⟩
theorem RpS.swap : ∀ {σ σ' : Sg} {Δ : Dt} {F : List Addr}, RpS K B H σ Δ F → σ'.length = σ.length → (∀ (i : Nat) t, Δ[i]? = some (some t) → σ'[i]? = σ[i]?) → RpS K B H σ' Δ F
  | _, [], _, _, .nil, _, _ => .nil
  | _, _ :: _, _, _, .nil, h, _ => by simp at h
  | _, [], _, _, .cons h1 h2, h, _ => by simp at h
  | _, y :: σ', _, _, .cons (x := x) (d := d) h1 h2, h, k => by
    refine .cons ?_ (RpS.swap h2 (by simpa using h) fun i t e => by simpa using k (i + 1) t (by simpa using e))
    cases d with
    | none => cases y <;> cases x <;> exact h1
    | some t => have := k 0 t rfl; simp at this; subst this; exact h1
theorem Rep.unwipe {vs : List Nat} (h : Rep K B H R (L2.wipe σ vs) (wipeD Δ vs)) : Rep K B H R σ (wipeD Δ vs) := by
  obtain ⟨F, h1, h2⟩ := h.fp
  exact ⟨h.sub, F, h1.swap (by rw [L2.wipe_length]) fun i t e => (wipe_out (wipeD_get e)).symm, h2⟩
theorem wipe_ext : ∀ {vs : List Nat} {σ σ' : Sg}, σ'.length = σ.length → (∀ j : Nat, j ∉ vs → σ'[j]? = σ[j]?) → L2.wipe σ' vs = L2.wipe σ vs := by
  intro vs σ σ' hl h
  have step : ∀ (vs : List Nat) (σ : Sg) (j : Nat), (L2.wipe σ vs)[j]? = if j ∈ vs then (if j < σ.length then some none else none) else σ[j]? := by
    intro vs
    induction vs with
    | nil => intro σ j; simp [L2.wipe]
    | cons v vs ih =>
      intro σ j
      simp only [L2.wipe, List.getElem?_set, ih, L2.wipe_length, List.mem_cons]
      by_cases e : v = j
      · subst e; simp
      · have e' : ¬ j = v := fun z => e z.symm
        simp [e, e']
  apply List.ext_getElem?
  intro j
  rw [step, step, hl]
  by_cases hj : j ∈ vs
  · simp [hj]
  · simp [hj, h j hj]
theorem Rep.updR {a : Addr} {o : HO} (h : Rep K B H (a :: R) σ Δ) : Rep K B (upd H a o) (a :: R) σ Δ ∧ Keep R H (upd H a o) := by
  obtain ⟨F, h1, h2⟩ := h.fp
  have hc := (h2 a).1
  simp only [List.count_append, List.count_cons_self] at hc
  have nF : ∀ b ∈ F, b ≠ a := fun b hb z => by subst z; have := List.count_pos_iff.mpr hb; omega
  have nR : ∀ b ∈ R, b ≠ a := fun b hb z => by subst z; have := List.count_pos_iff.mpr hb; omega
  refine ⟨⟨fun b o' e => ?_, F, h1.mono (Le.refl B) fun b hb => upd_ne (nF b hb), fun b => ⟨(h2 b).1, fun z => ⟨((h2 b).2 z).1, ?_⟩⟩⟩, fun b hb => upd_ne (nR b hb)⟩
  · have hn : b ≠ a := fun z => by
      subst z
      have := ((h2 b).2 (List.mem_append_right _ List.mem_cons_self)).1
      rw [e] at this; cases this
    rw [upd_ne hn]; exact h.sub b o' e
  · by_cases hb : b = a
    · subst hb; rw [upd_same]; simp
    · rw [upd_ne hb]; exact ((h2 b).2 z).2
end
theorem rf_lc {K : Frag} {ti : TI} {wi : WI} {g : TG} {wg : WG} {tt : TT} {wt : WT} {te : TE} {we : WE} {vs : List Nat} (hi : RfI K ti wi) (hg : RfG K (Own vs) g wg) (ht : RfT K tt wt) (he : RfE K te we) : RfE K (tLc ti g tt te vs) (wLc wi wg wt we vs) := fun Δ Q σ H B R hr hw Qv k => by
  refine hi Δ _ σ H B R hr hw _ fun J ts Δ1 H1 B1 q hl hk hr1 hJ => ?_
  obtain ⟨Pv, h0, hs, hd⟩ := q
  intro D hD
  have hx := Ext.new (o := .lst []) hD
  have hr2 : Rep K B1 (upd H1 D (.lst [])) ([D] ++ R) (L2.wipe σ vs) (wipeD Δ1 vs) := (hr1.ext hx).wipe vs
  have hk2 : Keep R H1 (upd H1 D (.lst [])) := hr1.keepExt hx.1
  refine ⟨fun i m H' => m = ts.length - i ∧ i ≤ ts.length ∧ ∃ acc va Δ' B', Pv i acc Δ' ∧ H' D = some (.lst va) ∧ RpL K B' H' va acc [] ∧ Le B1 B' ∧ Keep R H1 H' ∧ Rep K B' H' (D :: R) (L2.wipe σ vs) Δ',
    ⟨_, rfl, Nat.zero_le _, [], [], _, B1, h0, upd_same, .nil, Le.refl _, hk2, hr2⟩, fun i m H2 hW => ?_⟩
  obtain ⟨rfl, hle, acc, va, Δ2, B2, hp, hD2, hL, hl2, hk2, hr2⟩ := hW
  obtain ⟨hgo, hst⟩ := hJ i B2 H2 hl2 hr2.sub
  by_cases hi : i < ts.length
  · right
    obtain ⟨go, yl⟩ := hgo ts[i] (by simp [hi])
    refine ⟨go, fun H' => ∃ acc va Δ' B', Pv (i + 1) acc Δ' ∧ H' D = some (.lst va) ∧ RpL K B' H' va acc [] ∧ Le B1 B' ∧ Keep R H1 H' ∧ Rep K B' H' (D :: R) (L2.wipe σ vs) Δ',
      fun H' ⟨acc, va, Δ', B', z⟩ => ⟨ts.length - (i + 1), by omega, rfl, by omega, acc, va, Δ', B', z⟩, fun x H3 hy => ?_⟩
    obtain ⟨hsame, B3, hl3, hs3, r3, hn3⟩ := yl x H3 hy
    have hr3 : Rep K B3 H3 (D :: R) (L2.wipe σ vs) Δ2 := hr2.grow hsame hl3 hs3 hn3
    have hk3 : Keep (D :: R) H2 H3 := hr2.keepExt hsame
    refine hg ts[i] Δ2 _ (L2.wipe σ vs) H3 B3 (D :: R) [] x hr3 r3 (hs i ts[i] acc Δ2 (by simp [hi]) hp) _ fun Δ3 σ3 H4 B4 q3 hl4 hk4 hσ hr4 hlen => ?_
    have hwp : L2.wipe σ3 vs = L2.wipe σ vs := by
      rw [wipe_ext (σ := L2.wipe σ vs) hlen hσ]
      exact wipe_ext (L2.wipe_length _ _) fun j hj => wipe_out hj
    refine ⟨hwp, ht Δ3 _ σ3 H4 B4 (D :: R) hr4 q3 _ fun b Δ4 H5 B5 q4 hl5 hk5 hr5 => ?_⟩
    have hk25 : Keep (D :: R) H2 H5 := (hk3.trans hk4).trans hk5
    have hl25 : Le B2 B5 := (hl3.trans hl4).trans hl5
    have kr : ∀ {H6 : Hp}, Keep (D :: R) H2 H6 → Keep R H1 H6 := fun z => hk2.trans fun a ha => z a (List.mem_cons_of_mem _ ha)
    cases b with
    | false =>
      show ∃ acc va Δ' B', _
      refine ⟨acc, va, _, B5, q4, by rw [hk25 D List.mem_cons_self]; exact hD2, hL.mono hl25 (fun _ z => nomatch z), hl2.trans hl25, kr hk25, ?_⟩
      rw [← hwp]; exact hr5.wipe vs
    | true =>
      show te σ3 H5 _
      refine he Δ4 _ σ3 H5 B5 (D :: R) hr5 q4 _ fun p Δ5 y H6 B6 q5 hl6 hk6 o => ?_
      obtain ⟨t, Δ6, B7, ⟨hsz, hp'⟩, hl7, r7, hr7⟩ := take_fr o q5
      have hk26 : Keep (D :: R) H2 H6 := hk25.trans hk6
      have hl27 : Le B2 B7 := (hl25.trans hl6).trans hl7
      have hD6 : H6 D = some (.lst va) := by rw [hk26 D List.mem_cons_self]; exact hD2
      obtain ⟨hr8, hk8⟩ := hr7.updR (o := .lst (va ++ [y]))
      have hr8' := hr8.wipe vs
      rw [hwp] at hr8'
      have e1 : RpL K B7 (upd H6 D (.lst (va ++ [y]))) va acc [] := hL.mono hl27 fun _ z => nomatch z
      have e2 : RpL K B7 (upd H6 D (.lst (va ++ [y]))) [y] [frz t] ([] ++ []) := .cons (r7.mono (Le.refl _) fun _ z => nomatch z) .nil
      refine ⟨va, hD6, by rw [hL.length]; exact hsz, acc ++ [frz t], va ++ [y], _, B7, hp', upd_same, RpL.append (F := []) (G := []) e1 e2, hl2.trans hl27, (kr hk26).trans hk8, hr8'⟩
  · left
    have e : i = ts.length := by omega
    subst e
    refine ⟨hst (Nat.le_refl _), k _ _ _ H2 B2 (hd acc Δ2 hp) (hl.trans hl2) (hk.trans hk2) ⟨[D], .lstO hD2 hL, ?_⟩⟩
    have h3 := hr2.wipe vs
    have e4 : L2.wipe (L2.wipe σ vs) vs = L2.wipe σ vs := wipe_ext (L2.wipe_length _ _) fun j hj => wipe_out hj
    rw [e4] at h3
    exact h3.unwipe
section
variable {X : Cx} {np : Nat} {tg iter elt : Expr} {ifs : List Expr} {scope : Scope} {own : List (Str × Nat)} {pos : Pos} {wi : WI} {wg : WG} {wt : WT} {we : WE}
theorem ce_lc (hc : X.calm = true) (hN : X.N.Nodup) (hi : CI X tg iter wi) (ok : BlkOk X.N X.env.scope scope own)
    (hg : ∀ (s : Shared) (H : Hp) (C : Addr) (cl : List (Str × Addr)) (fp : List Addr), CG (X.blk s H scope (compEnvC scope cl C X.env) fp) (Own (own.map (·.2))) tg wg)
    (ht : ∀ (s : Shared) (H : Hp) (C : Addr) (cl : List (Str × Addr)) (fp : List Addr), CTs (X.blk s H scope (compEnvC scope cl C X.env) fp) ifs wt)
    (he : ∀ (s : Shared) (H : Hp) (C : Addr) (cl : List (Str × Addr)) (fp : List Addr), CE (X.blk s H scope (compEnvC scope cl C X.env) fp) elt we)
    (hs : ∀ x, foldedSetIterable iter X.env x = pure x := by intro _; rfl) : CE X (.ListComp elt [⟨tg, iter, ifs, 0⟩] scope pos) (wLc wi wg wt we (own.map (·.2))) :=
  ⟨_, pe_lc hc hN hi.pi ok (fun s H C cl fp => (hg s H C cl fp).pg) (fun s H C cl fp => (ht s H C cl fp).pts) (fun s H C cl fp => (he s H C cl fp).pe) hs, rf_lc rf_TI rf_TG rf_TT rf_TE⟩
theorem cs_setLc {i : Nat} {y : Str} {py spos : Pos} (hc : X.calm = true) (hN : X.N.Nodup) (hy : X.N[i]? = some y) (hyl : X.env.scope.names.lookup y = some .local) (hp : np ≤ i) (hsw : swapsWith (.ListComp elt [⟨tg, iter, ifs, 0⟩] scope pos) (some (.Name y py)) spos.line X.env = pure true)
    (hi : CI X tg iter wi) (ok : BlkOk X.N X.env.scope scope own)
    (hg : ∀ (s : Shared) (H : Hp) (C : Addr) (cl : List (Str × Addr)) (fp : List Addr), CG (X.blk s H scope (compEnvC scope cl C X.env) fp) (Own (own.map (·.2))) tg wg)
    (ht : ∀ (s : Shared) (H : Hp) (C : Addr) (cl : List (Str × Addr)) (fp : List Addr), CTs (X.blk s H scope (compEnvC scope cl C X.env) fp) ifs wt)
    (he : ∀ (s : Shared) (H : Hp) (C : Addr) (cl : List (Str × Addr)) (fp : List Addr), CE (X.blk s H scope (compEnvC scope cl C X.env) fp) elt we)
    (hs : ∀ x, foldedSetIterable iter X.env x = pure x := by intro _; rfl) : CS X np (.Assign [.Name y py] (.ListComp elt [⟨tg, iter, ifs, 0⟩] scope pos) spos) (wAsg (wLc wi wg wt we (own.map (·.2))) (wgN i)) :=
  ⟨fun W tk => ⟨_, ps_setLc hc hN hy hyl hsw hi.pi ok (fun s H C cl fp => (hg s H C cl fp).pg) (fun s H C cl fp => (ht s H C cl fp).pts) (fun s H C cl fp => (he s H C cl fp).pe) hs,
    rf_asg (rf_lc rf_TI rf_TG rf_TT rf_TE) (rf_gN fun j hj => Nat.ne_of_lt (Nat.lt_of_lt_of_le hj hp))⟩⟩
end
end TL

set_option maxRecDepth 100000
set_option maxHeartbeats 1000000
namespace TL
open PySem PySem.Spec PyProof.Rows L2

section
variable {K : Frag} {r r' : R2} {g : T → T → (T → Prop) → Prop}
/-- a scalar comes out: nothing else happens -/
def scT : T → Bool
  | .non => true | .bl _ => true | .int _ => true | .str _ => true
  | _ => false
def scV : T → V
  | .non => .non | .bl b => .bl b | .int i => .int i | .str x => .str x
  | _ => .non
theorem rp_sc {B H : Hp} {t : T} (h : scT t = true) : Rp K B H (scV t) t [] := by
  cases t <;> first | exact .non | exact .bl _ | exact .int _ | exact .str _ | cases h
theorem sc_of {B H : Hp} {v : V} {t : T} {F : List Addr} (h : Rp K B H v t F) (hs : scT t = true) : v = scV t := by
  cases h <;> first | rfl | cases hs
end

/-! ### numbers -/
def gAdd : T → T → (T → Prop) → Prop
  | .int i, .int j, Q => Q (.int (i + j))
  | .str a, .str b, Q => a.length + b.length ≤ sizeLine ∧ Q (.str (a ++ b))
  | .lst _ xs, .lst _ ys, Q => (closedL xs = true ∧ closedL ys = true) ∧ xs.length + ys.length ≤ sizeLine ∧ Q (.lst true (xs ++ ys))
  | .tup xs, .tup ys, Q => (closedL xs = true ∧ closedL ys = true) ∧ xs.length + ys.length ≤ sizeLine ∧ Q (.tup (xs ++ ys))
  | _, _, _ => False
def gSub : T → T → (T → Prop) → Prop
  | .int i, .int j, Q => Q (.int (i - j))
  | _, _, _ => False
def bigI (i : Int) (n : Nat) : Prop := i.natAbs < 2 ^ n
def gMul : T → T → (T → Prop) → Prop
  | .int i, .int j, Q => i.natAbs.log2 + j.natAbs.log2 < 1000000 ∧ Q (.int (i * j))
  | .lst _ xs, .int k, Q => closedL xs = true ∧ -(2 ^ 63) ≤ k ∧ k < 2 ^ 63 ∧ xs.length * k.toNat ≤ sizeLine ∧ Q (.lst true (List.replicate k.toNat xs).flatten)
  | _, _, _ => False
def gDiv : T → T → (T → Prop) → Prop
  | .int i, .int j, Q => 0 < j ∧ j.natAbs.log2 < 9000 ∧ Q (.int (i / j))
  | _, _, _ => False
def gMod : T → T → (T → Prop) → Prop
  | .int i, .int j, Q => 0 < j ∧ Q (.int (i % j))
  | _, _, _ => False
def gPow : T → T → (T → Prop) → Prop
  | .int i, .int j, Q => 0 ≤ j ∧ (Builtin.Int.intBits i : Int) * j ≤ 2 ^ 27 ∧ Q (.int (i ^ j.toNat))
  | _, _, _ => False
def gNeg : T → (T → Prop) → Prop
  | .int i, Q => Q (.int (-i))
  | _, _ => False
section
variable {X : Cx} {K : Frag}
theorem opI_of {f : Value → Value → Sem Value} {C : Int → Int → Prop} {g : Int → Int → V} (h : OpR X f (rI C g)) : OpR X f (rI C g) := h
theorem op_powW : OpR X (binaryOp .Pow) (rI (fun i j => 0 ≤ j ∧ (Builtin.Int.intBits i : Int) * j ≤ 2 ^ 27) fun i j => .int (i ^ j.toNat)) := opI fun _ _ _ _ _ _ _ hc q => pow_int hc.1 hc.2 q
theorem lI {C : Int → Int → Prop} {f : Int → Int → T} {g : T → T → (T → Prop) → Prop} (hf : ∀ i j, scT (f i j) = true) (hg : ∀ x y Q, g x y Q → ∃ i j, x = .int i ∧ y = .int j ∧ C i j ∧ Q (f i j)) : LOp K (rI C fun i j => scV (f i j)) g :=
  fun B H x y tx ty Fx Fy hs rx ry Q hw Qv k => by
    obtain ⟨i, j, rfl, rfl, hc, q⟩ := hg _ _ _ hw
    exact ⟨i, j, rx.int_inv.1, ry.int_inv.1, hc, k _ _ H B [] q (Gro.refl hs) (rp_sc (hf i j))⟩
theorem LOp.or {r r' : R2} {g g' h : T → T → (T → Prop) → Prop} (h1 : LOp K r g) (h2 : LOp K r' g') (hh : ∀ x y Q, h x y Q → g x y Q ∨ g' x y Q) : LOp K (fun x y H Q => r x y H Q ∨ r' x y H Q) h :=
  fun B H x y tx ty Fx Fy hs rx ry Q hw Qv k => (hh _ _ _ hw).elim (fun q => .inl (h1 B H x y tx ty Fx Fy hs rx ry Q q Qv k)) fun q => .inr (h2 B H x y tx ty Fx Fy hs rx ry Q q Qv k)
theorem LOp.to {r : R2} {g h : T → T → (T → Prop) → Prop} (h1 : LOp K r g) (hh : ∀ x y Q, h x y Q → g x y Q) : LOp K r h := fun B H x y tx ty Fx Fy hs rx ry Q hw => h1 B H x y tx ty Fx Fy hs rx ry Q (hh _ _ _ hw)

theorem l_sub : LOp K (rI0 fun i j => .int (i - j)) gSub := fun B H x y tx ty Fx Fy hs rx ry Q hw Qv k => by
  match tx, ty, rx, ry, hw with
  | .int i, .int j, rx, ry, hw => exact ⟨i, j, rx.int_inv.1, ry.int_inv.1, k _ _ H B [] hw (Gro.refl hs) (.int _)⟩
theorem l_div : LOp K (rI CDivW fun i j => .int (i / j)) gDiv := lI (C := CDivW) (f := fun i j => .int (i / j)) (fun _ _ => rfl) fun x y Q h => by
  match x, y, h with
  | .int i, .int j, h => exact ⟨i, j, rfl, rfl, ⟨h.1, h.2.1⟩, h.2.2⟩
theorem l_mod : LOp K (rI (fun _ j => 0 < j) fun i j => .int (i % j)) gMod := lI (C := fun _ j => 0 < j) (f := fun i j => .int (i % j)) (fun _ _ => rfl) fun x y Q h => by
  match x, y, h with
  | .int i, .int j, h => exact ⟨i, j, rfl, rfl, h.1, h.2⟩
theorem l_pow : LOp K (rI (fun i j => 0 ≤ j ∧ (Builtin.Int.intBits i : Int) * j ≤ 2 ^ 27) fun i j => .int (i ^ j.toNat)) gPow := lI (f := fun i j => .int (i ^ j.toNat)) (fun _ _ => rfl) fun x y Q h => by
  match x, y, h with
  | .int i, .int j, h => exact ⟨i, j, rfl, rfl, ⟨h.1, h.2.1⟩, h.2.2⟩
theorem l_neg : LUn K (rU fun i => .int (-i)) gNeg := fun B H x tx Fx hs rx Q hw Qv k => by
  match tx, rx, hw with
  | .int i, rx, hw => exact ⟨i, rx.int_inv.1, k _ _ H B [] hw (Gro.refl hs) (.int _)⟩


/-! ### sums of lists, tuples, texts -/
theorem lstX {pins : List (Addr × Obj)} {σ : Sg} {H : Hp} {s : Shared} {a : Addr} {xs : List V} (I : Inv X pins σ H s) (h : RdL X.K H a xs) :
    ∃ (its : List Value) (n : Nat), Vals xs its ∧ xs.length = its.length ∧ xs.length ≤ sizeLine ∧ s.heap.get? a = some { cls := .type "list", data := .seq its.toArray n } := by
  have fin : ObjOk X.prog X.w H s.heap a (.lst xs) → ∃ (its : List Value) (n : Nat), Vals xs its ∧ xs.length = its.length ∧ xs.length ≤ sizeLine ∧ s.heap.get? a = some { cls := .type "list", data := .seq its.toArray n } :=
    fun ⟨z, its, n, r, e⟩ => ⟨its, n, r, r.length, z, e⟩
  rcases h with h | ⟨its, n, e, z, r⟩
  · exact fin (Rd.ok h I.hok)
  · refine ⟨its.toList, n, r, r.length, by rw [r.length, Array.length_toList]; exact z, ?_⟩
    have := I.kIn _ _ e
    simpa using this
def rCatS (K : Frag) : R2 := fun x y H Q => ∃ l b xs zs, x = .ref l ∧ y = .ref b ∧ RdL K H l xs ∧ RdL K H b zs ∧ xs.length + zs.length ≤ sizeLine ∧ ∀ p, H p = none → Q (.ref p) (upd H p (.lst (xs ++ zs)))
theorem op_catS : OpR X (binaryOp .Add) (rCatS X.K) := fun pins s σ H x y v u Q I rx ry h => by
  obtain ⟨l, b, xs, zs, rfl, rfl, h1, h2, hz, q⟩ := h
  cases rx; cases ry
  obtain ⟨its, n, r1, l1, _, e1⟩ := lstX I h1
  obtain ⟨iu, m, r2, l2, _, e2⟩ := lstX I h2
  refine PySem.P.add_list e1 e2 ?_ (by simp only [List.size_toArray]; omega)
  rw [List.append_toArray]
  exact ⟨.ref _, _, I.lnew (r1.append r2) (by rw [List.length_append]; omega), rfl, q _ I.fresh⟩
def rAddA (K : Frag) : R2 := fun x y H Q => (rI0 fun i j => .int (i + j)) x y H Q ∨ (∃ i j, x = .str i ∧ y = .str j ∧ i.length + j.length ≤ sizeLine ∧ Q (.str (i ++ j)) H) ∨ rCatS K x y H Q ∨ rCatA K x y H Q
theorem op_addA : OpR X (binaryOp .Add) (rAddA X.K) := OpR.or op_add (OpR.or op_add_str (OpR.or op_catS op_catA))
theorem rpL_cat {B H : Hp} {vs ws : List V} {ts us : List T} {F G : List Addr} (h1 : RpL K B H vs ts F) (h2 : RpL K B H ws us G) (c1 : closedL ts = true) (c2 : closedL us = true) (H' : Hp) : RpL K B H' (vs ++ ws) (ts ++ us) [] :=
  RpL.append (F := []) (G := []) (h1.cl c1 (Le.refl B)) (h2.cl c2 (Le.refl B))
theorem Ext.same {H H' : Hp} {G : List Addr} (h : Ext H H' G) : Same H H' := h.1
theorem new_lst {B H : Hp} {vs : List V} {ts : List T} {Q : T → Prop} {Qv : VK} (hs : Sub B H) (h : RpL K B H vs ts []) (q : Q (.lst true ts)) (k : ∀ v t H' B' G, Q t → Gro B H B' H' G → Rp K B' H' v t G → Qv v H') : ∀ p, H p = none → Qv (.ref p) (upd H p (.lst vs)) := fun p hp =>
  k _ _ _ B [p] q (Gro.own hs hp) (.lstO upd_same (h.mono (Le.refl B) fun _ z => nomatch z))
theorem new_tup {B H : Hp} {vs : List V} {ts : List T} {Q : T → Prop} {Qv : VK} (hs : Sub B H) (h : RpL K B H vs ts []) (q : Q (.tup ts)) (k : ∀ v t H' B' G, Q t → Gro B H B' H' G → Rp K B' H' v t G → Qv v H') : ∀ p, H p = none → Qv (.ref p) (upd H p (.tup vs)) := fun p hp =>
  k _ _ _ _ [] q (Gro.fro hs hp) (.tup (.inl (.inl upd_same)) (h.mono (Le.of_same (Ext.new (hs.none hp)).1) fun _ z => nomatch z))
theorem l_add : LOp K (rAddA K) gAdd := fun B H x y tx ty Fx Fy hs rx ry Q hw Qv k => by
  match tx, ty, rx, ry, hw with
  | .int i, .int j, rx, ry, hw => exact .inl ⟨i, j, rx.int_inv.1, ry.int_inv.1, k _ _ H B [] hw (Gro.refl hs) (.int _)⟩
  | .str i, .str j, rx, ry, hw => exact .inr (.inl ⟨i, j, rx.str_inv.1, ry.str_inv.1, hw.1, k _ _ H B [] hw.2 (Gro.refl hs) (.str _)⟩)
  | .lst _ xs, .lst _ ys, rx, ry, hw =>
    obtain ⟨a, vs, F1, rfl, h1, r1⟩ := rx.lst_rd hs
    obtain ⟨b, ws, F2, rfl, h2, r2⟩ := ry.lst_rd hs
    exact .inr (.inr (.inl ⟨a, b, vs, ws, rfl, rfl, h1, h2, by rw [r1.length, r2.length]; exact hw.2.1, new_lst hs (rpL_cat r1 r2 hw.1.1 hw.1.2 H) hw.2.2 k⟩))
  | .tup xs, .tup ys, rx, ry, hw =>
    obtain ⟨a, vs, rfl, h1, r1⟩ := rx.tup_inv hs
    obtain ⟨b, ws, rfl, h2, r2⟩ := ry.tup_inv hs
    refine .inr (.inr (.inr ⟨a, b, vs, ws, rfl, rfl, h1, h2, by rw [r1.length, r2.length]; exact hw.2.1, fun e => ?_, fun _ e => ?_, fun _ _ => new_tup hs (rpL_cat r1 r2 hw.1.1 hw.1.2 H) hw.2.2 k⟩))
    · have e1 : xs = [] := List.eq_nil_of_length_eq_zero (by rw [← r1.length, e]; rfl)
      subst e1
      exact k _ _ H B [] hw.2.2 (Gro.refl hs) (ry.c0 (by simpa [closed] using hw.1.2))
    · have e1 : ys = [] := List.eq_nil_of_length_eq_zero (by rw [← r2.length, e]; rfl)
      subst e1
      have q := hw.2.2
      rw [List.append_nil] at q
      exact k _ _ H B [] q (Gro.refl hs) (rx.c0 (by simpa [closed] using hw.1.1))
end
end TL

set_option maxRecDepth 100000
set_option maxHeartbeats 1000000
namespace TL
open PySem PySem.Spec PyProof.Rows L2

/-! ### trees as data: == and repr -/
mutual
def toD : T → PyData
  | .bl b => .bool b | .int i => .int i | .str x => .str x
  | .tup xs => .tuple (toDL xs)
  | .lst _ xs => .list (toDL xs)
  | .non => .none | .dct _ _ => .none | .ins _ _ _ => .none | .fn _ => .none | .ty _ => .none | .exc _ _ _ _ => .none | .exv _ _ => .none
def toDL : List T → List PyData
  | [] => []
  | t :: r => toD t :: toDL r
end
def asc (x : Str) : Bool := x.cps.all (· < 128)
mutual
/-- data without dicts: small ints, plain texts -/
def okT : T → Bool
  | .non => true | .bl _ => true
  | .int n => decide (n.natAbs.log2 < 1920)
  | .str x => asc x
  | .tup xs => okL xs
  | .lst _ xs => okL xs
  | .dct _ _ => false | .ins _ _ _ => false | .fn _ => false | .ty _ => false | .exc _ _ _ _ => false | .exv _ _ => false
def okL : List T → Bool
  | [] => true
  | t :: r => okT t && okL r
end
mutual
def dpT : T → Nat
  | .tup xs => dpL xs + 1
  | .lst _ xs => dpL xs + 1
  | .non => 0 | .bl _ => 0 | .int _ => 0 | .str _ => 0 | .dct _ _ => 0 | .ins _ _ _ => 0 | .fn _ => 0 | .ty _ => 0 | .exc _ _ _ _ => 0 | .exv _ _ => 0
def dpL : List T → Nat
  | [] => 0
  | t :: r => max (dpT t) (dpL r)
end
mutual
/-- at least the length of its repr -/
def wtT : T → Nat
  | .tup xs => wtL xs + 4
  | .lst _ xs => wtL xs + 4
  | .int i => i.natAbs.log2 + 2
  | .str x => 10 * x.length + 2
  | .non => 5 | .bl _ => 5 | .dct _ _ => 0 | .ins _ _ _ => 0 | .fn _ => 0 | .ty _ => 0 | .exc _ _ _ _ => 0 | .exv _ _ => 0
def wtL : List T → Nat
  | [] => 0
  | t :: r => wtT t + 2 + wtL r
end
def eqT (x y : T) : Bool := PyData.eqv (toD x) (toD y)
def shT (x : T) : Str := (toD x).shown
theorem okL_iff : ∀ ts : List T, okL ts = true ↔ ∀ t ∈ ts, okT t = true
  | [] => by simp [okL]
  | t :: r => by simp [okL, okL_iff r]
theorem strOk_of_asc {x : Str} (h : asc x = true) : PyData.strOk x = true := by
  unfold asc at h; unfold PyData.strOk
  rw [Array.all_eq_true] at h ⊢
  intro i hi
  have := h i hi
  simp only [decide_eq_true_eq] at this ⊢
  omega
mutual
theorem canLay_of : ∀ t : T, okT t = true → (toD t).canLay0 = true
  | .tup xs, h => by simp only [okT] at h; simp only [toD, PyData.canLay0]; exact canLayL_of xs h
  | .lst _ xs, h => by simp only [okT] at h; simp only [toD, PyData.canLay0]; exact canLayL_of xs h
  | .int i, h => by simp only [toD, PyData.canLay0]
  | .str x, h => by simp only [okT] at h; simp only [toD, PyData.canLay0]; exact strOk_of_asc h
  | .non, h => by simp only [toD, PyData.canLay0]
  | .bl _, h => by simp only [toD, PyData.canLay0]
  | .dct _ _, h => by simp [okT] at h
  | .ins _ _ _, h => by simp [okT] at h
  | .fn _, h => by simp [okT] at h
  | .ty _, h => by simp [okT] at h
  | .exc _ _ _ _, h => by simp [okT] at h
  | .exv _ _, h => by simp [okT] at h
theorem canLayL_of : ∀ ts : List T, okL ts = true → PyData.canLayAll0 (toDL ts) = true
  | [], _ => by simp only [toDL, PyData.canLayAll0]
  | t :: r, h => by
    simp only [okL, Bool.and_eq_true] at h
    simp only [toDL, PyData.canLayAll0]
    rw [canLay_of t h.1, canLayL_of r h.2]; rfl
end
mutual
theorem showable_of : ∀ t : T, okT t = true → (toD t).showable = true
  | .tup xs, h => by simp only [okT] at h; simp only [toD, PyData.showable]; exact showableL_of xs h
  | .lst _ xs, h => by simp only [okT] at h; simp only [toD, PyData.showable]; exact showableL_of xs h
  | .int i, h => by simp only [okT] at h; simp only [toD, PyData.showable]; exact h
  | .str x, h => by simp only [toD, PyData.showable]
  | .non, h => by simp only [toD, PyData.showable]
  | .bl _, h => by simp only [toD, PyData.showable]
  | .dct _ _, h => by simp [okT] at h
  | .ins _ _ _, h => by simp [okT] at h
  | .fn _, h => by simp [okT] at h
  | .ty _, h => by simp [okT] at h
  | .exc _ _ _ _, h => by simp [okT] at h
  | .exv _ _, h => by simp [okT] at h
theorem showableL_of : ∀ ts : List T, okL ts = true → PyData.showableAll (toDL ts) = true
  | [], _ => by simp only [toDL, PyData.showableAll]
  | t :: r, h => by
    simp only [okL, Bool.and_eq_true] at h
    simp only [toDL, PyData.showableAll]
    rw [showable_of t h.1, showableL_of r h.2]; rfl
end
mutual
theorem depth_of : ∀ t : T, (toD t).depth = dpT t
  | .tup xs => by simp only [toD, PyData.depth, dpT]; rw [depthL_of xs]
  | .lst _ xs => by simp only [toD, PyData.depth, dpT]; rw [depthL_of xs]
  | .int i => by simp only [toD, PyData.depth, dpT]
  | .str x => by simp only [toD, PyData.depth, dpT]
  | .non => by simp only [toD, PyData.depth, dpT]
  | .bl _ => by simp only [toD, PyData.depth, dpT]
  | .dct _ _ => by simp only [toD, PyData.depth, dpT]
  | .ins _ _ _ => by simp only [toD, PyData.depth, dpT]
  | .fn _ => by simp only [toD, PyData.depth, dpT]
  | .ty _ => by simp only [toD, PyData.depth, dpT]
  | .exc _ _ _ _ => by simp only [toD, PyData.depth, dpT]
  | .exv _ _ => by simp only [toD, PyData.depth, dpT]
theorem depthL_of : ∀ ts : List T, PyData.depthAll (toDL ts) = dpL ts
  | [] => by simp only [toDL, PyData.depthAll, dpL]
  | t :: r => by simp only [toDL, PyData.depthAll, dpL]; rw [depth_of t, depthL_of r]
end
theorem eqT_refl {t : T} (h : okT t = true) : eqT t t = true := SeqAt.eqv_refl _ (canLay_of t h)
mutual
theorem toD_frz : ∀ t : T, toD (frz t) = toD t
  | .tup xs => by simp only [frz, toD]; rw [toDL_frz xs]
  | .lst _ xs => by simp only [frz, toD]; rw [toDL_frz xs]
  | .int i => by simp only [frz]
  | .str x => by simp only [frz]
  | .non => by simp only [frz]
  | .bl _ => by simp only [frz]
  | .dct _ _ => by simp only [frz, toD]
  | .ins _ _ _ => by simp only [frz, toD]
  | .fn _ => by simp only [frz]
  | .ty _ => by simp only [frz]
  | .exc _ _ _ _ => by simp only [frz]
  | .exv _ _ => by simp only [frz]
theorem toDL_frz : ∀ ts : List T, toDL (frzL ts) = toDL ts
  | [] => by simp only [frzL]
  | t :: r => by simp only [frzL, toDL]; rw [toD_frz t, toDL_frz r]
end

/-! ### the length of a repr -/
theorem reprChar_le : ∀ c : Nat, c < 128 → (Builtin.Str.reprChar 39 c).length ≤ 10 ∧ (Builtin.Str.reprChar 34 c).length ≤ 10 := by
  have h : ((List.range 128).all fun c => decide ((Builtin.Str.reprChar 39 c).length ≤ 10) && decide ((Builtin.Str.reprChar 34 c).length ≤ 10)) = true := by decide +kernel
  intro c hc
  have := List.all_eq_true.mp h c (List.mem_range.mpr hc)
  simpa using this
theorem foldl_len (q : Nat) (hq : q = 39 ∨ q = 34) : ∀ (l : List Nat) (acc : Array Nat), (∀ c ∈ l, c < 128) → (l.foldl (fun out c => out ++ (Builtin.Str.reprChar q c).toArray) acc).size ≤ acc.size + 10 * l.length
  | [], acc, _ => by simp
  | c :: r, acc, h => by
    have ih := foldl_len q hq r (acc ++ (Builtin.Str.reprChar q c).toArray) fun c hc => h c (List.mem_cons_of_mem _ hc)
    have h1 := reprChar_le c (h c List.mem_cons_self)
    have h2 : (Builtin.Str.reprChar q c).length ≤ 10 := by rcases hq with e | e <;> rw [e] <;> first | exact h1.1 | exact h1.2
    simp only [List.foldl_cons, List.length_cons, Array.size_append, List.size_toArray] at ih ⊢
    omega
theorem reprText_le {x : Str} (h : asc x = true) : (reprText x).length ≤ 10 * x.length + 2 := by
  unfold reprText
  show ((x.cps.foldl (fun out c => out ++ (Builtin.Str.reprChar (reprQuote x) c).toArray) #[reprQuote x]).push (reprQuote x)).size ≤ 10 * x.cps.size + 2
  rw [Array.size_push]
  have hq : reprQuote x = 39 ∨ reprQuote x = 34 := by unfold reprQuote; split <;> simp
  have := foldl_len (reprQuote x) hq x.cps.toList #[reprQuote x] (fun c hc => by
    unfold asc at h
    rw [Array.all_eq_true] at h
    obtain ⟨i, hi, e⟩ := List.mem_iff_getElem.mp hc
    have := h i (by simpa using hi)
    simp only [decide_eq_true_eq] at this
    rw [← e]; simpa using this)
  rw [Array.foldl_toList] at this
  simp only [Array.length_toList] at this
  simp at this ⊢
  omega
theorem piled_sum : ∀ ts : List Str, (ts.map (·.length)).sum + 2 * ts.length = piled ts
  | [] => rfl
  | t :: r => by
    have ih := piled_sum r
    rw [piled_cons, List.map_cons, List.sum_cons, List.length_cons]; omega
theorem listText_le (ts : List Str) : (listText ts).length ≤ piled ts + 4 := by
  have h1 := listText_len_le ts
  have h2 := piled_sum ts
  omega
theorem tupleText_le (ts : List Str) : (tupleText ts).length ≤ piled ts + 4 := by
  have h1 := tupleText_len_le ts
  have h2 := piled_sum ts
  omega
mutual
theorem shown_le : ∀ t : T, okT t = true → (shT t).length ≤ wtT t
  | .tup xs, h => by
    simp only [okT] at h
    simp only [shT, toD, PyData.shown, wtT]
    exact Nat.le_trans (tupleText_le _) (Nat.add_le_add_right (shownL_le xs h) 4)
  | .lst _ xs, h => by
    simp only [okT] at h
    simp only [shT, toD, PyData.shown, wtT]
    exact Nat.le_trans (listText_le _) (Nat.add_le_add_right (shownL_le xs h) 4)
  | .int i, h => by
    simp only [shT, toD, PyData.shown, wtT]
    have h1 := int_text_length_le (a := i) (k := i.natAbs.log2 + 1) (by omega) (by omega)
    rw [PySem.ofString_length]; omega
  | .str x, h => by simp only [okT] at h; simp only [shT, toD, PyData.shown, wtT]; exact reprText_le h
  | .non, h => by simp only [shT, toD, PyData.shown, wtT]; decide
  | .bl b, h => by simp only [shT, toD, PyData.shown, wtT]; cases b <;> decide
  | .dct _ _, h => by simp [okT] at h
  | .ins _ _ _, h => by simp [okT] at h
  | .fn _, h => by simp [okT] at h
  | .ty _, h => by simp [okT] at h
  | .exc _ _ _ _, h => by simp [okT] at h
  | .exv _ _, h => by simp [okT] at h
theorem shownL_le : ∀ ts : List T, okL ts = true → piled (PyData.shownAll (toDL ts)) ≤ wtL ts
  | [], _ => by simp only [toDL, PyData.shownAll, wtL]; exact Nat.le_refl _
  | t :: r, h => by
    simp only [okL, Bool.and_eq_true] at h
    simp only [toDL, PyData.shownAll, wtL, piled_cons]
    have h1 := shown_le t h.1
    have h2 := shownL_le r h.2
    unfold shT at h1
    omega
end

/-! ### what lies there is read as data -/
section
variable {X : Cx} {pins : List (Addr × Obj)} {σ : Sg} {H B : Hp} {s : Shared}
mutual
theorem Rp.reads (I : Inv X pins σ H s) (hs : Sub B H) : ∀ {v : V} {t : T} {F : List Addr}, Rp X.K B H v t F → okT t = true → ∀ {u : Value}, RelV v u → ∃ as, Reads s.heap u (toD t) as
  | _, _, _, .non, _, _, r => by cases r; simp only [toD]; exact ⟨_, .none⟩
  | _, _, _, .bl b, _, _, r => by cases r; simp only [toD]; exact ⟨_, .bool b⟩
  | _, _, _, .int i, _, _, r => by obtain ⟨t, rfl⟩ := r; simp only [toD]; exact ⟨_, .int i t⟩
  | _, _, _, .str x, _, _, r => by obtain ⟨t, rfl⟩ := r; simp only [toD]; exact ⟨_, .str x t⟩
  | _, _, _, .fn a, h, _, _ => by simp [okT] at h
  | _, _, _, .ty n, h, _, _ => by simp [okT] at h
  | _, _, _, .exc0 a x, h, _, _ => by simp [okT] at h
  | _, _, _, .exv0 _, h, _, _ => by simp [okT] at h
  | _, _, _, .exvD _ _ _ _, h, _, _ => by simp [okT] at h
  | _, _, _, .excD _ _ _, h, _, _ => by simp [okT] at h
  | _, _, _, .tup h1 h2, h, _, r => by
    cases r
    obtain ⟨its, rv, ⟨o, e, c, n, d⟩, _⟩ := I.tuple (hs.le.sqT h1)
    obtain ⟨as, q⟩ := RpL.reads I hs h2 (by simpa [okT] using h) rv
    simp only [toD]
    exact ⟨_, .tuple e c d (by simpa using q)⟩
  | _, _, _, .lstF h1 h2, h, _, r => by
    cases r
    obtain ⟨its, n, rv, _, _, e⟩ := lstX I (hs.le.rdL h1)
    obtain ⟨as, q⟩ := RpL.reads I hs h2 (by simpa [okT] using h) rv
    simp only [toD]
    exact ⟨_, .list e rfl rfl (by simpa using q)⟩
  | _, _, _, .lstO h1 h2, h, _, r => by
    cases r
    obtain ⟨its, n, rv, _, _, e⟩ := lstX I (.inl (.inl h1))
    obtain ⟨as, q⟩ := RpL.reads I hs h2 (by simpa [okT] using h) rv
    simp only [toD]
    exact ⟨_, .list e rfl rfl (by simpa using q)⟩
  | _, _, _, .dctF _ _ _, h, _, _ => by simp [okT] at h
  | _, _, _, .dctO _ _ _, h, _, _ => by simp [okT] at h
  | _, _, _, .insF _ _ _, h, _, _ => by simp [okT] at h
  | _, _, _, .insO _ _ _ _, h, _, _ => by simp [okT] at h
theorem RpL.reads (I : Inv X pins σ H s) (hs : Sub B H) : ∀ {vs : List V} {ts : List T} {F : List Addr}, RpL X.K B H vs ts F → okL ts = true → ∀ {us : List Value}, Vals vs us → ∃ as, ReadsAll s.heap us (toDL ts) as
  | _, _, _, .nil, _, _, .nil => by simp only [toDL]; exact ⟨_, .nil⟩
  | _, _, _, .cons h1 h2, h, _, .cons r1 r2 => by
    simp only [okL, Bool.and_eq_true] at h
    obtain ⟨as, q1⟩ := Rp.reads I hs h1 h.1 r1
    obtain ⟨bs, q2⟩ := RpL.reads I hs h2 h.2 r2
    simp only [toDL]
    exact ⟨_, .cons q1 q2⟩
end
end

/-! ### == and != -/
def rEqR (K : Frag) (neg : Bool) : R2 := fun x y H Q => ∃ B tx ty Fx Fy, Sub B H ∧ Rp K B H x tx Fx ∧ Rp K B H y ty Fy ∧ (okT tx = true ∧ okT ty = true) ∧ min (dpT tx) (dpT ty) ≤ 60 ∧ Q (.bl (if neg then !eqT tx ty else eqT tx ty)) H
theorem op_eqR {X : Cx} (hu : X.A.units + 64 < cLine) : OpR X (compareOp .Eq) (rEqR X.K false) := fun pins s σ H x y v u Q I rx ry h => by
  obtain ⟨B, tx, ty, Fx, Fy, hs, r1, r2, ⟨o1, o2⟩, hd, q⟩ := h
  obtain ⟨as, q1⟩ := r1.reads I hs o1 rx
  obtain ⟨bs, q2⟩ := r2.reads I hs o2 ry
  exact SeqAt.compareEq_reads q1 q2 (canLay_of _ o1) (canLay_of _ o2) (by rw [depth_of, depth_of]; omega) ⟨.bl _, H, I, rfl, q⟩
theorem op_neR {X : Cx} (hu : X.A.units + 64 < cLine) : OpR X (compareOp .NotEq) (rEqR X.K true) := fun pins s σ H x y v u Q I rx ry h => by
  obtain ⟨B, tx, ty, Fx, Fy, hs, r1, r2, ⟨o1, o2⟩, hd, q⟩ := h
  obtain ⟨as, q1⟩ := r1.reads I hs o1 rx
  obtain ⟨bs, q2⟩ := r2.reads I hs o2 ry
  exact SeqAt.compareNe_reads q1 q2 (canLay_of _ o1) (canLay_of _ o2) (by rw [depth_of, depth_of]; omega) ⟨.bl _, H, I, rfl, q⟩
def gEqG (neg : Bool) (x y : T) (Q : T → Prop) : Prop := (okT x = true ∧ okT y = true) ∧ min (dpT x) (dpT y) ≤ 60 ∧ Q (.bl (if neg then !eqT x y else eqT x y))
def nb (neg b : Bool) : Bool := if neg then !b else b
/-- scalars at once, the rest as data -/
def gEq (neg : Bool) : T → T → (T → Prop) → Prop
  | .int i, .int j, Q => Q (.bl (nb neg (decide (i = j))))
  | .str i, .str j, Q => Q (.bl (nb neg (decide (i = j))))
  | .bl i, .bl j, Q => Q (.bl (nb neg (decide (i = j))))
  | .non, .non, Q => Q (.bl (nb neg true))
  | .non, .int _, Q => Q (.bl (nb neg false))
  | .int _, .non, Q => Q (.bl (nb neg false))
  | .non, .str _, Q => Q (.bl (nb neg false))
  | .str _, .non, Q => Q (.bl (nb neg false))
  | .non, .bl _, Q => Q (.bl (nb neg false))
  | .bl _, .non, Q => Q (.bl (nb neg false))
  | .int _, .str _, Q => Q (.bl (nb neg false))
  | .str _, .int _, Q => Q (.bl (nb neg false))
  | .bl _, .str _, Q => Q (.bl (nb neg false))
  | .str _, .bl _, Q => Q (.bl (nb neg false))
  | x, y, Q => gEqG neg x y Q
def rEqS (neg : Bool) : R2 := fun x y H Q => scal x y = true ∧ Q (.bl (nb neg (decide (x = y)))) H
theorem gEq_cases {neg : Bool} {x y : T} {Q : T → Prop} (h : gEq neg x y Q) : (scT x = true ∧ scT y = true ∧ scal (scV x) (scV y) = true ∧ Q (.bl (nb neg (decide (scV x = scV y))))) ∨ gEqG neg x y Q := by
  cases x <;> cases y <;> first
    | exact .inr h
    | (refine .inl ⟨rfl, rfl, rfl, ?_⟩; simpa [gEq, scV] using h)
theorem l_eqS {K : Frag} {neg : Bool} : LOp K (fun x y H Q => rEqS neg x y H Q ∨ rEqR K neg x y H Q) (gEq neg) := fun B H x y tx ty Fx Fy hs rx ry Q hw Qv k => by
  rcases gEq_cases hw with ⟨s1, s2, sc, q⟩ | q
  · rw [sc_of rx s1, sc_of ry s2]
    exact .inl ⟨sc, k _ _ H B [] q (Gro.refl hs) (.bl _)⟩
  · exact .inr ⟨B, tx, ty, Fx, Fy, hs, rx, ry, q.1, q.2.1, k _ _ H B [] q.2.2 (Gro.refl hs) (.bl _)⟩
theorem op_eqA {X : Cx} (hu : X.A.units + 64 < cLine) : OpR X (compareOp .Eq) (fun x y H Q => rEqS false x y H Q ∨ rEqR X.K false x y H Q) := OpR.or (r := rEqS false) op_eq (op_eqR hu)
theorem op_neA {X : Cx} (hu : X.A.units + 64 < cLine) : OpR X (compareOp .NotEq) (fun x y H Q => rEqS true x y H Q ∨ rEqR X.K true x y H Q) := OpR.or (r := rEqS true) op_ne (op_neR hu)

/-! ### repr -/
def gRepr : List T → (T → Prop) → Prop
  | [t], Q => okT t = true ∧ dpT t ≤ 60 ∧ wtT t ≤ sizeLine ∧ Q (.str (shT t))
  | _, _ => False
def rRepr (K : Frag) : List V → Hp → VK → Prop := fun xs H Q => ∃ x B t F, xs = [x] ∧ Sub B H ∧ Rp K B H x t F ∧ okT t = true ∧ dpT t ≤ 60 ∧ wtT t ≤ sizeLine ∧ Q (.str (shT t)) H
theorem call_reprA {X : Cx} (hu : X.A.units + 64 < cLine) (hg : X.A.guards = some []) : CallR X (.builtin "repr") (rRepr X.K) := fun pins s σ H xs us Q I r h => by
  obtain ⟨x, B, t, F, rfl, hs, rp, ok, hd, hw, q⟩ := h
  obtain ⟨u, rfl, r1⟩ := vals1 r
  have hsz : (shT t).length ≤ sizeLine := Nat.le_trans (shown_le t ok) hw
  obtain ⟨as, rd⟩ := rp.reads I hs ok r1
  have fin : ∀ (s' : Shared) (k : Tok), Inv X pins σ H s' → EP X pins σ Q (.str (shT t) k) s' := fun s' k I' => ⟨.str _, H, I', ⟨k, rfl⟩, q⟩
  have big : ∀ a, u = .ref a → wpAny (model X.prog X.w) X.A (call (.builtin "repr") [u]) (EP X pins σ Q) X.xe s := fun a e => by
    subst e
    exact repr_of_reads' rd (showable_of t ok) (PyData.noDict_hsm (PyData.hasDict_of_canLay _ (canLay_of t ok))) hg (by rw [depth_of]; omega) (fun _ _ e => e) (fun h' k tk hk => fin _ k (I.kept hk)) hsz
  match t, rp, r1, ok with
  | .non, .non, r1, _ => cases r1; exact PySem.P.repr_of_none (fin _ _ (I.tok _))
  | .bl b, .bl _, r1, _ => cases r1; exact PySem.P.repr_of_bool (fin _ _ (I.tok _))
  | .int i, .int _, r1, ok => obtain ⟨k, rfl⟩ := r1; exact PySem.P.repr_of_int (by simpa [okT] using ok) (fin _ _ (I.tok _))
  | .str z, .str _, r1, ok => obtain ⟨k, rfl⟩ := r1; exact PySem.P.repr_of_str (fin _ _ (I.tok _)) hsz
  | .tup _, .tup _ _, r1, _ => cases r1; exact big _ rfl
  | .lst _ _, .lstF _ _, r1, _ => cases r1; exact big _ rfl
  | .lst _ _, .lstO _ _, r1, _ => cases r1; exact big _ rfl
theorem l_repr {K : Frag} : LCl K (rRepr K) gRepr := fun B H xs ts F hs r Q hw Qv k => by
  match ts, r, hw with
  | [t], .cons r1 .nil, hw => exact ⟨_, B, t, _, rfl, hs, r1, hw.1, hw.2.1, hw.2.2.1, k _ _ H B [] hw.2.2.2 (Gro.refl hs) (.str _)⟩
end TL

set_option maxRecDepth 100000
set_option maxHeartbeats 1000000
namespace TL
open PySem PySem.Spec PyProof.Rows L2

/-! ### comparisons of numbers, is -/
def gCmp (f : Int → Int → Bool) : T → T → (T → Prop) → Prop
  | .int i, .int j, Q => Q (.bl (f i j))
  | _, _, _ => False
theorem l_cmp {K : Frag} {f : Int → Int → Bool} : LOp K (rI0 fun i j => .bl (f i j)) (gCmp f) := fun B H x y tx ty Fx Fy hs rx ry Q hw Qv k => by
  match tx, ty, rx, ry, hw with
  | .int i, .int j, rx, ry, hw => exact ⟨i, j, rx.int_inv.1, ry.int_inv.1, k _ _ H B [] hw (Gro.refl hs) (.bl _)⟩
abbrev gLt := gCmp fun i j => decide (i < j)
abbrev gLe := gCmp fun i j => decide (i ≤ j)
abbrev gGt := gCmp fun i j => decide (j < i)
abbrev gGe := gCmp fun i j => decide (j ≤ i)
def isNon : T → Bool
  | .non => true
  | _ => false
/-- is, is not: of None and of bools -/
def gIs (neg : Bool) : T → T → (T → Prop) → Prop
  | x, .non, Q => Q (.bl (nb neg (isNon x)))
  | .bl a, .bl b, Q => Q (.bl (nb neg (decide (a = b))))
  | _, _, _ => False
def rIsN' (neg : Bool) : R2 := fun x y H Q => y = .non ∧ Q (.bl (nb neg (decide (x = .non)))) H
def rIsB' (neg : Bool) : R2 := fun x y H Q => ∃ a b : Bool, x = .bl a ∧ y = .bl b ∧ Q (.bl (nb neg (decide (a = b)))) H
theorem isNon_V {K : Frag} {B H : Hp} {v : V} {t : T} {F : List Addr} (h : Rp K B H v t F) : decide (v = .non) = isNon t := by
  cases h <;> rfl
theorem l_is {K : Frag} {neg : Bool} : LOp K (fun x y H Q => rIsN' neg x y H Q ∨ rIsB' neg x y H Q) (gIs neg) := fun B H x y tx ty Fx Fy hs rx ry Q hw Qv k => by
  match tx, ty, rx, ry, hw with
  | tx, .non, rx, ry, hw => exact .inl ⟨ry.non_inv.1, by rw [isNon_V rx]; cases tx <;> exact k _ _ H B [] hw (Gro.refl hs) (.bl _)⟩
  | .bl a, .bl b, rx, ry, hw => exact .inr ⟨a, b, rx.bl_inv.1, ry.bl_inv.1, k _ _ H B [] hw (Gro.refl hs) (.bl _)⟩
theorem op_isA {X : Cx} : OpR X (compareOp .Is) (fun x y H Q => rIsN' false x y H Q ∨ rIsB' false x y H Q) := OpR.or (r := rIsN' false) (r' := rIsB' false) op_isN op_isBl
theorem op_isNotA {X : Cx} : OpR X (compareOp .IsNot) (fun x y H Q => rIsN' true x y H Q ∨ rIsB' true x y H Q) := OpR.or (r := rIsN' true) (r' := rIsB' true) op_notN op_notBl

/-! ### in -/
def flT : T → Bool
  | .non => true | .bl _ => true | .int _ => true | .str _ => true
  | _ => false
def inT (x : T) (ys : List T) : Bool := ys.any fun y => eqV (scV y) (scV x)
def gIn (neg : Bool) : T → T → (T → Prop) → Prop
  | x, .lst _ ys, Q => flT x = true ∧ ys.all flT = true ∧ Q (.bl (nb neg (inT x ys)))
  | x, .tup ys, Q => flT x = true ∧ ys.all flT = true ∧ Q (.bl (nb neg (inT x ys)))
  | .str a, .str b, Q => Q (.bl (nb neg (!(Builtin.Str.occurrences b a 0 b.length 1).isEmpty)))
  | _, _, _ => False
theorem flat_of {K : Frag} {B H : Hp} {v : V} {t : T} {F : List Addr} (h : Rp K B H v t F) (f : flT t = true) : flatV v = true ∧ v = scV t := by
  cases h <;> first | exact ⟨rfl, rfl⟩ | cases f
theorem flats_of {K : Frag} {B H : Hp} : ∀ {vs : List V} {ts : List T} {F : List Addr}, RpL K B H vs ts F → ts.all flT = true → vs.all flatV = true ∧ vs = ts.map scV
  | _, _, _, .nil, _ => ⟨rfl, rfl⟩
  | _, _, _, .cons h1 h2, f => by
    simp only [List.all_cons, Bool.and_eq_true] at f
    obtain ⟨a, b⟩ := flat_of h1 f.1
    obtain ⟨c, d⟩ := flats_of h2 f.2
    exact ⟨by simp [a, c], by rw [b, d]; rfl⟩
def rInS' (neg : Bool) : R2 := fun x y H Q => ∃ i j, x = .str i ∧ y = .str j ∧ Q (.bl (nb neg (!(Builtin.Str.occurrences j i 0 j.length 1).isEmpty))) H
theorem any_scV (x : T) : ∀ ys : List T, ((ys.map scV).any fun y => eqV y (scV x)) = ys.any fun y => eqV (scV y) (scV x)
  | [] => rfl
  | y :: r => by simp only [List.map_cons, List.any_cons]; rw [any_scV x r]
theorem l_in {K : Frag} {neg : Bool} : LOp K (fun x y H Q => rIn K neg x y H Q ∨ rInS' neg x y H Q) (gIn neg) := fun B H x y tx ty Fx Fy hs rx ry Q hw Qv k => by
  cases ty with
  | lst o ys =>
    have hw' : flT tx = true ∧ ys.all flT = true ∧ Q (.bl (nb neg (inT tx ys))) := by cases tx <;> exact hw
    obtain ⟨a, vs, F', rfl, h1, r1⟩ := ry.lst_inv hs
    obtain ⟨f1, e1⟩ := flat_of rx hw'.1
    obtain ⟨f2, e2⟩ := flats_of r1 hw'.2.1
    refine .inl ⟨a, vs, rfl, .inl h1, f1, f2, ?_⟩
    have e : inV x vs = inT tx ys := by rw [e1, e2]; exact any_scV tx ys
    rw [e]
    exact k _ _ H B [] hw'.2.2 (Gro.refl hs) (.bl _)
  | tup ys =>
    have hw' : flT tx = true ∧ ys.all flT = true ∧ Q (.bl (nb neg (inT tx ys))) := by cases tx <;> exact hw
    obtain ⟨a, vs, rfl, h1, r1⟩ := ry.tup_inv hs
    obtain ⟨f1, e1⟩ := flat_of rx hw'.1
    obtain ⟨f2, e2⟩ := flats_of r1 hw'.2.1
    refine .inl ⟨a, vs, rfl, .inr h1, f1, f2, ?_⟩
    have e : inV x vs = inT tx ys := by rw [e1, e2]; exact any_scV tx ys
    rw [e]
    exact k _ _ H B [] hw'.2.2 (Gro.refl hs) (.bl _)
  | str b =>
    cases tx with
    | str a => exact .inr ⟨a, b, rx.str_inv.1, ry.str_inv.1, k _ _ H B [] hw (Gro.refl hs) (.bl _)⟩
    | _ => exact hw.elim
  | _ => cases tx <;> exact hw.elim
theorem op_inA {X : Cx} : OpR X (compareOp .In) (fun x y H Q => rIn X.K false x y H Q ∨ rInS' false x y H Q) := OpR.or op_in_seq op_in_str
theorem op_notInA {X : Cx} : OpR X (compareOp .NotIn) (fun x y H Q => rIn X.K true x y H Q ∨ rInS' true x y H Q) := OpR.or op_notIn_seq op_notIn_str
theorem ce_in {X : Cx} {a b : Expr} {wa wb : WE} {pos : Pos} {op : CmpOp} {r : R2} {g : T → T → (T → Prop) → Prop} (ho : OpR X (compareOp op) r) (hl : LOp X.K r g) (ha : CE X a wa) (hb : CE X b wb) (hm : behindInMarks op b = false := by rfl) : CE X (.Compare a [op] [b] pos) (wOp g wa wb) := ce_cmp ho hl ha hb hm
theorem ct_in {X : Cx} {a b : Expr} {wa wb : WE} {pos : Pos} {op : CmpOp} {r : R2} {g : T → T → (T → Prop) → Prop} (ho : OpR X (compareOp op) r) (hl : LOp X.K r g) (ha : CE X a wa) (hb : CE X b wb) (hm : behindInMarks op b = false := by rfl) : CT X (.Compare a [op] [b] pos) (wTest (wOp g wa wb)) := ct_cmp ho hl ha hb hm

/-! ### chains -/
def wChain (g g' : T → T → (T → Prop) → Prop) (wa wb wc : WE) : WE := fun Δ Q => wa Δ fun p Δ1 => wb Δ1 fun q Δ2 => onV Δ2 p fun x => onV Δ2 q fun y => g x y fun t => match t with
  | .bl k => if k = true then (scT y = true ∧ wc Δ2 fun r Δ3 => onV Δ3 r fun z => g' y z fun t => Q (.val t) Δ3) else Q (.val (.bl false)) Δ2
  | _ => False
theorem rf_chain {K : Frag} {r r' : R2} {g g' : T → T → (T → Prop) → Prop} {ta tb tc : TE} {wa wb wc : WE} (h1 : LOp K r g) (h2 : LOp K r' g') (ha : RfE K ta wa) (hb : RfE K tb wb) (hc : RfE K tc wc) : RfE K (tChain r r' ta tb tc) (wChain g g' wa wb wc) := fun Δ Q σ H B R hr hw Qv k => by
  refine ha Δ _ σ H B R hr hw _ fun p Δ1 x H1 B1 hq hl1 hk1 ⟨G1, pr1, hr1⟩ => ?_
  refine hb Δ1 _ σ H1 B1 (G1 ++ R) hr1 hq _ fun q Δ2 y H2 B2 hq2 hl2 hk2 ⟨G2, pr2, hr2⟩ => ?_
  have pr1' := pr1.mono hl2 hk2.left
  obtain ⟨tx, Fx, rx, o2⟩ := pr1'.tree hr2 hq2
  obtain ⟨ty, Fy, ry, o3⟩ := pr2.tree hr2 o2
  refine h1 B2 H2 x y tx ty Fx Fy hr2.sub rx ry _ o3 _ fun v t H3 B3 G hQ he hv => ?_
  have hr3 : Rep K B3 H3 R σ Δ2 := (hr2.drop.drop.gro he).drop
  have hk3 : Keep R H H3 := (hk1.trans hk2.right).trans (hr2.drop.drop.keepExt he.1)
  have hl3 : Le B B3 := (hl1.trans hl2).trans he.2.1
  match t, hv, hQ with
  | .bl b, hv, hQ =>
    refine ⟨b, hv.bl_inv.1, ?_⟩
    cases b with
    | false => exact k _ Δ2 _ H3 B3 hQ hl3 hk3 ⟨[], .bl false, hr3⟩
    | true =>
      obtain ⟨sy, hw2⟩ := hQ
      have ey := sc_of ry sy
      show tc σ H3 _
      refine hc Δ2 _ σ H3 B3 R hr3 hw2 _ fun r' Δ3 z H4 B4 hq4 hl4 hk4 ⟨G4, pr4, hr4⟩ => ?_
      obtain ⟨tz, Fz, rz, o4⟩ := pr4.tree hr4 hq4
      rw [ey]
      refine h2 B4 H4 (scV ty) z ty tz [] Fz hr4.sub (rp_sc sy) rz _ o4 Qv fun v t H5 B5 G5 hQ5 he5 hv5 => ?_
      exact k _ Δ3 v H5 B5 hQ5 ((hl3.trans hl4).trans he5.2.1) ((hk3.trans hk4).trans (hr4.drop.keepExt he5.1)) ⟨G5, hv5, hr4.drop.gro he5⟩
theorem ce_chain {X : Cx} {a b c : Expr} {wa wb wc : WE} {pos : Pos} {op op' : CmpOp} {r r' : R2} {g g' : T → T → (T → Prop) → Prop} (ho : OpR X (compareOp op) r) (ho' : OpR X (compareOp op') r') (hl : LOp X.K r g) (hl' : LOp X.K r' g') (ha : CE X a wa) (hb : CE X b wb) (hc : CE X c wc)
    (hm : lastMarks [op, op'] [b, c] = false := by with_unfolding_all rfl) : CE X (.Compare a [op, op'] [b, c] pos) (wChain g g' wa wb wc) := by
  obtain ⟨t1, p1, r1⟩ := ha
  obtain ⟨t2, p2, r2⟩ := hb
  obtain ⟨t3, p3, r3⟩ := hc
  exact ⟨_, pe_chain ho ho' p1 p2 p3 hm, rf_chain hl hl' r1 r2 r3⟩
theorem ct_chain {X : Cx} {a b c : Expr} {wa wb wc : WE} {pos : Pos} {op op' : CmpOp} {r r' : R2} {g g' : T → T → (T → Prop) → Prop} (ho : OpR X (compareOp op) r) (ho' : OpR X (compareOp op') r') (hl : LOp X.K r g) (hl' : LOp X.K r' g') (ha : CE X a wa) (hb : CE X b wb) (hc : CE X c wc)
    (hm : lastMarks [op, op'] [b, c] = false := by with_unfolding_all rfl) : CT X (.Compare a [op, op'] [b, c] pos) (wTest (wChain g g' wa wb wc)) := by
  obtain ⟨t1, p1, r1⟩ := ha
  obtain ⟨t2, p2, r2⟩ := hb
  obtain ⟨t3, p3, r3⟩ := hc
  exact ⟨_, pt_chain ho ho' p1 p2 p3 hm, rf_test (rf_chain hl hl' r1 r2 r3)⟩

/-! ### an item, a slice -/
def atT {α : Type} (xs : List α) (i : Int) : Option α := atI xs i
def gIx : T → T → (T → Prop) → Prop
  | .lst _ xs, .int i, Q => match atI xs i with
    | some t => closed t = true ∧ Q t
    | none => False
  | .tup xs, .int i, Q => match atI xs i with
    | some t => closed t = true ∧ Q t
    | none => False
  | .str x, .int i, Q => x.length ≤ sizeLine ∧ match atI x.cps.toList i with
    | some c => Q (.str ⟨#[c]⟩)
    | none => False
  | _, _, _ => False
theorem atI_len {α β : Type} {xs : List α} {ys : List β} (h : xs.length = ys.length) {i : Int} {y : β} (e : atI ys i = some y) : ∃ (j : Nat) (x : α), atI xs i = some x ∧ xs[j]? = some x ∧ ys[j]? = some y := by
  unfold atI at e ⊢
  rw [h]
  cases q : ixN ys.length i with
  | none => rw [q] at e; cases e
  | some j =>
    rw [q] at e
    have e' : ys[j]? = some y := e
    have hj : j < ys.length := (List.getElem?_eq_some_iff.mp e').1
    exact ⟨j, xs[j], by simp [hj, h], by simp [hj, h], e'⟩
theorem RpL.geto' {K : Frag} {B H : Hp} : ∀ {vs : List V} {ts : List T} {F : List Addr} {i : Nat} {v : V} {t : T}, RpL K B H vs ts F → vs[i]? = some v → ts[i]? = some t → ∃ G, Rp K B H v t G
  | _, _, _, i, _, _, .nil, e, _ => by simp at e
  | _, _, _, 0, _, _, .cons h1 h2, e1, e2 => by simp at e1 e2; subst e1; subst e2; exact ⟨_, h1⟩
  | _, _, _, i + 1, _, _, .cons h1 h2, e1, e2 => RpL.geto' (i := i) h2 (by simpa using e1) (by simpa using e2)
theorem l_ix {K : Frag} : LOp K (rIx K) gIx := fun B H x y tx ty Fx Fy hs rx ry Q hw Qv k => by
  match tx, ty, rx, ry, hw with
  | .lst _ xs, .int i, rx, ry, hw =>
    obtain ⟨a, vs, F', rfl, h1, r1⟩ := rx.lst_inv hs
    simp only [gIx] at hw
    cases e : atI xs i with
    | none => rw [e] at hw; exact hw.elim
    | some t =>
      rw [e] at hw
      obtain ⟨j, v, e1, e2, e3⟩ := atI_len r1.length e
      obtain ⟨G, r2⟩ := r1.geto' e2 e3
      exact .inl ⟨a, vs, i, v, rfl, ry.int_inv.1, h1, e1, k _ _ H B [] hw.2 (Gro.refl hs) (r2.c0 hw.1)⟩
  | .tup xs, .int i, rx, ry, hw =>
    obtain ⟨a, vs, rfl, h1, r1⟩ := rx.tup_inv hs
    simp only [gIx] at hw
    cases e : atI xs i with
    | none => rw [e] at hw; exact hw.elim
    | some t =>
      rw [e] at hw
      obtain ⟨j, v, e1, e2, e3⟩ := atI_len r1.length e
      obtain ⟨G, r2⟩ := r1.geto' e2 e3
      exact .inr (.inl ⟨a, vs, i, v, rfl, ry.int_inv.1, h1, e1, k _ _ H B [] hw.2 (Gro.refl hs) (r2.c0 hw.1)⟩)
  | .str z, .int i, rx, ry, hw =>
    simp only [gIx] at hw
    cases e : atI z.cps.toList i with
    | none => rw [e] at hw; exact hw.2.elim
    | some c =>
      rw [e] at hw
      exact .inr (.inr ⟨z, i, c, rx.str_inv.1, ry.int_inv.1, hw.1, e, k _ _ H B [] hw.2 (Gro.refl hs) (.str _)⟩)
theorem ce_ix {X : Cx} {a b : Expr} {wa wb : WE} {pos : Pos} (ha : CE X a wa) (hb : CE X b wb) (hs : PlainIx b := by exact fun _ _ => rfl) : CE X (.Subscript a b pos) (wOp gIx wa wb) := by
  obtain ⟨t1, p1, r1⟩ := ha
  obtain ⟨t2, p2, r2⟩ := hb
  exact ⟨_, pe_ix ix_seq p1 p2 hs, rf_op l_ix r1 r2⟩
/-- a part of a slice -/
abbrev WO := Dt → (Option Int → Dt → Prop) → Prop
def RfO (K : Frag) (to : TO) (w : WO) : Prop := ∀ (Δ : Dt) (Q : Option Int → Dt → Prop) (σ : Sg) (H B : Hp) (R : List Addr), Rep K B H R σ Δ → w Δ Q → ∀ Qv : Option Int → Hp → Prop,
  (∀ o Δ' H' B', Q o Δ' → Le B B' → Keep R H H' → Rep K B' H' R σ Δ' → Qv o H') → to σ H Qv
structure CO (X : Cx) (e : Option Expr) (w : WO) : Prop where
  ex : ∃ to, PO X e to ∧ RfO X.K to w
def woN : WO := fun Δ Q => Q none Δ
def woS (w : WE) : WO := fun Δ Q => w Δ fun p Δ1 => onV Δ1 p fun t => match t with
  | .int i => Q (some i) Δ1
  | _ => False
theorem co_none {X : Cx} : CO X none woN := ⟨_, po_none, fun Δ Q σ H B R hr hw Qv k => k none Δ H B hw (Le.refl B) Keep.refl hr⟩
theorem co_some {X : Cx} {e : Expr} {w : WE} (h : CE X e w) : CO X (some e) (woS w) := by
  obtain ⟨te, p, r⟩ := h
  refine ⟨_, po_some p, fun Δ Q σ H B R hr hw Qv k => ?_⟩
  refine r Δ _ σ H B R hr hw _ fun p Δ1 x H1 B1 hq hl1 hk1 ⟨G1, pr1, hr1⟩ => ?_
  obtain ⟨t, F, rx, o⟩ := pr1.tree hr1 hq
  match t, rx, o with
  | .int i, rx, o => exact ⟨i, rx.int_inv.1, k _ Δ1 H1 B1 o hl1 hk1 hr1.drop⟩
def cutT {α : Type} (xs : List α) (lo hi : Option Int) : List α := (xs.drop (HT.sIx xs.length 0 lo)).take (HT.sIx xs.length xs.length hi - HT.sIx xs.length 0 lo)
def gSl (x : T) (lo hi : Option Int) (Q : T → Prop) : Prop := match x with
  | .lst _ xs => closedL xs = true ∧ Q (.lst true (cutT xs lo hi))
  | .tup xs => closedL xs = true ∧ Q (.tup (cutT xs lo hi))
  | .str z => z.length ≤ sizeLine ∧ Q (.str (cutS z lo hi))
  | _ => False
def wSl (w : WE) (wl wh : WO) : WE := fun Δ Q => w Δ fun p Δ1 => wl Δ1 fun l Δ2 => wh Δ2 fun h Δ3 => onV Δ3 p fun x => gSl x l h fun t => Q (.val t) Δ3
def rSlAll (K : Frag) : V → Option Int → Option Int → Hp → VK → Prop := fun x lo hi H Q => rSlL K x lo hi H Q ∨ rSlA K x lo hi H Q ∨ rSlS x lo hi H Q
theorem cut_rp {K : Frag} {B H : Hp} {vs : List V} {ts : List T} {F : List Addr} (h : RpL K B H vs ts F) (c : closedL ts = true) (lo hi : Option Int) : RpL K B H (cutV vs lo hi) (cutT ts lo hi) [] := by
  have h0 := h.c0 c
  unfold cutV cutT
  rw [h.length]
  exact (h0.drop0 _ rfl).take0 _ rfl
theorem ce_slice {X : Cx} {e : Expr} {lo hi : Option Expr} {w : WE} {wl wh : WO} {p2 pos : Pos} (he : CE X e w) (hl : CO X lo wl) (hh : CO X hi wh) : CE X (.Subscript e (.Slice lo hi none p2) pos) (wSl w wl wh) := by
  obtain ⟨t1, p1, r1⟩ := he
  obtain ⟨t2, p2, r2⟩ := hl
  obtain ⟨t3, p3, r3⟩ := hh
  refine ⟨_, pe_slice (r := rSlAll X.K) (SlR.or sl_list (SlR.or sl_tupA sl_str)) p1 p2 p3, fun Δ Q σ H B R hr hw Qv k => ?_⟩
  refine r1 Δ _ σ H B R hr hw _ fun p Δ1 x H1 B1 hq hl1 hk1 ⟨G1, pr1, hr1⟩ => ?_
  refine r2 Δ1 _ σ H1 B1 (G1 ++ R) hr1 hq _ fun l Δ2 H2 B2 hq2 hl2 hk2 hr2 => ?_
  refine r3 Δ2 _ σ H2 B2 (G1 ++ R) hr2 hq2 _ fun u Δ3 H3 B3 hq3 hl3 hk3 hr3 => ?_
  have hkk := hk2.trans hk3
  obtain ⟨tx, Fx, rx, o⟩ := (pr1.mono (hl2.trans hl3) hkk.left).tree hr3 hq3
  have hr4 : Rep X.K B3 H3 R σ Δ3 := hr3.drop
  have k' : ∀ v t H' B' G, Q (.val t) Δ3 → Gro B3 H3 B' H' G → Rp X.K B' H' v t G → Qv v H' := fun v t H' B' G q g r =>
    k (.val t) Δ3 v H' B' q (((hl1.trans hl2).trans hl3).trans g.2.1) ((hk1.trans hkk.right).trans (hr4.keepExt g.1)) ⟨G, r, hr4.gro g⟩
  match tx, rx, o with
  | .lst _ xs, rx, o =>
    obtain ⟨a, vs, F', rfl, h1, r1⟩ := rx.lst_inv hr3.sub
    exact .inl ⟨a, vs, rfl, h1, new_lst (Q := fun t => Q (.val t) Δ3) hr3.sub (cut_rp r1 o.1 l u) o.2 k'⟩
  | .tup xs, rx, o =>
    obtain ⟨a, vs, rfl, h1, r1⟩ := rx.tup_inv hr3.sub
    refine .inr (.inl ⟨a, vs, rfl, h1, fun hz => ?_, fun _ => new_tup (Q := fun t => Q (.val t) Δ3) hr3.sub (cut_rp r1 o.1 l u) o.2 k'⟩)
    have e : cutT xs l u = xs := by
      unfold cutT
      rw [← r1.length, hz.1, hz.2, r1.length]; simp
    have q := o.2
    rw [e] at q
    exact k' _ _ H3 B3 [] q (Gro.refl hr3.sub) (rx.c0 (by simpa [closed] using o.1))
  | .str z, rx, o => exact .inr (.inr ⟨z, rx.str_inv.1, o.1, k' _ _ H3 B3 [] o.2 (Gro.refl hr3.sub) (.str _)⟩)

/-! ### built-in calls -/
def gLen : List T → (T → Prop) → Prop
  | [.lst _ xs], Q => Q (.int xs.length)
  | [.tup xs], Q => Q (.int xs.length)
  | [.str x], Q => x.length ≤ sizeLine ∧ Q (.int x.length)
  | _, _ => False
def rLenA (K : Frag) : List V → Hp → VK → Prop := fun xs H Q => (∃ p ys, xs = [.ref p] ∧ (SqL K H p ys ∨ SqT K H p ys) ∧ Q (.int ys.length) H) ∨ ∃ z, xs = [.str z] ∧ z.length ≤ sizeLine ∧ Q (.int z.length) H
theorem call_lenA {X : Cx} : CallR X (.builtin "len") (rLenA X.K) := CallR.or call_len_seq call_len_str
theorem l_len {K : Frag} : LCl K (rLenA K) gLen := fun B H xs ts F hs r Q hw Qv k => by
  match ts, r, hw with
  | [.lst o ys], .cons r1 .nil, hw =>
    obtain ⟨a, vs, F', rfl, h1, r2⟩ := r1.lst_inv hs
    exact .inl ⟨a, vs, rfl, .inl h1, by rw [r2.length]; exact k _ _ H B [] hw (Gro.refl hs) (.int _)⟩
  | [.tup ys], .cons r1 .nil, hw =>
    obtain ⟨a, vs, rfl, h1, r2⟩ := r1.tup_inv hs
    exact .inl ⟨a, vs, rfl, .inr h1, by rw [r2.length]; exact k _ _ H B [] hw (Gro.refl hs) (.int _)⟩
  | [.str z], .cons r1 .nil, hw => exact .inr ⟨z, by rw [r1.str_inv.1], hw.1, k _ _ H B [] hw.2 (Gro.refl hs) (.int _)⟩
def gAbs : List T → (T → Prop) → Prop
  | [.int i], Q => Q (.int (if i < 0 then -i else i))
  | _, _ => False
theorem l_abs {K : Frag} : LCl K (fun xs H Q => ∃ i, xs = [.int i] ∧ Q (.int (if i < 0 then -i else i)) H) gAbs := fun B H xs ts F hs r Q hw Qv k => by
  match ts, r, hw with
  | [.int i], .cons r1 .nil, hw => exact ⟨i, by rw [r1.int_inv.1], k _ _ H B [] hw (Gro.refl hs) (.int _)⟩
def gInt : List T → (T → Prop) → Prop
  | [.int i], Q => Q (.int i)
  | [.bl b], Q => Q (.int (if b then 1 else 0))
  | _, _ => False
theorem l_int {K : Frag} : LCl K (fun xs H Q => (∃ i, xs = [.int i] ∧ Q (.int i) H) ∨ ∃ k, xs = [.bl k] ∧ Q (.int (if k then 1 else 0)) H) gInt := fun B H xs ts F hs r Q hw Qv k => by
  match ts, r, hw with
  | [.int i], .cons r1 .nil, hw => exact .inl ⟨i, by rw [r1.int_inv.1], k _ _ H B [] hw (Gro.refl hs) (.int _)⟩
  | [.bl i], .cons r1 .nil, hw => exact .inr ⟨i, by rw [r1.bl_inv.1], k _ _ H B [] hw (Gro.refl hs) (.int _)⟩
def gMax2 : List T → (T → Prop) → Prop
  | [.int i, .int j], Q => Q (.int (if j > i then j else i))
  | _, _ => False
def gMin2 : List T → (T → Prop) → Prop
  | [.int i, .int j], Q => Q (.int (if j < i then j else i))
  | _, _ => False
theorem l_max2 {K : Frag} : LCl K (fun xs H Q => ∃ i j, xs = [.int i, .int j] ∧ Q (.int (if j > i then j else i)) H) gMax2 := fun B H xs ts F hs r Q hw Qv k => by
  match ts, r, hw with
  | [.int i, .int j], .cons r1 (.cons r2 .nil), hw => exact ⟨i, j, by rw [r1.int_inv.1, r2.int_inv.1], k _ _ H B [] hw (Gro.refl hs) (.int _)⟩
theorem l_min2 {K : Frag} : LCl K (fun xs H Q => ∃ i j, xs = [.int i, .int j] ∧ Q (.int (if j < i then j else i)) H) gMin2 := fun B H xs ts F hs r Q hw Qv k => by
  match ts, r, hw with
  | [.int i, .int j], .cons r1 (.cons r2 .nil), hw => exact ⟨i, j, by rw [r1.int_inv.1, r2.int_inv.1], k _ _ H B [] hw (Gro.refl hs) (.int _)⟩
/-- ints of a list -/
def intsT : List T → Option (List Int)
  | [] => some []
  | .int i :: r => (intsT r).map (i :: ·)
  | _ :: _ => none
theorem intsT_of {K : Frag} {B H : Hp} : ∀ {vs : List V} {ts : List T} {F : List Addr} {ns : List Int}, RpL K B H vs ts F → intsT ts = some ns → vs = ns.map V.int ∧ ts = ns.map T.int
  | _, _, _, ns, .nil, e => by simp [intsT] at e; subst e; exact ⟨rfl, rfl⟩
  | _, _, _, ns, .cons (t := t) (ts := ts) h1 h2, e => by
    cases t with
    | int i =>
      simp only [intsT] at e
      cases q : intsT ts with
      | none => rw [q] at e; cases e
      | some ms =>
        rw [q] at e; cases e
        obtain ⟨a, b⟩ := intsT_of h2 q
        exact ⟨by rw [h1.int_inv.1, a]; rfl, by rw [b]; rfl⟩
    | _ => simp [intsT] at e
def gSum : List T → (T → Prop) → Prop
  | [.lst _ xs], Q => match intsT xs with
    | some ns => Q (.int ns.sum)
    | none => False
  | _, _ => False
theorem l_sum {K : Frag} : LCl K (rSum K) gSum := fun B H xs ts F hs r Q hw Qv k => by
  match ts, r, hw with
  | [.lst o ys], .cons r1 .nil, hw =>
    obtain ⟨a, vs, F', rfl, h1, r2⟩ := r1.lst_inv hs
    simp only [gSum] at hw
    cases e : intsT ys with
    | none => rw [e] at hw; exact hw.elim
    | some ns =>
      rw [e] at hw
      obtain ⟨e1, e2⟩ := intsT_of r2 e
      exact ⟨a, ns, rfl, by rw [← e1]; exact h1, k _ _ H B [] hw (Gro.refl hs) (.int _)⟩
def gMaxL : List T → (T → Prop) → Prop
  | [.lst _ xs], Q => match intsT xs with
    | some ns => 0 < ns.length ∧ ∀ m, m ∈ ns → (∀ y, y ∈ ns → y ≤ m) → Q (.int m)
    | none => False
  | _, _ => False
theorem l_maxL {K : Frag} : LCl K (rMax K) gMaxL := fun B H xs ts F hs r Q hw Qv k => by
  match ts, r, hw with
  | [.lst o ys], .cons r1 .nil, hw =>
    obtain ⟨a, vs, F', rfl, h1, r2⟩ := r1.lst_inv hs
    simp only [gMaxL] at hw
    cases e : intsT ys with
    | none => rw [e] at hw; exact hw.elim
    | some ns =>
      rw [e] at hw
      obtain ⟨e1, e2⟩ := intsT_of r2 e
      exact ⟨a, ns, rfl, by rw [← e1]; exact h1, hw.1, fun m h2 h3 => k _ _ H B [] (hw.2 m h2 h3) (Gro.refl hs) (.int _)⟩
def gMinL : List T → (T → Prop) → Prop
  | [.lst _ xs], Q => match intsT xs with
    | some ns => 0 < ns.length ∧ ∀ m, m ∈ ns → (∀ y, y ∈ ns → m ≤ y) → Q (.int m)
    | none => False
  | _, _ => False
theorem l_minL {K : Frag} : LCl K (rMin K) gMinL := fun B H xs ts F hs r Q hw Qv k => by
  match ts, r, hw with
  | [.lst o ys], .cons r1 .nil, hw =>
    obtain ⟨a, vs, F', rfl, h1, r2⟩ := r1.lst_inv hs
    simp only [gMinL] at hw
    cases e : intsT ys with
    | none => rw [e] at hw; exact hw.elim
    | some ns =>
      rw [e] at hw
      obtain ⟨e1, e2⟩ := intsT_of r2 e
      exact ⟨a, ns, rfl, by rw [← e1]; exact h1, hw.1, fun m h2 h3 => k _ _ H B [] (hw.2 m h2 h3) (Gro.refl hs) (.int _)⟩
/-- bools of a list -/
def blsT : List T → Option (List Bool)
  | [] => some []
  | .bl i :: r => (blsT r).map (i :: ·)
  | _ :: _ => none
theorem blsT_of {K : Frag} {B H : Hp} : ∀ {vs : List V} {ts : List T} {F : List Addr} {ns : List Bool}, RpL K B H vs ts F → blsT ts = some ns → vs = ns.map V.bl ∧ ts = ns.map T.bl
  | _, _, _, ns, .nil, e => by simp [blsT] at e; subst e; exact ⟨rfl, rfl⟩
  | _, _, _, ns, .cons (t := t) (ts := ts) h1 h2, e => by
    cases t with
    | bl i =>
      simp only [blsT] at e
      cases q : blsT ts with
      | none => rw [q] at e; cases e
      | some ms =>
        rw [q] at e; cases e
        obtain ⟨a, b⟩ := blsT_of h2 q
        exact ⟨by rw [h1.bl_inv.1, a]; rfl, by rw [b]; rfl⟩
    | _ => simp [blsT] at e
/-- texts of a list -/
def strsT : List T → Option (List Str)
  | [] => some []
  | .str i :: r => (strsT r).map (i :: ·)
  | _ :: _ => none
theorem strsT_of {K : Frag} {B H : Hp} : ∀ {vs : List V} {ts : List T} {F : List Addr} {ns : List Str}, RpL K B H vs ts F → strsT ts = some ns → vs = ns.map V.str ∧ ts = ns.map T.str
  | _, _, _, ns, .nil, e => by simp [strsT] at e; subst e; exact ⟨rfl, rfl⟩
  | _, _, _, ns, .cons (t := t) (ts := ts) h1 h2, e => by
    cases t with
    | str i =>
      simp only [strsT] at e
      cases q : strsT ts with
      | none => rw [q] at e; cases e
      | some ms =>
        rw [q] at e; cases e
        obtain ⟨a, b⟩ := strsT_of h2 q
        exact ⟨by rw [h1.str_inv.1, a]; rfl, by rw [b]; rfl⟩
    | _ => simp [strsT] at e
def gListOf : List T → (T → Prop) → Prop
  | [.lst _ xs], Q => closedL xs = true ∧ Q (.lst true xs)
  | [.tup xs], Q => closedL xs = true ∧ Q (.lst true xs)
  | _, _ => False
theorem l_listOf {K : Frag} : LCl K (fun xs H Q => ∃ p ys, xs = [.ref p] ∧ (SqL K H p ys ∨ SqT K H p ys) ∧ ∀ l, H l = none → Q (.ref l) (upd H l (.lst ys))) gListOf := fun B H xs ts F hs r Q hw Qv k => by
  match ts, r, hw with
  | [.lst o ys], .cons r1 .nil, hw =>
    obtain ⟨a, vs, F', rfl, h1, r2⟩ := r1.lst_inv hs
    exact ⟨a, vs, rfl, .inl h1, new_lst hs (r2.c0 hw.1) hw.2 k⟩
  | [.tup ys], .cons r1 .nil, hw =>
    obtain ⟨a, vs, rfl, h1, r2⟩ := r1.tup_inv hs
    exact ⟨a, vs, rfl, .inr h1, new_lst hs (r2.c0 hw.1) hw.2 k⟩
def gTupleOf : List T → (T → Prop) → Prop
  | [.lst _ xs], Q => closedL xs = true ∧ Q (.tup xs)
  | [.tup xs], Q => closedL xs = true ∧ Q (.tup xs)
  | _, _ => False
theorem l_tupleOf {K : Frag} : LCl K (fun xs H Q => ∃ p ys, xs = [.ref p] ∧ ((SqL K H p ys ∧ ∀ l, H l = none → Q (.ref l) (upd H l (.tup ys))) ∨ (SqT K H p ys ∧ Q (.ref p) H))) gTupleOf := fun B H xs ts F hs r Q hw Qv k => by
  match ts, r, hw with
  | [.lst o ys], .cons r1 .nil, hw =>
    obtain ⟨a, vs, F', rfl, h1, r2⟩ := r1.lst_inv hs
    exact ⟨a, vs, rfl, .inl ⟨h1, new_tup hs (r2.c0 hw.1) hw.2 k⟩⟩
  | [.tup ys], .cons r1 .nil, hw =>
    obtain ⟨a, vs, e, h1, r2⟩ := r1.tup_inv hs
    subst e
    exact ⟨a, vs, rfl, .inr ⟨h1, k _ _ H B [] hw.2 (Gro.refl hs) (r1.c0 (by simpa [closed] using hw.1))⟩⟩
/-- isinstance of a built-in class -/
def tyN : T → String
  | .non => "NoneType" | .bl _ => "bool" | .int _ => "int" | .str _ => "str" | .tup _ => "tuple" | .lst _ _ => "list" | .dct _ _ => "dict" | _ => ""
def isiB (a n : String) : Bool := a == n || (a == "bool" && n == "int")
def gIsi : List T → (T → Prop) → Prop
  | [t, .ty n], Q => (tyN t == "") = false ∧ (["int", "bool", "str", "list", "tuple", "dict"].contains n) = true ∧ Q (.bl (isiB (tyN t) n))
  | _, _ => False
theorem isi_all : (["NoneType", "bool", "int", "str", "tuple", "list", "dict"].all fun a => ["int", "bool", "str", "list", "tuple", "dict"].all fun n => kitB a n == some (isiB a n)) = true := by decide +kernel
theorem tyX_of {K : Frag} {B H : Hp} {v : V} {t : T} {F : List Addr} (hs : Sub B H) (h : Rp K B H v t F) (ht : (tyN t == "") = false) : TyX K H v (.type (tyN t)) ∧ tyN t ∈ ["NoneType", "bool", "int", "str", "tuple", "list", "dict"] := by
  cases h with
  | non => exact ⟨.base .non, by simp [tyN]⟩
  | bl b => exact ⟨.base (.bl b), by simp [tyN]⟩
  | int i => exact ⟨.base (.int i), by simp [tyN]⟩
  | str x => exact ⟨.base (.str x), by simp [tyN]⟩
  | fn a => simp [tyN] at ht
  | ty n => simp [tyN] at ht
  | exc0 a x => simp [tyN] at ht
  | exv0 h1 => simp [tyN] at ht
  | exvD h0 h1 h2 h3 => simp [tyN] at ht
  | excD h1 h2 h3 => simp [tyN] at ht
  | tup h1 h2 =>
    refine ⟨?_, by simp [tyN]⟩
    rcases hs.le.sqT h1 with (h | ⟨o, h⟩) | ⟨o, its, n, e, c, _⟩
    · exact .base (.tup h)
    · exact .fTuple h
    · exact .kTuple e c
  | lstF h1 h2 =>
    refine ⟨?_, by simp [tyN]⟩
    rcases hs.le.rdL h1 with (h | ⟨o, h⟩) | ⟨its, n, e, _⟩
    · exact .base (.lst h)
    · exact .base (.frz h)
    · exact .kList e rfl
  | lstO h1 h2 => exact ⟨.base (.lst h1), by simp [tyN]⟩
  | dctF h1 h2 h3 =>
    refine ⟨?_, by simp [tyN]⟩
    rcases hs.le.rd rfl h1 with h | ⟨o, h⟩
    · exact .base (.dK h)
    · exact .fDict h
  | dctO h1 h2 h3 => exact ⟨.base (.dK h1), by simp [tyN]⟩
  | insF h1 h2 h3 => simp [tyN] at ht
  | insO h1 h0 h2 h3 => simp [tyN] at ht
theorem l_isi {K : Frag} : LCl K (rIsi K) gIsi := fun B H xs ts F hs r Q hw Qv k => by
  match ts, r, hw with
  | [t, .ty n], .cons r1 (.cons r2 .nil), hw =>
    cases r2
    obtain ⟨h1, h2⟩ := tyX_of hs r1 hw.1
    have h3 := List.all_eq_true.mp (List.all_eq_true.mp isi_all _ h2) n (by simpa using hw.2.1)
    refine ⟨_, .ty n, .type (tyN t), .type n, isiB (tyN t) n, rfl, .ty n, h1, kit_ty (by simpa using h3), k _ _ H B [] hw.2.2 (Gro.refl hs) (.bl _)⟩

/-! ### displays -/
/-- the items: what names hold is frozen -/
def wTakes (ps : List PV) (Δ : Dt) (k : List T → Dt → Prop) : Prop := match ps with
  | [] => k [] Δ
  | p :: r => wTake p Δ fun t Δ1 => wTakes r Δ1 fun ts Δ2 => k (frz t :: ts) Δ2
def wTup (wa : WA) : WE := fun Δ Q => wa Δ fun ps Δ1 => wTakes ps Δ1 fun ts Δ2 => ts.length ≤ sizeLine ∧ Q (.val (.tup ts)) Δ2
def wLst (wa : WA) : WE := fun Δ Q => wa Δ fun ps Δ1 => wTakes ps Δ1 fun ts Δ2 => ts.length ≤ sizeLine ∧ Q (.val (.lst true ts)) Δ2
section
variable {K : Frag} {B H : Hp} {R : List Addr} {σ : Sg}
theorem takes_ok : ∀ {ps : List PV} {vs : List V} {G : List Addr} {Δ : Dt} {B : Hp} {k : List T → Dt → Prop}, PvL K B H σ ps vs G → Rep K B H (G ++ R) σ Δ → wTakes ps Δ k → ∃ ts Δ' B', k ts Δ' ∧ Le B B' ∧ RpL K B' H vs ts [] ∧ Rep K B' H R σ Δ'
  | _, _, _, Δ, B, k, .nil, hr, hw => ⟨[], Δ, B, hw, Le.refl B, .nil, hr⟩
  | _, _, _, Δ, B, k, .cons (p := p) (ps := ps) (v := v) (vs := vs) (F := F) (G := G) h1 h2, hr, hw => by
    have o : Out K B H (G ++ R) σ Δ p v := ⟨F, h1, by rw [List.append_assoc] at hr; exact hr⟩
    obtain ⟨t, Δ1, B1, q, hl, r, hr1⟩ := take_fr o hw
    obtain ⟨ts, Δ2, B2, q2, hl2, r2, hr2⟩ := takes_ok (h2.mono hl fun _ _ => rfl) hr1 q
    exact ⟨frz t :: ts, Δ2, B2, q2, hl.trans hl2, RpL.cons (F := []) (G := []) (r.mono hl2 fun _ z => nomatch z) r2, hr2⟩
end
section
variable {K : Frag} {ta : TA} {wa : WA}
theorem rf_tup (h : RfA K ta wa) : RfE K (tTup ta) (wTup wa) := fun Δ Q σ H B R hr hw Qv k => by
  refine h Δ _ σ H B R hr hw _ fun ps Δ1 vs H1 B1 hq hl1 hk1 ⟨G1, pr1, hr1⟩ => ?_
  obtain ⟨ts, Δ2, B2, q, hl2, r, hr2⟩ := takes_ok pr1 hr1 hq
  exact ⟨by rw [r.length]; exact q.1, new_tup (Q := fun t => Q (.val t) Δ2) hr2.sub r q.2 fun v t H' B' G q g r => k (.val t) Δ2 v H' B' q ((hl1.trans hl2).trans g.2.1) (hk1.trans (hr2.keepExt g.1)) ⟨G, r, hr2.gro g⟩⟩
theorem rf_lst (h : RfA K ta wa) : RfE K (tLst ta) (wLst wa) := fun Δ Q σ H B R hr hw Qv k => by
  refine h Δ _ σ H B R hr hw _ fun ps Δ1 vs H1 B1 hq hl1 hk1 ⟨G1, pr1, hr1⟩ => ?_
  obtain ⟨ts, Δ2, B2, q, hl2, r, hr2⟩ := takes_ok pr1 hr1 hq
  exact ⟨by rw [r.length]; exact q.1, new_lst (Q := fun t => Q (.val t) Δ2) hr2.sub r q.2 fun v t H' B' G q g r => k (.val t) Δ2 v H' B' q ((hl1.trans hl2).trans g.2.1) (hk1.trans (hr2.keepExt g.1)) ⟨G, r, hr2.gro g⟩⟩
end
theorem ce_tup {X : Cx} {es : List Expr} {wa : WA} {x1 : Nat} {pos : Pos} (h : CA X es wa) : CE X (.Tuple es x1 pos) (wTup wa) := by
  obtain ⟨ta, p, r⟩ := h
  exact ⟨_, pe_tup p, rf_tup r⟩
theorem ce_lst {X : Cx} {es : List Expr} {wa : WA} {pos : Pos} (h : CA X es wa) : CE X (.List es pos) (wLst wa) := by
  obtain ⟨ta, p, r⟩ := h
  exact ⟨_, pe_lst p, rf_lst r⟩
/-- *xs in a display: its items -/
def wStar (we : WE) (wr : WA) : WA := fun Δ Q => we Δ fun p Δ1 => wTake p Δ1 fun t Δ2 => match t with
  | .lst _ xs => wr Δ2 fun ps Δ3 => Q ((frzL xs).map PV.val ++ ps) Δ3
  | .tup xs => wr Δ2 fun ps Δ3 => Q ((frzL xs).map PV.val ++ ps) Δ3
  | _ => False
theorem PvL.vals {K : Frag} {B H : Hp} {σ : Sg} : ∀ {vs : List V} {ts : List T}, RpL K B H vs ts [] → PvL K B H σ (ts.map PV.val) vs [] := by
  have gen : ∀ {vs : List V} {ts : List T} {F : List Addr}, RpL K B H vs ts F → F = [] → PvL K B H σ (ts.map PV.val) vs [] := by
    intro vs ts F h
    induction vs generalizing ts F with
    | nil => intro _; cases h; exact .nil
    | cons v vs ih =>
      intro e
      cases h with
      | @cons _ _ t ts F G h1 h2 =>
        have e := List.append_eq_nil_iff.mp e
        have h3 := h1
        rw [e.1] at h3
        exact PvL.cons (F := []) (G := []) h3 (ih h2 e.2)
  intro vs ts h
  exact gen h rfl
theorem PvL.append {K : Frag} {B H : Hp} {σ : Sg} : ∀ {ps qs : List PV} {vs ws : List V} {F G : List Addr}, PvL K B H σ ps vs F → PvL K B H σ qs ws G → PvL K B H σ (ps ++ qs) (vs ++ ws) (F ++ G)
  | _, _, _, _, _, _, .nil, h => h
  | _, _, _, _, _, _, .cons h1 h2, h => by rw [List.append_assoc]; exact .cons h1 (h2.append h)
theorem ca_star {X : Cx} {e : Expr} {es : List Expr} {p : Pos} {we : WE} {wr : WA} (he : CE X e we) (hr : CA X es wr) (hs : starEach (.Starred e p :: es) X.env = (true, eval e X.env) :: starEach es X.env := by rfl) : CA X (.Starred e p :: es) (wStar we wr) := by
  obtain ⟨te, p1, r1⟩ := he
  obtain ⟨tr, p2, r2⟩ := hr
  refine ⟨_, StX.pa_star p1 p2 hs, fun Δ Q σ H B R hr hw Qv k => ?_⟩
  refine r1 Δ _ σ H B R hr hw _ fun p Δ1 v H1 B1 hq hl1 hk1 o => ?_
  obtain ⟨t, Δ2, B2, q, hl2, r, hr2⟩ := take_fr o hq
  have fin : ∀ (a : Addr) (vs : List V) (xs : List T), v = .ref a → (SqT X.K H1 a vs ∨ SqL X.K H1 a vs) → RpL X.K B2 H1 vs (frzL xs) [] → wr Δ2 (fun ps Δ3 => Q ((frzL xs).map PV.val ++ ps) Δ3) →
      ∃ p xs, v = V.ref p ∧ (SqT X.K H1 p xs ∨ SqL X.K H1 p xs) ∧ tr σ H1 fun ys H2 => Qv (xs ++ ys) H2 := fun a vs xs e hsq hL hw2 => by
    refine ⟨a, vs, e, hsq, r2 Δ2 _ σ H1 B2 R hr2 hw2 _ fun ps Δ3 ws H3 B3 q3 hl3 hk3 ⟨G3, pr3, hr3⟩ => ?_⟩
    refine k _ Δ3 _ H3 B3 q3 ((hl1.trans hl2).trans hl3) (hk1.trans hk3) ⟨[] ++ G3, (PvL.vals (hL.mono hl3 fun _ z => nomatch z)).append pr3, hr3⟩
  match t, r, q with
  | .lst o xs, r, q =>
    simp only [frz] at r
    cases r with
    | lstF h1 h2 => exact fin _ _ xs rfl (.inr (hr2.sub.le.rdL h1).sq) h2 q
  | .tup xs, r, q =>
    simp only [frz] at r
    cases r with
    | tup h1 h2 => exact fin _ _ xs rfl (.inl (hr2.sub.le.sqT h1)) h2 q

/-! ### what changes a list, a dict that a name holds -/
section
variable {K : Frag} {B H : Hp} {R : List Addr} {σ : Sg} {Δ : Dt} {i : Nat} {v : V} {xs : List T}
/-- the list in a slot, changed -/
theorem slot_lst (h : Rep K B H R σ Δ) (e : Δ[i]? = some (some (.lst true xs))) : ∃ a vs F, σ[i]? = some (some (.ref a)) ∧ H a = some (.lst vs) ∧ RpL K B H vs xs F ∧
    ∀ (vs' : List V) (xs' : List T), (∀ H', (∀ b ∈ F, H' b = H b) → RpL K B H' vs' xs' F) → Rep K B (upd H a (.lst vs')) R σ (Δ.set i (some (.lst true xs'))) ∧ Keep R H (upd H a (.lst vs')) := by
  obtain ⟨v, G, e1, r, h1⟩ := h.out e
  cases r with
  | @lstO a vs ts F h2 h3 =>
    refine ⟨a, vs, F, e1, h2, h3, fun vs' xs' hr => ?_⟩
    have h1' : Rep K B H (a :: (F ++ R)) σ (Δ.set i none) := h1
    obtain ⟨h4, h5⟩ := h1'.updR (o := .lst vs')
    have r' : Rp K B (upd H a (.lst vs')) (.ref a) (.lst true xs') (a :: F) := .lstO upd_same (hr _ fun b hb => h5 b (List.mem_append_left _ hb))
    have h6 := Rep.set (i := i) (x := some (.ref a)) (d := some (.lst true xs')) (G := a :: F) h4 r'
    rw [set_same e1, List.set_set] at h6
    exact ⟨h6, h5.right⟩
/-- the dict in a slot, changed -/
theorem slot_dct {kvs : List (Key × T)} (h : Rep K B H R σ Δ) (e : Δ[i]? = some (some (.dct true kvs))) : ∃ a kv F, σ[i]? = some (some (.ref a)) ∧ H a = some (.dK kv) ∧ kv.map (·.1) = kvs.map (·.1) ∧ RpL K B H (kv.map (·.2)) (kvs.map (·.2)) F ∧
    ∀ (kv' : List (Key × V)) (kvs' : List (Key × T)), kv'.map (·.1) = kvs'.map (·.1) → (∀ H', (∀ b ∈ F, H' b = H b) → RpL K B H' (kv'.map (·.2)) (kvs'.map (·.2)) F) → Rep K B (upd H a (.dK kv')) R σ (Δ.set i (some (.dct true kvs'))) ∧ Keep R H (upd H a (.dK kv')) := by
  obtain ⟨v, G, e1, r, h1⟩ := h.out e
  cases r with
  | @dctO a vs ts F h2 h0 h3 =>
    refine ⟨a, vs, F, e1, h2, h0, h3, fun vs' xs' hk hr => ?_⟩
    have h1' : Rep K B H (a :: (F ++ R)) σ (Δ.set i none) := h1
    obtain ⟨h4, h5⟩ := h1'.updR (o := .dK vs')
    have r' : Rp K B (upd H a (.dK vs')) (.ref a) (.dct true xs') (a :: F) := .dctO upd_same hk (hr _ fun b hb => h5 b (List.mem_append_left _ hb))
    have h6 := Rep.set (i := i) (x := some (.ref a)) (d := some (.dct true xs')) (G := a :: F) h4 r'
    rw [set_same e1, List.set_set] at h6
    exact ⟨h6, h5.right⟩
end
/-- xs.append(e) -/
def wApp (i : Nat) (we : WE) : WE := fun Δ Q => look Δ i fun t0 => match t0 with
  | .lst _ _ => we Δ fun p Δ1 => wTake p Δ1 fun y Δ2 => look Δ2 i fun t => match t with
    | .lst true xs => closedL xs = true ∧ xs.length < sizeLine ∧ Q (.val .non) (Δ2.set i (some (.lst true (xs ++ [frz y]))))
    | _ => False
  | _ => False
theorem rf_app {K : Frag} {i : Nat} {te : TE} {we : WE} (h : RfE K te we) : RfE K (tBM K "list" rAppend (tVar i) (tCons te tNil)) (wApp i we) := fun Δ Q σ H B R hr hw Qv k => by
  obtain ⟨t0, e0, hw⟩ := look_iff hw
  obtain ⟨v, G, e1, r0⟩ := hr.get e0
  refine ⟨v, e1, ?_⟩
  match t0, r0, hw with
  | .lst o xs0, r0, hw =>
    obtain ⟨a, vs0, F0, rfl, hL0, _⟩ := r0.lst_inv hr.sub
    refine ⟨.inl ⟨rfl, vs0, hL0⟩, ?_⟩
    refine h Δ _ σ H B R hr hw _ fun p Δ1 y H1 B1 hq hl1 hk1 o1 => ?_
    obtain ⟨t, Δ2, B2, q, hl2, ry, hr2⟩ := take_fr o1 hq
    obtain ⟨tl, el, q⟩ := look_iff q
    match tl, el, q with
    | .lst true xs, el, q =>
      obtain ⟨b, vs, F, e2, hH, hL, upd'⟩ := slot_lst hr2 el
      rw [e1] at e2; cases e2
      have hc := q.1
      have hF := hL.nil_of_closed hc
      subst hF
      have hL2 : ∀ H', (∀ b ∈ ([] : List Addr), H' b = H1 b) → RpL K B2 H' (vs ++ [y]) (xs ++ [frz t]) [] := fun H' _ =>
        RpL.append (F := []) (G := []) (hL.mono (Le.refl _) fun _ z => nomatch z) (RpL.cons (F := []) (G := []) (ry.mono (Le.refl _) fun _ z => nomatch z) .nil)
      obtain ⟨h5, h6⟩ := upd' _ _ hL2
      exact ⟨a, vs, y, rfl, rfl, hH, by rw [hL.length]; exact q.2.1, k (.val .non) _ .non _ B2 q.2.2 (hl1.trans hl2) (hk1.trans h6) ⟨[], .non, h5⟩⟩
theorem ce_app {X : Cx} {i : Nat} {e : Expr} {we : WE} {x : Str} {p apos cpos : Pos} (he : CE X e we) (hN : X.N[i]? = some x := by rfl) (hv : Vis X.env.scope x := by first | exact Or.inl rfl | exact Or.inr (Or.inl rfl) | exact Or.inr (Or.inr rfl)) (hd : (x == ("__debug__" : Str)) = false := by decide)
    (hcd : (x == ("__classdict__" : Str)) = false := by decide) (hbase : attributeBase (.Name x p) "append" X.env (eval (.Name x p) X.env) = eval (.Name x p) X.env := by rfl)
    (hfew : ((backTo cpos (starEach [e] X.env)).all (fun x => !x.1) && (backToKw cpos (keywordEach [] X.env)).all (fun x => x.1.isSome) && decide ([e].length + ([] : List Keyword).length + (if ([] : List Keyword).isEmpty then 0 else 1) < 30)) = true := by rfl)
    (hline : (apos.endLine == cpos.line) = true := by rfl) (hs : starEach [e] X.env = (false, eval e X.env) :: starEach [] X.env := by rfl) (hplain : (backTo cpos (starEach [] X.env)).any (·.1) = false := by rfl) : CE X (.Call (.Attribute (.Name x p) "append" apos) [e] [] cpos) (wApp i we) := by
  obtain ⟨te, p1, r1⟩ := he
  exact ⟨_, pe_bm PySem.F.plainAttrs_list PySem.F.slot_list_append PySem.F.type_list_append mt_append (pe_var hN hv hd hcd) (pa_cons p1 pa_nil hs) hbase hfew hline hs hplain, rf_app r1⟩
/-- xs[j] = e, d[k] = e -/
def keyOf : T → Option Key
  | .int i => some (.inl i)
  | .str x => some (.inr x)
  | _ => none
def putT (kvs : List (Key × T)) (k : Key) (v : T) : List (Key × T) :=
  if (kvs.any fun q => decide (q.1 = k)) = true then kvs.map (fun q => if q.1 = k then (q.1, v) else q) else kvs ++ [(k, v)]
def wgSub (i : Nat) (wi : WE) : WG := fun t Δ Q => look Δ i fun _ => wi Δ fun q Δ1 => onV Δ1 q fun j => look Δ1 i fun l => match l with
  | .lst true xs => closedL xs = true ∧ match j with
    | .int n => match ixN xs.length n with
      | some m => Q (Δ1.set i (some (.lst true (xs.set m (frz t)))))
      | none => False
    | _ => False
  | .dct true kvs => closedK kvs = true ∧ match keyOf j with
    | some kk => kvs.length < sizeLine ∧ Q (Δ1.set i (some (.dct true (putT kvs kk (frz t)))))
    | none => False
  | _ => False
def rSetA : TSet := fun o i v H Q => rSetL o i v H Q ∨ rSetD o i v H Q
theorem set_any {X : Cx} (hu : X.A.units + 1 < cLine) : PSet X rSetA := fun pins s σ H o i v ov iv u Q I r1 r2 r3 h => h.elim (set_list pins s σ H o i v ov iv u Q I r1 r2 r3) (set_dict hu pins s σ H o i v ov iv u Q I r1 r2 r3)
theorem RpL.set0 {K : Frag} {B H : Hp} : ∀ {vs : List V} {ts : List T} {F : List Addr} {j : Nat} {v : V} {t : T}, RpL K B H vs ts F → F = [] → Rp K B H v t [] → RpL K B H (vs.set j v) (ts.set j t) []
  | _, _, _, _, _, _, .nil, _, _ => .nil
  | _, _, _, 0, _, _, .cons h1 h2, e, r => by
    have e := List.append_eq_nil_iff.mp e
    have h3 := h2
    rw [e.2] at h3
    exact RpL.cons (F := []) (G := []) r h3
  | _, _, _, j + 1, _, _, .cons h1 h2, e, r => by
    have e := List.append_eq_nil_iff.mp e
    have h3 := h1
    rw [e.1] at h3
    exact RpL.cons (F := []) (G := []) h3 (RpL.set0 h2 e.2 r)
theorem kv_of {K : Frag} {B H : Hp} : ∀ {kv : List (Key × V)} {kvs : List (Key × T)} {F : List Addr}, kv.map (·.1) = kvs.map (·.1) → RpL K B H (kv.map (·.2)) (kvs.map (·.2)) F → F = [] → Paired (fun (p : Key × V) (q : Key × T) => p.1 = q.1 ∧ Rp K B H p.2 q.2 []) kv kvs
  | [], [], _, _, _, _ => .nil
  | [], _ :: _, _, e, _, _ => by simp at e
  | _ :: _, [], _, e, _, _ => by simp at e
  | (k, v) :: kv, (k', t) :: kvs, F, e, h, hF => by
    simp only [List.map_cons, List.cons.injEq] at e
    simp only [List.map_cons] at h
    obtain ⟨F1, F2, e1, r1, r2⟩ := h.one
    subst e1
    have hF := List.append_eq_nil_iff.mp hF
    have r3 := r1
    rw [hF.1] at r3
    exact .cons ⟨e.1, r3⟩ (kv_of e.2 r2 hF.2)
theorem kv_to {K : Frag} {B H : Hp} : ∀ {kv : List (Key × V)} {kvs : List (Key × T)}, Paired (fun (p : Key × V) (q : Key × T) => p.1 = q.1 ∧ Rp K B H p.2 q.2 []) kv kvs → kv.map (·.1) = kvs.map (·.1) ∧ RpL K B H (kv.map (·.2)) (kvs.map (·.2)) []
  | _, _, .nil => ⟨rfl, .nil⟩
  | _, _, .cons h1 h2 => by
    obtain ⟨a, b⟩ := kv_to h2
    exact ⟨by simp only [List.map_cons]; rw [h1.1, a], RpL.cons (F := []) (G := []) h1.2 b⟩
theorem kv_put {K : Frag} {B H : Hp} {kk : Key} {v : V} {t : T} (r : Rp K B H v t []) {kv : List (Key × V)} {kvs : List (Key × T)} (h : Paired (fun (p : Key × V) (q : Key × T) => p.1 = q.1 ∧ Rp K B H p.2 q.2 []) kv kvs) :
    Paired (fun (p : Key × V) (q : Key × T) => p.1 = q.1 ∧ Rp K B H p.2 q.2 []) (putK kv kk v) (putT kvs kk t) := by
  have hany : (kv.any fun p => decide (p.1 = kk)) = kvs.any fun p => decide (p.1 = kk) := by
    induction h with
    | nil => rfl
    | cons h1 _ ih => simp only [List.any_cons]; rw [h1.1, ih]
  unfold putK putT
  rw [hany]
  split
  · clear hany
    induction h with
    | nil => exact .nil
    | @cons p q _ _ h1 h2 ih =>
      rename_i hh
      refine .cons ?_ ?_
      · show (if p.1 = kk then (p.1, v) else p).1 = (if q.1 = kk then (q.1, t) else q).1 ∧ Rp K B H (if p.1 = kk then (p.1, v) else p).2 (if q.1 = kk then (q.1, t) else q).2 []
        rw [h1.1]
        split
        · exact ⟨rfl, r⟩
        · exact h1
      · clear ih hh
        induction h2 with
        | nil => exact .nil
        | @cons p q _ _ h1 h2 ih =>
          refine .cons ?_ ih
          show (if p.1 = kk then (p.1, v) else p).1 = (if q.1 = kk then (q.1, t) else q).1 ∧ Rp K B H (if p.1 = kk then (p.1, v) else p).2 (if q.1 = kk then (q.1, t) else q).2 []
          rw [h1.1]
          split
          · exact ⟨rfl, r⟩
          · exact h1
  · clear hany
    induction h with
    | nil => exact .cons ⟨rfl, r⟩ .nil
    | @cons p q _ _ h1 h2 ih =>
      rename_i hh
      refine .cons h1 ?_
      clear ih hh
      induction h2 with
      | nil => exact .cons ⟨rfl, r⟩ .nil
      | cons h1 h2 ih => exact .cons h1 ih
theorem keyOf_V {K : Frag} {B H : Hp} {v : V} {t : T} {F : List Addr} {kk : Key} (h : Rp K B H v t F) (e : keyOf t = some kk) : v = kV kk := by
  cases h with
  | int i => cases e; rfl
  | str x => cases e; rfl
  | _ => cases e
theorem rf_gSub {K : Frag} {S : Nat → Prop} {i : Nat} {ti : TE} {wi : WE} (h : RfE K ti wi) : RfG K S (L2.gSub (tVar i) ti rSetA) (wgSub i wi) := fun t Δ Q σ H B R G v hr r hw Qv k => by
  obtain ⟨B0, hl0, hr0, r0⟩ := hr.frzT r
  obtain ⟨t0, e0, hw⟩ := look_iff hw
  obtain ⟨o, G0, eo, _⟩ := hr.get e0
  refine ⟨o, eo, ?_⟩
  · skip
    refine h Δ _ σ H B0 R hr0 hw _ fun p Δ1 y H1 B1 hq hl1 hk1 ⟨G1, pr1, hr1⟩ => ?_
    obtain ⟨tj, Fj, rj, q⟩ := pr1.tree hr1 hq
    have hr1 : Rep K B1 H1 R σ Δ1 := hr1.drop
    have r1 : Rp K B1 H1 v (frz t) [] := r0.mono hl1 fun _ z => nomatch z
    obtain ⟨tl, el, q⟩ := look_iff q
    match tl, el, q with
    | .lst true xs, el, ⟨hc, q⟩ =>
      obtain ⟨b, vs, F, e2, hH, hL, upd'⟩ := slot_lst hr1 el
      rw [eo] at e2; cases e2
      have hF := hL.nil_of_closed hc
      subst hF
      match tj, rj, q with
      | .int n, rj, q =>
        cases em : ixN xs.length n with
        | none => simp only [em] at q
        | some m =>
          simp only [em] at q
          obtain ⟨h5, h6⟩ := upd' (vs.set m v) (xs.set m (frz t)) fun H' _ => (hL.mono (Le.refl _) fun _ z => nomatch z).set0 rfl (r1.mono (Le.refl _) fun _ z => nomatch z)
          exact .inl ⟨b, vs, n, m, rfl, rj.int_inv.1, hH, by rw [hL.length]; exact em, k _ _ _ B1 q (hl0.trans hl1) (hk1.trans h6) (fun _ _ => rfl) h5 rfl⟩
    | .dct true kvs, el, ⟨hc, q⟩ =>
      obtain ⟨b, kv, F, e2, hH, hkeys, hL, upd'⟩ := slot_dct hr1 el
      rw [eo] at e2; cases e2
      have hF : F = [] := hL.nil_of_closed ((closedL_iff _).mpr fun x hx => by
        obtain ⟨p, hp, rfl⟩ := List.mem_map.mp hx
        exact (closedK_iff _).mp hc p hp)
      subst hF
      cases ek : keyOf tj with
      | none => simp only [ek] at q
      | some kk =>
        simp only [ek] at q
        have hp := kv_put (kk := kk) r1 (kv_of hkeys hL rfl)
        obtain ⟨h5, h6⟩ := upd' _ _ (kv_to hp).1 fun H' _ => (kv_to hp).2.mono (Le.refl _) fun _ z => nomatch z
        have hlen : kv.length = kvs.length := by simpa using congrArg List.length hkeys
        exact .inr ⟨b, _, rfl, .inl ⟨kv, kk, hH, keyOf_V rj ek, by rw [hlen]; exact q.1, rfl⟩, k _ _ _ B1 q.2 (hl0.trans hl1) (hk1.trans h6) (fun _ _ => rfl) h5 rfl⟩
end TL

set_option maxRecDepth 100000
set_option maxHeartbeats 1000000
namespace TL
open PySem PySem.Spec PyProof.Rows L2

/-! ### two names at once -/
def wPar (i j : Nat) (wa : WA) : WS := fun D Δ => wa Δ fun ps Δ1 => match ps with
  | [p, q] => wTake p Δ1 fun t Δ2 => wTake q Δ2 fun u Δ3 => D.nx ((Δ3.set i (some t)).set j (some u))
  | _ => False
theorem rf_par {K : Frag} {W : WX} {np i j : Nat} {ta : TA} {wa : WA} (hi : np ≤ i) (hj : np ≤ j) (h : RfA K ta wa) : RfS K np W (tPar i j ta) (wPar i j wa) := fun D Δ σ H B R hr hw E k1 k2 k3 k4 k5 => by
  refine h Δ _ σ H B R hr hw _ fun ps Δ1 vs H1 B1 q hl hk ⟨G, pr, hr1⟩ => ?_
  match ps, pr, q with
  | [p, q'], .cons (F := F) (v := v) h1 (.cons (F := F2) (v := v2) h2 .nil), q =>
    have o : Out K B1 H1 ((F2 ++ []) ++ R) σ Δ1 p v := ⟨F, h1, by rw [List.append_assoc] at hr1; exact hr1⟩
    obtain ⟨t, Δ2, B2, G1, q2, hle, r, hr2⟩ := take_ok o q
    have o2 : Out K B2 H1 (G1 ++ R) σ Δ2 q' v2 := ⟨F2, h2.mono hle fun _ _ => rfl, hr2.weak fun a => by simp only [List.count_append, List.count_nil]; omega⟩
    obtain ⟨u, Δ3, B3, G2, q3, hle2, r2, hr3⟩ := take_ok o2 q2
    have h3 := Rep.set (i := i) (x := some v) (d := some t) (G := G1) (R := G2 ++ R) (hr3.weak fun a => by simp only [List.count_append]; omega) (r.mono hle2 fun _ _ => rfl)
    have h4 := Rep.set (i := j) (x := some v2) (d := some u) h3 r2
    refine ⟨v, v2, rfl, k1 _ _ _ B3 q3 ⟨(hl.trans hle).trans hle2, hk, fun n hn => ?_⟩ h4⟩
    rw [List.getElem?_set_ne (by omega), List.getElem?_set_ne (by omega)]
theorem cs_par {X : Cx} {np i j : Nat} {x y : Str} {a b : Expr} {wa : WA} {px py pt pos : Pos} {kt k2 pt2} (hc : X.calm = true) (hN : X.N.Nodup) (hi : X.N[i]? = some x) (hj : X.N[j]? = some y) (hij : i ≠ j)
    (hx : X.env.scope.names.lookup x = some .local) (hy : X.env.scope.names.lookup y = some .local) (hpi : np ≤ i) (hpj : np ≤ j) (ha : CA X [a, b] wa) (both : swappedStores [.Tuple [.Name x px, .Name y py] kt pt] (.Tuple [a, b] k2 pt2) X.env = pure (some [x, y])) (sole : swapsWithSole [.Tuple [.Name x px, .Name y py] kt pt] (.Tuple [a, b] k2 pt2) pos.line X.env = pure false := by rfl) :
    CS X np (.Assign [.Tuple [.Name x px, .Name y py] kt pt] (.Tuple [a, b] k2 pt2) pos) (wPar i j wa) := by
  obtain ⟨ta, p, r⟩ := ha
  exact ⟨fun W tk => ⟨_, ps_par hc hN hi hj hij hx hy p both sole, rf_par hpi hpj r⟩⟩

/-! ### dicts -/
def valT (kvs : List (Key × T)) (k : Key) : Option T := (kvs.find? fun kv => decide (kv.1 = k)).map (·.2)
theorem val_of {K : Frag} {B H : Hp} {k : Key} : ∀ {kv : List (Key × V)} {kvs : List (Key × T)} {F : List Addr}, kv.map (·.1) = kvs.map (·.1) → RpL K B H (kv.map (·.2)) (kvs.map (·.2)) F →
    (valV kv k).isSome = (valT kvs k).isSome ∧ ∀ t, valT kvs k = some t → ∃ v G, valV kv k = some v ∧ Rp K B H v t G
  | [], [], _, _, _ => ⟨rfl, fun t e => by cases e⟩
  | [], _ :: _, _, e, _ => by simp at e
  | _ :: _, [], _, e, _ => by simp at e
  | (k1, v) :: kv, (k2, t) :: kvs, F, e, h => by
    simp only [List.map_cons, List.cons.injEq] at e
    simp only [List.map_cons] at h
    obtain ⟨F1, F2, e1, r1, r2⟩ := h.one
    obtain ⟨a, b⟩ := val_of (k := k) e.2 r2
    by_cases hk : k2 = k
    · have hk' : k1 = k := e.1.trans hk
      refine ⟨by simp [valV, valT, List.find?_cons, hk, hk'], fun t' et => ?_⟩
      have : t = t' := by simpa [valT, List.find?_cons, hk] using et
      subst this
      exact ⟨v, F1, by simp [valV, List.find?_cons, hk'], r1⟩
    · have hk' : ¬ k1 = k := fun z => hk (e.1.symm.trans z)
      have e1 : valV ((k1, v) :: kv) k = valV kv k := by simp [valV, List.find?_cons, hk']
      have e2 : valT ((k2, t) :: kvs) k = valT kvs k := by simp [valT, List.find?_cons, hk]
      rw [e1, e2]; exact ⟨a, b⟩
theorem Rp.dct_inv {K : Frag} {B H : Hp} {v : V} {o : Bool} {kvs : List (Key × T)} {F : List Addr} (hs : Sub B H) (h : Rp K B H v (.dct o kvs) F) : ∃ a kv F', v = .ref a ∧ Rd H a (.dK kv) ∧ kv.map (·.1) = kvs.map (·.1) ∧ RpL K B H (kv.map (·.2)) (kvs.map (·.2)) F' := by
  cases h with
  | dctF h1 h2 h3 => exact ⟨_, _, _, rfl, hs.le.rd rfl h1, h2, h3⟩
  | dctO h1 h2 h3 => exact ⟨_, _, _, rfl, .inl h1, h2, h3⟩
def gDGet : T → T → (T → Prop) → Prop
  | .dct _ kvs, y, Q => match keyOf y with
    | some k => match valT kvs k with
      | some t => closed t = true ∧ Q t
      | none => False
    | none => False
  | _, _, _ => False
def gDIn (neg : Bool) : T → T → (T → Prop) → Prop
  | y, .dct _ kvs, Q => match keyOf y with
    | some k => Q (.bl (nb neg (valT kvs k).isSome))
    | none => False
  | _, _, _ => False
def rDGet : R2 := fun x y H Q => ∃ a v, x = .ref a ∧ DGet H a y (some v) ∧ Q v H
theorem l_dget {K : Frag} : LOp K rDGet gDGet := fun B H x y tx ty Fx Fy hs rx ry Q hw Qv k => by
  match tx, rx, hw with
  | .dct o kvs, rx, hw =>
    obtain ⟨a, kv, F', rfl, h1, h2, h3⟩ := rx.dct_inv hs
    simp only [gDGet] at hw
    cases ek : keyOf ty with
    | none => rw [ek] at hw; exact hw.elim
    | some kk =>
      rw [ek] at hw
      cases ev : valT kvs kk with
      | none => simp only [ev] at hw
      | some t =>
        simp only [ev] at hw
        obtain ⟨v, G, e1, r⟩ := (val_of (k := kk) h2 h3).2 t ev
        exact ⟨a, v, rfl, .inl ⟨kv, kk, h1, keyOf_V ry ek, e1.symm⟩, k _ _ H B [] hw.2 (Gro.refl hs) (r.c0 hw.1)⟩
theorem ce_dget {X : Cx} {o i : Expr} {wo wi : WE} {pos : Pos} (hu : X.A.units + 1 < cLine) (ho : CE X o wo) (hi : CE X i wi) (hs : NoSl i) : CE X (.Subscript o i pos) (wOp gDGet wo wi) := by
  obtain ⟨t1, p1, r1⟩ := ho
  obtain ⟨t2, p2, r2⟩ := hi
  exact ⟨_, pe_dget hu p1 p2 hs, rf_op l_dget r1 r2⟩
theorem l_din {K : Frag} : LOp K (fun y x H Q => ∃ a o, x = .ref a ∧ DGet H a y o ∧ Q (.bl o.isSome) H) (gDIn false) := fun B H x y tx ty Fx Fy hs rx ry Q hw Qv k => by
  cases ty with
  | dct o kvs =>
    obtain ⟨a, kv, F', rfl, h1, h2, h3⟩ := ry.dct_inv hs
    have hw' : (match keyOf tx with | some k => Q (.bl (nb false (valT kvs k).isSome)) | none => False) := by cases tx <;> exact hw
    cases ek : keyOf tx with
    | none => rw [ek] at hw'; exact hw'.elim
    | some kk =>
      rw [ek] at hw'
      refine ⟨a, _, rfl, .inl ⟨kv, kk, h1, keyOf_V rx ek, rfl⟩, ?_⟩
      rw [(val_of (k := kk) h2 h3).1]
      exact k _ _ H B [] hw' (Gro.refl hs) (.bl _)
  | _ => cases tx <;> exact hw.elim
theorem l_dnin {K : Frag} : LOp K (fun y x H Q => ∃ a o, x = .ref a ∧ DGet H a y o ∧ Q (.bl (!o.isSome)) H) (gDIn true) := fun B H x y tx ty Fx Fy hs rx ry Q hw Qv k => by
  cases ty with
  | dct o kvs =>
    obtain ⟨a, kv, F', rfl, h1, h2, h3⟩ := ry.dct_inv hs
    have hw' : (match keyOf tx with | some k => Q (.bl (nb true (valT kvs k).isSome)) | none => False) := by cases tx <;> exact hw
    cases ek : keyOf tx with
    | none => rw [ek] at hw'; exact hw'.elim
    | some kk =>
      rw [ek] at hw'
      refine ⟨a, _, rfl, .inl ⟨kv, kk, h1, keyOf_V rx ek, rfl⟩, ?_⟩
      rw [(val_of (k := kk) h2 h3).1]
      exact k _ _ H B [] hw' (Gro.refl hs) (.bl _)
  | _ => cases tx <;> exact hw.elim
section
variable {X : Cx} {o i : Expr} {wo wi : WE} {pos : Pos}
theorem ce_din (hu : X.A.units + 1 < cLine) (hi : CE X i wi) (ho : CE X o wo) (h1 : behindInMarks .In o = false := by rfl) : CE X (.Compare i [.In] [o] pos) (wOp (gDIn false) wi wo) := by
  obtain ⟨t1, p1, r1⟩ := ho
  obtain ⟨t2, p2, r2⟩ := hi
  exact ⟨_, pe_cmp (pc_din hu p2 p1) h1, rf_op l_din r2 r1⟩
theorem ce_dnin (hu : X.A.units + 1 < cLine) (hi : CE X i wi) (ho : CE X o wo) (h1 : behindInMarks .NotIn o = false := by rfl) : CE X (.Compare i [.NotIn] [o] pos) (wOp (gDIn true) wi wo) := by
  obtain ⟨t1, p1, r1⟩ := ho
  obtain ⟨t2, p2, r2⟩ := hi
  exact ⟨_, pe_cmp (pc_dnotin hu p2 p1) h1, rf_op l_dnin r2 r1⟩
theorem ct_din (hu : X.A.units + 1 < cLine) (hi : CE X i wi) (ho : CE X o wo) (h1 : behindInMarks .In o = false := by rfl) : CT X (.Compare i [.In] [o] pos) (wTest (wOp (gDIn false) wi wo)) := by
  obtain ⟨t1, p1, r1⟩ := ho
  obtain ⟨t2, p2, r2⟩ := hi
  exact ⟨_, pt_cmp (pc_din hu p2 p1) h1, rf_testB (rf_op l_din r2 r1)⟩
theorem ct_dnin (hu : X.A.units + 1 < cLine) (hi : CE X i wi) (ho : CE X o wo) (h1 : behindInMarks .NotIn o = false := by rfl) : CT X (.Compare i [.NotIn] [o] pos) (wTest (wOp (gDIn true) wi wo)) := by
  obtain ⟨t1, p1, r1⟩ := ho
  obtain ⟨t2, p2, r2⟩ := hi
  exact ⟨_, pt_cmp (pc_dnotin hu p2 p1) h1, rf_testB (rf_op l_dnin r2 r1)⟩
end
/-- a display -/
abbrev WPs := Dt → (List (Key × T) → Dt → Prop) → Prop
def RfPs (K : Frag) (trs : List (TE × TE)) (w : WPs) : Prop := ∀ (Δ : Dt) (Q : List (Key × T) → Dt → Prop) (σ : Sg) (H B : Hp) (R : List Addr), Rep K B H R σ Δ → w Δ Q → ∀ Qv : List (V × V) → Hp → Prop,
  (∀ (kvs : List (Key × T)) (Δ' : Dt) (kv : List (Key × V)) (H' B' : Hp), Q kvs Δ' → Le B B' → Keep R H H' → Paired (fun (p : Key × V) (q : Key × T) => p.1 = q.1 ∧ Rp K B' H' p.2 q.2 []) kv kvs → Rep K B' H' R σ Δ' → Qv (kv.map fun kv => (kV kv.1, kv.2)) H') → tPairs trs σ H Qv
structure CPs (X : Cx) (pos : Pos) (keys : List (Option Expr)) (values : List Expr) (w : WPs) : Prop where
  ex : ∃ trs, PPs X pos keys values trs ∧ RfPs X.K trs w
def wpNil : WPs := fun Δ Q => Q [] Δ
def wpCons (wk wv : WE) (wr : WPs) : WPs := fun Δ Q => wk Δ fun p Δ1 => onV Δ1 p fun k => match keyOf k with
  | some kk => wv Δ1 fun q Δ2 => wTake q Δ2 fun t Δ3 => wr Δ3 fun kvs Δ4 => Q ((kk, frz t) :: kvs) Δ4
  | none => False
section
variable {X : Cx} {pos : Pos} {k v : Expr} {ks : List (Option Expr)} {vs : List Expr} {wk wv : WE} {wr : WPs}
theorem cps_nil : CPs X pos [] [] wpNil := ⟨[], pps_nil, fun Δ Q σ H B R hr hw Qv k => k [] Δ [] H B hw (Le.refl B) Keep.refl .nil hr⟩
theorem cps_cons (hk : CE X k wk) (hv : CE X v wv) (hr : CPs X pos ks vs wr) : CPs X pos (some k :: ks) (v :: vs) (wpCons wk wv wr) := by
  obtain ⟨t1, p1, r1⟩ := hk
  obtain ⟨t2, p2, r2⟩ := hv
  obtain ⟨t3, p3, r3⟩ := hr
  refine ⟨_, pps_cons p1 p2 p3, fun Δ Q σ H B R hr hw Qv k => ?_⟩
  refine r1 Δ _ σ H B R hr hw _ fun p Δ1 x H1 B1 hq hl1 hk1 ⟨G1, pr1, hr1⟩ => ?_
  obtain ⟨tk, Fk, rk, q⟩ := pr1.tree hr1 hq
  cases ek : keyOf tk with
  | none => simp only [ek] at q
  | some kk =>
    simp only [ek] at q
    refine r2 Δ1 _ σ H1 B1 R hr1.drop q _ fun p2 Δ2 y H2 B2 hq2 hl2 hk2 o => ?_
    obtain ⟨t, Δ3, B3, q3, hl3, ry, hr3⟩ := take_fr o hq2
    refine r3 Δ3 _ σ H2 B3 R hr3 q3 _ fun kvs Δ4 kv H4 B4 q4 hl4 hk4 rp hr4 => ?_
    have e := keyOf_V rk ek
    subst e
    exact k ((kk, frz t) :: kvs) Δ4 ((kk, y) :: kv) H4 B4 q4 (((hl1.trans hl2).trans hl3).trans hl4) ((hk1.trans hk2).trans hk4) (.cons ⟨rfl, ry.mono hl4 fun _ z => nomatch z⟩ rp) hr4
end
def mergeT (kvs more : List (Key × T)) : List (Key × T) := more.foldl (fun acc kv => putT acc kv.1 kv.2) kvs
def wDisp (wp : WPs) : WE := fun Δ Q => wp Δ fun kvs Δ1 => kvs.length ≤ 15 ∧ Q (.val (.dct true (mergeT [] kvs))) Δ1
theorem kv_merge {K : Frag} {B H : Hp} : ∀ {more : List (Key × V)} {moreT : List (Key × T)} {kv : List (Key × V)} {kvs : List (Key × T)}, Paired (fun (p : Key × V) (q : Key × T) => p.1 = q.1 ∧ Rp K B H p.2 q.2 []) more moreT →
    Paired (fun (p : Key × V) (q : Key × T) => p.1 = q.1 ∧ Rp K B H p.2 q.2 []) kv kvs → Paired (fun (p : Key × V) (q : Key × T) => p.1 = q.1 ∧ Rp K B H p.2 q.2 []) (mergeK kv more) (mergeT kvs moreT)
  | _, _, _, _, .nil, h => h
  | (k, v) :: m, (k', t) :: mt, kv, kvs, .cons h1 h2, h => by
    have e : k = k' := h1.1
    subst e
    exact kv_merge (more := m) (moreT := mt) h2 (kv_put (kk := k) h1.2 h)
theorem paired_len {α β : Type} {p : α → β → Prop} : ∀ {xs : List α} {ys : List β}, Paired p xs ys → xs.length = ys.length
  | _, _, .nil => rfl
  | _, _, .cons _ h => by simp [paired_len h]
theorem ce_disp {X : Cx} {pos : Pos} {keys : List (Option Expr)} {values : List Expr} {wp : WPs} (h : CPs X pos keys values wp) (hall : keys.all (·.isSome) = true := by rfl) (hl : keys.length = values.length := by rfl) (h0 : keys ≠ [] := by exact List.cons_ne_nil _ _)
    (h15 : keys.length ≤ 15 := by decide) : CE X (.Dict keys values pos) (wDisp wp) := by
  obtain ⟨trs, p, r⟩ := h
  refine ⟨_, pe_disp p hall hl h0 h15, fun Δ Q σ H B R hr hw Qv k => fun a ha => ?_⟩
  have g := Gro.own (o := .dK []) hr.sub ha
  have hr1 : Rep X.K B (upd H a (.dK [])) ([a] ++ R) σ Δ := hr.gro g
  have kp0 : Keep R H (upd H a (.dK [])) := hr.keepExt g.1
  refine r Δ _ σ _ B ([a] ++ R) hr1 hw _ fun kvs Δ1 kv H1 B1 q hl1 hk1 rp hr2 => ?_
  have hr2' : Rep X.K B1 H1 (a :: ([] ++ R)) σ Δ1 := hr2
  have e1 : H1 a = some (.dK []) := (hk1 a (by simp)).trans upd_same
  refine ⟨e1, kv, rfl, by rw [paired_len rp]; exact q.1, ?_⟩
  obtain ⟨h4, h5⟩ := hr2'.updR (o := .dK (mergeK [] kv))
  have hm := kv_merge rp .nil
  obtain ⟨m1, m2⟩ := kv_to hm
  exact k (.val (.dct true (mergeT [] kvs))) Δ1 _ _ B1 q.2 hl1 ((kp0.trans hk1.right).trans h5) ⟨[a], .dctO upd_same m1 (m2.mono (Le.refl _) fun _ z => nomatch z), h4⟩
def wDNew : WE := fun Δ Q => Q (.val (.dct true [])) Δ
theorem ce_dnew {X : Cx} {pos : Pos} : CE X (.Dict [] [] pos) wDNew := by
  refine ⟨_, pe_dnewK, fun Δ Q σ H B R hr hw Qv k => fun a ha => ?_⟩
  have g := Gro.own (o := .dK []) hr.sub ha
  exact k (.val (.dct true [])) Δ _ _ B hw g.2.1 (hr.keepExt g.1) ⟨[a], .dctO upd_same rfl .nil, hr.gro g⟩

/-! ### xs[::-1] -/
def gRev (x : T) (Q : T → Prop) : Prop := match x with
  | .lst _ xs => closedL xs = true ∧ Q (.lst true xs.reverse)
  | _ => False
theorem l_revL {K : Frag} : LUn K (fun x H Q => ∃ a xs, x = .ref a ∧ SqL K H a xs ∧ ∀ p, H p = none → Q (.ref p) (upd H p (.lst xs.reverse))) gRev := fun B H x tx Fx hs rx Q hw Qv k => by
  match tx, rx, hw with
  | .lst o xs, rx, hw =>
    obtain ⟨a, vs, F', rfl, h1, r1⟩ := rx.lst_inv hs
    exact ⟨a, vs, rfl, h1, new_lst hs ((r1.c0 hw.1).rev0 rfl) hw.2 k⟩
theorem ce_revL {X : Cx} {e : Expr} {we : WE} {k : Nat} {p1 p2 p3 pos : Pos} (he : CE X e we) : CE X (.Subscript e (.Slice none none (some (.UnaryOp .USub (.Constant (.int 1) k p1) p2)) p3) pos) (wUn gRev we) := by
  obtain ⟨t1, q1, r1⟩ := he
  exact ⟨_, pe_revL q1, rf_un l_revL r1⟩

/-! ### products, str() -/
def rMulA : R2 := fun x y H Q => (rI CMulW fun i j => .int (i * j)) x y H Q ∨ rRep x y H Q
theorem op_mulA {X : Cx} : OpR X (binaryOp .Mult) rMulA := OpR.or op_mulW op_rep
theorem rep_rp {K : Frag} {B H : Hp} {vs : List V} {ts : List T} (h : RpL K B H vs ts []) : ∀ n : Nat, RpL K B H (List.replicate n vs).flatten (List.replicate n ts).flatten []
  | 0 => .nil
  | n + 1 => by
    simp only [List.replicate_succ, List.flatten_cons]
    exact RpL.append (F := []) (G := []) h (rep_rp h n)
def gMulA : T → T → (T → Prop) → Prop
  | .int i, .int j, Q => i.natAbs.log2 + j.natAbs.log2 < 1000000 ∧ Q (.int (i * j))
  | .lst true xs, .int k, Q => closedL xs = true ∧ -(2 ^ 63) ≤ k ∧ k < 2 ^ 63 ∧ xs.length * k.toNat ≤ sizeLine ∧ Q (.lst true (List.replicate k.toNat xs).flatten)
  | _, _, _ => False
theorem l_mul {K : Frag} : LOp K rMulA gMulA := fun B H x y tx ty Fx Fy hs rx ry Q hw Qv k => by
  match tx, ty, rx, ry, hw with
  | .int i, .int j, rx, ry, hw => exact .inl ⟨i, j, rx.int_inv.1, ry.int_inv.1, hw.1, k _ _ H B [] hw.2 (Gro.refl hs) (.int _)⟩
  | .lst true xs, .int n, rx, ry, hw =>
    cases rx with
    | @lstO a vs ts F h1 h2 =>
      exact .inr ⟨a, n, vs, rfl, ry.int_inv.1, h1, hw.2.1, hw.2.2.1, by rw [h2.length]; exact hw.2.2.2.1, new_lst hs (rep_rp (h2.c0 hw.1) _) hw.2.2.2.2 k⟩
def gStr : List T → (T → Prop) → Prop
  | [.int i], Q => i.natAbs.log2 < 1920 ∧ Q (.str (toString i))
  | [.str x], Q => Q (.str x)
  | _, _ => False
theorem call_strA {X : Cx} : CallR X (.type "str") (fun xs H Q => (∃ i, xs = [.int i] ∧ i.natAbs.log2 < 1920 ∧ Q (.str (toString i)) H) ∨ ∃ a, xs = [.str a] ∧ Q (.str a) H) := CallR.or call_str_int SkE.call_str_str
theorem l_str {K : Frag} : LCl K (fun xs H Q => (∃ i, xs = [.int i] ∧ i.natAbs.log2 < 1920 ∧ Q (.str (toString i)) H) ∨ ∃ a, xs = [.str a] ∧ Q (.str a) H) gStr := fun B H xs ts F hs r Q hw Qv k => by
  match ts, r, hw with
  | [.int i], .cons r1 .nil, hw => exact .inl ⟨i, by rw [r1.int_inv.1], hw.1, k _ _ H B [] hw.2 (Gro.refl hs) (.str _)⟩
  | [.str i], .cons r1 .nil, hw => exact .inr ⟨i, by rw [r1.str_inv.1], k _ _ H B [] hw (Gro.refl hs) (.str _)⟩

/-! ### calls that leave parameters to their defaults -/
def wCallD (S : FS) (ds : List T) (wa : WA) : WE := fun Δ Q => wa Δ fun ps Δ1 => onVs Δ1 ps fun ts => dupOk Δ1 ps = true ∧ S (ts ++ ds) fun r ts' => match r with
  | .ret t => Q (.val t) (backs Δ1 ps (ts'.take ts.length))
  | .exc _ _ => False
theorem rpl_sc {K : Frag} {B H : Hp} : ∀ {ds : List T}, ds.all scT = true → RpL K B H (ds.map scV) ds []
  | [], _ => .nil
  | d :: ds, h => by
    simp only [List.all_cons, Bool.and_eq_true] at h
    exact RpL.cons (F := []) (G := []) (rp_sc h.1) (rpl_sc h.2)
theorem rf_callD {K : Frag} {ta : TA} {wa : WA} {S : FS} {E : XK} {ds : List T} (hds : ds.all scT = true) (ha : RfA K ta wa) : RfE K (tCall (spT K S) (ds.map scV) E ta) (wCallD S ds wa) := fun Δ Q σ H B R hr hw Qv k => by
  refine ha Δ _ σ H B R hr hw _ fun ps Δ1 vs H1 B1 q hl hk ⟨G, pr, hr1⟩ => ?_
  have hd : dupOk Δ1 ps = true := by
    obtain ⟨ts, F, _, q2⟩ := pr.trees hr1 q
    exact q2.1
  obtain ⟨ts, G0, Δ0, rL, hr0, q2, back⟩ := args_out pr hr1 q hd
  obtain ⟨F0, hS0, hdj⟩ := hr0.fp
  show spT K S (vs ++ ds.map scV) H1 Qv E
  have rL2 : RpL K B1 H1 (vs ++ ds.map scV) (ts ++ ds) (G0 ++ []) := rL.append (rpl_sc hds)
  refine ⟨ts ++ ds, B1, F0 ++ R, _, ⟨hr0.sub, G0 ++ [], RpS.of_L rL2, hdj.of_le fun a => by simp only [List.count_append, List.count_nil]; omega⟩, q2.2, fun t ts' v H' B' G2 qf hle hkp r hrep => ?_, fun C fs ts' od H' B' qf => qf.elim⟩
  obtain ⟨G', hS', hdj'⟩ := hrep.fp
  have rL' := RpS.to_L hS'
  obtain ⟨G3, G4, e, ra, rb⟩ := rL'.split ts.length
  have e1 : (vs ++ ds.map scV).take ts.length = vs := by rw [← rL.length]; simp
  rw [e1] at ra
  subst e
  have hrB : Rep K B' H' (G3 ++ (G2 ++ R)) σ Δ0 := ⟨hrep.sub, F0, hS0.mono hle hkp.left, hdj'.of_le fun a => by simp only [List.count_append]; omega⟩
  exact k (.val t) _ v H' B' qf (hl.trans hle) (hk.trans hkp.right) ⟨G2, r, back B' H' _ G3 (G2 ++ R) ra hrB⟩
theorem vals_sc : ∀ {ds : List T} {us : List Value}, Vals (ds.map scV) us → Vals (ds.map scV) us := fun h => h
theorem ce_callD {X : Cx} {CX : CXT} {k : Nat} {f : Addr} {fd : FuncData} {ps : List Str} {S : FS} {E : XK} {x : Str} {p pos : Pos} {e : Expr} {es : List Expr} {wa : WA} {ds : List T} {us : List Value} (F : FnG X.prog X.w X.K X.mg X.base CX k f fd ps (spT X.K S)) (hds : ds.all scT = true) (hus : Vals (ds.map scV) us)
    (hr : Room k X.A) (hgd : X.A.guards = some []) (hg : Gl X x)
    (hm : X.mg x = some (.ref f)) (hk : PySem.W.keepIn X.K (.ref f) = true) (hb : Binds X.K fd ps us) (hx : Passes CX X E) (ha : CA X (e :: es) wa) (hdb : (x == ("__debug__" : Str)) = false := by decide)
    (he : starEach (e :: es) X.env = (false, eval e X.env) :: starEach es X.env := by rfl) (hpl : (backTo pos (starEach es X.env)).any (·.1) = false := by rfl) : CE X (.Call (.Name x p) (e :: es) [] pos) (wCallD S ds wa) := by
  obtain ⟨ta, pa, ra⟩ := ha
  exact ⟨_, pe_callG F hr hgd hg hm hk hb hus hx pa hdb he hpl, rf_callD hds ra⟩
end TL

set_option maxRecDepth 100000
set_option maxHeartbeats 1000000
namespace TL
open PySem PySem.Spec PyProof.Rows L2

/-- where the modules stand, a dict stands (so no list and no tuple) -/
def SysAt (h : Heap) : Prop := ∃ o es ep, h.get? sysModules = some o ∧ o.data = .dict es ep
/-! ### the law's end: its def is called with the script -/
theorem ints_rp {K : Frag} {B H : Hp} : ∀ ns : List Int, RpL K B H (ns.map V.int) (ns.map T.int) []
  | [] => .nil
  | n :: r => RpL.cons (F := []) (G := []) (.int n) (ints_rp r)
/-- one object is tracked, and none else -/
def oneAt (a : Addr) (u : Option HO) : Hp := fun b => if b = a then u else none
theorem oneAt_inv {a b : Addr} {u : Option HO} {o : HO} (h : oneAt a u b = some o) : b = a ∧ u = some o := by
  unfold oneAt at h
  by_cases e : b = a
  · rw [if_pos e] at h; exact ⟨e, h⟩
  · rw [if_neg e] at h; cases h
section
variable {P : Program} {w : World} {K : Frag} {mg mb : Str → Option Value} {CX : CXT} {k : Nat} {fa a : Addr} {fd : FuncData} {S : FS} {s1 : Shared} {vs : List Value} {ns : List Int}
/-- how the script stands: as one of the module's own objects (u = none), or tracked as it is -/
structure Stands (P : Program) (w : World) (K : Frag) (s1 : Shared) (a : Addr) (u : Option HO) (ns : List Int) : Prop where
  hok : HOk P w (oneAt a u) s1.heap
  rd : RdL K (oneAt a u) a (ns.map V.int)
  out : ∀ o, u = some o → K.lookup a = none ∧ ∃ ob xs, o = .frz ob (.lst xs)
theorem stands (KX : K.In s1.heap) (ha : s1.heap.get? a = some { cls := .type "list", data := .seq vs.toArray }) (hi : IntsAre vs ns) (hl : ns.length ≤ sizeLine) : ∃ u, Stands P w K s1 a u ns := by
  have rv : Vals (ns.map V.int) vs := vals_ints hi
  have same : vs.length = ns.length := hi.length
  rcases hk : K.lookup a with _ | o
  · refine ⟨some (.frz { cls := .type "list", data := .seq vs.toArray } (.lst (ns.map V.int))), fun b o e => ?_, .inl (.inr ⟨_, by simp [oneAt]; rfl⟩), fun o e => ⟨hk, _, _, (Option.some.inj e).symm⟩⟩
    obtain ⟨rfl, e2⟩ := oneAt_inv e
    cases e2
    refine ⟨ha, ?_, vs, _, rv, ha⟩
    rw [List.length_map]
    exact hl
  · have e : some o = some _ := (KX a o hk).symm.trans ha
    obtain rfl := Option.some.inj e
    refine ⟨none, fun b o e => (nomatch (oneAt_inv e).2), .inr ⟨vs.toArray, _, hk, ?_, by simpa using rv⟩, fun o e => nomatch e⟩
    rw [List.size_toArray, same]
    exact hl
theorem script_call (KX : K.In s1.heap) (hns : s1.heap.Ns mainGlobals mg) (hb : s1.heap.Ns builtinsNs mb) (hbb : ∀ x : Str, x ≠ "__name__" → mb x = bootBuiltins x) (hlim : s1.heap.NoLimit) (hg : s1.gens = #[]) (sys : SysAt s1.heap)
    (ha : s1.heap.get? a = some { cls := .type "list", data := .seq vs.toArray }) (hi : IntsAre vs ns) (hl : ns.length ≤ sizeLine) (hr : Room k callerA) (hgd : callerA.guards = some [])
    (F : ∀ base : Heap, K.In base → base.Ns mainGlobals mg → SysAt base → FnG P w K mg base CX k fa fd ["script"] (spT K S)) (hbind : ∀ (s : Shared) (u : Value), BindsTo s fd ⟨[u], []⟩ [("script", u)])
    (hS : S [.lst false (ns.map T.int)] fun r _ => r = .ret (.bl true)) (hCX : ∀ H e s', CX [] H s1 (fun _ _ _ => False) e s' → False) :
    codeAny (model P w) callerA (.call (.ref fa) ⟨[.ref a], []⟩) (fun r s' => r = .ok (.ret (.bool true)) ∧ OldK s1.heap s'.heap ∧ s'.os = s1.os ∧ AllBare s'.gens) s1 := by
  obtain ⟨u, W⟩ := stands (P := P) (w := w) KX ha hi hl
  -- what is not tracked stays in the base
  have none_of : ∀ {b : Addr} {ob : Obj}, s1.heap.get? b = some ob → (∀ xs n, ob.data ≠ .seq xs n) → oneAt a u b = none := fun {b ob} e hd => by
    rcases q : oneAt a u b with _ | o
    · rfl
    · obtain ⟨rfl, _⟩ := oneAt_inv q
      rw [ha] at e
      obtain rfl := Option.some.inj e
      exact absurd rfl (hd _ _)
  have ns_of : ∀ {b : Addr} {m : Str → Option Value}, s1.heap.Ns b m → (hidT s1.heap (oneAt a u)).Ns b m := fun {b m} ⟨o, es, ep, e, d, r⟩ =>
    ⟨o, es, ep, hidT_get e (none_of e fun xs n z => by rw [d] at z; cases z), d, r⟩
  have sys2 : SysAt (hidT s1.heap (oneAt a u)) := by
    obtain ⟨o, es, ep, e, d⟩ := sys
    exact ⟨o, es, ep, hidT_get e (none_of e fun xs n z => by rw [d] at z; cases z), d⟩
  have kin : K.In (hidT s1.heap (oneAt a u)) := fun b ob e => hidT_get (KX b ob e) (by
    rcases q : oneAt a u b with _ | o
    · rfl
    · obtain ⟨rfl, e2⟩ := oneAt_inv q
      rw [(W.out o e2).1] at e
      cases e)
  have md : Mod K mg (hidT s1.heap (oneAt a u)) := by
    refine ⟨kin, ns_of hns, ⟨mb, ns_of hb, hbb⟩, ?_⟩
    obtain ⟨mc, h1, h2⟩ := hlim
    exact ⟨mc, ns_of h1, h2⟩
  have env : Env0 P w K mg (hidT s1.heap (oneAt a u)) callerA [] s1 (oneAt a u) :=
    { frames := rfl, mod := md, bs := fun b o e => of_hidT e, bsz := Nat.le_of_eq (hidT_size _ _), funs := trivial, frf := fun b z => (by simp [frs] at z), hok := W.hok, bare := .of_eq hg }
  have rep : Rep K (oneAt a u) (oneAt a u) [] ([V.ref a].map some) ([T.lst false (ns.map T.int)].map some) :=
    ⟨fun _ _ e => e, [], RpS.of_L (F := []) (RpL.cons (F := []) (G := []) (.lstF W.rd (ints_rp ns)) .nil), fun b => ⟨by simp, fun z => nomatch z⟩⟩
  have asks : spT K S [.ref a] (oneAt a u) (fun v _ => v = .bl true) fun _ _ _ => False :=
    ⟨_, _, [], _, rep, hS, fun t ts' v H' B' G e _ _ r _ => by obtain rfl := Rs.ret.inj e; exact r.bl_inv.1, fun C fs ts' od H' B' e => nomatch e⟩
  refine codeAny_mono ((F _ kin (ns_of hns) sys2).keeps (us := [.ref a]) (vs := [.ref a]) ⟨hr, hgd, env, hbind s1 (.ref a), .cons rfl .nil⟩ asks) fun r s' got => ?_
  match r, got with
  | .error e, got => exact absurd got (hCX _ e s')
  | .ok (.ret y), ⟨v, H', os, bare, un, hok', rel, q⟩ =>
    obtain rfl : v = .bl true := q
    obtain rfl : y = Value.bool true := rel
    refine ⟨rfl, .of_keep fun b ob e => ?_, os, bare⟩
    rcases q : oneAt a u b with _ | o
    · exact un.keep b ob e q (by simp [frs]) (by simp)
    · obtain ⟨_, e2⟩ := oneAt_inv q
      obtain ⟨_, o2, xs, rfl⟩ := W.out o e2
      have before := (W.hok b _ q).1
      have after := (hok' b _ (un.frzs b o2 _ q)).1
      exact after.trans (before.symm.trans e)
  | .ok .next, got => exact False.elim got
  | .ok .brk, got => exact False.elim got
  | .ok .cont, got => exact False.elim got
end
theorem law_walk {l : PySem.W.OpenLaw} {n k : Nat} {q : Program} {loose : List Str} {XP : (Str → Option Value) → Heap → Prop} {YP : World → Heap → Prop} {d : DefRec} {K : Params → Frag} {CX : World → CXT} {S : FS}
    (hn : l.most = some n) (hn2 : n ≤ sizeLine) (hdf : d.params.defaults = []) (hr : Room k callerA) (hgd : callerA.guards = some []) (hq : importsNone q = true) (hY : ∀ (w : World) (h : Heap), YP w h → (K w.params).In h)
    (F : ∀ (w : World) (mg : Str → Option Value) (fa : Addr) (h : Heap), (K w.params).In h → h.Ns mainGlobals mg → mg d.name = some (.ref fa) → ∃ fd : FuncData, (∀ (s : Shared) (u : Value), BindsTo s fd ⟨[u], []⟩ [("script", u)]) ∧ ∀ base : Heap, (K w.params).In base → base.Ns mainGlobals mg → SysAt base → FnG l.prog w (K w.params) mg base (CX w) k fa fd ["script"] (spT (K w.params) S))
    (hS : ∀ ns : List Int, ns.length ≤ n → S [.lst false (ns.map T.int)] fun r _ => r = .ret (.bl true)) (hCX : ∀ (w : World) (H : Hp) (s : Shared) (e : Value) (s' : Shared), CX w [] H s (fun _ _ _ => False) e s' → False) : PySem.W.WalkO q loose XP YP l.row.toRowW d [] (fun f vs => PySem.call f vs) := by
  refine Att.attach_call hn hdf fun w _ s1 mg _ fa _ _ _ _ a _ ns G Y _ _ _ hmg hobj hints hlen hg => ?_
  obtain ⟨fd, hb, hF⟩ := F w mg fa _ (hY w _ Y) G.T.g hmg
  obtain ⟨mm, ⟨o, es, ep, e, d, _⟩, _⟩ := (G.T.seer hq).mods
  exact script_call (hY w _ Y) G.T.g G.T.b G.T.builtins G.T.nolimit hg ⟨o, es, ep, e, d⟩ hobj hints (Nat.le_trans hlen hn2) hr hgd hF hb (hS ns hlen) fun H e s' => hCX w H s1 e s'
end TL

set_option maxRecDepth 100000
set_option maxHeartbeats 1000000
namespace TL
open PySem PySem.Spec PyProof.Rows L2

/-- a context that takes no exception -/
theorem takes_no {X : Cx} : L2N.Takes X fun _ _ _ _ => False := fun _ _ got => by
  obtain ⟨_, _, _, _, _, _, _, _, _, _, _, _, _, _, _, _, w⟩ := got
  exact w.elim
/-- a def of the program as its callers need it: k rooms, the defaults that fill up, what it promises -/
structure Cal (P : Program) (w : World) (K : Frag) (mg : Str → Option Value) (base : Heap) (k : Nat) (x : Str) (ds : List T) (S : FS) : Prop where
  ex : ∃ (f : Addr) (fd : FuncData) (ps : List Str), mg x = some (.ref f) ∧ PySem.W.keepIn K (.ref f) = true ∧ (∃ us, Vals (ds.map scV) us ∧ Binds K fd ps us) ∧ FnG P w K mg base CX0 k f fd ps (spT K S)
section
variable {X : Cx} {k j : Nat} {S : FS} {x : Str} {p pos : Pos} {e : Expr} {es : List Expr} {wa : WA} {ds : List T}
theorem ce_cal (c : Cal X.prog X.w X.K X.mg X.base j x [] S) (hr : Room k X.A) (hj : j ≤ k) (hgd : X.A.guards = some []) (hg : Gl X x) (ha : CA X (e :: es) wa) (hdb : (x == ("__debug__" : Str)) = false := by decide)
    (he : starEach (e :: es) X.env = (false, eval e X.env) :: starEach es X.env := by rfl) (hpl : (backTo pos (starEach es X.env)).any (·.1) = false := by rfl) : CE X (.Call (.Name x p) (e :: es) [] pos) (wCall S wa) := by
  obtain ⟨f, fd, ps, hm, hk, ⟨us, hus, hb⟩, F⟩ := c.ex
  cases hus
  exact ce_call F (hr.mono hj) hgd hg hm hk hb pass0 ha hdb he hpl
theorem ce_calD (c : Cal X.prog X.w X.K X.mg X.base j x ds S) (hds : ds.all scT = true) (hr : Room k X.A) (hj : j ≤ k) (hgd : X.A.guards = some []) (hg : Gl X x) (ha : CA X (e :: es) wa) (hdb : (x == ("__debug__" : Str)) = false := by decide)
    (he : starEach (e :: es) X.env = (false, eval e X.env) :: starEach es X.env := by rfl) (hpl : (backTo pos (starEach es X.env)).any (·.1) = false := by rfl) : CE X (.Call (.Name x p) (e :: es) [] pos) (wCallD S ds wa) := by
  obtain ⟨f, fd, ps, hm, hk, ⟨us, hus, hb⟩, F⟩ := c.ex
  exact ce_callD F hds hus (hr.mono hj) hgd hg hm hk hb pass0 ha hdb he hpl
theorem cg_sub {S : Nat → Prop} {i : Nat} {y : Str} {ix : Expr} {wi : WE} (hu : X.A.units + 1 < cLine) (hN : X.N[i]? = some y) (hv : Vis X.env.scope y) (hi : CE X ix wi) (hd : (y == ("__debug__" : Str)) = false := by decide) (hcd : (y == ("__classdict__" : Str)) = false := by decide)
    (ha : ∀ v, assign (.Subscript (.Name y p) ix pos) X.env v = (do { let ov ← holding [v] (eval (.Name y p) X.env); let iv ← holding [v, ov] (eval ix X.env); standAt pos; holding [v, ov, iv] (setItem ov iv v); release [v, ov, iv] [] }) := by intro _; rfl) : CG X S (.Subscript (.Name y p) ix pos) (wgSub i wi) := by
  obtain ⟨ti, q, r⟩ := hi
  exact ⟨_, pg_sub (pe_var hN hv hd hcd) q (set_any hu) ha, rf_gSub r⟩
end
/-- a def as the top has written it; dV: its defaults -/
structure DefAt (K : Frag) (mg : Str → Option Value) (x qual : Str) (st : Stmt) (f : Addr) (fd : FuncData) (dV : Value) : Prop where
  text : ∃ (kV doc pm cdv ct : Value) (an : Option Addr) (o : Obj), K.lookup f = some o ∧ o.data = .func fd ∧ PySem.W.codeIn K cdv qual = true ∧ fd = PySem.W.fnOf x qual (defArgs st) (defBody st) (defScope st) dV kV doc pm an cdv ct
  stays : PySem.W.keepIn K (.ref f) = true
  nm : mg x = some (.ref f)
section
variable {P : Program} {w : World} {K : Frag} {mg : Str → Option Value} {base : Heap} {x qual : Str} {st : Stmt} {f : Addr} {fd : FuncData} {dV : Value} {N ps : List Str} {k : Nat} {S : FS}
/-- THE RULE for a def: its body read, and what the reading asks shown of all that it promises -/
theorem def_ok (np : Nat) (F : DefAt K mg x qual st f fd dV) (Sc : FnScope N ps (defScope st)) (hlen : ∀ ts Q, S ts Q → ts.length = ps.length) (hnp : np ≤ ps.length)
    (body : ∀ (cdv : Value) (A : Around) (outer : List Env) (s : Shared) (H : Hp) (E : XK), Room k (A.deeper (envOfC qual (defScope st) s.heap.objs.size f cdv)) → (A.deeper (envOfC qual (defScope st) s.heap.objs.size f cdv)).guards = some [] →
      ∃ w', CSs (cxOf CX0 P w K mg base N qual (defScope st) f cdv A outer s H E).nox np (defBody st) w' ∧ ∀ ts Qf, S ts Qf → w' (endsD np ts Qf) (startD N np ts)) : FnG P w K mg base CX0 (k + 1) f fd ps (spT K S) := by
  obtain ⟨kV, doc, pm, cdv, ct, an, o, stands, isF, code, rfl⟩ := F.text
  have arity : ∀ {vs H Q E}, spT K S vs H Q E → vs.length = ps.length := fun {vs H Q E} ⟨ts, B, R, Qf, hr, hs, _⟩ => by
    have e := hr.len
    simp only [List.length_map] at e
    exact e.trans (hlen ts Qf hs)
  refine fnG_of stands isF code Sc arity fun A outer s H vs Q E room quiet asks => ?_
  have hlv := arity asks
  obtain ⟨ts, B, R, Qf, hrep, hS, k1, k2⟩ := asks
  obtain ⟨w', hb, hv⟩ := body cdv A outer s H E room quiet
  obtain ⟨tb, hp, hrf⟩ := hb.ex _ takes_no
  obtain ⟨B1, hle, hr1, rest⟩ := entry (N := N) np hrep
  refine ⟨tb, hp.nox, hrf _ _ _ H B1 R hr1 (hv ts Qf hS) _ (fun Δ' σ' H' B' q f hr' => ?_) (fun t Δ' σ' v H' B' G q f r hr' => ?_) (fun _ _ _ _ q => q.elim) (fun _ _ _ _ q => q.elim) fun _ _ _ _ _ _ _ q => q.elim⟩
  · obtain ⟨us, hu, hΔ, q2⟩ := lookUp_pre q
    exact k1 .non _ .non H' B' [] q2 (hle.trans f.1) f.2.1 .non (leave (N := N) (G := []) (by omega) hr' f.1 f.2.2 hu hΔ rest)
  · obtain ⟨us, hu, hΔ, q2⟩ := lookUp_pre q
    exact k1 t _ v H' B' G q2 (hle.trans f.1) f.2.1 r (leave (N := N) (by omega) hr' f.1 f.2.2 hu hΔ rest)
theorem DefAt.cal (F : DefAt K mg x qual st f fd .none) (G : FnG P w K mg base CX0 k f fd ps (spT K S))
    (h : ∀ (kV doc pm : Value) (an : Option Addr) (cdv ct : Value) (us : List Value), us.length = ps.length → bindArgs (PySem.W.fnOf x qual (defArgs st) (defBody st) (defScope st) .none kV doc pm an cdv ct) ⟨us, []⟩ = pure (ps.zip us)) : Cal P w K mg base k x [] S := by
  obtain ⟨kV, doc, pm, cdv, ct, an, o, _, _, _, rfl⟩ := F.text
  exact ⟨_, _, ps, F.nm, F.stays, ⟨[], .nil, .all (h kV doc pm an cdv ct)⟩, G⟩
/-- the last parameters fill up from a tuple that stands in the written part -/
theorem DefAt.calD {Td : Addr} {o : Obj} {its : List Value} {m : Nat} {ds : List T} (F : DefAt K mg x qual st f fd (.ref Td)) (G : FnG P w K mg base CX0 k f fd ps (spT K S)) (lT : K.lookup Td = some o) (oT : o.data = .seq its.toArray m) (hv : Vals (ds.map scV) its) (n : Nat) (hn : n + ds.length = ps.length)
    (h : ∀ (kV doc pm : Value) (an : Option Addr) (cdv ct : Value) (us : List Value), us.length = n → ∃ kk, bindArgs (PySem.W.fnOf x qual (defArgs st) (defBody st) (defScope st) (.ref Td) kV doc pm an cdv ct) ⟨us, []⟩ = seqItems? (.ref Td) >>= kk ∧ kk (some its.toArray) = pure (ps.zip (us ++ its))) : Cal P w K mg base k x ds S := by
  obtain ⟨kV, doc, pm, cdv, ct, an, o, _, _, _, rfl⟩ := F.text
  refine ⟨_, _, ps, F.nm, F.stays, ⟨its, hv, fun s us X hl => ?_⟩, G⟩
  have hl2 : us.length = n := by
    have e := hv.length
    rw [List.length_append] at hl
    rw [List.length_map] at e
    omega
  obtain ⟨kk, e1, e2⟩ := h kV doc pm an cdv ct us hl2
  exact BindsTo.of_looks fun M => e1.symm ▸ looks_items X lT oT (PySem.W.Looks.of_pure e2)
end
/-- tuples of texts that the top has written -/
theorem rp_ktup {K : Frag} {a : Addr} {dd : Option Addr} {its : List Value} {n : Nat} {sl : Array (Option Value)} {ts : List T} (h : K.lookup a = some ⟨.type "tuple", dd, .seq its.toArray n, sl⟩) (hs : ts.all scT = true) (hz : its.length ≤ sizeLine) (hv : Vals (ts.map scV) its) (B H : Hp) : Rp K B H (.ref a) (.tup ts) [] :=
  .tup (.inr ⟨_, its.toArray, n, h, rfl, rfl, by rw [List.size_toArray]; exact hz, by simpa using hv⟩) (rpl_sc hs)
theorem bt_len : bootBuiltins "len" = some (.builtin "len") := by decide +kernel
theorem bt_isinstance : bootBuiltins "isinstance" = some (.builtin "isinstance") := by decide +kernel
theorem bt_abs : bootBuiltins "abs" = some (.builtin "abs") := by decide +kernel
theorem bt_repr : bootBuiltins "repr" = some (.builtin "repr") := by decide +kernel
theorem bt_max : bootBuiltins "max" = some (.builtin "max") := by decide +kernel
theorem bt_min : bootBuiltins "min" = some (.builtin "min") := by decide +kernel
theorem bt_sum : bootBuiltins "sum" = some (.builtin "sum") := by decide +kernel
theorem bt_sorted : bootBuiltins "sorted" = some (.builtin "sorted") := by decide +kernel
theorem bt_int : bootBuiltins "int" = some (.type "int") := by decide +kernel
theorem bt_str : bootBuiltins "str" = some (.type "str") := by decide +kernel
theorem bt_bool : bootBuiltins "bool" = some (.type "bool") := by decide +kernel
theorem bt_list : bootBuiltins "list" = some (.type "list") := by decide +kernel
theorem bt_dict : bootBuiltins "dict" = some (.type "dict") := by decide +kernel
theorem bt_tuple : bootBuiltins "tuple" = some (.type "tuple") := by decide +kernel
end TL

set_option maxRecDepth 100000
set_option maxHeartbeats 1000000
namespace TL
open PySem PySem.Spec PyProof.Rows L2

/-! ### data with dicts, shown -/
def encK : Key → PyData
  | .inl i => .int i
  | .inr x => .str x
mutual
def toR : T → PyData
  | .bl b => .bool b | .int i => .int i | .str x => .str x
  | .tup xs => .tuple (toRL xs)
  | .lst _ xs => .list (toRL xs)
  | .dct _ kvs => .dict (toRK kvs)
  | .non => .none | .ins _ _ _ => .none | .fn _ => .none | .ty _ => .none | .exc _ _ _ _ => .none | .exv _ _ => .none
def toRL : List T → List PyData
  | [] => []
  | t :: r => toR t :: toRL r
def toRK : List (Key × T) → List (PyData × PyData)
  | [] => []
  | (k, t) :: r => (encK k, toR t) :: toRK r
end
mutual
/-- data -/
def dtR : T → Bool
  | .tup xs => dtRL xs
  | .lst _ xs => dtRL xs
  | .dct _ kvs => dtRK kvs
  | .ins _ _ _ => false | .fn _ => false | .ty _ => false | .exc _ _ _ _ => false | .exv _ _ => false
  | .non => true | .bl _ => true | .int _ => true | .str _ => true
def dtRL : List T → Bool
  | [] => true
  | t :: r => dtR t && dtRL r
def dtRK : List (Key × T) → Bool
  | [] => true
  | (_, t) :: r => dtR t && dtRK r
end
section
variable {X : Cx} {pins : List (Addr × Obj)} {σ : Sg} {H B : Hp} {s : Shared}
theorem key_reads {h : Heap} {prog : Program} {w : World} (k : Key) (key : Value) (e : (mixKind prog w).is k key = true) : Reads h key (encK k) [] := by
  rcases keyIs_shape e with ⟨i, t, rfl, rfl⟩ | ⟨x, t, rfl, rfl⟩
  · exact .int i t
  · exact .str x t
theorem no_sys {h : Heap} {a : Addr} {o : Obj} {vs : Array Value} {n : Nat} (hS : SysAt h) (e : h.get? a = some o) (d : o.data = .seq vs n) : sysModules ≠ a := fun z => by
  subst z
  obtain ⟨o', es, ep, e', d'⟩ := hS
  rw [e] at e'
  cases e'
  rw [d] at d'; cases d'
mutual
theorem Rp.readsR (I : Inv X pins σ H s) (hs : Sub B H) (hS : SysAt s.heap) : ∀ {v : V} {t : T} {F : List Addr}, Rp X.K B H v t F → dtR t = true → ∀ {u : Value}, RelV v u → ∃ as, Reads s.heap u (toR t) as ∧ sysModules ∉ as
  | _, _, _, .non, _, _, r => by cases r; simp only [toR]; exact ⟨_, .none, by simp⟩
  | _, _, _, .bl b, _, _, r => by cases r; simp only [toR]; exact ⟨_, .bool b, by simp⟩
  | _, _, _, .int i, _, _, r => by obtain ⟨t, rfl⟩ := r; simp only [toR]; exact ⟨_, .int i t, by simp⟩
  | _, _, _, .str x, _, _, r => by obtain ⟨t, rfl⟩ := r; simp only [toR]; exact ⟨_, .str x t, by simp⟩
  | _, _, _, .fn a, h, _, _ => by simp [dtR] at h
  | _, _, _, .ty n, h, _, _ => by simp [dtR] at h
  | _, _, _, .exc0 a x, h, _, _ => by simp [dtR] at h
  | _, _, _, .exv0 _, h, _, _ => by simp [dtR] at h
  | _, _, _, .exvD _ _ _ _, h, _, _ => by simp [dtR] at h
  | _, _, _, .excD _ _ _, h, _, _ => by simp [dtR] at h
  | _, _, _, .tup h1 h2, h, _, r => by
    cases r
    obtain ⟨its, rv, ⟨o, e, c, n, d⟩, _⟩ := I.tuple (hs.le.sqT h1)
    obtain ⟨as, q, hn⟩ := RpL.readsR I hs hS h2 (by simpa [dtR] using h) rv
    simp only [toR]
    exact ⟨_, .tuple e c d (by simpa using q), hn⟩
  | _, _, _, .lstF h1 h2, h, _, r => by
    cases r
    obtain ⟨its, n, rv, _, _, e⟩ := lstX I (hs.le.rdL h1)
    obtain ⟨as, q, hn⟩ := RpL.readsR I hs hS h2 (by simpa [dtR] using h) rv
    simp only [toR]
    exact ⟨_, .list e rfl rfl (by simpa using q), fun z => (List.mem_cons.mp z).elim (no_sys hS e rfl) hn⟩
  | _, _, _, .lstO h1 h2, h, _, r => by
    cases r
    obtain ⟨its, n, rv, _, _, e⟩ := lstX I (.inl (.inl h1))
    obtain ⟨as, q, hn⟩ := RpL.readsR I hs hS h2 (by simpa [dtR] using h) rv
    simp only [toR]
    exact ⟨_, .list e rfl rfl (by simpa using q), fun z => (List.mem_cons.mp z).elim (no_sys hS e rfl) hn⟩
  | _, _, _, .dctF h1 h2 h3, h, _, r => by
    cases r
    obtain ⟨_, hsys, vs, r0, dd⟩ := Rd.ok (hs.le.rd rfl h1) I.hok
    obtain ⟨bs, q, hn⟩ := RpL.pairsR I hs hS h3 rfl rfl h2 r0 (by simpa [dtR] using h)
    simp only [toR]
    exact ⟨_, PyProof.V.reads_dictOf key_reads dd q, fun z => (List.mem_cons.mp z).elim (fun e => by subst e; simp at hsys) hn⟩
  | _, _, _, .dctO h1 h2 h3, h, _, r => by
    cases r
    obtain ⟨_, hsys, vs, r0, dd⟩ := Rd.ok (.inl h1) I.hok
    obtain ⟨bs, q, hn⟩ := RpL.pairsR I hs hS h3 rfl rfl h2 r0 (by simpa [dtR] using h)
    simp only [toR]
    exact ⟨_, PyProof.V.reads_dictOf key_reads dd q, fun z => (List.mem_cons.mp z).elim (fun e => by subst e; simp at hsys) hn⟩
  | _, _, _, .insF _ _ _, h, _, _ => by simp [dtR] at h
  | _, _, _, .insO _ _ _ _, h, _, _ => by simp [dtR] at h
theorem RpL.readsR (I : Inv X pins σ H s) (hs : Sub B H) (hS : SysAt s.heap) : ∀ {vs : List V} {ts : List T} {F : List Addr}, RpL X.K B H vs ts F → dtRL ts = true → ∀ {us : List Value}, Vals vs us → ∃ as, ReadsAll s.heap us (toRL ts) as ∧ sysModules ∉ as
  | _, _, _, .nil, _, _, .nil => by simp only [toRL]; exact ⟨_, .nil, by simp⟩
  | _, _, _, .cons h1 h2, h, _, .cons r1 r2 => by
    simp only [dtRL, Bool.and_eq_true] at h
    obtain ⟨as, q1, n1⟩ := Rp.readsR I hs hS h1 h.1 r1
    obtain ⟨bs, q2, n2⟩ := RpL.readsR I hs hS h2 h.2 r2
    simp only [toRL]
    exact ⟨_, .cons q1 q2, fun z => (List.mem_append.mp z).elim n1 n2⟩
theorem RpL.pairsR (I : Inv X pins σ H s) (hs : Sub B H) (hS : SysAt s.heap) : ∀ {vs : List V} {ts : List T} {F : List Addr}, RpL X.K B H vs ts F → ∀ {kv : List (Key × V)} {kvs : List (Key × T)} {us : List (Key × Value)}, vs = kv.map (·.2) → ts = kvs.map (·.2) → kv.map (·.1) = kvs.map (·.1) → KV kv us → dtRK kvs = true →
    ∃ bs, PyProof.V.PairsRead s.heap encK us (toRK kvs) bs ∧ sysModules ∉ bs
  | _, _, _, .nil, kv, kvs, us, e1, e2, e3, r, _ => by
    cases kv with
    | cons _ _ => simp at e1
    | nil =>
      cases kvs with
      | cons _ _ => simp at e2
      | nil =>
        cases r
        simp only [toRK]
        exact ⟨_, .nil, by simp⟩
  | _, _, _, .cons h1 h2, kv, kvs, us, e1, e2, e3, r, h => by
    cases kv with
    | nil => simp at e1
    | cons p kv =>
      cases kvs with
      | nil => simp at e2
      | cons q kvs =>
        obtain ⟨k1, x⟩ := p
        obtain ⟨k2, t⟩ := q
        simp only [List.map_cons, List.cons.injEq] at e1 e2 e3
        obtain ⟨rfl, e1⟩ := e1
        obtain ⟨rfl, e2⟩ := e2
        obtain ⟨rfl, e3⟩ := e3
        cases r with
        | @cons _ b _ us hb r =>
          obtain ⟨k3, y⟩ := b
          obtain ⟨rfl, hy⟩ := hb
          simp only [dtRK, Bool.and_eq_true] at h
          obtain ⟨as, q1, n1⟩ := Rp.readsR I hs hS h1 h.1 hy
          obtain ⟨bs, q2, n2⟩ := RpL.pairsR I hs hS h2 e1 e2 e3 r h.2
          simp only [toRK]
          exact ⟨_, .cons q1 q2, fun z => (List.mem_append.mp z).elim n1 n2⟩
end
end
/-- it can be shown: small numbers, not too deep, not too long -/
def okR (t : T) : Bool := dtR t && (toR t).showable && PyData.leavesShort 600 (toR t) && decide ((toR t).depth ≤ 60) && decide ((toR t).weight ≤ 20000)
def shR (t : T) : Str := (toR t).shown
def gReprD : List T → (T → Prop) → Prop
  | [t], Q => okR t = true ∧ Q (.str (shR t))
  | _, _ => False
def rReprD (K : Frag) : List V → Hp → VK → Prop := fun xs H Q => ∃ x B t F, xs = [x] ∧ Sub B H ∧ Rp K B H x t F ∧ okR t = true ∧ Q (.str (shR t)) H
theorem call_reprD {X : Cx} (hu : X.A.units + 64 < cLine) (hg : X.A.guards = some []) (hS : SysAt X.base) : CallR X (.builtin "repr") (rReprD X.K) := fun pins s σ H xs us Q I r h => by
  obtain ⟨x, B, t, F, rfl, hs, rp, ok, q⟩ := h
  obtain ⟨u, rfl, r1⟩ := vals1 r
  simp only [okR, Bool.and_eq_true, decide_eq_true_eq] at ok
  obtain ⟨⟨⟨⟨o1, o2⟩, o3⟩, o4⟩, o5⟩ := ok
  have hsz : (shR t).length ≤ sizeLine := by
    have := PyData.shown_le 600 (by decide) (toR t) o3
    rw [sizeLine_eq]
    show (toR t).shown.length ≤ _
    omega
  have hS2 : SysAt s.heap := by
    obtain ⟨o, es, ep, e, d⟩ := hS
    exact ⟨o, es, ep, I.bk _ _ e, d⟩
  obtain ⟨as, rd, hn⟩ := rp.readsR I hs hS2 o1 r1
  have fin : ∀ (s' : Shared) (k : Tok), Inv X pins σ H s' → EP X pins σ Q (.str (shR t) k) s' := fun s' k I' => ⟨.str _, H, I', ⟨k, rfl⟩, q⟩
  have big : ∀ a, u = .ref a → wpAny (model X.prog X.w) X.A (call (.builtin "repr") [u]) (EP X pins σ Q) X.xe s := fun a e => by
    subst e
    exact repr_of_reads' rd o2 (fun _ => hn) hg (by omega) (fun _ _ e => e) (fun h' k tk hk => fin _ k (I.kept hk)) hsz
  match t, rp, r1, o1, o2 with
  | .non, .non, r1, _, _ => cases r1; exact PySem.P.repr_of_none (fin _ _ (I.tok _))
  | .bl b, .bl _, r1, _, _ => cases r1; exact PySem.P.repr_of_bool (fin _ _ (I.tok _))
  | .int i, .int _, r1, _, o2 => obtain ⟨k, rfl⟩ := r1; exact PySem.P.repr_of_int (by simpa [toR, PyData.showable] using o2) (fin _ _ (I.tok _))
  | .str z, .str _, r1, _, _ => obtain ⟨k, rfl⟩ := r1; exact PySem.P.repr_of_str (fin _ _ (I.tok _)) hsz
  | .tup _, .tup _ _, r1, _, _ => cases r1; exact big _ rfl
  | .lst _ _, .lstF _ _, r1, _, _ => cases r1; exact big _ rfl
  | .lst _ _, .lstO _ _, r1, _, _ => cases r1; exact big _ rfl
  | .dct _ _, .dctF _ _ _, r1, _, _ => cases r1; exact big _ rfl
  | .dct _ _, .dctO _ _ _, r1, _, _ => cases r1; exact big _ rfl
theorem l_reprD {K : Frag} : LCl K (rReprD K) gReprD := fun B H xs ts F hs r Q hw Qv k => by
  match ts, r, hw with
  | [t], .cons r1 .nil, hw => exact ⟨_, B, t, _, rfl, hs, r1, hw.1, k _ _ H B [] hw.2 (Gro.refl hs) (.str _)⟩
end TL

set_option maxRecDepth 100000
set_option maxHeartbeats 1000000
namespace TL
open PySem PySem.Spec PyProof.Rows L2

/-! ### t[::-1] of a tuple -/
section
variable {prog : Program} {w : World} {A : Around} {E : Value → Shared → Prop} {s : Shared}
theorem adjust_back (n : Nat) : Builtin.Slice.sliceAdjust none none (-1) (n : Int) = ((n : Int) - 1, -1) := by
  unfold Builtin.Slice.sliceAdjust
  simp
theorem places_back (n : Nat) : Builtin.Slice.slicePlaces ((n : Int) - 1) (-1) (-1) = n := by
  unfold Builtin.Slice.slicePlaces
  simp
  split <;> omega
theorem pick_back (xs : Array Value) : ((List.range xs.size).filterMap fun (k : Nat) => xs[(((xs.size : Int) - 1) + (k : Int) * (-1)).toNat]?).toArray = xs.toList.reverse.toArray := by
  congr 1
  have back : (List.range xs.size).filterMap (fun (k : Nat) => xs[(((xs.size : Int) - 1) + (k : Int) * (-1)).toNat]?) = ((List.range xs.size).map fun k => xs.size - 1 - k).filterMap (xs[·]?) := by
    rw [List.filterMap_map]
    have same : ∀ l : List Nat, (∀ k ∈ l, k < xs.size) → l.filterMap (fun (k : Nat) => xs[(((xs.size : Int) - 1) + (k : Int) * (-1)).toNat]?) = l.filterMap ((fun m => xs[m]?) ∘ fun k => xs.size - 1 - k) := by
      intro l
      induction l with
      | nil => intro _; rfl
      | cons k r ih =>
        intro hl
        have hk := hl k (List.mem_cons_self ..)
        have e : (((xs.size : Int) - 1) + (k : Int) * (-1)).toNat = xs.size - 1 - k := by omega
        rw [List.filterMap_cons, List.filterMap_cons, ih fun z hz => hl z (List.mem_cons_of_mem _ hz), e]
        rfl
    exact same _ fun k hk => List.mem_range.mp hk
  rw [back, PySem.W.krv_range, List.filterMap_reverse, PySem.W.krv_all]
theorem applied_back {sl : Addr} {vl vu vs : Value} {n : Nat} {Q : Int × Int × Nat → Shared → Prop} (at' : s.heap.IsSliceOf sl vl vu vs) (pl : IsPart vl none) (pu : IsPart vu none) (ps : IsPart vs (some (-1))) (h : Q ((n : Int) - 1, -1, n) s) :
    wpAny (model prog w) A (Builtin.Slice.sliceApplied (.ref sl) (pure (n : Int))) Q E s := by
  obtain ⟨o, there, _, fields⟩ := id at'
  unfold Builtin.Slice.sliceApplied Builtin.Slice.sliceFields
  refine wpAny_bind (wpAny_bind (wpAny_field there fields (x := vl) rfl (wpAny_bind (wpAny_field there fields (x := vu) rfl (wpAny_bind (wpAny_field there fields (x := vs) rfl (wpAny_pure ?_)))))))
  refine wpAny_bind (HT.slicePart_ ps ?_)
  show wpAny _ _ (if ((-1 : Int) == 0) = true then _ else _) _ _ s
  rw [if_neg (by decide)]
  refine wpAny_bind (HT.slicePart_ pl (wpAny_bind (HT.slicePart_ pu (wpAny_bind (wpAny_pure ?_)))))
  show wpAny _ _ (match Builtin.Slice.sliceAdjust none none (-1) (n : Int) with | (lo, hi) => pure (lo, (-1 : Int), Builtin.Slice.slicePlaces lo hi (-1))) _ _ s
  rw [adjust_back]
  show wpAny _ _ (pure ((n : Int) - 1, (-1 : Int), Builtin.Slice.slicePlaces ((n : Int) - 1) (-1) (-1))) _ _ s
  rw [places_back]
  exact wpAny_pure h
theorem item_back {t sl : Addr} {items : Array Value} {vl vu vs : Value} {Q : Value → Shared → Prop} (ht : IsTup s.heap t items) (at' : s.heap.IsSliceOf sl vl vu vs) (pl : IsPart vl none) (pu : IsPart vu none) (ps : IsPart vs (some (-1)))
    (h : Q (.ref s.heap.objs.size) { s with heap := s.heap.push { cls := .type "tuple", data := .seq items.toList.reverse.toArray } }) (hz : items.size ≤ sizeLine) : wpAny (model prog w) A (getItem (.ref t) (.ref sl)) Q E s := by
  have small : sizeOk (.seq items.toList.reverse.toArray) := by
    show items.toList.reverse.toArray.size ≤ sizeLine
    simpa using hz
  obtain ⟨o, there, isSlice, _⟩ := id at'
  have kind : s.TypeIs (.ref sl) "slice" := ⟨o, there, isSlice⟩
  unfold getItem
  with_reducible refine wpAny_holding ?_
  refine wpAny_bind (wpAny_sequenceKey ht.typeIs (by decide) ?_)
  refine wpAny_bind (wpAny_callSpecial?_slot (name := Str.ofString "__getitem__") ht.typeIs PyProof.Rows.slot_tuple_getitem (wpAny_call_entry PyProof.Rows.slot_tuple_getitem ht.typeIs entry_tuple_getitem ?_ (args_tuple_getitem _ _)))
  show wpAny _ _ (Builtin.Tuple.tupleItemsOf (.ref t) >>= _) _ _ s
  refine wpAny_bind (tupleItemsOf_ ht (wpAny_bind (wpAny_typeOf kind ?_)))
  rw [if_pos (by decide)]
  refine wpAny_bind (applied_back at' pl pu ps ?_)
  have notWhole : ¬ ((((items.size : Int) - 1) == 0 && (-1 : Int) == 1 && items.size == items.size) = true) := by simp
  show wpAny _ _ (if (((items.size : Int) - 1) == 0 && (-1 : Int) == 1 && items.size == items.size) = true then _ else _) _ _ s
  rw [if_neg notWhole, pick_back]
  first
    | exact wpAny_bind (m := Builtin.Tuple.tupleExact _) (wpAny_newObj_type (wpAny_pure ⟨_, rfl, wpAny_pure h⟩) small)
    | exact wpAny_bind (wpAny_bind (m := Builtin.Tuple.tupleExact _) (wpAny_newObj_type (wpAny_pure (wpAny_pure ⟨_, rfl, wpAny_pure h⟩)) small))
    | exact wpAny_bind (wpAny_bind (m := Builtin.Tuple.tupleExact _) (wpAny_newObj_type (wpAny_pure ⟨_, rfl, wpAny_pure h⟩) small))
end
def tRevT (K : Frag) (te : TE) : TE := fun σ H Q => te σ H fun x H1 => ∃ a xs, x = .ref a ∧ SqT K H1 a xs ∧ ∀ p, H1 p = none → Q (.ref p) (upd H1 p (.tup xs.reverse))
theorem pe_revT {X : Cx} {e : Expr} {te : TE} {k : Nat} {p1 p2 p3 pos : Pos} (he : PE X e te) : PE X (.Subscript e (.Slice none none (some (.UnaryOp .USub (.Constant (.int 1) k p1) p2)) p3) pos) (tRevT X.K te) := ⟨fun pins s σ H Q I h => by
  have back : PO X (some (.UnaryOp .USub (.Constant (.int 1) k p1) p2)) (tPart (tUn (rU fun i => .int (-i)) (tC (.int 1)))) := po_some (pe_un un_neg pe_int)
  refine Subscript_ (thn (he.run pins s σ H _ I h) fun v s1 ⟨x, H1, I1, rx, a, xs, ex, hx, q⟩ => ?_)
  subst ex
  cases rx
  refine wpAny_Slice (thn (po_none.run pins s1 σ H1 (fun o H2 => o = none ∧ H2 = H1) I1 ⟨rfl, rfl⟩) fun vl s2 ⟨_, _, I2, pl, rfl, rfl⟩ => ?_)
  refine thn (po_none.run pins s2 σ _ (fun o H3 => o = none ∧ H3 = _) I2 ⟨rfl, rfl⟩) fun vu s3 ⟨_, _, I3, pu, rfl, rfl⟩ => ?_
  refine thn (back.run pins s3 σ _ (fun o H4 => o = some (-1) ∧ H4 = _) I3 ⟨1, rfl, -1, rfl, rfl, rfl⟩) fun vs s4 ⟨_, _, I4, ps, rfl, rfl⟩ => ?_
  have I5 := I4.kept (t' := s4.toks) (h' := s4.heap.push { cls := .type "slice", data := .fields #[vl, vu, vs] }) fun b ob z => Heap.get?_push_of_some _ z
  obtain ⟨its, r, ht, hz⟩ := I5.tuple hx
  refine tail_any (ops := [.ref a, .ref s4.heap.objs.size]) ht.typeIs PyProof.Rows.slot_tuple_getitem.lookup ?_ (by with_unfolding_all rfl)
  refine item_back ht (Heap.IsSliceOf.new _ vl vu vs) pl pu ps ⟨.ref _, _, I5.laid (t' := s4.toks) (o := .tup xs.reverse) (fun b ob z => Heap.get?_push_of_some _ z) (Nat.le_refl _) ?_, rfl, q _ (I5.hok.fresh (Nat.le_refl _))⟩ (by rw [List.size_toArray, ← r.length]; exact hz)
  exact ⟨by rw [List.length_reverse]; exact hz, _, r.reverse, IsTup.new _ _⟩⟩
def gRevT (x : T) (Q : T → Prop) : Prop := match x with
  | .tup xs => closedL xs = true ∧ Q (.tup xs.reverse)
  | _ => False
theorem l_revT {K : Frag} : LUn K (fun x H Q => ∃ a xs, x = .ref a ∧ SqT K H a xs ∧ ∀ p, H p = none → Q (.ref p) (upd H p (.tup xs.reverse))) gRevT := fun B H x tx Fx hs rx Q hw Qv k => by
  match tx, rx, hw with
  | .tup xs, rx, hw =>
    obtain ⟨a, vs, rfl, h1, r1⟩ := rx.tup_inv hs
    exact ⟨a, vs, rfl, h1, new_tup hs ((r1.c0 hw.1).rev0 rfl) hw.2 k⟩
theorem ce_revT {X : Cx} {e : Expr} {we : WE} {k : Nat} {p1 p2 p3 pos : Pos} (he : CE X e we) : CE X (.Subscript e (.Slice none none (some (.UnaryOp .USub (.Constant (.int 1) k p1) p2)) p3) pos) (wUn gRevT we) := by
  obtain ⟨t1, q1, r1⟩ := he
  exact ⟨_, pe_revT q1, rf_un l_revT r1⟩
end TL

set_option maxRecDepth 100000
set_option maxHeartbeats 1000000
namespace TL
open PySem PySem.Spec PyProof.Rows L2

/-! ### xs == [], xs != [] : whatever the items are -/
def rNilL (K : Frag) (neg : Bool) : R2 := fun x y H Q => ∃ a b xs, x = .ref a ∧ y = .ref b ∧ SqL K H a xs ∧ SqL K H b [] ∧ Q (.bl (nb neg xs.isEmpty)) H
theorem op_eqNil {X : Cx} (hu : X.A.units + 64 < cLine) : OpR X (compareOp .Eq) (rNilL X.K false) := fun pins s σ H x y v u Q I rx ry h => by
  obtain ⟨a, b, xs, rfl, rfl, ha, hb, q⟩ := h
  cases rx; cases ry
  obtain ⟨its, r, ht, _⟩ := I.list ha
  obtain ⟨its2, r2, ht2, _⟩ := I.list hb
  cases r2
  have room : X.A.units < cLine := by omega
  cases r with
  | nil => exact SeqAt.RcAt.lists (e := fun _ => true) ht.isList ht2.isList rfl room (fun j h1 => absurd h1 (by simp)) X.prog X.w X.xe _ ⟨.bl true, H, I, rfl, q⟩
  | cons _ _ => exact SeqAt.RcAt.lists_lengths ht.isList ht2.isList (by simp) room X.prog X.w X.xe _ ⟨.bl false, H, I, rfl, q⟩
theorem op_neNil {X : Cx} (hu : X.A.units + 64 < cLine) : OpR X (compareOp .NotEq) (rNilL X.K true) := fun pins s σ H x y v u Q I rx ry h => by
  obtain ⟨a, b, xs, rfl, rfl, ha, hb, q⟩ := h
  cases rx; cases ry
  obtain ⟨its, r, ht, _⟩ := I.list ha
  obtain ⟨its2, r2, ht2, _⟩ := I.list hb
  cases r2
  have room : X.A.units < cLine := by omega
  cases r with
  | nil => exact SeqAt.RcNeAt.lists (e := fun _ => true) ht.isList ht2.isList rfl room (fun j h1 => absurd h1 (by simp)) X.prog X.w X.xe _ ⟨.bl false, H, I, rfl, q⟩
  | cons _ _ => exact SeqAt.RcNeAt.lists_lengths ht.isList ht2.isList (by simp) room X.prog X.w X.xe _ ⟨.bl true, H, I, rfl, q⟩
def gNilL (neg : Bool) : T → T → (T → Prop) → Prop
  | .lst _ xs, .lst _ [], Q => Q (.bl (nb neg xs.isEmpty))
  | _, _, _ => False
theorem l_nilL {K : Frag} {neg : Bool} : LOp K (rNilL K neg) (gNilL neg) := fun B H x y tx ty Fx Fy hs rx ry Q hw Qv k => by
  match tx, ty, rx, ry, hw with
  | .lst _ xs, .lst _ [], rx, ry, hw =>
    obtain ⟨a, vs, F1, rfl, h1, r1⟩ := rx.lst_inv hs
    obtain ⟨b, ws, F2, rfl, h2, r2⟩ := ry.lst_inv hs
    cases r2
    have e : vs.isEmpty = xs.isEmpty := by
      have := r1.length
      cases vs <;> cases xs <;> simp at this ⊢
    exact ⟨a, b, vs, rfl, rfl, h1, h2, by rw [e]; exact k _ _ H B [] hw (Gro.refl hs) (.bl _)⟩
/-! ### a def with defaults, called with all its arguments -/
theorem DefAt.calF {P : Program} {w : World} {K : Frag} {mg : Str → Option Value} {base : Heap} {x qual : Str} {st : Stmt} {f : Addr} {fd : FuncData} {ps : List Str} {k : Nat} {S : FS} {Td : Addr} {o : Obj} {its : List Value} {m : Nat} (F : DefAt K mg x qual st f fd (.ref Td))
    (G : FnG P w K mg base CX0 k f fd ps (spT K S)) (lT : K.lookup Td = some o) (oT : o.data = .seq its.toArray m)
    (h : ∀ (kV doc pm : Value) (an : Option Addr) (cdv ct : Value) (us : List Value), us.length = ps.length → ∃ kk, bindArgs (PySem.W.fnOf x qual (defArgs st) (defBody st) (defScope st) (.ref Td) kV doc pm an cdv ct) ⟨us, []⟩ = seqItems? (.ref Td) >>= kk ∧ kk (some its.toArray) = pure (ps.zip us)) : Cal P w K mg base k x [] S := by
  obtain ⟨kV, doc, pm, cdv, ct, an, o, _, _, _, rfl⟩ := F.text
  refine ⟨_, _, ps, F.nm, F.stays, ⟨[], .nil, fun s us X hl => ?_⟩, G⟩
  rw [List.append_nil] at hl ⊢
  obtain ⟨kk, e1, e2⟩ := h kV doc pm an cdv ct us hl
  exact BindsTo.of_looks fun M => e1.symm ▸ looks_items X lT oT (PySem.W.Looks.of_pure e2)
end TL

set_option maxRecDepth 100000
set_option maxHeartbeats 1000000
namespace TL
open PySem PySem.Spec PyProof.Rows L2

/-! ### max, min of a tuple of ints -/
theorem maxOf_is : ∀ (ns : List Int) (x : Int), PySem.W.maxOf x ns ∈ x :: ns ∧ ∀ y ∈ x :: ns, y ≤ PySem.W.maxOf x ns
  | [], x => ⟨List.mem_cons_self, fun y hy => by rw [List.mem_singleton.mp hy]; exact Int.le_refl _⟩
  | n :: ns, x => by
    have e : PySem.W.maxOf x (n :: ns) = PySem.W.maxOf (if decide (x < n) = true then n else x) ns := rfl
    obtain ⟨h1, h2⟩ := maxOf_is ns (if decide (x < n) = true then n else x)
    rw [e]
    have h3 := h2 _ List.mem_cons_self
    refine ⟨?_, fun y hy => ?_⟩
    · rcases List.mem_cons.mp h1 with h | h
      · rw [h]; split <;> simp
      · exact List.mem_cons_of_mem _ (List.mem_cons_of_mem _ h)
    · rcases List.mem_cons.mp hy with rfl | hy
      · refine Int.le_trans ?_ h3
        split
        · next h => exact Int.le_of_lt (of_decide_eq_true h)
        · exact Int.le_refl _
      · rcases List.mem_cons.mp hy with rfl | hy
        · refine Int.le_trans ?_ h3
          split
          · exact Int.le_refl _
          · next h => simp at h; omega
        · exact h2 _ (List.mem_cons_of_mem _ hy)
theorem minOf_is : ∀ (ns : List Int) (x : Int), PySem.W.minOf x ns ∈ x :: ns ∧ ∀ y ∈ x :: ns, PySem.W.minOf x ns ≤ y
  | [], x => ⟨List.mem_cons_self, fun y hy => by rw [List.mem_singleton.mp hy]; exact Int.le_refl _⟩
  | n :: ns, x => by
    have e : PySem.W.minOf x (n :: ns) = PySem.W.minOf (if decide (n < x) = true then n else x) ns := rfl
    obtain ⟨h1, h2⟩ := minOf_is ns (if decide (n < x) = true then n else x)
    rw [e]
    have h3 := h2 _ List.mem_cons_self
    refine ⟨?_, fun y hy => ?_⟩
    · rcases List.mem_cons.mp h1 with h | h
      · rw [h]; split <;> simp
      · exact List.mem_cons_of_mem _ (List.mem_cons_of_mem _ h)
    · rcases List.mem_cons.mp hy with rfl | hy
      · refine Int.le_trans h3 ?_
        split
        · next h => exact Int.le_of_lt (of_decide_eq_true h)
        · exact Int.le_refl _
      · rcases List.mem_cons.mp hy with rfl | hy
        · refine Int.le_trans h3 ?_
          split
          · exact Int.le_refl _
          · next h => simp at h; omega
        · exact h2 _ (List.mem_cons_of_mem _ hy)
def rMaxT (K : Frag) : List V → Hp → VK → Prop := fun vs H Q => ∃ (a : Addr) (ns : List Int), vs = [V.ref a] ∧ SqT K H a (ns.map V.int) ∧ 0 < ns.length ∧ ∀ m, m ∈ ns → (∀ y, y ∈ ns → y ≤ m) → Q (.int m) H
def rMinT (K : Frag) : List V → Hp → VK → Prop := fun vs H Q => ∃ (a : Addr) (ns : List Int), vs = [V.ref a] ∧ SqT K H a (ns.map V.int) ∧ 0 < ns.length ∧ ∀ m, m ∈ ns → (∀ y, y ∈ ns → m ≤ y) → Q (.int m) H
theorem holds_int {h : Heap} {v : Value} {m : Int} (H : PySem.W.Holds h v m) : ∃ t, v = .int m t := by
  obtain ⟨as, r⟩ := H
  cases r with
  | int _ t => exact ⟨t, rfl⟩
theorem cr_maxT {X : Cx} (hc : X.calm = true) (hu : X.A.units + 64 < cLine) : CallR X (.builtin "max") (rMaxT X.K) := by
  intro pins s σ H vs us Q I r h
  obtain ⟨a, ns, rfl, hs, hne, q⟩ := h
  obtain ⟨its, rv, ht, _⟩ := I.tuple hs
  rw [Vals.ref1 r]
  cases ns with
  | nil => cases hne
  | cons n ns =>
    obtain ⟨h1, h2⟩ := maxOf_is ns n
    exact PySem.W.max_tuple_datum (I.ok.hd hc) ht (PySem.W.HoldAll.of_ints rv.ints) (by show X.A.units + 1 + 0 < cLine; omega) fun i v h' tk hi hv hk => by
      obtain ⟨t, rfl⟩ := holds_int hv
      exact ⟨.int _, H, I.kept hk, ⟨_, rfl⟩, q _ h1 h2⟩
theorem cr_minT {X : Cx} (hc : X.calm = true) (hu : X.A.units + 64 < cLine) : CallR X (.builtin "min") (rMinT X.K) := by
  intro pins s σ H vs us Q I r h
  obtain ⟨a, ns, rfl, hs, hne, q⟩ := h
  obtain ⟨its, rv, ht, _⟩ := I.tuple hs
  rw [Vals.ref1 r]
  cases ns with
  | nil => cases hne
  | cons n ns =>
    obtain ⟨h1, h2⟩ := minOf_is ns n
    exact PySem.W.min_tuple_datum (I.ok.hd hc) ht (PySem.W.HoldAll.of_ints rv.ints) (by show X.A.units + 1 + 0 < cLine; omega) fun i v h' tk hi hv hk => by
      obtain ⟨t, rfl⟩ := holds_int hv
      exact ⟨.int _, H, I.kept hk, ⟨_, rfl⟩, q _ h1 h2⟩
def gMaxT : List T → (T → Prop) → Prop
  | [.tup xs], Q => match intsT xs with
    | some ns => 0 < ns.length ∧ ∀ m, m ∈ ns → (∀ y, y ∈ ns → y ≤ m) → Q (.int m)
    | none => False
  | _, _ => False
theorem l_maxT {K : Frag} : LCl K (rMaxT K) gMaxT := fun B H xs ts F hs r Q hw Qv k => by
  match ts, r, hw with
  | [.tup ys], .cons r1 .nil, hw =>
    obtain ⟨a, vs, rfl, h1, r2⟩ := r1.tup_inv hs
    simp only [gMaxT] at hw
    cases e : intsT ys with
    | none => rw [e] at hw; exact hw.elim
    | some ns =>
      rw [e] at hw
      obtain ⟨e1, e2⟩ := intsT_of r2 e
      exact ⟨a, ns, rfl, by rw [← e1]; exact h1, hw.1, fun m h2 h3 => k _ _ H B [] (hw.2 m h2 h3) (Gro.refl hs) (.int _)⟩
def gMinT : List T → (T → Prop) → Prop
  | [.tup xs], Q => match intsT xs with
    | some ns => 0 < ns.length ∧ ∀ m, m ∈ ns → (∀ y, y ∈ ns → m ≤ y) → Q (.int m)
    | none => False
  | _, _ => False
theorem l_minT {K : Frag} : LCl K (rMinT K) gMinT := fun B H xs ts F hs r Q hw Qv k => by
  match ts, r, hw with
  | [.tup ys], .cons r1 .nil, hw =>
    obtain ⟨a, vs, rfl, h1, r2⟩ := r1.tup_inv hs
    simp only [gMinT] at hw
    cases e : intsT ys with
    | none => rw [e] at hw; exact hw.elim
    | some ns =>
      rw [e] at hw
      obtain ⟨e1, e2⟩ := intsT_of r2 e
      exact ⟨a, ns, rfl, by rw [← e1]; exact h1, hw.1, fun m h2 h3 => k _ _ H B [] (hw.2 m h2 h3) (Gro.refl hs) (.int _)⟩

/-! ### methods of texts -/
def LMs (K : Frag) (r : V → List V → Hp → VK → Prop) (g : Str → List T → (T → Prop) → Prop) : Prop := ∀ (B H : Hp) (z : Str) (xs : List V) (ts : List T) (F : List Addr), Sub B H → RpL K B H xs ts F →
  ∀ Q : T → Prop, g z ts Q → ∀ Qv : VK, (∀ v t H' B' G, Q t → Gro B H B' H' G → Rp K B' H' v t G → Qv v H') → r (.str z) xs H Qv
def wMs (g : Str → List T → (T → Prop) → Prop) (we : WE) (wa : WA) : WE := fun Δ Q => we Δ fun p Δ1 => onV Δ1 p fun x => match x with
  | .str z => wa Δ1 fun ps Δ2 => onVs Δ2 ps fun ts => g z ts fun t => Q (.val t) Δ2
  | _ => False
theorem rf_ms {K : Frag} {r : V → List V → Hp → VK → Prop} {g : Str → List T → (T → Prop) → Prop} {te : TE} {we : WE} {tr : TA} {wr : WA} (ho : LMs K r g) (he : RfE K te we) (ha : RfA K tr wr) : RfE K (tBM K "str" r te tr) (wMs g we wr) := fun Δ Q σ H B R hr hw Qv k => by
  refine he Δ _ σ H B R hr hw _ fun p Δ0 x H0 B0 hq hl0 hk0 ⟨G0, pr0, hr0⟩ => ?_
  obtain ⟨tx, Fx, rx, o⟩ := pr0.tree hr0 hq
  match tx, rx, o with
  | .str z, rx, o =>
    obtain ⟨rfl, _⟩ := rx.str_inv
    refine ⟨rfl, ha Δ0 _ σ H0 B0 R hr0.drop o _ fun ps Δ1 xs H1 B1 hq hl1 hk1 ⟨G1, pr1, hr1⟩ => ?_⟩
    obtain ⟨ts, F, rx, o2⟩ := pr1.trees hr1 hq
    refine ho B1 H1 z xs ts F hr1.sub rx _ o2 Qv fun v t H3 B3 G hQ he hv => ?_
    have hr3 : Rep K B1 H1 R σ Δ1 := hr1.drop
    exact k (.val t) Δ1 v H3 B3 hQ ((hl0.trans hl1).trans he.2.1) ((hk0.trans hk1).trans (hr3.keepExt he.1)) ⟨G, hv, hr3.gro he⟩
theorem ce_mS {X : Cx} {o e : Expr} {es : List Expr} {name : Str} {id : String} {apos cpos : Pos} {r : V → List V → Hp → VK → Prop} {g : Str → List T → (T → Prop) → Prop} {we : WE} {wr : WA} (slot : Slot "str" name id) (hty : typeOf (.builtin id) = pure (.type "method_descriptor")) (hm : MtR X id r) (hl : LMs X.K r g) (ho : CE X o we) (ha : CA X (e :: es) wr)
    (hbase : attributeBase o name X.env (eval o X.env) = eval o X.env := by rfl)
    (hfew : ((backTo cpos (starEach (e :: es) X.env)).all (fun x => !x.1) && (backToKw cpos (keywordEach [] X.env)).all (fun x => x.1.isSome)
      && decide ((e :: es).length + ([] : List Keyword).length + (if ([] : List Keyword).isEmpty then 0 else 1) < 30)) = true := by rfl)
    (hline : (apos.endLine == cpos.line) = true := by rfl) (hs : starEach (e :: es) X.env = (false, eval e X.env) :: starEach es X.env := by rfl) (hplain : (backTo cpos (starEach es X.env)).any (·.1) = false := by rfl) : CE X (.Call (.Attribute o name apos) (e :: es) [] cpos) (wMs g we wr) := by
  obtain ⟨t1, p1, r1⟩ := ho
  obtain ⟨t2, p2, r2⟩ := ha
  exact ⟨_, pe_bm PySem.F.plainAttrs_str slot hty hm p1 p2 hbase hfew hline hs hplain, rf_ms hl r1 r2⟩
/-- a.index(b), where b is -/
def gSIndex (z : Str) : List T → (T → Prop) → Prop
  | [.str b], Q => match Builtin.Str.occurrences z b 0 z.length 1 with
    | i :: _ => Q (.int (i : Nat))
    | [] => False
  | _, _ => False
theorem l_sindex {K : Frag} : LMs K (fun x xs H Q => ∃ a b i rest, x = .str a ∧ xs = [.str b] ∧ Builtin.Str.occurrences a b 0 a.length 1 = i :: rest ∧ Q (.int (i : Nat)) H) gSIndex := fun B H z xs ts F hs r Q hw Qv k => by
  match ts, r, hw with
  | [.str b], .cons r1 .nil, hw =>
    simp only [gSIndex] at hw
    cases e : Builtin.Str.occurrences z b 0 z.length 1 with
    | nil => rw [e] at hw; exact hw.elim
    | cons i rest =>
      rw [e] at hw
      exact ⟨z, b, i, rest, rfl, by rw [r1.str_inv.1], e, k _ _ H B [] hw (Gro.refl hs) (.int _)⟩

/-! ### d.get(k, x) -/
def wDGet2 (wo wk wx : WE) : WE := fun Δ Q => wo Δ fun p Δ1 => onV Δ1 p fun d => match d with
  | .dct _ _ => wk Δ1 fun q Δ2 => wx Δ2 fun r Δ3 => onV Δ3 p fun x => onV Δ3 q fun y => onV Δ3 r fun z => match x, keyOf y with
    | .dct _ kvs, some kk => closed z = true ∧ closedK kvs = true ∧ Q (.val ((valT kvs kk).getD z)) Δ3
    | _, _ => False
  | _ => False
theorem ce_dget2 {X : Cx} {o e f : Expr} {apos cpos : Pos} {wo wk wx : WE} (hu : X.A.units + 1 < cLine) (ho : CE X o wo) (hk : CE X e wk) (hx : CE X f wx) (base : attributeBase o "get" X.env (eval o X.env) = eval o X.env := by rfl)
    (few : ((backTo cpos (starEach [e, f] X.env)).all (fun x => !x.1) && (backToKw cpos (keywordEach [] X.env)).all (fun x => x.1.isSome)
    && decide (([e, f] : List Expr).length + ([] : List Keyword).length + (if ([] : List Keyword).isEmpty then 0 else 1) < 30)) = true := by rfl) (line : (apos.endLine == cpos.line) = true := by rfl)
    (trees : backTo cpos (starEach [e, f] X.env) = [(false, eval e X.env), (false, eval f X.env)] := by rfl) : CE X (.Call (.Attribute o "get" apos) [e, f] [] cpos) (wDGet2 wo wk wx) := by
  obtain ⟨t1, p1, r1⟩ := ho
  obtain ⟨t2, p2, r2⟩ := hk
  obtain ⟨t3, p3, r3⟩ := hx
  refine ⟨_, pe_dget2 hu p1 p2 p3 ⟨base, few, line, trees⟩, fun Δ Q σ H B R hr hw Qv k => ?_⟩
  refine r1 Δ _ σ H B R hr hw _ fun p Δ1 x H1 B1 hq hl1 hk1 ⟨G1, pr1, hr1⟩ => ?_
  obtain ⟨tx, Fx, rx, o1⟩ := pr1.tree hr1 hq
  match tx, rx, o1 with
  | .dct b kvs, rx, o1 =>
    obtain ⟨a, kv, F', rfl, h1, h2, h3⟩ := rx.dct_inv hr1.sub
    refine ⟨a, rfl, .inl ⟨_, h1⟩, ?_⟩
    refine r2 Δ1 _ σ H1 B1 (G1 ++ R) hr1 o1 _ fun q Δ2 y H2 B2 hq2 hl2 hk2 ⟨G2, pr2, hr2⟩ => ?_
    refine r3 Δ2 _ σ H2 B2 (G2 ++ (G1 ++ R)) hr2 hq2 _ fun r Δ3 z H3 B3 hq3 hl3 hk3 ⟨G3, pr3, hr3⟩ => ?_
    have pr1' := (pr1.mono hl2 hk2.left).mono hl3 hk3.right.left
    have pr2' := pr2.mono hl3 hk3.left
    obtain ⟨tx, Fx, rx, o2⟩ := pr1'.tree hr3 hq3
    obtain ⟨ty, Fy, ry, o3⟩ := pr2'.tree hr3 o2
    obtain ⟨tz, Fz, rz, o4⟩ := pr3.tree hr3 o3
    have hr4 : Rep X.K B3 H3 R σ Δ3 := hr3.drop.drop.drop
    match tx, rx, o4 with
    | .dct b kvs, rx, o4 =>
      cases ek : keyOf ty with
      | none => simp only [ek] at o4
      | some kk =>
        simp only [ek] at o4
        obtain ⟨a', kv, F', ea, h1, h2, h3⟩ := rx.dct_inv hr3.sub
        cases ea
        have hv := val_of (k := kk) h2 h3
        have fin : ∀ v t, Rp X.K B3 H3 v t [] → Q (.val t) Δ3 → Qv v H3 := fun v t r q => k (.val t) Δ3 v H3 B3 q ((hl1.trans hl2).trans hl3) ((hk1.trans hk2.right).trans hk3.right.right) ⟨[], r, hr4⟩
        refine ⟨_, .inl ⟨kv, kk, h1, keyOf_V ry ek, rfl⟩, ?_⟩
        cases e : valT kvs kk with
        | none =>
          have : valV kv kk = none := by
            have := hv.1
            rw [e] at this
            cases e2 : valV kv kk with
            | none => rfl
            | some _ => rw [e2] at this; cases this
          rw [this]
          have q := o4.2.2
          rw [e] at q
          exact fin z tz (rz.c0 o4.1) q
        | some t =>
          obtain ⟨v, G, e1, rv⟩ := hv.2 t e
          rw [e1]
          have q := o4.2.2
          rw [e] at q
          refine fin v t (rv.c0 ?_) q
          unfold valT at e
          cases ef : kvs.find? fun kv => decide (kv.1 = kk) with
          | none => rw [ef] at e; cases e
          | some pr =>
            rw [ef] at e; cases e
            exact (closedK_iff kvs).mp o4.2.1 pr (List.mem_of_find?_eq_some ef)

/-! ### repr, its text closed -/
@[irreducible] def shI (x : T) : Str := shT x
theorem shI_eq (x : T) : shI x = shT x := by unfold shI; rfl
def gReprI : List T → (T → Prop) → Prop
  | [t], Q => okT t = true ∧ dpT t ≤ 60 ∧ wtT t ≤ sizeLine ∧ Q (.str (shI t))
  | _, _ => False
theorem l_reprI {K : Frag} : LCl K (rRepr K) gReprI := fun B H xs ts F hs r Q hw Qv k => by
  match ts, r, hw with
  | [t], .cons r1 .nil, hw => exact ⟨_, B, t, _, rfl, hs, r1, hw.1, hw.2.1, hw.2.2.1, k _ _ H B [] (by rw [← shI_eq]; exact hw.2.2.2) (Gro.refl hs) (.str _)⟩
end TL

set_option maxRecDepth 100000
set_option maxHeartbeats 1000000
namespace TL
open PySem PySem.Spec PyProof.Rows L2

/-! ### a.split(b), a.join(xs) -/
def gSplit (z : Str) : List T → (T → Prop) → Prop
  | [.str b], Q => (b.length == 0) = false ∧ z.length + 2 ≤ sizeLine ∧ Q (.lst true ((Txt.split z b).map .str))
  | _, _ => False
theorem strs_rp {K : Frag} {B H : Hp} : ∀ ys : List Str, RpL K B H (ys.map V.str) (ys.map T.str) []
  | [] => .nil
  | y :: ys => RpL.cons (F := []) (G := []) (.str y) (strs_rp ys)
theorem l_split {K : Frag} : LMs K (fun x xs H Q => ∃ a b, x = .str a ∧ xs = [.str b] ∧ (b.length == 0) = false ∧ a.length + 2 ≤ sizeLine ∧ rNewStrs (Txt.split a b) H Q) gSplit := fun B H z xs ts F hs r Q hw Qv k => by
  match ts, r, hw with
  | [.str b], .cons r1 .nil, hw => exact ⟨z, b, rfl, by rw [r1.str_inv.1], hw.1, hw.2.1, new_lst hs (strs_rp _) hw.2.2 k⟩
def gJoin (z : Str) : List T → (T → Prop) → Prop
  | [.lst _ xs], Q => match strsT xs with
    | some ys => (ys.map (·.length)).sum + ys.length * z.length ≤ 16777216 ∧ Q (.str (Txt.join z ys))
    | none => False
  | _, _ => False
theorem l_join {K : Frag} : LMs K (fun x xs H Q => ∃ a p, ∃ ys : List Str, x = .str a ∧ xs = [.ref p] ∧ (SqL K H p (ys.map V.str) ∨ SqT K H p (ys.map V.str)) ∧
    (ys.map (·.length)).sum + ys.length * a.length ≤ 16777216 ∧ Q (.str (Txt.join a ys)) H) gJoin := fun B H z xs ts F hs r Q hw Qv k => by
  match ts, r, hw with
  | [.lst o ws], .cons r1 .nil, hw =>
    obtain ⟨a, vs, F', rfl, h1, r2⟩ := r1.lst_inv hs
    simp only [gJoin] at hw
    cases e : strsT ws with
    | none => rw [e] at hw; exact hw.elim
    | some ys =>
      rw [e] at hw
      obtain ⟨e1, e2⟩ := strsT_of r2 e
      exact ⟨z, a, ys, rfl, rfl, .inl (by rw [← e1]; exact h1), hw.1, k _ _ H B [] hw.2 (Gro.refl hs) (.str _)⟩
theorem strsT_map : ∀ ys : List Str, strsT (ys.map .str) = some ys
  | [] => rfl
  | y :: ys => by simp only [List.map_cons, strsT, strsT_map ys]; rfl
theorem blsT_map : ∀ ys : List Bool, blsT (ys.map .bl) = some ys
  | [] => rfl
  | y :: ys => by simp only [List.map_cons, blsT, blsT_map ys]; rfl
/-! ### all, any, int of a text -/
def gAll : List T → (T → Prop) → Prop
  | [.lst _ xs], Q => match blsT xs with
    | some bs => Q (.bl (bs.all id))
    | none => False
  | _, _ => False
theorem l_all {K : Frag} : LCl K (rAll K) gAll := fun B H xs ts F hs r Q hw Qv k => by
  match ts, r, hw with
  | [.lst o ys], .cons r1 .nil, hw =>
    obtain ⟨a, vs, F', rfl, h1, r2⟩ := r1.lst_inv hs
    simp only [gAll] at hw
    cases e : blsT ys with
    | none => rw [e] at hw; exact hw.elim
    | some bs =>
      rw [e] at hw
      obtain ⟨e1, e2⟩ := blsT_of r2 e
      exact ⟨a, bs, rfl, by rw [← e1]; exact h1, k _ _ H B [] hw (Gro.refl hs) (.bl _)⟩
def gAny : List T → (T → Prop) → Prop
  | [.lst _ xs], Q => match blsT xs with
    | some bs => Q (.bl (bs.any id))
    | none => False
  | _, _ => False
theorem l_any {K : Frag} : LCl K (rAny K) gAny := fun B H xs ts F hs r Q hw Qv k => by
  match ts, r, hw with
  | [.lst o ys], .cons r1 .nil, hw =>
    obtain ⟨a, vs, F', rfl, h1, r2⟩ := r1.lst_inv hs
    simp only [gAny] at hw
    cases e : blsT ys with
    | none => rw [e] at hw; exact hw.elim
    | some bs =>
      rw [e] at hw
      obtain ⟨e1, e2⟩ := blsT_of r2 e
      exact ⟨a, bs, rfl, by rw [← e1]; exact h1, k _ _ H B [] hw (Gro.refl hs) (.bl _)⟩
def gIntS : List T → (T → Prop) → Prop
  | [.str a], Q => match PySem.intText? a with
    | some n => a.length ≤ 640 ∧ Q (.int n)
    | none => False
  | _, _ => False
theorem l_intS {K : Frag} : LCl K (fun xs H Q => ∃ a n, xs = [.str a] ∧ PySem.intText? a = some n ∧ a.length ≤ 640 ∧ Q (.int n) H) gIntS := fun B H xs ts F hs r Q hw Qv k => by
  match ts, r, hw with
  | [.str a], .cons r1 .nil, hw =>
    simp only [gIntS] at hw
    cases e : PySem.intText? a with
    | none => rw [e] at hw; exact hw.elim
    | some n =>
      rw [e] at hw
      exact ⟨a, n, by rw [r1.str_inv.1], e, hw.1, k _ _ H B [] hw.2 (Gro.refl hs) (.int _)⟩

/-! ### f'..' -/
def wFmt (we : WE) : WE := fun Δ Q => we Δ fun p Δ1 => onV Δ1 p fun t => match t with
  | .str y => y.length ≤ sizeLine ∧ Q (.val (.str y)) Δ1
  | .int i => i.natAbs.log2 < 1920 ∧ Q (.val (.str (toString i))) Δ1
  | _ => False
theorem ce_fmt {X : Cx} {e : Expr} {we : WE} {pos : Pos} (he : CE X e we) : CE X (.FormattedValue e (-1) none pos) (wFmt we) := by
  obtain ⟨t1, p1, r1⟩ := he
  refine ⟨_, pe_fmt p1, fun Δ Q σ H B R hr hw Qv k => ?_⟩
  refine r1 Δ _ σ H B R hr hw _ fun p Δ1 x H1 B1 hq hl1 hk1 ⟨G1, pr1, hr1⟩ => ?_
  obtain ⟨t, F, rx, o⟩ := pr1.tree hr1 hq
  match t, rx, o with
  | .str y, rx, o => exact .inl ⟨y, rx.str_inv.1, o.1, k (.val (.str y)) Δ1 _ H1 B1 o.2 hl1 hk1 ⟨[], .str y, hr1.drop⟩⟩
  | .int i, rx, o => exact .inr ⟨i, rx.int_inv.1, o.1, k (.val (.str (toString i))) Δ1 _ H1 B1 o.2 hl1 hk1 ⟨[], .str _, hr1.drop⟩⟩
abbrev WJ := Str → Dt → (Str → Dt → Prop) → Prop
def wjNil : WJ := fun acc Δ Q => Q acc Δ
def wjCons (we : WE) (wr : WJ) : WJ := fun acc Δ Q => we Δ fun p Δ1 => onV Δ1 p fun t => match t with
  | .str y => (acc ++ y).length ≤ sizeLine ∧ wr (acc ++ y) Δ1 Q
  | _ => False
def RfJ (K : Frag) (ts : List TE) (w : WJ) : Prop := ∀ (acc : Str) (Δ : Dt) (Q : Str → Dt → Prop) (σ : Sg) (H B : Hp) (R : List Addr), Rep K B H R σ Δ → w acc Δ Q → ∀ Qv : Str → Hp → Prop,
  (∀ out Δ' H' B', Q out Δ' → Le B B' → Keep R H H' → Rep K B' H' R σ Δ' → Qv out H') → tJs ts acc σ H Qv
structure CJ (X : Cx) (es : List Expr) (w : WJ) : Prop where
  ex : ∃ ts, PJ X es ts ∧ RfJ X.K ts w
theorem cj_nil {X : Cx} : CJ X [] wjNil := ⟨[], .nil, fun acc Δ Q σ H B R hr hw Qv k => k acc Δ H B hw (Le.refl B) Keep.refl hr⟩
theorem cj_cons {X : Cx} {e : Expr} {es : List Expr} {we : WE} {wr : WJ} (he : CE X e we) (hr : CJ X es wr) : CJ X (e :: es) (wjCons we wr) := by
  obtain ⟨t1, p1, r1⟩ := he
  obtain ⟨t2, p2, r2⟩ := hr
  refine ⟨t1 :: t2, .cons p1 p2, fun acc Δ Q σ H B R hr hw Qv k => ?_⟩
  refine r1 Δ _ σ H B R hr hw _ fun p Δ1 x H1 B1 hq hl1 hk1 ⟨G1, pr1, hr1⟩ => ?_
  obtain ⟨t, F, rx, o⟩ := pr1.tree hr1 hq
  match t, rx, o with
  | .str y, rx, o =>
    exact ⟨y, rx.str_inv.1, o.1, r2 _ Δ1 Q σ H1 B1 R hr1.drop o.2 Qv fun out Δ2 H2 B2 q hl2 hk2 hr2 => k out Δ2 H2 B2 q (hl1.trans hl2) (hk1.trans hk2) hr2⟩
def wJoined (wj : WJ) : WE := fun Δ Q => wj Str.empty Δ fun out Δ1 => Q (.val (.str out)) Δ1
theorem ce_joined {X : Cx} {v1 v2 : Expr} {rest : List Expr} {wj : WJ} {pos : Pos} (h : CJ X (v1 :: v2 :: rest) wj) : CE X (.JoinedStr (v1 :: v2 :: rest) pos) (wJoined wj) := by
  obtain ⟨ts, p, r⟩ := h
  refine ⟨_, pe_joined p, fun Δ Q σ H B R hr hw Qv k => ?_⟩
  exact r Str.empty Δ _ σ H B R hr hw _ fun out Δ1 H1 B1 q hl hk hr1 => k (.val (.str out)) Δ1 _ H1 B1 q hl hk ⟨[], .str out, hr1⟩

/-! ### three names at once -/
def wPar3 (i j l : Nat) (wa : WA) : WS := fun D Δ => wa Δ fun ps Δ1 => match ps with
  | [p, q, r] => wTake p Δ1 fun t Δ2 => wTake q Δ2 fun u Δ3 => wTake r Δ3 fun v Δ4 => D.nx (((Δ4.set i (some t)).set j (some u)).set l (some v))
  | _ => False
theorem rf_par3 {K : Frag} {W : WX} {np i j l : Nat} {ta : TA} {wa : WA} (hi : np ≤ i) (hj : np ≤ j) (hl' : np ≤ l) (h : RfA K ta wa) : RfS K np W (tPar3 i j l ta) (wPar3 i j l wa) := fun D Δ σ H B R hr hw E k1 k2 k3 k4 k5 => by
  refine h Δ _ σ H B R hr hw _ fun ps Δ1 vs H1 B1 q hl hk ⟨G, pr, hr1⟩ => ?_
  match ps, pr, q with
  | [p, q', r'], .cons (F := F) (v := v) h1 (.cons (F := F2) (v := v2) h2 (.cons (F := F3) (v := v3) h3 .nil)), q =>
    have o : Out K B1 H1 ((F2 ++ (F3 ++ [])) ++ R) σ Δ1 p v := ⟨F, h1, by rw [List.append_assoc] at hr1; exact hr1⟩
    obtain ⟨t, Δ2, B2, G1, q2, hle, r, hr2⟩ := take_ok o q
    have o2 : Out K B2 H1 (F3 ++ (G1 ++ R)) σ Δ2 q' v2 := ⟨F2, h2.mono hle fun _ _ => rfl, hr2.weak fun a => by simp only [List.count_append, List.count_nil]; omega⟩
    obtain ⟨u, Δ3, B3, G2, q3, hle2, r2, hr3⟩ := take_ok o2 q2
    have o3 : Out K B3 H1 (G2 ++ (G1 ++ R)) σ Δ3 r' v3 := ⟨F3, h3.mono (hle.trans hle2) fun _ _ => rfl, hr3.weak fun a => by simp only [List.count_append]; omega⟩
    obtain ⟨w, Δ4, B4, G3, q4, hle3, r3, hr4⟩ := take_ok o3 q3
    have s1 := Rep.set (i := i) (x := some v) (d := some t) (G := G1) (R := G2 ++ (G3 ++ R)) (hr4.weak fun a => by simp only [List.count_append]; omega) (r.mono (hle2.trans hle3) fun _ _ => rfl)
    have s2 := Rep.set (i := j) (x := some v2) (d := some u) (G := G2) (R := G3 ++ R) s1 (r2.mono hle3 fun _ _ => rfl)
    have s3 := Rep.set (i := l) (x := some v3) (d := some w) s2 r3
    refine ⟨v, v2, v3, rfl, k1 _ _ _ B4 q4 ⟨((hl.trans hle).trans hle2).trans hle3, hk, fun n hn => ?_⟩ s3⟩
    rw [List.getElem?_set_ne (by omega), List.getElem?_set_ne (by omega), List.getElem?_set_ne (by omega)]
theorem cs_par3 {X : Cx} {np i j l : Nat} {x y z : Str} {a b c : Expr} {wa : WA} {px py pz pt pos : Pos} {kt k2 pt2} (hc : X.calm = true) (hN : X.N.Nodup) (hi : X.N[i]? = some x) (hj : X.N[j]? = some y) (hl : X.N[l]? = some z) (hij : i ≠ j) (hil : i ≠ l) (hjl : j ≠ l)
    (hx : X.env.scope.names.lookup x = some .local) (hy : X.env.scope.names.lookup y = some .local) (hz : X.env.scope.names.lookup z = some .local) (hpi : np ≤ i) (hpj : np ≤ j) (hpl : np ≤ l) (ha : CA X [a, b, c] wa)
    (both : swappedStores [.Tuple [.Name x px, .Name y py, .Name z pz] kt pt] (.Tuple [a, b, c] k2 pt2) X.env = pure (some [x, y, z])) (sole : swapsWithSole [.Tuple [.Name x px, .Name y py, .Name z pz] kt pt] (.Tuple [a, b, c] k2 pt2) pos.line X.env = pure false := by rfl) :
    CS X np (.Assign [.Tuple [.Name x px, .Name y py, .Name z pz] kt pt] (.Tuple [a, b, c] k2 pt2) pos) (wPar3 i j l wa) := by
  obtain ⟨ta, p, r⟩ := ha
  exact ⟨fun W tk => ⟨_, ps_par3 hc hN hi hj hl hij hil hjl hx hy hz p both sole, rf_par3 hpi hpj hpl r⟩⟩
theorem bt_all : bootBuiltins "all" = some (.builtin "all") := by decide +kernel
theorem bt_any : bootBuiltins "any" = some (.builtin "any") := by decide +kernel
end TL

set_option maxRecDepth 100000
set_option maxHeartbeats 1000000
namespace TL
open PySem PySem.Spec PyProof.Rows L2

/-! ### xs * k of a list that stands still -/
theorem glue_rep (its : List Value) : ∀ (m : Nat) (acc : List Value), List.foldl (fun a b => a ++ b) acc.toArray (List.replicate m its.toArray) = (acc ++ (List.replicate m its).flatten).toArray
  | 0, acc => by simp
  | m + 1, acc => by
    have ih := glue_rep its m (acc ++ its)
    rw [List.replicate_succ, List.foldl_cons, List.append_toArray, ih, List.replicate_succ, List.flatten_cons, List.append_assoc]
def rRepS (K : Frag) : R2 := fun x y H Q => ∃ (l : Addr) (k : Int) (xs : List V), x = .ref l ∧ y = .int k ∧ RdL K H l xs ∧ (-(2 ^ 63) ≤ k ∧ k < 2 ^ 63) ∧ xs.length * k.toNat ≤ sizeLine ∧ ∀ p, H p = none → Q (.ref p) (upd H p (.lst (List.replicate k.toNat xs).flatten))
theorem op_repS {X : Cx} : OpR X (binaryOp .Mult) (rRepS X.K) := fun pins s σ H x y v u Q I rx ry h => by
  obtain ⟨l, k, xs, rfl, rfl, hH, ⟨h1, h2⟩, hz, q⟩ := h
  cases rx
  obtain ⟨t, rfl⟩ := ry
  obtain ⟨its, n, r, hl, _, e⟩ := lstX I hH
  have fits : (Builtin.List.listFitsIndex k) = true := by
    unfold Builtin.List.listFitsIndex
    simp only [Bool.and_eq_true, decide_eq_true_eq]
    exact ⟨h1, h2⟩
  have small : its.toArray.size * k.toNat ≤ sizeLine := by simpa [← hl] using hz
  have no1 : ¬ (!Builtin.List.listFitsIndex k) = true := by simp [fits]
  have no2 : ¬ (its.toArray.size * k.toNat > (2 ^ 63 - 1) / 8) := by
    have c : sizeLine ≤ (2 ^ 63 - 1) / 8 := by decide
    omega
  have no3 : ¬ Builtin.List.listTooLong (its.toArray.size * k.toNat) = true := by
    rw [notLongL small]; decide
  have whole : (List.replicate (if its.toArray.isEmpty = true then 0 else k.toNat) its.toArray).foldl (fun a b => a ++ b) #[] = (List.replicate k.toNat its).flatten.toArray := by
    have g := glue_rep its k.toNat []
    cases its with
    | nil => simp
    | cons a b => simpa using g
  have meets := AutoListH.list___mul___list_int_3 l its.toArray n k t no1 no2 no3
  refine wpAny_binaryOp_repeat_ref (T := "list") (U := "int") (by decide) ⟨_, e, rfl⟩ (fun z => typeIs_int z k t) noFill_list_mul F.fills_int_mul F.slot_int_rmul repeat_list F.slot_int_index.lookup ?_
  refine call_meets F.slot_int_rmul (typeIs_int s k t) F.entry_int_rmul (F.args_int_rmul_2 _ _) (int___rmul___int_list k t l its.toArray n) ⟨e, rfl, ⟨_, e, rfl⟩, ?_⟩
  refine call_meets F.slot_list_mul ⟨_, e, rfl⟩ F.entry_list_mul (F.args_list_mul_2 _ _) meets ⟨e, ?_⟩
  rw [whole]
  refine ⟨.ref _, _, I.lnew (t' := s.toks) (r.rep k.toNat) ?_, rfl, q _ I.fresh⟩
  rw [PyProof.Rows.lm_len_rep_flat, Nat.mul_comm]; exact hz
def gRepS : T → T → (T → Prop) → Prop
  | .lst _ xs, .int k, Q => closedL xs = true ∧ (-(2 ^ 63) ≤ k ∧ k < 2 ^ 63) ∧ xs.length * k.toNat ≤ sizeLine ∧ Q (.lst true (List.replicate k.toNat xs).flatten)
  | _, _, _ => False
theorem l_repS {K : Frag} : LOp K (rRepS K) gRepS := fun B H x y tx ty Fx Fy hs rx ry Q hw Qv k => by
  match tx, ty, rx, ry, hw with
  | .lst _ xs, .int n, rx, ry, hw =>
    obtain ⟨a, vs, F, rfl, h1, r1⟩ := rx.lst_rd hs
    exact ⟨a, n, vs, rfl, ry.int_inv.1, h1, hw.2.1, by rw [r1.length]; exact hw.2.2.1, new_lst hs (rep_rp (r1.c0 hw.1) _) hw.2.2.2 k⟩

/-! ### for x in [e, ..]: the items are new, each one goes to the name -/
def valsOf : List PV → Option (List T)
  | [] => some []
  | .val t :: r => (valsOf r).map (t :: ·)
  | .pl _ :: _ => none
theorem valsOf_rp {K : Frag} {B H : Hp} {σ : Sg} : ∀ {ps : List PV} {vs : List V} {G : List Addr} {ts : List T}, PvL K B H σ ps vs G → valsOf ps = some ts → RpL K B H vs ts G
  | _, _, _, ts, .nil, e => by simp [valsOf] at e; subst e; exact .nil
  | _, _, _, ts, .cons (p := p) (ps := ps) h1 h2, e => by
    cases p with
    | pl i => simp [valsOf] at e
    | val t =>
      simp only [valsOf] at e
      cases q : valsOf ps with
      | none => rw [q] at e; cases e
      | some us =>
        rw [q] at e; cases e
        exact .cons h1 (valsOf_rp h2 q)
def wForO (wa : WA) (wg : WG) (wb : WS) : WS := fun D Δ => wa Δ fun ps Δ1 => match valsOf ps with
  | some ts => ts.length ≤ sizeLine ∧ ∃ Pv : Nat → Dt → Prop, Pv 0 Δ1 ∧ (∀ i t Δ2, ts[i]? = some t → Pv i Δ2 → wg t Δ2 fun Δ3 => wb { D with nx := Pv (i + 1), ct := Pv (i + 1), bk := D.nx } Δ3) ∧ ∀ Δ2, Pv ts.length Δ2 → D.nx Δ2
  | none => False
theorem rf_forO {K : Frag} {W : WX} {np : Nat} {ta : TA} {wa : WA} {g : TG} {wg : WG} {tb : TS} {wb : WS} (ha : RfA K ta wa) (hg : RfG K (Pin np) g wg) (hb : RfS K np W tb wb) : RfS K np W (tFor (iList K (tLst ta)) g tb) (wForO wa wg wb) := fun D Δ σ H B R hr hw E k1 k2 k3 k4 k5 => by
  refine ha Δ _ σ H B R hr hw _ fun ps Δ1 vs H1 B1 q hl hk ⟨G, pr, hr1⟩ => ?_
  cases ev : valsOf ps with
  | none => simp only [ev] at q
  | some ts =>
    simp only [ev] at q
    obtain ⟨hsz, Pv, h0, hs, hd⟩ := q
    have rL := valsOf_rp pr ev
    refine ⟨by rw [rL.length]; exact hsz, fun a hna => ⟨a, rfl, ⟨vs, .inl (.inl upd_same)⟩, ?_⟩⟩
    have gr : Gro B1 H1 (upd B1 a (.lst vs)) (upd H1 a (.lst vs)) [] := Gro.fro hr1.sub hna
    have hr2 : Rep K (upd B1 a (.lst vs)) (upd H1 a (.lst vs)) (G ++ R) σ Δ1 := hr1.gro gr
    have k2' : Keep R H1 (upd H1 a (.lst vs)) := hr1.drop.keepExt gr.1
    have rL2 : RpL K (upd B1 a (.lst vs)) (upd H1 a (.lst vs)) vs ts G := rL.mono gr.2.1 (by
      have := hr1.weak (R' := G) (fun b => by simp only [List.count_append]; omega)
      exact this.keepExt gr.1)
    have inB : (upd B1 a (.lst vs)) a = some (.lst vs) := upd_same
    generalize upd B1 a (.lst vs) = B2 at gr hr2 rL2 inB
    generalize upd H1 a (.lst vs) = H2 at gr hr2 k2' rL2
    have f1 : Fin K B H R np σ B2 H2 σ := Fin.of (hl.trans gr.2.1) (hk.trans k2')
    refine ⟨fun i m σ' H' => m = ts.length - i ∧ i ≤ ts.length ∧ ∃ Δ' B' F, Pv i Δ' ∧ Fin K B2 H2 R np σ B' H' σ' ∧ RpL K B' H' (vs.drop i) (ts.drop i) F ∧ Rep K B' H' (F ++ R) σ' Δ', ⟨_, rfl, Nat.zero_le _, Δ1, B2, G, h0, Fin.refl, rL2, hr2⟩, fun i m σ' H' hW => ?_⟩
    obtain ⟨rfl, hle, Δ2, B3, F, hp, f2, rF, hr3⟩ := hW
    have sq : SqL K H' a vs := (hr3.sub.le.rdL (f2.1.rdL (K := K) (a := a) (vs := vs) (.inl (.inl inB)))).sq
    have hlen : vs.length = ts.length := rL2.length
    by_cases hi : i < ts.length
    · right
      have hv : vs[i]? = some vs[i] := by simp
      refine ⟨⟨vs, vs[i], sq, hv⟩, fun σ' H' => ∃ Δ' B' F, Pv (i + 1) Δ' ∧ Fin K B2 H2 R np σ B' H' σ' ∧ RpL K B' H' (vs.drop (i + 1)) (ts.drop (i + 1)) F ∧ Rep K B' H' (F ++ R) σ' Δ', fun σ3 H3 ⟨Δ3, B3, F, z⟩ => ⟨ts.length - (i + 1), by omega, rfl, by omega, Δ3, B3, F, z⟩, fun x H3 ⟨eH, hx⟩ => ?_⟩
      have e2 := hx _ sq
      rw [hv] at e2; cases e2
      subst eH
      rw [List.drop_eq_getElem_cons (by omega), List.drop_eq_getElem_cons hi] at rF
      obtain ⟨F1, F2, eF, r1, r2⟩ := rF.one
      subst eF
      have hr4 : Rep K B3 H3 (F1 ++ (F2 ++ R)) σ' Δ2 := by rw [← List.append_assoc]; exact hr3
      refine hg ts[i] Δ2 _ σ' H3 B3 (F2 ++ R) F1 _ hr4 r1 (hs i ts[i] Δ2 (by simp [hi]) hp) _ fun Δ4 σ4 H4 B4 q4 a4 b4 c4 hr5 _ => ?_
      have r2' : RpL K B4 H4 (vs.drop (i + 1)) (ts.drop (i + 1)) F2 := r2.mono a4 b4.left
      have f34 : Fin K B2 H2 R np σ B4 H4 σ4 := f2.trans ⟨a4, b4.right, c4⟩
      refine hb _ Δ4 σ4 H4 B4 (F2 ++ R) hr5 q4 _ (fun Δ5 σ5 H5 B5 q5 f5 hr6 => ⟨Δ5, B5, F2, q5, f34.trans ⟨f5.1, f5.2.1.right, f5.2.2⟩, r2'.mono f5.1 f5.2.1.left, hr6⟩) (fun t Δ5 σ5 v H5 B5 G q5 f5 r5 hr6 => ?_)
        (fun Δ5 σ5 H5 B5 q5 f5 hr6 => k1 _ _ _ _ q5 ((f1.trans f34).trans ⟨f5.1, f5.2.1.right, f5.2.2⟩) (hr6.weak fun b => by simp only [List.count_append]; omega)) (fun Δ5 σ5 H5 B5 q5 f5 hr6 => ⟨Δ5, B5, F2, q5, f34.trans ⟨f5.1, f5.2.1.right, f5.2.2⟩, r2'.mono f5.1 f5.2.1.left, hr6⟩)
        (fun x fs Δ5 σ5 od H5 B5 q5 f5 hr6 r5 => k5 _ _ _ _ _ _ _ q5 ((f1.trans f34).trans ⟨f5.1, f5.2.1.right, f5.2.2⟩) (hr6.weak fun b => by simp only [List.count_append]; omega) r5)
      exact k2 _ _ _ _ _ _ G q5 ((f1.trans f34).trans ⟨f5.1, f5.2.1.right, f5.2.2⟩) r5 (hr6.weak fun b => by simp only [List.count_append]; omega)
    · left
      have e : i = ts.length := by omega
      subst e
      exact ⟨⟨vs, sq, by omega⟩, k1 _ _ _ _ (hd Δ2 hp) (f1.trans f2) (hr3.weak fun b => by simp only [List.count_append]; omega)⟩
theorem cs_forO {X : Cx} {np : Nat} {tg : Expr} {es : List Expr} {body : List Stmt} {wa : WA} {wg : WG} {wb : WS} {lpos pos : Pos} (hp : PassesOwn (model X.prog X.w) X.A X.env X.xe) (hc : X.calm = true) (ha : CA X es wa) (hg : CG X (Pin np) tg wg) (hb : CSs X np body wb)
    (hs : ∀ x, foldedSetIterable (.List es lpos) X.env x = pure x := by intro _; rfl) : CS X np (.For tg (.List es lpos) body [] pos) (wForO wa wg wb) := by
  refine ⟨fun W tk => ?_⟩
  obtain ⟨t1, p1, r1⟩ := ha
  obtain ⟨t2, p2, r2⟩ := hg
  obtain ⟨t3, p3, r3⟩ := hb.ex W tk
  exact ⟨_, ps_for hp hc (pi_list (pe_lst p1)) p2 p3 hs, rf_forO r1 r2 r3⟩
end TL

set_option maxRecDepth 100000
set_option maxHeartbeats 1000000
namespace TL
open PySem PySem.Spec PyProof.Rows L2

/-! ### try, where the first clause (with a name) takes all that the body lets out -/
/-- the suite's ends: behind it the clause's name is gone -/
def goneE (i : Nat) (D : Ends) : Ends := { nx := fun σ H => D.nx (σ.set i none) H, rt := D.rt, bk := fun σ H => D.bk (σ.set i none) H, ct := fun σ H => D.ct (σ.set i none) H }
def wFirst (K : Frag) (c : Value) (i : Nat) (ts : Addr → Value → Option Addr → TS) (D : Ends) : WX := fun cls od σ H =>
  PySem.W.exmOne K cls c = some true ∧ ∀ a, H a = none → ts a cls od (goneE i D) (σ.set i (some (.ref a))) H
section
variable {X : Cx} {x n : Str} {c : Value} {i : Nat} {body suite : List Stmt} {b₀ : Stmt} {np pos pos' : Pos} {more : List ExceptHandler} {tb : WX → TS} {ts : Addr → Value → Option Addr → TS}
/-- an exception's object is no frame -/
theorem not_frame {h base : Heap} {a : Addr} {l : List Env} {o : Obj} {vs : Array Value} (ff : h.FunFrames base l) (e : h.get? a = some o) (d : o.data = .fields vs) : a ∉ frs l := fun hm => by
  obtain ⟨_, o2, e2, no⟩ := ff.mem hm
  rw [e] at e2
  cases e2
  exact no vs d
theorem ps_try_first (hs : X.stack = X.env :: X.outer) (hf : X.env.frame = some X.env.locals) (hN : X.N.Nodup) (hi : X.N[i]? = some n) (hln : X.env.kindOf n = some .local) (hc : Names X x c)
    (hb : ∀ (W : WX) (pn : List (Addr × Obj)) (xe : Value → Shared → Prop), L2N.Takes (X.tr pn xe) W → PassesOwn (model X.prog X.w) X.A X.env xe → PSs (X.tr pn xe) body (tb W))
    (hsu : ∀ (a : Addr) (oe : Obj) (cls : Value) (od : Option Addr) (pn : List (Addr × Obj)), L2N.Zn cls od oe → (∃ vs, oe.data = .fields vs) → PSs (X.suite a ((a, oe) :: pn)) (b₀ :: suite) (ts a cls od)) :
    PS X (.Try body (.ExceptHandler (some (.Name x np)) (some n) (b₀ :: suite) pos' :: more) [] [] pos) (fun D σ H => tb (wFirst X.K c i ts D) D σ H) := by
  constructor
  intro pins s σ H D I h
  have ok := I.ok
  have frames : X.A.frames = some (X.env :: X.outer) := ok.frames.trans (congrArg some hs)
  apply wpAny_Try_except
  let look : Value → Shared → Prop := fun u s1 => wpAny (model X.prog X.w) X.A (noteFrame u X.env) (fun _ s2 => wpAny (model X.prog X.w) X.A (setFlight u none) (fun _ s3 =>
    wpAny (model X.prog X.w) X.A (handleBy u X.env (.ExceptHandler (some (.Name x np)) (some n) (b₀ :: suite) pos' :: more)) (SP X pins D) X.xe s3) X.xe s2) X.xe s1
  have takes : L2N.Takes (X.tr (X.pn ++ pins) look) (wFirst X.K c i ts D) := by
    rintro _ s' ⟨a, B, sI, pins', σ', H', cls, d, rfl, J0, nb, up, sky, na, os, ag, fits, suited⟩
    have J : Inv X pins σ' H' sI := J0.ofTry ok
    have air : Sky B (X.env :: X.outer) a (L2N.Zn cls d) X.env.locals s'.heap := hs ▸ sky
    apply L2N.Sky.land L2N.Zn.steady frames hf air
    intro h3 fl3 up3
    have J3 : Inv X pins σ' H' { s' with heap := h3 } := J.landed nb fl3.1 (up.trans up3) os ag
    obtain ⟨o3, v3, get3, zc3, dat3⟩ := fl3.there
    have far := not_frame fl3.2.2.1 get3 dat3
    have notLoc : a ≠ X.env.locals := fun z => far (List.mem_filterMap.mpr ⟨X.env, List.mem_cons_self, hf.trans (congrArg some z.symm)⟩)
    have notFs : a ∉ X.fs := fun hm => far (by
      obtain ⟨e, he, q⟩ := List.mem_filterMap.mp hm
      exact List.mem_filterMap.mpr ⟨e, List.mem_cons_of_mem _ he, q⟩)
    have in3 := J3.suite get3 dat3 na notLoc notFs
    have isCls : PySem.W.Looks (model X.prog X.w) h3 (typeOf (.ref a)) cls := fun _ _ _ _ k q => wpAny_typeOf_ref (k _ _ get3) (zc3.1.symm ▸ q)
    have isOne := PySem.W.exm_one (M := model X.prog X.w) J3.kIn isCls fits
    have named : ∀ {Q E : Value → Shared → Prop}, Q c { s' with heap := h3 } → wpAny (model X.prog X.w) (X.A.mark (some (.ref a))) (eval (.Name x np) X.env) Q E { s' with heap := h3 } := by
      intro Q E q
      rcases hc with ⟨g, nd, m | ⟨m, v, nn⟩⟩
      · exact ld_glob (X := X.suite a ((a, o3) :: (X.pn ++ pins))) in3 g m q nd
      · exact ld_blt (X := X.suite a ((a, o3) :: (X.pn ++ pins))) in3 g m v q nn nd
    refine wpAny_handleBy_cons (codeAny_handlers_test (named (isOne.here ?_))) fun q => nomatch q
    apply codeAny_handlers_suite_as
    apply HandSPX.lands_againZ fl3
    intro h4 fl4 up4
    have J4 : Inv X pins σ' H' { s' with heap := h4 } := J.landed nb fl4.1 ((up.trans up3).trans up4) os ag
    obtain ⟨o4, v4, get4, zc4, dat4⟩ := fl4.there
    refine store_ok (X := X.suite a ((a, o4) :: (X.pn ++ pins))) (v := .ref a) (J4.suite get4 dat4 na notLoc notFs) hN hi (.inl hln) rfl ?_ (.inr hln)
    intro s5 I5
    have runs := (hsu a o4 cls d (X.pn ++ pins) zc4 ⟨_, dat4⟩).run [] s5 _ H' _ I5 (suited a na)
    refine wpAny_mono runs ?_ fun _ _ z => z.elim
    intro f s6 how
    have goes : ∀ {σ6 : Sg} {H6 : Hp} {Q : Shared → Prop}, Inv (X.suite a ((a, o4) :: (X.pn ++ pins))) [] σ6 H6 s6 → (∀ s7, Inv X pins (σ6.set i none) H6 s7 → Q s7) →
        wpAny (model X.prog X.w) X.A (do bindName X.env n .none; unbindBehindTheSuite X.env n pos') (fun _ s7 => Q s7) X.xe s6 := fun I6 q => gone_ok (I6.unsuite ok) hN hi hln q
    match f, how with
    | .next, ⟨_, _, I6, q⟩ => exact goes I6 fun _ J7 => ⟨_, _, J7, q⟩
    | .brk, ⟨_, _, I6, q⟩ => exact goes I6 fun _ J7 => ⟨_, _, J7, q⟩
    | .cont, ⟨_, _, I6, q⟩ => exact goes I6 fun _ J7 => ⟨_, _, J7, q⟩
    | .ret _, ⟨_, _, _, I6, r, q⟩ => exact goes I6 fun _ J7 => ⟨_, _, _, J7, r, q⟩
  have ends := (hb _ (X.pn ++ pins) look takes PassesOwn.looking).run [] s σ H D (I.toTry _) h
  refine wpAny_mono ends ?_ fun _ _ z => z
  intro f s1 how
  match f, how with
  | .next, ⟨σ', H', J, q⟩ => exact wpAny_execs_nil ⟨σ', H', J.ofTry ok, q⟩
  | .brk, ⟨σ', H', J, q⟩ => exact ⟨σ', H', J.ofTry ok, q⟩
  | .cont, ⟨σ', H', J, q⟩ => exact ⟨σ', H', J.ofTry ok, q⟩
  | .ret _, ⟨v, σ', H', J, r, q⟩ => exact ⟨v, σ', H', J.ofTry ok, r, q⟩
end

/-- .. read over trees -/
def TSof (K : Frag) (np : Nat) (W : WX) (w : WS) : TS := fun E σ H => ∃ (D : EndsD) (Δ : Dt) (B : Hp) (R : List Addr), Rep K B H R σ Δ ∧ w D Δ ∧
  (∀ Δ' σ' H' B', D.nx Δ' → Fin K B H R np σ B' H' σ' → Rep K B' H' R σ' Δ' → E.nx σ' H') ∧
  (∀ t Δ' σ' v H' B' G, D.rt t Δ' → Fin K B H R np σ B' H' σ' → Rp K B' H' v t G → Rep K B' H' (G ++ R) σ' Δ' → E.rt v H') ∧
  (∀ Δ' σ' H' B', D.bk Δ' → Fin K B H R np σ B' H' σ' → Rep K B' H' R σ' Δ' → E.bk σ' H') ∧
  (∀ Δ' σ' H' B', D.ct Δ' → Fin K B H R np σ B' H' σ' → Rep K B' H' R σ' Δ' → E.ct σ' H') ∧
  (∀ x fs Δ' σ' od H' B', D.ex x fs Δ' → Fin K B H R np σ B' H' σ' → Rep K B' H' R σ' Δ' → ExR K B' H' fs od → W (.ref (clsOf K x)) od σ' H')
theorem CSs.pss {X : Cx} {np : Nat} {st : List Stmt} {w : WS} {W : WX} (h : CSs X np st w) (tk : L2N.Takes X W) : PSs X st (TSof X.K np W w) := by
  obtain ⟨ts, p, r⟩ := h.ex W tk
  exact ⟨fun pins s σ H E I ⟨D, Δ, B, R, hr, hw, k1, k2, k3, k4, k5⟩ => p.run pins s σ H E I (r D Δ σ H B R hr hw E k1 k2 k3 k4 k5)⟩
/-- try: the clause takes the classes ok, its name is in slot i; ws a y od: the suite, for the exception at a of the class y with the dict od -/
def goneD (i : Nat) (D : EndsD) : EndsD := { nx := fun Δ => D.nx (Δ.set i none), rt := D.rt, bk := fun Δ => D.bk (Δ.set i none), ct := fun Δ => D.ct (Δ.set i none) }
def exTry (ok : List Str) (i : Nat) (ws : Addr → Str → Option Addr → WS) (D : EndsD) (y : Str) (fs : List (Str × T)) (Δ : Dt) : Prop :=
  y ∈ ok ∧ ∀ a od, ws a y od (goneD i D) (Δ.set i (some (.exc a y od fs)))
def wTry (ok : List Str) (i : Nat) (wb : WS) (ws : Addr → Str → Option Addr → WS) : WS := fun D Δ => wb { D with ex := exTry ok i ws D } Δ
theorem Rp.exc_of {K : Frag} {B H : Hp} {a : Addr} {y : Str} {od : Option Addr} {fs : List (Str × T)} (h : ExR K B H fs od) : Rp K B H (.ref a) (.exc a y od fs) [] := by
  cases od with
  | none =>
    obtain rfl : fs = [] := h
    exact .exc0 a y
  | some d =>
    obtain ⟨fv, e, q, r⟩ := h
    exact .excD e q r
theorem cs_try {X : Cx} {x n : Str} {c : Value} {i p : Nat} {body suite : List Stmt} {b₀ : Stmt} {np pos pos' : Pos} {more : List ExceptHandler} {ok : List Str} {wb : WS} {ws : Addr → Str → Option Addr → WS}
    (hs : X.stack = X.env :: X.outer) (hf : X.env.frame = some X.env.locals) (hN : X.N.Nodup) (hi : X.N[i]? = some n) (hln : X.env.kindOf n = some .local) (hp : p ≤ i) (hc : Names X x c) (hok : ∀ y ∈ ok, PySem.W.exmOne X.K (.ref (clsOf X.K y)) c = some true)
    (hb : ∀ (pn : List (Addr × Obj)) (xe : Value → Shared → Prop), PassesOwn (model X.prog X.w) X.A X.env xe → CSs (X.tr pn xe) p body wb)
    (hsu : ∀ (a : Addr) (oe : Obj) (y : Str) (od : Option Addr) (pn : List (Addr × Obj)), y ∈ ok → L2N.Zn (.ref (clsOf X.K y)) od oe → (∃ vs, oe.data = .fields vs) → CSs (X.suite a ((a, oe) :: pn)) p (b₀ :: suite) (ws a y od)) :
    CS X p (.Try body (.ExceptHandler (some (.Name x np)) (some n) (b₀ :: suite) pos' :: more) [] [] pos) (wTry ok i wb ws) := by
  refine ⟨fun W tk => ⟨_, ps_try_first (tb := fun W => TSof X.K p W wb) (ts := fun a cls od E σ H => ∃ y, y ∈ ok ∧ cls = .ref (clsOf X.K y) ∧ TSof X.K p (fun _ _ _ _ => False) (ws a y od) E σ H) hs hf hN hi hln hc (fun W pn xe tk ps => (hb pn xe ps).pss tk) (fun a oe cls od pn z d => ?_), ?_⟩⟩
  · constructor
    rintro pins s σ H E I ⟨y, hy, rfl, q⟩
    exact ((hsu a oe y od pn hy z d).pss takes_no).run pins s σ H E I q
  · intro D Δ σ H B R hr hw E k1 k2 k3 k4 k5
    refine ⟨{ D with ex := exTry ok i ws D }, Δ, B, R, hr, hw, k1, k2, k3, k4, fun y fs Δ1 σ1 od H1 B1 ⟨hy, q⟩ f1 hr1 r => ⟨hok y hy, fun a _ => ⟨y, hy, rfl, _, _, B1, R, Rep.set (G := []) (x := some (.ref a)) (d := some (.exc a y od fs)) hr1 (Rp.exc_of r), q a od, fun Δ2 σ2 H2 B2 q2 f2 hr2 => ?_, fun t Δ2 σ2 v H2 B2 G q2 f2 r2 hr2 => ?_, fun Δ2 σ2 H2 B2 q2 f2 hr2 => ?_, fun Δ2 σ2 H2 B2 q2 f2 hr2 => ?_, fun _ _ _ _ _ _ _ q2 => q2.elim⟩⟩⟩
    all_goals have fa : Fin X.K B H R p σ B2 H2 σ2 := f1.trans ⟨f2.1, f2.2.1, fun j hj => (f2.2.2 j hj).trans (List.getElem?_set_ne (by omega))⟩
    · exact k1 _ _ _ _ q2 ⟨fa.1, fa.2.1, fun j hj => by rw [List.getElem?_set_ne (by omega)]; exact fa.2.2 j hj⟩ (Rep.set (G := []) (x := none) (d := none) hr2 rfl)
    · exact k2 _ _ _ _ _ _ G q2 fa r2 hr2
    · exact k3 _ _ _ _ q2 ⟨fa.1, fa.2.1, fun j hj => by rw [List.getElem?_set_ne (by omega)]; exact fa.2.2 j hj⟩ (Rep.set (G := []) (x := none) (d := none) hr2 rfl)
    · exact k4 _ _ _ _ q2 ⟨fa.1, fa.2.1, fun j hj => by rw [List.getElem?_set_ne (by omega)]; exact fa.2.2 j hj⟩ (Rep.set (G := []) (x := none) (d := none) hr2 rfl)
end TL

set_option maxRecDepth 100000
set_option maxHeartbeats 1000000
namespace TL
open PySem PySem.Spec PyProof.Rows L2

/-! ### own exception classes with fields, each from a parameter of their __init__ -/
section
variable {X : Cx} {x : Str} {CK : Addr} {e : Expr} {es : List Expr} {ta : TA} {p1 p2 pos : Pos}
/-- what the written part says of the base whose __init__ is called by name -/
structure BaseAt (K : Frag) (mg : Str → Option Value) (x : Str) (CK : Addr) : Prop where
  nm : mg x = some (.ref CK)
  sp : PySem.W.specialIn K (.ref CK) "__getattribute__" = some (some (.builtin "type.__getattribute__"))
  ty : PySem.W.typeIn K (.ref CK) = some (.type "type")
  rd : PySem.W.readsIn K CK (.type "type") = true
  fc : PySem.W.findCls K (.ref CK) (.type "type") "__init__" = some (.val (.builtin "ValueError.__init__"))
/-- OwnBase.__init__(self, ..), which is ValueError's -/
theorem pe_baseInit {pl : Sem Bool} (hg : Gl X x) (T : BaseAt X.K X.mg x CK) (ha : PA X (e :: es) ta) (hdb : (x == ("__debug__" : Str)) = false := by decide)
    (hc : eval (.Call (.Attribute (.Name x p1) "__init__" p2) (e :: es) [] pos) X.env = (do let ov ← eval (.Name x p1) X.env; standAt p2.atName; let (f, first) ← holding [ov] (getMethod ov "__init__" pl); callWith pos f first (backTo pos (starEach (e :: es) X.env)) (backToKw pos (keywordEach [] X.env))) := by rfl)
    (he : starEach (e :: es) X.env = (false, eval e X.env) :: starEach es X.env := by rfl) (hpl : (backTo pos (starEach es X.env)).any (·.1) = false := by rfl) :
    PE X (.Call (.Attribute (.Name x p1) "__init__" p2) (e :: es) [] pos) (tVeI X.K ta) := by
  constructor
  intro pins s σ H Q I h
  obtain ⟨m, fr⟩ := I.fr
  refine PySem.W.methodCall_KW (ld_glob I hg T.nm (PySem.W.method_of_cls fr I.ok.mod.kin T.sp (PySem.W.cls_val fr I.ok.mod.kin T.ty T.rd T.fc (by decide +kernel) ?_)) hdb) hc
  show wpAny _ _ (callWith pos (Value.builtin "ValueError.__init__") [] (backTo pos (starEach (e :: es) X.env)) []) _ _ _
  apply PyProof.Rows.callWith_method1 (thn (ha.run pos pins _ σ H _ (I.tok _) h) _) he hpl
  rintro us s1 ⟨vs, H1, I1, r1, a, C, ws, rfl, hl, T1, ea, q⟩
  cases r1 with
  | @cons _ u0 _ ur ra rw' =>
    cases ra
    have short : ur.length ≤ sizeLine := by
      have e1 := rw'.length
      have e2 : (1000 : Nat) ≤ sizeLine := by decide
      omega
    exact oinit_ok T1 I1 ea short fun s' J => ⟨.non, H1, J, rfl, q⟩
end
/-- what such an __init__ promises: the fields fl from the parameters behind self -/
def spI (K : Frag) (fl : List Str) : Sp := fun vs H Q _ => ∃ (a C : Addr) (ys : List V), vs = .ref a :: ys ∧ ys.length = fl.length ∧ OexC K C ∧ (∀ f ∈ fl, PySem.W.findIn K (.ref C) f = some none) ∧ H a = some (exo a C none) ∧
  ∀ d H', H d = none → d ≠ a → H' a = some (exo a C (some d)) → H' d = some (exd d (fl.zip ys).reverse) → (∀ b, b ≠ a → b ≠ d → H' b = H b) → Q .non H'
theorem spI_len {K : Frag} {fl : List Str} {n : Nat} (h : fl.length + 1 = n) : ∀ vs H Q E, spI K fl vs H Q E → vs.length = n := by
  rintro vs H Q E ⟨a, C, ys, rfl, e, _⟩
  simp [e, h]
theorem init1 {K : Frag} {f : Str} {N : List Str} {m : Str} {vs : List V} {H : Hp} {Q : VK} {E : XK} (hN : N.length = 2) (h : spI K [f] vs H Q E) :
    tSeq (tDrop (tVeI K (tCons (tVar 0) (tCons (tC (.str m)) tNil)))) (tOst K f (tVar 0) (tVar 1)) { nx := fun _ H' => Q .non H', rt := Q } (L2.start N vs) H := by
  obtain ⟨a, C, ys, rfl, e, T, no, ea, k⟩ := h
  match ys, e with
  | [y], _ =>
    have s0 : (L2.start N [.ref a, y])[0]? = some (some (.ref a)) := rfl
    have s1 : (L2.start N [.ref a, y])[1]? = some (some y) := rfl
    refine ⟨_, s0, a, C, [.str m], rfl, (show 1 ≤ 1000 by decide), T, ea, _, s1, _, s0, a, C, rfl, T, no f (by simp), .inl ⟨ea, fun d hd ne => ?_⟩⟩
    exact k d _ hd ne upd_same (by rw [upd_ne ne, upd_same]; rfl) fun b h1 h2 => by rw [upd_ne h1, upd_ne h2]
theorem init2 {K : Frag} {f g : Str} {N : List Str} {m : Str} {vs : List V} {H : Hp} {Q : VK} {E : XK} (hN : N.length = 3) (h : spI K [f, g] vs H Q E) :
    tSeq (tDrop (tVeI K (tCons (tVar 0) (tCons (tC (.str m)) tNil)))) (tSeq (tOst K f (tVar 0) (tVar 1)) (tOst K g (tVar 0) (tVar 2))) { nx := fun _ H' => Q .non H', rt := Q } (L2.start N vs) H := by
  obtain ⟨a, C, ys, rfl, e, T, no, ea, k⟩ := h
  match ys, e with
  | [y, z], _ =>
    have s0 : (L2.start N [.ref a, y, z])[0]? = some (some (.ref a)) := rfl
    have s1 : (L2.start N [.ref a, y, z])[1]? = some (some y) := rfl
    have s2 : (L2.start N [.ref a, y, z])[2]? = some (some z) := rfl
    refine ⟨_, s0, a, C, [.str m], rfl, (show 1 ≤ 1000 by decide), T, ea, _, s1, _, s0, a, C, rfl, T, no f (by simp), .inl ⟨ea, fun d hd ne => ?_⟩⟩
    refine ⟨_, s2, _, s0, a, C, rfl, T, no g (by simp), .inr ⟨d, [(f, y)], upd_same, by rw [upd_ne ne, upd_same], (show 1 ≤ 900 by decide), ?_⟩⟩
    exact k d _ hd ne (by rw [upd_ne (Ne.symm ne), upd_same]) (by rw [upd_same]; rfl) fun b h1 h2 => by rw [upd_ne h2, upd_ne h1, upd_ne h2]
/-- an exception class of the program: its fields, its __init__ (which runs in one room) -/
structure ExcAt (P : Program) (w : World) (K : Frag) (mg : Str → Option Value) (base : Heap) (x : Str) (fl : List Str) : Prop where
  ex : ∃ (fI : Addr) (fd : FuncData) (ps : List Str), OexC K (clsOf K x) ∧ PySem.W.findIn K (.ref (clsOf K x)) "__init__" = some (some (.ref fI)) ∧ PySem.W.typeIn K (.ref fI) = some (.type "function") ∧ FnOk P w K mg base CX0 1 fI fd ps (spI K fl) ∧ Binds K fd ps []
  nm : mg x = some (.ref (clsOf K x))
  no : ∀ f ∈ fl, PySem.W.findIn K (.ref (clsOf K x)) f = some none
  small : fl.length ≤ 900

/-! ### .. made where nothing is handled: its context is None -/
/-- x(e, ..), as a raise needs it -/
theorem pmk_oexN {X : Cx} {CT : CXT} {x : Str} {e : Expr} {es : List Expr} {ta : TA} {p pos : Pos} {C fI : Addr} {j : Nat} {fd : FuncData} {ps : List Str} {sp : Sp} (T : OexC X.K C) (hI : PySem.W.findIn X.K (.ref C) "__init__" = some (some (.ref fI)))
    (hF : PySem.W.typeIn X.K (.ref fI) = some (.type "function")) (I0 : FnOk X.prog X.w X.K X.mg X.base CT j fI fd ps sp) (room : Room (j + 1) X.A) (bd : Binds X.K fd ps []) (out : Passes CT X (fun _ _ _ => False)) (gl : Gl X x) (nm : X.mg x = some (.ref C)) (args : PA X (e :: es) ta)
    (nodebug : (x == ("__debug__" : Str)) = false) (first : starEach (e :: es) X.env = (false, eval e X.env) :: starEach es X.env) (plain : (backTo pos (starEach es X.env)).any (·.1) = false) : L2N.PMk X (.Call (.Name x p) (e :: es) [] pos) (tMkO C sp [] ta) := by
  intro pins s σ H Q I asks
  obtain ⟨_, _, _, _, bm, _, _, _, _, _, _, _, _, _, _, atC, hbm⟩ := T.cls
  apply wpAny_Call_Name_kw (ld_glob I gl nm _ nodebug)
  apply PySem.W.callWith_K (h₀ := X.base) I.ok.mod.kin T.kC (thn (args.run pos pins s σ H _ I asks) _) first plain
  rintro us ⟨hp, g, dr, tk, os⟩ ⟨vs, H1, I1, r1, hz, q1⟩
  refine ⟨I1.kIn, ?_⟩
  show wpAny _ _ (call (.ref C) us) _ _ _
  generalize hn : hp.objs.size + 1 = n at *
  have up : hp.objs.size ≤ n := by omega
  have asked := q1 n (I1.hok.fresh up)
  generalize hh : (hp.push (PySem.W.kdv_tup us)).push (PySem.HandSPX.excO C hp.objs.size) = hq
  have kept : ∀ b o, hp.get? b = some o → hq.get? b = some o := fun b o z => by
    rw [← hh]; exact Heap.get?_push_of_some _ (Heap.get?_push_of_some _ z)
  have stands : hq.get? n = some (PySem.HandSPX.excO C hp.objs.size) := by rw [← hh, ← hn]; heap_get
  have I2 : Inv X pins σ (upd H1 n (exo n C none)) ⟨hq, g, dr, tk, os⟩ := I1.laid (t' := tk) (a := n) (o := exo n C none) (h' := hq) kept up (exo_ok stands)
  have r2 : Vals (V.ref n :: vs) (Value.ref n :: us) := .cons rfl r1
  rw [List.append_nil] at asked
  have len : (Value.ref n :: us ++ []).length = ps.length := by rw [List.append_nil, ← r2.length]; exact I0.len _ _ _ _ asked
  have short : us.length ≤ sizeLine := by
    have z := Paired.length r1
    rw [sizeLine_eq]; omega
  have bd2 := bd _ (Value.ref n :: us) I2.kIn len
  rw [List.append_nil] at bd2
  have ran := I0.run _ X.stack _ _ ⟨Value.ref n :: us, []⟩ (Value.ref n :: us) _ _ (fun _ _ _ => False) (room.make C us []) (I2.env0.make C us []) bd2 r2 asked
  refine wpAny_call (PySem.HandSPX.call_own F.excBase_ValueError (fun Y => PySem.HandSPX.refsVE_contains Y bm hbm) (I1.kIn _ _ atC) (PySem.W.looks_findIn I1.kIn hI) (fun self => PySem.W.bind_fn I1.kIn self hF) short ?_)
  rw [hn, hh]
  refine codeAny_mono ran fun r s' end' => ?_
  match r, s', end' with
  | .ok (.ret u), ⟨h2, g2, d2, t2, os'⟩, ⟨v, H2, sameOs, bare2, un2, hok2, rv, ev, d, fs, ea, ed, nd, q2⟩ =>
    obtain ⟨t0, G, J, kG, noG, atA, na⟩ := mk_end0 (d2 := d2) (t2 := t2) I1 up kept un2 hok2 sameOs bare2 ea ed nd
    subst ev
    exact ⟨rv, n, _, _, ⟨G, g2, d2, t2, os'⟩, _, .ref C, some d, rfl, J, kG, noG, atA, ⟨rfl, rfl, fun ws hw => by cases hw; rfl⟩, rfl, rfl, na, rfl, bare2, raises_own T.exC T.tyC, q2⟩
  | .error er, _, c => exact out pins σ _ _ er _ I2 c
  | .ok .next, _, c => exact False.elim c
  | .ok .brk, _, c => exact False.elim c
  | .ok .cont, _, c => exact False.elim c

/-! ### raise -/
/-- raise x(..), the fields fl -/
def wRaise (x : Str) (fl : List Str) (wa : WA) : WS := fun D Δ => wa Δ fun ps Δ1 => onVs Δ1 ps fun ts => ts.length = fl.length ∧ closedL ts = true ∧ D.ex x (fl.zip ts).reverse Δ1
theorem zip_fst : ∀ {fl : List Str} {α : Type} {ts : List α}, ts.length = fl.length → (fl.zip ts).map (·.1) = fl
  | [], _, _, _ => rfl
  | f :: fl, _, [], h => by simp at h
  | f :: fl, _, t :: ts, h => by simp only [List.zip_cons_cons, List.map_cons]; rw [zip_fst (by simpa using h)]
theorem zip_snd : ∀ {fl : List Str} {α : Type} {ts : List α}, ts.length = fl.length → (fl.zip ts).map (·.2) = ts
  | [], _, [], _ => rfl
  | [], _, _ :: _, h => by simp at h
  | f :: fl, _, [], h => by simp at h
  | f :: fl, _, t :: ts, h => by simp only [List.zip_cons_cons, List.map_cons]; rw [zip_snd (by simpa using h)]
theorem rf_raise {K : Frag} {W : WX} {np : Nat} {x : Str} {fl : List Str} {ta : TA} {wa : WA} (ha : RfA K ta wa) (T : OexC K (clsOf K x)) (no : ∀ f ∈ fl, PySem.W.findIn K (.ref (clsOf K x)) f = some none) (small : fl.length ≤ 900) :
    RfS K np W (fun _ σ H => tMkO (clsOf K x) (spI K fl) [] ta σ H fun cls od H' => W cls od σ H') (wRaise x fl wa) := fun D Δ σ H B R hr hw E k1 k2 k3 k4 k5 => by
  refine ha Δ _ σ H B R hr hw _ fun ps Δ1 vs H1 B1 q hl hk ⟨G, pr, hr1⟩ => ?_
  obtain ⟨ts, F, rL, hlen, hc, q2⟩ := pr.trees hr1 q
  have lv : vs.length = fl.length := rL.length.trans hlen
  refine ⟨by omega, fun a na => ⟨a, clsOf K x, vs, by rw [List.append_nil], lv, T, no, upd_same, fun d H2 nd ne ea ed rest => ⟨rfl, d, _, ea, ed, ?_, ?_⟩⟩⟩
  · rw [upd_ne ne] at nd; exact nd
  · rw [upd_ne ne] at nd
    have same : upd (del H2 a) d (.xd (fl.zip vs).reverse) = upd H1 d (.xd (fl.zip vs).reverse) := by
      funext b
      by_cases hd : b = d
      · rw [hd, upd_same, upd_same]
      · rw [upd_ne hd, upd_ne hd]
        by_cases hb : b = a
        · rw [hb, del_same, na]
        · rw [del_ne hb, rest b hb hd, upd_ne hb]
    rw [same]
    have gr : Gro B1 H1 (upd B1 d (.xd (fl.zip vs).reverse)) (upd H1 d (.xd (fl.zip vs).reverse)) [] := Gro.fro hr1.sub nd
    have hr2 := hr1.drop
    refine k5 x _ Δ1 σ (some d) _ _ q2 (Fin.of (hl.trans gr.2.1) (hk.trans (hr2.keepExt gr.1))) (hr2.gro gr) ⟨_, upd_same, ?_, ?_⟩
    · rw [List.map_reverse, List.map_reverse, zip_fst lv, zip_fst hlen]
    · rw [List.map_reverse, List.map_reverse, zip_snd lv, zip_snd hlen]
      exact (RpL.rev0 (rL.cl hc (Le.refl B1) (H' := H1)) rfl).mono gr.2.1 fun _ z => nomatch z
theorem takes_call {X : Cx} : Passes CX0 X (fun _ _ _ => False) := pass0
theorem cs_raise {X : Cx} {np k : Nat} {x : Str} {fl : List Str} {e : Expr} {es : List Expr} {p pos pos2 : Pos} {wa : WA} (T : ExcAt X.prog X.w X.K X.mg X.base x fl) (hr : Room k X.A) (hk : 2 ≤ k) (hc : X.calm = true) (hg : Gl X x) (ha : CA X (e :: es) wa)
    (hdb : (x == ("__debug__" : Str)) = false := by decide) (he : starEach (e :: es) X.env = (false, eval e X.env) :: starEach es X.env := by rfl) (hpl : (backTo pos (starEach es X.env)).any (·.1) = false := by rfl) :
    CS X np (.Raise (some (.Call (.Name x p) (e :: es) [] pos)) none pos2) (wRaise x fl wa) := by
  refine ⟨fun W tk => ?_⟩
  obtain ⟨ta, pa, ra⟩ := ha
  obtain ⟨fI, fd, ps, oe, iC, tI, F1, hb⟩ := T.ex
  exact ⟨_, L2N.ps_raise hc tk (pmk_oexN oe iC tI F1 (hr.mono hk) hb pass0 hg T.nm pa hdb he hpl), rf_raise ra oe T.no T.small⟩
end TL

set_option maxRecDepth 100000
set_option maxHeartbeats 1000000
namespace TL
open PySem PySem.Spec PyProof.Rows L2

/-! ### a call, as a statement, that may raise -/
section
variable {X : Cx} {CX : CXT} {k : Nat} {f : Addr} {fd : FuncData} {ps : List Str} {sp : Sp} {E : Sg → XK}
theorem pe_callGS {vs0 : List V} {us0 : List Value} {x : Str} {p pos : Pos} {e : Expr} {es : List Expr} {t : TA} (F : FnG X.prog X.w X.K X.mg X.base CX k f fd ps sp) (room : Room k X.A) (quiet : X.A.guards = some []) (gl : Gl X x) (nm : X.mg x = some (.ref f)) (kp : PySem.W.keepIn X.K (.ref f) = true)
    (bd : Binds X.K fd ps us0) (fill : Vals vs0 us0) (out : ∀ σ, PassesAt CX X σ (E σ)) (args : PA X (e :: es) t) (nodebug : (x == ("__debug__" : Str)) = false) (first : starEach (e :: es) X.env = (false, eval e X.env) :: starEach es X.env) (plain : (backTo pos (starEach es X.env)).any (·.1) = false) :
    PE X (.Call (.Name x p) (e :: es) [] pos) (fun σ H Q => t σ H fun vs H1 => sp (vs ++ vs0) H1 Q (E σ)) := ⟨fun pins s σ H Q I asks =>
  wpAny_Call_Name_kw (ld_glob I gl nm (PySem.W.callWith_K (h₀ := X.base) I.ok.mod.kin kp (thn (args.run pos pins s σ H _ I asks) fun us s1 ⟨vs, H1, J, got, more⟩ => ⟨J.kIn, by
    have all := got.append fill
    have st : Stand X.prog X.w X.K X.mg X.base k fd ps X.A X.stack s1 H1 ⟨us, []⟩ (us ++ us0) (vs ++ vs0) := { room, quiet, env := J.env0, meets := bd s1 us J.kIn (all.length.symm.trans (F.arity more)), vals := all }
    refine wpAny_call (codeAny_mono (F.keeps st more) fun r s' end' => ?_)
    match r, end' with
    | .ok (.ret _), c => exact J.after c
    | .error ex, c => exact out σ pins H1 s1 ex s' J c
    | .ok .next, c => exact False.elim c
    | .ok .brk, c => exact False.elim c
    | .ok .cont, c => exact False.elim c⟩) first plain) nodebug)⟩
end
/-- f(..) as a statement -/
def wCallX (S : FS) (ds : List T) (wa : WA) : WS := fun D Δ => wa Δ fun ps Δ1 => onVs Δ1 ps fun ts => dupOk Δ1 ps = true ∧ S (ts ++ ds) fun r ts' => match r with
  | .ret _ => D.nx (backs Δ1 ps (ts'.take ts.length))
  | .exc x fs => D.ex x fs (backs Δ1 ps (ts'.take ts.length))
theorem rpL_cut {K : Frag} {B H : Hp} : ∀ {vs ws : List V} {ts : List T} {F : List Addr}, RpL K B H (vs ++ ws) ts F → ∃ F1 F2, F = F1 ++ F2 ∧ RpL K B H vs (ts.take vs.length) F1
  | [], _, _, F, _ => ⟨[], F, rfl, .nil⟩
  | _ :: vs, ws, _, _, .cons (F := F) (G := G) h1 h2 => by
    obtain ⟨F1, F2, e, r⟩ := rpL_cut (vs := vs) h2
    exact ⟨F ++ F1, F2, by rw [e, List.append_assoc], .cons h1 r⟩
theorem rf_callX {K : Frag} {W : WX} {np : Nat} {ta : TA} {wa : WA} {S : FS} {ds : List T} (hds : ds.all scT = true) (ha : RfA K ta wa) : RfS K np W (tDrop fun σ H Q => ta σ H fun vs H1 => spT K S (vs ++ ds.map scV) H1 Q (fun cls od H' => W cls od σ H')) (wCallX S ds wa) := fun D Δ σ H B R hr hw E k1 k2 k3 k4 k5 => by
  refine ha Δ _ σ H B R hr hw _ fun ps Δ1 vs H1 B1 q hl hk ⟨G, pr, hr1⟩ => ?_
  have hd : dupOk Δ1 ps = true := by
    obtain ⟨ts, F, _, q2⟩ := pr.trees hr1 q
    exact q2.1
  obtain ⟨ts, G0, Δ0, rL, hr0, q2, back⟩ := args_out pr hr1 q hd
  obtain ⟨F0, hS0, hdj⟩ := hr0.fp
  have lv : vs.length = ts.length := rL.length
  have out : ∀ {ts' : List T} {H' B' : Hp} {G2 : List Addr}, Le B1 B' → Keep (F0 ++ R) H1 H' → Rep K B' H' (G2 ++ (F0 ++ R)) ((vs ++ ds.map scV).map some) (ts'.map some) → Rep K B' H' (G2 ++ R) σ (backs Δ1 ps (ts'.take ts.length)) := fun {ts' H' B' G2} hle hkp hrep => by
    obtain ⟨G', hS', hdj'⟩ := hrep.fp
    obtain ⟨F1, F2, e, r⟩ := rpL_cut (RpS.to_L hS')
    subst e
    rw [lv] at r
    exact back B' H' _ F1 (G2 ++ R) r ⟨hrep.sub, F0, hS0.mono hle hkp.left, hdj'.of_le fun a => by simp only [List.count_append]; omega⟩
  refine ⟨ts ++ ds, B1, F0 ++ R, _, ?_, q2.2, fun t ts' v H' B' G2 qf hle hkp r hrep => ?_, fun x fs ts' od H' B' qf hle hkp hrep ex => ?_⟩
  · refine ⟨hr0.sub, G0 ++ [], RpS.of_L (RpL.append rL (rpl_sc hds)), hdj.of_le fun a => by simp only [List.count_append, List.count_nil]; omega⟩
  · exact k1 _ _ _ _ qf (Fin.of (hl.trans hle) (hk.trans hkp.right)) (out hle hkp hrep).drop
  · exact k5 x fs _ σ od H' B' qf (Fin.of (hl.trans hle) (hk.trans hkp.right)) (out (G2 := []) hle hkp hrep) ex

/-! ### defs that exceptions may leave -/
/-- such a def as its callers need it -/
structure CalX (P : Program) (w : World) (K : Frag) (mg : Str → Option Value) (base : Heap) (k : Nat) (x : Str) (ds : List T) (S : FS) : Prop where
  ex : ∃ (f : Addr) (fd : FuncData) (ps : List Str), mg x = some (.ref f) ∧ PySem.W.keepIn K (.ref f) = true ∧ (∃ us, Vals (ds.map scV) us ∧ Binds K fd ps us) ∧ FnG P w K mg base (L2N.CX P w) k f fd ps (spT K S)
theorem cs_callX {X : Cx} {np j k : Nat} {S : FS} {x : Str} {ds : List T} {p pos pos2 : Pos} {e : Expr} {es : List Expr} {wa : WA} (c : CalX X.prog X.w X.K X.mg X.base j x ds S) (hds : ds.all scT = true) (hr : Room k X.A) (hj : j ≤ k) (hgd : X.A.guards = some []) (hg : Gl X x) (ha : CA X (e :: es) wa)
    (hdb : (x == ("__debug__" : Str)) = false := by decide) (he : starEach (e :: es) X.env = (false, eval e X.env) :: starEach es X.env := by rfl) (hpl : (backTo pos (starEach es X.env)).any (·.1) = false := by rfl)
    (hs : swapsWith (.Call (.Name x p) (e :: es) [] pos) none pos2.line X.env = pure false := by rfl) : CS X np (.Expr (.Call (.Name x p) (e :: es) [] pos) pos2) (wCallX S ds wa) := by
  refine ⟨fun W tk => ?_⟩
  obtain ⟨ta, pa, ra⟩ := ha
  obtain ⟨f, fd, ps, hm, hk, ⟨us, hus, hb⟩, F⟩ := c.ex
  exact ⟨_, ps_expr (pe_callGS (E := fun σ cls od H' => W cls od σ H') F (hr.mono hj) hgd hg hm hk hb hus (L2N.passAt tk) pa hdb he hpl) hs, rf_callX hds ra⟩
/-- the ways without an exception -/
def noX (S : FS) : FS := fun ts Q => S ts fun r ts' => match r with
  | .ret t => Q (.ret t) ts'
  | .exc _ _ => False
theorem CalX.nox {P : Program} {w : World} {K : Frag} {mg : Str → Option Value} {base : Heap} {k : Nat} {x : Str} {ds : List T} {S : FS} (c : CalX P w K mg base k x ds S) : Cal P w K mg base k x ds (noX S) := by
  obtain ⟨f, fd, ps, hm, hk, hb, F⟩ := c.ex
  have weak : ∀ {vs H Q E}, spT K (noX S) vs H Q E → spT K S vs H Q fun _ _ _ => False := fun {vs H Q E} ⟨ts, B, R, Qf, hr, q, k1, k2⟩ => by
    refine ⟨ts, B, R, _, hr, q, fun t ts' v H' B' G qf => k1 t ts' v H' B' G qf, fun x fs ts' od H' B' qf => qf.elim⟩
  refine ⟨f, fd, ps, hm, hk, hb, fun {vs H Q E} asks => F.arity (weak asks), fun {A outer s H args us vs Q E} st asks => ?_⟩
  refine codeAny_mono (F.keeps st (weak asks)) fun r s' got => ?_
  match r, got with
  | .ok (.ret _), c => exact c
  | .error ex, c =>
    obtain ⟨_, _, _, _, _, _, _, _, _, _, _, _, no⟩ := c
    exact no.elim
  | .ok .next, c => exact False.elim c
  | .ok .brk, c => exact False.elim c
  | .ok .cont, c => exact False.elim c
section
variable {P : Program} {w : World} {K : Frag} {mg : Str → Option Value} {base : Heap} {x qual : Str} {st : Stmt} {f : Addr} {fd : FuncData} {dV : Value} {N ps : List Str} {k : Nat} {S : FS}
theorem def_okX (np : Nat) (F : DefAt K mg x qual st f fd dV) (Sc : FnScope N ps (defScope st)) (hlen : ∀ ts Q, S ts Q → ts.length = ps.length) (hnp : np ≤ ps.length)
    (body : ∀ (cdv : Value) (A : Around) (outer : List Env) (s : Shared) (H : Hp) (E : XK), Room k (A.deeper (envOfC qual (defScope st) s.heap.objs.size f cdv)) → (A.deeper (envOfC qual (defScope st) s.heap.objs.size f cdv)).guards = some [] →
      ∃ w', CSs (cxOf (L2N.CX P w) P w K mg base N qual (defScope st) f cdv A outer s H E) np (defBody st) w' ∧ ∀ ts Qf, S ts Qf → w' (endsX np ts Qf) (startD N np ts)) : FnG P w K mg base (L2N.CX P w) (k + 1) f fd ps (spT K S) := by
  obtain ⟨kV, doc, pm, cdv, ct, an, o, stands, isF, code, rfl⟩ := F.text
  have arity : ∀ {vs H Q E}, spT K S vs H Q E → vs.length = ps.length := fun {vs H Q E} ⟨ts, B, R, Qf, hr, hs, _⟩ => by
    have e := hr.len
    simp only [List.length_map] at e
    exact e.trans (hlen ts Qf hs)
  refine fnG_of stands isF code Sc arity fun A outer s H vs Q E room quiet asks => ?_
  have hlv := arity asks
  obtain ⟨ts, B, R, Qf, hrep, hS, k1, k2⟩ := asks
  obtain ⟨w', hb, hv⟩ := body cdv A outer s H E room quiet
  obtain ⟨tb, hp, hrf⟩ := hb.ex (fun cls od _ H => E cls od H) (L2N.takes_of rfl rfl rfl rfl)
  obtain ⟨B1, hle, hr1, rest⟩ := entry (N := N) np hrep
  refine ⟨tb, hp, hrf _ _ _ H B1 R hr1 (hv ts Qf hS) _ (fun Δ' σ' H' B' q f hr' => ?_) (fun t Δ' σ' v H' B' G q f r hr' => ?_) (fun _ _ _ _ q => q.elim) (fun _ _ _ _ q => q.elim) fun y fs Δ' σ' od H' B' q f hr' ex => ?_⟩
  · obtain ⟨us, hu, hΔ, q2⟩ := lookUp_pre q
    exact k1 .non _ .non H' B' [] q2 (hle.trans f.1) f.2.1 .non (leave (N := N) (G := []) (by omega) hr' f.1 f.2.2 hu hΔ rest)
  · obtain ⟨us, hu, hΔ, q2⟩ := lookUp_pre q
    exact k1 t _ v H' B' G q2 (hle.trans f.1) f.2.1 r (leave (N := N) (by omega) hr' f.1 f.2.2 hu hΔ rest)
  · obtain ⟨us, hu, hΔ, q2⟩ := lookUp_pre q
    exact k2 y fs _ od H' B' q2 (hle.trans f.1) f.2.1 (leave (N := N) (G := []) (by omega) hr' f.1 f.2.2 hu hΔ rest) ex
theorem DefAt.calX (F : DefAt K mg x qual st f fd .none) (G : FnG P w K mg base (L2N.CX P w) k f fd ps (spT K S))
    (h : ∀ (kV doc pm : Value) (an : Option Addr) (cdv ct : Value) (us : List Value), us.length = ps.length → bindArgs (PySem.W.fnOf x qual (defArgs st) (defBody st) (defScope st) .none kV doc pm an cdv ct) ⟨us, []⟩ = pure (ps.zip us)) : CalX P w K mg base k x [] S := by
  obtain ⟨kV, doc, pm, cdv, ct, an, o, _, _, _, rfl⟩ := F.text
  exact ⟨_, _, ps, F.nm, F.stays, ⟨[], .nil, .all (h kV doc pm an cdv ct)⟩, G⟩
end

/-! ### err.f in an except suite -/
/-- the field f of the exception at a (its class's name y, its dict od) -/
def wFld (a : Addr) (y : Str) (od : Option Addr) (f : Str) (we : WE) : WE := fun Δ Q => we Δ fun p Δ1 => onV Δ1 p fun t => match t with
  | .exc a' y' od' fs => (a' = a ∧ y' = y ∧ od' = od) ∧ match fs.lookup f with
    | some v => Q (.val v) Δ1
    | none => False
  | _ => False
theorem lookup_hd {α : Type} (f g : Str) (y : α) (l : List (Str × α)) : ((g, y) :: l).lookup f = if f = g then some y else l.lookup f := by
  by_cases h : f = g
  · subst h; simp [List.lookup]
  · have e : (f == g) = false := by simpa using h
    rw [if_neg h]; simp [List.lookup, e]
theorem lookup_rp {K : Frag} {B H : Hp} {f : Str} {t : T} : ∀ {fv : List (Str × V)} {fs : List (Str × T)}, fv.map (·.1) = fs.map (·.1) → RpL K B H (fv.map (·.2)) (fs.map (·.2)) [] → fs.lookup f = some t → ∃ v, fv.lookup f = some v ∧ Rp K B H v t []
  | [], [], _, _, h => by cases h
  | [], _ :: _, e, _, _ => by simp at e
  | _ :: _, [], e, _, _ => by simp at e
  | (g, v) :: fv, (g', t') :: fs, e, r, h => by
    simp only [List.map_cons, List.cons.injEq] at e
    obtain ⟨rfl, e⟩ := e
    obtain ⟨F1, F2, eF, r1, r2⟩ := RpL.one r
    obtain ⟨rfl, rfl⟩ : F1 = [] ∧ F2 = [] := by
      cases F1 with
      | nil => exact ⟨rfl, eF.symm⟩
      | cons _ _ => cases eF
    rw [lookup_hd] at h ⊢
    by_cases hf : f = g
    · rw [if_pos hf] at h ⊢
      cases h
      exact ⟨v, rfl, r1⟩
    · rw [if_neg hf] at h ⊢
      exact lookup_rp e r2 h
theorem rf_fld {K : Frag} {te : TE} {we : WE} {a : Addr} {y f : Str} {od : Option Addr} (h : RfE K te we) : RfE K (tXf a (.ref (clsOf K y)) od (clsOf K y) f te) (wFld a y od f we) := fun Δ Q σ H B R hr hw Qv k => by
  refine h Δ _ σ H B R hr hw _ fun p Δ1 x H1 B1 q hl hk ⟨G, pr, hr1⟩ => ?_
  obtain ⟨t, F, r, q2⟩ := pr.tree hr1 q
  cases t with
  | exc a' y' od' fs =>
    obtain ⟨⟨rfl, rfl, rfl⟩, q3⟩ := q2
    cases r with
    | exc0 => exact q3.elim
    | @excD _ d _ fv _ e ek rk =>
      cases hv : fs.lookup f with
      | none => rw [hv] at q3; exact q3.elim
      | some v =>
        rw [hv] at q3
        obtain ⟨u, eu, ru⟩ := lookup_rp ek rk hv
        exact ⟨rfl, rfl, d, fv, u, rfl, hr1.sub _ _ e, eu, k (.val v) Δ1 u H1 B1 q3 hl hk ⟨[], ru, hr1.drop⟩⟩
  | _ => exact q2.elim
theorem ce_fld {X : Cx} {a : Addr} {oe : Obj} {y : Str} {od : Option Addr} {pn : List (Addr × Obj)} {e : Expr} {we : WE} {pos : Pos} {n : Str} (T : XfC X.K (clsOf X.K y)) (hno : PySem.W.findIn X.K (.ref (clsOf X.K y)) n = some none)
    (hz : Zc (.ref (clsOf X.K y)) od oe) (hf : ∃ vs, oe.data = .fields vs) (he : CE (X.suite a ((a, oe) :: pn)) e we) (hb : attributeBase e n X.env (eval e X.env) = eval e X.env := by rfl) : CE (X.suite a ((a, oe) :: pn)) (.Attribute e n pos) (wFld a y od n we) := by
  obtain ⟨te, p, r⟩ := he
  exact ⟨_, pe_xf T hno hz hf p hb, rf_fld r⟩
end TL

set_option maxRecDepth 100000
set_option maxHeartbeats 1000000
namespace TL
open PySem PySem.Spec PyProof.Rows L2

/-! ### xs.extend(ys), two names -/
def wExt (i j : Nat) : WE := fun Δ Q => look Δ i fun x => look Δ j fun y => match x, y with
  | .lst true xs, .lst true ys => (closedL xs = true ∧ closedL ys = true) ∧ xs.length + ys.length ≤ sizeLine ∧ Q (.val .non) (Δ.set i (some (.lst true (xs ++ ys))))
  | _, _ => False
theorem rf_ext {K : Frag} {i j : Nat} : RfE K (tBM K "list" rExtend (tVar i) (tCons (tVar j) tNil)) (wExt i j) := fun Δ Q σ H B R hr hw Qv k => by
  obtain ⟨x, ex, hw⟩ := look_iff hw
  obtain ⟨y, ey, hw⟩ := look_iff hw
  match x, y, ex, ey, hw with
  | .lst true xs, .lst true ys, ex, ey, hw =>
    obtain ⟨a, vs, F, e1, hH, hL, upd'⟩ := slot_lst hr ex
    obtain ⟨b, ws, G, e2, hH2, hL2, _⟩ := slot_lst hr ey
    obtain ⟨⟨c1, c2⟩, hz, q⟩ := hw
    have hF := hL.nil_of_closed c1
    have hG := hL2.nil_of_closed c2
    subst hF; subst hG
    obtain ⟨h5, h6⟩ := upd' (vs ++ ws) (xs ++ ys) fun H' _ => RpL.append (F := []) (G := []) (hL.mono (Le.refl _) fun _ z => nomatch z) (hL2.mono (Le.refl _) fun _ z => nomatch z)
    exact ⟨_, e1, .inl ⟨rfl, vs, .inl (.inl hH)⟩, _, e2, a, b, vs, ws, rfl, rfl, hH, hH2, by rw [hL.length, hL2.length]; exact hz, k (.val .non) _ .non _ B q (Le.refl B) h6 ⟨[], .non, h5⟩⟩
theorem ce_ext {X : Cx} {i j : Nat} {x y : Str} {p p2 apos cpos : Pos} (hN : X.N[i]? = some x := by rfl) (hM : X.N[j]? = some y := by rfl) (hv : Vis X.env.scope x := by first | exact Or.inl rfl | exact Or.inr (Or.inl rfl) | exact Or.inr (Or.inr rfl)) (hv2 : Vis X.env.scope y := by first | exact Or.inl rfl | exact Or.inr (Or.inl rfl) | exact Or.inr (Or.inr rfl))
    (hd : (x == ("__debug__" : Str)) = false := by decide) (hcd : (x == ("__classdict__" : Str)) = false := by decide) (hd2 : (y == ("__debug__" : Str)) = false := by decide) (hcd2 : (y == ("__classdict__" : Str)) = false := by decide)
    (hbase : attributeBase (.Name x p) "extend" X.env (eval (.Name x p) X.env) = eval (.Name x p) X.env := by rfl)
    (hfew : ((backTo cpos (starEach [.Name y p2] X.env)).all (fun x => !x.1) && (backToKw cpos (keywordEach [] X.env)).all (fun x => x.1.isSome) && decide (([.Name y p2] : List Expr).length + ([] : List Keyword).length + (if ([] : List Keyword).isEmpty then 0 else 1) < 30)) = true := by rfl)
    (hline : (apos.endLine == cpos.line) = true := by rfl) (hs : starEach [.Name y p2] X.env = (false, eval (.Name y p2) X.env) :: starEach [] X.env := by rfl) (hplain : (backTo cpos (starEach [] X.env)).any (·.1) = false := by rfl) : CE X (.Call (.Attribute (.Name x p) "extend" apos) [.Name y p2] [] cpos) (wExt i j) :=
  ⟨_, pe_bm PySem.F.plainAttrs_list PySem.F.slot_list_extend PySem.F.type_list_extend mt_extend (pe_var hN hv hd hcd) (pa_cons (pe_var hM hv2 hd2 hcd2) pa_nil hs) hbase hfew hline hs hplain, rf_ext⟩

/-! ### 'x' * k: some text of that length -/
theorem rep_size (a : Array Nat) : ∀ (n : Nat) (acc : Array Nat), ((List.replicate n a).foldl (· ++ ·) acc).size = acc.size + a.size * n
  | 0, acc => by simp
  | n + 1, acc => by
    rw [List.replicate_succ, List.foldl_cons, rep_size a n, Array.size_append, Nat.mul_succ]
    omega
def rStrMul : R2 := fun x y H Q => ∃ (z : Str) (k : Int), x = .str z ∧ y = .int k ∧ (2 ≤ k ∧ k ≤ 1000) ∧ (1 ≤ z.length ∧ z.length ≤ 1000) ∧ ∀ o : Str, o.length ≤ z.length * k.toNat → Q (.str o) H
theorem op_strMul {X : Cx} : OpR X (binaryOp .Mult) rStrMul := fun pins s σ H x y v u Q I rx ry h => by
  obtain ⟨z, k, rfl, rfl, hk, hz, q⟩ := h
  obtain ⟨t, rfl⟩ := rx
  obtain ⟨t2, rfl⟩ := ry
  have small : z.length * k.toNat ≤ 1000000 := by
    have h1 : k.toNat ≤ 1000 := by omega
    calc z.length * k.toNat ≤ 1000 * 1000 := Nat.mul_le_mul hz.2 h1
      _ = 1000000 := rfl
  have n1 : ¬ k < 1 := by omega
  have n2 : (k == 1 || z.length == 0) = false := by
    rw [Bool.or_eq_false_iff]
    exact ⟨by rw [beq_eq_false_iff_ne]; omega, by rw [beq_eq_false_iff_ne]; omega⟩
  refine PySem.P.mul_str ?_ (fun _ _ => ?_) (fun _ _ => ?_) ?_
  · have h1 : ¬ k < -(2 ^ 63 : Int) := by omega
    have h2 : ¬ k ≥ 2 ^ 63 := by omega
    rw [decide_eq_false h1, decide_eq_false h2]; rfl
  · have h1 : (9223372036854775 : Int) ≤ (2 ^ 63 - 1) / k := by
      rw [Int.le_ediv_iff_mul_le (by omega)]
      omega
    omega
  · exact PyProof.Rows.short24 (by omega)
  · rw [if_neg n1, n2]
    have e : (⟨(List.replicate k.toNat z.cps).foldl (· ++ ·) #[]⟩ : Str).length = z.length * k.toNat := by
      show ((List.replicate k.toNat z.cps).foldl (· ++ ·) #[]).size = _
      rw [rep_size]; simp; rfl
    refine ⟨?_, ⟨.str _, H, I.tok _, ⟨_, rfl⟩, q _ (Nat.le_of_eq e)⟩⟩
    rw [e, sizeLine_eq]
    omega
def gStrMul : T → T → (T → Prop) → Prop
  | .str z, .int k, Q => (2 ≤ k ∧ k ≤ 1000) ∧ (1 ≤ z.length ∧ z.length ≤ 1000) ∧ ∀ o : Str, o.length ≤ z.length * k.toNat → Q (.str o)
  | _, _, _ => False
theorem l_strMul {K : Frag} : LOp K rStrMul gStrMul := fun B H x y tx ty Fx Fy hs rx ry Q hw Qv k => by
  match tx, ty, rx, ry, hw with
  | .str z, .int n, rx, ry, hw => exact ⟨z, n, rx.str_inv.1, ry.int_inv.1, hw.1, hw.2.1, fun o ho => k _ _ H B [] (hw.2.2 o ho) (Gro.refl hs) (.str o)⟩

/-! ### a.upper(): some text, not much longer -/
def wUpper (we : WE) : WE := fun Δ Q => we Δ fun p Δ1 => onV Δ1 p fun x => match x with
  | .str z => z.length ≤ 1000000 ∧ ∀ o : Str, o.length ≤ 3 * z.length → Q (.val (.str o)) Δ1
  | _ => False
theorem ce_upper {X : Cx} {o : Expr} {we : WE} {apos pos : Pos} (he : CE X o we) (hbase : attributeBase o "upper" X.env (eval o X.env) = eval o X.env := by rfl) (hline : (apos.endLine == pos.line) = true := by rfl) : CE X (.Call (.Attribute o "upper" apos) [] [] pos) (wUpper we) := by
  obtain ⟨t1, p1, r1⟩ := he
  refine ⟨_, pe_upper p1 hbase hline, fun Δ Q σ H B R hr hw Qv k => ?_⟩
  refine r1 Δ _ σ H B R hr hw _ fun p Δ1 x H1 B1 hq hl1 hk1 ⟨G1, pr1, hr1⟩ => ?_
  obtain ⟨t, F, rx, q⟩ := pr1.tree hr1 hq
  match t, rx, q with
  | .str z, rx, q =>
    obtain ⟨rfl, _⟩ := rx.str_inv
    exact ⟨⟨z, rfl⟩, z, rfl, rfl, by have := q.1; omega, k (.val (.str (Txt.upper z))) Δ1 _ H1 B1 (q.2 _ (PyProof.Rows.len_upper z)) hl1 hk1 ⟨[], .str _, hr1.drop⟩⟩
end TL

set_option maxRecDepth 100000
set_option maxHeartbeats 1000000
namespace TL
open PySem PySem.Spec PyProof.Rows L2

/-! ### what the top says of the exception classes -/
theorem clsOf_is {K : Frag} {x : Str} {C : Addr} (h : PySem.W.nsIn K mainGlobals x = some (some (.ref C))) : clsOf K x = C := by
  unfold clsOf
  rw [h]
def cbody : Stmt → List Stmt
  | .ClassDef (body := b) .. => b
  | _ => []
section
variable {P : Program} {w : World} {K : Frag} {mg : Str → Option Value} {base : Heap} {x : Str} {fl : List Str} {C fI : Addr} {fd : FuncData} {ps : List Str}
theorem excAt_of (hc : PySem.W.nsIn K mainGlobals x = some (some (.ref C))) (hm : mg x = some (.ref C)) (oe : OexC K C) (iC : PySem.W.findIn K (.ref C) "__init__" = some (some (.ref fI))) (tI : PySem.W.typeIn K (.ref fI) = some (.type "function"))
    (F : FnOk P w K mg base CX0 1 fI fd ps (spI K fl)) (hb : Binds K fd ps []) (no : ∀ f ∈ fl, PySem.W.findIn K (.ref C) f = some none) (small : fl.length ≤ 900) : ExcAt P w K mg base x fl := by
  have e := clsOf_is hc
  subst e
  exact ⟨⟨fI, fd, ps, oe, iC, tI, F, hb⟩, hm, no, small⟩
theorem xf_of (hc : PySem.W.nsIn K mainGlobals x = some (some (.ref C))) (ga : PySem.W.findIn K (.ref C) "__getattribute__" = some (some (.builtin "BaseException.__getattribute__"))) (gg : PySem.W.findIn K (.ref C) "__getattr__" = some none)
    (exC : PySem.W.subIn K (.ref C) (.type "BaseException") = some true) (hdC : PySem.W.hasDictIn K C = true) : XfC K (clsOf K x) := by
  have e := clsOf_is hc
  subst e
  exact ⟨ga, gg, exC, hdC⟩
theorem xm_of {y : Str} {D : Addr} (hc : PySem.W.nsIn K mainGlobals x = some (some (.ref C))) (hd : PySem.W.nsIn K mainGlobals y = some (some (.ref D))) (h : PySem.W.exmOne K (.ref C) (.ref D) = some true) : PySem.W.exmOne K (.ref (clsOf K x)) (.ref (clsOf K y)) = some true := by
  rw [clsOf_is hc, clsOf_is hd]
  exact h
theorem no1 {a : Str} (h : PySem.W.findIn K (.ref C) a = some none) : ∀ f ∈ [a], PySem.W.findIn K (.ref C) f = some none := fun f hf => by
  rw [List.mem_singleton.mp hf]
  exact h
theorem no2 {a b : Str} (h : PySem.W.findIn K (.ref C) a = some none) (k : PySem.W.findIn K (.ref C) b = some none) : ∀ f ∈ [a, b], PySem.W.findIn K (.ref C) f = some none := fun f hf => by
  rcases List.mem_cons.mp hf with rfl | hf
  · exact h
  · rw [List.mem_singleton.mp hf]
    exact k
theorem exm_of {A D : Addr} (h1 : PySem.W.subIn K (.ref D) (.type "BaseException") = some true) (h2 : PySem.W.isClsIn K D = true) (h3 : PySem.W.typeIn K (.ref D) = some (.type "type")) (h4 : PySem.W.subIn K (.ref A) (.ref D) = some true) : PySem.W.exmOne K (.ref A) (.ref D) = some true := by
  unfold PySem.W.exmOne PySem.W.kitCls
  have h5 : (PySem.W.clsIn K D).isSome = true := h2
  simp [h1, h5, h3, h4]
theorem xn_of (hc : PySem.W.nsIn K mainGlobals x = some (some (.ref C))) (hm : mg x = some (.ref C)) : mg x = some (.ref (clsOf K x)) := by
  rw [clsOf_is hc]
  exact hm
end
end TL

set_option maxRecDepth 100000
set_option maxHeartbeats 1000000
namespace TL
open PySem PySem.Spec PyProof.Rows L2

/-! ### True in d.values() -/
theorem plain_cit : plainId "proto.contains_iter" = true := by decide +kernel
theorem entry_cit : entryFor table "proto.contains_iter" = some Builtin.«proto.contains_iter» := entryFor_of_fast (by kernel_rfl)
theorem no_contains : typeLookup (.type "dict_values") "__contains__" = pure none := by rw [typeLookup_type, builtinLookup_eq_fast]; kernel_rfl
theorem eq_bools {prog : Program} {w : World} {A : Around} {E : Value → Shared → Prop} {Q : Bool → Shared → Prop} {s : Shared} {a b : Bool} (h : Q (a == b) s) : wpAny (model prog w) A (eqBool (.bool a) (.bool b)) Q E s := by
  have q := mem_eqAt (A := A) (s := s) (x := .bl b) (v := .bool b) rfl rfl (xs := [.bl a]) (us := [.bool a]) (.cons rfl .nil) rfl (.bool a) (by simp)
  exact q prog w E Q (by cases a <;> cases b <;> exact h)
section
variable {prog : Program} {w : World} {A : Around} {R : Result → Shared → Prop} {I : Addr} {fp wr : List Addr} {n : Nat} {P : Nat → Value → Prop} {St : Nat → Heap → Prop}
theorem cit_loop (W : Walks prog w A.in1 I fp wr n P St) (b : Bool) (f : Nat → Bool) (hf : ∀ i v, P i v → v = .bool (f i)) : ∀ (k i : Nat) (s : Shared), n - i = k → i ≤ n → St i s.heap →
    (∀ h' tk, (∀ a o, a ∉ wr → s.heap.get? a = some o → h'.get? a = some o) → R (.ok (.ret (.bool (((List.range n).drop i).any fun j => f j == b)))) { s with heap := h', toks := tk }) →
    codeAny (model prog w) A (.builtin "proto.contains_iter" ⟨[.ref I, .bool b], []⟩) R s
  | 0, i, s, hk, hi, st, hR => by
    obtain rfl : i = n := by omega
    refine codeAny_builtin entry_cit ?_
    rw [Around.under_plainId plain_cit _]
    show wpAny _ A.in1 (pyNext (.ref I) >>= _) _ _ s
    refine wpAny_bind (W.done s _ _ st fun h' tk kp => wpAny_bind (wpAny_rule (wpAny_pure ?_)))
    have q := hR h' tk kp
    rw [List.drop_of_length_le (by simp)] at q
    exact q
  | k + 1, i, s, hk, hi, st, hR => by
    have lt : i < n := by omega
    have cut : (List.range n).drop i = i :: (List.range n).drop (i + 1) := by
      rw [List.drop_eq_getElem_cons (by simpa using lt)]; simp
    refine codeAny_builtin entry_cit ?_
    rw [Around.under_plainId plain_cit _]
    show wpAny _ A.in1 (pyNext (.ref I) >>= _) _ _ s
    refine wpAny_bind (W.item i s _ _ lt st fun v h' tk hP st' kp => ?_)
    obtain rfl := hf i v hP
    refine wpAny_bind (eq_bools ?_)
    cases hb : f i == b with
    | true =>
      simp only [if_true]
      refine wpAny_bind (wpAny_rule (wpAny_pure ?_))
      have q := hR h' tk kp
      rw [cut, List.any_cons, hb, Bool.true_or] at q
      exact q
    | false =>
      simp only [Bool.false_eq_true, if_false]
      refine wpAny_pure ⟨plainId_quiet plain_cit _, cit_loop W b f hf k (i + 1) _ (by omega) lt st' fun h2 tk2 kp2 => ?_⟩
      have q := hR h2 tk2 fun a o ha e => kp2 a o ha (kp a o ha e)
      rw [cut, List.any_cons, hb, Bool.false_or] at q
      exact q
end
/-- a view of the values of the dict at a -/
def viewV (v a : Addr) : HO := .ext fun h => h.IsValuesView v a
/-- d.values() -/
def tVals (td : TE) : TE := fun σ H Q => td σ H fun x H1 => ∃ a kvs, x = .ref a ∧ H1 a = some (.dK kvs) ∧ ∀ v, H1 v = none → Q (.ref v) (upd H1 v (viewV v a))
theorem pe_vals {X : Cx} {e : Expr} {td : TE} {apos cpos : Pos} (he : PE X e td) (hbase : attributeBase e "values" X.env (eval e X.env) = eval e X.env := by rfl) (hline : (apos.endLine == cpos.line) = true := by rfl) : PE X (.Call (.Attribute e "values" apos) [] [] cpos) (tVals td) := by
  constructor
  intro pins s σ H Q I h
  refine wpAny_Call_method (T := "dict") (id := "dict.values") hbase rfl hline F.plainAttrs_dict F.slot_dict_values F.type_dict_values (thn (he.run pins s σ H _ I h) fun u s1 got => ?_)
  obtain ⟨x, H1, I1, rx, a, kvs, rfl, ha, q⟩ := got
  obtain rfl : u = Value.ref a := rx
  obtain ⟨_, hsys, vs, rel, dof⟩ := dk_of I1.hok ha
  obtain ⟨ep, dat⟩ := dof.dictAt
  obtain ⟨ob, es, ho, ex, _⟩ := id dat
  refine ⟨⟨ob, ho, ex.1⟩, fun b e => by cases e; exact ⟨ob, ho, ex.2.1⟩, ?_⟩
  show wpAny _ _ (callWith cpos (.builtin "dict.values") [.ref a] [] []) _ X.xe s1
  refine Calls.callWith_builtin rfl (PySem.evalArgs_none (call_meetsIn F.slot_dict_values ⟨ob, ho, ex.1⟩ F.entry_dict_values (F.args_dict_values_1 _) (meets_dict_values (mixKind X.prog X.w) a hsys) ⟨⟨vs, dof⟩, ?_⟩))
  have here : (s1.heap.push { cls := .type "dict_values", data := .fields #[.ref a] }).get? s1.heap.objs.size = some { cls := .type "dict_values", data := .fields #[.ref a] } := Heap.get?_push_size _ rfl
  have new : ObjOk X.prog X.w (upd H1 s1.heap.objs.size (viewV s1.heap.objs.size a)) (s1.heap.push { cls := .type "dict_values", data := .fields #[.ref a] }) s1.heap.objs.size (viewV s1.heap.objs.size a) :=
    ⟨⟨_, here, rfl, rfl⟩, ⟨_, here⟩, fun h1 h2 ⟨o, e, r⟩ k => ⟨o, k o e, r⟩⟩
  have J := I1.laid (t' := s1.toks) (fun b u e => Heap.get?_push_of_some _ e) (Nat.le_refl _) new
  exact ⟨.ref _, _, J, rfl, q _ (I1.hok.fresh (Nat.le_refl _))⟩
/-- b in such a view -/
def rInVals : R2 := fun x y H Q => ∃ (b : Bool) (v a : Addr) (kvs : List (Key × V)) (bs : List Bool), x = .bl b ∧ y = .ref v ∧ H v = some (viewV v a) ∧ H a = some (.dK kvs) ∧ kvs.map (·.2) = bs.map V.bl ∧ Q (.bl (bs.any (· == b))) H
theorem any_range (bs : List Bool) (b : Bool) : ((List.range bs.length).drop 0).any (fun j => bs.getD j false == b) = bs.any (· == b) := by
  have e : (List.range bs.length).map (fun j => bs.getD j false) = bs := by
    apply List.ext_getElem
    · simp
    · intro i h1 h2
      simp [List.getD_eq_getElem?_getD, h2]
  rw [List.drop_zero]
  conv => rhs; rw [← e]
  rw [List.any_map]; rfl
theorem kv_at {kvs : List (Key × V)} {vs : List (Key × Value)} (r : KV kvs vs) : ∀ {i : Nat} {k : Key} {u : Value}, vs[i]? = some (k, u) → ∃ x, kvs[i]? = some (k, x) ∧ RelV x u := by
  unfold KV at r
  induction r with
  | nil => intro i k u e; simp at e
  | @cons p q ps qs h _ ih =>
    intro i k u e
    cases i with
    | zero =>
      obtain rfl : q = (k, u) := by simpa using e
      exact ⟨p.2, by simp [Prod.ext_iff, h.1], h.2⟩
    | succ i =>
      obtain ⟨x, h1, h2⟩ := ih (i := i) (k := k) (u := u) (by simpa using e)
      exact ⟨x, by simpa using h1, h2⟩
theorem op_inVals {X : Cx} (hc : X.calm = true) : OpR X (compareOp .In) rInVals := fun pins s σ H x y v u Q I rx ry h => by
  obtain ⟨b, vw, a, kvs, bs, rfl, rfl, hv, ha, hb, q⟩ := h
  cases rx; cases ry
  obtain ⟨⟨ov, hov, hcv, hdv⟩, _, _⟩ := (show ObjOk X.prog X.w H s.heap vw (viewV vw a) from I.hok vw _ hv)
  obtain ⟨_, hsys, vs, rel, dof⟩ := dk_of I.hok ha
  obtain ⟨ep, dat⟩ := dof.dictAt
  have isV : s.TypeIs (.ref vw) "dict_values" := ⟨ov, hov, hcv⟩
  have lv : vs.length = bs.length := by
    have e1 := congrArg List.length hb
    rw [List.length_map, List.length_map] at e1
    rw [← e1]
    exact (KV.length rel).symm
  have vals : ∀ (i : Nat) (v : Value), (∃ k, vs[i]? = some (k, v)) → v = .bool (bs.getD i false) := fun i v ⟨k, hk⟩ => by
    obtain ⟨x, h1, h2⟩ := kv_at rel hk
    have e1 : (kvs.map (·.2))[i]? = some x := by rw [List.getElem?_map, h1]; rfl
    rw [hb, List.getElem?_map] at e1
    obtain ⟨j, hj, e2⟩ := Option.map_eq_some_iff.mp e1
    subst e2
    have e3 : v = .bool j := h2
    rw [e3, List.getD_eq_getElem?_getD, hj]; rfl
  unfold compareOp
  dsimp only
  refine wpAny_bind ?_
  unfold contains
  refine wpAny_holding ?_
  simp only [stdlibNamesSay?]
  refine wpAny_bind (wpAny_specialOf isV no_contains ?_)
  rw [if_neg (by decide)]
  refine wpAny_bind (wpAny_callSpecialUnlessNone?_none isV no_contains ?_)
  refine wpAny_bind (wpAny_rule ?_)
  refine wpAny_bind ?_
  refine wpAny_tryCatch ?_
  refine wpAny_pyIter_values (knd := mixKind X.prog X.w) ⟨ov, hov, hcv, hdv⟩ dat ?_
  have ne : a ≠ s.heap.objs.size := Nat.ne_of_lt (I.hok.lt ha)
  have W := Walks.dictValues (prog := X.prog) (w := X.w) (knd := mixKind X.prog X.w) (A := X.A.in1) (I.ok.hd hc) s.heap.objs.size a ne vs ep
  refine wpAny_bind (wpAny_runValue (cit_loop W b (fun i => bs.getD i false) vals _ 0 _ rfl (Nat.zero_le _) ⟨⟨_, Heap.get?_push_size _ rfl, rfl, rfl⟩, dat.keep fun b u e => Heap.get?_push_of_some _ e⟩ fun h' tk kp => ?_))
  refine wpAny_pure (wpAny_pure ?_)
  rw [lv, any_range]
  refine ⟨.bl _, H, I.kept (t' := tk) fun c u e => kp c u (fun hm => ?_) (Heap.get?_push_of_some _ e), rfl, q⟩
  have e1 : c = s.heap.objs.size := List.mem_singleton.mp hm
  exact absurd (Heap.lt_size e) (by rw [e1]; exact Nat.lt_irrefl _)
/-- b in d.values(), d a name -/
def wInVals (wa : WE) (i : Nat) : WE := fun Δ Q => wa Δ fun p Δ1 => onV Δ1 p fun x => look Δ1 i fun y => match x, y with
  | .bl b, .dct true kvs => match blsT (kvs.map (·.2)) with
    | some bs => Q (.val (.bl (bs.any (· == b)))) Δ1
    | none => False
  | _, _ => False
theorem rf_inVals {K : Frag} {i : Nat} {ta : TE} {wa : WE} (h : RfE K ta wa) : RfE K (tOp rInVals ta (tVals (tVar i))) (wInVals wa i) := fun Δ Q σ H B R hr hw Qv k => by
  refine h Δ _ σ H B R hr hw _ fun p Δ1 x H1 B1 q hl hk ⟨G, pr, hr1⟩ => ?_
  obtain ⟨tx, Fx, rx, q2⟩ := pr.tree hr1 q
  obtain ⟨ty, ey, q3⟩ := look_iff q2
  obtain ⟨v, Fy, e1, ry⟩ := hr1.get ey
  refine ⟨v, e1, ?_⟩
  match tx, ty, rx, ry, q3 with
  | .bl b, .dct true kvs, rx, .dctO (a := a) (kv := kv) h1 h2 h3, q3 =>
    cases eb : blsT (kvs.map (·.2)) with
    | none => simp only [eb] at q3
    | some bs =>
      simp only [eb] at q3
      obtain ⟨eb1, _⟩ := blsT_of h3 eb
      refine ⟨a, kv, rfl, h1, fun w nw => ⟨b, w, a, kv, bs, rx.bl_inv.1, rfl, upd_same, by rw [upd_ne (ne_of_none h1 nw)]; exact h1, eb1, ?_⟩⟩
      have hr2 := hr1.drop
      have hx := Ext.new (o := viewV w a) nw
      exact k (.val (.bl _)) Δ1 _ _ B1 q3 hl (hk.trans (hr2.keepExt hx.1)) ⟨[], .bl _, ((hr2.ext hx).drop (G := [w]))⟩
theorem ce_inVals {X : Cx} {a : Expr} {wa : WE} {i : Nat} {x : Str} {p apos cpos pos : Pos} (hc : X.calm = true) (ha : CE X a wa) (hN : X.N[i]? = some x := by rfl) (hv : Vis X.env.scope x := by first | exact Or.inl rfl | exact Or.inr (Or.inl rfl) | exact Or.inr (Or.inr rfl))
    (hd : (x == ("__debug__" : Str)) = false := by decide) (hcd : (x == ("__classdict__" : Str)) = false := by decide) (hbase : attributeBase (.Name x p) "values" X.env (eval (.Name x p) X.env) = eval (.Name x p) X.env := by rfl) (hline : (apos.endLine == cpos.line) = true := by rfl)
    (hm : behindInMarks .In (.Call (.Attribute (.Name x p) "values" apos) [] [] cpos) = false := by rfl) : CE X (.Compare a [.In] [.Call (.Attribute (.Name x p) "values" apos) [] [] cpos] pos) (wInVals wa i) := by
  obtain ⟨ta, pa, ra⟩ := ha
  exact ⟨_, pe_cmpR (op_inVals hc) pa (pe_vals (pe_var hN hv hd hcd) hbase hline) hm, rf_inVals ra⟩
end TL

set_option maxRecDepth 100000
set_option maxHeartbeats 1000000
namespace TL
open PySem PySem.Spec PyProof.Rows L2
/-! ### 'x' * k: the very text -/
def mulS (z : Str) (n : Nat) : Str := ⟨(List.replicate n z.cps).foldl (· ++ ·) #[]⟩
theorem mulS_len (z : Str) (n : Nat) : (mulS z n).length = z.length * n := by
  show ((List.replicate n z.cps).foldl (· ++ ·) #[]).size = _
  rw [rep_size]; simp; rfl
def rStrMulE : R2 := fun x y H Q => ∃ (z : Str) (k : Int), x = .str z ∧ y = .int k ∧ (2 ≤ k ∧ k ≤ 1000) ∧ (1 ≤ z.length ∧ z.length ≤ 1000) ∧ Q (.str (mulS z k.toNat)) H
theorem op_strMulE {X : Cx} : OpR X (binaryOp .Mult) rStrMulE := fun pins s σ H x y v u Q I rx ry h => by
  obtain ⟨z, k, rfl, rfl, hk, hz, q⟩ := h
  obtain ⟨t, rfl⟩ := rx
  obtain ⟨t2, rfl⟩ := ry
  have small : z.length * k.toNat ≤ 1000000 := by
    have h1 : k.toNat ≤ 1000 := by omega
    calc z.length * k.toNat ≤ 1000 * 1000 := Nat.mul_le_mul hz.2 h1
      _ = 1000000 := rfl
  have n1 : ¬ k < 1 := by omega
  have n2 : (k == 1 || z.length == 0) = false := by
    rw [Bool.or_eq_false_iff]
    exact ⟨by rw [beq_eq_false_iff_ne]; omega, by rw [beq_eq_false_iff_ne]; omega⟩
  refine PySem.P.mul_str ?_ (fun _ _ => ?_) (fun _ _ => ?_) ?_
  · have h1 : ¬ k < -(2 ^ 63 : Int) := by omega
    have h2 : ¬ k ≥ 2 ^ 63 := by omega
    rw [decide_eq_false h1, decide_eq_false h2]; rfl
  · have h1 : (9223372036854775 : Int) ≤ (2 ^ 63 - 1) / k := by
      rw [Int.le_ediv_iff_mul_le (by omega)]
      omega
    omega
  · exact PyProof.Rows.short24 (by omega)
  · rw [if_neg n1, n2]
    have e := mulS_len z k.toNat
    refine ⟨?_, ⟨.str _, H, I.tok _, ⟨_, rfl⟩, q⟩⟩
    show (mulS z k.toNat).length ≤ sizeLine
    rw [e, sizeLine_eq]
    omega
def gStrMulE : T → T → (T → Prop) → Prop
  | .str z, .int k, Q => (2 ≤ k ∧ k ≤ 1000) ∧ (1 ≤ z.length ∧ z.length ≤ 1000) ∧ Q (.str (mulS z k.toNat))
  | _, _, _ => False
theorem l_strMulE {K : Frag} : LOp K rStrMulE gStrMulE := fun B H x y tx ty Fx Fy hs rx ry Q hw Qv k => by
  match tx, ty, rx, ry, hw with
  | .str z, .int n, rx, ry, hw => exact ⟨z, n, rx.str_inv.1, ry.int_inv.1, hw.1, hw.2.1, k _ _ H B [] hw.2.2 (Gro.refl hs) (.str _)⟩
end TL

set_option maxRecDepth 100000
set_option maxHeartbeats 1000000
namespace TL
open PySem PySem.Spec PyProof.Rows L2

/-! ### exceptions made and held as values -/
theorem xvO_ok {P : Program} {w : World} {H : Hp} {h : Heap} {a : Addr} {cls : Value} {od : Option Addr} {oe : Obj} {vs : Array Value} (e : h.get? a = some oe) (z : Zc cls od oe) (d : oe.data = .fields vs) : ObjOk P w H h a (xvO a cls od) :=
  ⟨⟨oe, vs, e, z, d⟩, ⟨oe, e⟩, fun _ _ ⟨o, us, p, q⟩ k => ⟨o, us, k o p, q⟩⟩
theorem pe_held {X : Cx} {e : Expr} {t : Sg → Hp → XK → Prop} (he : PMk X e t) : PE X e (fun σ H Q => t σ H fun cls od H1 => ∀ a, H1 a = none → Q (.ref a) (upd H1 a (xvO a cls od))) := by
  refine ⟨fun pins s σ H Q I h => wpAny_mono (he pins s σ H _ I h) (fun u s1 hu => ?_) fun _ _ z => z⟩
  obtain ⟨a, oe, vs, sI, H1, cls, d, rfl, J, k, hne, ha, hz, hd, _, na, ho, ag, _, q⟩ := hu
  exact ⟨.ref a, upd H1 a (xvO a cls d), J.call' (ch := []) ho (Un.laidN k hne na) (J.hok.laidN k na (xvO_ok ha hz hd)) ag (fun _ z => nomatch z), rfl, q a na⟩
/-- x(e, ..), x with fields -/
def wMade (x : Str) (fl : List Str) (wa : WA) : WE := fun Δ Q => wa Δ fun ps Δ1 => onVs Δ1 ps fun ts => ts.length = fl.length ∧ closedL ts = true ∧ Q (.val (.exv x (fl.zip ts).reverse)) Δ1
theorem rf_made {K : Frag} {x : Str} {fl : List Str} {ta : TA} {wa : WA} (ha : RfA K ta wa) (T : OexC K (clsOf K x)) (no : ∀ f ∈ fl, PySem.W.findIn K (.ref (clsOf K x)) f = some none) (small : fl.length ≤ 900) :
    RfE K (fun σ H Q => tMkO (clsOf K x) (spI K fl) [] ta σ H fun cls od H1 => ∀ a, H1 a = none → Q (.ref a) (upd H1 a (xvO a cls od))) (wMade x fl wa) := fun Δ Q σ H B R hr hw Qv k => by
  refine ha Δ _ σ H B R hr hw _ fun ps Δ1 vs H1 B1 q hl hk ⟨G, pr, hr1⟩ => ?_
  obtain ⟨ts, F, rL, hlen, hc, q2⟩ := pr.trees hr1 q
  have lv : vs.length = fl.length := rL.length.trans hlen
  refine ⟨by omega, fun a na => ⟨a, clsOf K x, vs, by rw [List.append_nil], lv, T, no, upd_same, fun d H2 nd ne ea ed rest => ⟨rfl, d, _, ea, ed, ?_, ?_⟩⟩⟩
  · rw [upd_ne ne] at nd; exact nd
  · rw [upd_ne ne] at nd
    have same : upd (del H2 a) d (.xd (fl.zip vs).reverse) = upd H1 d (.xd (fl.zip vs).reverse) := by
      funext b
      by_cases hd : b = d
      · rw [hd, upd_same, upd_same]
      · rw [upd_ne hd, upd_ne hd]
        by_cases hb : b = a
        · rw [hb, del_same, na]
        · rw [del_ne hb, rest b hb hd, upd_ne hb]
    rw [same]
    intro a2 na2
    have hr2 := hr1.drop
    have gr : Gro B1 H1 (upd B1 d (.xd (fl.zip vs).reverse)) (upd H1 d (.xd (fl.zip vs).reverse)) [] := Gro.fro hr1.sub nd
    have hr3 := hr2.gro gr
    have hd2 : d ≠ a2 := fun z => by rw [← z, upd_same] at na2; cases na2
    have gr2 : Gro (upd B1 d (.xd (fl.zip vs).reverse)) (upd H1 d (.xd (fl.zip vs).reverse)) (upd (upd B1 d (.xd (fl.zip vs).reverse)) a2 (xvO a2 (.ref (clsOf K x)) (some d))) (upd (upd H1 d (.xd (fl.zip vs).reverse)) a2 (xvO a2 (.ref (clsOf K x)) (some d))) [] := Gro.fro hr3.sub na2
    have hr4 : Rep K _ _ ([] ++ R) σ Δ1 := hr3.gro gr2
    refine k (.val _) Δ1 _ _ _ q2 (hl.trans (gr.2.1.trans gr2.2.1)) (hk.trans ((hr2.keepExt gr.1).trans (hr3.keepExt gr2.1))) ⟨[], ?_, hr4⟩
    refine Rp.exvD upd_same (by rw [upd_ne hd2, upd_same]) ?_ ?_
    · rw [List.map_reverse, List.map_reverse, zip_fst lv, zip_fst hlen]
    · rw [List.map_reverse, List.map_reverse, zip_snd lv, zip_snd hlen]
      exact (RpL.rev0 (rL.cl hc (Le.refl B1) (H' := H1)) rfl).mono (gr.2.1.trans gr2.2.1) fun _ z => nomatch z
theorem ce_made {X : Cx} {k : Nat} {x : Str} {fl : List Str} {e : Expr} {es : List Expr} {p pos : Pos} {wa : WA} (T : ExcAt X.prog X.w X.K X.mg X.base x fl) (hr : Room k X.A) (hk : 2 ≤ k) (hg : Gl X x) (ha : CA X (e :: es) wa)
    (hdb : (x == ("__debug__" : Str)) = false := by decide) (he : starEach (e :: es) X.env = (false, eval e X.env) :: starEach es X.env := by rfl) (hpl : (backTo pos (starEach es X.env)).any (·.1) = false := by rfl) :
    CE X (.Call (.Name x p) (e :: es) [] pos) (wMade x fl wa) := by
  obtain ⟨ta, pa, ra⟩ := ha
  obtain ⟨fI, fd, ps, oe, iC, tI, F1, hb⟩ := T.ex
  exact ⟨_, pe_held (pmk_oex oe iC tI F1 (hr.mono hk) hb Paired.nil pass0 hg T.nm pa hdb he hpl), rf_made ra oe T.no T.small⟩
/-- an exception class of the program without a field of its own -/
structure Exc0At (K : Frag) (mg : Str → Option Value) (x : Str) : Prop where
  inK : ∃ (bmB : List Value) (newId initId : String), ExcBaseFacts "ValueError" newId initId bmB ∧ PySem.W.excIn K (clsOf K x) bmB newId = true
  nm : mg x = some (.ref (clsOf K x))
  kp : PySem.W.keepIn K (.ref (clsOf K x)) = true
/-- x(e), x without fields -/
def wMade0 (x : Str) (we : WE) : WE := fun Δ Q => we Δ fun _ Δ1 => Q (.val (.exv x [])) Δ1
theorem rf_made0 {K : Frag} {x : Str} {te : TE} {we : WE} (h : RfE K te we) : RfE K (fun σ H Q => te σ H fun _ H1 => ∀ a, H1 a = none → Q (.ref a) (upd H1 a (ExO (.ref (clsOf K x)) a))) (wMade0 x we) := fun Δ Q σ H B R hr hw Qv k => by
  refine h Δ _ σ H B R hr hw _ fun p Δ1 v H1 B1 q hl hk ⟨G, pr, hr1⟩ a na => ?_
  have hr2 := hr1.drop
  have gr : Gro B1 H1 (upd B1 a (ExO (.ref (clsOf K x)) a)) (upd H1 a (ExO (.ref (clsOf K x)) a)) [] := Gro.fro hr1.sub na
  have hr3 : Rep K _ _ ([] ++ R) σ Δ1 := hr2.gro gr
  exact k (.val _) Δ1 _ _ _ q (hl.trans gr.2.1) (hk.trans (hr2.keepExt gr.1)) ⟨[], .exv0 upd_same, hr3⟩
theorem ce_made0 {X : Cx} {x : Str} {e : Expr} {p pos : Pos} {we : WE} (T : Exc0At X.K X.mg x) (hg : Gl X x) (he : CE X e we) (hs : starEach [e] X.env = (false, eval e X.env) :: starEach [] X.env := by rfl) (hdb : (x == ("__debug__" : Str)) = false := by decide) :
    CE X (.Call (.Name x p) [e] [] pos) (wMade0 x we) := by
  obtain ⟨te, pe, re⟩ := he
  obtain ⟨bmB, nI, iI, F, q⟩ := T.inK
  exact ⟨_, pe_exc1 F q T.nm T.kp hg pe hs hdb, rf_made0 re⟩

/-! ### isinstance of an exception -/
/-- x is an exception of the class at C: held, or the one that a suite holds -/
def IsX (K : Frag) (H : Hp) (x : V) (C : Addr) : Prop := ∃ a, x = .ref a ∧ (H a = some (ExO (.ref C) a) ∨ ∃ d fs, H a = some (xvO a (.ref C) (some d)) ∧ H d = some (.xd fs))
theorem inst_of {X : Cx} {pins : List (Addr × Obj)} {σ : Sg} {H : Hp} {s : Shared} {x : V} {C : Addr} (I : Inv X pins σ H s) (h : IsX X.K H x C) : ∃ a oe od, x = .ref a ∧ PySem.W.InstAt s.heap a oe C od := by
  obtain ⟨a, rfl, h | ⟨d, fs, h, hd⟩⟩ := h
  · obtain ⟨⟨oe, vs, e, z, ed, _⟩, _⟩ := (show ObjOk X.prog X.w H s.heap a (.ext fun h => ∃ (oe : Obj) (vs : Array Value), h.get? a = some oe ∧ Zc (.ref C) none oe ∧ oe.data = .fields vs ∧ vs[1]? = some .none ∧ vs[2]? = some .none ∧ 4 < vs.size) from I.hok a _ h)
    exact ⟨a, oe, none, rfl, e, z.1, by unfold PySem.W.notCls; rw [ed] <;> rfl, by rw [z.2]; trivial⟩
  · obtain ⟨⟨oe, vs, e, z, ed⟩, _⟩ := (show ObjOk X.prog X.w H s.heap a (.ext fun h => ∃ (oe : Obj) (vs : Array Value), h.get? a = some oe ∧ Zc (.ref C) (some d) oe ∧ oe.data = .fields vs) from I.hok a _ h)
    obtain ⟨mA, hns, _⟩ := (show ObjOk X.prog X.w H s.heap d (.xd fs) from I.hok d _ hd)
    obtain ⟨od, ho, _⟩ := lookIn_ns hns
    exact ⟨a, oe, some od, rfl, e, z.1, by unfold PySem.W.notCls; rw [ed] <;> rfl, by rw [z.2]; exact ho⟩
theorem ask {X : Cx} {pins : List (Addr × Obj)} {σ : Sg} {H : Hp} {s : Shared} {a C : Addr} {oe : Obj} {od : Option Obj} {cv : Value} {b : Bool} {Q : VK} (I : Inv X pins σ H s) (T : ExcC X.K C) (J : PySem.W.InstAt s.heap a oe C od) (e : PySem.W.kitOne X.K (.ref C) cv = some b)
    (q : Q (.bl b) H) : wpAny (model X.prog X.w) X.A (call (.builtin "isinstance") [.ref a, cv]) (EP X pins σ Q) X.xe s := by
  have hcl : (PySem.W.clsIn X.K C).isSome = true := by
    obtain ⟨cd, hc, _⟩ := PySem.W.any_some T.hd
    rw [hc]; rfl
  exact PySem.W.kia_one (PySem.W.kitx_exc hcl T.hg T.hk T.hs T.ha T.hn T.ht T.hm) I.kIn J e (fun z => nomatch z) fun tk => ⟨.bl b, H, I.tok tk, rfl, q⟩
def rIsV (K : Frag) : List V → Hp → VK → Prop := fun xs H Q => ∃ (x c : V) (C : Addr) (cv : Value) (b : Bool), xs = [x, c] ∧ ClsV c cv ∧ IsX K H x C ∧ ExcC K C ∧ PySem.W.kitOne K (.ref C) cv = some b ∧ Q (.bl b) H
theorem call_isV {X : Cx} : CallR X (.builtin "isinstance") (rIsV X.K) := by
  intro pins s σ H xs us Q I r h
  obtain ⟨x, c, C, cv, b, rfl, k, hx, T, e, q⟩ := h
  obtain ⟨u1, u2, rfl, r1, r2⟩ := vals2 r
  have e2 := k.eq r2
  subst e2
  obtain ⟨a, oe, od, rfl, J⟩ := inst_of I hx
  obtain rfl : u1 = Value.ref a := r1
  exact ask I T J e q
/-- isinstance(e, c): e's class is one of all; yes: those that are it -/
def wIsX (yes all : List Str) (we : WE) : WE := fun Δ Q => we Δ fun p Δ1 => onV Δ1 p fun t => match t with
  | .exv y _ => y ∈ all ∧ Q (.val (.bl (yes.contains y))) Δ1
  | _ => False
theorem rf_isX {K : Frag} {te : TE} {we : WE} {c : V} {cv : Value} {yes all : List Str} (hc : ClsV c cv) (hall : ∀ y ∈ all, ExcC K (clsOf K y) ∧ PySem.W.kitOne K (.ref (clsOf K y)) cv = some (yes.contains y)) (h : RfE K te we) :
    RfE K (tCB (rIsV K) (tCons te (tCons (tC c) tNil))) (wIsX yes all we) := fun Δ Q σ H B R hr hw Qv k => by
  refine h Δ _ σ H B R hr hw _ fun p Δ1 x H1 B1 q hl hk ⟨G, pr, hr1⟩ => ?_
  obtain ⟨t, F, r, q2⟩ := pr.tree hr1 q
  cases t with
  | exv y fs =>
    obtain ⟨hy, q3⟩ := q2
    obtain ⟨T, e⟩ := hall y hy
    refine ⟨x, c, clsOf K y, cv, _, rfl, hc, ?_, T, e, k (.val _) Δ1 _ H1 B1 q3 hl hk ⟨[], .bl _, hr1.drop⟩⟩
    cases r with
    | exv0 h1 => exact ⟨_, rfl, .inl (hr1.sub _ _ h1)⟩
    | exvD h0 h1 _ _ => exact ⟨_, rfl, .inr ⟨_, _, hr1.sub _ _ h0, hr1.sub _ _ h1⟩⟩
  | _ => exact q2.elim
section
variable {X : Cx} {e : Expr} {we : WE} {c : Str} {p p2 pos : Pos} {yes all : List Str}
theorem ce_isX (he : CE X e we) (hg : Gl X "isinstance") (hm : X.mg "isinstance" = none) (hv : bootBuiltins "isinstance" = some (.builtin "isinstance")) (gc : Gl X c) (nc : X.mg c = some (.ref (clsOf X.K c)))
    (hall : ∀ y ∈ all, ExcC X.K (clsOf X.K y) ∧ PySem.W.kitOne X.K (.ref (clsOf X.K y)) (.ref (clsOf X.K c)) = some (yes.contains y)) (hdb : (c == ("__debug__" : Str)) = false := by decide)
    (hs : starEach [e, .Name c p2] X.env = (false, eval e X.env) :: starEach [.Name c p2] X.env := by rfl) (hpl : (backTo pos (starEach [.Name c p2] X.env)).any (·.1) = false := by rfl) : CE X (.Call (.Name "isinstance" p) [e, .Name c p2] [] pos) (wIsX yes all we) := by
  obtain ⟨te, pe, re⟩ := he
  exact ⟨_, pe_callB call_isV hg hm hv (pa_cons pe (pa_cons (pe_glob gc nc (v := .ref (clsOf X.K c)) rfl hdb) pa_nil) hs) (by decide) (by decide) hs hpl, rf_isX (.own _) hall re⟩
/-- .. of ValueError -/
theorem ce_isXV (he : CE X e we) (hg : Gl X "isinstance") (hm : X.mg "isinstance" = none) (hv : bootBuiltins "isinstance" = some (.builtin "isinstance")) (gc : Gl X "ValueError") (nc : X.mg "ValueError" = none)
    (hall : ∀ y ∈ all, ExcC X.K (clsOf X.K y) ∧ PySem.W.kitOne X.K (.ref (clsOf X.K y)) (.type "ValueError") = some (yes.contains y))
    (hs : starEach [e, .Name "ValueError" p2] X.env = (false, eval e X.env) :: starEach [.Name "ValueError" p2] X.env := by rfl) (hpl : (backTo pos (starEach [.Name "ValueError" p2] X.env)).any (·.1) = false := by rfl) : CE X (.Call (.Name "isinstance" p) [e, .Name "ValueError" p2] [] pos) (wIsX yes all we) := by
  obtain ⟨te, pe, re⟩ := he
  exact ⟨_, pe_callB call_isV hg hm hv (pa_cons pe (pa_cons (pe_bltn gc nc Boot.«ValueError» (v := .ty "ValueError") rfl) pa_nil) hs) (by decide) (by decide) hs hpl, rf_isX (.ty _) hall re⟩
end
/-! .. of the one that a suite holds -/
def rIsS (K : Frag) (a C : Addr) (od : Option Addr) : List V → Hp → VK → Prop := fun xs H Q => ∃ (c : V) (cv : Value) (b : Bool), xs = [.ref a, c] ∧ ClsV c cv ∧ (∀ d, od = some d → ∃ fs, H d = some (.xd fs)) ∧ PySem.W.kitOne K (.ref C) cv = some b ∧ Q (.bl b) H
theorem call_isS {X : Cx} {a C : Addr} {oe : Obj} {od : Option Addr} {pn : List (Addr × Obj)} (T : ExcC X.K C) (hz : Zc (.ref C) od oe) (hf : ∃ vs, oe.data = .fields vs) : CallR (X.suite a ((a, oe) :: pn)) (.builtin "isinstance") (rIsS X.K a C od) := by
  intro pins s σ H xs us Q I r h
  obtain ⟨c, cv, b, rfl, k, hx, e, q⟩ := h
  obtain ⟨u1, u2, rfl, r1, r2⟩ := vals2 r
  have e2 := k.eq r2
  subst e2
  obtain rfl : u1 = Value.ref a := r1
  obtain ⟨ha, _⟩ := I.pin (a, oe) (List.mem_append_left _ List.mem_cons_self)
  obtain ⟨vs, hv⟩ := hf
  have J : ∃ od', PySem.W.InstAt s.heap a oe C od' := by
    cases od with
    | none => exact ⟨none, ha, hz.1, by unfold PySem.W.notCls; rw [hv] <;> rfl, by rw [hz.2]; trivial⟩
    | some d =>
      obtain ⟨fs, hd⟩ := hx d rfl
      obtain ⟨mA, hns, _⟩ := (show ObjOk X.prog X.w H s.heap d (.xd fs) from I.hok d _ hd)
      obtain ⟨o, ho, _⟩ := lookIn_ns hns
      exact ⟨some o, ha, hz.1, by unfold PySem.W.notCls; rw [hv] <;> rfl, by rw [hz.2]; exact ho⟩
  obtain ⟨od', J⟩ := J
  exact ask I T J e q
/-- isinstance(e, c) in the suite that holds e (at a, of the class y, its dict od): the answer is b -/
def wIsS (a : Addr) (y : Str) (od : Option Addr) (b : Bool) (we : WE) : WE := fun Δ Q => we Δ fun p Δ1 => onV Δ1 p fun t => match t with
  | .exc a' y' od' _ => (a' = a ∧ y' = y ∧ od' = od) ∧ Q (.val (.bl b)) Δ1
  | _ => False
theorem rf_isS {K : Frag} {te : TE} {we : WE} {a : Addr} {y : Str} {od : Option Addr} {c : V} {cv : Value} {b : Bool} (hc : ClsV c cv) (e : PySem.W.kitOne K (.ref (clsOf K y)) cv = some b) (h : RfE K te we) :
    RfE K (tCB (rIsS K a (clsOf K y) od) (tCons te (tCons (tC c) tNil))) (wIsS a y od b we) := fun Δ Q σ H B R hr hw Qv k => by
  refine h Δ _ σ H B R hr hw _ fun p Δ1 x H1 B1 q hl hk ⟨G, pr, hr1⟩ => ?_
  obtain ⟨t, F, r, q2⟩ := pr.tree hr1 q
  cases t with
  | exc a' y' od' fs =>
    obtain ⟨⟨rfl, rfl, rfl⟩, q3⟩ := q2
    have kk := k (.val _) Δ1 _ H1 B1 q3 hl hk ⟨[], .bl _, hr1.drop⟩
    cases r with
    | exc0 => exact ⟨c, cv, b, rfl, hc, (fun _ z => nomatch z), e, kk⟩
    | excD h1 _ _ => exact ⟨c, cv, b, rfl, hc, (fun d z => by cases z; exact ⟨_, hr1.sub _ _ h1⟩), e, kk⟩
  | _ => exact q2.elim
theorem ce_isS {X : Cx} {a : Addr} {oe : Obj} {y c : Str} {od : Option Addr} {pn : List (Addr × Obj)} {e : Expr} {we : WE} {p p2 pos : Pos} {b : Bool} (T : ExcC X.K (clsOf X.K y)) (hz : Zc (.ref (clsOf X.K y)) od oe) (hf : ∃ vs, oe.data = .fields vs)
    (he : CE (X.suite a ((a, oe) :: pn)) e we) (hg : Gl (X.suite a ((a, oe) :: pn)) "isinstance") (hm : X.mg "isinstance" = none) (hv : bootBuiltins "isinstance" = some (.builtin "isinstance")) (gc : Gl (X.suite a ((a, oe) :: pn)) c) (nc : X.mg c = some (.ref (clsOf X.K c)))
    (k : PySem.W.kitOne X.K (.ref (clsOf X.K y)) (.ref (clsOf X.K c)) = some b) (hdb : (c == ("__debug__" : Str)) = false := by decide)
    (hs : starEach [e, .Name c p2] X.env = (false, eval e X.env) :: starEach [.Name c p2] X.env := by rfl) (hpl : (backTo pos (starEach [.Name c p2] X.env)).any (·.1) = false := by rfl) : CE (X.suite a ((a, oe) :: pn)) (.Call (.Name "isinstance" p) [e, .Name c p2] [] pos) (wIsS a y od b we) := by
  obtain ⟨te, pe, re⟩ := he
  exact ⟨_, pe_callB (call_isS T hz hf) hg hm hv (pa_cons pe (pa_cons (pe_glob gc nc (v := .ref (clsOf X.K c)) rfl hdb) pa_nil) hs) (by decide) (by decide) hs hpl, rf_isS (.own _) k re⟩

/-! ### a field of an exception that is held -/
def tXv (K : Frag) (f : Str) (te : TE) : TE := fun σ H Q => te σ H fun x H1 => ∃ (a C d : Addr) (fs : List (Str × V)) (v : V), x = .ref a ∧ H1 a = some (xvO a (.ref C) (some d)) ∧ H1 d = some (.xd fs) ∧ XfC K C ∧ PySem.W.findIn K (.ref C) f = some none ∧ fs.lookup f = some v ∧ Q v H1
theorem pe_xv {X : Cx} {e : Expr} {te : TE} {pos : Pos} {f : Str} (he : PE X e te) (hb : attributeBase e f X.env (eval e X.env) = eval e X.env := by rfl) : PE X (.Attribute e f pos) (tXv X.K f te) := by
  refine ⟨fun pins s σ H Q I h => attr_of hb (thn (he.run pins s σ H _ I h) fun u s1 hh => ?_)⟩
  obtain ⟨x, H1, I1, rx, a, C, d, fs, v, rfl, ha, hd, T, no, l, q⟩ := hh
  obtain rfl : u = Value.ref a := rx
  obtain ⟨⟨oe, vs, e1, z, ed⟩, _⟩ := (show ObjOk X.prog X.w H1 s1.heap a (.ext fun h => ∃ (oe : Obj) (vs : Array Value), h.get? a = some oe ∧ Zc (.ref C) (some d) oe ∧ oe.data = .fields vs) from I1.hok a _ ha)
  obtain ⟨mA, hns, hr⟩ := (show ObjOk X.prog X.w H1 s1.heap d (.xd fs) from I1.hok d _ hd)
  obtain ⟨od, ho, hl⟩ := lookIn_ns hns
  obtain ⟨u, hu, ru⟩ := RelO.some_of (v := v) (o := mA f) (by rw [← l]; exact hr f)
  have J : PySem.W.InstAt s1.heap a oe C (some od) := ⟨e1, z.1, by unfold PySem.W.notCls; rw [ed] <;> rfl, by rw [z.2]; exact ho⟩
  have fo := PySem.W.findObj_own T.hdC no rfl (by rw [hl, hu])
  exact HandSPX.exc_get I1.kIn J T.ga T.gg T.exC fo (handed_of ru) ⟨v, H1, I1.tok _, ru, q⟩
def wFldV (ys : List Str) (f : Str) (we : WE) : WE := fun Δ Q => we Δ fun p Δ1 => onV Δ1 p fun t => match t with
  | .exv y fs => y ∈ ys ∧ match fs.lookup f with
    | some v => Q (.val v) Δ1
    | none => False
  | _ => False
theorem rf_fldV {K : Frag} {te : TE} {we : WE} {f : Str} {ys : List Str} (hall : ∀ y ∈ ys, XfC K (clsOf K y) ∧ PySem.W.findIn K (.ref (clsOf K y)) f = some none) (h : RfE K te we) : RfE K (tXv K f te) (wFldV ys f we) := fun Δ Q σ H B R hr hw Qv k => by
  refine h Δ _ σ H B R hr hw _ fun p Δ1 x H1 B1 q hl hk ⟨G, pr, hr1⟩ => ?_
  obtain ⟨t, F, r, q2⟩ := pr.tree hr1 q
  cases t with
  | exv y fs =>
    obtain ⟨hy, q3⟩ := q2
    obtain ⟨T, no⟩ := hall y hy
    cases r with
    | exv0 h1 => cases q3
    | @exvD a d _ fv _ h0 h1 ek rk =>
      cases hv : fs.lookup f with
      | none => rw [hv] at q3; exact q3.elim
      | some v =>
        rw [hv] at q3
        obtain ⟨u, eu, ru⟩ := lookup_rp ek rk hv
        exact ⟨a, clsOf K y, d, fv, u, rfl, hr1.sub _ _ h0, hr1.sub _ _ h1, T, no, eu, k (.val v) Δ1 u H1 B1 q3 hl hk ⟨[], ru, hr1.drop⟩⟩
  | _ => exact q2.elim
theorem ce_fldV {X : Cx} {e : Expr} {we : WE} {pos : Pos} {f : Str} {ys : List Str} (hall : ∀ y ∈ ys, XfC X.K (clsOf X.K y) ∧ PySem.W.findIn X.K (.ref (clsOf X.K y)) f = some none) (he : CE X e we) (hb : attributeBase e f X.env (eval e X.env) = eval e X.env := by rfl) :
    CE X (.Attribute e f pos) (wFldV ys f we) := by
  obtain ⟨te, p, r⟩ := he
  exact ⟨_, pe_xv p hb, rf_fldV hall r⟩
end TL

set_option maxRecDepth 100000
set_option maxHeartbeats 1000000
namespace TL
open PySem PySem.Spec PyProof.Rows L2
/-! ### what the end asks of the written part about exceptions that are held -/
def exB (K : Frag) (C : Addr) : Bool := decide (PySem.W.findIn K (.ref C) "__getattribute__" = some (some (.builtin "BaseException.__getattribute__"))) && (decide (PySem.W.findIn K (.ref C) "__getattr__" = some none) && (decide (PySem.W.subIn K (.ref C) (.type "BaseException") = some true) && (PySem.W.hasDictIn K C && (decide (PySem.W.findIn K (.ref C) "__class__" = some (some (.builtin "object.__class__"))) && decide (PySem.W.mroIn K C (.type "object") = some true)))))
section
variable {K : Frag} {C : Addr} {mg : Str → Option Value} {x f : Str}
theorem exB_ok (h : exB K C = true) (hn : PySem.W.specialIn K (.builtin "object.__class__") "__get__" = some (some (.builtin "getset_descriptor.__get__"))) (ht : PySem.W.takesIn K (.builtin "object.__class__") = some true) : ExcC K C := by
  unfold exB at h
  simp only [Bool.and_eq_true, decide_eq_true_eq] at h
  obtain ⟨h1, h2, h3, h4, h5, h6⟩ := h
  exact ⟨h1, h2, h3, h4, h5, hn, ht, h6⟩
theorem all_of {ps : List (Str × Addr)} {cv : Value} {yes : List Str} (hp : ∀ p ∈ ps, PySem.W.nsIn K mainGlobals p.1 = some (some (.ref p.2))) (hx : ∀ p ∈ ps, exB K p.2 = true) (hn : PySem.W.specialIn K (.builtin "object.__class__") "__get__" = some (some (.builtin "getset_descriptor.__get__")))
    (ht : PySem.W.takesIn K (.builtin "object.__class__") = some true) (hk : ps.all (fun p => PySem.W.kitOne K (.ref p.2) cv == some (yes.contains p.1)) = true) : ∀ y ∈ ps.map (·.1), ExcC K (clsOf K y) ∧ PySem.W.kitOne K (.ref (clsOf K y)) cv = some (yes.contains y) := by
  intro y hy
  obtain ⟨p, hp', rfl⟩ := List.mem_map.mp hy
  rw [clsOf_is (hp p hp')]
  exact ⟨exB_ok (hx p hp') hn ht, beq_iff_eq.mp (List.all_eq_true.mp hk p hp')⟩
theorem exc0_of (h : PySem.W.nsIn K mainGlobals x = some (some (.ref C))) (hm : mg x = some (.ref C)) (q : PySem.W.excIn K C [.type "ValueError", .type "Exception", .type "BaseException", .type "object"] "ValueError.__new__" = true) (k : PySem.W.keepIn K (.ref C) = true) : Exc0At K mg x := by
  have e := clsOf_is h
  exact ⟨⟨_, _, _, PySem.F.excBase_ValueError, by rw [e]; exact q⟩, by rw [e]; exact hm, by rw [e]; exact k⟩
theorem fld_of (h : PySem.W.nsIn K mainGlobals x = some (some (.ref C))) (T : ExcC K (clsOf K x)) (no : PySem.W.findIn K (.ref C) f = some none) : XfC K (clsOf K x) ∧ PySem.W.findIn K (.ref (clsOf K x)) f = some none :=
  ⟨⟨T.hg, T.hk, T.hs, T.hd⟩, by rw [clsOf_is h]; exact no⟩
end
end TL

set_option maxRecDepth 100000
set_option maxHeartbeats 1000000
namespace TL
open PySem PySem.Spec PyProof.Rows L2

/-! ### xs[lo::2] -/
/-- the items at the places that a slice names -/
def atAll {α : Type} (xs : List α) (ks : List Nat) : List α := ks.filterMap (xs[·]?)
def places (lo hi st : Option Int) (n : Nat) : List Nat := sliceRange (sliceBounds lo hi st n).1 (sliceBounds lo hi st n).2.1 (sliceBounds lo hi st n).2.2
theorem pick_arr (its : Array Value) (lo hi st : Option Int) : slicePick its lo hi st = (atAll its.toList (places lo hi st its.toList.length)).toArray := by
  unfold slicePick atAll places
  rw [Array.length_toList]
  congr 2
  funext i
  exact (Array.getElem?_toList).symm
theorem atAll_vals {vs : List V} {us : List Value} (r : Vals vs us) : ∀ ks : List Nat, Vals (atAll vs ks) (atAll us ks)
  | [] => .nil
  | k :: ks => by
    have ih := atAll_vals r ks
    unfold atAll at ih ⊢
    rw [List.filterMap_cons, List.filterMap_cons]
    cases hv : vs[k]? with
    | none =>
      have hu : us[k]? = none := List.getElem?_eq_none (by rw [← r.length]; exact List.getElem?_eq_none_iff.mp hv)
      rw [hu]
      exact ih
    | some v =>
      obtain ⟨u, hu, rv⟩ := r.get hv
      rw [hu]
      exact .cons rv ih
theorem atAll_rp {K : Frag} {B H : Hp} {vs : List V} {ts : List T} (r : RpL K B H vs ts []) : ∀ ks : List Nat, RpL K B H (atAll vs ks) (atAll ts ks) []
  | [] => .nil
  | k :: ks => by
    have ih := atAll_rp r ks
    unfold atAll at ih ⊢
    rw [List.filterMap_cons, List.filterMap_cons]
    cases hv : vs[k]? with
    | none =>
      have hu : ts[k]? = none := List.getElem?_eq_none (by rw [← r.length]; exact List.getElem?_eq_none_iff.mp hv)
      rw [hu]
      exact ih
    | some v =>
      obtain ⟨t, ht, rt⟩ := r.get hv
      rw [ht]
      exact RpL.cons (F := []) (G := []) rt ih
def tStep (K : Frag) (te : TE) (tl : TO) : TE := fun σ H Q => te σ H fun x H1 => tl σ H1 fun lo H2 => ∃ a xs, x = .ref a ∧ SqL K H2 a xs ∧ ∀ p, H2 p = none → Q (.ref p) (upd H2 p (.lst (atAll xs (places lo none (some 2) xs.length))))
theorem atAll_len {α β : Type} {xs : List α} {ys : List β} (h : xs.length = ys.length) : ∀ ks : List Nat, (atAll xs ks).length = (atAll ys ks).length
  | [] => rfl
  | k :: ks => by
    have ih := atAll_len h ks
    unfold atAll at ih ⊢
    rw [List.filterMap_cons, List.filterMap_cons]
    by_cases hk : k < xs.length
    · rw [List.getElem?_eq_getElem hk, List.getElem?_eq_getElem (h ▸ hk)]
      simp only [List.length_cons]
      rw [ih]
    · rw [List.getElem?_eq_none (Nat.le_of_not_lt hk), List.getElem?_eq_none (by omega)]
      exact ih
theorem atAll_le {α : Type} (xs : List α) (lo : Option Int) : (atAll xs (places lo none (some 2) xs.length)).length ≤ xs.length := by
  refine Nat.le_trans (List.length_filterMap_le _ _) ?_
  unfold places
  refine sliceRange_length_le _ _ _ _ (fun _ => ?_) (fun h => absurd (show (2 : Int) > 0 by decide) h)
  cases lo with
  | none => exact ⟨Int.le_refl 0, Int.le_refl _⟩
  | some i => exact ⟨Int.le_max_left _ _, Int.le_refl _⟩
theorem pe_step {X : Cx} {e : Expr} {lo : Option Expr} {te : TE} {tl : TO} {k : Nat} {p1 p3 pos : Pos} (he : PE X e te) (hl : PO X lo tl)
    (hsub : ∀ a b : Addr, subscripted (.Slice lo none (some (.Constant (.int 2) k p1)) p3) false (.ref a) (.ref b) = operate [.ref a, .ref b] (getItem (.ref a) (.ref b)) := by intro _ _; with_unfolding_all rfl) :
    PE X (.Subscript e (.Slice lo none (some (.Constant (.int 2) k p1)) p3) pos) (tStep X.K te tl) := by
  refine ⟨fun pins s σ H Q I h => Subscript_ (thn (he.run pins s σ H _ I h) fun v s1 ⟨x, H1, I1, r1, q1⟩ => ?_)⟩
  have two : PO X (some (.Constant (.int 2) k p1)) (tPart (tC (.int 2))) := po_some pe_int
  refine wpAny_Slice (thn (hl.run pins s1 σ H1 _ I1 q1) fun vl s2 ⟨l, H2, I2, pl, a, xs, ex, hx, q⟩ => ?_)
  subst ex
  cases r1
  refine thn (po_none.run pins s2 σ H2 (fun o H3 => o = none ∧ H3 = H2) I2 ⟨rfl, rfl⟩) fun vu s3 ⟨u, H3, I3, pu, eu, e3⟩ => ?_
  subst eu e3
  refine thn (two.run pins s3 σ H3 (fun o H4 => o = some 2 ∧ H4 = H3) I3 ⟨2, rfl, rfl, rfl⟩) fun vs s4 ⟨o, H4, I4, ps, eo, e4⟩ => ?_
  subst eo e4
  have I5 : Inv X pins σ H4 { s4 with heap := s4.heap.push { cls := .type "slice", data := .fields #[vl, vu, vs] } } := I4.kept (t' := s4.toks) fun b ob q => Heap.get?_push_of_some _ q
  obtain ⟨its, r, ht, hz⟩ := I5.list hx
  have hlen := r.length
  refine tail_any (ops := [.ref a, .ref s4.heap.objs.size]) ht.isList.typeIs (PySem.slot_list_getitem.lookup) ?_ (hsub _ _)
  refine wpAny_getItem_list_slice ht.isList (Heap.IsSliceOf.new _ vl vu vs) pl pu ps (by decide) ?_ (by rw [List.size_toArray]; omega)
  rw [pick_arr, List.toList_toArray, ← hlen]
  have r2 := atAll_vals r (places l none (some 2) xs.length)
  refine ⟨.ref _, _, I5.laid (t' := s4.toks) (o := .lst (atAll xs (places l none (some 2) xs.length))) (fun b ob q => Heap.get?_push_of_some _ q) (Nat.le_refl _) ?_, rfl, q _ (I5.hok.fresh (Nat.le_refl _))⟩
  refine ⟨Nat.le_trans (atAll_le xs l) (by omega), _, 0, r2, Heap.get?_push_size _ rfl⟩
def gStep (x : T) (lo : Option Int) (Q : T → Prop) : Prop := match x with
  | .lst _ xs => closedL xs = true ∧ Q (.lst true (atAll xs (places lo none (some 2) xs.length)))
  | _ => False
def wStep (w : WE) (wl : WO) : WE := fun Δ Q => w Δ fun p Δ1 => wl Δ1 fun l Δ2 => onV Δ2 p fun x => gStep x l fun t => Q (.val t) Δ2
theorem ce_step {X : Cx} {e : Expr} {lo : Option Expr} {w : WE} {wl : WO} {k : Nat} {p1 p3 pos : Pos} (he : CE X e w) (hl : CO X lo wl)
    (hsub : ∀ a b : Addr, subscripted (.Slice lo none (some (.Constant (.int 2) k p1)) p3) false (.ref a) (.ref b) = operate [.ref a, .ref b] (getItem (.ref a) (.ref b)) := by intro _ _; with_unfolding_all rfl) :
    CE X (.Subscript e (.Slice lo none (some (.Constant (.int 2) k p1)) p3) pos) (wStep w wl) := by
  obtain ⟨t1, q1, r1⟩ := he
  obtain ⟨t2, q2, r2⟩ := hl
  refine ⟨_, pe_step q1 q2 hsub, fun Δ Q σ H B R hr hw Qv k => ?_⟩
  refine r1 Δ _ σ H B R hr hw _ fun p Δ1 x H1 B1 hq hl1 hk1 ⟨G1, pr1, hr1⟩ => ?_
  refine r2 Δ1 _ σ H1 B1 (G1 ++ R) hr1 hq _ fun l Δ2 H2 B2 hq2 hl2 hk2 hr2 => ?_
  obtain ⟨tx, Fx, rx, o⟩ := (pr1.mono hl2 hk2.left).tree hr2 hq2
  have hr4 : Rep X.K B2 H2 R σ Δ2 := hr2.drop
  match tx, rx, o with
  | .lst _ xs, rx, o =>
    obtain ⟨a, vs, F', rfl, h1, rv⟩ := rx.lst_inv hr2.sub
    have rp := atAll_rp (rv.c0 o.1) (places l none (some 2) vs.length)
    have en : vs.length = xs.length := rv.length
    refine ⟨a, vs, rfl, h1, new_lst hr2.sub (ts := atAll xs (places l none (some 2) vs.length)) rp (Q := fun t => Q (.val t) Δ2) ?_ fun v t H' B' G q g r => ?_⟩
    · rw [en]; exact o.2
    · exact k (.val t) Δ2 v H' B' q ((hl1.trans hl2).trans g.2.1) ((hk1.trans hk2.right).trans (hr4.keepExt g.1)) ⟨G, r, hr4.gro g⟩
/-! the plain law -/
def evs {α : Type} : List α → List α
  | [] => []
  | [x] => [x]
  | x :: _ :: r => x :: evs r
theorem range_half (n : Nat) : sliceRange 0 n 2 = (List.range ((n + 1) / 2)).map fun k => 2 * k := by
  unfold sliceRange
  have h1 : ((2 : Int) > 0) := by decide
  rw [if_pos h1]
  by_cases h : (0 : Int) < n
  · rw [if_pos h]
    dsimp only
    have e : (((n : Int) - 0 + 2 - 1) / 2).toNat = (n + 1) / 2 := by omega
    rw [e]
    refine List.map_congr_left fun k _ => ?_
    omega
  · rw [if_neg h]
    have e : n = 0 := by omega
    subst e
    rfl
theorem at_cons2 {α : Type} (x y : α) (r : List α) : ∀ ks : List Nat, atAll (x :: y :: r) (ks.map fun k => 2 * (k + 1)) = atAll r (ks.map fun k => 2 * k)
  | [] => rfl
  | k :: ks => by
    have ih := at_cons2 x y r ks
    unfold atAll at ih ⊢
    rw [List.map_cons, List.map_cons, List.filterMap_cons, List.filterMap_cons, ih]
    have e : (x :: y :: r)[2 * (k + 1)]? = r[2 * k]? := by
      rw [show 2 * (k + 1) = 2 * k + 1 + 1 by omega, List.getElem?_cons_succ, List.getElem?_cons_succ]
    rw [e]
theorem at_evs {α : Type} : ∀ xs : List α, atAll xs ((List.range ((xs.length + 1) / 2)).map fun k => 2 * k) = evs xs
  | [] => by simp [atAll, evs]
  | [x] => by simp [atAll, evs, List.range_succ]
  | x :: y :: r => by
    have ih := at_evs r
    have e : ((x :: y :: r).length + 1) / 2 = (r.length + 1) / 2 + 1 := by simp only [List.length_cons]; omega
    rw [e, List.range_succ_eq_map, List.map_cons, List.map_map]
    have e2 : ((fun k => 2 * k) ∘ Nat.succ) = fun k => 2 * (k + 1) := rfl
    rw [e2]
    have c := at_cons2 x y r (List.range ((r.length + 1) / 2))
    rw [ih] at c
    show atAll (x :: y :: r) (2 * 0 :: _) = x :: evs r
    unfold atAll at c ⊢
    rw [List.filterMap_cons, c]
    rfl
theorem even_items {α : Type} (xs : List α) : atAll xs (places none none (some 2) xs.length) = evs xs := by
  rw [← at_evs xs]
  congr 1
  exact range_half xs.length
theorem range_odd (n : Nat) : sliceRange 1 ((n + 1 : Nat) : Int) 2 = (List.range ((n + 1) / 2)).map fun k => 2 * k + 1 := by
  unfold sliceRange
  have h1 : ((2 : Int) > 0) := by decide
  rw [if_pos h1]
  by_cases h : (1 : Int) < ((n + 1 : Nat) : Int)
  · rw [if_pos h]
    dsimp only
    have e : ((((n + 1 : Nat) : Int) - 1 + 2 - 1) / 2).toNat = (n + 1) / 2 := by omega
    rw [e]
    refine List.map_congr_left fun k _ => ?_
    omega
  · rw [if_neg h]
    have e : n = 0 := by omega
    subst e
    rfl
theorem odd_items {α : Type} : ∀ xs : List α, atAll xs (places (some 1) none (some 2) xs.length) = evs xs.tail
  | [] => rfl
  | x :: r => by
    have e : places (some 1) none (some 2) (x :: r).length = (List.range ((r.length + 1) / 2)).map fun k => 2 * k + 1 := by
      rw [← range_odd r.length]
      unfold places
      congr 1
      show max (0 : Int) (min 1 ((r.length + 1 : Nat) : Int)) = 1
      omega
    rw [e]
    show _ = evs r
    rw [← at_evs r]
    unfold atAll
    rw [List.filterMap_map, List.filterMap_map]
    congr 1
end TL

set_option maxRecDepth 100000
set_option maxHeartbeats 1000000
/-! ### list(zip(xs, ys)) of two lists: what the machine does -/
namespace TL
open PySem PySem.Spec PyProof.Rows L2
section
variable {prog : Program} {w : World} {A : Around} {E : Value → Shared → Prop} {s : Shared} {z TI TO i1 i2 l1 l2 S : Addr} {xs ys : Array Value}
/-- the zip at z behind i items; the list that is filled stands at S -/
structure ZS (h : Heap) (z TI TO i1 i2 l1 l2 S : Addr) (xs ys : Array Value) (i : Nat) : Prop where
  ti : IsPair h TI (.ref i1) (.ref i2)
  n1 : h.IsListIter i1 l1 i
  n2 : h.IsListIter i2 l2 i
  m1 : h.IsList l1 xs
  m2 : h.IsList l2 ys
  st : (IsZip h z TI TO .none ∧ ∃ a b, IsPair h TO a b) ∨ ∃ (t : Addr) (f : Bool) (ot : Obj), IsZipHeld h z TI TO t f ∧ h.get? t = some ot ∧ t ≠ z ∧ t ≠ i1 ∧ t ≠ i2 ∧ t ≠ S
theorem ZS.keep {h h' : Heap} {i : Nat} (x : ZS h z TI TO i1 i2 l1 l2 S xs ys i) (hk : ∀ b o, b ≠ S → h.get? b = some o → h'.get? b = some o) (ne : ∀ b ∈ [z, TI, TO, i1, i2, l1, l2], b ≠ S) : ZS h' z TI TO i1 i2 l1 l2 S xs ys i := by
  obtain ⟨ti, n1, n2, m1, m2, st⟩ := x
  refine ⟨hk _ _ (ne TI (by simp)) ti, n1.at fun o e => hk _ o (ne i1 (by simp)) e, n2.at fun o e => hk _ o (ne i2 (by simp)) e, m1.at fun o e => hk _ o (ne l1 (by simp)) e, m2.at fun o e => hk _ o (ne l2 (by simp)) e, ?_⟩
  rcases st with ⟨q, a, b, t⟩ | ⟨t, f, ot, q, e, r1, r2, r3, r4⟩
  · exact .inl ⟨hk _ _ (ne z (by simp)) q, a, b, hk _ _ (ne TO (by simp)) t⟩
  · exact .inr ⟨t, f, ot, hk _ _ (ne z (by simp)) q, hk _ _ r4 e, r1, r2, r3, r4⟩
theorem zs_item {i : Nat} {x y : Value} {Q : Option Value → Shared → Prop} (D : ZipApart z TI TO i1 i2 l1 l2) (hst : ZS s.heap z TI TO i1 i2 l1 l2 S xs ys i) (hS : S < s.heap.objs.size) (hx : xs[i]? = some x) (hy : ys[i]? = some y)
    (hQ : ∀ h', ZS h' z TI TO i1 i2 l1 l2 S xs ys (i + 1) → IsPair h' s.heap.objs.size x y → h'.objs.size = s.heap.objs.size + 1 → (∀ c o, c ≠ z → c ≠ TO → c ≠ i1 → c ≠ i2 → s.heap.get? c = some o → h'.get? c = some o) →
      Q (some (.ref s.heap.objs.size)) { s with heap := h' }) : wpAny (model prog w) A (pyNext (.ref z)) Q E s := by
  obtain ⟨ti, n1, n2, m1, m2, st⟩ := hst
  have lt : ∀ {c : Addr} {o : Obj}, s.heap.get? c = some o → s.heap.objs.size ≠ c := fun e => Nat.ne_of_gt (Heap.lt_size e)
  have g1 : s.heap.objs.size ≠ i1 := by obtain ⟨_, e, _⟩ := n1; exact lt e
  have g2 : s.heap.objs.size ≠ i2 := by obtain ⟨_, e, _⟩ := n2; exact lt e
  rcases st with ⟨q, a, b, t⟩ | ⟨t, f, ot, q, e, r1, r2, r3, r4⟩
  · refine wpAny_pyNext_zip_item D q ti t n1 n2 m1 m2 hx hy fun h' a1 a2 a3 a4 a5 a6 hk => hQ h' ⟨hk _ _ D.TIz D.TITO D.TIi1 D.TIi2 ti, a3, a4, m1.at fun o e => hk _ o D.l1z D.l1TO D.l1i1 D.l1i2 e, m2.at fun o e => hk _ o D.l2z D.l2TO D.l2i1 D.l2i2 e, ?_⟩ a5 a6 hk
    exact .inr ⟨_, false, _, a1, a5, lt q, g1, g2, Nat.ne_of_gt hS⟩
  · refine wpAny_pyNext_zip_item_held D q e ti n1 n2 m1 m2 hx hy fun h' a1 a3 a4 a5 a6 hk => hQ h' ⟨hk _ _ D.TIz D.TIi1 D.TIi2 ti, a3, a4, m1.at fun o e => hk _ o D.l1z D.l1i1 D.l1i2 e, m2.at fun o e => hk _ o D.l2z D.l2i1 D.l2i2 e, ?_⟩ a5 a6 fun c o h1 _ h3 h4 e => hk c o h1 h3 h4 e
    exact .inr ⟨t, true, ot, a1, hk t ot r1 r2 r3 e, r1, r2, r3, r4⟩
theorem zs_end {i : Nat} {Q : Option Value → Shared → Prop} (hh : A.handled = none) (D : ZipApart z TI TO i1 i2 l1 l2) (hst : ZS s.heap z TI TO i1 i2 l1 l2 S xs ys i) (hend : xs[i]? = none ∨ ys[i]? = none)
    (hQ : ∀ h', (∀ c o, c ≠ z → c ≠ TO → c ≠ i1 → c ≠ i2 → s.heap.get? c = some o → h'.get? c = some o) → Q none { s with heap := h' }) : wpAny (model prog w) A (pyNext (.ref z)) Q E s := by
  obtain ⟨ti, n1, n2, m1, m2, st⟩ := hst
  rcases st with ⟨q, a, b, t⟩ | ⟨t, f, ot, q, e, r1, r2, r3, r4⟩
  · exact wpAny_pyNext_zip_end hh D q ti t n1 n2 m1 m2 hend hQ
  · exact wpAny_pyNext_zip_end_held hh D q e ti n1 n2 m1 m2 hend fun h' hk => hQ h' fun c o h1 _ h3 h4 e => hk c o h1 h3 h4 e
/-- the tuples made so far -/
structure ZG (xs ys : Array Value) (lo : Nat) (h : Heap) (as : List Addr) : Prop where
  rise : as.Pairwise (· < ·)
  low : ∀ a ∈ as, lo ≤ a
  here : ∀ a ∈ as, a < h.objs.size
  at_ : ∀ (j : Nat) (a : Addr), as[j]? = some a → ∃ x y, xs[j]? = some x ∧ ys[j]? = some y ∧ IsPair h a x y
/-- what list() leaves alone -/
def Off (S z TO i1 i2 b : Addr) : Prop := b ≠ S ∧ b ≠ z ∧ b ≠ TO ∧ b ≠ i1 ∧ b ≠ i2
theorem zipLenNone : typeLookup (.type "zip") "__len__" = pure none := by rw [typeLookup_type, builtinLookup_eq_fast]; kernel_rfl
theorem zipHintNone : typeLookup (.type "zip") "__length_hint__" = pure none := by rw [typeLookup_type, builtinLookup_eq_fast]; kernel_rfl
abbrev listAt (h : Heap) (S : Addr) (acc : Array Value) (c : Nat) : Prop := h.get? S = some { cls := .type "list", dict := none, data := .seq acc c, slots := #[] }
variable {R : Result → Shared → Prop}
theorem zl_loop {lo : Nat} (hh : A.handled = none) (D : ZipApart z TI TO i1 i2 l1 l2) (ne : ∀ b ∈ [z, TI, TO, i1, i2, l1, l2], b ≠ S) (under : ∀ b ∈ [S, z, TO, i1, i2], b < lo) (hn : min xs.size ys.size ≤ sizeLine) (res : Value) {g : Heap}
    (hR : ∀ h' tk acc c as, (∀ b o, Off S z TO i1 i2 b → g.get? b = some o → h'.get? b = some o) → listAt h' S acc c → as.length = min xs.size ys.size → ZG xs ys lo h' as → acc.toList = as.map Value.ref → R (.ok (.ret res)) { s with heap := h', toks := tk }) :
    ∀ (k i : Nat) (h : Heap) (tk c : Nat) (acc : Array Value) (as : List Addr), min xs.size ys.size - i = k → i ≤ min xs.size ys.size → ZS h z TI TO i1 i2 l1 l2 S xs ys i → (∀ b o, Off S z TO i1 i2 b → g.get? b = some o → h.get? b = some o) →
      listAt h S acc c → acc.toList = as.map Value.ref → as.length = i → ZG xs ys lo h as → lo ≤ h.objs.size → codeAny (model prog w) A (.builtin "list.extend.loop" ⟨[.ref S, .ref z, res], []⟩) R { s with heap := h, toks := tk } := by
  have nz : z ≠ S := ne z (by simp)
  have nTO : TO ≠ S := ne TO (by simp)
  have n1 : i1 ≠ S := ne i1 (by simp)
  have n2 : i2 ≠ S := ne i2 (by simp)
  have off : ∀ b, lo ≤ b → b ≠ S ∧ b ≠ z ∧ b ≠ TO ∧ b ≠ i1 ∧ b ≠ i2 := fun b hb => by
    have u : ∀ c, c ∈ [S, z, TO, i1, i2] → b ≠ c := fun c q => Nat.ne_of_gt (Nat.lt_of_lt_of_le (under c q) hb)
    exact ⟨u S (by simp), u z (by simp), u TO (by simp), u i1 (by simp), u i2 (by simp)⟩
  intro k
  induction k with
  | zero =>
    intro i h tk c acc as hk hi st keep hS ha hl G _
    have hin : i = min xs.size ys.size := by omega
    refine codeAny_builtin PySem.F.entry_extend_loop ?_
    rw [Around.under_plainId PySem.F.plain_extend_loop _]
    show wpAny _ A.in1 (pyNext (.ref z) >>= _) _ _ _
    have hend : xs[i]? = none ∨ ys[i]? = none := by
      rcases Nat.le_total xs.size ys.size with q | q
      · exact .inl (Array.getElem?_eq_none (by rw [hin, Nat.min_eq_left q]; exact Nat.le_refl _))
      · exact .inr (Array.getElem?_eq_none (by rw [hin, Nat.min_eq_right q]; exact Nat.le_refl _))
    refine wpAny_bind (zs_end (s := { s with heap := h, toks := tk }) (A := A.in1) hh D st hend fun h' kp => wpAny_pure (hR h' tk acc c as (fun b o q e => kp b o q.2.1 q.2.2.1 q.2.2.2.1 q.2.2.2.2 (keep b o q e)) (kp S _ nz.symm nTO.symm n1.symm n2.symm hS) (by omega) ⟨G.rise, G.low, fun a q => ?_, fun j a q => ?_⟩ ha))
    · obtain ⟨m, hm⟩ := List.getElem?_of_mem q
      obtain ⟨_, _, _, _, e⟩ := G.at_ m a hm
      obtain ⟨_, o2, o3, o4, o5⟩ := off a (G.low a q)
      exact Heap.lt_size (kp a _ o2 o3 o4 o5 e)
    · obtain ⟨x, y, e1, e2, e3⟩ := G.at_ j a q
      obtain ⟨_, o2, o3, o4, o5⟩ := off a (G.low a (List.mem_of_getElem? q))
      exact ⟨x, y, e1, e2, kp a _ o2 o3 o4 o5 e3⟩
  | succ k ih =>
    intro i h tk c acc as hk hi st keep hS ha hl G hlo
    have hx : i < xs.size := by have := Nat.min_le_left xs.size ys.size; omega
    have hy : i < ys.size := by have := Nat.min_le_right xs.size ys.size; omega
    have hsz : acc.size = i := by rw [← Array.length_toList, ha, List.length_map, hl]
    refine codeAny_builtin PySem.F.entry_extend_loop ?_
    rw [Around.under_plainId PySem.F.plain_extend_loop _]
    show wpAny _ A.in1 (pyNext (.ref z) >>= _) _ _ _
    refine wpAny_bind (zs_item (s := { s with heap := h, toks := tk }) D st (Heap.lt_size hS) (Array.getElem?_eq_getElem hx) (Array.getElem?_eq_getElem hy) fun h' st' pr hsize kp => ?_)
    dsimp only at pr hsize kp ⊢
    have hS' := kp S _ nz.symm nTO.symm n1.symm n2.symm hS
    have up : ∀ b o, b ≠ S → h'.get? b = some o → (h'.update S (Obj.mapSeq (·.push (Value.ref h.objs.size)))).get? b = some o := fun b o q e => (Heap.get?_update_other _ _ (Ne.symm q)).trans e
    have nS : h.objs.size ≠ S := Nat.ne_of_gt (Heap.lt_size hS)
    show wpAny _ A.in1 (updateSeq S (·.push (Value.ref h.objs.size)) >>= _) _ _ _
    refine wpAny_bind (wpAny_updateSeq hS' rfl (wpAny_pure ⟨plainId_quiet PySem.F.plain_extend_loop _, ih (i + 1) _ tk _ (acc.push (Value.ref h.objs.size)) (as ++ [h.objs.size]) (by omega) (by omega) (st'.keep up ne)
      (fun b o q e => up b o q.1 (kp b o q.2.1 q.2.2.1 q.2.2.2.1 q.2.2.2.2 (keep b o q e))) (Heap.get?_update_self _ hS' rfl) (by rw [Array.toList_push, ha, List.map_append]; rfl) (by rw [List.length_append, hl]; rfl) ⟨?_, ?_, ?_, ?_⟩ ?_⟩) (by rw [hsz]; omega) (by show (acc.push (Value.ref h.objs.size)).size ≤ sizeLine + 1; rw [Array.size_push, hsz]; omega))
    · refine List.pairwise_append.mpr ⟨G.rise, List.pairwise_singleton _ _, fun a q b r => ?_⟩
      rw [List.mem_singleton.mp r]
      exact G.here a q
    · intro a q
      rcases List.mem_append.mp q with q | q
      · exact G.low a q
      · rw [List.mem_singleton.mp q]; exact hlo
    · intro a q
      rcases List.mem_append.mp q with q | q
      · obtain ⟨m, hm⟩ := List.getElem?_of_mem q
        obtain ⟨_, _, _, _, e⟩ := G.at_ m a hm
        obtain ⟨o1, o2, o3, o4, o5⟩ := off a (G.low a q)
        exact Heap.lt_size (up a _ o1 (kp a _ o2 o3 o4 o5 e))
      · rw [List.mem_singleton.mp q]
        exact Heap.lt_size (up _ _ nS pr)
    · intro j a q
      rcases Nat.lt_or_ge j as.length with hj | hj
      · rw [List.getElem?_append_left hj] at q
        obtain ⟨x, y, e1, e2, e3⟩ := G.at_ j a q
        obtain ⟨o1, o2, o3, o4, o5⟩ := off a (G.low a (List.mem_of_getElem? q))
        exact ⟨x, y, e1, e2, up a _ o1 (kp a _ o2 o3 o4 o5 e3)⟩
      · rw [List.getElem?_append_right hj] at q
        have hj0 : j = as.length := by
          rcases Nat.lt_or_ge (j - as.length) 1 with r | r
          · omega
          · rw [List.getElem?_eq_none (by simpa using r)] at q; cases q
        subst hj0
        have e : h.objs.size = a := by simpa using q
        subst e
        exact ⟨_, _, by rw [hl]; exact Array.getElem?_eq_getElem hx, by rw [hl]; exact Array.getElem?_eq_getElem hy, up _ _ nS pr⟩
    · have q : h.objs.size < (h'.update S (Obj.mapSeq (·.push (Value.ref h.objs.size)))).objs.size := Heap.lt_size (up _ _ nS pr)
      exact Nat.le_trans hlo (Nat.le_of_lt q)
theorem zl_call {Q : Value → Shared → Prop} (hh : A.handled = none) (D : ZipApart z TI TO i1 i2 l1 l2) (hz : IsZip s.heap z TI TO .none) (hTI : IsPair s.heap TI (.ref i1) (.ref i2)) (hTO : ∃ a b, IsPair s.heap TO a b) (h1 : s.heap.IsListIter i1 l1 0) (h2 : s.heap.IsListIter i2 l2 0)
    (m1 : s.heap.IsList l1 xs) (m2 : s.heap.IsList l2 ys) (hn : min xs.size ys.size ≤ sizeLine)
    (hQ : ∀ h' tk acc c as, (∀ b o, b ≠ z → b ≠ TO → b ≠ i1 → b ≠ i2 → s.heap.get? b = some o → h'.get? b = some o) → listAt h' s.heap.objs.size acc c → as.length = min xs.size ys.size → ZG xs ys (s.heap.objs.size + 1) h' as → acc.toList = as.map Value.ref →
      Q (.ref s.heap.objs.size) { s with heap := h', toks := tk }) : wpAny (model prog w) A (call (.type "list") [.ref z]) Q E s := by
  refine callType_codes (Q₁ := fun obj s₁ => obj = .ref s.heap.objs.size ∧ s₁ = { s with heap := s.heap.push { cls := .type "list", data := .seq #[] } }) PySem.F.called_list (PySem.F.typeCall_list_1 _) PySem.F.entry_list_init
    (code_list_new _ ⟨rfl, rfl⟩) fun obj s₁ hs₁ => ?_
  obtain ⟨rfl, rfl⟩ := hs₁
  have hS : (s.heap.push { cls := .type "list", data := .seq #[] }).get? s.heap.objs.size = some { cls := .type "list", data := .seq #[] } := Heap.get?_push_size _ rfl
  refine ⟨⟨_, hS, rfl⟩, PySem.F.args_list_init_2 _ _, ?_⟩
  have lz : z < s.heap.objs.size := Heap.lt_size hz
  have lTI : TI < s.heap.objs.size := Heap.lt_size hTI
  have lTO : TO < s.heap.objs.size := by obtain ⟨_, _, e⟩ := hTO; exact Heap.lt_size e
  have li1 : i1 < s.heap.objs.size := by obtain ⟨_, e, _⟩ := h1; exact Heap.lt_size e
  have li2 : i2 < s.heap.objs.size := by obtain ⟨_, e, _⟩ := h2; exact Heap.lt_size e
  have ll1 : l1 < s.heap.objs.size := by obtain ⟨_, e, _⟩ := m1; exact Heap.lt_size e
  have ll2 : l2 < s.heap.objs.size := by obtain ⟨_, e, _⟩ := m2; exact Heap.lt_size e
  generalize hSS : s.heap.objs.size = S at *
  have ne : ∀ b ∈ [z, TI, TO, i1, i2, l1, l2], b ≠ S := fun b hb => by
    simp only [List.mem_cons, List.not_mem_nil, or_false] at hb
    rcases hb with rfl | rfl | rfl | rfl | rfl | rfl | rfl <;> exact Nat.ne_of_lt (by assumption)
  have under : ∀ b ∈ [S, z, TO, i1, i2], b < S + 1 := fun b hb => by
    simp only [List.mem_cons, List.not_mem_nil, or_false] at hb
    rcases hb with rfl | rfl | rfl | rfl | rfl <;> first | exact Nat.lt_succ_self _ | exact Nat.lt_succ_of_lt (by assumption)
  have p0 : ∀ b o, s.heap.get? b = some o → (s.heap.push { cls := .type "list", data := .seq #[] }).get? b = some o := fun b o e => Heap.get?_push_of_some _ e
  have st0 : ZS s.heap z TI TO i1 i2 l1 l2 S xs ys 0 := ⟨hTI, h1, h2, m1, m2, .inl ⟨hz, hTO⟩⟩
  have tz : ∀ {h : Heap} {g : Array GenState} {d : Drawn} {tk : Nat} {os : OsState}, (∀ b o, b ≠ S → s.heap.get? b = some o → h.get? b = some o) → (⟨h, g, d, tk, os⟩ : Shared).TypeIs (.ref z) "zip" := fun kp => ⟨_, kp z _ (ne z (by simp)) hz, rfl⟩
  have zS : S ≠ z := (ne z (by simp)).symm
  -- from any heap that keeps all but the new list
  have go : ∀ (h : Heap) (c tk : Nat), (∀ b o, b ≠ S → s.heap.get? b = some o → h.get? b = some o) → listAt h S #[] c → codeAny (model prog w) A.in1 (.builtin "list.extend.loop" ⟨[.ref S, .ref z, .none], []⟩) (fun r s' => r = .ok (.ret .none) ∧ Q (.ref S) s') { s with heap := h, toks := tk } := fun h c tk kp hl => by
    refine zl_loop (A := A.in1) (lo := S + 1) hh D ne under hn .none (g := s.heap) (fun h' tk' acc c' as k1 k2 k3 k4 k5 => ⟨rfl, hQ h' tk' acc c' as (fun b o q1 q2 q3 q4 e => k1 b o ⟨Nat.ne_of_lt (by rw [← hSS]; exact Heap.lt_size e), q1, q2, q3, q4⟩ e) k2 k3 k4 k5⟩)
      (min xs.size ys.size) 0 h tk c #[] [] (Nat.sub_zero _) (Nat.zero_le _) (st0.keep kp ne) (fun b o q e => kp b o q.1 e) hl rfl rfl ⟨.nil, (fun _ q => nomatch q), (fun _ q => nomatch q), (fun j a q => by simp at q)⟩ ?_
    exact Heap.lt_size hl
  show wpAny (model prog w) A.in1.in1 (do let old ← Builtin.List.listItems (.ref S); Builtin.List.listUpdate (.ref S) (fun _ => #[]); letGo old.toList.reverse; Builtin.List.listExtendWith (.ref S) (.ref z) .none) _ _ _
  refine wpAny_bind ?_
  unfold Builtin.List.listItems
  refine wpAny_bind (wpAny_seqItems hS rfl (wpAny_pure ?_))
  show wpAny _ _ (updateSeq S (fun _ => #[]) >>= fun _ => letGo (#[] : Array Value).toList.reverse >>= fun _ => Builtin.List.listExtendWith (.ref S) (.ref z) .none) _ _ _
  refine wpAny_bind (wpAny_updateSeq hS rfl ?_)
  have e1 := Heap.get?_update_self (Obj.mapSeq (fun _ => (#[] : Array Value))) hS rfl
  have k1 : ∀ b o, b ≠ S → s.heap.get? b = some o → ((s.heap.push { cls := .type "list", data := .seq #[] }).update S (Obj.mapSeq (fun _ => (#[] : Array Value)))).get? b = some o := fun b o q e => (Heap.get?_update_other _ _ (Ne.symm q)).trans (p0 b o e)
  refine wpAny_bind (wpAny_letGo ?_)
  unfold Builtin.List.listExtendWith
  refine wpAny_bind (wpAny_typeOf (tz k1) ?_)
  have d1 : Builtin.List.listSameRef (.ref S) (.ref z) = false := by simp [Builtin.List.listSameRef, zS]
  have d2 : (Value.type "zip" == Value.type "list") = false := by decide
  have d3 : (Value.type "zip" == Value.type "tuple") = false := by decide
  simp only [d1, d2, d3, Bool.or_false, Bool.false_eq_true, if_false]
  refine wpAny_bind (wpAny_pyIter_zip (k1 z _ (ne z (by simp)) hz) ?_)
  refine wpAny_bind (wpAny_holding ?_)
  unfold Builtin.List.listLengthHint
  refine wpAny_bind (wpAny_specialOf (tz k1) zipLenNone ?_)
  show wpAny _ _ (specialOf (Value.ref z) (Str.ofString "__length_hint__") >>= _) _ _ _
  refine wpAny_bind (wpAny_specialOf (tz k1) zipHintNone ?_)
  refine wpAny_pure ?_
  refine wpAny_ite_split (fun _ => ?_) (fun _ => wpAny_pure ⟨plainId_quiet PySem.F.plain_extend_loop _, codeAny_mono (go _ _ _ k1 e1) fun r s' ⟨er, q⟩ => by subst er; exact ⟨rfl, q⟩⟩)
  refine wpAny_bind (wpAny_rule ?_)
  refine wpAny_bind ?_
  show wpAny _ _ (updateSeq S (·.push .none) >>= fun _ => updateSeq S (·.pop)) _ _ _
  refine wpAny_bind (wpAny_updateSeq e1 rfl ?_)
  have e2 := Heap.get?_update_self (Obj.mapSeq (·.push Value.none)) e1 rfl
  refine wpAny_updateSeq e2 rfl ?_
  have e3 := Heap.get?_update_self (Obj.mapSeq (·.pop)) e2 rfl
  refine wpAny_pure ⟨plainId_quiet PySem.F.plain_extend_loop _, codeAny_mono (go _ _ _ (fun b o q e => ?_) e3) fun r s' ⟨er, q⟩ => by subst er; exact ⟨rfl, q⟩⟩
  exact (Heap.get?_update_other _ _ (Ne.symm q)).trans ((Heap.get?_update_other _ _ (Ne.symm q)).trans (k1 b o q e))
end
end TL

set_option maxRecDepth 100000
set_option maxHeartbeats 1000000
/-! ### list(zip(xs, ys)) as an expression -/
namespace TL
open PySem PySem.Spec PyProof.Rows L2
/-- the pairs stand at their addresses -/
def putP : Hp → List Addr → List (V × V) → Hp
  | H, t :: ts, q :: qs => putP (upd H t (.tup [q.1, q.2])) ts qs
  | H, _, _ => H
theorem putP_off {b : Addr} : ∀ {ts : List Addr} {qs : List (V × V)} {H : Hp}, b ∉ ts → putP H ts qs b = H b
  | [], _, _, _ => rfl
  | _ :: _, [], _, _ => rfl
  | t :: ts, q :: qs, H, h => by
    exact (putP_off (ts := ts) (qs := qs) fun q => h (List.mem_cons_of_mem _ q)).trans (upd_ne fun q => h (by rw [q]; exact List.mem_cons_self))
theorem putP_at : ∀ {ts : List Addr} {qs : List (V × V)} {H : Hp}, ts.Nodup → ∀ (j : Nat) (t : Addr) (q : V × V), ts[j]? = some t → qs[j]? = some q → putP H ts qs t = some (.tup [q.1, q.2])
  | [], _, _, _, j, t, q, e, _ => by simp at e
  | _ :: _, [], _, _, j, t, q, _, e => by simp at e
  | a :: ts, x :: qs, H, hn, 0, t, q, e1, e2 => by
    have e1 : a = t := by simpa using e1
    have e2 : x = q := by simpa using e2
    subst e1 e2
    exact (putP_off (List.nodup_cons.mp hn).1).trans upd_same
  | a :: ts, x :: qs, H, hn, j + 1, t, q, e1, e2 => putP_at (List.nodup_cons.mp hn).2 j t q (by simpa using e1) (by simpa using e2)
def tZipL (K : Frag) (ta : TA) : TE := fun σ H Q => ta σ H fun vs H1 => ∃ (a b : Addr) (xs ys : List V), vs = [.ref a, .ref b] ∧ SqL K H1 a xs ∧ SqL K H1 b ys ∧
  ∀ (p : Addr) (ts : List Addr), H1 p = none → (∀ t ∈ ts, H1 t = none) → p ∉ ts → ts.Nodup → ts.length = (xs.zip ys).length → Q (.ref p) (putP (upd H1 p (.lst (ts.map V.ref))) ts (xs.zip ys))
theorem refs_vals : ∀ ts : List Addr, Vals (ts.map V.ref) (ts.map Value.ref)
  | [] => .nil
  | _ :: ts => .cons rfl (refs_vals ts)
/-- what was laid is tracked at once -/
theorem zl_laid {X : Cx} {pins : List (Addr × Obj)} {σ : Sg} {H : Hp} {s : Shared} {h' : Heap} {tk c : Nat} {S : Addr} {acc us ws : Array Value} {xs ys : List V} {ts : List Addr} {lo : Nat} (I : Inv X pins σ H s) (rx : Vals xs us.toList) (ry : Vals ys ws.toList)
    (hz : min us.size ws.size ≤ sizeLine) (hk : ∀ b o, s.heap.get? b = some o → h'.get? b = some o) (hS : s.heap.objs.size ≤ S) (hlo : S < lo) (hl : listAt h' S acc c) (hn : ts.length = min us.size ws.size) (G : ZG us ws lo h' ts) (ha : acc.toList = ts.map Value.ref) :
    H S = none ∧ (∀ t ∈ ts, H t = none) ∧ S ∉ ts ∧ ts.Nodup ∧ ts.length = (xs.zip ys).length ∧ Inv X pins σ (putP (upd H S (.lst (ts.map V.ref))) ts (xs.zip ys)) { s with heap := h', toks := tk } := by
  have lx : xs.length = us.size := by rw [← Array.length_toList]; exact rx.length
  have ly : ys.length = ws.size := by rw [← Array.length_toList]; exact ry.length
  have nS : S ∉ ts := fun q => Nat.lt_irrefl _ (Nat.lt_of_lt_of_le hlo (G.low _ q))
  have nd : ts.Nodup := G.rise.imp fun q => Nat.ne_of_lt q
  have lowS : ∀ t ∈ ts, s.heap.objs.size ≤ t := fun t q => Nat.le_trans hS (Nat.le_of_lt (Nat.lt_of_lt_of_le hlo (G.low t q)))
  have fT : ∀ t ∈ ts, H t = none := fun t q => I.hok.fresh (lowS t q)
  have fS : H S = none := I.hok.fresh hS
  have len : ts.length = (xs.zip ys).length := by rw [List.length_zip, lx, ly]; exact hn
  refine ⟨fS, fT, nS, nd, len, ?_⟩
  have off : ∀ b, b ∉ ts → b ≠ S → putP (upd H S (.lst (ts.map V.ref))) ts (xs.zip ys) b = H b := fun b h1 h2 => (putP_off h1).trans (upd_ne h2)
  have kp : ∀ b u, H b = some u → putP (upd H S (.lst (ts.map V.ref))) ts (xs.zip ys) b = some u := fun b u e => by
    rw [off b (fun q => by rw [fT b q] at e; cases e) (fun q => by rw [q, fS] at e; cases e)]
    exact e
  have low : ∀ b o, s.heap.get? b = some o → b ∉ ts ∧ b ≠ S := fun b o e => ⟨fun q => Nat.lt_irrefl _ (Nat.lt_of_lt_of_le (Heap.lt_size e) (lowS b q)), Nat.ne_of_lt (Nat.lt_of_lt_of_le (Heap.lt_size e) hS)⟩
  refine I.call' (ch := []) rfl ⟨fun b o q _ _ _ => hk b o q, fun b o q _ _ _ => ⟨o.slots, hk b o q⟩, fun b o q n _ => ?_, fun b o q _ => ⟨o, hk b o q⟩, fun b xs q => kp b _ q, fun b o u q => kp b _ q, fun b ps q => ⟨#[], by rw [kp b _ q]; simp⟩⟩ (fun b u q => ?_) I.bare fun b q => nomatch q
  · obtain ⟨q1, q2⟩ := low b o q
    rw [off b q1 q2]
    exact n
  · by_cases hb : b ∈ ts
    · obtain ⟨j, hj⟩ := List.getElem?_of_mem hb
      obtain ⟨x, y, e1, e2, e3⟩ := G.at_ j b hj
      have hj2 : j < ts.length := (List.getElem?_eq_some_iff.mp hj).1
      have jx : j < xs.length := by rw [len, List.length_zip] at hj2; omega
      have jy : j < ys.length := by rw [len, List.length_zip] at hj2; omega
      have z : (xs.zip ys)[j]? = some (xs[j], ys[j]) := by rw [List.getElem?_zip_eq_some]; exact ⟨List.getElem?_eq_getElem jx, List.getElem?_eq_getElem jy⟩
      rw [putP_at nd j b _ hj z] at q
      cases q
      obtain ⟨ux, g1, v1⟩ := rx.get (List.getElem?_eq_getElem jx)
      obtain ⟨uy, g2, v2⟩ := ry.get (List.getElem?_eq_getElem jy)
      rw [Array.getElem?_toList, e1] at g1
      rw [Array.getElem?_toList, e2] at g2
      cases g1
      cases g2
      exact ⟨show 2 ≤ sizeLine by decide, [x, y], .cons v1 (.cons v2 .nil), _, e3, rfl, _, rfl⟩
    · by_cases hb2 : b = S
      · subst hb2
        rw [putP_off hb, upd_same] at q
        cases q
        refine ⟨by rw [List.length_map, hn]; exact hz, acc.toList, c, by rw [ha]; exact refs_vals ts, ?_⟩
        rw [Array.toArray_toList]
        exact hl
      · rw [off b hb hb2] at q
        exact (I.hok b u q).stay (fun d v _ y => hk d v y) (fun d y => kp d _ y) fun d xs y => kp d _ y
theorem pe_zipL {X : Cx} {e e2 : Expr} {ta : TA} {p p2 pos pos2 : Pos} (hc : X.calm = true) (hg : Gl X "list") (hm : X.mg "list" = none) (hv : bootBuiltins "list" = some (.type "list")) (hgz : Gl X "zip") (hmz : X.mg "zip" = none) (ha : PA X [e, e2] ta)
    (hs : starEach [.Call (.Name "zip" p2) [e, e2] [] pos2] X.env = (false, eval (.Call (.Name "zip" p2) [e, e2] [] pos2) X.env) :: starEach [] X.env := by rfl)
    (hs2 : starEach [e, e2] X.env = (false, eval e X.env) :: starEach [e2] X.env := by rfl) (hpl : (backTo pos2 (starEach [e2] X.env)).any (·.1) = false := by rfl) :
    PE X (.Call (.Name "list" p) [.Call (.Name "zip" p2) [e, e2] [] pos2] [] pos) (tZipL X.K ta) := by
  refine ⟨fun pins s σ H Q I hq => ?_⟩
  refine wpAny_Call_Name_kw (ld_blt I hg hm hv ?_)
  refine PyProof.Rows.callWith_type1 ?_ hs rfl
  rw [hs]
  show wpAny _ _ (spliced ((false, eval (.Call (.Name "zip" p2) [e, e2] [] pos2) X.env) :: backTo pos (starEach [] X.env))) _ _ s
  refine Calls.spliced_cons ?_
  refine Call_ (ld_blt I hgz hmz PyProof.Rows.boot_zip (PyProof.Rows.callWith_type1 (thn (ha.run pos2 pins s σ H _ I hq) fun us s1 ⟨vs, H1, I1, r1, q1⟩ => ?_) hs2 hpl))
  obtain ⟨a, b, xs, ys, ex, hx, hy, q⟩ := q1
  subst ex
  obtain ⟨u1, u2, rfl, g1, g2⟩ := vals2 r1
  obtain rfl : u1 = Value.ref a := g1
  obtain rfl : u2 = Value.ref b := g2
  obtain ⟨i1, rv1, m1, z1⟩ := I1.list hx
  obtain ⟨i2, rv2, m2, z2⟩ := I1.list hy
  have la : a < s1.heap.objs.size := m1.lt
  have lb : b < s1.heap.objs.size := m2.lt
  refine call_zip_2 m1.isList m2.isList fun h' hz hTI hTO h1 h2 hsz hk => ?_
  refine Calls.spliced_nil ?_
  have sz : i1.toArray.size = xs.length := by rw [List.size_toArray]; exact rv1.length.symm
  have lz : min i1.toArray.size i2.toArray.size ≤ sizeLine := Nat.le_trans (Nat.min_le_left _ _) (by rw [sz]; exact z1)
  refine zl_call (I1.ok.hd hc) (PySem.W.ktu_apart s1.heap.objs.size a b la lb) hz hTI ⟨_, _, hTO⟩ h1 h2 (m1.isList.at fun o e => hk _ o e) (m2.isList.at fun o e => hk _ o e) lz fun h2 tk acc c ts k1 k2 k3 k4 k5 => ?_
  have far : ∀ b o, s1.heap.get? b = some o → b ≠ s1.heap.objs.size + 4 ∧ b ≠ s1.heap.objs.size + 3 ∧ b ≠ s1.heap.objs.size ∧ b ≠ s1.heap.objs.size + 1 := fun b o e => by
    have q : b < s1.heap.objs.size := Heap.lt_size e
    exact ⟨Nat.ne_of_lt (Nat.lt_of_lt_of_le q (Nat.le_add_right _ _)), Nat.ne_of_lt (Nat.lt_of_lt_of_le q (Nat.le_add_right _ _)), Nat.ne_of_lt q, Nat.ne_of_lt (Nat.lt_of_lt_of_le q (Nat.le_add_right _ _))⟩
  obtain ⟨f1, f2, f3, f4, f5, J⟩ := zl_laid (tk := tk) (S := h'.objs.size) (lo := h'.objs.size + 1) I1 (us := i1.toArray) (ws := i2.toArray) rv1 rv2 lz (fun b o e => by
    obtain ⟨q1, q2, q3, q4⟩ := far b o e
    exact k1 b o q1 q2 q3 q4 (hk b o e)) (by rw [hsz]; exact Nat.le_add_right _ _) (Nat.lt_succ_self _) k2 k3 k4 k5
  exact ⟨.ref _, _, J, rfl, q _ ts f1 f2 f3 f4 f5⟩
/-! over trees -/
def gZipL : List T → (T → Prop) → Prop
  | [.lst _ xs, .lst _ ys], Q => (closedL xs = true ∧ closedL ys = true) ∧ Q (.lst true ((xs.zip ys).map fun q => .tup [q.1, q.2]))
  | _, _ => False
theorem gro_pairs {B H : Hp} {p : Addr} {us : List V} {ts : List Addr} {qs : List (V × V)} (hs : Sub B H) (hp : H p = none) (ht : ∀ t ∈ ts, H t = none) (hpt : p ∉ ts) (hn : ts.Nodup) (hl : ts.length = qs.length) :
    Gro B H (putP B ts qs) (putP (upd H p (.lst us)) ts qs) [p] := by
  have old : ∀ b, H b ≠ none → b ∉ ts ∧ b ≠ p := fun b hb => ⟨fun q => hb (ht b q), fun q => hb (by rw [q]; exact hp)⟩
  have some_ne : ∀ {b o}, H b = some o → H b ≠ none := fun e q => by rw [e] at q; cases q
  have at_ : ∀ b o, H b = some o → putP (upd H p (.lst us)) ts qs b = some o := fun b o e => by
    obtain ⟨q1, q2⟩ := old b (some_ne e)
    exact (putP_off q1).trans ((upd_ne q2).trans e)
  refine ⟨at_, fun b o e => .inl ((putP_off (old b (some_ne (hs b o e))).1).trans e), fun b o e => ?_, fun b hb => putP_off (old b hb).1, fun a => ⟨by simp only [List.count_singleton]; split <;> omega, fun q => ?_⟩⟩
  · by_cases hb : b ∈ ts
    · obtain ⟨j, hj⟩ := List.getElem?_of_mem hb
      have jq : j < qs.length := by rw [← hl]; exact (List.getElem?_eq_some_iff.mp hj).1
      rw [putP_at hn j b _ hj (List.getElem?_eq_getElem jq)] at e ⊢
      exact e
    · rw [putP_off hb] at e
      exact at_ b o (hs b o e)
  · obtain rfl : a = p := by simpa using q
    refine ⟨hp, ?_, (putP_off hpt).trans (hs.none hp)⟩
    rw [putP_off hpt, upd_same]
    exact fun z => nomatch z
theorem rp_pairs {K : Frag} {B H : Hp} : ∀ {ts : List Addr} {xs ys : List V} {us ws : List T}, ts.length = (xs.zip ys).length → (∀ (j : Nat) (t : Addr) (q : V × V), ts[j]? = some t → (xs.zip ys)[j]? = some q → B t = some (.tup [q.1, q.2])) →
    RpL K B H xs us [] → RpL K B H ys ws [] → RpL K B H (ts.map V.ref) ((us.zip ws).map fun q => T.tup [q.1, q.2]) []
  | [], [], _, us, ws, _, _, rx, _ => by
    cases rx
    exact .nil
  | [], x :: xs, [], us, ws, _, _, _, ry => by
    cases ry
    rw [List.zip_nil_right]
    exact .nil
  | [], x :: xs, y :: ys, _, _, hl, _, _, _ => by simp at hl
  | _ :: _, [], _, _, _, hl, _, _, _ => by simp at hl
  | _ :: _, _ :: _, [], _, _, hl, _, _, _ => by simp at hl
  | t :: ts, x :: xs, y :: ys, us, ws, hl, h, rx, ry => by
    cases us with
    | nil => have := rx.length; simp at this
    | cons u us =>
      cases ws with
      | nil => have := ry.length; simp at this
      | cons w ws =>
        obtain ⟨F1, F2, e1, r1, r2⟩ := RpL.one rx
        obtain ⟨G1, G2, e2, g1, g2⟩ := RpL.one ry
        obtain ⟨rfl, rfl⟩ := List.append_eq_nil_iff.mp e1.symm
        obtain ⟨rfl, rfl⟩ := List.append_eq_nil_iff.mp e2.symm
        have ih := rp_pairs (ts := ts) (by simpa using hl) (fun j t q a b => h (j + 1) t q (by simpa using a) (by simpa using b)) r2 g2
        have b0 : B t = some (.tup [x, y]) := h 0 t (x, y) rfl rfl
        exact RpL.cons (F := []) (G := []) (.tup (.inl (.inl b0)) (RpL.cons (F := []) (G := []) r1 (RpL.cons (F := []) (G := []) g1 .nil))) ih
theorem rf_zipL {K : Frag} {ta : TA} {wa : WA} (ha : RfA K ta wa) : RfE K (tZipL K ta) (wCl gZipL wa) := fun Δ Q σ H B R hr hw Qv k => by
  refine ha Δ _ σ H B R hr hw _ fun ps Δ1 vs H1 B1 q hl hk ⟨G, pr, hr1⟩ => ?_
  obtain ⟨ts, F, rL, q2⟩ := pr.trees hr1 q
  match ts, rL, q2 with
  | [.lst _ us, .lst _ ws], .cons r1 (.cons r2 .nil), q2 =>
    obtain ⟨a, xs, F1, rfl, h1, e1⟩ := r1.lst_inv hr1.sub
    obtain ⟨b, ys, F2, rfl, h2, e2⟩ := r2.lst_inv hr1.sub
    have c1 := e1.c0 q2.1.1
    have c2 := e2.c0 q2.1.2
    refine ⟨a, b, xs, ys, rfl, h1, h2, fun p as hp has hpa hnd hlen => ?_⟩
    have g : Gro B1 H1 (putP B1 as (xs.zip ys)) (putP (upd H1 p (.lst (as.map V.ref))) as (xs.zip ys)) [p] := gro_pairs hr1.sub hp has hpa hnd hlen
    have hr2 : Rep K B1 H1 R σ Δ1 := hr1.drop
    refine k (.val _) Δ1 _ _ _ q2.2 (hl.trans g.2.1) (hk.trans (hr2.keepExt g.1)) ⟨[p], ?_, hr2.gro g⟩
    refine .lstO (by rw [putP_off hpa, upd_same]) ?_
    exact rp_pairs hlen (fun j t z a b => putP_at hnd j t z a b) (c1.mono g.2.1 fun _ z => nomatch z) (c2.mono g.2.1 fun _ z => nomatch z)
theorem ce_zipL {X : Cx} {e e2 : Expr} {wa : WA} {p p2 pos pos2 : Pos} (hc : X.calm = true) (hg : Gl X "list") (hm : X.mg "list" = none) (hv : bootBuiltins "list" = some (.type "list")) (hgz : Gl X "zip") (hmz : X.mg "zip" = none) (ha : CA X [e, e2] wa)
    (hs : starEach [.Call (.Name "zip" p2) [e, e2] [] pos2] X.env = (false, eval (.Call (.Name "zip" p2) [e, e2] [] pos2) X.env) :: starEach [] X.env := by rfl)
    (hs2 : starEach [e, e2] X.env = (false, eval e X.env) :: starEach [e2] X.env := by rfl) (hpl : (backTo pos2 (starEach [e2] X.env)).any (·.1) = false := by rfl) :
    CE X (.Call (.Name "list" p) [.Call (.Name "zip" p2) [e, e2] [] pos2] [] pos) (wCl gZipL wa) := by
  obtain ⟨ta, pa, ra⟩ := ha
  exact ⟨_, pe_zipL hc hg hm hv hgz hmz pa hs hs2 hpl, rf_zipL ra⟩
end TL

set_option maxRecDepth 100000
set_option maxHeartbeats 1000000
namespace TL
open PySem PySem.Spec PyProof.Rows L2

/-! ### a list walked to its end while an exception is handled -/
section
variable {prog : Program} {w : World} {A : Around} {E : Value → Shared → Prop} {s : Shared}
theorem list_end_hot {it l x1 : Addr} {i : Nat} {its : Array Value} {Q : Option Value → Shared → Prop} (hot : HotX.HotAt A x1 s.heap) (ne : x1 ≠ it) (st : s.heap.IsListIter it l i) (hl : s.heap.IsList l its) (hx : its[i]? = none)
    (q : ∀ h', (∀ b o, b ≠ it → s.heap.get? b = some o → h'.get? b = some o) → Q none { s with heap := h' }) : wpAny (model prog w) A (pyNext (.ref it)) Q E s := by
  obtain ⟨oi, ei, _, di⟩ := id st
  obtain ⟨ol, el, _, nl, dl⟩ := hl
  obtain ⟨hh, o1, vs1, e1, d1, c1⟩ := hot
  unfold pyNext
  apply wpAny_bind
  apply wpAny_attempt
  apply wpAny_callSpecial?_slot (name := Str.ofString "__next__") st.typeIs PySem.slot_listiter_next
  apply wpAny_call_entry PySem.slot_listiter_next st.typeIs PySem.entry_listiter_next _ (PySem.args_listiter_next _)
  show wpAny _ _ (field (.ref it) 0 >>= _) _ _ s
  apply wpAny_bind
  apply wpAny_field ei di (x := .ref l) rfl
  show wpAny _ _ (if (Value.ref l == Value.none) = true then _ else _) _ _ s
  rw [if_neg (show ¬ ((Value.ref l == Value.none) = true) from Bool.false_ne_true)]
  show wpAny _ _ (field (.ref it) 1 >>= _) _ _ s
  apply wpAny_bind
  apply wpAny_field ei di (x := .int i 0) rfl
  show wpAny _ _ (seqItems? (.ref l) >>= _) _ _ s
  apply wpAny_bind
  apply wpAny_seqItems el dl
  simp only [Int.toNat_natCast, hx]
  apply wpAny_bind
  apply wpAny_rule
  apply wpAny_bind
  refine wpAny_setField ei di (by simp) ?_
  show wpAny _ _ (newExc (.type "StopIteration") [] >>= _) _ _ _
  apply wpAny_bind
  simp only [newExc, newTuple]
  apply wpAny_bind
  refine wpAny_newObj_type ?_ (by size_fits)
  refine wpAny_bind (m := firstArgMember _ _) (wpAny_of_eq (a := Value.none) (by first | rfl | (simp only [firstArgMember]; rfl)) ?_)
  refine wpAny_newObj_type ?_ (by size_fits)
  have keep : ∀ b o, b ≠ it → s.heap.get? b = some o → (s.heap.update it (Obj.mapFields fun x => x.setIfInBounds 0 Value.none)).get? b = some o := fun b o hb z => (Heap.get?_update_other _ _ (Ne.symm hb)).trans z
  have x1k := Heap.get?_push_of_some (h := s.heap.update it (Obj.mapFields fun x => x.setIfInBounds 0 Value.none)) { cls := .type "tuple", data := .seq (#[] : Array Value) } (keep x1 o1 ne e1)
  refine HotX.raiseNew_hot ⟨hh, o1, vs1, Heap.get?_push_of_some _ x1k, d1, c1⟩ (Nat.ne_of_lt (Heap.lt_size x1k)) (Heap.get?_push_size _ rfl) rfl (by first | (simp; done) | (simp; omega) | (simp only [Array.size_append]; simp; omega)) ?_
  apply wpAny_bind
  refine wpAny_isInstance (T := "StopIteration") (b := true) ⟨_, Heap.get?_update_self _ (Heap.get?_push_size _ rfl) rfl, rfl⟩ isSubtype_stop ?_
  refine wpAny_pure (q _ fun b o hb z => ?_)
  have z2 := Heap.get?_push_of_some (h := s.heap.update it (Obj.mapFields fun x => x.setIfInBounds 0 Value.none)) { cls := .type "tuple", data := .seq (#[] : Array Value) } (keep b o hb z)
  rw [Heap.get?_update_other _ _ (Nat.ne_of_gt (Heap.lt_size z2))]
  exact Heap.get?_push_of_some _ z2

/-! ### a tuple walked to its end, unpacked -/
theorem tup_end_hot {it l x1 : Addr} {i : Nat} {its : Array Value} {Q : Option Value → Shared → Prop} (hot : HotX.HotAt A x1 s.heap) (ne : x1 ≠ it) (st : PyProof.Rows.IsTupIter s.heap it l i) (hl : IsTup s.heap l its) (hx : its[i]? = none)
    (q : ∀ h', (∀ b o, b ≠ it → s.heap.get? b = some o → h'.get? b = some o) → Q none { s with heap := h' }) : wpAny (model prog w) A (pyNext (.ref it)) Q E s := by
  obtain ⟨oi, ei, _, di⟩ := id st
  obtain ⟨ol, el, _, nl, dl⟩ := hl
  obtain ⟨hh, o1, vs1, e1, d1, c1⟩ := hot
  unfold pyNext
  apply wpAny_bind
  apply wpAny_attempt
  apply wpAny_callSpecial?_slot (name := Str.ofString "__next__") st.typeIs PyProof.Rows.slot_tupleiter_next
  apply wpAny_call_entry PyProof.Rows.slot_tupleiter_next st.typeIs PyProof.Rows.entry_tupleiter_next _ (PyProof.Rows.args_tupleiter_next _)
  show wpAny _ _ (field (.ref it) 0 >>= _) _ _ s
  apply wpAny_bind
  apply wpAny_field ei di (x := .ref l) rfl
  show wpAny _ _ (if (Value.ref l == Value.none) = true then _ else _) _ _ s
  rw [if_neg (show ¬ ((Value.ref l == Value.none) = true) from Bool.false_ne_true)]
  show wpAny _ _ (field (.ref it) 1 >>= _) _ _ s
  apply wpAny_bind
  apply wpAny_field ei di (x := .int i 0) rfl
  show wpAny _ _ (seqItems? (.ref l) >>= _) _ _ s
  apply wpAny_bind
  apply wpAny_seqItems el dl
  simp only [Int.toNat_natCast, hx]
  apply wpAny_bind
  apply wpAny_rule
  apply wpAny_bind
  refine wpAny_setField ei di (by simp) ?_
  show wpAny _ _ (newExc (.type "StopIteration") [] >>= _) _ _ _
  apply wpAny_bind
  simp only [newExc, newTuple]
  apply wpAny_bind
  refine wpAny_newObj_type ?_ (by size_fits)
  refine wpAny_bind (m := firstArgMember _ _) (wpAny_of_eq (a := Value.none) (by first | rfl | (simp only [firstArgMember]; rfl)) ?_)
  refine wpAny_newObj_type ?_ (by size_fits)
  have keep : ∀ b o, b ≠ it → s.heap.get? b = some o → (s.heap.update it (Obj.mapFields fun x => x.setIfInBounds 0 Value.none)).get? b = some o := fun b o hb z => (Heap.get?_update_other _ _ (Ne.symm hb)).trans z
  have x1k := Heap.get?_push_of_some (h := s.heap.update it (Obj.mapFields fun x => x.setIfInBounds 0 Value.none)) { cls := .type "tuple", data := .seq (#[] : Array Value) } (keep x1 o1 ne e1)
  refine HotX.raiseNew_hot ⟨hh, o1, vs1, Heap.get?_push_of_some _ x1k, d1, c1⟩ (Nat.ne_of_lt (Heap.lt_size x1k)) (Heap.get?_push_size _ rfl) rfl (by first | (simp; done) | (simp; omega) | (simp only [Array.size_append]; simp; omega)) ?_
  apply wpAny_bind
  refine wpAny_isInstance (T := "StopIteration") (b := true) ⟨_, Heap.get?_update_self _ (Heap.get?_push_size _ rfl) rfl, rfl⟩ isSubtype_stop ?_
  refine wpAny_pure (q _ fun b o hb z => ?_)
  have z2 := Heap.get?_push_of_some (h := s.heap.update it (Obj.mapFields fun x => x.setIfInBounds 0 Value.none)) { cls := .type "tuple", data := .seq (#[] : Array Value) } (keep b o hb z)
  rw [Heap.get?_update_other _ _ (Nat.ne_of_gt (Heap.lt_size z2))]
  exact Heap.get?_push_of_some _ z2
theorem unpack_hot {t x1 : Addr} {its : Array Value} {tgs : List (Bool × (Value → Sem Unit))} {Q : Unit → Shared → Prop} (hot : HotX.HotAt A x1 s.heap) (ht : IsTup s.heap t its) (hn : tgs.length = its.size) (hstar : tgs.findIdx? (·.1) = none)
    (h : ∀ h', (∀ b o, s.heap.get? b = some o → h'.get? b = some o) → wpAny (model prog w) A (assignInOrder (tgs.map (·.2)) its.toList) Q E { s with heap := h' }) : wpAny (model prog w) A (unpack (.ref t) tgs) Q E s := by
  obtain ⟨hh, o1, vs1, e1, d1, c1⟩ := hot
  have new : t ≠ s.heap.objs.size := by
    obtain ⟨o, z, _⟩ := ht
    exact Nat.ne_of_lt (Heap.lt_size z)
  unfold unpack
  rw [hn, hstar]
  apply wpAny_bind
  apply wpAny_holding
  unfold unpackItems
  apply wpAny_bind
  unfold notIterableAtAll
  apply wpAny_bind
  apply wpAny_specialOf ht.typeIs PyProof.Rows.slot_tuple_iter.lookup
  apply wpAny_pure
  simp only [Bool.false_eq_true, if_false]
  apply wpAny_bind
  apply wpAny_holding
  apply PyProof.Rows.iter_tuple ht
  apply wpAny_bind
  apply wpAny_holding
  apply PyProof.Rows.draw_tuple new its.size 0 _ _ ⟨_, Heap.get?_push_size _ rfl, rfl, rfl⟩ (ht.push _) (by omega)
  intro h1 st1 sb
  have whole : List.take its.size (List.drop 0 its.toList) = its.toList := by rw [List.drop_zero]; exact List.take_of_length_le (by simp)
  have up : ∀ b o, s.heap.get? b = some o → h1.get? b = some o := fun b o z => sb.extBut b o (Nat.ne_of_lt (Heap.lt_size z)) (Heap.get?_push_of_some _ z)
  rw [whole, if_neg (by simp)]
  apply wpAny_bind
  apply wpAny_holding
  apply tup_end_hot ⟨hh, o1, vs1, up x1 o1 e1, d1, c1⟩ (Nat.ne_of_lt (Heap.lt_size e1)) st1 ((ht.push _).extBut sb.extBut new) (by simp)
  intro h2 k2
  simp only [Option.isSome_none, Bool.false_eq_true, if_false]
  exact wpAny_pure (h h2 fun b o z => k2 b o (Nat.ne_of_lt (Heap.lt_size z)) (up b o z))
end
end TL

set_option maxRecDepth 100000
set_option maxHeartbeats 1000000
namespace TL
open PySem PySem.Spec PyProof.Rows L2

/-! ### [.. for .. in a list if ..] while an exception is handled -/
section
variable {X : Cx} {elt tg iter : Expr} {ifs : List Expr} {scope : Scope} {own : List (Str × Nat)} {pos : Pos} {ti te : TE} {g : TG} {tt : TT}
/-- the one that is handled stood already where the block began, out of its reach -/
def HotB (X : Cx) : Prop := ∃ p : Addr × Obj, L2H.Hot1 X.A p ∧ X.s_0.heap.get? p.1 = some p.2 ∧ X.H_0 p.1 = none ∧ p.1 ∉ X.fs ∧ p.1 ∉ X.ex
theorem HotB.at {X : Cx} {pins : List (Addr × Obj)} {σ : Sg} {H : Hp} {s : Shared} (h : HotB X) (I : Inv X pins σ H s) : ∃ x1, HotX.HotAt X.A x1 s.heap := by
  obtain ⟨p, ⟨hh, v1, d1, c1⟩, g, n, f, x⟩ := h
  exact ⟨p.1, hh, p.2, v1, I.base.keep p.1 p.2 g n f x, d1, c1⟩
theorem pg_tupB {X : Cx} {es : List Expr} {k n : Nat} {pos : Pos} {t : TGs} (hot : HotB X) (h : PGs X es t) (hn : (assignEach es X.env).length = n) (hst : (assignEach es X.env).findIdx? (·.1) = none) : PG X (.Tuple es k pos) (gTup X.K n t) := by
  constructor
  rintro pins s σ H v u Q I r ⟨a, xs, rfl, hq, hl, hw⟩
  cases r
  obtain ⟨its, rv, ht, _⟩ := I.tuple hq
  obtain ⟨x1, at1⟩ := hot.at I
  rw [assign_Tuple]
  apply wpAny_bind
  apply wpAny_standAt
  refine unpack_hot at1 ht (by simp [hn, ← hl, rv.length]) hst fun h' k => ?_
  exact h.run pins _ σ H xs _ Q (I.kept (t' := s.toks) k) (by simpa using rv) hw
/-- what the block needs: its target, its tests, its element are read in every block of it -/
structure BlkRd (X : Cx) (scope : Scope) (tg elt : Expr) (ifs : List Expr) (g : TG) (tt : TT) (te : TE) : Prop where
  tgt : ∀ (s : Shared) (H : Hp) (C : Addr) (cl : List (Str × Addr)) (fp : List Addr), HotB (X.blk s H scope (compEnvC scope cl C X.env) fp) → PG (X.blk s H scope (compEnvC scope cl C X.env) fp) tg g
  tst : ∀ (s : Shared) (H : Hp) (C : Addr) (cl : List (Str × Addr)) (fp : List Addr), HotB (X.blk s H scope (compEnvC scope cl C X.env) fp) → PTs (X.blk s H scope (compEnvC scope cl C X.env) fp) ifs tt
  elm : ∀ (s : Shared) (H : Hp) (C : Addr) (cl : List (Str × Addr)) (fp : List Addr), HotB (X.blk s H scope (compEnvC scope cl C X.env) fp) → PE (X.blk s H scope (compEnvC scope cl C X.env) fp) elt te
theorem lc_hot {pins : List (Addr × Obj)} {s : Shared} {σ : Sg} {H : Hp} {Q : VK} {pos' : Pos} {use : Option (Value → Sem Unit)} {Qf : Value → Shared → Prop} (hot : L2H.HotC X) (hN : X.N.Nodup) (I : Inv X pins σ H s) (hi : PE X iter ti) (ok : BlkOk X.N X.env.scope scope own)
    (rd : BlkRd X scope tg elt ifs g tt te) (hs : ∀ x, foldedSetIterable iter X.env x = pure x) (h : tLc (iList X.K ti) g tt te (own.map (·.2)) σ H Q)
    (last : ∀ D C s' m H', Inv X pins σ H' s' → Q (.ref D) H' → s'.heap.Ns C m → FpOk X pins H' C → compPost (model X.prog X.w) X.A X.xe use Qf (.ref D) C (.ok .next) s') :
    wpAny (model X.prog X.w) X.A (comprehension (.ListComp elt [⟨tg, iter, ifs, 0⟩] scope pos) scope X.env pos' (newList []) false (eval iter X.env) use) Qf X.xe s := by
  obtain ⟨p, ⟨hh, v1, d1, c1⟩, hp⟩ := hot
  have caught : ∀ y ∈ scope.names, y.2 = .free → ∃ c, X.env.cells.lookup y.1 = some c := fun y hy z => I.ok.has _ (ok.free y hy z)
  apply wpAny_comprehension_free (use := use) rfl hs (closure_ok caught) ok.kind (fun y hy z => z ▸ ok.uniq y hy)
  refine thn (hi.run pins s σ H _ I h) ?_
  rintro _ s1 ⟨_, H2, I1, r1, a, rfl, ⟨xs, sq⟩, q⟩
  cases r1
  obtain ⟨its0, _, plain0, _⟩ := I1.list sq
  apply wpAny_pyIter_list plain0.isList
  generalize hit : s1.heap.objs.size = it
  generalize es2 : ({ s1 with heap := s1.heap.push { cls := .type "list_iterator", data := .fields #[.ref a, .int 0 0] } } : Shared) = s2
  have st2 : s2.heap.IsListIter it a 0 := by
    rw [← es2, ← hit]
    exact ⟨_, Heap.get?_push_size _ rfl, rfl, rfl⟩
  have I2 : Inv X pins σ H2 s2 := by
    rw [← es2]
    exact I1.kept (t' := s1.toks) fun b o z => Heap.get?_push_of_some _ z
  have f2 : FpOk X pins H2 it := I1.fpOk (Nat.le_of_eq hit) (I1.hok.fresh (Nat.le_of_eq hit))
  have low2 : it < s2.heap.objs.size := by
    obtain ⟨_, z, _⟩ := st2
    exact Heap.lt_size z
  refine wpAny_newObj_type (newEnv_comp ?_) (show 0 ≤ sizeLine by decide)
  generalize eD : s2.heap.objs.size = D
  obtain ⟨W, ⟨m0, w0⟩, turn⟩ := q D (I2.hok.fresh (Nat.le_of_eq eD))
  generalize es3 : ({ s2 with heap := s2.heap.push { cls := .type "list", data := .seq ([] : List Value).toArray } } : Shared) = s3
  have up3 : ∀ b o, s2.heap.get? b = some o → s3.heap.get? b = some o := fun b o z => by rw [← es3]; exact Heap.get?_push_of_some _ z
  have I3 : Inv X pins σ (upd H2 D (.lst [])) s3 := by
    have at3 : s3.heap.get? D = some { cls := .type "list", data := .seq ([] : List Value).toArray } := by rw [← es3, ← eD]; exact Heap.get?_push_size _ rfl
    rw [← es3] at at3 up3 ⊢
    exact I2.laid (t' := s2.toks) up3 (Nat.le_of_eq eD) ⟨Nat.zero_le _, [], 0, .nil, at3⟩
  have st3 : s3.heap.IsListIter it a 0 := by
    obtain ⟨o, z, z1⟩ := st2
    exact ⟨o, up3 _ _ z, z1⟩
  have itD : it ≠ D := by omega
  have f3 : FpOk X pins (upd H2 D (.lst [])) it := ⟨(upd_ne itD).trans f2.1, f2.2⟩
  have low3 : it < s3.heap.objs.size := by
    obtain ⟨_, z, _⟩ := st3
    exact Heap.lt_size z
  have f3s : ∀ b ∈ [it], FpOk X pins (upd H2 D (.lst [])) b ∧ b < s3.heap.objs.size := fun b hb => by
    obtain rfl := List.mem_singleton.mp hb
    exact ⟨f3, low3⟩
  have I4 := block_start I3 ok hN f3s
  have pin3 := I3.pin p (List.mem_append_left _ hp)
  have ne3 : p.1 ≠ it := f3.2.2.2.2.2 p (List.mem_append_left _ hp)
  have nfr : p.1 ∉ frs X.stack := fun hm => (List.mem_cons.mp (I3.stkSub p.1 hm)).elim pin3.2.2.1 pin3.2.2.2.1
  have hotB : HotB (X.blk s3 (upd H2 D (.lst [])) scope (compEnvC scope (cellsFrom (s3.heap.objs.size + 1) scope.names (cloFrom X.env.cells scope.names [])) s3.heap.objs.size X.env) [it]) :=
    ⟨p, ⟨hh, v1, d1, c1⟩, pin3.1, pin3.2.1, nfr, fun z => ne3 (List.mem_singleton.mp z)⟩
  have rt := rd.tgt s3 (upd H2 D (.lst [])) s3.heap.objs.size (cellsFrom (s3.heap.objs.size + 1) scope.names (cloFrom X.env.cells scope.names [])) [it] hotB
  have ri := rd.tst s3 (upd H2 D (.lst [])) s3.heap.objs.size (cellsFrom (s3.heap.objs.size + 1) scope.names (cloFrom X.env.cells scope.names [])) [it] hotB
  have re := rd.elm s3 (upd H2 D (.lst [])) s3.heap.objs.size (cellsFrom (s3.heap.objs.size + 1) scope.names (cloFrom X.env.cells scope.names [])) [it] hotB
  clear hotB
  show codeAny _ _ (.compStart (.ListComp elt [⟨tg, iter, ifs, 0⟩] scope pos) 0 (.ref it) (.ref D) (compEnvC scope (cellsFrom (s3.heap.objs.size + 1) scope.names (cloFrom X.env.cells scope.names [])) s3.heap.objs.size X.env))
    (compPost (model X.prog X.w) X.A X.xe use Qf (.ref D) s3.heap.objs.size) { s3 with heap := pushCells (s3.heap.push { cls := .type "dict", data := .dict #[] }) scope.names }
  generalize ece : compEnvC scope (cellsFrom (s3.heap.objs.size + 1) scope.names (cloFrom X.env.cells scope.names [])) s3.heap.objs.size X.env = ce at I4 rt ri re ⊢
  have loc : ce.locals = s3.heap.objs.size := by subst ece; rfl
  generalize eH : upd H2 D (.lst []) = H3 at I3 I4 rt ri re w0 f3 f3s pin3
  generalize es4 : ({ s3 with heap := pushCells (s3.heap.push { cls := .type "dict", data := .dict #[] }) scope.names } : Shared) = s4 at I4 ⊢
  have st4 : s4.heap.IsListIter it a 0 := by
    obtain ⟨o, z, z1⟩ := st3
    exact ⟨o, by rw [← es4]; exact pushCells_keeps _ _ _ _ (Heap.get?_push_of_some _ z), z1⟩
  -- the iterator within the block
  have far : ∀ {σ' : Sg} {H' : Hp} {s' : Shared}, Inv (X.blk s3 H3 scope ce [it]) [] σ' H' s' → H' it = none → FpOk (X.blk s3 H3 scope ce [it]) [] H' it := fun {σ' H' s'} J hn =>
    have hm : it ∈ (X.blk s3 H3 scope ce [it]).ex := List.mem_singleton.mpr rfl
    ⟨hn, (J.ok.exf it hm).1, J.ok.exfs it hm, .inl hm, fun x c z => (J.ok.exf it hm).2 x c z, fun p hp => nomatch (show p ∈ ([] : List (Addr × Obj)) from hp)⟩
  have loop : codeAny (model X.prog X.w) X.A (.compLoop (.ListComp elt [⟨tg, iter, ifs, 0⟩] scope pos) 0 (.ref it) (.ref D) ce) (compPost (model X.prog X.w) X.A X.xe use Qf (.ref D) s3.heap.objs.size) s4 := by
    apply compLoop_any (fun n s' => ∃ i H', Inv (X.blk s3 H3 scope ce [it]) [] (L2.wipe σ (own.map (·.2))) H' s' ∧ s'.heap.IsListIter it a i ∧ H' it = none ∧ W i n H') _ m0 ⟨0, H3, I4, st4, f3.1, w0⟩
    rintro n s5 ⟨i, H5, I5, st5, n5, w5⟩
    have f5 := far I5 n5
    obtain ⟨stop, qq⟩ | ⟨go, Nx, hNx, step⟩ := turn i n H5 w5
    · -- the end
      obtain ⟨ys, hq, hx⟩ := stop
      obtain ⟨its, rv, pl, _⟩ := I5.list hq
      have kept : s5.heap.get? p.1 = some p.2 := I5.base.keep p.1 p.2 pin3.1 pin3.2.1 nfr fun z => ne3 (List.mem_singleton.mp z)
      have past : its.toArray[i]? = none := by
        have z := rv.length
        simp; omega
      apply list_end_hot (x1 := p.1) ⟨hh, p.2, v1, kept, d1, c1⟩ ne3 st5 pl.isList past
      intro h6 k6
      have I6 := I5.turned (t' := s5.toks) (h' := h6) k6 f5.1 f5.2.1 f5.2.2.2.1 f5.2.2.2.2.1 f5.2.2.2.2.2
      have I7 : Inv X pins σ H5 { s5 with heap := h6, toks := s5.toks } := I3.call' (ch := [it]) I6.os I6.base I6.hok I6.bare fun b hb => by
        obtain rfl := List.mem_singleton.mp hb
        exact ⟨f3.2.2.2.1, f3.2.1, f3.2.2.2.2.1, f3.2.2.2.2.2⟩
      obtain ⟨m, hn, _⟩ := I6.loc
      have nC : H5 ce.locals = none := I6.free
      have hn : h6.Ns ce.locals m := hn
      rw [loc] at hn nC
      exact last D s3.heap.objs.size _ m H5 I7 qq hn (I3.fpOk (Nat.le_refl _) nC)
    · -- a turn
      obtain ⟨ys, x, hq, hx⟩ := go
      obtain ⟨its, rv, pl, _⟩ := I5.list hq
      obtain ⟨u, hu, ru⟩ := rv.get hx
      refine wpAny_pyNext_list_item st5 pl.isList (x := u) (by simpa using hu) fun h6 st6 sb => ?_
      have I6 := I5.turned (t' := s5.toks) (h' := h6) (fun b o hb z => (sb.2 b hb).trans z) f5.1 f5.2.1 f5.2.2.2.1 f5.2.2.2.2.1 f5.2.2.2.2.2
      obtain ⟨oi, ei, ci, di⟩ := id st6
      refine go_of (s := { s5 with heap := h6 }) ei ci di (by decide) ?_
      have there : ∀ b ∈ [it], ∃ o, h6.get? b = some o ∧ ∀ v, o.data ≠ .cell v := fun b hb => by
        obtain rfl := List.mem_singleton.mp hb
        exact ⟨oi, ei, fun v z => by rw [di] at z; cases z⟩
      have I6' := I6.pinned (fp := [it]) (fun b hb => by obtain rfl := List.mem_singleton.mp hb; exact far I6 n5) there
      have y6 : (Itl X.K a).yld i H5 x H5 := ⟨rfl, fun zs hz => by rw [I6.list_inj hz hq]; exact hx⟩
      refine thnF (rt.run _ _ _ H5 x u _ I6' ru (step x H5 y6)) fun _ s8 ⟨σ8, H8, I8, hw8, q8⟩ => ?_
      refine thnF (ri.run _ s8 σ8 H8 _ I8 q8) fun b s9 ⟨H9, I9, q9⟩ => ?_
      have again : ∀ {s' : Shared} {H' : Hp}, Inv (X.blk s3 H3 scope ce [it]) ([] ++ pinsAt [it] h6) σ8 H' s' → Nx H' →
          ∃ m, m < n ∧ ∃ i H', Inv (X.blk s3 H3 scope ce [it]) [] (L2.wipe σ (own.map (·.2))) H' s' ∧ s'.heap.IsListIter it a i ∧ H' it = none ∧ W i m H' := fun {s' H'} J nx => by
        obtain ⟨m', hm, w'⟩ := hNx H' nx
        have held := J.pin (it, oi) (List.mem_append_right _ (List.mem_append_right _ (mem_pinsAt (List.mem_singleton.mpr rfl) ei)))
        have len : (L2.wipe σ (own.map (·.2))).length = σ8.length := by rw [← hw8, L2.wipe_length]
        exact ⟨m', hm, i + 1, H', (J.unpinned (pins := [])).weak len fun j v z => (wipe_some (hw8 ▸ z)).1, ⟨oi, held.1, ci, di⟩, held.2.1, w'⟩
      cases b
      · simp only [Bool.false_eq_true, if_false] at q9 ⊢
        exact again I9 q9
      · simp only [if_true] at q9 ⊢
        refine thnF (re.run _ s9 σ8 H9 _ I9 q9) ?_
        rintro z s10 ⟨yv, H10, I10, r10, acc, eD10, short, nx⟩
        exact app_ok (X := X.blk s3 H3 scope ce [it]) I10 eD10 short r10 fun s11 I11 => again I11 nx
  exact codeAny_compStart_list loop (wpAny_pyIter_listiter st4 loop)
end
end TL

set_option maxRecDepth 100000
set_option maxHeartbeats 1000000
namespace TL
open PySem PySem.Spec PyProof.Rows L2

/-! ### .. read over trees -/
theorem cg_tupB {X : Cx} {S : Nat → Prop} {es : List Expr} {n k : Nat} {pos : Pos} {ws : WGs} (hot : HotB X) (h : CGs X S es ws) (hn : (assignEach es X.env).length = n := by rfl) (hst : (assignEach es X.env).findIdx? (·.1) = none := by rfl) : CG X S (.Tuple es k pos) (wgTup n ws) := by
  obtain ⟨gs, ps, rs⟩ := h
  exact ⟨_, pg_tupB hot ps hn hst, rf_gTup rs⟩
section
variable {X : Cx} {np : Nat} {tg iter elt : Expr} {ifs : List Expr} {scope : Scope} {own : List (Str × Nat)} {pos : Pos} {wi : WE} {wg : WG} {wt : WT} {we : WE}
theorem ce_lcH (hot : L2H.HotC X) (hN : X.N.Nodup) (hi : CE X iter wi) (ok : BlkOk X.N X.env.scope scope own)
    (hg : ∀ (s : Shared) (H : Hp) (C : Addr) (cl : List (Str × Addr)) (fp : List Addr), HotB (X.blk s H scope (compEnvC scope cl C X.env) fp) → CG (X.blk s H scope (compEnvC scope cl C X.env) fp) (Own (own.map (·.2))) tg wg)
    (ht : ∀ (s : Shared) (H : Hp) (C : Addr) (cl : List (Str × Addr)) (fp : List Addr), CTs (X.blk s H scope (compEnvC scope cl C X.env) fp) ifs wt)
    (he : ∀ (s : Shared) (H : Hp) (C : Addr) (cl : List (Str × Addr)) (fp : List Addr), CE (X.blk s H scope (compEnvC scope cl C X.env) fp) elt we)
    (hs : ∀ x, foldedSetIterable iter X.env x = pure x := by intro _; rfl) : CE X (.ListComp elt [⟨tg, iter, ifs, 0⟩] scope pos) (wLc (wiList wi) wg wt we (own.map (·.2))) := by
  obtain ⟨ti, pi, ri⟩ := hi
  refine ⟨_, ⟨fun pins s σ H Q I h => ?_⟩, rf_lc (rf_iList ri) rf_TG rf_TT rf_TE⟩
  rw [eval_ListComp]
  refine lc_hot hot hN I pi ok ⟨fun s H C cl fp hb => (hg s H C cl fp hb).pg, fun s H C cl fp _ => (ht s H C cl fp).pts, fun s H C cl fp _ => (he s H C cl fp).pe⟩ hs h fun D C s' m H' J q ns f => ⟨m, ns, fun h2 sb => ?_⟩
  exact ⟨.ref D, H', J.turned (t' := s'.toks) (fun b o hb z => (sb.2 b hb).trans z) f.1 f.2.1 f.2.2.2.1 f.2.2.2.2.1 f.2.2.2.2.2, rfl, q⟩
theorem cs_setLcH {i : Nat} {y : Str} {py spos : Pos} (hot : L2H.HotC X) (hN : X.N.Nodup) (hy : X.N[i]? = some y) (hyl : X.env.scope.names.lookup y = some .local) (hp : np ≤ i)
    (hsw : swapsWith (.ListComp elt [⟨tg, iter, ifs, 0⟩] scope pos) (some (.Name y py)) spos.line X.env = pure true) (hi : CE X iter wi) (ok : BlkOk X.N X.env.scope scope own)
    (hg : ∀ (s : Shared) (H : Hp) (C : Addr) (cl : List (Str × Addr)) (fp : List Addr), HotB (X.blk s H scope (compEnvC scope cl C X.env) fp) → CG (X.blk s H scope (compEnvC scope cl C X.env) fp) (Own (own.map (·.2))) tg wg)
    (ht : ∀ (s : Shared) (H : Hp) (C : Addr) (cl : List (Str × Addr)) (fp : List Addr), CTs (X.blk s H scope (compEnvC scope cl C X.env) fp) ifs wt)
    (he : ∀ (s : Shared) (H : Hp) (C : Addr) (cl : List (Str × Addr)) (fp : List Addr), CE (X.blk s H scope (compEnvC scope cl C X.env) fp) elt we)
    (hs : ∀ x, foldedSetIterable iter X.env x = pure x := by intro _; rfl) : CS X np (.Assign [.Name y py] (.ListComp elt [⟨tg, iter, ifs, 0⟩] scope pos) spos) (wAsg (wLc (wiList wi) wg wt we (own.map (·.2))) (wgN i)) := by
  obtain ⟨ti, pi, ri⟩ := hi
  refine ⟨fun W tk => ⟨tAsg (tLc (iList X.K ti) _ _ _ (own.map (·.2))) (gName i), ⟨fun pins s σ H D I h => ?_⟩, rf_asg (rf_lc (rf_iList ri) rf_TG rf_TT rf_TE) (rf_gN fun j hj => Nat.ne_of_lt (Nat.lt_of_lt_of_le hj hp))⟩⟩
  rw [exec_Assign_Name_used _ _ _ _ hsw]
  apply wpAny_bind
  apply wpAny_standAt
  apply wpAny_bind
  show wpAny _ X.A (do let _ ← comprehension (.ListComp elt [⟨tg, iter, ifs, 0⟩] scope pos) scope X.env (firstIterPos [⟨tg, iter, ifs, 0⟩] pos) (newList []) false (eval iter X.env) (some (assign (.Name y py) X.env))) _ _ s
  have h2 : tLc (iList X.K ti) _ _ _ (own.map (·.2)) σ H (fun x H1 => gName i x σ H1 D.nx) := h
  apply wpAny_bind
  refine thn (lc_hot (Qf := fun _ s' => SP X pins D .next s') hot hN I pi ok ⟨fun s H C cl fp hb => (hg s H C cl fp hb).pg, fun s H C cl fp _ => (ht s H C cl fp).pts, fun s H C cl fp _ => (he s H C cl fp).pe⟩ hs h2 fun L C s' m H' J q ns f => ?_) fun _ s' z => wpAny_pure (wpAny_pure z)
  show wpAny _ _ (assign (.Name y py) X.env (.ref L)) _ _ _
  apply wpAny_assign_Name
  refine store_ok2 (v := V.ref L) J hN hy (.inl hyl) rfl (fun s2 J2 ⟨a, sb, ha⟩ => ?_) (.inr hyl)
  have apart : C ≠ a := ha.elim (fun z => by rw [z]; exact f.2.1) fun z hc => f.2.2.2.2.1 y a z hc.symm
  exact ⟨m, ns.sameBut sb apart, fun h3 sb3 => ⟨_, H', J2.turned (t' := s2.toks) (fun b o hb z => (sb3.2 b hb).trans z) f.1 f.2.1 f.2.2.2.1 f.2.2.2.2.1 f.2.2.2.2.2, q⟩⟩
end

/-! ### the exception that is handled, known by its class -/
/-- the one that is handled stands at a, is of the class y, has the dict od -/
def HotK (X : Cx) (a : Addr) (y : Str) (od : Option Addr) : Prop := ∃ oe : Obj, L2H.Hot1 X.A (a, oe) ∧ (a, oe) ∈ X.pn ∧ Zc (.ref (clsOf X.K y)) od oe
theorem HotK.hotC {X : Cx} {a : Addr} {y : Str} {od : Option Addr} (h : HotK X a y od) : L2H.HotC X := let ⟨oe, h1, h2, _⟩ := h; ⟨(a, oe), h1, h2⟩
theorem hotK_suite {X : Cx} {a : Addr} {oe : Obj} {y : Str} {od : Option Addr} {pn : List (Addr × Obj)} (z : L2N.Zn (.ref (clsOf X.K y)) od oe) (d : ∃ vs, oe.data = .fields vs) : HotK (X.suite a ((a, oe) :: pn)) a y od :=
  let ⟨vs, hd⟩ := d
  ⟨oe, ⟨rfl, vs, hd, z.2.2 vs hd⟩, List.mem_cons_self, z.zc⟩
theorem HotK.inst {X : Cx} {a : Addr} {y : Str} {od : Option Addr} (h : HotK X a y od) {pins : List (Addr × Obj)} {σ : Sg} {H : Hp} {s : Shared} (I : Inv X pins σ H s) (hd : ∀ d, od = some d → ∃ fs, H d = some (.xd fs)) : ∃ oe od', PySem.W.InstAt s.heap a oe (clsOf X.K y) od' ∧
    ∀ d fs, od = some d → H d = some (.xd fs) → ∃ (mA : Str → Option Value) (o : Obj), od' = some o ∧ (∀ f, PySem.W.lookIn f o = some (mA f)) ∧ ∀ f, RelO (fs.lookup f) (mA f) := by
  obtain ⟨oe, ⟨_, vs, hv, _⟩, hm, hz⟩ := h
  have ha := (I.pin (a, oe) (List.mem_append_left _ hm)).1
  cases od with
  | none => exact ⟨oe, none, ⟨ha, hz.1, by unfold PySem.W.notCls; rw [show oe.data = _ from hv] <;> rfl, by rw [hz.2]; trivial⟩, fun d fs z => nomatch z⟩
  | some d =>
    obtain ⟨fs, hx⟩ := hd d rfl
    obtain ⟨mA, hns, hr⟩ := (show ObjOk X.prog X.w H s.heap d (.xd fs) from I.hok d _ hx)
    obtain ⟨o, ho, hl⟩ := lookIn_ns hns
    refine ⟨oe, some o, ⟨ha, hz.1, by unfold PySem.W.notCls; rw [show oe.data = _ from hv] <;> rfl, by rw [hz.2]; exact ho⟩, fun d2 fs2 e1 e2 => ?_⟩
    cases e1
    rw [hx] at e2
    cases e2
    exact ⟨mA, o, rfl, hl, hr⟩
/-! ### isinstance of it, its fields -/
def rIsK (K : Frag) (a : Addr) (y : Str) (od : Option Addr) : List V → Hp → VK → Prop := fun xs H Q => ∃ (c : V) (cv : Value) (b : Bool), xs = [.ref a, c] ∧ ClsV c cv ∧ (∀ d, od = some d → ∃ fs, H d = some (.xd fs)) ∧ ExcC K (clsOf K y) ∧ PySem.W.kitOne K (.ref (clsOf K y)) cv = some b ∧ Q (.bl b) H
theorem call_isK {X : Cx} {a : Addr} {y : Str} {od : Option Addr} (h : HotK X a y od) : CallR X (.builtin "isinstance") (rIsK X.K a y od) := by
  rintro pins s σ H xs us Q I r ⟨c, cv, b, rfl, k, hx, T, e, q⟩
  obtain ⟨u1, u2, rfl, r1, r2⟩ := vals2 r
  obtain rfl := k.eq r2
  obtain rfl : u1 = Value.ref a := r1
  obtain ⟨oe, od', J, _⟩ := h.inst I hx
  exact ask I T J e q
/-- isinstance(e, c), e the one that is handled: of one of all; yes: those that are a c -/
def wIsK (a : Addr) (y : Str) (od : Option Addr) (yes all : List Str) (we : WE) : WE := fun Δ Q => we Δ fun p Δ1 => onV Δ1 p fun t => match t with
  | .exc a' y' od' _ => (a' = a ∧ y' = y ∧ od' = od) ∧ y ∈ all ∧ Q (.val (.bl (yes.contains y))) Δ1
  | _ => False
theorem rf_isK {K : Frag} {te : TE} {we : WE} {a : Addr} {y : Str} {od : Option Addr} {c : V} {cv : Value} {yes all : List Str} (hc : ClsV c cv) (hall : ∀ y ∈ all, ExcC K (clsOf K y) ∧ PySem.W.kitOne K (.ref (clsOf K y)) cv = some (yes.contains y)) (h : RfE K te we) :
    RfE K (tCB (rIsK K a y od) (tCons te (tCons (tC c) tNil))) (wIsK a y od yes all we) := fun Δ Q σ H B R hr hw Qv k => by
  refine h Δ _ σ H B R hr hw _ fun p Δ1 x H1 B1 q hl hk ⟨G, pr, hr1⟩ => ?_
  obtain ⟨t, F, r, q2⟩ := pr.tree hr1 q
  cases t with
  | exc a' y' od' fs =>
    obtain ⟨⟨rfl, rfl, rfl⟩, hy, q3⟩ := q2
    obtain ⟨T, e⟩ := hall _ hy
    have kk := k (.val _) Δ1 _ H1 B1 q3 hl hk ⟨[], .bl _, hr1.drop⟩
    cases r with
    | exc0 => exact ⟨c, cv, _, rfl, hc, (fun _ z => nomatch z), T, e, kk⟩
    | excD h1 _ _ => exact ⟨c, cv, _, rfl, hc, (fun d z => by cases z; exact ⟨_, hr1.sub _ _ h1⟩), T, e, kk⟩
  | _ => exact q2.elim
section
variable {X : Cx} {a : Addr} {y : Str} {od : Option Addr} {e : Expr} {we : WE} {c : Str} {p p2 pos : Pos} {yes all ys : List Str}
theorem ce_isK (h : HotK X a y od) (he : CE X e we) (hg : Gl X "isinstance") (hm : X.mg "isinstance" = none) (hv : bootBuiltins "isinstance" = some (.builtin "isinstance")) (gc : Gl X c) (nc : X.mg c = some (.ref (clsOf X.K c)))
    (hall : ∀ y ∈ all, ExcC X.K (clsOf X.K y) ∧ PySem.W.kitOne X.K (.ref (clsOf X.K y)) (.ref (clsOf X.K c)) = some (yes.contains y)) (hdb : (c == ("__debug__" : Str)) = false := by decide)
    (hs : starEach [e, .Name c p2] X.env = (false, eval e X.env) :: starEach [.Name c p2] X.env := by rfl) (hpl : (backTo pos (starEach [.Name c p2] X.env)).any (·.1) = false := by rfl) : CE X (.Call (.Name "isinstance" p) [e, .Name c p2] [] pos) (wIsK a y od yes all we) := by
  obtain ⟨te, pe, re⟩ := he
  exact ⟨_, pe_callB (call_isK h) hg hm hv (pa_cons pe (pa_cons (pe_glob gc nc (v := .ref (clsOf X.K c)) rfl hdb) pa_nil) hs) (by decide) (by decide) hs hpl, rf_isK (.own _) hall re⟩
/-- .. of ValueError -/
theorem ce_isKV (h : HotK X a y od) (he : CE X e we) (hg : Gl X "isinstance") (hm : X.mg "isinstance" = none) (hv : bootBuiltins "isinstance" = some (.builtin "isinstance")) (gc : Gl X "ValueError") (nc : X.mg "ValueError" = none)
    (hall : ∀ y ∈ all, ExcC X.K (clsOf X.K y) ∧ PySem.W.kitOne X.K (.ref (clsOf X.K y)) (.type "ValueError") = some (yes.contains y))
    (hs : starEach [e, .Name "ValueError" p2] X.env = (false, eval e X.env) :: starEach [.Name "ValueError" p2] X.env := by rfl) (hpl : (backTo pos (starEach [.Name "ValueError" p2] X.env)).any (·.1) = false := by rfl) : CE X (.Call (.Name "isinstance" p) [e, .Name "ValueError" p2] [] pos) (wIsK a y od yes all we) := by
  obtain ⟨te, pe, re⟩ := he
  exact ⟨_, pe_callB (call_isK h) hg hm hv (pa_cons pe (pa_cons (pe_bltn gc nc Boot.«ValueError» (v := .ty "ValueError") rfl) pa_nil) hs) (by decide) (by decide) hs hpl, rf_isK (.ty _) hall re⟩
/-- e.f, e the one that is handled: of one of ys -/
def wFldK (a : Addr) (y : Str) (od : Option Addr) (ys : List Str) (f : Str) (we : WE) : WE := fun Δ Q => we Δ fun p Δ1 => onV Δ1 p fun t => match t with
  | .exc a' y' od' fs => (a' = a ∧ y' = y ∧ od' = od) ∧ y ∈ ys ∧ match fs.lookup f with
    | some v => Q (.val v) Δ1
    | none => False
  | _ => False
def tFldK (a : Addr) (y : Str) (od : Option Addr) (ys : List Str) (f : Str) (te : TE) : TE := fun σ H Q => te σ H fun x H1 => x = .ref a ∧ y ∈ ys ∧ ∃ (d : Addr) (fs : List (Str × V)) (v : V), od = some d ∧ H1 d = some (.xd fs) ∧ fs.lookup f = some v ∧ Q v H1
theorem ce_fldK {f : Str} (h : HotK X a y od) (hall : ∀ y ∈ ys, XfC X.K (clsOf X.K y) ∧ PySem.W.findIn X.K (.ref (clsOf X.K y)) f = some none) (he : CE X e we) (hb : attributeBase e f X.env (eval e X.env) = eval e X.env := by rfl) : CE X (.Attribute e f pos) (wFldK a y od ys f we) := by
  obtain ⟨te, pe, re⟩ := he
  refine ⟨tFldK a y od ys f te, ⟨fun pins s σ H Q I asks => attr_of hb (thn (pe.run pins s σ H _ I asks) ?_)⟩, fun Δ Q σ H B R hr hw Qv k => ?_⟩
  · rintro _ s1 ⟨x, H1, J, rx, rfl, hy, d, fs, v, rfl, hd, l, q⟩
    obtain rfl := (show _ = Value.ref a from rx)
    obtain ⟨T, no⟩ := hall y hy
    obtain ⟨oe, od', at1, dict⟩ := h.inst J fun d2 z => by cases z; exact ⟨fs, hd⟩
    obtain ⟨mA, o, rfl, hl, hr⟩ := dict d fs rfl hd
    obtain ⟨u, hu, ru⟩ := RelO.some_of (v := v) (o := mA f) (by rw [← l]; exact hr f)
    have found := PySem.W.findObj_own T.hdC no rfl (by rw [hl, hu])
    exact HandSPX.exc_get J.kIn at1 T.ga T.gg T.exC found (handed_of ru) ⟨v, H1, J.tok _, ru, q⟩
  · refine re Δ _ σ H B R hr hw _ fun p Δ1 x H1 B1 q hl hk ⟨G, pr, hr1⟩ => ?_
    obtain ⟨t, F, r, q2⟩ := pr.tree hr1 q
    cases t with
    | exc a' y' od' fs =>
      obtain ⟨⟨rfl, rfl, rfl⟩, hy, q3⟩ := q2
      cases r with
      | exc0 => cases q3
      | @excD _ d _ fv _ h1 ek rk =>
        cases hv : fs.lookup f with
        | none => rw [hv] at q3; exact q3.elim
        | some v =>
          rw [hv] at q3
          obtain ⟨u, eu, ru⟩ := lookup_rp ek rk hv
          exact ⟨rfl, hy, d, fv, u, rfl, hr1.sub _ _ h1, eu, k (.val v) Δ1 u H1 B1 q3 hl hk ⟨[], ru, hr1.drop⟩⟩
    | _ => exact q2.elim
end
end TL

set_option maxRecDepth 100000
set_option maxHeartbeats 1000000
namespace TL
open PySem PySem.Spec PyProof.Rows L2

/-! ### defs called while an exception is handled -/
/-- where such a call stands: the exception p is handled, of the class y, its dict at od -/
structure StandK (P : Program) (w : World) (K : Frag) (mg : Str → Option Value) (base : Heap) (k : Nat) (fd : FuncData) (ps : List Str) (A : Around) (outer : List Env) (s : Shared) (H : Hp) (args : Args) (us : List Value) (vs : List V) (p : Addr × Obj) (y : Str) (od : Option Addr) : Prop where
  room : L2H.RoomH k A
  quiet : A.guards = some []
  hot : L2H.Hot1 A p
  is : Zc (.ref (clsOf K y)) od p.2
  pin : L2H.PinOk outer H s p
  env : Env0 P w K mg base A outer s H
  meets : BindsTo s fd args (ps.zip us)
  vals : Vals vs us
abbrev FSK := Addr → Str → Option Addr → FS
/-- what such a def promises -/
structure FnK (P : Program) (w : World) (K : Frag) (mg : Str → Option Value) (base : Heap) (k : Nat) (f : Addr) (fd : FuncData) (ps : List Str) (S : FSK) : Prop where
  arity : ∀ {a y od vs H Q E}, spT K (S a y od) vs H Q E → vs.length = ps.length
  keeps : ∀ {A outer s H args us vs Q E p y od}, StandK P w K mg base k fd ps A outer s H args us vs p y od → spT K (S p.1 y od) vs H Q E → codeAny (model P w) A (.call (.ref f) args) (fun r s' => CR CX0 outer P w H s Q E r s') s
structure CalK (P : Program) (w : World) (K : Frag) (mg : Str → Option Value) (base : Heap) (k : Nat) (x : Str) (S : FSK) : Prop where
  ex : ∃ (f : Addr) (fd : FuncData) (ps : List Str), mg x = some (.ref f) ∧ PySem.W.keepIn K (.ref f) = true ∧ Binds K fd ps [] ∧ FnK P w K mg base k f fd ps S
section
variable {X : Cx} {j k : Nat} {a : Addr} {y : Str} {od : Option Addr}
theorem ce_calK {S : FSK} {x : Str} {p pos : Pos} {e : Expr} {es : List Expr} {wa : WA} (c : CalK X.prog X.w X.K X.mg X.base j x S) (h : HotK X a y od) (hr : L2H.RoomH k X.A) (hj : j ≤ k) (hgd : X.A.guards = some []) (hg : Gl X x) (ha : CA X (e :: es) wa) (hdb : (x == ("__debug__" : Str)) = false := by decide)
    (he : starEach (e :: es) X.env = (false, eval e X.env) :: starEach es X.env := by rfl) (hpl : (backTo pos (starEach es X.env)).any (·.1) = false := by rfl) : CE X (.Call (.Name x p) (e :: es) [] pos) (wCall (S a y od) wa) := by
  obtain ⟨f, fd, ps, hm, hk, hb, F⟩ := c.ex
  obtain ⟨ta, pa, ra⟩ := ha
  obtain ⟨oe, hot, hin, hz⟩ := h
  refine ⟨tCall (spT X.K (S a y od)) [] (fun _ _ _ => False) ta, ⟨fun pins s σ H Q I asks => ?_⟩, rf_call ra⟩
  apply wpAny_Call_Name_kw (ld_glob I hg hm _ hdb)
  refine PySem.W.callWith_K (h₀ := X.base) I.ok.mod.kin hk (thn (pa.run pos pins s σ H _ I asks) ?_) he hpl
  rintro us s1 ⟨vs, H1, J, got, more⟩
  refine ⟨J.kIn, ?_⟩
  have more : spT X.K (S a y od) vs H1 Q fun _ _ _ => False := by
    have z : spT X.K (S a y od) (vs ++ []) H1 Q fun _ _ _ => False := more
    rwa [List.append_nil] at z
  have len : (us ++ []).length = ps.length := by rw [List.append_nil, ← got.length]; exact F.arity more
  have bd := hb s1 us J.kIn len
  rw [List.append_nil] at bd
  have pin := J.pin (a, oe) (List.mem_append_left _ hin)
  have pok : L2H.PinOk X.stack H1 s1 (a, oe) := { get := pin.1, free := pin.2.1, nofs := fun hm => (List.mem_cons.mp (J.stkSub a hm)).elim pin.2.2.1 pin.2.2.2.1, nocell := pin.2.2.2.2 }
  have st : StandK X.prog X.w X.K X.mg X.base j fd ps X.A X.stack s1 H1 ⟨us, []⟩ us vs (a, oe) y od := { room := hr.mono hj, quiet := hgd, hot, is := hz, pin := pok, env := J.env0, meets := bd, vals := got }
  refine wpAny_call (codeAny_mono (F.keeps st more) fun r s' end' => ?_)
  match r, end' with
  | .ok (.ret _), c => exact J.after c
  | .error ex, c => exact pass0 pins σ H1 s1 ex s' J c
  | .ok .next, c => exact False.elim c
  | .ok .brk, c => exact False.elim c
  | .ok .cont, c => exact False.elim c
theorem roomK {A : Around} (r : Room k A) {v : Option Value} : L2H.RoomH k (A.mark v) := ⟨r.dp, r.un⟩
end
section
variable {P : Program} {w : World} {K : Frag} {mg : Str → Option Value} {base : Heap} {x qual : Str} {st : Stmt} {f : Addr} {fd : FuncData} {dV : Value} {N ps : List Str} {k : Nat} {S : FSK}
/-- THE RULE for such a def -/
theorem def_okK (np : Nat) (F : DefAt K mg x qual st f fd dV) (Sc : FnScope N ps (defScope st)) (hlen : ∀ {a y od} ts Q, S a y od ts Q → ts.length = ps.length) (hnp : np ≤ ps.length)
    (body : ∀ (cdv : Value) (A : Around) (outer : List Env) (s : Shared) (H : Hp) (E : XK) (p : Addr × Obj) (y : Str) (od : Option Addr), L2H.RoomH k (A.deeper (envOfC qual (defScope st) s.heap.objs.size f cdv)) → (A.deeper (envOfC qual (defScope st) s.heap.objs.size f cdv)).guards = some [] →
      HotK (L2H.cxH CX0 P w K mg base N qual (defScope st) f cdv A outer s H E p).nox p.1 y od →
      ∃ w', CSs (L2H.cxH CX0 P w K mg base N qual (defScope st) f cdv A outer s H E p).nox np (defBody st) w' ∧ ∀ ts Qf, S p.1 y od ts Qf → w' (endsD np ts Qf) (startD N np ts)) : FnK P w K mg base (k + 1) f fd ps S := by
  obtain ⟨kV, doc, pm, cdv, ct, an, o, stands, isF, code, rfl⟩ := F.text
  have arity : ∀ {a y od vs H Q E}, spT K (S a y od) vs H Q E → vs.length = ps.length := fun {a y od vs H Q E} ⟨ts, B, R, Qf, hr, hs, _⟩ => by
    have e := hr.len
    simp only [List.length_map] at e
    exact e.trans (hlen ts Qf hs)
  refine ⟨arity, fun {A outer s H args us vs Q E p y od} at1 asks => ?_⟩
  have hlv := arity asks
  obtain ⟨ts, B, R, Qf, hrep, hS, k1, k2⟩ := asks
  have hot : HotK (L2H.cxH CX0 P w K mg base N qual (defScope st) f cdv A outer s H E p).nox p.1 y od := ⟨p.2, ⟨at1.hot.1, at1.hot.2⟩, List.mem_singleton.mpr rfl, at1.is⟩
  obtain ⟨w', hb, hv⟩ := body cdv A outer s H E p y od (at1.room.deeper _) at1.quiet hot
  obtain ⟨tb, hp, hrf⟩ := hb.ex _ takes_no
  obtain ⟨B1, hle, hr1, rest⟩ := entry (N := N) np hrep
  have reads : tb { nx := fun _ H' => Q .non H', rt := Q } (start N vs) H := by
    refine hrf _ _ _ H B1 R hr1 (hv ts Qf hS) _ (fun Δ' σ' H' B' q f hr' => ?_) (fun t Δ' σ' v H' B' G q f r hr' => ?_) (fun _ _ _ _ q => q.elim) (fun _ _ _ _ q => q.elim) fun _ _ _ _ _ _ _ q => q.elim
    · obtain ⟨us, hu, hΔ, q2⟩ := lookUp_pre q
      exact k1 .non _ .non H' B' [] q2 (hle.trans f.1) f.2.1 .non (leave (N := N) (G := []) (by omega) hr' f.1 f.2.2 hu hΔ rest)
    · obtain ⟨us, hu, hΔ, q2⟩ := lookUp_pre q
      exact k1 t _ v H' B' G q2 (hle.trans f.1) f.2.1 r (leave (N := N) (by omega) hr' f.1 f.2.2 hu hΔ rest)
  have back : ∀ {b o'}, base.get? b = some o' → s.heap.get? b = some o' := fun {b o'} z => (at1.env.bs b o' z).1
  have inHeap : K.In s.heap := at1.env.mod.kin.keeps @back
  have unlimited := at1.env.mod.nolimit.keeps @back
  have places : ∀ z ∈ ps.zip us, (defScope st).names.lookup z.1 = some .local ∨ ((defScope st).names.lookup z.1 = some .cell ∧ ((cellsFrom (s.heap.objs.size + 1) (defScope st).names []).lookup z.1).isSome = true) := by
    rintro ⟨y, u⟩ hz
    exact (Sc.par y (List.of_mem_zip hz).1).imp id fun c => ⟨c, PySem.W.cellsFrom_some _ _ _ (.inl c)⟩
  refine codeAny_call_function at1.room.depth (inHeap _ _ stands) isF Sc.co Sc.gen rfl (PySem.W.codeRec_of inHeap code) (at1.meets _ _ _ _ (wpAny_newFunctionEnv_cells Sc.kind places ?_))
  rintro _ rfl s1 entered
  have ends := hp.nox.run [] s1 (start N vs) H _ (L2H.inv_startH Sc at1.pin at1.env hlv at1.vals entered) reads
  refine ⟨unlimited.keeps entered.toInCall.keep, codeAny_func (wpAny_mono ends (fun fl s' how => ?_) fun _ _ z => z)⟩
  match fl, how with
  | .ret u, ⟨v, _, H', J, same, q⟩ => exact ⟨v, H', J.os, J.bare, J.base, J.hok, same, q⟩
  | .next, ⟨_, H', J, q⟩ => exact ⟨.non, H', J.os, J.bare, J.base, J.hok, rfl, q⟩
  | .brk, ⟨_, _, _, q⟩ => exact False.elim q
  | .cont, ⟨_, _, _, q⟩ => exact False.elim q
theorem DefAt.calK (F : DefAt K mg x qual st f fd .none) (G : FnK P w K mg base k f fd ps S)
    (h : ∀ (kV doc pm : Value) (an : Option Addr) (cdv ct : Value) (us : List Value), us.length = ps.length → bindArgs (PySem.W.fnOf x qual (defArgs st) (defBody st) (defScope st) .none kV doc pm an cdv ct) ⟨us, []⟩ = pure (ps.zip us)) : CalK P w K mg base k x S := by
  obtain ⟨kV, doc, pm, cdv, ct, an, o, _, _, _, rfl⟩ := F.text
  exact ⟨_, _, ps, F.nm, F.stays, .all (h kV doc pm an cdv ct), G⟩
end
end TL

set_option maxRecDepth 100000
set_option maxHeartbeats 1000000
namespace TL
open PySem PySem.Spec PyProof.Rows L2

/-! ### raise of a class without fields of its own -/
structure Raise0At (K : Frag) (mg : Str → Option Value) (x : Str) : Prop where
  e0 : Exc0At K mg x
  ex : PySem.W.subIn K (.ref (clsOf K x)) (.type "BaseException") = some true
  ty : PySem.W.typeIn K (.ref (clsOf K x)) = some (.type "type")
theorem raise0_of {K : Frag} {mg : Str → Option Value} {x : Str} {C : Addr} (e : Exc0At K mg x) (h : PySem.W.nsIn K mainGlobals x = some (some (.ref C))) (h1 : PySem.W.subIn K (.ref C) (.type "BaseException") = some true) (h2 : PySem.W.typeIn K (.ref C) = some (.type "type")) : Raise0At K mg x :=
  ⟨e, by rw [clsOf_is h]; exact h1, by rw [clsOf_is h]; exact h2⟩
/-- raise x('..') -/
def wRaise0 (x : Str) : WS := fun D Δ => D.ex x [] Δ
theorem cs_raise0 {X : Cx} {np : Nat} {x m : Str} {j : Nat} {p p2 pos pos2 : Pos} (T : Raise0At X.K X.mg x) (hc : X.calm = true) (hg : Gl X x) (hdb : (x == ("__debug__" : Str)) = false := by decide) :
    CS X np (.Raise (some (.Call (.Name x p) [.Constant (.str m) j p2] [] pos)) none pos2) (wRaise0 x) := by
  obtain ⟨bmB, nI, iI, F, q⟩ := T.e0.inK
  exact ⟨fun W tk => ⟨_, L2N.ps_raise hc tk (L2N.pmk_own F q T.e0.nm T.e0.kp (raises_own T.ex T.ty) hg hdb), fun D Δ σ H B R hr hw E k1 k2 k3 k4 k5 => k5 x [] Δ σ none H B hw Fin.refl hr rfl⟩⟩

/-! ### xs.index(y), xs a list of flat things that has it -/
/-- the first place -/
def placeT (y : T) : List T → Option Nat
  | [] => none
  | t :: r => if eqV (scV t) (scV y) = true then some 0 else (placeT y r).map (· + 1)
theorem placeT_is {y : T} : ∀ {ts : List T} {j : Nat}, placeT y ts = some j → ∃ z, ts[j]? = some z ∧ eqV (scV z) (scV y) = true ∧ ∀ (m : Nat) z', m < j → ts[m]? = some z' → eqV (scV z') (scV y) = false
  | [], _, h => by cases h
  | t :: r, j, h => by
    unfold placeT at h
    split at h
    · next e =>
      cases h
      exact ⟨t, rfl, e, fun m z' hm => absurd hm (Nat.not_lt_zero m)⟩
    · next e =>
      cases q : placeT y r with
      | none => rw [q] at h; cases h
      | some i =>
        rw [q] at h
        cases h
        obtain ⟨z, h1, h2, h3⟩ := placeT_is q
        refine ⟨z, by simpa using h1, h2, fun m z' hm hz => ?_⟩
        cases m with
        | zero => simp at hz; subst hz; simpa using e
        | succ m => exact h3 m z' (Nat.lt_of_succ_lt_succ hm) (by simpa using hz)
def wLIx (wo wy : WE) : WE := fun Δ Q => wo Δ fun p Δ1 => onV Δ1 p fun x => match x with
  | .lst _ _ => wy Δ1 fun q Δ2 => onV Δ2 p fun x => onV Δ2 q fun y => match x with
    | .lst _ ts => flT y = true ∧ ts.all flT = true ∧ match placeT y ts with
      | some j => Q (.val (.int (j : Nat))) Δ2
      | none => False
    | _ => False
  | _ => False
theorem getElem_map_scV {ts : List T} {m : Nat} {v : V} (h : (ts.map scV)[m]? = some v) : ∃ z, ts[m]? = some z ∧ v = scV z := by
  rw [List.getElem?_map] at h
  cases e : ts[m]? with
  | none => rw [e] at h; cases h
  | some z => rw [e] at h; cases h; exact ⟨z, rfl, rfl⟩
theorem ce_lindex {X : Cx} {o e : Expr} {apos cpos : Pos} {wo wy : WE} (ho : CE X o wo) (hy : CE X e wy) (hbase : attributeBase o "index" X.env (eval o X.env) = eval o X.env := by rfl)
    (hfew : ((backTo cpos (starEach [e] X.env)).all (fun x => !x.1) && (backToKw cpos (keywordEach [] X.env)).all (fun x => x.1.isSome)
      && decide (([e] : List Expr).length + ([] : List Keyword).length + (if ([] : List Keyword).isEmpty then 0 else 1) < 30)) = true := by rfl)
    (hline : (apos.endLine == cpos.line) = true := by rfl) (hs : starEach [e] X.env = (false, eval e X.env) :: starEach [] X.env := by rfl) (hplain : (backTo cpos (starEach [] X.env)).any (·.1) = false := by rfl) : CE X (.Call (.Attribute o "index" apos) [e] [] cpos) (wLIx wo wy) := by
  obtain ⟨t1, p1, r1⟩ := ho
  obtain ⟨t2, p2, r2⟩ := hy
  refine ⟨_, pe_bm PySem.F.plainAttrs_list PySem.F.slot_list_index PySem.F.type_list_index mt_index p1 (pa_cons p2 pa_nil hs) hbase hfew hline hs hplain, fun Δ Q σ H B R hr hw Qv k => ?_⟩
  refine r1 Δ _ σ H B R hr hw _ fun p Δ1 x H1 B1 hq hl1 hk1 ⟨G1, pr1, hr1⟩ => ?_
  obtain ⟨tx, Fx, rx, o1⟩ := pr1.tree hr1 hq
  match tx, rx, o1 with
  | .lst b us, rx, o1 =>
    obtain ⟨a, vs, F', rfl, h1, _⟩ := rx.lst_inv hr1.sub
    refine ⟨.inl ⟨rfl, vs, h1⟩, ?_⟩
    refine r2 Δ1 _ σ H1 B1 (G1 ++ R) hr1 o1 _ fun q Δ2 y H2 B2 hq2 hl2 hk2 ⟨G2, pr2, hr2⟩ => ?_
    have pr1' := pr1.mono hl2 hk2.left
    obtain ⟨tx, Fx, rx, o2⟩ := pr1'.tree hr2 hq2
    obtain ⟨ty, Fy, ry, o3⟩ := pr2.tree hr2 o2
    have hr3 : Rep X.K B2 H2 R σ Δ2 := hr2.drop.drop
    match tx, rx, o3 with
    | .lst b ts, rx, o3 =>
      obtain ⟨fy, fts, o4⟩ := o3
      obtain ⟨a', ws, F2, ea, h2, rL⟩ := rx.lst_inv hr2.sub
      cases ea
      obtain ⟨g1, rfl⟩ := flat_of ry fy
      obtain ⟨g2, rfl⟩ := flats_of rL fts
      cases ej : placeT ty ts with
      | none => rw [ej] at o4; exact o4.elim
      | some j =>
        rw [ej] at o4
        obtain ⟨z, z1, z2, z3⟩ := placeT_is ej
        refine ⟨a, ts.map scV, scV ty, j, scV z, rfl, rfl, h2, g1, g2, by rw [List.getElem?_map, z1]; rfl, z2, fun m v hm hv => ?_, k (.val (.int (j : Nat))) Δ2 _ H2 B2 o4 (hl1.trans hl2) (hk1.trans hk2.right) ⟨[], .int _, hr3⟩⟩
        obtain ⟨z', hz', rfl⟩ := getElem_map_scV hv
        exact z3 m z' hm hz'
end TL

set_option maxRecDepth 100000
set_option maxHeartbeats 1000000
namespace TL
open PySem PySem.Spec PyProof.Rows L2
theorem roomK_u64 {k : Nat} {A : Around} (r : L2H.RoomH k A) : A.units + 64 < cLine := by have := r.un; omega
theorem roomK_u1 {k : Nat} {A : Around} (r : L2H.RoomH k A) : A.units + 1 < cLine := by have := r.un; omega
end TL

set_option maxRecDepth 100000
set_option maxHeartbeats 1000000
namespace TL
open PySem PySem.Spec PyProof.Rows L2

/-! ### repr: of plain data with its text closed, or of data with dicts -/
def gReprM : List T → (T → Prop) → Prop
  | [t], Q => ((okT t = true ∧ dpT t ≤ 60 ∧ wtT t ≤ sizeLine) ∧ Q (.str (shI t))) ∨ (okR t = true ∧ Q (.str (shR t)))
  | _, _ => False
theorem call_reprM {X : Cx} (hu : X.A.units + 64 < cLine) (hg : X.A.guards = some []) (hS : SysAt X.base) : CallR X (.builtin "repr") (fun xs H Q => rRepr X.K xs H Q ∨ rReprD X.K xs H Q) := CallR.or (call_reprA hu hg) (call_reprD hu hg hS)
theorem l_reprM {K : Frag} : LCl K (fun xs H Q => rRepr K xs H Q ∨ rReprD K xs H Q) gReprM := fun B H xs ts F hs r Q hw Qv k => by
  match ts, r, hw with
  | [t], r, .inl hw => exact .inl (l_reprI B H xs [t] F hs r Q ⟨hw.1.1, hw.1.2.1, hw.1.2.2, hw.2⟩ Qv k)
  | [t], r, .inr hw => exact .inr (l_reprD B H xs [t] F hs r Q hw Qv k)

/-! ### isinstance(e, (A, B, ..)), e the one that is handled -/
theorem kitAny_of {K : Frag} {t : Value} {y : Str} : ∀ {cs : List (Value × List Str)}, (∀ p ∈ cs, PySem.W.kitOne K t p.1 = some (p.2.contains y)) → PySem.W.kitAny K t (cs.map (·.1)) = some ((cs.map (·.2)).flatten.contains y)
  | [], _ => rfl
  | (c, yes) :: r, h => by
    have h1 := h _ List.mem_cons_self
    have h2 := kitAny_of (cs := r) fun p hp => h p (List.mem_cons_of_mem _ hp)
    have e : PySem.W.kitAny K t (((c, yes) :: r).map (·.1)) = (match PySem.W.kitOne K t c with
      | some true => some true
      | some false => PySem.W.kitAny K t (r.map (·.1))
      | none => none) := rfl
    rw [e, h1]
    have ef : (((c, yes) :: r).map (·.2)).flatten.contains y = (yes.contains y || ((r.map (·.2)).flatten.contains y)) := by
      simp only [List.map_cons, List.flatten_cons, List.contains_eq_any_beq, List.any_append]
    rw [ef]
    cases hb : yes.contains y with
    | true => rfl
    | false => simpa using h2
def rIsKT (K : Frag) (a : Addr) (y : Str) (od : Option Addr) : List V → Hp → VK → Prop := fun xs H Q => ∃ (tp : Addr) (cs : List Addr) (b : Bool), xs = [.ref a, .ref tp] ∧ SqT K H tp (cs.map V.ref) ∧ (∀ d, od = some d → ∃ fs, H d = some (.xd fs)) ∧ ExcC K (clsOf K y) ∧
  PySem.W.kitAny K (.ref (clsOf K y)) (cs.map Value.ref) = some b ∧ Q (.bl b) H
theorem vals_refs : ∀ {cs : List Addr} {us : List Value}, Vals (cs.map V.ref) us → us = cs.map Value.ref
  | [], _, .nil => rfl
  | c :: cs, _, .cons r1 r2 => by
    have e : _ = Value.ref c := r1
    rw [e, vals_refs r2]; rfl
theorem call_isKT {X : Cx} {a : Addr} {y : Str} {od : Option Addr} (h : HotK X a y od) : CallR X (.builtin "isinstance") (rIsKT X.K a y od) := by
  rintro pins s σ H xs us Q I r ⟨tp, cs, b, rfl, hq, hx, T, e, q⟩
  obtain ⟨u1, u2, rfl, r1, r2⟩ := vals2 r
  obtain rfl : u1 = Value.ref a := r1
  obtain rfl : u2 = Value.ref tp := r2
  obtain ⟨its, rv, ⟨⟨c, dd, data, sl⟩, ho, hc, n, hd⟩, _⟩ := I.tuple hq
  obtain rfl := vals_refs rv
  simp only at hc hd
  subst hc hd
  obtain ⟨oe, od', J, _⟩ := h.inst I hx
  have hcl : (PySem.W.clsIn X.K (clsOf X.K y)).isSome = true := by
    obtain ⟨cd, hc, _⟩ := PySem.W.any_some T.hd
    rw [hc]; rfl
  exact PySem.W.kia_tup (PySem.W.kitx_exc hcl T.hg T.hk T.hs T.ha T.hn T.ht T.hm) I.kIn J ho e (fun z => nomatch z) fun tk => ⟨.bl b, H, I.tok tk, rfl, q⟩
def gIsKT (K : Frag) (a : Addr) (y : Str) (od : Option Addr) (cls yes all : List Str) : List T → (T → Prop) → Prop
  | [.exc a' y' od' _, .tup cs], Q => (a' = a ∧ y' = y ∧ od' = od) ∧ y ∈ all ∧ cs = (cls.map fun c => T.fn (clsOf K c)) ∧ Q (.bl (yes.contains y))
  | _, _ => False
theorem refs_of {K : Frag} {B H : Hp} : ∀ {as : List Addr} {vs : List V} {F : List Addr}, RpL K B H vs (as.map T.fn) F → vs = as.map V.ref
  | [], _, _, .nil => rfl
  | a :: as, _, _, .cons r1 r2 => by
    cases r1
    rw [refs_of r2]; rfl
theorem l_isKT {K : Frag} {a : Addr} {y : Str} {od : Option Addr} {cls yes all : List Str} (hall : ∀ y ∈ all, ExcC K (clsOf K y) ∧ PySem.W.kitAny K (.ref (clsOf K y)) (cls.map fun c => .ref (clsOf K c)) = some (yes.contains y)) : LCl K (rIsKT K a y od) (gIsKT K a y od cls yes all) := fun B H xs ts F hs r Q hw Qv k => by
  match ts, r, hw with
  | [.exc a' y' od' fs, .tup cs], .cons r1 (.cons r2 .nil), hw =>
    obtain ⟨⟨rfl, rfl, rfl⟩, hy, rfl, q⟩ := hw
    obtain ⟨Tc, e⟩ := hall _ hy
    obtain ⟨tp, vs, rfl, hq, rL⟩ := r2.tup_inv hs
    have em : (cls.map fun c => T.fn (clsOf K c)) = (cls.map (clsOf K)).map TL.T.fn := by rw [List.map_map]; rfl
    rw [em] at rL
    obtain rfl := refs_of rL
    have e2 : PySem.W.kitAny K (.ref (clsOf K y')) ((cls.map (clsOf K)).map Value.ref) = some (yes.contains y') := by rw [List.map_map]; exact e
    have kk := k _ _ H B [] q (Gro.refl hs) (.bl _)
    cases r1 with
    | exc0 => exact ⟨tp, _, _, rfl, hq, (fun _ z => nomatch z), Tc, e2, kk⟩
    | excD h1 _ _ => exact ⟨tp, _, _, rfl, hq, (fun d z => by cases z; exact ⟨_, hs _ _ h1⟩), Tc, e2, kk⟩
/-- the classes' names as arguments -/
def wCs (K : Frag) : List Str → WA
  | [] => wNil
  | c :: r => wCons (wC (.fn (clsOf K c))) (wCs K r)
theorem wCs_run {K : Frag} : ∀ {cls : List Str} {Δ : Dt} {k : List PV → Dt → Prop}, k (cls.map fun c => .val (.fn (clsOf K c))) Δ → wCs K cls Δ k
  | [], Δ, k, h => h
  | c :: r, Δ, k, h => wCs_run (cls := r) (k := fun ps Δ' => k (.val (.fn (clsOf K c)) :: ps) Δ') h
theorem takes_fns {as : List Addr} : ∀ {Δ : Dt} {k : List T → Dt → Prop}, k (as.map T.fn) Δ → wTakes (as.map fun a => .val (.fn a)) Δ k := by
  induction as with
  | nil => exact fun h => h
  | cons a as ih => exact fun {Δ k} h => ih (k := fun us Δ' => k (.fn a :: us) Δ') h
theorem ce_isKT {X : Cx} {a : Addr} {y : Str} {od : Option Addr} {e : Expr} {es : List Expr} {i j : Nat} {p p2 pos : Pos} {cls yes all : List Str} (h : HotK X a y od) (he : CE X e (wV i)) (hcs : CA X es (wCs X.K cls)) (hg : Gl X "isinstance") (hm : X.mg "isinstance" = none)
    (hv : bootBuiltins "isinstance" = some (.builtin "isinstance")) (small : cls.length ≤ sizeLine) (hall : ∀ y ∈ all, ExcC X.K (clsOf X.K y) ∧ PySem.W.kitAny X.K (.ref (clsOf X.K y)) (cls.map fun c => .ref (clsOf X.K c)) = some (yes.contains y))
    (hs : starEach [e, .Tuple es j p2] X.env = (false, eval e X.env) :: starEach [.Tuple es j p2] X.env := by rfl) (hpl : (backTo pos (starEach [.Tuple es j p2] X.env)).any (·.1) = false := by rfl) : CE X (.Call (.Name "isinstance" p) [e, .Tuple es j p2] [] pos) (wIsK a y od yes all (wV i)) := by
  obtain ⟨te, pe, re⟩ := ce_callB (call_isKT h) (l_isKT hall) hg hm hv (ca_cons he (ca_cons (ce_tup hcs) ca_nil) hs) (by decide) (by decide) hs hpl
  refine ⟨te, pe, fun Δ Q σ H B R hr hw => re Δ Q σ H B R hr ?_⟩
  obtain ⟨t1, e1, hw⟩ := look_iff hw
  obtain ⟨t2, e2, hw⟩ := look_iff hw
  rw [e1] at e2
  cases e2
  show look Δ i fun _ => wTup (wCs X.K cls) Δ fun q Δ2 => onVs Δ2 [.pl i, q] fun ts => gIsKT X.K a y od cls yes all ts fun t => Q (.val t) Δ2
  unfold look
  rw [e1]
  refine wCs_run ?_
  have em : (cls.map fun c => PV.val (.fn (clsOf X.K c))) = (cls.map (clsOf X.K)).map fun a => PV.val (.fn a) := by rw [List.map_map]; rfl
  rw [em]
  refine takes_fns ⟨by rw [List.length_map, List.length_map]; exact small, ?_⟩
  show look Δ i fun t => gIsKT X.K a y od cls yes all [t, .tup ((cls.map (clsOf X.K)).map T.fn)] fun t => Q (.val t) Δ
  unfold look
  rw [e1]
  cases t1 with
  | exc a' y' od' fs => exact ⟨hw.1, hw.2.1, by rw [List.map_map]; rfl, hw.2.2⟩
  | _ => exact hw.elim
end TL

set_option maxRecDepth 100000
set_option maxHeartbeats 1000000
namespace TL
open PySem PySem.Spec PyProof.Rows L2

/-! ### t * k of a tuple: no times, once (the tuple itself), more often -/
theorem times0 (l : Addr) (items : Array Value) (n : Nat) (dd : Option Addr) (sl : Array (Option Value)) (x : Int) (u : Tok) (c0 : (decide (x < -(2 ^ 63)) || decide (x ≥ 2 ^ 63)) = false) (c1 : (items.isEmpty || x == 1) = false) (c2 : (decide (x ≤ 0) || items.isEmpty) = true) :
    Meets (Builtin.«tuple.__mul__» ⟨[.ref l, .int x u], []⟩) (fun _ R s => s.heap.get? l = some { cls := .type "tuple", dict := dd, data := .seq items n, slots := sl } ∧
      R (.ok (.ret (Value.ref s.heap.objs.size))) { s with heap := s.heap.push { cls := Value.type "tuple", data := Data.seq #[] }, toks := s.toks }) :=
  .of_wp fun prog w A R s h => by
    obtain ⟨hp, g, d, tk, os⟩ := s
    obtain ⟨hl, h⟩ := h
    have f1 := AutoSeq1.idx_int
    wp_walk using wpAny_loadPart' hl
    repeat (first
      | (refine wpAny_ite_false (decide_eq_false (by rw [c0]; exact Bool.false_ne_true)) ?_; wp_walk using wpAny_loadPart' hl)
      | (refine wpAny_ite_false (decide_eq_false (by rw [c1]; exact Bool.false_ne_true)) ?_; wp_walk using wpAny_loadPart' hl)
      | (refine wpAny_ite_true (decide_eq_true (by rw [c2])) ?_; wp_walk using wpAny_loadPart' hl))
    exact ⟨_, rfl, h⟩
theorem times1 (l : Addr) (items : Array Value) (n : Nat) (dd : Option Addr) (sl : Array (Option Value)) (u : Tok) :
    Meets (Builtin.«tuple.__mul__» ⟨[.ref l, .int 1 u], []⟩) (fun _ R s => s.heap.get? l = some { cls := .type "tuple", dict := dd, data := .seq items n, slots := sl } ∧ R (.ok (.ret (Value.ref l))) s) :=
  .of_wp fun prog w A R s h => by
    obtain ⟨hp, g, d, tk, os⟩ := s
    obtain ⟨hl, h⟩ := h
    have f1 := AutoSeq1.idx_int
    have c1 : (items.isEmpty || (1 : Int) == 1) = true := by simp
    wp_walk using wpAny_loadPart' hl
    repeat (first
      | (refine wpAny_ite_true (decide_eq_true (by rw [c1])) ?_; wp_walk using wpAny_loadPart' hl))
    exact ⟨_, rfl, h⟩
def rRepA (K : Frag) : R2 := fun x y H Q => ∃ (l : Addr) (k : Int) (xs : List V), x = .ref l ∧ y = .int k ∧ SqT K H l xs ∧ xs ≠ [] ∧ (0 ≤ k ∧ k ≤ 1000) ∧ xs.length ≤ 1000 ∧ (k = 1 → Q (.ref l) H) ∧ (k ≠ 1 → ∀ p, H p = none → Q (.ref p) (upd H p (.tup (List.replicate k.toNat xs).flatten)))
theorem op_repA {X : Cx} : OpR X (binaryOp .Mult) (rRepA X.K) := by
  intro pins s σ H x y v u Q I rx ry h
  obtain ⟨l, k, xs, rfl, rfl, hT, hne, ⟨h1, h2⟩, hz, q1, q2⟩ := h
  by_cases hk : 2 ≤ k
  · exact op_repT pins s σ H _ _ v u Q I rx ry ⟨l, k, xs, rfl, rfl, hT, hne, hk, h2, hz, q2 (by omega)⟩
  · cases rx
    obtain ⟨t, rfl⟩ := ry
    obtain ⟨its, r, ⟨⟨cls, dd, data, sl⟩, ho, hc, n, hd⟩, hs⟩ := I.tuple hT
    simp only at hc hd
    subst hc hd
    have hn : its ≠ [] := fun e => hne (by
      have hle := r.length
      rw [e] at hle
      exact List.eq_nil_of_length_eq_zero hle)
    have hi : its.toArray.isEmpty = false := by
      cases its with
      | nil => exact absurd rfl hn
      | cons a b => rfl
    have c0 : (decide (k < -(2 ^ 63)) || decide (k ≥ 2 ^ 63)) = false := by
      rw [decide_eq_false (by omega), decide_eq_false (by omega)] <;> rfl
    rcases (show k = 0 ∨ k = 1 by omega) with rfl | rfl
    · refine wpAny_binaryOp_repeat_ref (T := "tuple") (U := "int") (by decide) ⟨_, ho, rfl⟩ (fun s' => typeIs_int s' 0 t) noFill_tuple_mul F.fills_int_mul F.slot_int_rmul repeat_tuple F.slot_int_index.lookup
        (call_meets F.slot_int_rmul (typeIs_int s 0 t) F.entry_int_rmul (F.args_int_rmul_2 _ _) (int_rmul_tuple 0 t l its.toArray n dd sl)
          ⟨ho, rfl, ⟨_, ho, rfl⟩, call_meets F.slot_tuple_mul ⟨_, ho, rfl⟩ F.entry_tuple_mul (F.args_tuple_mul_2 _ _) (times0 l its.toArray n dd sl 0 t c0 (by rw [hi]; rfl) (by rfl)) ⟨ho, ?_⟩⟩)
      refine ⟨.ref s.heap.objs.size, _, I.laid (t' := s.toks) (o := .tup []) (fun b ob q => Heap.get?_push_of_some _ q) (Nat.le_refl _) ?_, rfl, q2 (by decide) _ (I.hok.fresh (Nat.le_refl _))⟩
      exact ⟨Nat.zero_le _, _, .nil, IsTup.new _ _⟩
    · refine wpAny_binaryOp_repeat_ref (T := "tuple") (U := "int") (by decide) ⟨_, ho, rfl⟩ (fun s' => typeIs_int s' 1 t) noFill_tuple_mul F.fills_int_mul F.slot_int_rmul repeat_tuple F.slot_int_index.lookup
        (call_meets F.slot_int_rmul (typeIs_int s 1 t) F.entry_int_rmul (F.args_int_rmul_2 _ _) (int_rmul_tuple 1 t l its.toArray n dd sl)
          ⟨ho, rfl, ⟨_, ho, rfl⟩, call_meets F.slot_tuple_mul ⟨_, ho, rfl⟩ F.entry_tuple_mul (F.args_tuple_mul_2 _ _) (times1 l its.toArray n dd sl t) ⟨ho, ?_⟩⟩)
      exact ⟨.ref l, H, I, rfl, q1 rfl⟩
def gRepA : T → T → (T → Prop) → Prop
  | .tup xs, .int k, Q => closedL xs = true ∧ xs.isEmpty = false ∧ (0 ≤ k ∧ k ≤ 1000) ∧ xs.length ≤ 1000 ∧ Q (.tup (List.replicate k.toNat xs).flatten)
  | _, _, _ => False
theorem l_repA {K : Frag} : LOp K (rRepA K) gRepA := fun B H x y tx ty Fx Fy hs rx ry Q hw Qv k => by
  match tx, ty, rx, ry, hw with
  | .tup xs, .int n, rx, ry, hw =>
    obtain ⟨a, vs, rfl, h1, r1⟩ := rx.tup_inv hs
    have hne : vs ≠ [] := fun e => by
      have := r1.length
      rw [e] at this
      have e2 : xs = [] := List.eq_nil_of_length_eq_zero this.symm
      rw [e2] at hw
      exact absurd hw.2.1 (by decide)
    refine ⟨a, n, vs, rfl, ry.int_inv.1, h1, hne, hw.2.2.1, by rw [r1.length]; exact hw.2.2.2.1, fun e => ?_, fun e => new_tup hs (rep_rp (r1.c0 hw.1) _) hw.2.2.2.2 k⟩
    subst e
    have q := hw.2.2.2.2
    have e1 : (List.replicate (1 : Int).toNat xs).flatten = xs := by simp
    rw [e1] at q
    exact k _ _ H B [] q (Gro.refl hs) (rx.c0 (by simpa [closed] using hw.1))
end TL

set_option maxRecDepth 100000
set_option maxHeartbeats 1000000
namespace TL
open PySem PySem.Spec PyProof.Rows L2
def tyOk (t : T) : Bool := !(tyN t == "")
def intB (v l : T) : Bool := match v, l with
  | .int i, .int n => decide (n ≤ i)
  | .int _, _ => true
  | _, _ => false
def strB : T → Bool
  | .str _ => true
  | _ => false
def S_is_integer : FS := fun ts Q => ∃ v l, ts = [v, l] ∧ tyOk v = true ∧ (l = .non ∨ ∃ n, l = .int n) ∧ Q (.ret (.bl (intB v l))) [frz v, frz l]
def S_is_one_of : FS := fun ts Q => ∃ v ws, ts = [v, .tup ws] ∧ tyOk v = true ∧ ws.all flT = true ∧ Q (.ret (.bl (strB v && inT v ws))) [frz v, .tup (frzL ws)]
theorem l_is_integer : ∀ ts Q, S_is_integer ts Q → ts.length = 2 := fun ts Q ⟨v, l, e, _⟩ => by rw [e]; rfl
theorem l_is_one_of : ∀ ts Q, S_is_one_of ts Q → ts.length = 2 := fun ts Q ⟨v, l, e, _⟩ => by rw [e]; rfl
abbrev N_is_integer : List Str := ["value", "least"]
def w_is_integer : WS :=
  (wSeq (wIfS (wOr (wNot (wTru (wCl gIsi (wCons (wV 0) (wCons (wC (.ty "int")) wNil))))) (wTru (wCl gIsi (wCons (wV 0) (wCons (wC (.ty "bool")) wNil))))) (wRet 0 (wC (.bl false))) wNext) (wRet 0 (wOrV (wOp (gIs false) (wV 1) (wC .non)) (wOp gGe (wV 0) (wV 1)))))
abbrev N_is_one_of : List Str := ["value", "words"]
def w_is_one_of : WS :=
  (wRet 0 (wAndV (wCl gIsi (wCons (wV 0) (wCons (wC (.ty "str")) wNil))) (wOp (gIn false) (wV 0) (wV 1))))
theorem tyN_frz (t : T) : tyN (frz t) = tyN t := by cases t <;> simp only [frz, tyN]
theorem frz_fl (t : T) (h : flT t = true) : frz t = t := by cases t <;> first | (simp only [frz]; done) | exact absurd h (by simp [flT])
theorem frzL_fl : ∀ ts : List T, ts.all flT = true → frzL ts = ts
  | [], _ => by simp only [frzL]
  | t :: r, h => by
    simp only [List.all_cons, Bool.and_eq_true] at h
    simp only [frzL]; rw [frz_fl t h.1, frzL_fl r h.2]
theorem v_is_integer : ∀ ts Qf, S_is_integer ts Qf → w_is_integer (endsD 0 ts Qf) (startD N_is_integer 0 ts) := by
  rintro ts Qf ⟨v, l, rfl, ht, hl, q⟩
  show w_is_integer (endsD 0 [v, l] Qf) [some (frz v), some (frz l)]
  cases v <;> simp [tyOk, tyN] at ht
  all_goals
    rcases hl with rfl | ⟨n, rfl⟩ <;>
    simpa [w_is_integer, wSeq, wIfS, wOr, wNot, wTru, wCl, wCons, wNil, wV, wC, wRet, wOrV, wOp, look, onV, onVs, gIsi, tyN, isiB, truT, wNext, endsD, lookUp, gIs, isNon, nb, gCmp, frz, intB] using q
theorem v_is_one_of : ∀ ts Qf, S_is_one_of ts Qf → w_is_one_of (endsD 0 ts Qf) (startD N_is_one_of 0 ts) := by
  rintro ts Qf ⟨v, ws, rfl, ht, hw, q⟩
  show w_is_one_of (endsD 0 [v, .tup ws] Qf) [some (frz v), some (.tup (frzL ws))]
  cases v <;> simp [tyOk, tyN] at ht
  all_goals
    simpa [w_is_one_of, wRet, wCl, wCons, wNil, wV, wC, wAndV, wOp, look, onV, onVs, gIsi, tyN, isiB, endsD, lookUp, frz, gIn, strB, nb, flT, hw, frzL_fl ws hw, ← List.all_eq_true] using q
end TL

set_option maxRecDepth 100000
set_option maxHeartbeats 1000000
namespace TL
open PySem PySem.Spec PyProof.Rows L2
/-! ### plain data -/
mutual
def dat : T → Bool
  | .tup xs => datL xs
  | .lst o xs => !o && datL xs
  | .dct o kvs => !o && closedK kvs
  | .non => true | .bl _ => true | .int _ => true | .str _ => true
  | .ins _ _ _ => false | .fn _ => false | .ty _ => false | .exc _ _ _ _ => false | .exv _ _ => false
def datL : List T → Bool
  | [] => true
  | t :: r => dat t && datL r
end
mutual
theorem dat_closed : ∀ t : T, dat t = true → closed t = true
  | .tup xs, h => by simp only [dat] at h; simp only [closed]; exact datL_closed xs h
  | .lst o xs, h => by
    simp only [dat, Bool.and_eq_true] at h
    simp only [closed, Bool.and_eq_true]; exact ⟨h.1, datL_closed xs h.2⟩
  | .dct o kvs, h => by
    simp only [dat] at h
    simp only [closed]; exact h
  | .non, _ => by simp only [closed]
  | .bl _, _ => by simp only [closed]
  | .int _, _ => by simp only [closed]
  | .str _, _ => by simp only [closed]
  | .ins _ _ _, h => by simp [dat] at h
  | .fn _, h => by simp [dat] at h
  | .ty _, h => by simp [dat] at h
  | .exc _ _ _ _, h => by simp [dat] at h
  | .exv _ _, h => by simp [dat] at h
theorem datL_closed : ∀ ts : List T, datL ts = true → closedL ts = true
  | [], _ => by simp only [closedL]
  | t :: r, h => by
    simp only [datL, Bool.and_eq_true] at h
    simp only [closedL, Bool.and_eq_true]; exact ⟨dat_closed t h.1, datL_closed r h.2⟩
end
theorem dat_frz {t : T} (h : dat t = true) : frz t = t := frz_closed t (dat_closed t h)
theorem datL_frz {ts : List T} (h : datL ts = true) : frzL ts = ts := frzL_closed ts (datL_closed ts h)
theorem dat_ty {t : T} (h : dat t = true) : tyOk t = true := by cases t <;> first | rfl | (simp [dat] at h)
theorem datL_iff : ∀ ts : List T, datL ts = true ↔ ∀ t ∈ ts, dat t = true
  | [] => by simp [datL]
  | t :: r => by simp [datL, datL_iff r]
theorem scT_all_closed : ∀ {ts : List T}, ts.all scT = true → closedL ts = true
  | [], _ => by simp only [closedL]
  | t :: r, h => by
    simp only [List.all_cons, Bool.and_eq_true] at h
    simp only [closedL, Bool.and_eq_true]
    exact ⟨by cases t <;> first | (simp only [closed]; done) | exact absurd h.1 (by simp [scT]), scT_all_closed h.2⟩
/-! ### events -/
abbrev levT : List T := [.str "s", .str "l"]
def blB : T → Bool
  | .bl _ => true
  | _ => false
def evB : T → Bool
  | .tup [a, b, c] => intB a .non && ((strB b && inT b levT) && blB c)
  | _ => false
theorem nsl : (("s" : Str) = "l") = False := by decide
theorem nls : (("l" : Str) = "s") = False := by decide
theorem in_lev (l : Str) : inT (.str l) levT = (decide (l = "s") || decide (l = "l")) := by
  simp only [inT, levT, List.any_cons, List.any_nil, scV, eqV, Bool.or_false]
  by_cases h1 : l = "s"
  · subst h1; simp
  · by_cases h2 : l = "l"
    · subst h2; simp
    · have e1 : (("s" : Str) == l) = false := by simpa using fun e => h1 e.symm
      have e2 : (("l" : Str) == l) = false := by simpa using fun e => h2 e.symm
      simp [e1, e2, h1, h2]
theorem evB_inv {x : T} (h : evB x = true) : ∃ t l b, x = .tup [.int t, .str l, .bl b] ∧ (l = "s" ∨ l = "l") := by
  unfold evB at h
  split at h
  · rename_i a b c
    simp only [Bool.and_eq_true] at h
    cases a <;> first | (simp [intB] at h; done) | skip
    cases b <;> first | (simp [strB] at h; done) | skip
    cases c <;> first | (simp [blB] at h; done) | skip
    have h2 := h.2.1.2
    rw [in_lev] at h2
    exact ⟨_, _, _, rfl, by simpa using h2⟩
  · cases h
def S_is_event : FS := fun ts Q => ∃ v, ts = [v] ∧ dat (frz v) = true ∧ Q (.ret (.bl (evB (frz v)))) [frz v]
theorem l_is_event : ∀ ts Q, S_is_event ts Q → ts.length = 1 := fun ts Q ⟨v, e, _⟩ => by rw [e]; rfl
abbrev N_is_event : List Str := ["value"]
def w_is_event : WS :=
  (wSeq (wIfS (wOr (wNot (wTru (wCl gIsi (wCons (wV 0) (wCons (wC (.ty "tuple")) wNil))))) (wTest (wOp (gEq true) (wCl gLen (wCons (wV 0) wNil)) (wC (.int 3))))) (wRet 0 (wC (.bl false))) wNext) (wRet 0 (wAndV (wCallD S_is_integer [.non] (wCons (wOp gIx (wV 0) (wC (.int 0))) wNil)) (wAndV (wCall S_is_one_of (wCons (wOp gIx (wV 0) (wC (.int 1))) (wCons (wC (.tup [.str "s", .str "l"])) wNil))) (wCl gIsi (wCons (wOp gIx (wV 0) (wC (.int 2))) (wCons (wC (.ty "bool")) wNil)))))))
theorem gIsi_at {t : T} {n : String} {Q : T → Prop} (h : tyOk t = true) (hn : (["int", "bool", "str", "list", "tuple", "dict"].contains n) = true) (q : Q (.bl (isiB (tyN t) n))) : gIsi [t, .ty n] Q := ⟨by simpa [tyOk] using h, hn, q⟩
theorem ite_of {c : Bool} {A B : Prop} (h : c = true → A) (k : c = false → B) : if c = true then A else B := by
  cases c with
  | true => exact (if_pos rfl).symm ▸ h rfl
  | false => exact (if_neg Bool.false_ne_true).symm ▸ k rfl
theorem at_is_integer {v : T} {Q : Rs → List T → Prop} (h : tyOk v = true) (q : Q (.ret (.bl (intB v .non))) [frz v, frz .non]) : S_is_integer [v, .non] Q := ⟨v, .non, rfl, h, .inl rfl, q⟩
theorem at_is_one_of {v : T} {ws : List T} {Q : Rs → List T → Prop} (h : tyOk v = true) (hw : ws.all flT = true) (q : Q (.ret (.bl (strB v && inT v ws))) [frz v, .tup (frzL ws)]) : S_is_one_of [v, .tup ws] Q := ⟨v, ws, rfl, h, hw, q⟩
theorem v_is_event : ∀ ts Qf, S_is_event ts Qf → w_is_event (endsD 0 ts Qf) (startD N_is_event 0 ts) := by
  rintro ts Qf ⟨v, rfl, hd, q⟩
  show w_is_event (endsD 0 [v] Qf) [some (frz v)]
  have q' : (endsD 0 [v] Qf).rt (.bl (evB (frz v))) [some (frz v)] := q
  revert q'
  generalize endsD 0 [v] Qf = D
  revert hd
  generalize frz v = u
  intro hd q'
  cases u with
  | tup xs =>
    match xs, hd, q' with
    | [a, b, c], hd, q' =>
      simp only [dat, datL, Bool.and_true, Bool.and_eq_true] at hd
      obtain ⟨ha, hb, hc⟩ := hd
      have ta := dat_ty ha
      have tb := dat_ty hb
      have tc := dat_ty hc
      have cc : (tyN c == "") = false := by simpa [tyOk] using tc
      have fa := dat_frz ha
      have fb := dat_frz hb
      have ca := dat_closed a ha
      have cb := dat_closed b hb
      have cl := dat_closed c hc
      have ec : isiB (tyN c) "bool" = blB c := by cases c <;> first | rfl | (simp [dat] at hc; done) | (simp [tyN, isiB, blB])
      have no : evB (.tup [a, b, c]) = false → D.rt (.bl false) [some (.tup [a, b, c])] := fun e => by rw [← e]; exact q'
      refine ⟨rfl, rfl, ca, rfl, at_is_integer ta (ite_of (fun h1 => ⟨cb, rfl, at_is_one_of tb rfl (ite_of (fun h2 => ⟨cl, cc, rfl, ?_⟩) fun h2 => ?_)⟩) fun h1 => ?_)⟩
      · have e : evB (.tup [a, b, c]) = isiB (tyN c) "bool" := by simp only [evB]; rw [h1, h2, ec]; rfl
        exact e ▸ q'
      · exact no (by simp only [evB]; rw [h1, h2]; rfl)
      · exact no (by simp only [evB]; rw [h1]; rfl)
    | [], hd, q' => simpa [wSeq, wIfS, wOr, wAnd, wNot, wTru, wTest, wCl, wCons, wNil, wV, wC, wRet, wRetN, wOrV, wAndV, wNotV, wOp, wUn, wIf, wAsg, wTake, wgN, wgTup, wgCons, wgNil, wPar, wLst, wTup, wTakes, wDrop, wNext, wNever, look, onV, onVs, truT, gIsi, gIs, isNon, nb, gCmp, gLen, gAbs, gInt, endsD, lookUp, frz, wCall, wCallD, dupOk, hasPl, closedAt, backs, tyN, isiB, w_is_event, gEq, evB] using q'
    | [a], hd, q' => simpa [wSeq, wIfS, wOr, wAnd, wNot, wTru, wTest, wCl, wCons, wNil, wV, wC, wRet, wRetN, wOrV, wAndV, wNotV, wOp, wUn, wIf, wAsg, wTake, wgN, wgTup, wgCons, wgNil, wPar, wLst, wTup, wTakes, wDrop, wNext, wNever, look, onV, onVs, truT, gIsi, gIs, isNon, nb, gCmp, gLen, gAbs, gInt, endsD, lookUp, frz, wCall, wCallD, dupOk, hasPl, closedAt, backs, tyN, isiB, w_is_event, gEq, evB] using q'
    | [a, b], hd, q' => simpa [wSeq, wIfS, wOr, wAnd, wNot, wTru, wTest, wCl, wCons, wNil, wV, wC, wRet, wRetN, wOrV, wAndV, wNotV, wOp, wUn, wIf, wAsg, wTake, wgN, wgTup, wgCons, wgNil, wPar, wLst, wTup, wTakes, wDrop, wNext, wNever, look, onV, onVs, truT, gIsi, gIs, isNon, nb, gCmp, gLen, gAbs, gInt, endsD, lookUp, frz, wCall, wCallD, dupOk, hasPl, closedAt, backs, tyN, isiB, w_is_event, gEq, evB] using q'
    | a :: b :: c :: d :: r, hd, q' =>
      have e : ¬ ((r.length : Int) + 1 + 1 + 1 + 1 = 3) := by omega
      simpa [wSeq, wIfS, wOr, wAnd, wNot, wTru, wTest, wCl, wCons, wNil, wV, wC, wRet, wRetN, wOrV, wAndV, wNotV, wOp, wUn, wIf, wAsg, wTake, wgN, wgTup, wgCons, wgNil, wPar, wLst, wTup, wTakes, wDrop, wNext, wNever, look, onV, onVs, truT, gIsi, gIs, isNon, nb, gCmp, gLen, gAbs, gInt, endsD, lookUp, frz, wCall, wCallD, dupOk, hasPl, closedAt, backs, tyN, isiB, w_is_event, gEq, evB, e] using q'
  | ins o C fs => simp [dat] at hd
  | fn a => simp [dat] at hd
  | ty n => simp [dat] at hd
  | exc a y od fs => simp [dat] at hd
  | exv y fs => simp [dat] at hd
  | _ => simpa [wSeq, wIfS, wOr, wAnd, wNot, wTru, wTest, wCl, wCons, wNil, wV, wC, wRet, wRetN, wOrV, wAndV, wNotV, wOp, wUn, wIf, wAsg, wTake, wgN, wgTup, wgCons, wgNil, wPar, wLst, wTup, wTakes, wDrop, wNext, wNever, look, onV, onVs, truT, gIsi, gIs, isNon, nb, gCmp, gLen, gAbs, gInt, endsD, lookUp, frz, wCall, wCallD, dupOk, hasPl, closedAt, backs, tyN, isiB, w_is_event, evB] using q'
end TL

set_option maxRecDepth 100000
set_option maxHeartbeats 1000000
namespace TL
open PySem PySem.Spec PyProof.Rows L2
def lateB : Option Int → Int → Bool
  | none, _ => false
  | some m, t => decide (t < m)
def optT : Option Int → T
  | none => .non
  | some m => .int m
def fgo (n : Nat) : Nat → List Str → Option Int → List T → List T
  | _, dn, _, [] => if dn = [] then [] else [.int n]
  | i, dn, la, .tup [.int t, .str l, .bl b] :: xs => if (l = "s" ∨ l = "l") ∧ lateB la t = false ∧ b ≠ dn.contains l then fgo n (i + 1) (if b = true then dn ++ [l] else dn.filter fun z => decide (z ≠ l)) (some t) xs else [.int i]
  | i, _, _, _ :: _ => [.int i]
def faultL : T → List T
  | .lst _ xs => if 200 < xs.length then [.non] else fgo xs.length 0 [] none xs
  | _ => [.non]
theorem fgo_no {n i : Nat} {dn : List Str} {la : Option Int} {x : T} {xs : List T} (h : evB x = false) : fgo n i dn la (x :: xs) = [.int i] := by
  unfold fgo
  split
  · rename_i e; cases e
  · rename_i t l b xs' e
    cases e
    simp only [evB, intB, strB, blB, Bool.true_and, Bool.and_true] at h
    rw [in_lev] at h
    simp only [Bool.or_eq_false_iff, decide_eq_false_iff_not] at h
    rw [if_neg (fun z => z.1.elim h.1 h.2)]
  · rename_i e; cases e; rfl
theorem z1 : 1 ≤ sizeLine := by decide
theorem takes_vals : ∀ {ts : List T} {ps : List PV} {Δ : Dt} {k : List T → Dt → Prop}, wTakes ps Δ (fun us Δ' => k (ts.map frz ++ us) Δ') → wTakes (ts.map PV.val ++ ps) Δ k
  | [], ps, Δ, k, h => h
  | t :: ts, ps, Δ, k, h => takes_vals (ts := ts) (k := fun us Δ' => k (frz t :: us) Δ') h
theorem strs_fl (dn : List Str) : (dn.map T.str).all flT = true := by simp [flT]
theorem strs_frz (dn : List Str) : frzL (dn.map T.str) = dn.map T.str := frzL_fl _ (strs_fl dn)
theorem inT_strs (l : Str) : ∀ dn : List Str, inT (.str l) (dn.map T.str) = dn.contains l
  | [] => rfl
  | d :: dn => by
    have ih := inT_strs l dn
    simp only [inT, List.map_cons, List.any_cons, List.contains_cons, scV, eqV] at ih ⊢
    rw [ih]
    congr 1
    by_cases h : d = l
    · subst h; simp
    · have e1 : (d == l) = false := by simpa using h
      have e2 : (l == d) = false := by simpa using fun e : l = d => h e.symm
      rw [e1, e2]
theorem drop_at {α : Type} {xs : List α} {i : Nat} {x : α} (h : xs[i]? = some x) : xs.drop i = x :: xs.drop (i + 1) := by
  obtain ⟨hi, e⟩ := List.getElem?_eq_some_iff.mp h
  rw [List.drop_eq_getElem_cons hi, e]
theorem take_at {α : Type} {xs : List α} {i : Nat} {x : α} (h : xs[i]? = some x) : xs.take (i + 1) = xs.take i ++ [x] := by
  rw [List.take_add_one, h]; rfl
def S_fault_of_record : FS := fun ts Q => ∃ v, ts = [v] ∧ dat (frz v) = true ∧ Q (.ret (.lst true (faultL (frz v)))) [frz v]
theorem l_fault_of_record : ∀ ts Q, S_fault_of_record ts Q → ts.length = 1 := fun ts Q ⟨v, e, _⟩ => by rw [e]; rfl
theorem at_is_event {x : T} {Q : Rs → List T → Prop} (h : dat x = true) (q : Q (.ret (.bl (evB x))) [x]) : S_is_event [x] Q := ⟨x, rfl, by rw [dat_frz h]; exact h, by rw [dat_frz h]; exact q⟩
theorem eqT_strs {dn : List Str} {o : Bool} : eqT (.lst o (dn.map .str)) (.lst true []) = decide (dn = []) := by
  cases dn with
  | nil => rfl
  | cons d r => rfl
theorem okT_strs {dn : List Str} {o : Bool} (h : ∀ z ∈ dn, z = "s" ∨ z = "l") : okT (.lst o (dn.map .str)) = true := by
  simp only [okT]
  rw [okL_iff]
  intro t ht
  obtain ⟨z, hz, rfl⟩ := List.mem_map.mp ht
  rcases h z hz with rfl | rfl <;> decide +kernel
theorem dpT_strs {dn : List Str} {o : Bool} : dpT (.lst o (dn.map .str)) ≤ 60 := by
  have : ∀ dn : List Str, dpL (dn.map .str) = 0 := fun dn => by
    induction dn with
    | nil => rfl
    | cons d r ih => simp only [List.map_cons, dpL, dpT, ih]; rfl
  simp only [dpT]; rw [this]; decide
abbrev N_fault_of_record : List Str := ["value", "down", "last", "index", "item", "tick", "lever", "is_down", "other"]
def w_fault_of_record : WS :=
  (wSeq (wIfS (wOr (wNot (wTru (wCl gIsi (wCons (wV 0) (wCons (wC (.ty "list")) wNil))))) (wTest (wOp gGt (wCl gLen (wCons (wV 0) wNil)) (wC (.int 200))))) (wRet 0 (wLst (wCons (wC .non) wNil))) wNext) (wSeq (wPar 1 2 (wCons (wLst wNil) (wCons (wC .non) wNil))) (wSeq (wFor (wiEnum (wCons (wV 0) wNil)) (wgTup 2 (wgCons (wgN 3) (wgCons (wgN 4) wgNil))) (wSeq (wIfS (wNot (wTru (wCall S_is_event (wCons (wV 4) wNil)))) (wRet 0 (wLst (wCons (wV 3) wNil))) wNext) (wSeq (wAsg (wV 4) (wgTup 3 (wgCons (wgN 5) (wgCons (wgN 6) (wgCons (wgN 7) wgNil))))) (wSeq (wIfS (wOr (wAnd (wTest (wOp (gIs true) (wV 2) (wC .non))) (wTest (wOp gLt (wV 5) (wV 2)))) (wTest (wOp (gEq false) (wV 7) (wOp (gIn false) (wV 6) (wV 1))))) (wRet 0 (wLst (wCons (wV 3) wNil))) wNext) (wSeq (wAsg (wIf (wTru (wV 7)) (wLst (wStar (wV 1) (wCons (wV 6) wNil))) (wLc (wiList (wV 1)) (wgN 8) (wTest (wOp (gEq true) (wV 8) (wV 6))) (wV 8) [8])) (wgN 1)) (wAsg (wV 5) (wgN 2))))))) (wRet 0 (wIf (wTest (wOp (gEq false) (wV 1) (wLst wNil))) (wLst wNil) (wLst (wCons (wCl gLen (wCons (wV 0) wNil)) wNil)))))))
theorem v_fault_of_record : ∀ ts Qf, S_fault_of_record ts Qf → w_fault_of_record (endsD 0 ts Qf) (startD N_fault_of_record 0 ts) := by
  rintro ts Qf ⟨v, rfl, hd, q⟩
  show w_fault_of_record (endsD 0 [v] Qf) [some (frz v), none, none, none, none, none, none, none, none]
  have fin : ∀ t Δ, t = .lst true (faultL (frz v)) → (endsD 0 [v] Qf).rt t Δ := fun t Δ e => by rw [e]; exact q
  revert fin
  generalize endsD 0 [v] Qf = D
  revert hd
  generalize frz v = u
  intro hd fin
  cases u with
  | lst o xs =>
    have ho : o = false := by simp [dat] at hd; exact hd.1
    subst ho
    have hx : datL xs = true := by simp [dat] at hd; exact hd
    have ex : frzL xs = xs := datL_frz hx
    have hz : ∀ i x, xs[i]? = some x → dat x = true := fun i x e => (datL_iff xs).mp hx x (List.mem_of_getElem? e)
    refine ⟨rfl, rfl, ite_of (fun h => ⟨z1, fin _ _ ?_⟩) fun h => ?_⟩
    · have h' : 200 < xs.length := by have := of_decide_eq_true h; omega
      simp only [faultL, if_pos h']; rfl
    · have h' : ¬ 200 < xs.length := by have := of_decide_eq_false h; omega
      have ef : faultL (.lst false xs) = fgo xs.length 0 [] none xs := if_neg h'
      refine ⟨Nat.zero_le _, fun i Δ => ∃ (o' : Bool) (dn : List Str) (ys : List T) (la : Option Int) (x3 x4 x5 x6 x7 x8 : Option T), Δ = [some (.lst false (frzL xs)), some (.lst o' ys), some (optT la), x3, x4, x5, x6, x7, x8] ∧ ys = dn.map .str ∧ (∀ z ∈ dn, z = "s" ∨ z = "l") ∧ dn.length ≤ i ∧ fgo xs.length 0 [] none xs = fgo xs.length i dn la (xs.drop i),
        ⟨true, [], [], none, none, none, none, none, none, none, rfl, rfl, (fun _ z => (nomatch z)), Nat.zero_le _, rfl⟩, ?_, ?_⟩
      · rintro i t Δ ht ⟨o', dn, ys, la, x3, x4, x5, x6, x7, x8, rfl, rfl, hdn, hdl, hf⟩
        rw [enumT_get, ex, ex] at ht
        cases hxi : xs[i]? with
        | none => rw [hxi] at ht; cases ht
        | some x =>
          rw [hxi] at ht
          obtain rfl : T.tup [.int ((0 + i : Nat) : Int), x] = t := Option.some.inj ht
          have dx := hz i x hxi
          rw [drop_at hxi] at hf
          have ei : ((0 + i : Nat) : Int) = (i : Int) := by omega
          cases hev : evB x with
          | false =>
            refine ⟨rfl, rfl, at_is_event dx (ite_of (fun _ => ⟨z1, fin _ _ ?_⟩) fun h => ?_)⟩
            · rw [ef, hf, fgo_no hev, ← ei]; rfl
            · rw [hev] at h; cases h
          | true =>
            obtain ⟨t, l, b, rfl, hl⟩ := evB_inv hev
            refine ⟨rfl, rfl, at_is_event dx (ite_of (fun h => ?_) fun _ => ⟨rfl, ?_⟩)⟩
            · rw [hev] at h; cases h
            have bad : (lateB la t = true ∨ b = dn.contains l) → ∀ Δ, D.rt (.lst true [.int ((0 + i : Nat) : Int)]) Δ := fun hb Δ => fin _ _ (by
              rw [ef, hf, ei]
              unfold fgo
              rw [if_neg]
              rintro ⟨_, h1, h2⟩
              rcases hb with hb | hb
              · rw [hb] at h1; cases h1
              · exact h2 hb)
            have good : lateB la t = false → b ≠ dn.contains l → fgo xs.length 0 [] none xs = fgo xs.length (i + 1) (if b = true then dn ++ [l] else dn.filter fun z => decide (z ≠ l)) (some t) (xs.drop (i + 1)) := fun h1 h2 => by
              rw [hf]
              conv => lhs; unfold fgo
              rw [if_pos ⟨hl, h1, h2⟩]
            -- what stands behind the tests
            have rest : lateB la t = false → b ≠ dn.contains l → ∀ (Dn : EndsD) (y2 y3 y4 : Option T), Dn.nx = (fun Δ => ∃ (o' : Bool) (dn : List Str) (ys : List T) (la : Option Int) (x3 x4 x5 x6 x7 x8 : Option T), Δ = [some (.lst false (frzL xs)), some (.lst o' ys), some (optT la), x3, x4, x5, x6, x7, x8] ∧ ys = dn.map .str ∧ (∀ z ∈ dn, z = "s" ∨ z = "l") ∧ dn.length ≤ i + 1 ∧ fgo xs.length 0 [] none xs = fgo xs.length (i + 1) dn la (xs.drop (i + 1))) →
                wSeq (wAsg (wIf (wTru (wV 7)) (wLst (wStar (wV 1) (wCons (wV 6) wNil))) (wLc (wiList (wV 1)) (wgN 8) (wTest (wOp (gEq true) (wV 8) (wV 6))) (wV 8) [8])) (wgN 1)) (wAsg (wV 5) (wgN 2)) Dn
                  [some (.lst false (frzL xs)), some (.lst o' (dn.map .str)), y2, y3, y4, some (.int t), some (.str l), some (.bl b), x8] := fun h1 h2 Dn y2 y3 y4 hn => by
              have g := good h1 h2
              have hi : i < xs.length := (List.getElem?_eq_some_iff.mp hxi).1
              have hz2 : dn.length + 1 ≤ sizeLine := by rw [sizeLine_eq]; omega
              cases b with
              | true =>
                refine takes_vals ⟨?_, ?_⟩
                · rw [strs_frz, strs_frz]
                  simpa using hz2
                · show Dn.nx _
                  rw [hn]
                  refine ⟨true, dn ++ [l], _, some t, _, _, _, _, _, _, rfl, ?_, ?_, by simp; omega, g⟩
                  · rw [strs_frz, strs_frz, ← frzL_map, strs_frz]
                    simp [frz]
                  · intro z hz; rcases List.mem_append.mp hz with hz | hz
                    · exact hdn z hz
                    · rw [List.mem_singleton.mp hz]; exact hl
              | false =>
                refine ⟨fun j acc Δ => Δ = [some (.lst false (frzL xs)), some (.lst false (frzL (dn.map .str))), y2, y3, y4, some (.int t), some (.str l), some (.bl false), none] ∧ acc = ((dn.take j).filter fun z => decide (z ≠ l)).map .str,
                  ⟨rfl, rfl⟩, ?_, ?_⟩
                · rintro j y acc Δ hy ⟨rfl, rfl⟩
                  rw [strs_frz, strs_frz, List.getElem?_map] at hy
                  cases hj : dn[j]? with
                  | none => rw [hj] at hy; cases hy
                  | some d =>
                    rw [hj] at hy
                    obtain rfl : T.str d = y := Option.some.inj hy
                    have et := take_at hj
                    refine ite_of (fun h => ⟨?_, rfl, ?_⟩) fun h => ⟨rfl, ?_⟩
                    · rw [List.length_map]
                      have h1 := List.length_filter_le (fun z => decide (z ≠ l)) (dn.take j)
                      have h2 : (dn.take j).length ≤ dn.length := by rw [List.length_take]; omega
                      omega
                    · rw [et, List.filter_append]
                      have e : ¬ d = l := by simpa [nb] using h
                      simp [List.filter_cons, e, frz]
                    · rw [et, List.filter_append]
                      have e : d = l := by simpa [nb] using h
                      simp [List.filter_cons, e]
                · rintro acc Δ ⟨rfl, rfl⟩
                  show Dn.nx _
                  rw [hn]
                  have e : (frzL (frzL (dn.map T.str))).length = dn.length := by rw [strs_frz, strs_frz, List.length_map]
                  refine ⟨true, dn.filter (fun z => decide (z ≠ l)), _, some t, _, _, _, _, _, _, rfl, ?_, ?_, ?_, g⟩
                  · rw [e, List.take_length]
                  · intro z hz; exact hdn z (List.mem_filter.mp hz).1
                  · have h1 := List.length_filter_le (fun z => decide (z ≠ l)) dn
                    omega
            have last : lateB la t = false → ∀ (Dn : EndsD) (y2 y3 y4 : Option T), Dn.rt = D.rt → Dn.nx = (fun Δ => ∃ (o' : Bool) (dn : List Str) (ys : List T) (la : Option Int) (x3 x4 x5 x6 x7 x8 : Option T), Δ = [some (.lst false (frzL xs)), some (.lst o' ys), some (optT la), x3, x4, x5, x6, x7, x8] ∧ ys = dn.map .str ∧ (∀ z ∈ dn, z = "s" ∨ z = "l") ∧ dn.length ≤ i + 1 ∧ fgo xs.length 0 [] none xs = fgo xs.length (i + 1) dn la (xs.drop (i + 1))) →
                (if nb false (decide (b = nb false (inT (.str l) (dn.map .str)))) = true then wRet 0 (wLst (wCons (wV 3) wNil)) Dn [some (.lst false (frzL xs)), some (.lst o' (dn.map .str)), y2, some (.int ((0 + i : Nat) : Int)), y4, some (.int t), some (.str l), some (.bl b), x8]
                  else wSeq (wAsg (wIf (wTru (wV 7)) (wLst (wStar (wV 1) (wCons (wV 6) wNil))) (wLc (wiList (wV 1)) (wgN 8) (wTest (wOp (gEq true) (wV 8) (wV 6))) (wV 8) [8])) (wgN 1)) (wAsg (wV 5) (wgN 2)) Dn
                    [some (.lst false (frzL xs)), some (.lst o' (dn.map .str)), y2, some (.int ((0 + i : Nat) : Int)), y4, some (.int t), some (.str l), some (.bl b), x8]) := fun h1 Dn y2 y3 y4 hrt hn => by
              rw [inT_strs]
              refine ite_of (fun h => ⟨z1, ?_⟩) fun h => rest h1 (of_decide_eq_false h) Dn y2 _ y4 hn
              show Dn.rt _ _
              rw [hrt]
              exact bad (.inr (of_decide_eq_true h)) _
            cases la with
            | none => exact ⟨rfl, strs_fl dn, last rfl _ _ none _ rfl rfl⟩
            | some m =>
              refine ite_of (fun h => ⟨z1, bad (.inl h) _⟩) fun h => ⟨rfl, strs_fl dn, last h _ _ none _ rfl rfl⟩
      · rintro Δ ⟨o', dn, ys, la, x3, x4, x5, x6, x7, x8, rfl, rfl, hdn, hdl, hf⟩
        have hfd : fgo xs.length 0 [] none xs = if dn = [] then [] else [.int xs.length] := by
          have e : (enumT 0 (frzL (frzL xs))).length = xs.length := by rw [enumT_len, ex, ex]
          rw [e, List.drop_length] at hf
          rw [hf]; rfl
        refine ⟨Nat.zero_le _, ⟨okT_strs hdn, rfl⟩, Nat.le_trans (Nat.min_le_left _ _) dpT_strs, ?_⟩
        have e : (if false = true then !eqT (.lst o' (dn.map .str)) (.lst true []) else eqT (.lst o' (dn.map .str)) (.lst true [])) = decide (dn = []) := eqT_strs
        show (match T.bl (if false = true then !eqT (.lst o' (dn.map .str)) (.lst true []) else eqT (.lst o' (dn.map .str)) (.lst true [])) with
          | .bl b => _
          | _ => False)
        rw [e]
        by_cases hdn0 : dn = []
        · rw [decide_eq_true hdn0]
          exact ⟨Nat.zero_le _, fin _ _ (by rw [ef, hfd, if_pos hdn0])⟩
        · rw [decide_eq_false hdn0]
          exact ⟨z1, fin _ _ (by rw [ef, hfd, if_neg hdn0, ex]; rfl)⟩
  | ins o C fs => simp [dat] at hd
  | fn a => simp [dat] at hd
  | ty n => simp [dat] at hd
  | exc a y od fs => simp [dat] at hd
  | exv y fs => simp [dat] at hd
  | _ => exact ⟨rfl, rfl, by decide, fin _ _ rfl⟩
end TL

set_option maxRecDepth 100000
set_option maxHeartbeats 1000000
namespace TL
open PySem PySem.Spec PyProof.Rows L2
theorem z2 : 2 ≤ sizeLine := by decide
theorem zz2 : 2 < sizeLine := by decide
theorem z3 : 3 ≤ sizeLine := by decide
theorem fgo_cases (n : Nat) : ∀ (xs : List T) (i : Nat) (dn : List Str) (la : Option Int), i + xs.length = n → fgo n i dn la xs = [] ∨ ∃ j : Nat, j ≤ n ∧ fgo n i dn la xs = [.int j]
  | [], i, dn, la, e => by
    unfold fgo
    by_cases h : dn = []
    · exact .inl (if_pos h)
    · exact .inr ⟨n, Nat.le_refl n, if_neg h⟩
  | x :: xs, i, dn, la, e => by
    have e2 : i + 1 + xs.length = n := by rw [← e, List.length_cons]; omega
    cases h : evB x with
    | false => exact .inr ⟨i, by omega, fgo_no h⟩
    | true =>
      obtain ⟨t, l, b, rfl, hl⟩ := evB_inv h
      unfold fgo
      split
      · exact fgo_cases n xs (i + 1) _ _ e2
      · exact .inr ⟨i, by omega, rfl⟩
theorem fault_cases {u : T} : faultL u = [] ∨ faultL u = [.non] ∨ ∃ j : Nat, j ≤ 200 ∧ faultL u = [.int j] := by
  cases u with
  | lst o xs =>
    unfold faultL
    dsimp only
    split
    · exact .inr (.inl rfl)
    · rcases fgo_cases xs.length xs 0 [] none (by omega) with h | ⟨j, hj, h⟩
      · exact .inl h
      · exact .inr (.inr ⟨j, by omega, h⟩)
  | _ => exact .inr (.inl rfl)
def recB (u : T) : Bool := match faultL u with
  | [] => true
  | _ => false
theorem at_fault {x : T} {Q : Rs → List T → Prop} (h : dat x = true) (q : Q (.ret (.lst true (faultL x))) [x]) : S_fault_of_record [x] Q := ⟨x, rfl, by rw [dat_frz h]; exact h, by rw [dat_frz h]; exact q⟩
theorem okT_nat {j : Nat} (h : j < 2 ^ 1920) : okT (.int (j : Int)) = true := by
  simp only [okT, decide_eq_true_eq, Int.natAbs_natCast]
  by_cases h0 : j = 0
  · subst h0; decide
  · exact (Nat.log2_lt h0).mpr h
theorem eq_fault {u : T} {Q : T → Prop} (q : Q (.bl (recB u))) : gEq false (.lst true (faultL u)) (.lst true []) Q := by
  have e0 : recB u = match faultL u with
    | [] => true
    | _ => false := rfl
  rcases fault_cases (u := u) with h | h | ⟨j, hj, h⟩ <;> rw [h] at e0 ⊢ <;> rw [e0] at q
  · exact ⟨⟨rfl, rfl⟩, by decide, q⟩
  · exact ⟨⟨rfl, rfl⟩, by decide, q⟩
  · refine ⟨⟨?_, rfl⟩, by show min 1 1 ≤ 60; decide, q⟩
    have := okT_nat (j := j) (Nat.lt_of_le_of_lt hj (by decide +kernel))
    simp only [okT, okL, Bool.and_true] at this ⊢
    exact this
def kvD (ds dl : Bool) : List (Key × T) := [(.inr "s", .bl ds), (.inr "l", .bl dl)]
def lgo : Bool → Bool → Option Int → List T → Bool
  | ds, dl, _, [] => !ds && !dl
  | ds, dl, la, .tup [.int t, .str l, .bl b] :: xs => if l = "s" then (if ds = b ∨ lateB la t = true then false else lgo b dl (some t) xs) else if l = "l" then (if dl = b ∨ lateB la t = true then false else lgo ds b (some t) xs) else false
  | _, _, _, _ :: _ => false
def lawB : T → Bool
  | .lst _ xs => if 200 < xs.length then false else lgo false false none xs
  | _ => false
theorem lgo_no {ds dl : Bool} {la : Option Int} {x : T} {xs : List T} (h : evB x = false) : lgo ds dl la (x :: xs) = false := by
  unfold lgo
  split
  · rename_i e; cases e
  · rename_i t l b xs' e
    cases e
    simp only [evB, intB, strB, blB, Bool.true_and, Bool.and_true] at h
    rw [in_lev] at h
    simp only [Bool.or_eq_false_iff, decide_eq_false_iff_not] at h
    rw [if_neg h.1, if_neg h.2]
  · rfl
theorem sl_ne : ¬ ("s" : Str) = "l" := by decide
theorem ls_ne : ¬ ("l" : Str) = "s" := by decide
theorem put_s (ds dl b : Bool) : putT (kvD ds dl) (.inr "s") (.bl b) = kvD b dl := by
  simp [putT, kvD, Sum.inr.injEq, ls_ne]
theorem put_l (ds dl b : Bool) : putT (kvD ds dl) (.inr "l") (.bl b) = kvD ds b := by
  simp [putT, kvD, Sum.inr.injEq, sl_ne]
theorem val_s (ds dl : Bool) : valT (kvD ds dl) (.inr "s") = some (.bl ds) := by simp [valT, kvD, List.find?_cons]
theorem val_l (ds dl : Bool) : valT (kvD ds dl) (.inr "l") = some (.bl dl) := by simp [valT, kvD, List.find?_cons, sl_ne]
theorem dget_s {o : Bool} {ds dl : Bool} {Q : T → Prop} (q : Q (.bl ds)) : gDGet (.dct o (kvD ds dl)) (.str "s") Q := by
  show (match valT (kvD ds dl) (.inr "s") with
    | some t => closed t = true ∧ Q t
    | none => False)
  rw [val_s]; exact ⟨rfl, q⟩
theorem dget_l {o : Bool} {ds dl : Bool} {Q : T → Prop} (q : Q (.bl dl)) : gDGet (.dct o (kvD ds dl)) (.str "l") Q := by
  show (match valT (kvD ds dl) (.inr "l") with
    | some t => closed t = true ∧ Q t
    | none => False)
  rw [val_l]; exact ⟨rfl, q⟩
theorem isi_bool {a : T} (h : isiB (tyN a) "bool" = true) : ∃ b, a = .bl b := by cases a <;> first | exact ⟨_, rfl⟩ | (simp [isiB, tyN] at h)
theorem isi_int {a : T} (h : isiB (tyN a) "bool" = false) (k : isiB (tyN a) "int" = true) : ∃ i, a = .int i := by cases a <;> first | exact ⟨_, rfl⟩ | (simp [isiB, tyN] at h k)
theorem isi_str {a : T} (h : isiB (tyN a) "str" = true) : ∃ b, a = .str b := by cases a <;> first | exact ⟨_, rfl⟩ | (simp [isiB, tyN] at h)
theorem of_not {b : Bool} (h : (!b) = false) : b = true := by cases b <;> simp_all
theorem ev_bool {a b c : T} (h : isiB (tyN a) "bool" = true) : evB (.tup [a, b, c]) = false := by
  obtain ⟨x, rfl⟩ := isi_bool h; rfl
theorem ev_int {a b c : T} (h : isiB (tyN a) "int" = false) : evB (.tup [a, b, c]) = false := by
  cases a <;> first | rfl | (simp [isiB, tyN] at h)
theorem ev_c {a b c : T} (h : isiB (tyN c) "bool" = false) : evB (.tup [a, b, c]) = false := by
  have : blB c = false := by cases c <;> first | rfl | (simp [isiB, tyN] at h)
  simp [evB, this]
theorem ev_str {a b c : T} (h : isiB (tyN b) "str" = false) : evB (.tup [a, b, c]) = false := by
  have : strB b = false := by cases b <;> first | rfl | (simp [isiB, tyN] at h)
  simp [evB, this]
/-! ### the two judgements agree -/
theorem agree (n : Nat) : ∀ (xs : List T) (i : Nat) (dn : List Str) (la : Option Int), (∀ z ∈ dn, z = "s" ∨ z = "l") → (match fgo n i dn la xs with
    | [] => true
    | _ => false) = lgo (dn.contains "s") (dn.contains "l") la xs
  | [], i, dn, la, h => by
    unfold fgo lgo
    cases dn with
    | nil => rfl
    | cons d r =>
      rw [if_neg (List.cons_ne_nil _ _)]
      rcases h d (List.mem_cons_self ..) with rfl | rfl
      · simp
      · simp
  | x :: xs, i, dn, la, h => by
    cases hev : evB x with
    | false => rw [fgo_no hev, lgo_no hev]
    | true =>
      obtain ⟨t, l, b, rfl, hl⟩ := evB_inv hev
      have next : ∀ dn' : List Str, (∀ z ∈ dn', z = "s" ∨ z = "l") → _ := fun dn' h' => agree n xs (i + 1) dn' (some t) h'
      have hup : ∀ z ∈ (if b = true then dn ++ [l] else dn.filter fun z => decide (z ≠ l)), z = "s" ∨ z = "l" := fun z hz => by
        split at hz
        · rcases List.mem_append.mp hz with hz | hz
          · exact h z hz
          · rw [List.mem_singleton.mp hz]; exact hl
        · exact h z (List.mem_filter.mp hz).1
      have step := next _ hup
      have cs : (if b = true then dn ++ [l] else dn.filter fun z => decide (z ≠ l)).contains "s" = if l = "s" then b else dn.contains "s" := by
        rcases hl with rfl | rfl
        · cases b <;> simp
        · cases b <;> simp [sl_ne, ls_ne]
      have cl : (if b = true then dn ++ [l] else dn.filter fun z => decide (z ≠ l)).contains "l" = if l = "l" then b else dn.contains "l" := by
        rcases hl with rfl | rfl
        · cases b <;> simp [sl_ne, ls_ne]
        · cases b <;> simp
      rw [cs, cl] at step
      unfold fgo lgo
      rcases hl with rfl | rfl
      · rw [if_pos rfl, if_neg sl_ne] at step
        rw [if_pos rfl]
        by_cases hb : dn.contains "s" = b
        · rw [if_neg (fun z => z.2.2 hb.symm), if_pos (.inl hb)]
        · cases hla : lateB la t with
          | true => rw [if_neg (fun z => by simp at z), if_pos (.inr rfl)]
          | false =>
            rw [if_pos ⟨.inl rfl, rfl, fun z => hb z.symm⟩, if_neg (show ¬ (dn.contains "s" = b ∨ false = true) from fun z => z.elim hb Bool.false_ne_true)]
            exact step
      · rw [if_pos rfl, if_neg ls_ne] at step
        rw [if_neg ls_ne, if_pos rfl]
        by_cases hb : dn.contains "l" = b
        · rw [if_neg (fun z => z.2.2 hb.symm), if_pos (.inl hb)]
        · cases hla : lateB la t with
          | true => rw [if_neg (fun z => by simp at z), if_pos (.inr rfl)]
          | false =>
            rw [if_pos ⟨.inr rfl, rfl, fun z => hb z.symm⟩, if_neg (show ¬ (dn.contains "l" = b ∨ false = true) from fun z => z.elim hb Bool.false_ne_true)]
            exact step
theorem judged {u : T} : recB u = lawB u := by
  cases u with
  | lst o xs =>
    unfold recB lawB faultL
    dsimp only
    by_cases h : 200 < xs.length
    · rw [if_pos h, if_pos h]
    · rw [if_neg h, if_neg h]
      exact agree xs.length xs 0 [] none fun _ z => nomatch z
  | _ => rfl
end TL

set_option maxRecDepth 100000
set_option maxHeartbeats 1000000
namespace TL
open PySem PySem.Spec PyProof.Rows L2
theorem z4 : 4 ≤ sizeLine := by decide
theorem bits_lt {x : Int} {n : Nat} (h : x.natAbs < 2 ^ n) (h0 : 0 < n) : Builtin.Int.intBits x ≤ n := by
  have b : Builtin.Int.intBits x ≤ x.natAbs.log2 + 1 := by
    unfold Builtin.Int.intBits
    split <;> omega
  have := PySem.Flt.log2_lt_of h0 h
  omega
theorem pow_ok {x : Int} {n : Nat} (h : x.natAbs < 2 ^ n) (h0 : 0 < n) (hn : n ≤ 1000000) : (Builtin.Int.intBits x : Int) * 3 ≤ 2 ^ 27 := by
  have := bits_lt h h0
  have e : (2 : Int) ^ 27 = 134217728 := by decide
  rw [e]; omega
/-- the numbers that draw -/
def Fo (n : Nat) (t : T) : Prop := ∃ a b c : Int, t = .lst true [.int a, .int b, .int c] ∧ 0 ≤ a ∧ (0 ≤ b ∧ b < 2 ^ 200) ∧ 0 ≤ c ∧ c ≤ n
theorem ints_frz (ns : List Int) : frzL (ns.map T.int) = ns.map T.int := frzL_fl _ (by simp [flT])
def S__law_fount : FS := fun ts Q => ∃ (o : Bool) (ns : List Int) (k : Int), ts = [.lst o (ns.map .int), .int k] ∧ (0 ≤ k ∧ k ≤ 3) ∧ ∀ t, Fo 0 t → Q (.ret t) [.lst false (ns.map .int), .int k]
theorem l__law_fount : ∀ ts Q, S__law_fount ts Q → ts.length = 2 := fun ts Q ⟨o, ns, k, e, _⟩ => by rw [e]; rfl
theorem at_int {ns : List Int} {k : Int} (h0 : 0 ≤ k) (h : k < ns.length) : ∃ n, atI (ns.map T.int) k = some (.int n) := by
  have hk : k.toNat < ns.length := by omega
  refine ⟨ns[k.toNat], ?_⟩
  unfold atI ixN
  rw [List.length_map, if_pos h0, if_pos h]
  simp [hk]
theorem lt_pow {x : Int} {n : Nat} (h0 : 0 ≤ x) (h : x < 2 ^ n) : x.natAbs < 2 ^ n := by
  have e : ((x.natAbs : Nat) : Int) = x := by omega
  have : ((x.natAbs : Nat) : Int) < ((2 ^ n : Nat) : Int) := by rw [e]; push_cast; exact h
  exact_mod_cast this
abbrev N__law_fount : List Str := ["script", "k", "cell"]
def w__law_fount : WS :=
  (wSeq (wAsg (wIf (wTest (wOp gLt (wV 1) (wCl gLen (wCons (wV 0) wNil)))) (wCl gAbs (wCons (wCl gInt (wCons (wOp gIx (wV 0) (wV 1)) wNil)) wNil)) (wC (.int 0))) (wgN 2)) (wRet 0 (wLst (wCons (wCl gMax2 (wCons (wC (.int 0)) (wCons (wOp TL.gSub (wV 2) (wOp gPow (wC (.int 10)) (wC (.int 18)))) wNil))) (wCons (wOp gAdd (wOp gAdd (wOp gMulA (wOp gMod (wCl gInt (wCons (wV 2) wNil)) (wOp gAdd (wOp gPow (wC (.int 10)) (wC (.int 39))) (wC (.int 61)))) (wC (.int 64))) (wOp gMulA (wC (.int 31)) (wV 1))) (wC (.int 17))) (wCons (wC (.int 0)) wNil))))))
theorem v__law_fount : ∀ ts Qf, S__law_fount ts Qf → w__law_fount (endsD 0 ts Qf) (startD N__law_fount 0 ts) := by
  rintro ts Qf ⟨o, ns, k, rfl, ⟨hk0, hk3⟩, q⟩
  show w__law_fount (endsD 0 [.lst o (ns.map .int), .int k] Qf) [some (.lst false (frzL (ns.map .int))), some (.int k), none]
  have fin : ∀ t Δ, Fo 0 t → (endsD 0 [.lst o (ns.map .int), .int k] Qf).rt t Δ := fun t Δ h => by
    have := q t h
    show Qf (.ret t) [.lst false (frzL (ns.map .int)), .int k]
    rw [ints_frz]; exact this
  revert fin
  generalize endsD 0 [.lst o (ns.map .int), .int k] Qf = D
  intro fin
  rw [ints_frz]
  have rest : ∀ c : Int, 0 ≤ c → wRet 0 (wLst (wCons (wCl gMax2 (wCons (wC (.int 0)) (wCons (wOp TL.gSub (wV 2) (wOp gPow (wC (.int 10)) (wC (.int 18)))) wNil))) (wCons (wOp gAdd (wOp gAdd (wOp gMulA (wOp gMod (wCl gInt (wCons (wV 2) wNil)) (wOp gAdd (wOp gPow (wC (.int 10)) (wC (.int 39))) (wC (.int 61)))) (wC (.int 64))) (wOp gMulA (wC (.int 31)) (wV 1))) (wC (.int 17))) (wCons (wC (.int 0)) wNil)))) D [some (.lst false (ns.map .int)), some (.int k), some (.int c)] := fun c hc => by
    have m0 : (0 : Int) < 10 ^ (39 : Int).toNat + 61 := by decide
    have h1 := Int.emod_nonneg c (show (10 ^ (39 : Int).toNat + 61 : Int) ≠ 0 by decide)
    have h2 := Int.emod_lt_of_pos c m0
    have h3 : (10 ^ (39 : Int).toNat + 61 : Int) < 2 ^ 140 := by decide
    have h4 : (c % (10 ^ (39 : Int).toNat + 61)).natAbs < 2 ^ 140 := lt_pow h1 (by omega)
    have h5 : (2 : Int) ^ 140 * 64 + 31 * 3 + 17 < 2 ^ 200 := by decide
    refine ⟨by decide, by decide, by decide, by decide, m0, wide_mul h4 (show (64 : Int).natAbs < 2 ^ 7 by decide) (by decide) (by decide) (by decide), wide_mul (show (31 : Int).natAbs < 2 ^ 5 by decide) (lt_pow hk0 (show k < 2 ^ 7 by omega)) (by decide) (by decide) (by decide), z3, fin _ _ ⟨_, _, _, rfl, ?_, ⟨?_, ?_⟩, ?_, ?_⟩⟩
    · split <;> omega
    · omega
    · omega
    · decide
    · decide
  refine ite_of (fun h => ?_) fun h => rest 0 (by decide)
  have hk : k < ns.length := by have := of_decide_eq_true h; simpa using this
  obtain ⟨n, e⟩ := at_int hk0 hk
  show match atI (ns.map T.int) k with
    | some t => closed t = true ∧ _
    | none => False
  rw [e]
  exact ⟨rfl, rest _ (by split <;> omega)⟩
def S__law_dip : FS := fun ts Q => ∃ t m n, ts = [t, .int m] ∧ Fo n t ∧ n < 2 ^ 100 ∧ (0 < m ∧ m ≤ 2 ^ 200) ∧ ∀ r t', 0 ≤ r → r < m → Fo (n + 1) t' → Q (.ret (.int r)) [t', .int m]
theorem l__law_dip : ∀ ts Q, S__law_dip ts Q → ts.length = 2 := fun ts Q ⟨o, ns, k, e, _⟩ => by rw [e]; rfl
theorem at_dip {t : T} {m : Int} {n : Nat} {Q : Rs → List T → Prop} (h : Fo n t) (hn : n < 2 ^ 100) (h0 : 0 < m) (h1 : m ≤ 2 ^ 200) (q : ∀ r t', 0 ≤ r → r < m → Fo (n + 1) t' → Q (.ret (.int r)) [t', .int m]) : S__law_dip [t, .int m] Q := ⟨t, m, n, rfl, h, hn, ⟨h0, h1⟩, q⟩
abbrev N__law_dip : List Str := ["fount", "many", "digit", "mixed"]
def w__law_dip : WS :=
  (wSeq (wIfS (wTest (wOp gGt (wOp gIx (wV 0) (wC (.int 0))) (wC (.int 0)))) (wSeq (wAsg (wOp gMod (wCl gInt (wCons (wOp gIx (wV 0) (wC (.int 0))) wNil)) (wV 1)) (wgN 2)) (wSeq (wAsg (wOp gDiv (wOp gIx (wV 0) (wC (.int 0))) (wV 1)) (wgSub 0 (wC (.int 0)))) (wRet 1 (wV 2)))) wNext) (wSeq (wAsg (wOp gAdd (wOp gIx (wV 0) (wC (.int 2))) (wC (.int 1))) (wgSub 0 (wC (.int 2)))) (wSeq (wAsg (wOp gMod (wCl gInt (wCons (wOp gPow (wOp gAdd (wOp gIx (wV 0) (wC (.int 1))) (wOp gMulA (wC (.int 49979687)) (wOp gIx (wV 0) (wC (.int 2))))) (wC (.int 3))) wNil)) (wOp gAdd (wOp gPow (wC (.int 10)) (wC (.int 42))) (wC (.int 63)))) (wgN 3)) (wSeq (wAsg (wOp gMod (wCl gInt (wCons (wOp gPow (wOp gAdd (wV 3) (wOp gMulA (wC (.int 67867967)) (wOp gIx (wV 0) (wC (.int 2))))) (wC (.int 3))) wNil)) (wOp gAdd (wOp gPow (wC (.int 10)) (wC (.int 40))) (wC (.int 121)))) (wgN 3)) (wRet 1 (wOp gMod (wCl gInt (wCons (wOp gDiv (wV 3) (wOp gPow (wC (.int 10)) (wC (.int 9)))) wNil)) (wV 1)))))))
theorem v__law_dip : ∀ ts Qf, S__law_dip ts Qf → w__law_dip (endsD 1 ts Qf) (startD N__law_dip 1 ts) := by
  rintro ts Qf ⟨_, m, n, rfl, ⟨a, b, c, rfl, ha, ⟨hb, hb2⟩, hc, hcn⟩, hn, ⟨hm, hm2⟩, q⟩
  show w__law_dip (endsD 1 [.lst true [.int a, .int b, .int c], .int m] Qf) [some (.lst true [.int a, .int b, .int c]), some (.int m), none, none]
  have hm9 : m.natAbs.log2 < 9000 := Nat.lt_of_lt_of_le (PySem.Flt.log2_lt_of (show 0 < 201 by decide) (lt_pow (n := 201) (by omega) (by omega))) (show 201 ≤ 9000 by decide)
  refine ⟨rfl, ite_of (fun h => ?_) fun h => ?_⟩
  · have ha' : 0 < a := of_decide_eq_true h
    refine ⟨rfl, hm, rfl, hm, hm9, rfl, q _ _ (Int.emod_nonneg _ (by omega)) (Int.emod_lt_of_pos _ hm) ⟨_, _, _, rfl, Int.ediv_nonneg ha (by omega), ⟨hb, hb2⟩, hc, by omega⟩⟩
  · have c1 : (49979687 : Int) * (c + 1) < 2 ^ 200 := by omega
    have c0 : (0 : Int) ≤ 49979687 * (c + 1) := by omega
    have c2 : (67867967 : Int) * (c + 1) < 2 ^ 200 := by omega
    have c3 : (0 : Int) ≤ 67867967 * (c + 1) := by omega
    have m0 : (0 : Int) < 10 ^ (42 : Int).toNat + 63 := by decide
    have m1 : (0 : Int) < 10 ^ (40 : Int).toNat + 121 := by decide
    have m2 : (10 ^ (42 : Int).toNat + 63 : Int) < 2 ^ 200 := by decide
    have l1 : (c + 1).natAbs < 2 ^ 200 := lt_pow (by omega) (by omega)
    have x1 : (b + 49979687 * (c + 1)).natAbs < 2 ^ 201 := lt_pow (by omega) (by omega)
    have p0 := Int.emod_nonneg ((b + 49979687 * (c + 1)) ^ (3 : Int).toNat) (show (10 ^ (42 : Int).toNat + 63 : Int) ≠ 0 by decide)
    have p1 := Int.emod_lt_of_pos ((b + 49979687 * (c + 1)) ^ (3 : Int).toNat) m0
    have x2 : ((b + 49979687 * (c + 1)) ^ (3 : Int).toNat % (10 ^ (42 : Int).toNat + 63) + 67867967 * (c + 1)).natAbs < 2 ^ 201 := lt_pow (by omega) (by omega)
    have w1 : (49979687 : Int).natAbs < 2 ^ 30 := by decide
    have w2 : (67867967 : Int).natAbs < 2 ^ 30 := by decide
    have y1 := wide_mul w1 l1 (by decide) (by decide) (by decide)
    have y2 := wide_mul w2 l1 (by decide) (by decide) (by decide)
    refine ⟨rfl, rfl, rfl, rfl, y1, by decide, pow_ok x1 (by decide) (by decide), by decide, by decide, m0, rfl, y2, by decide, pow_ok x2 (by decide) (by decide), by decide, by decide, m1, by decide, by decide, by decide, by decide, hm,
      q _ _ (Int.emod_nonneg _ (by omega)) (Int.emod_lt_of_pos _ hm) ⟨_, _, _, rfl, ha, ⟨hb, hb2⟩, by omega, by omega⟩⟩
/-! ### a drawn record -/
def St (xs : List T) (ds dl : Bool) (la : Option Int) : Prop := ∀ ys, lgo false false none (xs ++ ys) = lgo ds dl la ys
def Ev (x : T) : Prop := ∃ (t : Int) (l : Str) (b : Bool), x = .tup [.int t, .str l, .bl b] ∧ (l = "s" ∨ l = "l") ∧ (-(10 ^ 30) < t ∧ t < 10 ^ 30)
def Rc (xs : List T) : Prop := lgo false false none xs = true ∧ xs.length ≤ 200 ∧ ∀ x ∈ xs, Ev x
theorem Ev.dat {x : T} (h : Ev x) : dat x = true := by
  obtain ⟨t, l, b, rfl, _⟩ := h; rfl
theorem evs_dat {xs : List T} (h : ∀ x ∈ xs, Ev x) : datL xs = true := (datL_iff xs).mpr fun x hx => (h x hx).dat
theorem evs_closed {xs : List T} (h : ∀ x ∈ xs, Ev x) : closedL xs = true := datL_closed _ (evs_dat h)
theorem st_nil : St [] false false none := fun ys => rfl
theorem st_s {xs : List T} {ds dl b : Bool} {la : Option Int} {t : Int} (h : St xs ds dl la) (hb : ds ≠ b) (hl : lateB la t = false) : St (xs ++ [.tup [.int t, .str "s", .bl b]]) b dl (some t) := fun ys => by
  rw [List.append_assoc, h]
  show lgo ds dl la (.tup [.int t, .str "s", .bl b] :: ys) = _
  conv => lhs; unfold lgo
  rw [if_pos rfl, if_neg (show ¬ (ds = b ∨ lateB la t = true) from fun z => z.elim hb fun z => by rw [hl] at z; cases z)]
theorem st_l {xs : List T} {ds dl b : Bool} {la : Option Int} {t : Int} (h : St xs ds dl la) (hb : dl ≠ b) (hl : lateB la t = false) : St (xs ++ [.tup [.int t, .str "l", .bl b]]) ds b (some t) := fun ys => by
  rw [List.append_assoc, h]
  show lgo ds dl la (.tup [.int t, .str "l", .bl b] :: ys) = _
  conv => lhs; unfold lgo
  rw [if_neg ls_ne, if_pos rfl, if_neg (show ¬ (dl = b ∨ lateB la t = true) from fun z => z.elim hb fun z => by rw [hl] at z; cases z)]
theorem st_end {xs : List T} {la : Option Int} (h : St xs false false la) : lgo false false none xs = true := by
  have := h []
  rw [List.append_nil] at this
  rw [this]; rfl
def beh (la : Option Int) (t : Int) : Prop := match la with
  | none => True
  | some m => m ≤ t
theorem beh_late {la : Option Int} {t : Int} (h : beh la t) : lateB la t = false := by
  cases la with
  | none => rfl
  | some m => exact decide_eq_false (by have : m ≤ t := h; omega)
theorem beh_mono {la : Option Int} {t u : Int} (h : beh la t) (k : t ≤ u) : beh la u := by
  cases la with
  | none => trivial
  | some m => exact Int.le_trans (show m ≤ t from h) k
theorem chr_s : (⟨#[115]⟩ : Str) = "s" := by decide
theorem chr_l : (⟨#[108]⟩ : Str) = "l" := by decide
/-- 'sl'[r] -/
theorem ix_sl {r : Int} {Q : T → Prop} (h0 : 0 ≤ r) (h1 : r < 2) (qs : Q (.str "s")) (ql : Q (.str "l")) : gIx (.str "sl") (.int r) Q := by
  have : r = 0 ∨ r = 1 := by omega
  rcases this with rfl | rfl
  · refine ⟨by decide, ?_⟩
    have e : atI ("sl" : Str).cps.toList 0 = some 115 := by decide
    rw [e]
    show Q (.str ⟨#[115]⟩)
    rw [chr_s]; exact qs
  · refine ⟨by decide, ?_⟩
    have e : atI ("sl" : Str).cps.toList 1 = some 108 := by decide
    rw [e]
    show Q (.str ⟨#[108]⟩)
    rw [chr_l]; exact ql
theorem ix_4 {a b c e r W : Int} {Q : T → Prop} (r0 : 0 ≤ r) (r4 : r < 4) (ha : 0 ≤ a ∧ a ≤ W) (hb : 0 ≤ b ∧ b ≤ W) (hc : 0 ≤ c ∧ c ≤ W) (he : 0 ≤ e ∧ e ≤ W) (q : ∀ d, 0 ≤ d → d ≤ W → Q (.int d)) : gIx (.lst true [.int a, .int b, .int c, .int e]) (.int r) Q := by
  have : r = 0 ∨ r = 1 ∨ r = 2 ∨ r = 3 := by omega
  rcases this with rfl | rfl | rfl | rfl
  · exact ⟨rfl, q _ ha.1 ha.2⟩
  · exact ⟨rfl, q _ hb.1 hb.2⟩
  · exact ⟨rfl, q _ hc.1 hc.2⟩
  · exact ⟨rfl, q _ he.1 he.2⟩
theorem str_sl : strT "sl" = [.str "s", .str "l"] := by
  have e : ("sl" : Str).cps.toList = [115, 108] := by decide
  unfold strT
  rw [e, ← chr_s, ← chr_l]; rfl
theorem str_ls : strT "ls" = [.str "l", .str "s"] := by
  have e : ("ls" : Str).cps.toList = [108, 115] := by decide
  unfold strT
  rw [e, ← chr_s, ← chr_l]; rfl
theorem zz200 {n : Nat} (h : n ≤ 10000) : n < sizeLine := by rw [sizeLine_eq]; omega
def S__law_record : FS := fun ts Q => ∃ (t : T) (many : Nat) (wide : Int) (n : Nat), ts = [t, .int many, .int wide] ∧ Fo n t ∧ n < 2 ^ 90 ∧ many ≤ 198 ∧ (0 ≤ wide ∧ wide ≤ 10 ^ 27) ∧ ∀ xs t', Rc xs → (many ≤ xs.length ∧ xs.length ≤ many + 2) → Fo (n + 2000) t' → Q (.ret (.lst true xs)) [t', .int many, .int wide]
theorem l__law_record : ∀ ts Q, S__law_record ts Q → ts.length = 3 := fun ts Q ⟨_, _, _, _, e, _⟩ => by rw [e]; rfl
theorem Fo.mono {n m : Nat} {t : T} (h : Fo n t) (k : n ≤ m) : Fo m t := by
  obtain ⟨a, b, c, e, h1, h2, h3, h4⟩ := h
  exact ⟨a, b, c, e, h1, h2, h3, by omega⟩
theorem rng_at {n i : Nat} {t : T} (h : (rngT 0 n)[i]? = some t) : i < n ∧ t = .int (i : Int) := by
  unfold rngT at h
  rw [List.getElem?_map] at h
  by_cases hi : i < n
  · rw [List.getElem?_range hi] at h
    refine ⟨hi, ?_⟩
    have := (Option.some.inj h).symm
    rw [this]; simp
  · rw [List.getElem?_eq_none (by simpa using hi)] at h; cases h
theorem rng_len {lo : Int} {n : Nat} : (rngT lo n).length = n := by simp [rngT]
def gDGetOk (l : Str) (es el p : Bool) : Prop := (l = "s" → p = es) ∧ (l = "l" → p = el)
/-- .. as the levers are let go: a of them for s (0: not yet), b for l -/
def P2 (N many : Nat) (wide : Int) (ds dl : Bool) (a b : Nat) (Δ : Dt) : Prop := ∃ (t : T) (tick : Int) (xs : List T) (es el : Bool) (la : Option Int) (x6 x7 : Option T), Δ = [some t, some (.int many), some (.int wide), some (.lst true xs), some (.dct true (kvD ds dl)), some (.int tick), x6, x7] ∧ Fo (N + a + b) t ∧ (many ≤ xs.length ∧ xs.length ≤ many + a + b) ∧ St xs es el la ∧ beh la tick ∧ (-(10 ^ 27) ≤ tick ∧ tick ≤ ((many : Int) + 1 + a + b) * 10 ^ 27) ∧ (∀ x ∈ xs, Ev x) ∧ es = (if a = 0 then ds else false) ∧ el = (if b = 0 then dl else false)
def w2 : WS := wIfS (wTru (wOp gDGet (wV 4) (wV 7))) (wSeq (wAsg (wOp gAdd (wV 5) (wCall S__law_dip (wCons (wV 0) (wCons (wOp gAdd (wV 2) (wC (.int 1))) wNil)))) (wgN 5)) (wDrop (wApp 3 (wTup (wCons (wV 5) (wCons (wV 7) (wCons (wC (.bl false)) wNil))))))) wNext
theorem go_s {N many b : Nat} {wide : Int} {ds dl : Bool} {Δ : Dt} {Dn : EndsD} (hN : N < 2 ^ 99) (hw0 : 0 ≤ wide) (hw : wide ≤ 10 ^ 27) (hm : many ≤ 198) (hb : b ≤ 1) (hn : Dn.nx = P2 N many wide ds dl 1 b) (h : P2 N many wide ds dl 0 b Δ) : wgN 7 (.str "s") Δ fun Δ' => w2 Dn Δ' := by
  obtain ⟨t, tick, xs, es, el, la, x6, x7, rfl, hF, hlen, hst, hbe, ⟨ht0, ht1⟩, hev, he, hl⟩ := h
  have he : es = ds := he
  subst he
  have hcl := evs_closed hev
  have hz : xs.length < sizeLine := zz200 (by omega)
  dsimp only [wgN, w2, wIfS, wTru, onV, onVs, look, List.getElem?_cons_zero, List.getElem?_cons_succ, List.set_cons_zero, List.set_cons_succ, wOp, wV, wC, wUn, wCl, wCons, wNil, wTest, backs]
  refine dget_s ?_
  cases es with
  | false =>
    show Dn.nx _
    rw [hn]
    exact ⟨t, tick, xs, false, el, la, _, _, rfl, hF.mono (by omega), by omega, hst, hbe, ⟨ht0, by omega⟩, hev, rfl, hl⟩
  | true =>
    refine ⟨rfl, at_dip hF (by omega) (by omega) (by omega) fun r t1 r0 r1 hF1 => ⟨z3, hcl, hz, ?_⟩⟩
    show Dn.nx _
    rw [hn]
    refine ⟨t1, tick + r, _, false, el, some (tick + r), _, _, rfl, hF1.mono (by omega), by simp; omega, st_s hst (by decide) (beh_late (beh_mono hbe (by omega))), Int.le_refl _, ⟨by omega, by omega⟩, fun x hx => ?_, rfl, hl⟩
    rcases List.mem_append.mp hx with hx | hx
    · exact hev x hx
    · rw [List.mem_singleton.mp hx]
      exact ⟨tick + r, "s", false, rfl, .inl rfl, by omega, (by have : (many : Int) ≤ 198 := (by omega); have : (b : Int) ≤ 1 := (by omega); omega)⟩
theorem go_l {N many a : Nat} {wide : Int} {ds dl : Bool} {Δ : Dt} {Dn : EndsD} (hN : N < 2 ^ 99) (hw0 : 0 ≤ wide) (hw : wide ≤ 10 ^ 27) (hm : many ≤ 198) (ha : a ≤ 1) (hn : Dn.nx = P2 N many wide ds dl a 1) (h : P2 N many wide ds dl a 0 Δ) : wgN 7 (.str "l") Δ fun Δ' => w2 Dn Δ' := by
  obtain ⟨t, tick, xs, es, el, la, x6, x7, rfl, hF, hlen, hst, hbe, ⟨ht0, ht1⟩, hev, he, hl⟩ := h
  have hl : el = dl := hl
  subst hl
  have hcl := evs_closed hev
  have hz : xs.length < sizeLine := zz200 (by omega)
  dsimp only [wgN, w2, wIfS, wTru, onV, onVs, look, List.getElem?_cons_zero, List.getElem?_cons_succ, List.set_cons_zero, List.set_cons_succ, wOp, wV, wC, wUn, wCl, wCons, wNil, wTest, backs]
  refine dget_l ?_
  cases el with
  | false =>
    show Dn.nx _
    rw [hn]
    exact ⟨t, tick, xs, es, false, la, _, _, rfl, hF.mono (by omega), by omega, hst, hbe, ⟨ht0, by omega⟩, hev, he, rfl⟩
  | true =>
    refine ⟨rfl, at_dip hF (by omega) (by omega) (by omega) fun r t1 r0 r1 hF1 => ⟨z3, hcl, hz, ?_⟩⟩
    show Dn.nx _
    rw [hn]
    refine ⟨t1, tick + r, _, es, false, some (tick + r), _, _, rfl, hF1.mono (by omega), by simp; omega, st_l hst (by decide) (beh_late (beh_mono hbe (by omega))), Int.le_refl _, ⟨by omega, by omega⟩, fun x hx => ?_, he, rfl⟩
    rcases List.mem_append.mp hx with hx | hx
    · exact hev x hx
    · rw [List.mem_singleton.mp hx]
      exact ⟨tick + r, "l", false, rfl, .inr rfl, by omega, (by have : (many : Int) ≤ 198 := (by omega); have : (a : Int) ≤ 1 := (by omega); omega)⟩
/-- .. in this order, or in the other one -/
theorem loop_sl {N many : Nat} {wide : Int} {ds dl : Bool} {Δ : Dt} {Dn : EndsD} (hN : N < 2 ^ 99) (hw0 : 0 ≤ wide) (hw : wide ≤ 10 ^ 27) (hm : many ≤ 198) (h : P2 N many wide ds dl 0 0 Δ) (k : ∀ Δ, P2 N many wide ds dl 1 1 Δ → Dn.nx Δ) :
    ∃ Pv : Nat → Dt → Prop, Pv 0 Δ ∧ (∀ i y Δ2, [T.str "s", T.str "l"][i]? = some y → Pv i Δ2 → wgN 7 y Δ2 fun Δ3 => w2 { Dn with nx := Pv (i + 1), ct := Pv (i + 1), bk := Dn.nx } Δ3) ∧ ∀ Δ2, Pv 2 Δ2 → Dn.nx Δ2 := by
  refine ⟨fun i Δ => P2 N many wide ds dl (min i 1) (i - 1) Δ, h, fun i y Δ2 hy hP => ?_, k⟩
  have hi : i = 0 ∨ i = 1 := by have : i < 2 := (List.getElem?_eq_some_iff.mp hy).1; omega
  rcases hi with rfl | rfl
  · obtain rfl := Option.some.inj hy
    exact go_s hN hw0 hw hm (Nat.zero_le _) rfl hP
  · obtain rfl := Option.some.inj hy
    exact go_l hN hw0 hw hm (Nat.le_refl _) rfl hP
theorem loop_ls {N many : Nat} {wide : Int} {ds dl : Bool} {Δ : Dt} {Dn : EndsD} (hN : N < 2 ^ 99) (hw0 : 0 ≤ wide) (hw : wide ≤ 10 ^ 27) (hm : many ≤ 198) (h : P2 N many wide ds dl 0 0 Δ) (k : ∀ Δ, P2 N many wide ds dl 1 1 Δ → Dn.nx Δ) :
    ∃ Pv : Nat → Dt → Prop, Pv 0 Δ ∧ (∀ i y Δ2, [T.str "l", T.str "s"][i]? = some y → Pv i Δ2 → wgN 7 y Δ2 fun Δ3 => w2 { Dn with nx := Pv (i + 1), ct := Pv (i + 1), bk := Dn.nx } Δ3) ∧ ∀ Δ2, Pv 2 Δ2 → Dn.nx Δ2 := by
  refine ⟨fun i Δ => P2 N many wide ds dl (i - 1) (min i 1) Δ, h, fun i y Δ2 hy hP => ?_, k⟩
  have hi : i = 0 ∨ i = 1 := by have : i < 2 := (List.getElem?_eq_some_iff.mp hy).1; omega
  rcases hi with rfl | rfl
  · obtain rfl := Option.some.inj hy
    exact go_l hN hw0 hw hm (Nat.zero_le _) rfl hP
  · obtain rfl := Option.some.inj hy
    exact go_s hN hw0 hw hm (Nat.le_refl _) rfl hP
abbrev N__law_record : List Str := ["fount", "many", "wide", "found", "down", "tick", "turn", "lever"]
def w__law_record : WS :=
  (wSeq (wPar 3 4 (wCons (wLst wNil) (wCons (wDisp (wpCons (wC (.str "s")) (wC (.bl false)) (wpCons (wC (.str "l")) (wC (.bl false)) wpNil))) wNil))) (wSeq (wAsg (wOp TL.gSub (wCall S__law_dip (wCons (wV 0) (wCons (wOp gAdd (wOp gMulA (wC (.int 2)) (wV 2)) (wC (.int 1))) wNil))) (wV 2)) (wgN 5)) (wSeq (wFor (wiRng1 (wCons (wV 1) wNil)) (wgN 6) (wSeq (wAsg (wOp gIx (wC (.str "sl")) (wCall S__law_dip (wCons (wV 0) (wCons (wC (.int 2)) wNil)))) (wgN 7)) (wSeq (wAsg (wOp gAdd (wV 5) (wOp gIx (wLst (wCons (wC (.int 0)) (wCons (wC (.int 1)) (wCons (wCall S__law_dip (wCons (wV 0) (wCons (wOp gAdd (wV 2) (wC (.int 1))) wNil))) (wCons (wCall S__law_dip (wCons (wV 0) (wCons (wOp gAdd (wV 2) (wC (.int 1))) wNil))) wNil))))) (wCall S__law_dip (wCons (wV 0) (wCons (wC (.int 4)) wNil))))) (wgN 5)) (wSeq (wAsg (wNotV (wOp gDGet (wV 4) (wV 7))) (wgSub 4 (wV 7))) (wDrop (wApp 3 (wTup (wCons (wV 5) (wCons (wV 7) (wCons (wOp gDGet (wV 4) (wV 7)) wNil)))))))))) (wSeq (wFor (wiStr (wOp gIx (wLst (wCons (wC (.str "sl")) (wCons (wC (.str "ls")) wNil))) (wCall S__law_dip (wCons (wV 0) (wCons (wC (.int 2)) wNil))))) (wgN 7) (wIfS (wTru (wOp gDGet (wV 4) (wV 7))) (wSeq (wAsg (wOp gAdd (wV 5) (wCall S__law_dip (wCons (wV 0) (wCons (wOp gAdd (wV 2) (wC (.int 1))) wNil)))) (wgN 5)) (wDrop (wApp 3 (wTup (wCons (wV 5) (wCons (wV 7) (wCons (wC (.bl false)) wNil))))))) wNext)) (wRet 1 (wV 3))))))
theorem v__law_record : ∀ ts Qf, S__law_record ts Qf → w__law_record (endsD 1 ts Qf) (startD N__law_record 1 ts) := by
  rintro ts Qf ⟨t, many, wide, n, rfl, hF, hn, hm, ⟨hw0, hw⟩, q⟩
  show w__law_record (endsD 1 [t, .int many, .int wide] Qf) [some t, some (.int many), some (.int wide), none, none, none, none, none]
  have fin : ∀ xs t' x4 x5 x6 x7, Rc xs → (many ≤ xs.length ∧ xs.length ≤ many + 2) → Fo (n + 2000) t' → (endsD 1 [t, .int many, .int wide] Qf).rt (.lst true xs) [some t', some (.int many), some (.int wide), none, x4, x5, x6, x7] := fun xs t' x4 x5 x6 x7 h1 h2 h3 => q xs t' h1 h2 h3
  revert fin
  generalize endsD 1 [t, .int many, .int wide] Qf = D
  intro fin
  have l2 : (2 : Int).natAbs.log2 + wide.natAbs.log2 < 1000000 := wide_mul (show (2 : Int).natAbs < 2 ^ 2 by decide) (lt_pow (n := 100) hw0 (by omega)) (by decide) (by decide) (by decide)
  refine ⟨Nat.zero_le _, by decide, l2, rfl, at_dip hF (by omega) (by omega) (by omega) fun r t1 r0 r1 hF1 => ?_⟩
  refine ⟨by omega, by omega, fun i Δ => ∃ (t : T) (tick : Int) (xs : List T) (ds dl : Bool) (kv : List (Key × T)) (la : Option Int) (x6 x7 : Option T), Δ = [some t, some (.int many), some (.int wide), some (.lst true xs), some (.dct true kv), some (.int tick), x6, x7] ∧ kv = kvD ds dl ∧ Fo (n + 1 + 4 * i) t ∧ xs.length = i ∧ i ≤ many ∧ St xs ds dl la ∧ beh la tick ∧ (-(10 ^ 27) ≤ tick ∧ tick ≤ (i + 1) * 10 ^ 27) ∧ ∀ x ∈ xs, Ev x,
    ⟨t1, r - wide, [], false, false, _, none, _, _, rfl, ?_, hF1.mono (by omega), rfl, Nat.zero_le _, st_nil, trivial, ⟨by omega, by omega⟩, fun x z => nomatch z⟩, ?_, ?_⟩
  · simp [mergeT, putT, kvD, Sum.inr.injEq, sl_ne, frz]
  · rintro i y Δ hy ⟨t, tick, xs, ds, dl, kv, la, x6, x7, rfl, rfl, hF, hlen, him, hst, hbe, ⟨ht0, ht1⟩, hev⟩
    obtain ⟨hi, rfl⟩ := rng_at hy
    have app : ∀ (l : Str) (u : Int) (t' : T) (kv : List (Key × T)) (es el p : Bool) (y6 : Option T) (Dn : EndsD), kv = kvD es el → gDGetOk l es el p → Fo (n + 1 + 4 * (i + 1)) t' → St (xs ++ [.tup [.int u, .str l, .bl p]]) es el (some u) → (-(10 ^ 27) ≤ u ∧ u ≤ (i + 2) * 10 ^ 27) → (l = "s" ∨ l = "l") →
        Dn.nx = (fun Δ => ∃ (t : T) (tick : Int) (xs : List T) (ds dl : Bool) (kv : List (Key × T)) (la : Option Int) (x6 x7 : Option T), Δ = [some t, some (.int many), some (.int wide), some (.lst true xs), some (.dct true kv), some (.int tick), x6, x7] ∧ kv = kvD ds dl ∧ Fo (n + 1 + 4 * (i + 1)) t ∧ xs.length = i + 1 ∧ i + 1 ≤ many ∧ St xs ds dl la ∧ beh la tick ∧ (-(10 ^ 27) ≤ tick ∧ tick ≤ (((i + 1 : Nat) : Int) + 1) * 10 ^ 27) ∧ ∀ x ∈ xs, Ev x) →
        wDrop (wApp 3 (wTup (wCons (wV 5) (wCons (wV 7) (wCons (wOp gDGet (wV 4) (wV 7)) wNil))))) Dn [some t', some (.int many), some (.int wide), some (.lst true xs), some (.dct true kv), some (.int u), y6, some (.str l)] := fun l u t' kv es el p y6 Dn hkv hg hF' hst' hu hl hn => by
      subst hkv
      have hcl := evs_closed hev
      have hz : xs.length < sizeLine := zz200 (by omega)
      have done : Dn.nx [some t', some (.int many), some (.int wide), some (.lst true (xs ++ [.tup [.int u, .str l, .bl p]])), some (.dct true (kvD es el)), some (.int u), y6, some (.str l)] := by
        rw [hn]
        refine ⟨_, u, _, es, el, _, some u, _, _, rfl, rfl, hF', by simp [hlen], by omega, hst', Int.le_refl u, ⟨hu.1, by push_cast; omega⟩, fun x hx => ?_⟩
        rcases List.mem_append.mp hx with hx | hx
        · exact hev x hx
        · rw [List.mem_singleton.mp hx]
          exact ⟨u, l, p, rfl, hl, by omega, (by have : (i : Int) ≤ 198 := (by omega); omega)⟩
      rcases hl with rfl | rfl
      · obtain rfl : p = es := hg.1 rfl
        dsimp only [wDrop, wApp, wTup, onV, onVs, look, List.getElem?_cons_zero, List.getElem?_cons_succ, List.set_cons_zero, List.set_cons_succ, wOp, wV, wC, wUn, wCl, wCons, wNil, wTest, backs]
        exact dget_s ⟨z3, hcl, hz, done⟩
      · obtain rfl : p = el := hg.2 rfl
        dsimp only [wDrop, wApp, wTup, onV, onVs, look, List.getElem?_cons_zero, List.getElem?_cons_succ, List.set_cons_zero, List.set_cons_succ, wOp, wV, wC, wUn, wCl, wCons, wNil, wTest, backs]
        exact dget_l ⟨z3, hcl, hz, done⟩
    have body : ∀ (l : Str), (l = "s" ∨ l = "l") → ∀ (t1 : T) (y6 : Option T) (Dn : EndsD), Fo (n + 1 + 4 * i + 1) t1 → Dn.nx = (fun Δ => ∃ (t : T) (tick : Int) (xs : List T) (ds dl : Bool) (kv : List (Key × T)) (la : Option Int) (x6 x7 : Option T), Δ = [some t, some (.int many), some (.int wide), some (.lst true xs), some (.dct true kv), some (.int tick), x6, x7] ∧ kv = kvD ds dl ∧ Fo (n + 1 + 4 * (i + 1)) t ∧ xs.length = i + 1 ∧ i + 1 ≤ many ∧ St xs ds dl la ∧ beh la tick ∧ (-(10 ^ 27) ≤ tick ∧ tick ≤ (((i + 1 : Nat) : Int) + 1) * 10 ^ 27) ∧ ∀ x ∈ xs, Ev x) →
        wSeq (wAsg (wOp gAdd (wV 5) (wOp gIx (wLst (wCons (wC (.int 0)) (wCons (wC (.int 1)) (wCons (wCall S__law_dip (wCons (wV 0) (wCons (wOp gAdd (wV 2) (wC (.int 1))) wNil))) (wCons (wCall S__law_dip (wCons (wV 0) (wCons (wOp gAdd (wV 2) (wC (.int 1))) wNil))) wNil))))) (wCall S__law_dip (wCons (wV 0) (wCons (wC (.int 4)) wNil))))) (wgN 5)) (wSeq (wAsg (wNotV (wOp gDGet (wV 4) (wV 7))) (wgSub 4 (wV 7))) (wDrop (wApp 3 (wTup (wCons (wV 5) (wCons (wV 7) (wCons (wOp gDGet (wV 4) (wV 7)) wNil))))))) Dn
          [some t1, some (.int many), some (.int wide), some (.lst true xs), some (.dct true (kvD ds dl)), some (.int tick), y6, some (.str l)] := fun l hl t1 y6 Dn hF1 hn => by
      refine ⟨rfl, at_dip hF1 (by omega) (by omega) (by omega) fun r2 t2 a2 b2 hF2 => ⟨rfl, at_dip hF2 (by omega) (by omega) (by omega) fun r3 t3 a3 b3 hF3 => ⟨z4, rfl, at_dip hF3 (by omega) (by omega) (by omega) fun r4 t4 a4 b4 hF4 => ?_⟩⟩⟩
      dsimp only [onV, onVs, look, List.getElem?_cons_zero, List.getElem?_cons_succ, List.set_cons_zero, List.set_cons_succ, wOp, wV, wC, wUn, wCl, wCons, wNil, wTest, backs]
      refine ix_4 (W := 10 ^ 27) a4 b4 (by omega) (by omega) ⟨a2, by omega⟩ ⟨a3, by omega⟩ fun d d0 d1 => ?_
      have hu : -(10 ^ 27) ≤ tick + d ∧ tick + d ≤ ((i : Int) + 2) * 10 ^ 27 := by omega
      have hla := beh_late (beh_mono hbe (show tick ≤ tick + d by omega))
      rcases hl with rfl | rfl
      · dsimp only [onV, onVs, look, List.getElem?_cons_zero, List.getElem?_cons_succ, List.set_cons_zero, List.set_cons_succ, wOp, wV, wC, wUn, wCl, wCons, wNil, wTest, backs, gAdd, wTake, wgN, wSeq, wAsg, wNotV, frz]
        refine dget_s ?_
        refine ⟨rfl, zz2, app "s" (tick + d) t4 _ (!ds) dl (!ds) _ _ (put_s ds dl (!ds)) ⟨fun _ => rfl, fun z => absurd z sl_ne⟩ (hF4.mono (by omega)) (st_s hst (by cases ds <;> simp) hla) hu (.inl rfl) hn⟩
      · dsimp only [onV, onVs, look, List.getElem?_cons_zero, List.getElem?_cons_succ, List.set_cons_zero, List.set_cons_succ, wOp, wV, wC, wUn, wCl, wCons, wNil, wTest, backs, gAdd, wTake, wgN, wSeq, wAsg, wNotV, frz]
        refine dget_l ?_
        refine ⟨rfl, zz2, app "l" (tick + d) t4 _ ds (!dl) (!dl) _ _ (put_l ds dl (!dl)) ⟨fun z => absurd z ls_ne, fun _ => rfl⟩ (hF4.mono (by omega)) (st_l hst (by cases dl <;> simp) hla) hu (.inr rfl) hn⟩
    refine ⟨rfl, at_dip hF (by omega) (by omega) (by omega) fun r t1 r0 r1 hF1 => ?_⟩
    dsimp only [onV, onVs, look, List.getElem?_cons_zero, List.getElem?_cons_succ, List.set_cons_zero, List.set_cons_succ, wOp, wV, wC, wUn, wCl, wCons, wNil, wTest, backs]
    exact ix_sl r0 r1 (body "s" (.inl rfl) t1 _ _ hF1 rfl) (body "l" (.inr rfl) t1 _ _ hF1 rfl)
  · rintro Δ ⟨t, tick, xs, ds, dl, kv, la, x6, x7, rfl, rfl, hF, hlen, him, hst, hbe, ⟨ht0, ht1⟩, hev⟩
    rw [show (rngT 0 ((many : Int)).toNat).length = many from by rw [rng_len]; simp] at hF hlen ht1
    refine ⟨z2, rfl, at_dip hF (by omega) (by omega) (by omega) fun r t1 r0 r1 hF1 => ?_⟩
    have out : ∀ Δ, P2 (n + 1 + 4 * many + 1) many wide ds dl 1 1 Δ → wRet 1 (wV 3) D Δ := by
      rintro Δ ⟨t, tick, xs, es, el, la, x6, x7, rfl, hF, hlen, hst, hbe, _, hev, h1, h2⟩
      obtain rfl := h1
      obtain rfl := h2
      exact fin xs t _ _ _ _ ⟨st_end hst, by omega, hev⟩ ⟨hlen.1, by omega⟩ (hF.mono (by omega))
    have start : P2 (n + 1 + 4 * many + 1) many wide ds dl 0 0 [some t1, some (.int many), some (.int wide), some (.lst true xs), some (.dct true (kvD ds dl)), some (.int tick), x6, x7] :=
      ⟨t1, tick, xs, ds, dl, la, _, _, rfl, hF1, by omega, hst, hbe, ⟨ht0, by omega⟩, hev, rfl, rfl⟩
    have two : r = 0 ∨ r = 1 := by omega
    rcases two with rfl | rfl
    · refine ⟨rfl, ?_⟩
      have := loop_sl (Dn := { nx := wRet 1 (wV 3) D, rt := D.rt, bk := D.bk, ct := D.ct }) (by omega) hw0 hw hm start out
      rw [← str_sl] at this
      exact this
    · refine ⟨rfl, ?_⟩
      have := loop_ls (Dn := { nx := wRet 1 (wV 3) D, rt := D.rt, bk := D.bk, ct := D.ct }) (by omega) hw0 hw hm start out
      rw [← str_ls] at this
      exact this
end TL

set_option maxRecDepth 100000
set_option maxHeartbeats 1000000
namespace TL
open PySem PySem.Spec PyProof.Rows L2
theorem sq {a b : WS} {D : EndsD} {Δ : Dt} (h : a { D with nx := b D } Δ) : wSeq a b D Δ := h
theorem sz5 {n : Nat} (h : n ≤ 10000) : n ≤ sizeLine := by rw [sizeLine_eq]; omega
/-! ### events, records -/
structure E3 where
  i : Int
  l : Str
  b : Bool
namespace E3
abbrev t (e : E3) : T := .tup [.int e.i, .str e.l, .bl e.b]
structure Ok (n : Nat) (e : E3) : Prop where
  i : e.i.natAbs < 2 ^ n
  l : e.l = "s" ∨ e.l = "l"
theorem Ok.mono {n m : Nat} {e : E3} (h : e.Ok n) (k : n ≤ m) : e.Ok m := ⟨Nat.lt_of_lt_of_le h.i (Nat.pow_le_pow_right (by decide) k), h.l⟩
end E3
abbrev EL (es : List E3) : List T := es.map E3.t
structure VR (n : Nat) (es : List E3) : Prop where
  ok : ∀ e ∈ es, e.Ok n
  len : es.length ≤ 200
  f : fgo es.length 0 [] none (EL es) = []
theorem VR.mono {n m : Nat} {es : List E3} (h : VR n es) (k : n ≤ m) : VR m es := ⟨fun e he => (h.ok e he).mono k, h.len, h.f⟩
theorem el_dat (es : List E3) : datL (EL es) = true := (datL_iff _).mpr fun x hx => by
  obtain ⟨e, _, rfl⟩ := List.mem_map.mp hx
  rfl
theorem el_cl (es : List E3) : closedL (EL es) = true := datL_closed _ (el_dat es)
theorem el_frz (es : List E3) : frzL (EL es) = EL es := datL_frz (el_dat es)
theorem el_at {es : List E3} {i : Nat} {y : T} (h : (EL es)[i]? = some y) : ∃ e, es[i]? = some e ∧ y = e.t ∧ e ∈ es ∧ i < es.length := by
  rw [List.getElem?_map] at h
  cases e : es[i]? with
  | none => rw [e] at h; cases h
  | some z =>
    rw [e] at h
    exact ⟨z, rfl, (Option.some.inj h).symm, List.mem_of_getElem? e, (List.getElem?_eq_some_iff.mp e).1⟩
theorem fault_of {n : Nat} {es : List E3} (h : VR n es) : faultL (.lst false (EL es)) = [] := by
  have hl := h.len
  show (if 200 < (EL es).length then [T.non] else fgo (EL es).length 0 [] none (EL es)) = []
  rw [if_neg (by rw [List.length_map]; omega), List.length_map]
  exact h.f
def shE (k : Int) (e : E3) : E3 := ⟨e.i + k, e.l, e.b⟩
def muE (k : Int) (e : E3) : E3 := ⟨e.i * k, e.l, e.b⟩
def exl (l : Str) : Str := if l = "s" then ("l" : Str) else ("s" : Str)
def xcE (e : E3) : E3 := ⟨e.i, exl e.l, e.b⟩
theorem at_isint {v : T} {l : T} {Q : Rs → List T → Prop} (h : dat v = true) (hl : l = .non ∨ ∃ n, l = .int n) (q : Q (.ret (.bl (intB v l))) [v, l]) : S_is_integer [v, l] Q := ⟨v, l, rfl, dat_ty h, hl, by
  rw [dat_frz h]
  rcases hl with rfl | ⟨n, rfl⟩ <;> exact q⟩
theorem ix_el {o : Bool} {es : List E3} {i : Int} {Q : T → Prop} (h0 : 0 ≤ i) (h1 : i < es.length) (q : ∀ e, es[i.toNat]? = some e → Q e.t) : gIx (.lst o (EL es)) (.int i) Q := by
  have hk : i.toNat < es.length := by omega
  have e : atI (EL es) i = some (es[i.toNat]).t := by
    unfold atI ixN
    rw [List.length_map, if_pos h0, if_pos h1]
    simp [hk]
  show (match atI (EL es) i with
    | some t => closed t = true ∧ Q t
    | none => False)
  rw [e]
  exact ⟨rfl, q _ (by simp [hk])⟩
theorem ix_last {o : Bool} {es : List E3} {Q : T → Prop} (hne : es ≠ []) (q : ∀ e, es.getLast? = some e → Q e.t) : gIx (.lst o (EL es)) (.int (-1)) Q := by
  have hl : 0 < es.length := List.length_pos_iff.mpr hne
  have e : atI (EL es) (-1) = some (es.getLast hne).t := by
    unfold atI ixN
    rw [List.length_map, if_neg (by decide), if_pos (by omega)]
    show (EL es)[((-1 : Int) + (es.length : Int)).toNat]? = _
    have : ((-1 : Int) + (es.length : Int)).toNat = es.length - 1 := by omega
    rw [this, List.getElem?_map, ← List.getLast?_eq_getElem?, List.getLast?_eq_some_getLast hne]; rfl
  show (match atI (EL es) (-1) with
    | some t => closed t = true ∧ Q t
    | none => False)
  rw [e]
  exact ⟨rfl, q _ (List.getLast?_eq_some_getLast hne)⟩
theorem el_take (f : E3 → E3) {es : List E3} {i : Nat} {e : E3} (h : es[i]? = some e) : EL ((es.take i).map f) ++ [(f e).t] = EL ((es.take (i + 1)).map f) := by
  rw [take_at h, List.map_append]
  show _ = List.map E3.t (List.map f (es.take i) ++ [f e])
  rw [List.map_append]; rfl
theorem emp_el {es : List E3} (h : nb true (EL es).isEmpty = true) : es ≠ [] := by
  rintro rfl; cases h
theorem cut_lo {α : Type} {xs : List α} {k : Nat} (h : k ≤ xs.length) : cutT xs none (some (k : Int)) = xs.take k := by
  unfold cutT
  have e1 : HT.sIx xs.length 0 none = 0 := rfl
  have e2 : HT.sIx xs.length xs.length (some (k : Int)) = k := by rw [HT.sIx_nat]; omega
  rw [e1, e2]; simp
theorem cut_hi {α : Type} {xs : List α} {k : Nat} (h : k ≤ xs.length) : cutT xs (some (k : Int)) none = xs.drop k := by
  unfold cutT
  have e1 : HT.sIx xs.length xs.length none = xs.length := rfl
  have e2 : HT.sIx xs.length 0 (some (k : Int)) = k := by rw [HT.sIx_nat]; omega
  rw [e1, e2]
  exact List.take_of_length_le (by rw [List.length_drop]; omega)
/-! ### ends of defs that may raise, their arguments as they came -/
theorem ex_of {ts : List T} {Qf : Rs → List T → Prop} {x : Str} {fs : List (Str × T)} {Δ : Dt} (h : ts.map frz = ts) (q : Qf (.exc x fs) ts) : (endsX 0 ts Qf).ex x fs Δ := by
  show Qf (.exc x fs) (ts.map frz)
  rw [h]; exact q
theorem rt_of {ts : List T} {Qf : Rs → List T → Prop} {t : T} {Δ : Dt} (h : ts.map frz = ts) (q : Qf (.ret t) ts) : (endsX 0 ts Qf).rt t Δ := by
  show Qf (.ret t) (ts.map frz)
  rw [h]; exact q
theorem nx_of {ts : List T} {Qf : Rs → List T → Prop} {Δ : Dt} (h : ts.map frz = ts) (q : Qf (.ret .non) ts) : (endsX 0 ts Qf).nx Δ := by
  show Qf (.ret .non) (ts.map frz)
  rw [h]; exact q
theorem fz1 {a : T} (ha : dat a = true) : [a].map frz = [a] := by rw [List.map_cons, dat_frz ha]; rfl
theorem fz2 {a b : T} (ha : dat a = true) (hb : dat b = true) : [a, b].map frz = [a, b] := by rw [List.map_cons, List.map_cons, dat_frz ha, dat_frz hb]; rfl
theorem fz3 {a b c : T} (ha : dat a = true) (hb : dat b = true) (hc : dat c = true) : [a, b, c].map frz = [a, b, c] := by rw [List.map_cons, List.map_cons, List.map_cons, dat_frz ha, dat_frz hb, dat_frz hc]; rfl
/-! ### the package's demands -/
theorem fault_flat {v i : T} (h : faultL v = [i]) : closed i = true ∧ dat i = true ∧ frz i = i := by
  rcases fault_cases (u := v) with e | e | ⟨j, _, e⟩ <;> rw [h] at e <;> cases e <;> exact ⟨rfl, rfl, rfl⟩
def S_require_record : FS := fun ts Q => ∃ v, ts = [v] ∧ dat v = true ∧ ((faultL v = [] ∧ Q (.ret .non) [v]) ∨ (∃ i, faultL v = [i] ∧ Q (.exc "InvalidRecord" [("index", i)]) [v]))
theorem l_require_record : ∀ ts Q, S_require_record ts Q → ts.length = 1 := fun ts Q ⟨v, e, _⟩ => by rw [e]; rfl
theorem at_rec_ok {x : T} {Q : Rs → List T → Prop} (h : dat x = true) (h2 : faultL x = []) (q : Q (.ret .non) [x]) : S_require_record [x] Q := ⟨x, rfl, h, .inl ⟨h2, q⟩⟩
theorem at_rec_bad {x i : T} {Q : Rs → List T → Prop} (h : dat x = true) (h2 : faultL x = [i]) (q : Q (.exc "InvalidRecord" [("index", i)]) [x]) : S_require_record [x] Q := ⟨x, rfl, h, .inr ⟨i, h2, q⟩⟩
abbrev N_require_record : List Str := ["value", "index"]
def w_require_record : WS :=
  (wFor (wiList (wCall S_fault_of_record (wCons (wV 0) wNil))) (wgN 1) (wRaise "InvalidRecord" ["index"] (wCons (wV 1) wNil)))
theorem v_require_record : ∀ ts Qf, S_require_record ts Qf → w_require_record (endsX 0 ts Qf) (startD N_require_record 0 ts) := by
  rintro ts Qf ⟨v, rfl, hd, q⟩
  have hz := fz1 hd
  show w_require_record (endsX 0 [v] Qf) [some (frz v), none]
  rw [dat_frz hd]
  rcases q with ⟨hf, q⟩ | ⟨i, hf, q⟩
  · refine ⟨rfl, at_fault hd ?_⟩
    rw [hf]
    exact ⟨fun _ _ => True, trivial, fun i t Δ h _ => by simp [frzL] at h, fun Δ _ => nx_of hz q⟩
  · obtain ⟨c1, c2, c3⟩ := fault_flat hf
    refine ⟨rfl, at_fault hd ?_⟩
    rw [hf]
    refine ⟨fun j Δ => j = 0 ∧ Δ = [some v, none], ⟨rfl, rfl⟩, ?_, ?_⟩
    · rintro j y Δ hy ⟨rfl, rfl⟩
      have hy' : (frzL [i])[0]? = some y := hy
      rw [frzL_closed [i] (by simp [closedL, c1])] at hy'
      obtain rfl := Option.some.inj hy'
      exact ⟨rfl, by simp [closedL, c1], ex_of (Δ := []) hz q⟩
    · rintro Δ ⟨h, _⟩
      cases h
theorem ev_ok {e : E3} (h : e.Ok 250) : okT e.t = true ∧ dpT e.t = 1 ∧ wtT e.t ≤ 400 := by
  have h1 := PySem.Flt.log2_lt_of (show 0 < 250 by decide) h.i
  have h2 : asc e.l = true ∧ e.l.length ≤ 1 := by rcases h.l with h | h <;> rw [h] <;> decide +kernel
  refine ⟨?_, ?_, ?_⟩
  · simp only [okT, okL, h2.1, Bool.and_true, Bool.true_and, decide_eq_true_eq]; omega
  · simp [dpT, dpL]
  · simp only [wtT, wtL]; omega
theorem els_ok : ∀ {es : List E3}, (∀ e ∈ es, e.Ok 250) → okL (EL es) = true ∧ dpL (EL es) ≤ 1 ∧ wtL (EL es) ≤ 402 * es.length
  | [], _ => ⟨rfl, by decide, Nat.le_refl _⟩
  | e :: es, h => by
    obtain ⟨a1, a2, a3⟩ := ev_ok (h e List.mem_cons_self)
    obtain ⟨b1, b2, b3⟩ := els_ok (es := es) fun z hz => h z (List.mem_cons_of_mem _ hz)
    have b2 : dpL (List.map E3.t es) ≤ 1 := b2
    have b3 : wtL (List.map E3.t es) ≤ 402 * es.length := b3
    refine ⟨?_, ?_, ?_⟩
    · simp only [List.map_cons, okL]; rw [a1, b1]; rfl
    · simp only [List.map_cons, dpL]; rw [a2]; omega
    · simp only [List.map_cons, wtL, List.length_cons]; omega
/-- it can be shown -/
structure Sh (es : List E3) : Prop where
  ok : ∀ e ∈ es, e.Ok 250
  len : es.length ≤ 400
theorem Sh.ts {es : List E3} (h : Sh es) (o : Bool) : okT (.lst o (EL es)) = true ∧ dpT (.lst o (EL es)) ≤ 60 ∧ wtT (.lst o (EL es)) ≤ sizeLine ∧ dpT (.lst o (EL es)) ≤ 2 ∧ wtT (.lst o (EL es)) ≤ 170000 := by
  obtain ⟨b1, b2, b3⟩ := els_ok h.ok
  have hl := h.len
  refine ⟨by rw [okT]; exact b1, by rw [dpT]; omega, ?_, by rw [dpT]; omega, by rw [wtT]; omega⟩
  rw [wtT, sizeLine_eq]; omega
theorem VR.shw {n : Nat} {es : List E3} (h : VR n es) (hn : n ≤ 250) : Sh es := ⟨fun e he => (h.ok e he).mono hn, by have := h.len; omega⟩
theorem el_d (es : List E3) : dat (.lst false (EL es)) = true := by simp only [dat, el_dat]; rfl
end TL

set_option maxRecDepth 100000
set_option maxHeartbeats 1000000
namespace TL
open PySem PySem.Spec PyProof.Rows L2
theorem ite_no {c : Bool} {A B : Prop} (h : c = false) (b : B) : if c = true then A else B := by rw [h]; exact b
theorem ite_yes {c : Bool} {A B : Prop} (h : c = true) (a : A) : if c = true then A else B := by rw [h]; exact a
abbrev allX : List Str := ["KeyerError", "InvalidLever", "InvalidTick", "InvalidNumber", "InvalidGaps", "InvalidText", "InvalidName", "Impossible", "NothingToUndo", "InvalidCommand", "InvalidRules", "InvalidRecord", "InvalidRuns", "InvalidKinds", "InvalidCases", "InvalidCode", "TooLarge", "InvalidSyntax"]
/-! ### what an error bears -/
/-- it can be shown, in few signs -/
def ShowI (i : T) : Prop := (okT i = true ∧ dpT i ≤ 60 ∧ wtT i ≤ sizeLine) ∧ closed i = true ∧ (shI i).length ≤ 1000
theorem showI_non : ShowI .non := ⟨⟨rfl, by decide, by decide⟩, rfl, by rw [shI_eq]; decide +kernel⟩
theorem showI_int {j : Int} (h : j.natAbs < 2 ^ 100) : ShowI (.int j) := by
  have h2 := PySem.Flt.log2_lt_of (show 0 < 100 by decide) h
  have h3 := int_text_length_le (a := j) (k := j.natAbs.log2 + 1) (by omega) (by omega)
  refine ⟨⟨by simp only [okT, decide_eq_true_eq]; omega, by simp only [dpT]; omega, by simp only [wtT]; rw [sizeLine_eq]; omega⟩, rfl, ?_⟩
  rw [shI_eq]
  show (Str.ofString (toString j)).length ≤ 1000
  rw [PySem.ofString_length]; omega
abbrev recT (i : T) : Str := ("record " : Str) ++ shI i
abbrev rulT (i : T) : Str := ("rules " : Str) ++ shI i
abbrev runT (i : T) : Str := ("runs " : Str) ++ shI i
/-- an error with an index, and what is told of it -/
def Idx (ey : Str) (i : T) (u : Str) : Prop := (ey = "InvalidRecord" ∧ u = recT i) ∨ (ey = "InvalidRules" ∧ u = rulT i) ∨ (ey = "InvalidRuns" ∧ u = runT i)
def S__law_fields (ea : Addr) (ey : Str) (eo : Option Addr) : FS := fun ts Q => ∃ i u, ts = [.exc ea ey eo [(("index" : Str), i)]] ∧ Idx ey i u ∧ ShowI i ∧ Q (.ret (.str u)) ts
theorem l__law_fields : ∀ {ea : Addr} {ey : Str} {eo : Option Addr} ts Q, S__law_fields ea ey eo ts Q → ts.length = 1 := fun ts Q ⟨_, _, e, _⟩ => by rw [e]; rfl
abbrev F3 (ea : Addr) (ey : Str) (eo : Option Addr) (fs : List (Str × T)) (x1 x2 : Option T) : Dt := [some (.exc ea ey eo fs), x1, x2]
abbrev N__law_fields : List Str := ["e", "word", "spots"]
def w__law_fields_1_1 (ea : Addr) (ey : Str) (eo : Option Addr) : WS :=
  (wAsg (wLst (wCons (wC (.str "rules ")) (wCons (wC (.str "record ")) (wCons (wC (.str "runs ")) (wCons (wC (.str "kinds ")) (wCons (wC (.str "cases ")) wNil)))))) (wgN 1))
def w__law_fields_1_2 (ea : Addr) (ey : Str) (eo : Option Addr) : WS :=
  (wAsg (wLst (wCons (wIsK ea ey eo ["InvalidRules"] allX (wV 0)) (wCons (wIsK ea ey eo ["InvalidRecord"] allX (wV 0)) (wCons (wIsK ea ey eo ["InvalidRuns"] allX (wV 0)) wNil)))) (wgN 2))
def w__law_fields_1_3 (ea : Addr) (ey : Str) (eo : Option Addr) : WS :=
  (wRet 0 (wOp gAdd (wOp gIx (wV 1) (wLIx (wOp gAdd (wV 2) (wLst (wCons (wIsK ea ey eo ["InvalidKinds"] allX (wV 0)) (wCons (wC (.bl true)) wNil)))) (wC (.bl true)))) (wCl gReprM (wCons (wFldK ea ey eo ["InvalidRules", "InvalidRecord", "InvalidRuns", "InvalidKinds", "InvalidCases"] "index" (wV 0)) wNil))))
def w__law_fields_1 (ea : Addr) (ey : Str) (eo : Option Addr) : WS :=
  (wIfS (wTru (wIsK ea ey eo ["InvalidRules", "InvalidRecord", "InvalidRuns", "InvalidKinds", "InvalidCases"] allX (wV 0))) (wSeq (w__law_fields_1_1 ea ey eo) (wSeq (w__law_fields_1_2 ea ey eo) (w__law_fields_1_3 ea ey eo))) wNext)
def w__law_fields_2_1 (ea : Addr) (ey : Str) (eo : Option Addr) : WS :=
  (wRet 0 (wOp gAdd (wC (.str "code ")) (wCl gReprM (wCons (wFldK ea ey eo ["InvalidCode"] "letter" (wV 0)) wNil))))
def w__law_fields_2 (ea : Addr) (ey : Str) (eo : Option Addr) : WS :=
  (wIfS (wTru (wIsK ea ey eo ["InvalidCode"] allX (wV 0))) (w__law_fields_2_1 ea ey eo) wNext)
def w__law_fields_3_1 (ea : Addr) (ey : Str) (eo : Option Addr) : WS :=
  (wRet 0 (wOp gAdd (wC (.str "large ")) (wCl gReprM (wCons (wFldK ea ey eo ["TooLarge"] "limit" (wV 0)) wNil))))
def w__law_fields_3 (ea : Addr) (ey : Str) (eo : Option Addr) : WS :=
  (wIfS (wTru (wIsK ea ey eo ["TooLarge"] allX (wV 0))) (w__law_fields_3_1 ea ey eo) wNext)
def w__law_fields_4 (ea : Addr) (ey : Str) (eo : Option Addr) : WS :=
  (wRet 0 (wIf (wTru (wIsK ea ey eo ["InvalidSyntax"] allX (wV 0))) (wOp gAdd (wOp gAdd (wOp gAdd (wC (.str "syntax ")) (wCl gReprM (wCons (wFldK ea ey eo ["InvalidSyntax"] "line" (wV 0)) wNil))) (wC (.str " "))) (wCl gReprM (wCons (wFldK ea ey eo ["InvalidSyntax"] "word" (wV 0)) wNil))) (wC (.str ""))))
def w__law_fields (ea : Addr) (ey : Str) (eo : Option Addr) : WS :=
  (wSeq (w__law_fields_1 ea ey eo) (wSeq (w__law_fields_2 ea ey eo) (wSeq (w__law_fields_3 ea ey eo) (w__law_fields_4 ea ey eo))))
section
variable {D : EndsD} {ea : Addr} {ey : Str} {eo : Option Addr} {fs : List (Str × T)} {x1 x2 : Option T} {i : T}
theorem fl_record (hi : ShowI i) (k : ∀ Δ, D.rt (.str (recT i)) Δ) : w__law_fields ea "InvalidRecord" eo D (F3 ea "InvalidRecord" eo [(("index" : Str), i)] none none) := by
  refine sq ⟨⟨rfl, rfl, rfl⟩, by decide +kernel, ?_⟩
  show wSeq (w__law_fields_1_1 ea "InvalidRecord" eo) (wSeq (w__law_fields_1_2 ea "InvalidRecord" eo) (w__law_fields_1_3 ea "InvalidRecord" eo)) _ (F3 ea "InvalidRecord" eo [(("index" : Str), i)] none none)
  refine sq ⟨show 5 ≤ sizeLine by decide, ?_⟩
  show wSeq (w__law_fields_1_2 ea "InvalidRecord" eo) (w__law_fields_1_3 ea "InvalidRecord" eo) _ (F3 ea "InvalidRecord" eo [(("index" : Str), i)] (some (.lst true [.str "rules ", .str "record ", .str "runs ", .str "kinds ", .str "cases "])) none)
  refine sq ⟨⟨rfl, rfl, rfl⟩, by decide +kernel, ⟨rfl, rfl, rfl⟩, by decide +kernel, ⟨rfl, rfl, rfl⟩, by decide +kernel, z3, ?_⟩
  refine ⟨⟨rfl, rfl, rfl⟩, by decide +kernel, z2, ⟨rfl, rfl⟩, show 5 ≤ sizeLine by decide, rfl, rfl, rfl, ⟨rfl, rfl, rfl⟩, by decide +kernel, .inl ⟨hi.1, ?_, k _⟩⟩
  have := hi.2.2
  show 7 + (shI i).length ≤ sizeLine
  rw [sizeLine_eq]; omega
theorem fl_rules (hi : ShowI i) (k : ∀ Δ, D.rt (.str (rulT i)) Δ) : w__law_fields ea "InvalidRules" eo D (F3 ea "InvalidRules" eo [(("index" : Str), i)] none none) := by
  refine sq ⟨⟨rfl, rfl, rfl⟩, by decide +kernel, ?_⟩
  show wSeq (w__law_fields_1_1 ea "InvalidRules" eo) (wSeq (w__law_fields_1_2 ea "InvalidRules" eo) (w__law_fields_1_3 ea "InvalidRules" eo)) _ (F3 ea "InvalidRules" eo [(("index" : Str), i)] none none)
  refine sq ⟨show 5 ≤ sizeLine by decide, ?_⟩
  show wSeq (w__law_fields_1_2 ea "InvalidRules" eo) (w__law_fields_1_3 ea "InvalidRules" eo) _ (F3 ea "InvalidRules" eo [(("index" : Str), i)] (some (.lst true [.str "rules ", .str "record ", .str "runs ", .str "kinds ", .str "cases "])) none)
  refine sq ⟨⟨rfl, rfl, rfl⟩, by decide +kernel, ⟨rfl, rfl, rfl⟩, by decide +kernel, ⟨rfl, rfl, rfl⟩, by decide +kernel, z3, ?_⟩
  refine ⟨⟨rfl, rfl, rfl⟩, by decide +kernel, z2, ⟨rfl, rfl⟩, show 5 ≤ sizeLine by decide, rfl, rfl, rfl, ⟨rfl, rfl, rfl⟩, by decide +kernel, .inl ⟨hi.1, ?_, k _⟩⟩
  have := hi.2.2
  show 6 + (shI i).length ≤ sizeLine
  rw [sizeLine_eq]; omega
theorem fl_runs (hi : ShowI i) (k : ∀ Δ, D.rt (.str (runT i)) Δ) : w__law_fields ea "InvalidRuns" eo D (F3 ea "InvalidRuns" eo [(("index" : Str), i)] none none) := by
  refine sq ⟨⟨rfl, rfl, rfl⟩, by decide +kernel, ?_⟩
  show wSeq (w__law_fields_1_1 ea "InvalidRuns" eo) (wSeq (w__law_fields_1_2 ea "InvalidRuns" eo) (w__law_fields_1_3 ea "InvalidRuns" eo)) _ (F3 ea "InvalidRuns" eo [(("index" : Str), i)] none none)
  refine sq ⟨show 5 ≤ sizeLine by decide, ?_⟩
  show wSeq (w__law_fields_1_2 ea "InvalidRuns" eo) (w__law_fields_1_3 ea "InvalidRuns" eo) _ (F3 ea "InvalidRuns" eo [(("index" : Str), i)] (some (.lst true [.str "rules ", .str "record ", .str "runs ", .str "kinds ", .str "cases "])) none)
  refine sq ⟨⟨rfl, rfl, rfl⟩, by decide +kernel, ⟨rfl, rfl, rfl⟩, by decide +kernel, ⟨rfl, rfl, rfl⟩, by decide +kernel, z3, ?_⟩
  refine ⟨⟨rfl, rfl, rfl⟩, by decide +kernel, z2, ⟨rfl, rfl⟩, show 5 ≤ sizeLine by decide, rfl, rfl, rfl, ⟨rfl, rfl, rfl⟩, by decide +kernel, .inl ⟨hi.1, ?_, k _⟩⟩
  have := hi.2.2
  show 5 + (shI i).length ≤ sizeLine
  rw [sizeLine_eq]; omega
end
theorem v__law_fields : ∀ {ea : Addr} {ey : Str} {eo : Option Addr} ts Qf, S__law_fields ea ey eo ts Qf → w__law_fields ea ey eo (endsD 0 ts Qf) (startD N__law_fields 0 ts) := by
  rintro ea ey eo ts Qf ⟨i, u, rfl, hu, hi, q⟩
  show w__law_fields ea ey eo (endsD 0 [.exc ea ey eo [(("index" : Str), i)]] Qf) (F3 ea ey eo [(("index" : Str), i)] none none)
  have E : ∀ {Δ : Dt}, (endsD 0 [.exc ea ey eo [(("index" : Str), i)]] Qf).rt (.str u) Δ := q
  revert E
  generalize endsD 0 [.exc ea ey eo [(("index" : Str), i)]] Qf = D
  intro E
  rcases hu with ⟨rfl, rfl⟩ | ⟨rfl, rfl⟩ | ⟨rfl, rfl⟩
  · exact fl_record hi fun Δ => E
  · exact fl_rules hi fun Δ => E
  · exact fl_runs hi fun Δ => E
end TL

set_option maxRecDepth 100000
set_option maxHeartbeats 1000000
namespace TL
open PySem PySem.Spec PyProof.Rows L2
abbrev pb (s : Str) (b : Bool) : Str × Bool := (s, b)
/-- what is told of an error's class and fields -/
def S__law_class (ea : Addr) (ey : Str) (eo : Option Addr) : FS := fun ts Q => ∃ i u, ts = [.exc ea ey eo [(("index" : Str), i)]] ∧ Idx ey i u ∧ ShowI i ∧ Q (.ret (.str u)) ts
theorem l__law_class : ∀ {ea : Addr} {ey : Str} {eo : Option Addr} ts Q, S__law_class ea ey eo ts Q → ts.length = 1 := fun ts Q ⟨_, _, e, _⟩ => by rw [e]; rfl
abbrev prs (l : List (Str × Bool)) : List T := l.map fun p => .tup [.str p.1, .bl p.2]
theorem prs_cl : ∀ l, closedL (prs l) = true
  | [] => rfl
  | _ :: l => by simp only [prs, List.map_cons, closedL, closed, prs_cl l]; rfl
theorem prs_len (l : List (Str × Bool)) : (prs l).length = l.length := List.length_map _
theorem prs_app (l m : List (Str × Bool)) : prs l ++ prs m = prs (l ++ m) := (List.map_append).symm
theorem prs_frz (l : List (Str × Bool)) : frzL (prs l) = prs l := frzL_closed _ (prs_cl l)
abbrev wds (l : List (Str × Bool)) : List T := (l.filter fun p => p.2).map fun p => .str p.1
abbrev N__law_class : List Str := ["e", "rows", "found", "word", "is_one"]
def w__law_class_1 (ea : Addr) (ey : Str) (eo : Option Addr) : WS :=
  (wAsg (wLst (wCons (wTup (wCons (wC (.str "lever")) (wCons (wIsK ea ey eo ["InvalidLever"] allX (wV 0)) wNil))) (wCons (wTup (wCons (wC (.str "tick")) (wCons (wIsK ea ey eo ["InvalidTick"] allX (wV 0)) wNil))) wNil))) (wgN 1))
def w__law_class_2 (ea : Addr) (ey : Str) (eo : Option Addr) : WS :=
  (wAsg (wOp gAdd (wV 1) (wLst (wCons (wTup (wCons (wC (.str "number")) (wCons (wIsK ea ey eo ["InvalidNumber"] allX (wV 0)) wNil))) (wCons (wTup (wCons (wC (.str "gaps")) (wCons (wIsK ea ey eo ["InvalidGaps"] allX (wV 0)) wNil))) wNil)))) (wgN 1))
def w__law_class_3 (ea : Addr) (ey : Str) (eo : Option Addr) : WS :=
  (wAsg (wOp gAdd (wV 1) (wLst (wCons (wTup (wCons (wC (.str "text")) (wCons (wIsK ea ey eo ["InvalidText"] allX (wV 0)) wNil))) (wCons (wTup (wCons (wC (.str "name")) (wCons (wIsK ea ey eo ["InvalidName"] allX (wV 0)) wNil))) wNil)))) (wgN 1))
def w__law_class_4 (ea : Addr) (ey : Str) (eo : Option Addr) : WS :=
  (wAsg (wOp gAdd (wV 1) (wLst (wCons (wTup (wCons (wC (.str "impossible")) (wCons (wIsK ea ey eo ["Impossible"] allX (wV 0)) wNil))) (wCons (wTup (wCons (wC (.str "undo")) (wCons (wIsK ea ey eo ["NothingToUndo"] allX (wV 0)) wNil))) wNil)))) (wgN 1))
def w__law_class_5 (ea : Addr) (ey : Str) (eo : Option Addr) : WS :=
  (wAsg (wOp gAdd (wV 1) (wLst (wCons (wTup (wCons (wC (.str "command")) (wCons (wIsK ea ey eo ["InvalidCommand"] allX (wV 0)) wNil))) (wCons (wTup (wCons (wC (.str "rules")) (wCons (wIsK ea ey eo ["InvalidRules"] allX (wV 0)) wNil))) wNil)))) (wgN 1))
def w__law_class_6 (ea : Addr) (ey : Str) (eo : Option Addr) : WS :=
  (wAsg (wOp gAdd (wV 1) (wLst (wCons (wTup (wCons (wC (.str "record")) (wCons (wIsK ea ey eo ["InvalidRecord"] allX (wV 0)) wNil))) (wCons (wTup (wCons (wC (.str "runs")) (wCons (wIsK ea ey eo ["InvalidRuns"] allX (wV 0)) wNil))) wNil)))) (wgN 1))
def w__law_class_7 (ea : Addr) (ey : Str) (eo : Option Addr) : WS :=
  (wAsg (wOp gAdd (wV 1) (wLst (wCons (wTup (wCons (wC (.str "kinds")) (wCons (wIsK ea ey eo ["InvalidKinds"] allX (wV 0)) wNil))) (wCons (wTup (wCons (wC (.str "cases")) (wCons (wIsK ea ey eo ["InvalidCases"] allX (wV 0)) wNil))) wNil)))) (wgN 1))
def w__law_class_8 (ea : Addr) (ey : Str) (eo : Option Addr) : WS :=
  (wAsg (wOp gAdd (wV 1) (wLst (wCons (wTup (wCons (wC (.str "code")) (wCons (wIsK ea ey eo ["InvalidCode"] allX (wV 0)) wNil))) (wCons (wTup (wCons (wC (.str "large")) (wCons (wIsK ea ey eo ["TooLarge"] allX (wV 0)) wNil))) wNil)))) (wgN 1))
def w__law_class_9 (ea : Addr) (ey : Str) (eo : Option Addr) : WS :=
  (wAsg (wOp gAdd (wV 1) (wLst (wCons (wTup (wCons (wC (.str "syntax")) (wCons (wIsK ea ey eo ["InvalidSyntax"] allX (wV 0)) wNil))) wNil))) (wgN 1))
def w__law_class_10 (ea : Addr) (ey : Str) (eo : Option Addr) : WS :=
  (wAsg (wLc (wiList (wV 1)) (wgTup 2 (wgCons (wgN 3) (wgCons (wgN 4) wgNil))) (wTru (wV 4)) (wV 3) [3, 4]) (wgN 2))
def w__law_class_11_1 (ea : Addr) (ey : Str) (eo : Option Addr) : WS :=
  (wRet 0 (wC (.str "odd")))
def w__law_class_11 (ea : Addr) (ey : Str) (eo : Option Addr) : WS :=
  (wIfS (wOr (wTest (wOp (gEq true) (wCl gLen (wCons (wV 2) wNil)) (wC (.int 1)))) (wNot (wTru (wIsK ea ey eo ["KeyerError", "InvalidLever", "InvalidTick", "InvalidNumber", "InvalidGaps", "InvalidText", "InvalidName", "Impossible", "NothingToUndo", "InvalidCommand", "InvalidRules", "InvalidRecord", "InvalidRuns", "InvalidKinds", "InvalidCases", "InvalidCode", "TooLarge", "InvalidSyntax"] allX (wV 0))))) (w__law_class_11_1 ea ey eo) wNext)
def w__law_class_12 (ea : Addr) (ey : Str) (eo : Option Addr) : WS :=
  (wRet 0 (wIf (wTest (wOp (gEq true) (wCall (S__law_fields ea ey eo) (wCons (wV 0) wNil)) (wC (.str "")))) (wCall (S__law_fields ea ey eo) (wCons (wV 0) wNil)) (wOp gIx (wV 2) (wC (.int 0)))))
def w__law_class (ea : Addr) (ey : Str) (eo : Option Addr) : WS :=
  (wSeq (w__law_class_1 ea ey eo) (wSeq (w__law_class_2 ea ey eo) (wSeq (w__law_class_3 ea ey eo) (wSeq (w__law_class_4 ea ey eo) (wSeq (w__law_class_5 ea ey eo) (wSeq (w__law_class_6 ea ey eo) (wSeq (w__law_class_7 ea ey eo) (wSeq (w__law_class_8 ea ey eo) (wSeq (w__law_class_9 ea ey eo) (wSeq (w__law_class_10 ea ey eo) (wSeq (w__law_class_11 ea ey eo) (w__law_class_12 ea ey eo))))))))))))
section
variable {D : EndsD} {ea : Addr} {ey : Str} {eo : Option Addr} {fs : List (Str × T)} {x1 x2 x3 x4 : Option T} {l : List (Str × Bool)}
abbrev BT (ea : Addr) (ey : Str) (eo : Option Addr) (fs : List (Str × T)) (x1 x2 x3 x4 : Option T) : Dt := [some (.exc ea ey eo fs), x1, x2, x3, x4]
abbrev isC (ey c : Str) : Bool := ([c] : List Str).contains ey
theorem cls1 (hy : ey ∈ allX) (k : D.nx (BT ea ey eo fs (some (.lst true (prs [(pb "lever" <| isC ey "InvalidLever"), (pb "tick" <| isC ey "InvalidTick")]))) x2 x3 x4)) : w__law_class_1 ea ey eo D (BT ea ey eo fs x1 x2 x3 x4) :=
  ⟨⟨rfl, rfl, rfl⟩, hy, z2, ⟨rfl, rfl, rfl⟩, hy, z2, z2, k⟩
theorem cls_add {u v : Str} {bu bv : Bool} (hl : l.length ≤ 20) (k : D.nx (BT ea ey eo fs (some (.lst true (prs (l ++ [pb u bu, pb v bv])))) x2 x3 x4)) :
    gAdd (.lst true (prs l)) (.lst true [.tup [.str u, .bl bu], .tup [.str v, .bl bv]]) fun t => D.nx (BT ea ey eo fs (some t) x2 x3 x4) := by
  rw [← prs_app] at k
  refine ⟨⟨prs_cl l, rfl⟩, ?_, k⟩
  rw [prs_len]
  show l.length + 2 ≤ sizeLine
  rw [sizeLine_eq]; omega
theorem cls2 (hy : ey ∈ allX) (hl : l.length ≤ 20) (k : D.nx (BT ea ey eo fs (some (.lst true (prs (l ++ [(pb "number" <| isC ey "InvalidNumber"), (pb "gaps" <| isC ey "InvalidGaps")])))) x2 x3 x4)) : w__law_class_2 ea ey eo D (BT ea ey eo fs (some (.lst true (prs l))) x2 x3 x4) :=
  ⟨⟨rfl, rfl, rfl⟩, hy, z2, ⟨rfl, rfl, rfl⟩, hy, z2, z2, cls_add hl k⟩
theorem cls3 (hy : ey ∈ allX) (hl : l.length ≤ 20) (k : D.nx (BT ea ey eo fs (some (.lst true (prs (l ++ [(pb "text" <| isC ey "InvalidText"), (pb "name" <| isC ey "InvalidName")])))) x2 x3 x4)) : w__law_class_3 ea ey eo D (BT ea ey eo fs (some (.lst true (prs l))) x2 x3 x4) :=
  ⟨⟨rfl, rfl, rfl⟩, hy, z2, ⟨rfl, rfl, rfl⟩, hy, z2, z2, cls_add hl k⟩
theorem cls4 (hy : ey ∈ allX) (hl : l.length ≤ 20) (k : D.nx (BT ea ey eo fs (some (.lst true (prs (l ++ [(pb "impossible" <| isC ey "Impossible"), (pb "undo" <| isC ey "NothingToUndo")])))) x2 x3 x4)) : w__law_class_4 ea ey eo D (BT ea ey eo fs (some (.lst true (prs l))) x2 x3 x4) :=
  ⟨⟨rfl, rfl, rfl⟩, hy, z2, ⟨rfl, rfl, rfl⟩, hy, z2, z2, cls_add hl k⟩
theorem cls5 (hy : ey ∈ allX) (hl : l.length ≤ 20) (k : D.nx (BT ea ey eo fs (some (.lst true (prs (l ++ [(pb "command" <| isC ey "InvalidCommand"), (pb "rules" <| isC ey "InvalidRules")])))) x2 x3 x4)) : w__law_class_5 ea ey eo D (BT ea ey eo fs (some (.lst true (prs l))) x2 x3 x4) :=
  ⟨⟨rfl, rfl, rfl⟩, hy, z2, ⟨rfl, rfl, rfl⟩, hy, z2, z2, cls_add hl k⟩
theorem cls6 (hy : ey ∈ allX) (hl : l.length ≤ 20) (k : D.nx (BT ea ey eo fs (some (.lst true (prs (l ++ [(pb "record" <| isC ey "InvalidRecord"), (pb "runs" <| isC ey "InvalidRuns")])))) x2 x3 x4)) : w__law_class_6 ea ey eo D (BT ea ey eo fs (some (.lst true (prs l))) x2 x3 x4) :=
  ⟨⟨rfl, rfl, rfl⟩, hy, z2, ⟨rfl, rfl, rfl⟩, hy, z2, z2, cls_add hl k⟩
theorem cls7 (hy : ey ∈ allX) (hl : l.length ≤ 20) (k : D.nx (BT ea ey eo fs (some (.lst true (prs (l ++ [(pb "kinds" <| isC ey "InvalidKinds"), (pb "cases" <| isC ey "InvalidCases")])))) x2 x3 x4)) : w__law_class_7 ea ey eo D (BT ea ey eo fs (some (.lst true (prs l))) x2 x3 x4) :=
  ⟨⟨rfl, rfl, rfl⟩, hy, z2, ⟨rfl, rfl, rfl⟩, hy, z2, z2, cls_add hl k⟩
theorem cls8 (hy : ey ∈ allX) (hl : l.length ≤ 20) (k : D.nx (BT ea ey eo fs (some (.lst true (prs (l ++ [(pb "code" <| isC ey "InvalidCode"), (pb "large" <| isC ey "TooLarge")])))) x2 x3 x4)) : w__law_class_8 ea ey eo D (BT ea ey eo fs (some (.lst true (prs l))) x2 x3 x4) :=
  ⟨⟨rfl, rfl, rfl⟩, hy, z2, ⟨rfl, rfl, rfl⟩, hy, z2, z2, cls_add hl k⟩
theorem cls9 (hy : ey ∈ allX) (hl : l.length ≤ 20) (k : D.nx (BT ea ey eo fs (some (.lst true (prs (l ++ [(pb "syntax" <| isC ey "InvalidSyntax")])))) x2 x3 x4)) : w__law_class_9 ea ey eo D (BT ea ey eo fs (some (.lst true (prs l))) x2 x3 x4) := by
  rw [← prs_app] at k
  refine ⟨⟨rfl, rfl, rfl⟩, hy, z2, z1, ⟨prs_cl l, rfl⟩, ?_, k⟩
  rw [prs_len]
  show l.length + 1 ≤ sizeLine
  rw [sizeLine_eq]; omega
theorem cls10 {m : List (Str × Bool)} (hm : m.length ≤ 21) (k : D.nx (BT ea ey eo fs (some (.lst false (prs m))) (some (.lst true (wds m))) none none)) : w__law_class_10 ea ey eo D (BT ea ey eo fs (some (.lst true (prs m))) x2 x3 x4) := by
  refine ⟨fun i acc Δ => acc = wds (m.take i) ∧ Δ = BT ea ey eo fs (some (.lst false (prs m))) x2 none none, ⟨rfl, ?_⟩, ?_, ?_⟩
  · show BT ea ey eo fs (some (.lst false (frzL (prs m)))) x2 none none = _
    rw [prs_frz]
  · rintro i y acc Δ hy ⟨rfl, rfl⟩
    have hy' : (frzL (frzL (prs m)))[i]? = some y := hy
    rw [prs_frz, prs_frz, List.getElem?_map] at hy'
    cases e : m[i]? with
    | none => rw [e] at hy'; cases hy'
    | some p =>
      rw [e] at hy'
      obtain rfl := Option.some.inj hy'
      obtain ⟨u, b⟩ := p
      have et : m.take (i + 1) = m.take i ++ [(u, b)] := by rw [List.take_add_one, e]; rfl
      have h1 := List.length_filter_le (fun p : Str × Bool => p.2) (m.take i)
      have h2 : (m.take i).length ≤ 21 := by rw [List.length_take]; omega
      refine ⟨rfl, ite_of (fun h => ⟨zz200 (by simp only [wds, List.length_map]; omega), ?_, rfl⟩) fun h => ⟨?_, rfl⟩⟩
      · have h : b = true := h
        rw [et, h]
        simp [wds, List.filter_append, frz]
      · have h : b = false := h
        rw [et, h]
        simp [wds, List.filter_append]
  · rintro acc Δ ⟨rfl, rfl⟩
    have e2 : wds (m.take (frzL (frzL (prs m))).length) = wds m := by rw [prs_frz, prs_frz, prs_len, List.take_length]
    show D.nx [some (.exc ea ey eo fs), some (.lst false (prs m)), some (.lst true (wds (m.take (frzL (frzL (prs m))).length))), none, none]
    rw [e2]
    exact k
end
abbrev l17 (ey : Str) : List (Str × Bool) := [(pb "lever" <| isC ey "InvalidLever"), (pb "tick" <| isC ey "InvalidTick"), (pb "number" <| isC ey "InvalidNumber"), (pb "gaps" <| isC ey "InvalidGaps"), (pb "text" <| isC ey "InvalidText"), (pb "name" <| isC ey "InvalidName"), (pb "impossible" <| isC ey "Impossible"), (pb "undo" <| isC ey "NothingToUndo"), (pb "command" <| isC ey "InvalidCommand"), (pb "rules" <| isC ey "InvalidRules"), (pb "record" <| isC ey "InvalidRecord"), (pb "runs" <| isC ey "InvalidRuns"), (pb "kinds" <| isC ey "InvalidKinds"), (pb "cases" <| isC ey "InvalidCases"), (pb "code" <| isC ey "InvalidCode"), (pb "large" <| isC ey "TooLarge"), (pb "syntax" <| isC ey "InvalidSyntax")]
abbrev vEs : List Str := ["KeyerError", "InvalidLever", "InvalidTick", "InvalidNumber", "InvalidGaps", "InvalidText", "InvalidName", "Impossible", "NothingToUndo", "InvalidCommand", "InvalidRules", "InvalidRecord", "InvalidRuns", "InvalidKinds", "InvalidCases", "InvalidCode", "TooLarge", "InvalidSyntax"]
section
variable {D : EndsD} {ea : Addr} {ey : Str} {eo : Option Addr} {fs : List (Str × T)} {x1 x2 : Option T}
theorem cls19 (hy : ey ∈ allX) (k : wSeq (w__law_class_11 ea ey eo) (w__law_class_12 ea ey eo) D (BT ea ey eo fs (some (.lst false (prs (l17 ey)))) (some (.lst true (wds (l17 ey)))) none none)) : w__law_class ea ey eo D (BT ea ey eo fs none none none none) := by
  refine sq (cls1 hy ?_)
  dsimp only
  refine sq (cls2 hy (by simp) ?_)
  dsimp only
  refine sq (cls3 hy (by simp) ?_)
  dsimp only
  refine sq (cls4 hy (by simp) ?_)
  dsimp only
  refine sq (cls5 hy (by simp) ?_)
  dsimp only
  refine sq (cls6 hy (by simp) ?_)
  dsimp only
  refine sq (cls7 hy (by simp) ?_)
  dsimp only
  refine sq (cls8 hy (by simp) ?_)
  dsimp only
  refine sq (cls9 hy (by simp) ?_)
  dsimp only
  refine sq (cls10 (by simp) ?_)
  exact k
theorem words_record : wds (l17 "InvalidRecord") = [.str "record"] := by rfl
theorem words_rules : wds (l17 "InvalidRules") = [.str "rules"] := by rfl
theorem words_runs : wds (l17 "InvalidRuns") = [.str "runs"] := by rfl
theorem str_ne {a b : Str} (h : 0 < a.length) : decide (a ++ b = ("" : Str)) = false := by
  refine decide_eq_false fun e => ?_
  have e2 : (a ++ b).length = 0 := by rw [e]; rfl
  have e3 : (a ++ b).length = a.length + b.length := PySem.Str.length_append a b
  omega
theorem cls_told {u w : Str} (hv : vEs.contains ey = true) (hy : ey ∈ allX) (hu : 0 < u.length) (hf : ∀ {Q : Rs → List T → Prop}, Q (.ret (.str u)) [.exc ea ey eo fs] → S__law_fields ea ey eo [.exc ea ey eo fs] Q) (hne : decide (u = "") = false) (k : ∀ Δ, D.rt (.str u) Δ) :
    wSeq (w__law_class_11 ea ey eo) (w__law_class_12 ea ey eo) D (BT ea ey eo fs x1 (some (.lst true [.str w])) none none) := by
  refine sq ⟨⟨rfl, rfl, rfl⟩, hy, ?_⟩
  refine ite_no (c := !vEs.contains ey) (by rw [hv]; rfl) ?_
  refine ⟨rfl, hf ?_⟩
  refine ite_yes (c := !decide (u = ("" : Str))) (by rw [hne]; rfl) ?_
  exact ⟨rfl, hf (k _)⟩
end
theorem v__law_class : ∀ {ea : Addr} {ey : Str} {eo : Option Addr} ts Qf, S__law_class ea ey eo ts Qf → w__law_class ea ey eo (endsD 0 ts Qf) (startD N__law_class 0 ts) := by
  rintro ea ey eo ts Qf ⟨i, u, rfl, hu, hi, q⟩
  show w__law_class ea ey eo (endsD 0 [.exc ea ey eo [(("index" : Str), i)]] Qf) (BT ea ey eo [(("index" : Str), i)] none none none none)
  have E : ∀ {Δ : Dt}, (endsD 0 [.exc ea ey eo [(("index" : Str), i)]] Qf).rt (.str u) Δ := q
  revert E
  generalize endsD 0 [.exc ea ey eo [(("index" : Str), i)]] Qf = D
  intro E
  rcases hu with ⟨rfl, rfl⟩ | ⟨rfl, rfl⟩ | ⟨rfl, rfl⟩
  · refine cls19 (by decide +kernel) ?_
    rw [words_record]
    exact cls_told (by decide +kernel) (by decide +kernel) (by rw [PySem.Str.length_append]; show 0 < 7 + _; omega) (fun z => ⟨i, _, rfl, .inl ⟨rfl, rfl⟩, hi, z⟩) (str_ne (by decide)) fun Δ => E
  · refine cls19 (by decide +kernel) ?_
    rw [words_rules]
    exact cls_told (by decide +kernel) (by decide +kernel) (by rw [PySem.Str.length_append]; show 0 < 6 + _; omega) (fun z => ⟨i, _, rfl, .inr (.inl ⟨rfl, rfl⟩), hi, z⟩) (str_ne (by decide)) fun Δ => E
  · refine cls19 (by decide +kernel) ?_
    rw [words_runs]
    exact cls_told (by decide +kernel) (by decide +kernel) (by rw [PySem.Str.length_append]; show 0 < 5 + _; omega) (fun z => ⟨i, _, rfl, .inr (.inr ⟨rfl, rfl⟩), hi, z⟩) (str_ne (by decide)) fun Δ => E
end TL

set_option maxRecDepth 100000
set_option maxHeartbeats 1000000
namespace TL
open PySem PySem.Spec PyProof.Rows L2
/-! ### what is drawn, as events -/
theorem ev_es : ∀ {xs : List T}, (∀ x ∈ xs, Ev x) → ∃ es : List E3, xs = EL es ∧ ∀ e ∈ es, e.Ok 100
  | [], _ => ⟨[], rfl, fun _ z => (nomatch z)⟩
  | x :: xs, h => by
    obtain ⟨es, e1, h1⟩ := ev_es (xs := xs) fun z hz => h z (List.mem_cons_of_mem _ hz)
    obtain ⟨t, l, b, rfl, hl, ht⟩ := h x List.mem_cons_self
    refine ⟨⟨t, l, b⟩ :: es, by rw [e1]; rfl, fun e he => ?_⟩
    rcases List.mem_cons.mp he with rfl | he
    · exact ⟨by dsimp only; omega, hl⟩
    · exact h1 e he
theorem rc_es {xs : List T} (h : Rc xs) : ∃ es : List E3, xs = EL es ∧ VR 100 es := by
  obtain ⟨h1, h2, h3⟩ := h
  obtain ⟨es, e1, ok⟩ := ev_es h3
  subst e1
  rw [List.length_map] at h2
  refine ⟨es, rfl, ok, h2, ?_⟩
  have ag := agree es.length (EL es) 0 [] none fun _ z => (nomatch z)
  have h1' : lgo (([] : List Str).contains "s") (([] : List Str).contains "l") none (EL es) = true := h1
  rw [h1'] at ag
  cases e : fgo es.length 0 [] none (EL es) with
  | nil => rfl
  | cons a b => rw [e] at ag; cases ag
/-- as many presses as releases: an even number -/
theorem lgo_even : ∀ (es : List E3) (ds dl : Bool) (la : Option Int), lgo ds dl la (EL es) = true → (es.length + (if ds then 1 else 0) + (if dl then 1 else 0)) % 2 = 0
  | [], ds, dl, la, h => by
    have h : (!ds && !dl) = true := h
    cases ds <;> cases dl <;> first | rfl | cases h
  | e :: es, ds, dl, la, h => by
    have h : lgo ds dl la (.tup [.int e.i, .str e.l, .bl e.b] :: EL es) = true := h
    unfold lgo at h
    by_cases h1 : e.l = "s"
    · rw [if_pos h1] at h
      by_cases h2 : ds = e.b ∨ lateB la e.i = true
      · rw [if_pos h2] at h; cases h
      · rw [if_neg h2] at h
        have ih := lgo_even es _ _ _ h
        have h3 : ¬ ds = e.b := fun z => h2 (.inl z)
        rw [List.length_cons]
        cases ds <;> cases hb : e.b <;> cases dl <;> simp [hb] at h3 ih ⊢ <;> omega
    · rw [if_neg h1] at h
      by_cases h4 : e.l = "l"
      · rw [if_pos h4] at h
        by_cases h2 : dl = e.b ∨ lateB la e.i = true
        · rw [if_pos h2] at h; cases h
        · rw [if_neg h2] at h
          have ih := lgo_even es _ _ _ h
          have h3 : ¬ dl = e.b := fun z => h2 (.inl z)
          rw [List.length_cons]
          cases dl <;> cases hb : e.b <;> cases ds <;> simp [hb] at h3 ih ⊢ <;> omega
      · rw [if_neg h4] at h; cases h
theorem vr_even {n : Nat} {es : List E3} (h : VR n es) : es.length % 2 = 0 := by
  have ag := agree es.length (EL es) 0 [] none fun _ z => (nomatch z)
  rw [h.f] at ag
  have h1 : lgo false false none (EL es) = true := ag.symm
  simpa using lgo_even es false false none h1
/-! ### a prefix of a record -/
theorem fgo_step {n i : Nat} {dn : List Str} {la : Option Int} {e : E3} {xs : List T} (h : fgo n i dn la (e.t :: xs) = []) : (lateB la e.i = false ∧ e.b ≠ dn.contains e.l) ∧ fgo n (i + 1) (if e.b = true then dn ++ [e.l] else dn.filter fun z => decide (z ≠ e.l)) (some e.i) xs = [] := by
  unfold fgo at h
  by_cases c : (e.l = "s" ∨ e.l = "l") ∧ lateB la e.i = false ∧ e.b ≠ dn.contains e.l
  · rw [if_pos c] at h
    exact ⟨c.2, h⟩
  · rw [if_neg c] at h; cases h
theorem fgo_go {n i : Nat} {dn : List Str} {la : Option Int} {e : E3} {xs : List T} (hl : e.l = "s" ∨ e.l = "l") (h : lateB la e.i = false ∧ e.b ≠ dn.contains e.l) : fgo n i dn la (e.t :: xs) = fgo n (i + 1) (if e.b = true then dn ++ [e.l] else dn.filter fun z => decide (z ≠ e.l)) (some e.i) xs := by
  conv => lhs; unfold fgo
  rw [if_pos ⟨hl, h⟩]
structure At (m : Nat) (es : List E3) (i : Nat) (dn : List Str) (la : Option Int) (k : Nat) (dn' : List Str) (la' : Option Int) : Prop where
  go : ∀ n ys, fgo n i dn la (EL (es.take k) ++ ys) = fgo n (i + k) dn' la' ys
  on : fgo m (i + k) dn' la' (EL (es.drop k)) = []
  z : k = 0 → la' = la ∧ dn' = dn
  last : ∀ a, 0 < k → es[k - 1]? = some a → la' = some a.i
theorem run (m : Nat) : ∀ (es : List E3) (i : Nat) (dn : List Str) (la : Option Int), (∀ e ∈ es, e.l = "s" ∨ e.l = "l") → fgo m i dn la (EL es) = [] → ∀ k, k ≤ es.length → ∃ dn' la', At m es i dn la k dn' la'
  | es, i, dn, la, _, h, 0, _ => ⟨dn, la, fun n ys => rfl, h, fun _ => ⟨rfl, rfl⟩, fun a z => absurd z (by omega)⟩
  | [], _, _, _, _, _, k + 1, hk => by simp at hk
  | e :: es, i, dn, la, hl, h, k + 1, hk => by
    obtain ⟨h1, h2⟩ := fgo_step (e := e) (xs := EL es) h
    obtain ⟨dn', la', A⟩ := run m es (i + 1) _ (some e.i) (fun z hz => hl z (List.mem_cons_of_mem _ hz)) h2 k (by simpa using hk)
    refine ⟨dn', la', fun n ys => ?_, ?_, fun z => absurd z (by omega), fun a _ ha => ?_⟩
    · have := A.go n ys
      rw [show i + (k + 1) = i + 1 + k by omega, ← this]
      exact fgo_go (xs := EL (es.take k) ++ ys) (hl e List.mem_cons_self) h1
    · have := A.on
      rw [show i + (k + 1) = i + 1 + k by omega]
      exact this
    · cases k with
      | zero =>
        have := (A.z rfl).1
        obtain rfl : e = a := by simpa using ha
        exact this
      | succ k => exact A.last a (by omega) (by simpa using ha)
theorem VR.at_ {n : Nat} {es : List E3} (h : VR n es) {k : Nat} (hk : k ≤ es.length) : ∃ dn la, At es.length es 0 [] none k dn la := run es.length es 0 [] none (fun e he => (h.ok e he).l) h.f k hk
/-- what may not stand at that place -/
def Wrong (es : List E3) (k : Nat) (e : E3) (x : T) : Prop := evB x = false ∨ (∃ i, x = .tup [.int i, .str e.l, .bl (!e.b)]) ∨ ∃ a i l b, 0 < k ∧ es[k - 1]? = some a ∧ i < a.i ∧ x = .tup [.int i, .str l, .bl b]
theorem wrong_at {n : Nat} {es : List E3} (h : VR n es) {k : Nat} {e : E3} (he : es[k]? = some e) {x : T} (hx : Wrong es k e x) {rest : List T} (hl : k + 1 + rest.length ≤ 200) : faultL (.lst false (EL (es.take k) ++ x :: rest)) = [.int (k : Int)] := by
  have hk := (List.getElem?_eq_some_iff.mp he).1
  obtain ⟨dn, la, A⟩ := h.at_ (Nat.le_of_lt hk)
  have hlen : (EL (es.take k) ++ x :: rest).length ≤ 200 := by simp; omega
  have st := A.on
  rw [drop_at he] at st
  obtain ⟨⟨_, hb⟩, _⟩ := fgo_step (e := e) (xs := EL (es.drop (k + 1))) st
  show (if 200 < (EL (es.take k) ++ x :: rest).length then [T.non] else fgo (EL (es.take k) ++ x :: rest).length 0 [] none (EL (es.take k) ++ x :: rest)) = _
  rw [if_neg (by omega), A.go, Nat.zero_add]
  rcases hx with hx | ⟨i, rfl⟩ | ⟨a, i, l, b, h0, ha, hi, rfl⟩
  · exact fgo_no hx
  · unfold fgo
    rw [if_neg]
    rintro ⟨_, _, z⟩
    revert hb z
    generalize dn.contains e.l = c
    cases e.b <;> cases c <;> simp
  · have hla := A.last a h0 ha
    subst hla
    unfold fgo
    rw [if_neg]
    rintro ⟨_, z, _⟩
    have z : decide (i < a.i) = false := z
    have := of_decide_eq_false z
    omega
theorem cut_init {n : Nat} {es : List E3} (h : VR n es) (hne : es ≠ []) : faultL (.lst false (EL (es.take (es.length - 1)))) = [.int ((es.length - 1 : Nat) : Int)] := by
  have hp : 0 < es.length := List.length_pos_iff.mpr hne
  have hlen := h.len
  obtain ⟨dn, la, A⟩ := h.at_ (k := es.length - 1) (by omega)
  obtain ⟨e, he⟩ : ∃ e, es[es.length - 1]? = some e := ⟨es[es.length - 1], by simp [hp]⟩
  have st := A.on
  rw [drop_at he] at st
  obtain ⟨⟨_, hb⟩, st2⟩ := fgo_step (e := e) (xs := EL (es.drop (es.length - 1 + 1))) st
  have ed : es.drop (es.length - 1 + 1) = [] := List.drop_of_length_le (by omega)
  rw [ed] at st2
  have st3 : (if (if e.b = true then dn ++ [e.l] else dn.filter fun z => decide (z ≠ e.l)) = [] then ([] : List T) else [.int es.length]) = [] := st2
  have hdn : dn ≠ [] := by
    rintro rfl
    cases hb1 : e.b with
    | true => rw [hb1] at st3; simp at st3
    | false => rw [hb1] at hb; simp at hb
  have go := A.go (es.length - 1) []
  rw [List.append_nil] at go
  have el : (EL (es.take (es.length - 1))).length = es.length - 1 := by simp
  show (if 200 < (EL (es.take (es.length - 1))).length then [T.non] else fgo (EL (es.take (es.length - 1))).length 0 [] none (EL (es.take (es.length - 1)))) = _
  rw [if_neg (by omega), el, go]
  show (if dn = [] then ([] : List T) else [.int ((es.length - 1 : Nat) : Int)]) = _
  rw [if_neg hdn]
theorem one_more {n : Nat} {es : List E3} (h : VR n es) (hl : es.length < 200) {a : E3} (ha : es.getLast? = some a) : faultL (.lst false (EL es ++ [.tup [.int a.i, .str "s", .bl true]])) = [.int ((es.length + 1 : Nat) : Int)] := by
  obtain ⟨dn, la, A⟩ := h.at_ (Nat.le_refl es.length)
  have st := A.on
  rw [List.drop_length] at st
  have st : (if dn = [] then ([] : List T) else [.int es.length]) = [] := st
  have hdn : dn = [] := by
    by_cases z : dn = []
    · exact z
    · rw [if_neg z] at st; cases st
  subst hdn
  have hne : es ≠ [] := by rintro rfl; cases ha
  have hp : 0 < es.length := List.length_pos_iff.mpr hne
  have hla := A.last a hp (by rw [← List.getLast?_eq_getElem?]; exact ha)
  subst hla
  have go := A.go (es.length + 1) [.tup [.int a.i, .str "s", .bl true]]
  rw [List.take_length, Nat.zero_add] at go
  have el : (EL es ++ [T.tup [.int a.i, .str "s", .bl true]]).length = es.length + 1 := by simp
  show (if 200 < (EL es ++ [T.tup [.int a.i, .str "s", .bl true]]).length then [T.non] else fgo (EL es ++ [T.tup [.int a.i, .str "s", .bl true]]).length 0 [] none (EL es ++ [T.tup [.int a.i, .str "s", .bl true]])) = _
  rw [if_neg (by omega), el, go]
  refine (fgo_go (n := es.length + 1) (i := es.length) (dn := []) (la := some a.i) (e := ⟨a.i, "s", true⟩) (xs := []) (.inl rfl) ⟨show decide (a.i < a.i) = false from decide_eq_false (by omega), by simp⟩).trans ?_
  rfl
end TL

set_option maxRecDepth 100000
set_option maxHeartbeats 1000000
namespace TL
open PySem PySem.Spec PyProof.Rows L2
theorem fault_show {v i : T} (h : faultL v = [i]) : ShowI i := by
  rcases fault_cases (u := v) with e | e | ⟨j, hj, e⟩ <;> rw [h] at e <;> cases e
  · exact showI_non
  · exact showI_int (by omega)
/-! ### values that can be shown -/
def It (d w : Nat) (x : T) : Prop := dat x = true ∧ okT x = true ∧ dpT x ≤ d ∧ wtT x ≤ w
def Its' (k d w : Nat) (xs : List T) : Prop := xs.length ≤ k ∧ ∀ x ∈ xs, It d w x
theorem It.mono {d w d' w' : Nat} {x : T} (h : It d w x) (hd : d ≤ d') (hw : w ≤ w') : It d' w' x := ⟨h.1, h.2.1, Nat.le_trans h.2.2.1 hd, Nat.le_trans h.2.2.2 hw⟩
theorem It.frz {d w : Nat} {x : T} (h : It d w x) : It d w (TL.frz x) := by rw [dat_frz h.1]; exact h
theorem It.ok {d w : Nat} {x : T} (h : It d w x) (hd : d ≤ 60) (hw : w ≤ 10000000) : okT x = true ∧ dpT x ≤ 60 ∧ wtT x ≤ sizeLine := by
  obtain ⟨_, h1, h2, h3⟩ := h
  exact ⟨h1, by omega, by rw [sizeLine_eq]; omega⟩
theorem its_all {d w : Nat} : ∀ {xs : List T}, (∀ x ∈ xs, It d w x) → datL xs = true ∧ okL xs = true ∧ dpL xs ≤ d ∧ wtL xs ≤ xs.length * (w + 2)
  | [], _ => ⟨rfl, rfl, Nat.zero_le _, Nat.zero_le _⟩
  | x :: r, h => by
    obtain ⟨a1, a2, a3, a4⟩ := h x (List.mem_cons_self ..)
    obtain ⟨b1, b2, b3, b4⟩ := its_all (xs := r) fun z hz => h z (List.mem_cons_of_mem _ hz)
    refine ⟨by simp only [datL, a1, b1]; rfl, by simp only [okL, a2, b2]; rfl, by simp only [dpL]; omega, ?_⟩
    simp only [wtL, List.length_cons, Nat.add_mul, Nat.one_mul]; omega
theorem it_tup {k d w : Nat} {xs : List T} (h : Its' k d w xs) : It (d + 1) (k * (w + 2) + 4) (.tup xs) := by
  obtain ⟨b1, b2, b3, b4⟩ := its_all h.2
  have := Nat.mul_le_mul_right (w + 2) h.1
  exact ⟨by simp only [dat]; exact b1, by simp only [okT]; exact b2, by simp only [dpT]; omega, by simp only [wtT]; omega⟩
theorem it_lst {k d w : Nat} {xs : List T} (h : Its' k d w xs) : It (d + 1) (k * (w + 2) + 4) (.lst false xs) := by
  obtain ⟨b1, b2, b3, b4⟩ := its_all h.2
  have := Nat.mul_le_mul_right (w + 2) h.1
  exact ⟨by simp only [dat, b1]; rfl, by simp only [okT]; exact b2, by simp only [dpT]; omega, by simp only [wtT]; omega⟩
theorem it_int {i : Int} (h : -(10 ^ 31) ≤ i ∧ i ≤ 10 ^ 31) : It 0 110 (.int i) := by
  have h1 : i.natAbs < 2 ^ 105 := by omega
  have h2 := PySem.Flt.log2_lt_of (show 0 < 105 by decide) h1
  exact ⟨rfl, by simp only [okT, decide_eq_true_eq]; omega, Nat.le_refl _, by simp only [wtT]; omega⟩
theorem it_bl (b : Bool) : It 0 110 (.bl b) := ⟨rfl, rfl, Nat.le_refl _, show 5 ≤ 110 by decide⟩
theorem it_non : It 0 110 .non := ⟨rfl, rfl, Nat.le_refl _, by decide⟩
theorem it_str {x : Str} (h : asc x = true) (hl : x.length ≤ 10) : It 0 110 (.str x) := ⟨rfl, h, Nat.le_refl _, by simp only [wtT]; omega⟩
section
variable {k j d w : Nat} {xs ys : List T}
theorem Its'.dt (h : Its' k d w xs) : datL xs = true := (datL_iff xs).mpr fun x hx => (h.2 x hx).1
theorem Its'.cl (h : Its' k d w xs) : closedL xs = true := datL_closed xs h.dt
theorem Its'.frz (h : Its' k d w xs) : frzL xs = xs := datL_frz h.dt
theorem Its'.app (h : Its' k d w xs) (h2 : Its' j d w ys) : Its' (k + j) d w (xs ++ ys) := ⟨by rw [List.length_append]; have := h.1; have := h2.1; omega, fun y hy => (List.mem_append.mp hy).elim (h.2 y) (h2.2 y)⟩
theorem Its'.mono {d' w' k' : Nat} (h : Its' k d w xs) (hd : d ≤ d') (hw : w ≤ w') (hk : k ≤ k') : Its' k' d' w' xs := ⟨Nat.le_trans h.1 hk, fun x hx => (h.2 x hx).mono hd hw⟩
theorem Its'.nil : Its' 0 d w [] := ⟨Nat.le_refl _, fun _ z => nomatch z⟩
theorem Its'.cons {x : T} (h : It d w x) (h2 : Its' k d w xs) : Its' (k + 1) d w (x :: xs) := ⟨Nat.succ_le_succ h2.1, fun y hy => (List.mem_cons.mp hy).elim (fun e => e ▸ h) (h2.2 y)⟩
end
theorem lit {x : Str} (h : (asc x && decide (x.length ≤ 10)) = true) : It 0 110 (.str x) := by
  simp only [Bool.and_eq_true, decide_eq_true_eq] at h
  exact it_str h.1 h.2
theorem it_lev {l : Str} (h : l = "s" ∨ l = "l") : It 0 110 (.str l) := by rcases h with rfl | rfl <;> exact lit (by decide +kernel)
theorem up {d w : Nat} {x : T} (h : It 0 110 x) : It (0 + d) (110 + w) x := h.mono (by omega) (by omega)
theorem e3_it {e : E3} (h : e.Ok 100) : It 1 400 e.t := by
  have := h.i
  exact (it_tup (k := 3) (d := 0) (w := 110) (.cons (it_int (by omega)) (.cons (it_lev h.l) (.cons (it_bl _) .nil)))).mono (by decide) (by decide)
theorem el_its {es : List E3} (h : ∀ e ∈ es, e.Ok 100) : Its' es.length 1 400 (EL es) := ⟨by simp, fun x hx => by
  obtain ⟨e, he, rfl⟩ := List.mem_map.mp hx
  exact e3_it (h e he)⟩
theorem rec_it {es : List E3} (h : VR 100 es) (hl : es.length ≤ 192) : It 2 80000 (.lst false (EL es)) := (it_lst (el_its h.ok)).mono (by decide) (by have := Nat.mul_le_mul_right 402 hl; omega)
/-! ### the bad ones -/
/-- no record, and what is told of it -/
def BadV (v i : T) : Prop := (It 3 200000 v ∨ v = .dct false []) ∧ faultL v = [i]
theorem BadV.dat {v i : T} (h : BadV v i) : TL.dat v = true := by
  rcases h.1 with h | rfl
  · exact h.1
  · rfl
/-- the list so far -/
def Bs (n : Nat) (bs : List (T × T)) : Prop := bs.length ≤ n ∧ ∀ p ∈ bs, BadV p.1 p.2
abbrev bsT (bs : List (T × T)) : List T := bs.map fun p => .tup [p.1, .str (recT p.2)]
def S__law_bad_records : FS := fun ts Q => ∃ (t : T) (o : Bool) (es : List E3) (n : Nat), ts = [t, .lst o (EL es)] ∧ Fo n t ∧ n < 2 ^ 90 ∧ VR 100 es ∧ (2 ≤ es.length ∧ es.length ≤ 192) ∧ ∀ t' bs, Bs 29 bs → Fo (n + 50) t' → Q (.ret (.lst true (bsT bs))) [t', .lst false (EL es)]
theorem l__law_bad_records : ∀ ts Q, S__law_bad_records ts Q → ts.length = 2 := fun ts Q ⟨_, _, _, _, e, _⟩ => by rw [e]; rfl
abbrev N__law_bad_records : List Str := ["fount", "record", "found", "value", "at", "tick", "lever", "is_pressed", "odds", "odd", "rest"]
def w__law_bad_records_1 : WS :=
  (wAsg (wLc (wiList (wLst (wCons (wC .non) (wCons (wC (.int 0)) (wCons (wC (.str "")) (wCons (wTup wNil) (wCons wDNew (wCons (wCl gTupleOf (wCons (wV 1) wNil)) (wCons (wOp gMulA (wLst (wCons (wTup (wCons (wC (.int 0)) (wCons (wC (.str "s")) (wCons (wC (.bl true)) wNil)))) wNil)) (wC (.int 201))) wNil))))))))) (wgN 3) wYes (wTup (wCons (wV 3) (wCons (wC (.str "record None")) wNil))) [3]) (wgN 2))
def w__law_bad_records_2 : WS :=
  (wAsg (wCall S__law_dip (wCons (wV 0) (wCons (wCl gLen (wCons (wV 1) wNil)) wNil))) (wgN 4))
def w__law_bad_records_3 : WS :=
  (wAsg (wOp gIx (wV 1) (wV 4)) (wgTup 3 (wgCons (wgN 5) (wgCons (wgN 6) (wgCons (wgN 7) wgNil)))))
def w__law_bad_records_4 : WS :=
  (wAsg (wLst (wCons (wC .non) (wCons (wC (.int 0)) (wCons (wTup wNil) (wCons (wC (.str "0s+")) (wCons (wLst (wCons (wV 5) (wCons (wV 6) (wCons (wV 7) wNil)))) (wCons (wTup (wCons (wV 5) (wCons (wV 6) wNil))) (wCons (wTup (wCons (wV 5) (wCons (wV 6) (wCons (wV 7) (wCons (wC (.int 0)) wNil))))) wNil)))))))) (wgN 8))
def w__law_bad_records_5 : WS :=
  (wAsg (wOp gAdd (wV 8) (wLst (wCons (wTup (wCons (wC .non) (wCons (wV 6) (wCons (wV 7) wNil)))) (wCons (wTup (wCons (wC (.bl true)) (wCons (wV 6) (wCons (wV 7) wNil)))) (wCons (wTup (wCons (wC (.str "0")) (wCons (wV 6) (wCons (wV 7) wNil)))) wNil))))) (wgN 8))
def w__law_bad_records_6 : WS :=
  (wAsg (wOp gAdd (wV 8) (wLst (wCons (wTup (wCons (wV 5) (wCons (wC (.str "x")) (wCons (wV 7) wNil)))) (wCons (wTup (wCons (wOp TL.gSub (wOp gIx (wOp gIx (wV 1) (wC (.int 0))) (wC (.int 0))) (wC (.int 1))) (wCons (wV 6) (wCons (wNotV (wV 7)) wNil)))) wNil)))) (wgN 8))
def w__law_bad_records_7 : WS :=
  (wAsg (wOp gAdd (wV 8) (wLst (wCons (wTup (wCons (wV 5) (wCons (wC .non) (wCons (wV 7) wNil)))) (wCons (wTup (wCons (wV 5) (wCons (wOp gAdd (wV 6) (wC (.str "s"))) (wCons (wV 7) wNil)))) (wCons (wTup (wCons (wV 5) (wCons (wV 6) (wCons (wCl gInt (wCons (wV 7) wNil)) wNil)))) wNil))))) (wgN 8))
def w__law_bad_records_8 : WS :=
  (wAsg (wOp gAdd (wV 8) (wLst (wCons (wTup (wCons (wV 5) (wCons (wV 6) (wCons (wC .non) wNil)))) (wCons (wTup (wCons (wV 5) (wCons (wV 6) (wCons (wC (.str "+")) wNil)))) wNil)))) (wgN 8))
def w__law_bad_records_9 : WS :=
  (wAsg (wOp gAdd (wV 8) (wLst (wCons (wTup (wCons (wV 5) (wCons (wV 6) (wCons (wNotV (wV 7)) wNil)))) (wCons (wTup (wCons (wV 5) (wCons (wLst (wCons (wC (.str "s")) wNil)) (wCons (wV 7) wNil)))) wNil)))) (wgN 8))
def w__law_bad_records_10_1 : WS :=
  (wAsg (wIf (wTest (wOp (gEq false) (wCall S__law_dip (wCons (wV 0) (wCons (wC (.int 2)) wNil))) (wC (.int 0)))) (wSl (wV 1) (woS (wOp gAdd (wV 4) (wC (.int 1)))) woN) (wLst (wCons (wC .non) wNil))) (wgN 10))
def w__law_bad_records_10_2 : WS :=
  (wDrop (wApp 2 (wTup (wCons (wOp gAdd (wOp gAdd (wSl (wV 1) woN (woS (wV 4))) (wLst (wCons (wV 9) wNil))) (wV 10)) (wCons (wOp gAdd (wC (.str "record ")) (wCl gReprM (wCons (wV 4) wNil))) wNil)))))
def w__law_bad_records_10 : WS :=
  (wFor (wiList (wV 8)) (wgN 9) (wSeq w__law_bad_records_10_1 w__law_bad_records_10_2))
def w__law_bad_records_11_1 : WS :=
  (wDrop (wApp 2 (wTup (wCons (wOp gAdd (wOp gAdd (wSl (wV 1) woN (woS (wV 4))) (wLst (wCons (wTup (wCons (wOp TL.gSub (wOp gIx (wOp gIx (wV 1) (wOp TL.gSub (wV 4) (wC (.int 1)))) (wC (.int 0))) (wC (.int 1))) (wCons (wV 6) (wCons (wV 7) wNil)))) wNil))) (wLst (wCons (wC (.int 7)) wNil))) (wCons (wOp gAdd (wC (.str "record ")) (wCl gReprM (wCons (wV 4) wNil))) wNil)))))
def w__law_bad_records_11 : WS :=
  (wIfS (wTest (wOp gGt (wV 4) (wC (.int 0)))) w__law_bad_records_11_1 wNext)
def w__law_bad_records_12 : WS :=
  (wDrop (wApp 2 (wTup (wCons (wSl (wV 1) woN (woS (wUn gNeg (wC (.int 1))))) (wCons (wOp gAdd (wC (.str "record ")) (wCl gReprM (wCons (wOp TL.gSub (wCl gLen (wCons (wV 1) wNil)) (wC (.int 1))) wNil))) wNil)))))
def w__law_bad_records_13 : WS :=
  (wRet 1 (wOp gAdd (wV 2) (wLst (wCons (wTup (wCons (wOp gAdd (wV 1) (wLst (wCons (wTup (wCons (wOp gIx (wOp gIx (wV 1) (wUn gNeg (wC (.int 1)))) (wC (.int 0))) (wCons (wC (.str "s")) (wCons (wC (.bl true)) wNil)))) wNil))) (wCons (wOp gAdd (wC (.str "record ")) (wCl gReprM (wCons (wOp gAdd (wCl gLen (wCons (wV 1) wNil)) (wC (.int 1))) wNil))) wNil))) wNil))))
def w__law_bad_records : WS :=
  (wSeq w__law_bad_records_1 (wSeq w__law_bad_records_2 (wSeq w__law_bad_records_3 (wSeq w__law_bad_records_4 (wSeq w__law_bad_records_5 (wSeq w__law_bad_records_6 (wSeq w__law_bad_records_7 (wSeq w__law_bad_records_8 (wSeq w__law_bad_records_9 (wSeq w__law_bad_records_10 (wSeq w__law_bad_records_11 (wSeq w__law_bad_records_12 w__law_bad_records_13))))))))))))
abbrev A11 (t : T) (es : List E3) (x2 x3 x4 x5 x6 x7 x8 x9 x10 : Option T) : Dt := [some t, some (.lst false (EL es)), x2, x3, x4, x5, x6, x7, x8, x9, x10]
abbrev big201 : T := .lst false (List.replicate 201 (T.tup [.int 0, .str "s", .bl true]))
theorem big_it : It 3 200000 big201 := ⟨by decide +kernel, by decide +kernel, by decide +kernel, by decide +kernel⟩
theorem faultL_long {o : Bool} {xs : List T} (h : 200 < xs.length) : faultL (.lst o xs) = [.non] := if_pos h
theorem rec_none : recT .non = ("record None" : Str) := by
  show ("record " : Str) ++ shI .non = _
  rw [shI_eq]; decide +kernel
abbrev sevL (es : List E3) : List T := [.non, .int 0, .str "", .tup [], .dct false [], .tup (EL es), big201]
theorem sev_bad {es : List E3} (h : VR 100 es) (hl : es.length ≤ 192) : ∀ v ∈ sevL es, BadV v .non := by
  intro v hv
  simp only [sevL, List.mem_cons, List.not_mem_nil, or_false] at hv
  rcases hv with rfl | rfl | rfl | rfl | rfl | rfl | rfl
  · exact ⟨.inl (it_non.mono (by decide) (by decide)), rfl⟩
  · exact ⟨.inl ((it_int (by decide)).mono (by decide) (by decide)), rfl⟩
  · exact ⟨.inl ((lit (by decide +kernel)).mono (by decide) (by decide)), rfl⟩
  · exact ⟨.inl ((it_tup (d := 0) (w := 0) .nil).mono (by decide) (by decide)), rfl⟩
  · exact ⟨.inr rfl, rfl⟩
  · exact ⟨.inl ((it_tup ((el_its h.ok).mono (Nat.le_refl _) (Nat.le_refl _) hl)).mono (by decide) (by decide)), rfl⟩
  · exact ⟨.inl big_it, faultL_long (by decide +kernel)⟩
section
variable {D : EndsD} {es : List E3} {t : T} {x2 x3 x4 x5 x6 x7 x8 x9 x10 : Option T}
theorem b1 (h : VR 100 es) (hl : es.length ≤ 192) (k : D.nx (A11 t es (some (.lst true (bsT ((sevL es).map fun v => (v, .non))))) none x4 x5 x6 x7 x8 x9 x10)) : w__law_bad_records_1 D (A11 t es x2 x3 x4 x5 x6 x7 x8 x9 x10) := by
  refine ⟨Nat.zero_le _, el_cl es, z3, z1, rfl, by decide, by decide, by decide +kernel, show 7 ≤ sizeLine by decide, ?_⟩
  have e : frzL [frz T.non, frz (.int 0), frz (.str ""), frz (.tup []), frz (.dct true []), frz (.tup (EL es)), frz (.lst true (List.replicate (Int.toNat 201) [frz (.tup [frz (.int 0), frz (.str "s"), frz (.bl true)])]).flatten)] = sevL es := by
    simp only [frz, frzL, frzK, el_frz]
    rfl
  have sv := sev_bad h hl
  refine ⟨fun i acc Δ => acc = (bsT ((sevL es).map fun v => (v, .non))).take i ∧ i ≤ 7 ∧ Δ = A11 t es x2 none x4 x5 x6 x7 x8 x9 x10, ⟨rfl, Nat.zero_le _, rfl⟩, ?_, ?_⟩
  · rintro i y acc Δ hy ⟨rfl, hi, rfl⟩
    have hy' : (sevL es)[i]? = some y := by rw [← e]; exact hy
    have hi7 : i < 7 := (List.getElem?_eq_some_iff.mp hy').1
    have hc := (sv y (List.mem_of_getElem? hy')).dat
    have hm : (bsT ((sevL es).map fun v => (v, .non)))[i]? = some (.tup [y, .str (recT .non)]) := by
      simp only [bsT, List.getElem?_map, hy']; rfl
    refine ⟨z2, zz200 (by rw [List.length_take]; omega), ?_, by omega, rfl⟩
    rw [take_at hm]
    show _ ++ [frz (.tup [frz (frz y), .str "record None"])] = _
    simp only [frz, frzL, dat_frz hc, rec_none]
  · rintro acc Δ ⟨rfl, _, rfl⟩
    have e2 : (bsT ((sevL es).map fun v => (v, T.non))).take (frzL [frz T.non, frz (.int 0), frz (.str ""), frz (.tup []), frz (.dct true []), frz (.tup (EL es)), frz (.lst true (List.replicate (Int.toNat 201) [frz (.tup [frz (.int 0), frz (.str "s"), frz (.bl true)])]).flatten)]).length = bsT ((sevL es).map fun v => (v, .non)) := by
      rw [e]; rfl
    have k' := k
    rw [← e2] at k'
    exact k'
theorem b2 {n : Nat} (hF : Fo n t) (hn : n < 2 ^ 95) (h2 : 2 ≤ es.length) (hl : es.length ≤ 192) (kk : ∀ t' (k : Nat), Fo (n + 1) t' → k < es.length → D.nx (A11 t' es x2 x3 (some (.int (k : Int))) x5 x6 x7 x8 x9 x10)) : w__law_bad_records_2 D (A11 t es x2 x3 x4 x5 x6 x7 x8 x9 x10) := by
  have hL : ((EL es).length : Int) = es.length := by rw [List.length_map]
  refine ⟨rfl, at_dip hF (by omega) (by omega) (by omega) fun r t' r0 r1 hF' => ?_⟩
  have := kk t' r.toNat hF' (by omega)
  rw [show ((r.toNat : Nat) : Int) = r by omega] at this
  exact this
theorem b3 {k : Nat} {e : E3} (he : es[k]? = some e) (kk : D.nx (A11 t es x2 x3 (some (.int (k : Int))) (some (.int e.i)) (some (.str e.l)) (some (.bl e.b)) x8 x9 x10)) : w__law_bad_records_3 D (A11 t es x2 x3 (some (.int (k : Int))) x5 x6 x7 x8 x9 x10) := by
  have hk := (List.getElem?_eq_some_iff.mp he).1
  dsimp only [w__law_bad_records_3, wAsg, onV, onVs, look, List.getElem?_cons_zero, List.getElem?_cons_succ, List.set_cons_zero, List.set_cons_succ, wOp, wV, wC, wUn, wCl, wCons, wNil, wTest, backs]
  refine ix_el (i := (k : Int)) (by omega) (by omega) fun e' he' => ?_
  rw [Int.toNat_natCast, he] at he'
  cases he'
  exact ⟨rfl, kk⟩
abbrev oddA (e : E3) : List T := [.non, .int 0, .tup [], .str "0s+", .lst false [.int e.i, .str e.l, .bl e.b], .tup [.int e.i, .str e.l], .tup [.int e.i, .str e.l, .bl e.b, .int 0]]
abbrev oddB (e : E3) : List T := [.tup [.non, .str e.l, .bl e.b], .tup [.bl true, .str e.l, .bl e.b], .tup [.str "0", .str e.l, .bl e.b]]
abbrev oddC (f e : E3) : List T := [.tup [.int e.i, .str "x", .bl e.b], .tup [.int (f.i - 1), .str e.l, .bl !e.b]]
abbrev oddD (e : E3) : List T := [.tup [.int e.i, .non, .bl e.b], .tup [.int e.i, .str (e.l ++ "s"), .bl e.b], .tup [.int e.i, .str e.l, .int (if e.b then 1 else 0)]]
abbrev oddE (e : E3) : List T := [.tup [.int e.i, .str e.l, .non], .tup [.int e.i, .str e.l, .str "+"]]
abbrev oddF (e : E3) : List T := [.tup [.int e.i, .str e.l, .bl !e.b], .tup [.int e.i, .lst false [.str "s"], .bl e.b]]
abbrev odds (f e : E3) : List T := oddA e ++ oddB e ++ oddC f e ++ oddD e ++ oddE e ++ oddF e
abbrev AE (t : T) (es : List E3) (x2 x3 : Option T) (k : Nat) (e : E3) (x8 x9 x10 : Option T) : Dt := A11 t es x2 x3 (some (.int (k : Int))) (some (.int e.i)) (some (.str e.l)) (some (.bl e.b)) x8 x9 x10
theorem b4 {k : Nat} {e : E3} (kk : D.nx (AE t es x2 x3 k e (some (.lst true (oddA e))) x9 x10)) : w__law_bad_records_4 D (AE t es x2 x3 k e x8 x9 x10) :=
  ⟨Nat.zero_le _, z3, z2, z4, show 7 ≤ sizeLine by decide, kk⟩
theorem b5 {k : Nat} {e : E3} (kk : D.nx (AE t es x2 x3 k e (some (.lst true (oddA e ++ oddB e))) x9 x10)) : w__law_bad_records_5 D (AE t es x2 x3 k e (some (.lst true (oddA e))) x9 x10) :=
  ⟨z3, z3, z3, z3, ⟨rfl, rfl⟩, show 10 ≤ sizeLine by decide, kk⟩
theorem b6 {k : Nat} {e f : E3} (hf : es[0]? = some f) (kk : D.nx (AE t es x2 x3 k e (some (.lst true (oddA e ++ oddB e ++ oddC f e))) x9 x10)) : w__law_bad_records_6 D (AE t es x2 x3 k e (some (.lst true (oddA e ++ oddB e))) x9 x10) := by
  have hp := (List.getElem?_eq_some_iff.mp hf).1
  dsimp only [w__law_bad_records_6, wAsg, wCons, wTup, wTakes, wLst, wTake, wNotV, wNil, onV, onVs, look, List.getElem?_cons_zero, List.getElem?_cons_succ, List.set_cons_zero, List.set_cons_succ, wOp, wV, wC, wUn, wCl, wCons, wNil, wTest, backs]
  refine ⟨z3, ?_⟩
  refine ix_el (es := es) (i := 0) (by decide) (show (0 : Int) < (es.length : Int) by omega) fun e' he' => ?_
  obtain rfl : f = e' := by
    have he' : es[0]? = some e' := he'
    rw [hf] at he'; exact Option.some.inj he'
  exact ⟨rfl, z3, z2, ⟨rfl, rfl⟩, show 12 ≤ sizeLine by decide, kk⟩
theorem b7 {k : Nat} {e f : E3} (hl : e.l = "s" ∨ e.l = "l") (kk : D.nx (AE t es x2 x3 k e (some (.lst true (oddA e ++ oddB e ++ oddC f e ++ oddD e))) x9 x10)) : w__law_bad_records_7 D (AE t es x2 x3 k e (some (.lst true (oddA e ++ oddB e ++ oddC f e))) x9 x10) := by
  have h1 : e.l.length + ("s" : Str).length ≤ sizeLine := by
    rcases hl with h | h <;> rw [h] <;> decide
  exact ⟨z3, h1, z3, z3, z3, ⟨rfl, rfl⟩, show 15 ≤ sizeLine by decide, kk⟩
theorem b8 {k : Nat} {e f : E3} (kk : D.nx (AE t es x2 x3 k e (some (.lst true (oddA e ++ oddB e ++ oddC f e ++ oddD e ++ oddE e))) x9 x10)) : w__law_bad_records_8 D (AE t es x2 x3 k e (some (.lst true (oddA e ++ oddB e ++ oddC f e ++ oddD e))) x9 x10) :=
  ⟨z3, z3, z2, ⟨rfl, rfl⟩, show 17 ≤ sizeLine by decide, kk⟩
theorem b9 {k : Nat} {e f : E3} (kk : D.nx (AE t es x2 x3 k e (some (.lst true (odds f e))) x9 x10)) : w__law_bad_records_9 D (AE t es x2 x3 k e (some (.lst true (oddA e ++ oddB e ++ oddC f e ++ oddD e ++ oddE e))) x9 x10) :=
  ⟨z3, z1, z3, z2, ⟨rfl, rfl⟩, show 19 ≤ sizeLine by decide, kk⟩
end
/-! ### every odd item is wrong -/
theorem ev_mid {a c : T} {s : Str} (h : inT (.str s) levT = false) : evB (.tup [a, .str s, c]) = false := by
  simp only [evB, h, Bool.and_false, Bool.false_and]
theorem odds_wrong {n : Nat} {es : List E3} (hv : VR n es) {k : Nat} {e f : E3} (he : es[k]? = some e) : ∀ x ∈ odds f e, Wrong es k e x := by
  intro x hx
  have hl := (hv.ok e (List.mem_of_getElem? he)).l
  have key : evB x = false ∨ ∃ i, x = .tup [.int i, .str e.l, .bl (!e.b)] := by
    simp only [odds, oddA, oddB, oddC, oddD, oddE, oddF, List.cons_append, List.nil_append, List.mem_cons, List.not_mem_nil, or_false] at hx
    rcases hx with rfl | rfl | rfl | rfl | rfl | rfl | rfl | rfl | rfl | rfl | rfl | rfl | rfl | rfl | rfl | rfl | rfl | rfl | rfl
    · exact .inl rfl
    · exact .inl rfl
    · exact .inl rfl
    · exact .inl rfl
    · exact .inl rfl
    · exact .inl rfl
    · exact .inl rfl
    · exact .inl rfl
    · exact .inl rfl
    · exact .inl rfl
    · exact .inl (ev_mid (by decide +kernel))
    · exact .inr ⟨_, rfl⟩
    · exact .inl rfl
    · refine .inl ?_
      exact ev_mid (by rcases hl with h | h <;> rw [h] <;> decide +kernel)
    · exact .inl (by simp only [evB, blB, Bool.and_false])
    · exact .inl (by simp only [evB, blB, Bool.and_false])
    · exact .inl (by simp only [evB, blB, Bool.and_false])
    · exact .inr ⟨_, rfl⟩
    · exact .inl rfl
  rcases key with h | h
  · exact .inl h
  · exact .inr (.inl h)
theorem odds_it {es : List E3} (hv : VR 100 es) {k : Nat} {e f : E3} (he : es[k]? = some e) (hf : es[0]? = some f) : Its' 19 2 700 (odds f e) := by
  have ho := hv.ok e (List.mem_of_getElem? he)
  have h1 := ho.i
  have h2 := (hv.ok f (List.mem_of_getElem? hf)).i
  have ei : It 0 110 (.int e.i) := it_int (by omega)
  have fi : It 0 110 (.int (f.i - 1)) := it_int (by omega)
  have li := it_lev ho.l
  have ls : It 0 110 (.str (e.l ++ "s")) := by rcases ho.l with h | h <;> rw [h] <;> exact lit (by decide +kernel)
  have bi : It 0 110 (.int (if e.b then 1 else 0)) := it_int (by split <;> decide)
  have z0 : It 0 110 (.int 0) := it_int (by decide)
  have nn := it_non
  have b1 := it_bl e.b
  have b2 := it_bl (!e.b)
  have up : ∀ {x : T}, It 0 110 x → It 2 700 x := fun h => h.mono (by decide) (by decide)
  have t2 : ∀ {x y : T}, It 0 110 x → It 0 110 y → It 2 700 (.tup [x, y]) := fun a b => (it_tup (k := 2) (.cons a (.cons b .nil))).mono (by decide) (by decide)
  have t3 : ∀ {x y z : T}, It 0 110 x → It 0 110 y → It 0 110 z → It 2 700 (.tup [x, y, z]) := fun a b c => (it_tup (k := 3) (.cons a (.cons b (.cons c .nil)))).mono (by decide) (by decide)
  have t4 : ∀ {x y z u : T}, It 0 110 x → It 0 110 y → It 0 110 z → It 0 110 u → It 2 700 (.tup [x, y, z, u]) := fun a b c d => (it_tup (k := 4) (.cons a (.cons b (.cons c (.cons d .nil))))).mono (by decide) (by decide)
  have l3 : ∀ {x y z : T}, It 0 110 x → It 0 110 y → It 0 110 z → It 2 700 (.lst false [x, y, z]) := fun a b c => (it_lst (k := 3) (.cons a (.cons b (.cons c .nil)))).mono (by decide) (by decide)
  have w3 : ∀ {x y z : T}, It 0 110 x → It 0 110 y → It 0 110 z → It 2 700 (.tup [x, .lst false [y], z]) := fun a b c => (it_tup (k := 3) (d := 1) (w := 200) (.cons (a.mono (by decide) (by decide)) (.cons ((it_lst (k := 1) (.cons b .nil)).mono (by decide) (by decide)) (.cons (c.mono (by decide) (by decide)) .nil)))).mono (by decide) (by decide)
  exact .cons (up nn) (.cons (up z0) (.cons ((it_tup (d := 0) (w := 0) .nil).mono (by decide) (by decide)) (.cons (up (lit (by decide +kernel))) (.cons (l3 ei li b1) (.cons (t2 ei li) (.cons (t4 ei li b1 z0)
    (.cons (t3 nn li b1) (.cons (t3 (it_bl true) li b1) (.cons (t3 (lit (by decide +kernel)) li b1)
    (.cons (t3 ei (lit (by decide +kernel)) b1) (.cons (t3 fi li b2)
    (.cons (t3 ei nn b1) (.cons (t3 ei ls b1) (.cons (t3 ei li bi)
    (.cons (t3 ei li nn) (.cons (t3 ei li (lit (by decide +kernel)))
    (.cons (t3 ei li b2) (.cons (w3 ei (lit (by decide +kernel)) b1) .nil))))))))))))))))))
/-! ### the records made of them -/
theorem closedL_app {xs ys : List T} (h : closedL xs = true) (k : closedL ys = true) : closedL (xs ++ ys) = true := (closedL_iff _).mpr fun x hx => (List.mem_append.mp hx).elim ((closedL_iff _).mp h x) ((closedL_iff _).mp k x)
theorem gReprM_int {i : Int} {Q : T → Prop} (h : i.natAbs < 2 ^ 100) (q : Q (.str (shI (.int i)))) : gReprM [.int i] Q := .inl ⟨(showI_int h).1, q⟩
theorem gAdd_rec {i : T} {Q : T → Prop} (h : ShowI i) (q : Q (.str (recT i))) : gAdd (.str "record ") (.str (shI i)) Q := by
  refine ⟨?_, q⟩
  have := h.2.2
  show 7 + (shI i).length ≤ sizeLine
  rw [sizeLine_eq]; omega
theorem BadV.i {v i : T} (h : BadV v i) : ShowI i := by
  obtain ⟨_, h⟩ := h
  exact fault_show h
theorem bs_cl {n : Nat} {bs : List (T × T)} (h : Bs n bs) : closedL (bsT bs) = true := (closedL_iff _).mpr fun x hx => by
  obtain ⟨p, hp, rfl⟩ := List.mem_map.mp hx
  have := dat_closed _ (h.2 p hp).dat
  simp only [closed, closedL, this]; rfl
theorem bs_add {n : Nat} {bs : List (T × T)} {v i : T} (h : Bs n bs) (h2 : BadV v i) : Bs (n + 1) (bs ++ [(v, i)]) := ⟨by rw [List.length_append]; have := h.1; simp; omega, fun p hp => (List.mem_append.mp hp).elim (h.2 p) fun z => by rw [List.mem_singleton.mp z]; exact h2⟩
theorem bs_eq (bs : List (T × T)) (v i : T) : bsT (bs ++ [(v, i)]) = bsT bs ++ [.tup [v, .str (recT i)]] := List.map_append
theorem bad_of {es : List E3} (hv : VR 100 es) (hl : es.length ≤ 192) {k : Nat} {e : E3} (he : es[k]? = some e) {x : T} (hx : Wrong es k e x) (hi : It 2 700 x) {rest : List T} (hr : Its' (192 - k) 2 700 rest) : BadV (.lst false (EL (es.take k) ++ x :: rest)) (.int (k : Int)) := by
  have hk := (List.getElem?_eq_some_iff.mp he).1
  have h1 : Its' k 2 700 (EL (es.take k)) := (el_its fun z hz => hv.ok z (List.mem_of_mem_take hz)).mono (by decide) (by decide) (by rw [List.length_take]; omega)
  refine ⟨.inl ((it_lst ((h1.app (.cons hi hr)).mono (Nat.le_refl _) (Nat.le_refl _) (show k + (192 - k + 1) ≤ 193 by omega))).mono (by decide) (by decide)), wrong_at hv he hx ?_⟩
  have := hr.1
  omega
section
variable {D : EndsD} {es : List E3} {t : T} {x2 x3 x4 x5 x6 x7 x8 x9 x10 : Option T}
theorem put_eq {bs : List (T × T)} {v u i : T} (hb : BadV v i) (hu : frz u = v) : bsT bs ++ [frz (.tup [frz u, frz (.str (recT i))])] = bsT (bs ++ [(v, i)]) := by
  rw [bs_eq, hu]
  simp only [frz, frzL, dat_frz hb.dat]
theorem bs_len {m : Nat} {bs : List (T × T)} (hs : Bs m bs) (hm : m ≤ 100) : (bsT bs).length < sizeLine := by
  have := hs.1
  exact zz200 (by rw [List.length_map]; omega)
theorem b10 {k : Nat} {e f : E3} {bs : List (T × T)} {n : Nat} (hv : VR 100 es) (hl : es.length ≤ 192) (he : es[k]? = some e) (hf : es[0]? = some f) (hb : Bs 7 bs) (hF : Fo n t) (hn : n < 2 ^ 95)
    (kk : ∀ t' bs' y9 y10, Fo (n + 19) t' → Bs 26 bs' → D.nx (AE t' es (some (.lst true (bsT bs'))) x3 k e (some (.lst false (odds f e))) y9 y10)) :
    w__law_bad_records_10 D (AE t es (some (.lst true (bsT bs))) x3 k e (some (.lst true (odds f e))) x9 x10) := by
  have hk := (List.getElem?_eq_some_iff.mp he).1
  have ho := odds_it hv he hf
  have hw := odds_wrong hv he (f := f)
  have ef : frzL (odds f e) = odds f e := ho.frz
  refine ⟨fun i Δ => ∃ t' bs' y9 y10, Δ = AE t' es (some (.lst true (bsT bs'))) x3 k e (some (.lst false (odds f e))) y9 y10 ∧ Fo (n + i) t' ∧ Bs (7 + i) bs' ∧ i ≤ 19, ⟨t, bs, x9, x10, ?_, hF, hb, Nat.zero_le _⟩, ?_, ?_⟩
  · show AE t es _ x3 k e (some (.lst false (frzL (odds f e)))) x9 x10 = _
    rw [ef]
  · rintro i x Δ hx ⟨t', bs', y9, y10, rfl, hF', hb', hi⟩
    have hx' : (odds f e)[i]? = some x := by
      have hx : (frzL (frzL (odds f e)))[i]? = some x := hx
      rw [ef, ef] at hx; exact hx
    have hm := List.mem_of_getElem? hx'
    have hi19 : i < 19 := (List.getElem?_eq_some_iff.mp hx').1
    have hxi := ho.2 x hm
    have hxw := hw x hm
    have hd := hxi.1
    have c1 : cutT (EL es) none (some (k : Int)) = EL (es.take k) := by rw [cut_lo (by simp; omega)]; exact List.map_take.symm
    have c2 : cutT (EL es) (some ((k : Int) + 1)) none = EL (es.drop (k + 1)) := by
      rw [show ((k : Int) + 1) = ((k + 1 : Nat) : Int) by omega, cut_hi (by simp; omega)]; exact List.map_drop.symm
    have go : ∀ (t2 : T) (o : Bool) (rest : List T), Fo (n + (i + 1)) t2 → Its' (192 - k) 2 700 rest →
        ∀ (Dn : EndsD), Dn.nx = (fun Δ => ∃ t' bs' y9 y10, Δ = AE t' es (some (.lst true (bsT bs'))) x3 k e (some (.lst false (odds f e))) y9 y10 ∧ Fo (n + (i + 1)) t' ∧ Bs (7 + (i + 1)) bs' ∧ i + 1 ≤ 19) →
        w__law_bad_records_10_2 Dn (AE t2 es (some (.lst true (bsT bs'))) x3 k e (some (.lst false (odds f e))) (some x) (some (.lst o rest))) := fun t2 o rest hF2 hr Dn hn => by
      have bad := bad_of hv hl he hxw hxi hr
      have hrl := hr.1
      have cx : closedL [x] = true := by simp only [closedL, dat_closed x hd]; rfl
      have h1 := hb'.1
      have sr : ShowI (.int (k : Int)) := showI_int (by omega)
      refine ⟨el_cl es, z1, ?_⟩
      dsimp only [wCons, wTup, wTakes, wLst, wTake, wNil, onV, onVs, look, List.getElem?_cons_zero, List.getElem?_cons_succ, List.set_cons_zero, List.set_cons_succ, wOp, wV, wC, wUn, wCl, wCons, wNil, wTest, backs]
      rw [c1, dat_frz hd, dat_frz hd]
      refine ⟨⟨el_cl _, cx⟩, sz5 (by simp; omega), ⟨closedL_app (el_cl _) cx, hr.cl⟩, sz5 (by simp; omega), ?_⟩
      refine gReprM_int (by omega) (gAdd_rec sr ⟨z2, ?_⟩)
      have eu : frz (.lst true (EL (es.take k) ++ [x] ++ rest)) = .lst false (EL (es.take k) ++ x :: rest) := by
        rw [List.append_assoc]
        have := bad.dat
        have h3 := datL_frz (show datL (EL (es.take k) ++ x :: rest) = true from by simpa [dat] using this)
        simp only [frz]
        exact congrArg (T.lst false) h3
      refine ⟨bs_cl hb', bs_len hb' (by omega), ?_⟩
      rw [put_eq bad eu, hn]
      exact ⟨t2, _, _, _, rfl, hF2, bs_add hb' bad, by omega⟩
    refine ⟨rfl, at_dip hF' (by omega) (by decide) (by decide) fun r t2 r0 r1 hF2 => ite_of (fun _ => ⟨el_cl es, ?_⟩) fun _ => ⟨z1, ?_⟩⟩
    · rw [c2]
      exact go t2 true _ hF2 ((el_its fun z hz => hv.ok z (List.mem_of_mem_drop hz)).mono (by decide) (by decide) (by rw [List.length_drop]; omega)) _ rfl
    · exact go t2 true [.non] hF2 ((Its'.cons (it_non.mono (by decide) (by decide)) .nil).mono (Nat.le_refl _) (Nat.le_refl _) (by omega)) _ rfl
  · rintro Δ ⟨t', bs', y9, y10, rfl, hF', hb', hi⟩
    exact kk t' bs' y9 y10 hF' hb'
theorem eq_lst {xs : List T} (h : datL xs = true) (o : Bool) : frz (.lst o xs) = .lst false xs := by
  simp only [frz, datL_frz h]
theorem b11 {k : Nat} {e : E3} {bs : List (T × T)} (hv : VR 100 es) (hl : es.length ≤ 192) (he : es[k]? = some e) (hb : Bs 26 bs)
    (kk : ∀ bs', Bs 27 bs' → D.nx (AE t es (some (.lst true (bsT bs'))) x3 k e x8 x9 x10)) : w__law_bad_records_11 D (AE t es (some (.lst true (bsT bs))) x3 k e x8 x9 x10) := by
  have hk := (List.getElem?_eq_some_iff.mp he).1
  have ho := hv.ok e (List.mem_of_getElem? he)
  refine ite_of (fun h => ?_) fun h => kk bs ⟨by have := hb.1; omega, hb.2⟩
  have h : decide ((0 : Int) < (k : Int)) = true := h
  have h := of_decide_eq_true h
  have c1 : cutT (EL es) none (some (k : Int)) = EL (es.take k) := by rw [cut_lo (by simp; omega)]; exact List.map_take.symm
  refine ⟨el_cl es, ?_⟩
  dsimp only [wCons, wTup, wTakes, wLst, wTake, wNil, onV, onVs, look, List.getElem?_cons_zero, List.getElem?_cons_succ, List.set_cons_zero, List.set_cons_succ, wOp, wV, wC, wUn, wCl, wCons, wNil, wTest, backs]
  rw [c1]
  dsimp only [TL.gSub]
  refine ix_el (es := es) (i := (k : Int) - 1) (by omega) (show (k : Int) - 1 < (es.length : Int) by omega) fun a ha => ?_
  rw [show ((k : Int) - 1).toNat = k - 1 by omega] at ha
  have ha2 := (hv.ok a (List.mem_of_getElem? ha)).i
  have hx : Wrong es k e (.tup [.int (a.i - 1), .str e.l, .bl e.b]) := .inr (.inr ⟨a, a.i - 1, e.l, e.b, by omega, ha, by omega, rfl⟩)
  have hi : It 2 700 (.tup [.int (a.i - 1), .str e.l, .bl e.b]) := (it_tup (k := 3) (.cons (it_int (by omega)) (.cons (it_lev ho.l) (.cons (it_bl _) .nil)))).mono (by decide) (by decide)
  have hr : Its' (192 - k) 2 700 [.int 7] := (Its'.cons ((it_int (by decide)).mono (by decide) (by decide)) .nil).mono (Nat.le_refl _) (Nat.le_refl _) (by omega)
  have bad := bad_of hv hl he hx hi hr
  have sr : ShowI (.int (k : Int)) := showI_int (by omega)
  refine ⟨rfl, z3, z1, ⟨el_cl _, rfl⟩, sz5 (by simp; omega), z1, ⟨closedL_app (el_cl _) rfl, rfl⟩, sz5 (by simp; omega), ?_⟩
  refine gReprM_int (by omega) (gAdd_rec sr ⟨z2, bs_cl hb, bs_len hb (by omega), ?_⟩)
  have eu : frz (.lst true (EL (es.take k) ++ [.tup [.int (a.i - 1), .str e.l, .bl e.b]] ++ [.int 7])) = .lst false (EL (es.take k) ++ .tup [.int (a.i - 1), .str e.l, .bl e.b] :: [.int 7]) := by
    rw [List.append_assoc]
    have := bad.dat
    exact eq_lst (by simpa [dat] using this) true
  have q := kk _ (bs_add hb bad)
  rw [← put_eq bad eu] at q
  exact q
theorem b12 {k : Nat} {e : E3} {bs : List (T × T)} (hv : VR 100 es) (h2 : 2 ≤ es.length) (hl : es.length ≤ 192) (hb : Bs 27 bs)
    (kk : ∀ bs', Bs 28 bs' → D.nx (AE t es (some (.lst true (bsT bs'))) x3 k e x8 x9 x10)) : w__law_bad_records_12 D (AE t es (some (.lst true (bsT bs))) x3 k e x8 x9 x10) := by
  have c1 : cutT (EL es) none (some (-1)) = EL (es.take (es.length - 1)) := by
    unfold cutT
    have e1 : HT.sIx (EL es).length 0 none = 0 := rfl
    have e2 : HT.sIx (EL es).length (EL es).length (some (-1)) = es.length - 1 := by
      show ((-1 : Int) + ((EL es).length : Int)).toNat = _
      rw [List.length_map]; omega
    rw [e1, e2]
    exact List.map_take.symm
  have hne : es ≠ [] := by rintro rfl; simp at h2
  have hi : Its' 192 2 700 (EL (es.take (es.length - 1))) := (el_its fun z hz => hv.ok z (List.mem_of_mem_take hz)).mono (by decide) (by decide) (by rw [List.length_take]; omega)
  have bad : BadV (.lst false (EL (es.take (es.length - 1)))) (.int ((es.length - 1 : Nat) : Int)) := ⟨.inl ((it_lst hi).mono (by decide) (by decide)), cut_init hv hne⟩
  have sr : ShowI (.int ((es.length - 1 : Nat) : Int)) := showI_int (by omega)
  refine ⟨el_cl es, ?_⟩
  dsimp only [wCons, wTup, wTakes, wLst, wTake, wNil, onV, onVs, look, List.getElem?_cons_zero, List.getElem?_cons_succ, List.set_cons_zero, List.set_cons_succ, wOp, wV, wC, wUn, wCl, wCons, wNil, wTest, backs]
  rw [c1]
  dsimp only [TL.gSub, gLen]
  rw [List.length_map, show ((es.length : Int) - 1) = ((es.length - 1 : Nat) : Int) by omega]
  refine gReprM_int (by omega) (gAdd_rec sr ⟨z2, bs_cl hb, bs_len hb (by omega), ?_⟩)
  have q := kk _ (bs_add hb bad)
  rw [← put_eq bad (eq_lst hi.dt true)] at q
  exact q
theorem gAdd_int {i j : Int} {Q : T → Prop} (q : Q (.int (i + j))) : gAdd (.int i) (.int j) Q := q
theorem b13 {k : Nat} {e : E3} {bs : List (T × T)} (hv : VR 100 es) (h2 : 2 ≤ es.length) (hl : es.length ≤ 192) (hb : Bs 28 bs)
    (kk : ∀ bs', Bs 29 bs' → D.rt (.lst true (bsT bs')) (AE t es (some (.lst true (bsT bs))) x3 k e x8 x9 x10)) : w__law_bad_records_13 D (AE t es (some (.lst true (bsT bs))) x3 k e x8 x9 x10) := by
  have hne : es ≠ [] := by rintro rfl; simp at h2
  dsimp only [w__law_bad_records_13, wRet, wCons, wTup, wTakes, wLst, wTake, wNil, onV, onVs, look, List.getElem?_cons_zero, List.getElem?_cons_succ, List.set_cons_zero, List.set_cons_succ, wOp, wV, wC, wUn, wCl, wCons, wNil, wTest, backs]
  dsimp only [TL.gNeg]
  refine ix_last hne fun a ha => ?_
  have ha2 := (hv.ok a (List.mem_of_getLast? ha)).i
  have hi : Its' (192 + 1) 2 700 (EL es ++ [.tup [.int a.i, .str "s", .bl true]]) := ((el_its hv.ok).mono (by decide) (by decide) hl).app (.cons ((it_tup (k := 3) (.cons (it_int (by omega)) (.cons (it_lev (.inl rfl)) (.cons (it_bl _) .nil)))).mono (by decide) (by decide)) .nil)
  have bad : BadV (.lst false (EL es ++ [.tup [.int a.i, .str "s", .bl true]])) (.int ((es.length + 1 : Nat) : Int)) := ⟨.inl ((it_lst hi).mono (by decide) (by decide)), one_more hv (by omega) ha⟩
  have sr : ShowI (.int ((es.length + 1 : Nat) : Int)) := showI_int (by omega)
  refine ⟨rfl, z3, z1, ⟨el_cl _, rfl⟩, sz5 (by simp; omega), ?_⟩
  dsimp only [gLen]
  have hb1 := hb.1
  have eu : frz (.lst true (EL es ++ [frz (.tup [frz (.int a.i), frz (.str "s"), frz (.bl true)])])) = .lst false (EL es ++ [.tup [.int a.i, .str "s", .bl true]]) := eq_lst hi.dt true
  have cb : closedL [frz (.tup [frz (.lst true (EL es ++ [frz (.tup [frz (.int a.i), frz (.str "s"), frz (.bl true)])])), frz (.str (recT (.int ((es.length + 1 : Nat) : Int))))])] = true := by
    simp only [closedL, closed_frz]; rfl
  have q := kk _ (bs_add hb bad)
  rw [← put_eq bad eu] at q
  rw [show ((EL es).length : Int) = ((es.length : Nat) : Int) by rw [List.length_map]]
  refine gAdd_int ?_
  rw [show ((es.length : Int) + 1) = ((es.length + 1 : Nat) : Int) by omega]
  exact gReprM_int (by omega) (gAdd_rec sr ⟨z2, z1, ⟨bs_cl hb, cb⟩, sz5 (by simp; omega), q⟩)
end
theorem v__law_bad_records : ∀ ts Qf, S__law_bad_records ts Qf → w__law_bad_records (endsD 1 ts Qf) (startD N__law_bad_records 1 ts) := by
  rintro ts Qf ⟨t, o, es, n, rfl, hF, hn, hv, ⟨h2, hl⟩, q⟩
  show w__law_bad_records (endsD 1 [t, .lst o (EL es)] Qf) [some t, some (.lst false (frzL (EL es))), none, none, none, none, none, none, none, none, none]
  have fin : ∀ t' bs x2 x3 x4 x5 x6 x7 x8 x9 x10, Bs 29 bs → Fo (n + 50) t' → (endsD 1 [t, .lst o (EL es)] Qf).rt (.lst true (bsT bs)) (A11 t' es x2 x3 x4 x5 x6 x7 x8 x9 x10) := fun t' bs _ _ _ _ _ _ _ _ _ hb hF' => by
    show Qf _ [t', .lst false (frzL (EL es))]
    rw [el_frz]
    exact q t' bs hb hF'
  rw [el_frz]
  revert fin
  generalize endsD 1 [t, .lst o (EL es)] Qf = D
  intro fin
  have hz : ∃ e, es[0]? = some e := ⟨es[0], by simp⟩
  obtain ⟨f, hf⟩ := hz
  refine sq (b1 hv hl ?_)
  dsimp only
  refine sq (b2 hF (by omega) h2 hl fun t1 k hF1 hk => ?_)
  obtain ⟨e, he⟩ : ∃ e, es[k]? = some e := ⟨es[k], by simp [hk]⟩
  dsimp only
  refine sq (b3 he ?_)
  dsimp only
  refine sq (b4 ?_)
  dsimp only
  refine sq (b5 ?_)
  dsimp only
  refine sq (b6 hf ?_)
  dsimp only
  refine sq (b7 (hv.ok e (List.mem_of_getElem? he)).l ?_)
  dsimp only
  refine sq (b8 ?_)
  dsimp only
  refine sq (b9 ?_)
  dsimp only
  have hb7 : Bs 7 ((sevL es).map fun v => (v, .non)) := ⟨Nat.le_refl 7, fun p hp => by
    obtain ⟨v, hv', rfl⟩ := List.mem_map.mp hp
    exact sev_bad hv hl v hv'⟩
  refine sq (b10 hv hl he hf hb7 hF1 (by omega) fun t2 bs2 y9 y10 hF2 hb2 => ?_)
  dsimp only
  refine sq (b11 hv hl he hb2 fun bs3 hb3 => ?_)
  dsimp only
  refine sq (b12 hv h2 hl hb3 fun bs4 hb4 => ?_)
  dsimp only
  exact b13 hv h2 hl hb4 fun bs5 hb5 => fin t2 bs5 _ _ _ _ _ _ _ _ _ hb5 (hF2.mono (by omega))
end TL

set_option maxRecDepth 100000
set_option maxHeartbeats 1000000
namespace TL
open PySem PySem.Spec PyProof.Rows L2
theorem z7 : 7 ≤ sizeLine := by decide
abbrev remT : List T := [.str "none", .str "press", .str "held"]
abbrev prfT : List T := [.str "turn", .str "stay", .str "s", .str "l"]
theorem at_isi {v : T} {n : Int} {Q : Rs → List T → Prop} (h : dat v = true) (q : Q (.ret (.bl (intB v (.int n)))) [v, .int n]) : S_is_integer [v, .int n] Q := ⟨v, .int n, rfl, dat_ty h, .inr ⟨n, rfl⟩, by rw [dat_frz h]; exact q⟩
theorem at_iso {v : T} {ws : List T} {Q : Rs → List T → Prop} (h : dat v = true) (hw : ws.all flT = true) (q : Q (.ret (.bl (strB v && inT v ws))) [v, .tup ws]) : S_is_one_of [v, .tup ws] Q := ⟨v, ws, rfl, dat_ty h, hw, by rw [dat_frz h, frzL_fl ws hw]; exact q⟩
def flg : List T → List Bool
  | [a, b, c, d, e, f, g] => [intB a (.int 1), intB b (.int 1), intB c (.int 1), intB d (.int 0), strB e && inT e remT, blB f, strB g && inT g prfT]
  | _ => []
def S_rules_flags : FS := fun ts Q => ∃ xs, ts = [.tup xs] ∧ xs.length = 7 ∧ datL xs = true ∧ Q (.ret (.lst true ((flg xs).map .bl))) [.tup xs]
theorem l_rules_flags : ∀ ts Q, S_rules_flags ts Q → ts.length = 1 := fun ts Q ⟨_, e, _⟩ => by rw [e]; rfl
theorem seven {xs : List T} (h : xs.length = 7) : ∃ a b c d e f g, xs = [a, b, c, d, e, f, g] := by
  match xs, h with
  | [a, b, c, d, e, f, g], _ => exact ⟨a, b, c, d, e, f, g, rfl⟩
theorem isi_blB {c : T} : isiB (tyN c) "bool" = blB c ∨ tyOk c = false := by cases c <;> first | exact .inl rfl | exact .inr rfl
abbrev N_rules_flags : List Str := ["value", "found", "item"]
def w_rules_flags : WS :=
  (wSeq (wAsg (wLc (wiTup (wSl (wV 0) woN (woS (wC (.int 3))))) (wgN 2) wYes (wCall S_is_integer (wCons (wV 2) (wCons (wC (.int 1)) wNil))) [2]) (wgN 1)) (wSeq (wDrop (wApp 1 (wCall S_is_integer (wCons (wOp gIx (wV 0) (wC (.int 3))) (wCons (wC (.int 0)) wNil))))) (wRet 0 (wLst (wStar (wV 1) (wCons (wCall S_is_one_of (wCons (wOp gIx (wV 0) (wC (.int 4))) (wCons (wC (.tup [.str "none", .str "press", .str "held"])) wNil))) (wCons (wCl gIsi (wCons (wOp gIx (wV 0) (wC (.int 5))) (wCons (wC (.ty "bool")) wNil))) (wCons (wCall S_is_one_of (wCons (wOp gIx (wV 0) (wC (.int 6))) (wCons (wC (.tup [.str "turn", .str "stay", .str "s", .str "l"])) wNil))) wNil))))))))
theorem v_rules_flags : ∀ ts Qf, S_rules_flags ts Qf → w_rules_flags (endsD 0 ts Qf) (startD N_rules_flags 0 ts) := by
  rintro ts Qf ⟨xs, rfl, h7, hd, q⟩
  have fin : ∀ Δ, (endsD 0 [.tup xs] Qf).rt (.lst true ((flg xs).map .bl)) Δ := fun Δ => by
    show Qf (.ret _) [.tup (frzL xs)]
    rw [datL_frz hd]; exact q
  show w_rules_flags (endsD 0 [.tup xs] Qf) [some (.tup (frzL xs)), none, none]
  rw [datL_frz hd]
  revert fin
  generalize endsD 0 [.tup xs] Qf = D
  intro fin
  obtain ⟨a, b, c, d, e, f, g, rfl⟩ := seven h7
  have hc := datL_closed _ hd
  simp only [datL, Bool.and_eq_true, Bool.and_true] at hd
  obtain ⟨ha, hb, hcc, hdd, he, hf, hg⟩ := hd
  have te : (tyN f == "") = false := by simpa [tyOk] using dat_ty hf
  have ef : isiB (tyN f) "bool" = blB f := isi_blB.resolve_right (by rw [dat_ty hf]; decide)
  have items : ∀ (i : Nat) y, [a, b, c][i]? = some y → dat y = true := fun i y hy => by
    match i, hy with
    | 0, hy => obtain rfl := Option.some.inj hy; exact ha
    | 1, hy => obtain rfl := Option.some.inj hy; exact hb
    | 2, hy => obtain rfl := Option.some.inj hy; exact hcc
  have fz : frzL [a, b, c] = [a, b, c] := datL_frz (by simp [datL, ha, hb, hcc])
  refine ⟨hc, fun i acc Δ => acc = ([a, b, c].take i).map (fun x => T.bl (intB x (.int 1))) ∧ Δ = [some (.tup [a, b, c, d, e, f, g]), none, none], ⟨rfl, rfl⟩, ?_, ?_⟩
  · rintro i y acc Δ hy ⟨rfl, rfl⟩
    have hy' : (frzL [a, b, c])[i]? = some y := hy
    rw [fz] at hy'
    have hi : i < 3 := (List.getElem?_eq_some_iff.mp hy').1
    have et : [a, b, c].take (i + 1) = [a, b, c].take i ++ [y] := by rw [List.take_add_one, hy']; rfl
    refine ⟨rfl, at_isi (items i y hy') ⟨zz200 (by simp; omega), ?_, rfl⟩⟩
    rw [et]; simp [frz]
  · rintro acc Δ ⟨rfl, rfl⟩
    have e3 : (List.take (frzL [a, b, c]).length [a, b, c]).map (fun x => T.bl (intB x (.int 1))) = [.bl (intB a (.int 1)), .bl (intB b (.int 1)), .bl (intB c (.int 1))] := by rw [fz]; rfl
    show wSeq (wDrop (wApp 1 (wCall S_is_integer (wCons (wOp gIx (wV 0) (wC (.int 3))) (wCons (wC (.int 0)) wNil))))) _ D [some (.tup [a, b, c, d, e, f, g]), some (.lst true ((List.take (frzL [a, b, c]).length [a, b, c]).map (fun x => T.bl (intB x (.int 1))))), none]
    rw [e3]
    have key : isiB (tyN f) "bool" = blB f := ef
    have q2 := fin
    simp only [flg, List.map_cons, List.map_nil] at q2
    rw [← ef] at q2
    refine ⟨dat_closed _ hdd, rfl, at_isi hdd ⟨rfl, zz200 (by simp), dat_closed _ he, rfl, at_iso he rfl ⟨dat_closed _ hf, te, rfl, dat_closed _ hg, rfl, at_iso hg rfl ?_⟩⟩⟩
    exact ⟨by show 7 ≤ sizeLine; decide, q2 _⟩
theorem in_false : ∀ bs : List Bool, inT (.bl false) (bs.map .bl) = !bs.all id
  | [] => rfl
  | b :: r => by
    have ih := in_false r
    simp only [inT, List.map_cons, List.any_cons, List.all_cons, scV, eqV] at ih ⊢
    rw [ih]; cases b <;> simp
theorem at_flags {xs : List T} {Q : Rs → List T → Prop} (h7 : xs.length = 7) (hd : datL xs = true) (q : Q (.ret (.lst true ((flg xs).map .bl))) [.tup xs]) : S_rules_flags [.tup xs] Q := ⟨xs, rfl, h7, hd, q⟩
theorem bls_fl (bs : List Bool) : (bs.map T.bl).all flT = true := by simp [flT]
structure Ru where
  a : Int
  b : Int
  c : Int
  d : Int
  r : Str
  p : Bool
  q : Str
namespace Ru
abbrev l (x : Ru) : List T := [.int x.a, .int x.b, .int x.c, .int x.d, .str x.r, .bl x.p, .str x.q]
abbrev t (x : Ru) : T := .tup x.l
structure Ok (x : Ru) (M : Int) : Prop where
  a : 1 ≤ x.a ∧ x.a ≤ M
  b : 1 ≤ x.b ∧ x.b ≤ M
  c : 1 ≤ x.c ∧ x.c ≤ M
  d : 0 ≤ x.d ∧ x.d ≤ M
  r : x.r = "none" ∨ x.r = "press" ∨ x.r = "held"
  q : x.q = "turn" ∨ x.q = "stay" ∨ x.q = "s" ∨ x.q = "l"
theorem Ok.mono {x : Ru} {M N : Int} (h : x.Ok M) (k : M ≤ N) : x.Ok N := ⟨by have := h.a; omega, by have := h.b; omega, by have := h.c; omega, by have := h.d; omega, h.r, h.q⟩
end Ru
theorem Ru.Ok.flg {x : Ru} {M : Int} (h : x.Ok M) : (TL.flg x.l).all id = true := by
  have e1 : inT (.str x.r) remT = true := by rcases h.r with e | e | e <;> rw [e] <;> decide +kernel
  have e2 : inT (.str x.q) prfT = true := by rcases h.q with e | e | e | e <;> rw [e] <;> decide +kernel
  have f1 : decide ((1 : Int) ≤ x.a) = true := decide_eq_true h.a.1
  have f2 : decide ((1 : Int) ≤ x.b) = true := decide_eq_true h.b.1
  have f3 : decide ((1 : Int) ≤ x.c) = true := decide_eq_true h.c.1
  have f4 : decide ((0 : Int) ≤ x.d) = true := decide_eq_true h.d.1
  simp only [Ru.l, TL.flg, intB, strB, blB, e1, e2, f1, f2, f3, f4]
  rfl
theorem place_false : ∀ bs : List Bool, (bs.all id = true → placeT (.bl false) (bs.map .bl) = none) ∧ (bs.all id = false → ∃ j, placeT (.bl false) (bs.map .bl) = some j)
  | [] => ⟨fun _ => rfl, fun h => by cases h⟩
  | false :: r => ⟨fun h => by simp at h, fun _ => ⟨0, rfl⟩⟩
  | true :: r => by
    obtain ⟨h1, h2⟩ := place_false r
    have e : placeT (.bl false) ((true :: r).map .bl) = (placeT (.bl false) (r.map .bl)).map (· + 1) := rfl
    rw [e]
    refine ⟨fun h => ?_, fun h => ?_⟩
    · rw [h1 (by simpa using h)]; rfl
    · obtain ⟨j, hj⟩ := h2 (by simpa using h)
      exact ⟨j + 1, by rw [hj]; rfl⟩
/-- what is wrong with a value that should be rules: nothing, or what the error's index is -/
def rfault (v : T) : Option T := match v with
  | .tup xs => if xs.length = 7 then (match placeT (.bl false) ((flg xs).map .bl) with
    | none => none
    | some j => some (.int (j : Nat))) else some .non
  | _ => some .non
theorem rfault_flat (v i : T) (h : rfault v = some i) : closed i = true ∧ flT i = true := by
  unfold rfault at h
  split at h
  · split at h
    · split at h
      · cases h
      · cases h; exact ⟨rfl, rfl⟩
    · cases h; exact ⟨rfl, rfl⟩
  · cases h; exact ⟨rfl, rfl⟩
def S_require_rules : FS := fun ts Q => ∃ v, ts = [v] ∧ dat (frz v) = true ∧ (rfault (frz v) = none → Q (.ret .non) [frz v]) ∧ ∀ i, rfault (frz v) = some i → Q (.exc "InvalidRules" [("index", i)]) [frz v]
theorem l_require_rules : ∀ ts Q, S_require_rules ts Q → ts.length = 1 := fun ts Q ⟨_, e, _⟩ => by rw [e]; rfl
abbrev N_require_rules : List Str := ["value", "flags"]
def w_require_rules : WS :=
  (wSeq (wIfS (wOr (wNot (wTru (wCl gIsi (wCons (wV 0) (wCons (wC (.ty "tuple")) wNil))))) (wTest (wOp (gEq true) (wCl gLen (wCons (wV 0) wNil)) (wC (.int 7))))) (wRaise "InvalidRules" ["index"] (wCons (wC .non) wNil)) wNext) (wSeq (wAsg (wCall S_rules_flags (wCons (wV 0) wNil)) (wgN 1)) (wIfS (wTest (wOp (gIn false) (wC (.bl false)) (wV 1))) (wRaise "InvalidRules" ["index"] (wCons (wLIx (wV 1) (wC (.bl false))) wNil)) wNext)))
theorem v_require_rules : ∀ ts Qf, S_require_rules ts Qf → w_require_rules (endsX 0 ts Qf) (startD N_require_rules 0 ts) := by
  rintro ts Qf ⟨v, rfl, hd, q1, q2⟩
  show w_require_rules (endsX 0 [v] Qf) [some (frz v), none]
  have fin : ∀ Δ, rfault (frz v) = none → (endsX 0 [v] Qf).nx Δ := fun Δ e => q1 e
  have bad : ∀ i Δ, rfault (frz v) = some i → (endsX 0 [v] Qf).ex "InvalidRules" [("index", i)] Δ := fun i Δ e => q2 i e
  revert fin bad
  generalize endsX 0 [v] Qf = D
  revert hd
  generalize frz v = u
  intro hd fin bad
  cases u with
  | tup xs =>
    have hx : datL xs = true := by simpa [dat] using hd
    refine ⟨rfl, rfl, ?_⟩
    by_cases h7 : xs.length = 7
    · obtain ⟨a, b, c, d, e, f, g, rfl⟩ := seven h7
      refine ⟨rfl, at_flags rfl hx ⟨rfl, bls_fl _, ?_⟩⟩
      rw [in_false]
      obtain ⟨p1, p2⟩ := place_false (flg [a, b, c, d, e, f, g])
      refine ite_of (fun h => ?_) fun h => fin _ ?_
      · have h' : (flg [a, b, c, d, e, f, g]).all id = false := by simpa [nb] using h
        obtain ⟨j, hj⟩ := p2 h'
        refine ⟨rfl, bls_fl _, ?_⟩
        rw [hj]
        exact ⟨rfl, rfl, bad _ _ (by simp [rfault, hj])⟩
      · have h' : (flg [a, b, c, d, e, f, g]).all id = true := by simpa [nb] using h
        simp [rfault, p1 h']
    · refine ite_of (fun h => ⟨rfl, rfl, bad _ _ (by simp [rfault, h7])⟩) fun h => ?_
      have h' : decide ((xs.length : Int) = 7) = true := by simpa [nb] using h
      exact absurd (of_decide_eq_true h') (by omega)
  | ins o C fs => simp [dat] at hd
  | fn a => simp [dat] at hd
  | ty n => simp [dat] at hd
  | exc _ _ _ _ => simp [dat] at hd
  | exv _ _ => simp [dat] at hd
  | _ => exact ⟨rfl, rfl, rfl, rfl, bad _ _ rfl⟩
abbrev MX : Int := 10 ^ 30 - 1
theorem ix_ints {l : List Int} {P : Int → Prop} {o : Bool} {r : Int} {Q : T → Prop} (h0 : 0 ≤ r) (h1 : r < l.length) (hP : ∀ z ∈ l, P z) (q : ∀ z, P z → Q (.int z)) : gIx (.lst o (l.map T.int)) (.int r) Q := by
  have hk : r.toNat < l.length := by omega
  have e : atI (l.map T.int) r = some (.int l[r.toNat]) := by
    unfold atI ixN
    rw [List.length_map, if_pos h0, if_pos h1]
    simp [hk]
  show (match atI (l.map T.int) r with
    | some t => closed t = true ∧ Q t
    | none => False)
  rw [e]
  exact ⟨rfl, q _ (hP _ (List.getElem_mem hk))⟩
theorem ix_strs {l : List Str} {P : Str → Prop} {o : Bool} {r : Int} {Q : T → Prop} (h0 : 0 ≤ r) (h1 : r < l.length) (hP : ∀ z ∈ l, P z) (q : ∀ z, P z → Q (.str z)) : gIx (.lst o (l.map T.str)) (.int r) Q := by
  have hk : r.toNat < l.length := by omega
  have e : atI (l.map T.str) r = some (.str l[r.toNat]) := by
    unfold atI ixN
    rw [List.length_map, if_pos h0, if_pos h1]
    simp [hk]
  show (match atI (l.map T.str) r with
    | some t => closed t = true ∧ Q t
    | none => False)
  rw [e]
  exact ⟨rfl, q _ (hP _ (List.getElem_mem hk))⟩
/-! ### the law's rules -/
def S__law_rules : FS := fun ts Q => ∃ (t : T) (n : Nat), ts = [t] ∧ Fo n t ∧ n < 2 ^ 98 ∧ ∀ (x : Ru) t', x.Ok MX → Fo (n + 20) t' → Q (.ret x.t) [t']
theorem l__law_rules : ∀ ts Q, S__law_rules ts Q → ts.length = 1 := fun ts Q ⟨_, _, e, _⟩ => by rw [e]; rfl
theorem at_rules {t : T} {n : Nat} {Q : Rs → List T → Prop} (h : Fo n t) (hn : n < 2 ^ 98) (q : ∀ (x : Ru) t', x.Ok MX → Fo (n + 20) t' → Q (.ret x.t) [t']) : S__law_rules [t] Q := ⟨t, n, rfl, h, hn, q⟩
abbrev N__law_rules : List Str := ["fount", "top", "words", "short", "long", "rest", "low", "high", "deaf", "some"]
def w__law_rules_1 : WS :=
  (wPar 1 2 (wCons (wOp gIx (wLst (wCons (wC (.int 3)) (wCons (wC (.int 9)) (wCons (wC (.int 9)) (wCons (wOp gPow (wC (.int 10)) (wC (.int 9))) wNil))))) (wCall S__law_dip (wCons (wV 0) (wCons (wC (.int 4)) wNil)))) (wCons (wLst (wCons (wC (.str "none")) (wCons (wC (.str "press")) (wCons (wC (.str "held")) wNil)))) wNil)))
def w__law_rules_2 : WS :=
  (wPar3 3 4 5 (wCons (wOp gAdd (wC (.int 1)) (wCall S__law_dip (wCons (wV 0) (wCons (wV 1) wNil)))) (wCons (wOp gAdd (wC (.int 1)) (wCall S__law_dip (wCons (wV 0) (wCons (wV 1) wNil)))) (wCons (wOp gAdd (wC (.int 1)) (wCall S__law_dip (wCons (wV 0) (wCons (wV 1) wNil)))) wNil))))
def w__law_rules_3 : WS :=
  (wPar 6 7 (wCons (wOp gAdd (wCl gMin2 (wCons (wV 3) (wCons (wV 4) wNil))) (wV 5)) (wCons (wOp gAdd (wCl gMax2 (wCons (wV 3) (wCons (wV 4) wNil))) (wV 5)) wNil)))
def w__law_rules_4 : WS :=
  (wAsg (wLst (wCons (wC (.int 0)) (wCons (wC (.int 0)) (wCons (wCall S__law_dip (wCons (wV 0) (wCons (wV 6) wNil))) (wCons (wOp gAdd (wV 6) (wCall S__law_dip (wCons (wV 0) (wCons (wOp gAdd (wOp TL.gSub (wV 7) (wV 6)) (wC (.int 1))) wNil)))) (wCons (wOp gAdd (wV 7) (wCall S__law_dip (wCons (wV 0) (wCons (wC (.int 3)) wNil)))) wNil)))))) (wgN 8))
def w__law_rules_5 : WS :=
  (wAsg (wTup (wCons (wV 3) (wCons (wV 4) (wCons (wV 5) (wCons (wOp gIx (wV 8) (wCall S__law_dip (wCons (wV 0) (wCons (wC (.int 5)) wNil)))) (wCons (wOp gIx (wV 2) (wCall S__law_dip (wCons (wV 0) (wCons (wC (.int 3)) wNil)))) (wCons (wOp (gEq false) (wCall S__law_dip (wCons (wV 0) (wCons (wC (.int 2)) wNil))) (wC (.int 1))) wNil))))))) (wgN 9))
def w__law_rules_6 : WS :=
  (wRet 1 (wOp gAdd (wV 9) (wTup (wCons (wOp gIx (wLst (wCons (wC (.str "turn")) (wCons (wC (.str "stay")) (wCons (wC (.str "s")) (wCons (wC (.str "l")) wNil))))) (wCall S__law_dip (wCons (wV 0) (wCons (wC (.int 4)) wNil)))) wNil))))
def w__law_rules : WS :=
  (wSeq w__law_rules_1 (wSeq w__law_rules_2 (wSeq w__law_rules_3 (wSeq w__law_rules_4 (wSeq w__law_rules_5 w__law_rules_6)))))
section
variable {D : EndsD} {n : Nat} {t : T} {top a b c lo hi : Int} {x1 x2 x3 x4 x5 x6 x7 x8 x9 : Option T}
abbrev C10 (t : T) (x1 x2 x3 x4 x5 x6 x7 x8 x9 : Option T) : Dt := [some t, x1, x2, x3, x4, x5, x6, x7, x8, x9]
abbrev remL : T := .lst true [.str "none", .str "press", .str "held"]
theorem rr1 (hF : Fo n t) (hn : n < 2 ^ 99) (k : ∀ t' top, Fo (n + 1) t' → (1 ≤ top ∧ top ≤ 10 ^ 9) → D.nx (C10 t' (some (.int top)) (some remL) x3 x4 x5 x6 x7 x8 x9)) : w__law_rules_1 D (C10 t x1 x2 x3 x4 x5 x6 x7 x8 x9) := by
  refine ⟨by decide, by decide, z4, rfl, at_dip hF (by omega) (by decide) (by decide) fun r t1 r0 r1 hF1 => ?_⟩
  dsimp only [onV, onVs, look, List.getElem?_cons_zero, List.getElem?_cons_succ, List.set_cons_zero, List.set_cons_succ, wOp, wV, wC, wUn, wCl, wCons, wNil, wTest, backs]
  refine ix_ints (l := [3, 9, 9, 10 ^ 9]) (P := fun z => 1 ≤ z ∧ z ≤ 10 ^ 9) r0 r1 (by decide) fun top ht => ⟨z3, k t1 top hF1 ht⟩
theorem rr2 (hF : Fo n t) (hn : n < 2 ^ 99) (ht : 1 ≤ top ∧ top ≤ 10 ^ 9) (k : ∀ t' a b c, Fo (n + 3) t' → (1 ≤ a ∧ a ≤ top) → (1 ≤ b ∧ b ≤ top) → (1 ≤ c ∧ c ≤ top) → D.nx (C10 t' (some (.int top)) x2 (some (.int a)) (some (.int b)) (some (.int c)) x6 x7 x8 x9)) : w__law_rules_2 D (C10 t (some (.int top)) x2 x3 x4 x5 x6 x7 x8 x9) :=
  ⟨rfl, at_dip hF (by omega) (by omega) (by omega) fun r1 t1 a1 b1 hF1 => ⟨rfl, at_dip hF1 (by omega) (by omega) (by omega) fun r2 t2 a2 b2 hF2 => ⟨rfl, at_dip hF2 (by omega) (by omega) (by omega) fun r3 t3 a3 b3 hF3 =>
    k t3 _ _ _ (hF3.mono (by omega)) (by omega) (by omega) (by omega)⟩⟩⟩
theorem rr3 (ha : 1 ≤ a ∧ a ≤ top) (hb : 1 ≤ b ∧ b ≤ top) (hc : 1 ≤ c ∧ c ≤ top) (k : ∀ lo hi, 2 ≤ lo → lo ≤ hi → hi ≤ 2 * top → D.nx (C10 t x1 x2 (some (.int a)) (some (.int b)) (some (.int c)) (some (.int lo)) (some (.int hi)) x8 x9)) : w__law_rules_3 D (C10 t x1 x2 (some (.int a)) (some (.int b)) (some (.int c)) x6 x7 x8 x9) := by
  refine k _ _ ?_ ?_ ?_ <;> split <;> (try split) <;> omega
theorem rr456 (hF : Fo n t) (hn : n < 2 ^ 99) (ht : 1 ≤ top ∧ top ≤ 10 ^ 9) (ha : 1 ≤ a ∧ a ≤ top) (hb : 1 ≤ b ∧ b ≤ top) (hc : 1 ≤ c ∧ c ≤ top) (h0 : 2 ≤ lo) (h1 : lo ≤ hi) (h2 : hi ≤ 2 * top) (k : ∀ (x : Ru) t' Δ, x.Ok MX → Fo (n + 8) t' → Δ[0]? = some (some t') → D.rt x.t Δ) :
    wSeq w__law_rules_4 (wSeq w__law_rules_5 w__law_rules_6) D (C10 t x1 (some remL) (some (.int a)) (some (.int b)) (some (.int c)) (some (.int lo)) (some (.int hi)) x8 x9) := by
  refine sq ⟨rfl, at_dip hF (by omega) (by omega) (by omega) fun r1 t1 a1 b1 hF1 => ⟨rfl, at_dip hF1 (by omega) (by omega) (by omega) fun r2 t2 a2 b2 hF2 => ⟨rfl, at_dip hF2 (by omega) (by decide) (by decide) fun r3 t3 a3 b3 hF3 => ⟨show 5 ≤ sizeLine by decide, ?_⟩⟩⟩⟩
  show wSeq w__law_rules_5 w__law_rules_6 D (C10 t3 x1 (some remL) (some (.int a)) (some (.int b)) (some (.int c)) (some (.int lo)) (some (.int hi)) (some (.lst true [.int 0, .int 0, .int r1, .int (lo + r2), .int (hi + r3)])) x9)
  refine sq ⟨rfl, at_dip hF3 (by omega) (by decide) (by decide) fun r4 t4 a4 b4 hF4 => ?_⟩
  dsimp only [onV, onVs, look, List.getElem?_cons_zero, List.getElem?_cons_succ, List.set_cons_zero, List.set_cons_succ, wOp, wV, wC, wUn, wCl, wCons, wNil, wTest, backs]
  refine ix_ints (l := [0, 0, r1, lo + r2, hi + r3]) (P := fun z => 0 ≤ z ∧ z ≤ 2 * top + 3) a4 b4 ?_ fun d hd => ?_
  · intro z hz
    simp only [List.mem_cons, List.not_mem_nil, or_false] at hz
    rcases hz with rfl | rfl | rfl | rfl | rfl <;> omega
  refine ⟨rfl, at_dip hF4 (by omega) (by decide) (by decide) fun r5 t5 a5 b5 hF5 => ?_⟩
  dsimp only [onV, onVs, look, List.getElem?_cons_zero, List.getElem?_cons_succ, List.set_cons_zero, List.set_cons_succ, wOp, wV, wC, wUn, wCl, wCons, wNil, wTest, backs]
  refine ix_strs (l := ["none", "press", "held"]) (P := fun z => z = "none" ∨ z = "press" ∨ z = "held") a5 b5 (by simp) fun r hr => ?_
  refine ⟨rfl, at_dip hF5 (by omega) (by decide) (by decide) fun r6 t6 a6 b6 hF6 => ⟨show 6 ≤ sizeLine by decide, ?_⟩⟩
  show w__law_rules_6 D (C10 t6 x1 (some remL) (some (.int a)) (some (.int b)) (some (.int c)) (some (.int lo)) (some (.int hi)) (some (.lst true [.int 0, .int 0, .int r1, .int (lo + r2), .int (hi + r3)])) (some (.tup [.int a, .int b, .int c, .int d, .str r, .bl (nb false (decide (r6 = 1)))])))
  refine ⟨z4, rfl, at_dip hF6 (by omega) (by decide) (by decide) fun r7 t7 a7 b7 hF7 => ?_⟩
  dsimp only [onV, onVs, look, List.getElem?_cons_zero, List.getElem?_cons_succ, List.set_cons_zero, List.set_cons_succ, wOp, wV, wC, wUn, wCl, wCons, wNil, wTest, backs]
  refine ix_strs (l := ["turn", "stay", "s", "l"]) (P := fun z => z = "turn" ∨ z = "stay" ∨ z = "s" ∨ z = "l") a7 b7 (by simp) fun q hq => ?_
  exact ⟨z1, ⟨rfl, rfl⟩, show 7 ≤ sizeLine by decide, k ⟨a, b, c, d, r, _, q⟩ t7 _ ⟨by have e : MX = 10 ^ 30 - 1 := rfl; dsimp only; omega, by have e : MX = 10 ^ 30 - 1 := rfl; dsimp only; omega, by have e : MX = 10 ^ 30 - 1 := rfl; dsimp only; omega, by have e : MX = 10 ^ 30 - 1 := rfl; dsimp only; omega, hr, hq⟩ (hF7.mono (by omega)) rfl⟩
theorem v__law_rules : ∀ ts Qf, S__law_rules ts Qf → w__law_rules (endsD 1 ts Qf) (startD N__law_rules 1 ts) := by
  rintro ts Qf ⟨t, n, rfl, hF, hn, q⟩
  have fin : ∀ (x : Ru) t' Δ, x.Ok MX → Fo (n + 20) t' → Δ[0]? = some (some t') → (endsD 1 [t] Qf).rt x.t Δ := fun x t' Δ h1 h2 h3 => by
    have := q x t' h1 h2
    show look Δ 0 fun u => Qf (.ret x.t) ([u] ++ [])
    unfold look
    rw [h3]; exact this
  show w__law_rules (endsD 1 [t] Qf) (C10 t none none none none none none none none none)
  revert fin
  generalize endsD 1 [t] Qf = D
  intro fin
  refine sq (rr1 hF (by omega) fun t1 top hF1 ht => ?_)
  dsimp only
  refine sq (rr2 hF1 (by omega) ht fun t2 a b c hF2 ha hb hc => ?_)
  dsimp only
  refine sq (rr3 ha hb hc fun lo hi h0 h1 h2 => ?_)
  dsimp only
  exact rr456 hF2 (by omega) ht ha hb hc h0 h1 h2 fun x t' Δ h3 h4 h5 => fin x t' Δ h3 (h4.mono (by omega)) h5
end
end TL

set_option maxRecDepth 100000
set_option maxHeartbeats 1000000
namespace TL
open PySem PySem.Spec PyProof.Rows L2
/-- is the item fit for the place -/
def fit (s : Nat) (t : T) : Bool := match s with
  | 0 => intB t (.int 1)
  | 1 => intB t (.int 1)
  | 2 => intB t (.int 1)
  | 3 => intB t (.int 0)
  | 4 => strB t && inT t remT
  | 5 => blB t
  | _ => strB t && inT t prfT
theorem rf_at {x : Ru} {M : Int} (h : x.Ok M) {s : Nat} (hs : s < 7) {o : T} (ho : fit s o = false) {rest : List T} (hr : rest.length = 6 - s) : rfault (.tup (x.l.take s ++ o :: rest)) = some (.int (s : Nat)) := by
  have e := h.flg
  simp only [Ru.l, TL.flg, List.all_cons, List.all_nil, Bool.and_true, Bool.and_eq_true, id] at e
  obtain ⟨e1, e2, e3, e4, e5, e6, e7⟩ := e
  match s, hs, rest, hr with
  | 0, _, [r1, r2, r3, r4, r5, r6], _ =>
    have ho : intB o (.int 1) = false := ho
    simp [rfault, TL.flg, placeT, ho, scV, eqV]
  | 1, _, [r1, r2, r3, r4, r5], _ =>
    have ho : intB o (.int 1) = false := ho
    simp [rfault, TL.flg, placeT, ho, scV, eqV, e1]
  | 2, _, [r1, r2, r3, r4], _ =>
    have ho : intB o (.int 1) = false := ho
    simp [rfault, TL.flg, placeT, ho, scV, eqV, e1, e2]
  | 3, _, [r1, r2, r3], _ =>
    have ho : intB o (.int 0) = false := ho
    simp [rfault, TL.flg, placeT, ho, scV, eqV, e1, e2, e3]
  | 4, _, [r1, r2], _ =>
    have ho : (strB o && inT o remT) = false := ho
    simp only [rfault, TL.flg, placeT, ho, scV, eqV, e1, e2, e3, e4, List.take_succ_cons, List.take_zero, List.cons_append, List.nil_append, List.map_cons, List.map_nil]
    rfl
  | 5, _, [r1], _ =>
    have ho : blB o = false := ho
    have e5' : (strB (.str x.r) && inT (.str x.r) remT) = true := by simp [e5]
    simp only [rfault, TL.flg, placeT, ho, scV, eqV, e1, e2, e3, e4, e5', List.take_succ_cons, List.take_zero, List.cons_append, List.nil_append, List.map_cons, List.map_nil]
    rfl
  | 6, _, [], _ =>
    have ho : (strB o && inT o prfT) = false := ho
    have e5' : (strB (.str x.r) && inT (.str x.r) remT) = true := by simp [e5]
    simp only [rfault, TL.flg, placeT, ho, scV, eqV, e1, e2, e3, e4, e5', e6, List.take_succ_cons, List.take_zero, List.cons_append, List.nil_append, List.map_cons, List.map_nil]
    rfl
theorem drop7 {x : Ru} {s : Nat} (hs : s < 7) : (x.l.drop (s + 1)).length = 6 - s := by
  rw [List.length_drop]; show 7 - (s + 1) = 6 - s; omega
theorem Ru.Ok.its {x : Ru} (h : x.Ok MX) : Its' 7 0 110 x.l := by
  have ha := h.a; have hb := h.b; have hc := h.c; have hd := h.d
  have eM : MX = 10 ^ 30 - 1 := rfl
  have r1 : It 0 110 (.str x.r) := by rcases h.r with e | e | e <;> rw [e] <;> exact lit (by decide +kernel)
  have q1 : It 0 110 (.str x.q) := by rcases h.q with e | e | e | e <;> rw [e] <;> exact lit (by decide +kernel)
  exact .cons (it_int (by omega)) (.cons (it_int (by omega)) (.cons (it_int (by omega)) (.cons (it_int (by omega)) (.cons r1 (.cons (it_bl x.p) (.cons q1 .nil))))))
theorem Ru.Ok.it {x : Ru} (h : x.Ok MX) : It 1 1000 x.t := (it_tup h.its).mono (by decide) (by decide)
/-- no rules, and what is told of it -/
def BadU (v i : T) : Prop := (It 3 200000 v ∨ v = .dct false []) ∧ rfault v = some i
theorem BadU.dat {v i : T} (h : BadU v i) : TL.dat v = true := by
  rcases h.1 with h | rfl
  · exact h.1
  · rfl
def Us (n : Nat) (bs : List (T × T)) : Prop := bs.length ≤ n ∧ ∀ p ∈ bs, BadU p.1 p.2
abbrev rbT (bs : List (T × T)) : List T := bs.map fun p => .tup [p.1, .str (rulT p.2)]
theorem us_cl {n : Nat} {bs : List (T × T)} (h : Us n bs) : closedL (rbT bs) = true := (closedL_iff _).mpr fun x hx => by
  obtain ⟨p, hp, rfl⟩ := List.mem_map.mp hx
  have := dat_closed _ (h.2 p hp).dat
  simp only [closed, closedL, this]; rfl
theorem us_add {n : Nat} {bs : List (T × T)} {v i : T} (h : Us n bs) (h2 : BadU v i) : Us (n + 1) (bs ++ [(v, i)]) := ⟨by rw [List.length_append]; have := h.1; simp; omega, fun p hp => (List.mem_append.mp hp).elim (h.2 p) fun z => by rw [List.mem_singleton.mp z]; exact h2⟩
theorem us_eq (bs : List (T × T)) (v i : T) : rbT (bs ++ [(v, i)]) = rbT bs ++ [.tup [v, .str (rulT i)]] := List.map_append
theorem pus_eq {bs : List (T × T)} {v u i : T} (hb : BadU v i) (hu : frz u = v) : rbT bs ++ [frz (.tup [frz u, frz (.str (rulT i))])] = rbT (bs ++ [(v, i)]) := by
  rw [us_eq, hu]
  simp only [frz, frzL, dat_frz hb.dat]
theorem us_len {m : Nat} {bs : List (T × T)} (hs : Us m bs) (hm : m ≤ 100) : (rbT bs).length < sizeLine := by
  have := hs.1
  exact zz200 (by rw [List.length_map]; omega)
theorem rep1 {k : Nat} {x : T} : (List.replicate k [x]).flatten = List.replicate k x := by
  induction k with
  | zero => rfl
  | succ k ih => simp only [List.replicate_succ, List.flatten_cons, ih]; rfl
def S__law_bad_rules : FS := fun ts Q => ∃ (t : T) (x : Ru) (n : Nat), ts = [t, x.t] ∧ Fo n t ∧ n < 2 ^ 90 ∧ x.Ok MX ∧ ∀ t' bs, Us 60 bs → Fo (n + 60) t' → Q (.ret (.lst true (rbT bs))) [t', x.t]
theorem l__law_bad_rules : ∀ ts Q, S__law_bad_rules ts Q → ts.length = 2 := fun ts Q ⟨_, _, _, e, _⟩ => by rw [e]; rfl
abbrev N__law_bad_rules : List Str := ["fount", "rules", "found", "value", "odds", "at", "odd", "rest"]
def w__law_bad_rules_1 : WS :=
  (wAsg (wLc (wiList (wLst (wCons (wC .non) (wCons (wC (.int 0)) (wCons (wC (.str "")) (wCons (wLst wNil) (wCons (wTup wNil) (wCons wDNew (wCons (wCl gListOf (wCons (wV 1) wNil)) (wCons (wSl (wV 1) woN (woS (wC (.int 6)))) (wCons (wOp gAdd (wV 1) (wTup (wCons (wC (.int 0)) wNil))) wNil))))))))))) (wgN 3) wYes (wTup (wCons (wV 3) (wCons (wC (.str "rules None")) wNil))) [3]) (wgN 2))
def w__law_bad_rules_2 : WS :=
  (wAsg (wOp gMulA (wLst (wCons (wLst (wCons (wC (.int 0)) (wCons (wUn gNeg (wC (.int 1))) (wCons (wC .non) (wCons (wC (.bl true)) (wCons (wC (.str "1")) (wCons (wLst (wCons (wC (.int 1)) wNil)) (wCons (wTup (wCons (wC (.int 1)) wNil)) wNil)))))))) wNil)) (wC (.int 3))) (wgN 4))
def w__law_bad_rules_3 : WS :=
  (wDrop (wApp 4 (wLst (wCons (wUn gNeg (wC (.int 1))) (wCons (wC .non) (wCons (wC (.bl true)) (wCons (wC (.str "0")) (wCons (wLst (wCons (wC (.int 0)) wNil)) (wCons (wC (.bl false)) wNil)))))))))
def w__law_bad_rules_4 : WS :=
  (wDrop (wApp 4 (wLst (wCons (wC .non) (wCons (wC (.int 0)) (wCons (wC (.str "")) (wCons (wC (.str "Held")) (wCons (wC (.str "none ")) (wCons (wLst (wCons (wC (.str "none")) wNil)) (wCons (wC (.bl true)) wNil))))))))))
def w__law_bad_rules_5 : WS :=
  (wAsg (wOp gAdd (wV 4) (wLst (wCons (wLst (wCons (wC .non) (wCons (wC (.int 0)) (wCons (wC (.int 1)) (wCons (wC (.str "no")) (wCons (wLst (wCons (wC (.bl true)) wNil)) wNil)))))) (wCons (wLst (wCons (wC .non) (wCons (wC (.int 0)) (wCons (wC (.str "")) (wCons (wC (.str "Turn")) (wCons (wC (.str "sl")) (wCons (wLst (wCons (wC (.str "s")) wNil)) (wCons (wC (.bl true)) wNil)))))))) wNil)))) (wgN 4))
def w__law_bad_rules_6_1_1 : WS :=
  (wAsg (wIf (wTest (wOp (gEq false) (wCall S__law_dip (wCons (wV 0) (wCons (wC (.int 2)) wNil))) (wC (.int 0)))) (wSl (wV 1) (woS (wOp gAdd (wV 5) (wC (.int 1)))) woN) (wOp gRepA (wTup (wCons (wC .non) wNil)) (wOp TL.gSub (wC (.int 6)) (wV 5)))) (wgN 7))
def w__law_bad_rules_6_1_2 : WS :=
  (wDrop (wApp 2 (wTup (wCons (wOp gAdd (wOp gAdd (wSl (wV 1) woN (woS (wV 5))) (wTup (wCons (wV 6) wNil))) (wV 7)) (wCons (wOp gAdd (wC (.str "rules ")) (wCl gReprM (wCons (wV 5) wNil))) wNil)))))
def w__law_bad_rules_6_1 : WS :=
  (wFor (wiList (wOp gIx (wV 4) (wV 5))) (wgN 6) (wSeq w__law_bad_rules_6_1_1 w__law_bad_rules_6_1_2))
def w__law_bad_rules_6 : WS :=
  (wFor (wiRng1 (wCons (wC (.int 7)) wNil)) (wgN 5) w__law_bad_rules_6_1)
def w__law_bad_rules_7 : WS :=
  (wRet 1 (wV 2))
def w__law_bad_rules : WS :=
  (wSeq w__law_bad_rules_1 (wSeq w__law_bad_rules_2 (wSeq w__law_bad_rules_3 (wSeq w__law_bad_rules_4 (wSeq w__law_bad_rules_5 (wSeq w__law_bad_rules_6 w__law_bad_rules_7))))))
abbrev B8 (t : T) (x : Ru) (x2 x3 x4 x5 x6 x7 : Option T) : Dt := [some t, some x.t, x2, x3, x4, x5, x6, x7]
theorem rul_none : rulT .non = ("rules None" : Str) := by
  show ("rules " : Str) ++ shI .non = _
  rw [shI_eq]; decide +kernel
abbrev nineL (x : Ru) : List T := [.non, .int 0, .str "", .lst false [], .tup [], .dct false [], .lst false x.l, .tup (x.l.take 6), .tup (x.l ++ [.int 0])]
theorem nine_bad {x : Ru} (h : x.Ok MX) : ∀ v ∈ nineL x, BadU v .non := by
  intro v hv
  have hi := h.its
  simp only [nineL, List.mem_cons, List.not_mem_nil, or_false] at hv
  rcases hv with rfl | rfl | rfl | rfl | rfl | rfl | rfl | rfl | rfl
  · exact ⟨.inl (it_non.mono (by decide) (by decide)), rfl⟩
  · exact ⟨.inl ((it_int (by decide)).mono (by decide) (by decide)), rfl⟩
  · exact ⟨.inl ((lit (by decide +kernel)).mono (by decide) (by decide)), rfl⟩
  · exact ⟨.inl ((it_lst (d := 0) (w := 0) .nil).mono (by decide) (by decide)), rfl⟩
  · exact ⟨.inl ((it_tup (d := 0) (w := 0) .nil).mono (by decide) (by decide)), rfl⟩
  · exact ⟨.inr rfl, rfl⟩
  · exact ⟨.inl ((it_lst hi).mono (by decide) (by decide)), rfl⟩
  · exact ⟨.inl ((it_tup (k := 7) (d := 0) (w := 110) ⟨by simp, fun y hy => hi.2 y (List.mem_of_mem_take hy)⟩).mono (by decide) (by decide)), rfl⟩
  · exact ⟨.inl ((it_tup (hi.app (.cons (it_int (by decide)) .nil))).mono (by decide) (by decide)), rfl⟩
section
variable {D : EndsD} {x : Ru} {t : T} {x2 x3 x4 x5 x6 x7 : Option T} {n : Nat}
theorem br1 (h : x.Ok MX) (k : D.nx (B8 t x (some (.lst true (rbT ((nineL x).map fun v => (v, .non))))) none x4 x5 x6 x7)) : w__law_bad_rules_1 D (B8 t x x2 x3 x4 x5 x6 x7) := by
  refine ⟨Nat.zero_le _, Nat.zero_le _, rfl, rfl, z1, ⟨rfl, rfl⟩, show 8 ≤ sizeLine by decide, show 9 ≤ sizeLine by decide, ?_⟩
  have e : frzL [frz T.non, frz (.int 0), frz (.str ""), frz (.lst true []), frz (.tup []), frz (.dct true []), frz (.lst true x.l), frz (.tup (cutT x.l none (some 6))), frz (.tup (x.l ++ [frz (.int 0)]))] = nineL x := rfl
  have sv := nine_bad h
  refine ⟨fun i acc Δ => acc = (rbT ((nineL x).map fun v => (v, .non))).take i ∧ i ≤ 9 ∧ Δ = B8 t x x2 none x4 x5 x6 x7, ⟨rfl, Nat.zero_le _, rfl⟩, ?_, ?_⟩
  · rintro i y acc Δ hy ⟨rfl, hi, rfl⟩
    have hy' : (nineL x)[i]? = some y := by rw [← e]; exact hy
    have hi7 : i < 9 := (List.getElem?_eq_some_iff.mp hy').1
    have hc := (sv y (List.mem_of_getElem? hy')).dat
    have hm : (rbT ((nineL x).map fun v => (v, .non)))[i]? = some (.tup [y, .str (rulT .non)]) := by
      simp only [rbT, List.getElem?_map, hy']; rfl
    refine ⟨z2, zz200 (by rw [List.length_take]; omega), ?_, by omega, rfl⟩
    rw [take_at hm]
    show _ ++ [frz (.tup [frz (frz y), .str "rules None"])] = _
    simp only [frz, frzL, dat_frz hc, rul_none]
  · rintro acc Δ ⟨rfl, _, rfl⟩
    exact k
abbrev o0 : List T := [.int 0, .int (-1), .non, .bl true, .str "1", .lst false [.int 1], .tup [.int 1]]
abbrev o3 : List T := [.int (-1), .non, .bl true, .str "0", .lst false [.int 0], .bl false]
abbrev o4 : List T := [.non, .int 0, .str "", .str "Held", .str "none ", .lst false [.str "none"], .bl true]
abbrev o5 : List T := [.non, .int 0, .int 1, .str "no", .lst false [.bl true]]
abbrev o6 : List T := [.non, .int 0, .str "", .str "Turn", .str "sl", .lst false [.str "s"], .bl true]
abbrev ods : List T := [.lst false o0, .lst false o0, .lst false o0, .lst false o3, .lst false o4, .lst false o5, .lst false o6]
theorem br2345 (k : D.nx (B8 t x x2 x3 (some (.lst true ods)) x5 x6 x7)) : wSeq w__law_bad_rules_2 (wSeq w__law_bad_rules_3 (wSeq w__law_bad_rules_4 w__law_bad_rules_5)) D (B8 t x x2 x3 x4 x5 x6 x7) := by
  refine sq ⟨z1, z1, z7, z1, rfl, by decide, by decide, by decide, ?_⟩
  show wSeq w__law_bad_rules_3 (wSeq w__law_bad_rules_4 w__law_bad_rules_5) D (B8 t x x2 x3 (some (.lst true [.lst false o0, .lst false o0, .lst false o0])) x5 x6 x7)
  refine sq ⟨z1, show 6 ≤ sizeLine by decide, rfl, by decide, ?_⟩
  show wSeq w__law_bad_rules_4 w__law_bad_rules_5 D (B8 t x x2 x3 (some (.lst true [.lst false o0, .lst false o0, .lst false o0, .lst false o3])) x5 x6 x7)
  refine sq ⟨z1, z7, rfl, by decide, ?_⟩
  show w__law_bad_rules_5 D (B8 t x x2 x3 (some (.lst true [.lst false o0, .lst false o0, .lst false o0, .lst false o3, .lst false o4])) x5 x6 x7)
  exact ⟨z1, show 5 ≤ sizeLine by decide, z1, z7, z2, ⟨rfl, rfl⟩, z7, k⟩
end
def Od (s : Nat) (o : T) : Prop := It 1 700 o ∧ fit s o = false
def itB (x : T) : Bool := dat x && okT x && decide (dpT x ≤ 1) && decide (wtT x ≤ 700)
theorem od_of {s : Nat} {os : List T} (h : os.all (fun o => itB o && !fit s o) = true) : ∀ o ∈ os, Od s o := fun o ho => by
  have := List.all_eq_true.mp h o ho
  simp only [itB, Bool.and_eq_true, decide_eq_true_eq, Bool.not_eq_true'] at this
  exact ⟨⟨this.1.1.1.1, this.1.1.1.2, this.1.1.2, this.1.2⟩, this.2⟩
theorem ods_at : ∀ s : Nat, s < 7 → ∃ os, atI ods (s : Int) = some (.lst false os) ∧ (∀ o ∈ os, Od s o) ∧ os.length ≤ 7 ∧ closedL os = true
  | 0, _ => ⟨o0, rfl, od_of (by decide +kernel), by decide, rfl⟩
  | 1, _ => ⟨o0, rfl, od_of (by decide +kernel), by decide, rfl⟩
  | 2, _ => ⟨o0, rfl, od_of (by decide +kernel), by decide, rfl⟩
  | 3, _ => ⟨o3, rfl, od_of (by decide +kernel), by decide, rfl⟩
  | 4, _ => ⟨o4, rfl, od_of (by decide +kernel), by decide, rfl⟩
  | 5, _ => ⟨o5, rfl, od_of (by decide +kernel), by decide, rfl⟩
  | 6, _ => ⟨o6, rfl, od_of (by decide +kernel), by decide, rfl⟩
theorem spot_bad {x : Ru} (hx : x.Ok MX) {s : Nat} (hs : s < 7) {o : T} (ho : Od s o) {rest : List T} (hr : rest.length = 6 - s) (hI : ∀ z ∈ rest, It 1 700 z) : BadU (.tup (x.l.take s ++ o :: rest)) (.int (s : Nat)) := by
  have h1 : Its' 7 1 700 (x.l.take s) := ⟨by rw [List.length_take]; exact Nat.le_trans (Nat.min_le_right _ _) (Nat.le_refl 7), fun z hz => (hx.its.2 z (List.mem_of_mem_take hz)).mono (by decide) (by decide)⟩
  have h2 : Its' 7 1 700 (o :: rest) := ⟨by rw [List.length_cons]; omega, fun z hz => (List.mem_cons.mp hz).elim (fun e => e ▸ ho.1) (hI z)⟩
  exact ⟨.inl ((it_tup (h1.app h2)).mono (by decide) (by decide)), rf_at hx hs ho.2 hr⟩
theorem cutT_lo {α : Type} {xs : List α} {s : Nat} (h : s ≤ xs.length) : cutT xs none (some (s : Int)) = xs.take s := cut_lo h
section
variable {D : EndsD} {x : Ru} {t : T} {x2 x3 x4 x5 x6 x7 : Option T} {n : Nat}
theorem body6 (hx : x.Ok MX) {s m : Nat} (hs : s < 7) {o : T} (ho : Od s o) {bs : List (T × T)} (hF : Fo n t) (hn : n < 2 ^ 99) (ha : Us m bs) (hm : m ≤ 90)
    (k : ∀ t' bs' y7, Fo (n + 1) t' → Us (m + 1) bs' → D.nx (B8 t' x (some (.lst true (rbT bs'))) x3 x4 (some (.int (s : Int))) (some o) y7)) :
    wSeq w__law_bad_rules_6_1_1 w__law_bad_rules_6_1_2 D (B8 t x (some (.lst true (rbT bs))) x3 x4 (some (.int (s : Int))) (some o) x7) := by
  have hd := ho.1.1
  have fo := dat_frz hd
  have hc := hx.its.cl
  have cx : closedL [o] = true := by simp only [closedL, dat_closed o hd]; rfl
  have l7 : x.l.length = 7 := rfl
  have c1 : cutT x.l none (some (s : Int)) = x.l.take s := cut_lo (by omega)
  have c2 : cutT x.l (some ((s : Int) + 1)) none = x.l.drop (s + 1) := by
    rw [show ((s : Int) + 1) = ((s + 1 : Nat) : Int) by omega, cut_hi (by omega)]
  have ct : closedL (x.l.take s) = true := (closedL_iff _).mpr fun z hz => (closedL_iff _).mp hc z (List.mem_of_mem_take hz)
  have go : ∀ (t2 : T) (rest : List T), Fo (n + 1) t2 → rest.length = 6 - s → (∀ z ∈ rest, It 1 700 z) → w__law_bad_rules_6_1_2 D (B8 t2 x (some (.lst true (rbT bs))) x3 x4 (some (.int (s : Int))) (some o) (some (.tup rest))) := fun t2 rest hF2 hr hI => by
    have bad := spot_bad hx hs ho hr hI
    have cr : closedL rest = true := (closedL_iff _).mpr fun z hz => dat_closed z (hI z hz).1
    have sr : ShowI (.int (s : Int)) := showI_int (by omega)
    refine ⟨hc, z1, ?_⟩
    dsimp only [wCons, wTup, wTakes, wLst, wTake, wNil, onV, onVs, look, List.getElem?_cons_zero, List.getElem?_cons_succ, List.set_cons_zero, List.set_cons_succ, wOp, wV, wC, wUn, wCl, wCons, wNil, wTest, backs]
    rw [c1, fo, fo]
    refine ⟨⟨ct, cx⟩, sz5 (by simp; omega), ⟨closedL_app ct cx, cr⟩, sz5 (by simp; omega), ?_⟩
    refine gReprM_int (by omega) ?_
    have hz : ("rules " : Str).length + (shI (.int (s : Int))).length ≤ sizeLine := by
      have := sr.2.2
      show 6 + _ ≤ sizeLine
      rw [sizeLine_eq]; omega
    refine ⟨hz, z2, us_cl ha, us_len ha (by omega), ?_⟩
    have eu : frz (.tup (x.l.take s ++ [o] ++ rest)) = .tup (x.l.take s ++ o :: rest) := by
      have h3 := dat_frz bad.dat
      rw [List.append_assoc]
      exact h3
    have q := k t2 _ (some (.tup rest)) hF2 (us_add ha bad)
    rw [← pus_eq bad eu] at q
    exact q
  refine sq ⟨rfl, at_dip hF (by omega) (by decide) (by decide) fun r t2 r0 r1 hF2 => ite_of (fun _ => ⟨hc, ?_⟩) fun _ => ⟨z1, ?_⟩⟩
  · rw [c2]
    exact go t2 _ hF2 (drop7 hs) fun z hz => (hx.its.2 z (List.mem_of_mem_drop hz)).mono (by decide) (by decide)
  · refine ⟨rfl, rfl, by omega, by decide, ?_⟩
    have e6 : ((6 : Int) - (s : Int)).toNat = 6 - s := by omega
    rw [e6, rep1]
    exact go t2 _ hF2 (by simp) fun z hz => by rw [List.eq_of_mem_replicate hz]; exact it_non.mono (by decide) (by decide)
theorem br6 (hx : x.Ok MX) {bs : List (T × T)} (hF : Fo n t) (hn : n < 2 ^ 98) (ha : Us 9 bs) (k : ∀ t' bs' x4 x5 x6 x7, Fo (n + 49) t' → Us 58 bs' → D.nx (B8 t' x (some (.lst true (rbT bs'))) x3 x4 x5 x6 x7)) :
    w__law_bad_rules_6 D (B8 t x (some (.lst true (rbT bs))) x3 (some (.lst true ods)) x5 x6 x7) := by
  refine ⟨by decide, by decide, fun s Δ => ∃ t' bs' o x5 x6 x7, Δ = B8 t' x (some (.lst true (rbT bs'))) x3 (some (.lst o ods)) x5 x6 x7 ∧ Fo (n + 7 * s) t' ∧ Us (9 + 7 * s) bs' ∧ s ≤ 7, ⟨t, bs, _, _, _, _, rfl, hF, ha, Nat.zero_le _⟩, ?_, ?_⟩
  · rintro s y Δ hy ⟨t1, bs1, o, y5, y6, y7, rfl, hF1, ha1, hs7⟩
    obtain ⟨hs, rfl⟩ := rng_at hy
    have hs : s < 7 := hs
    obtain ⟨os, hat, hos, hol, hcl⟩ := ods_at s hs
    have fz : frzL os = os := frzL_closed os hcl
    show gIx (.lst o ods) (.int (s : Int)) _
    show (match atI ods (s : Int) with
      | some t => closed t = true ∧ _
      | none => False)
    rw [hat]
    refine ⟨by simp only [closed, hcl]; rfl, fun i Δ => ∃ t' bs' y6 y7, Δ = B8 t' x (some (.lst true (rbT bs'))) x3 (some (.lst o ods)) (some (.int (s : Int))) y6 y7 ∧ Fo (n + 7 * s + i) t' ∧ Us (9 + 7 * s + i) bs' ∧ i ≤ os.length, ⟨t1, bs1, _, _, rfl, hF1, ha1, Nat.zero_le _⟩, ?_, ?_⟩
    · rintro i od Δ hod ⟨t2, bs2, z6, z7, rfl, hF2, ha2, hi⟩
      have hod : os[i]? = some od := by
        have hod : (frzL os)[i]? = some od := hod
        rw [fz] at hod; exact hod
      have hi2 := (List.getElem?_eq_some_iff.mp hod).1
      exact body6 hx hs (hos od (List.mem_of_getElem? hod)) hF2 (by omega) ha2 (by omega) fun t3 bs3 y7 hF3 ha3 => ⟨t3, bs3, _, _, rfl, hF3, ha3, by omega⟩
    · rintro Δ ⟨t2, bs2, z6, z7, rfl, hF2, ha2, hi⟩
      refine ⟨t2, bs2, o, _, _, _, rfl, hF2.mono (by omega), ⟨by have := ha2.1; omega, ha2.2⟩, by omega⟩
  · rintro Δ ⟨t1, bs1, o, y5, y6, y7, rfl, hF1, ha1, hs7⟩
    exact k t1 bs1 _ _ _ _ (hF1.mono (by show n + 7 * 7 ≤ n + 49; omega)) ha1
end
theorem sq5 {a b c d e : WS} {D : EndsD} {Δ : Dt} (h : wSeq a (wSeq b (wSeq c d)) { D with nx := e D } Δ) : wSeq a (wSeq b (wSeq c (wSeq d e))) D Δ := h
theorem v__law_bad_rules : ∀ ts Qf, S__law_bad_rules ts Qf → w__law_bad_rules (endsD 1 ts Qf) (startD N__law_bad_rules 1 ts) := by
  rintro ts Qf ⟨t, x, n, rfl, hF, hn, hx, q⟩
  show w__law_bad_rules (endsD 1 [t, x.t] Qf) (B8 t x none none none none none none)
  have fin : ∀ t' bs x2 x3 x4 x5 x6 x7, Us 60 bs → Fo (n + 60) t' → (endsD 1 [t, x.t] Qf).rt (.lst true (rbT bs)) (B8 t' x x2 x3 x4 x5 x6 x7) := fun t' bs _ _ _ _ _ _ hb hF' => q t' bs hb hF'
  revert fin
  generalize endsD 1 [t, x.t] Qf = D
  intro fin
  refine sq (br1 hx ?_)
  dsimp only
  refine sq5 (br2345 ?_)
  dsimp only
  have h9 : Us 9 ((nineL x).map fun v => (v, .non)) := ⟨Nat.le_refl 9, fun p hp => by
    obtain ⟨v, hv', rfl⟩ := List.mem_map.mp hp
    exact nine_bad hx v hv'⟩
  refine sq (br6 hx hF (by omega) h9 fun t1 bs1 y4 y5 y6 y7 hF1 hb1 => ?_)
  dsimp only
  exact fin t1 bs1 _ _ _ _ _ _ ⟨by have := hb1.1; omega, hb1.2⟩ (hF1.mono (by omega))
end TL

set_option maxRecDepth 100000
set_option maxHeartbeats 1000000
namespace TL
open PySem PySem.Spec PyProof.Rows L2
/-! ### numbers as texts -/
def numS (i : Int) : Str := Str.ofString (toString i)
theorem tl_nat (n : Nat) : tl (numS (n : Int)) = numL n := tl_num n
theorem tl_negS (n : Nat) (h : 0 < n) : tl (numS (-(n : Int))) = 45 :: numL n := by
  obtain ⟨m, rfl⟩ : ∃ m, n = m + 1 := ⟨n - 1, by omega⟩
  have h1 := tl_nat (m + 1)
  unfold numS at h1 ⊢
  rw [tl_ofString] at h1 ⊢
  have e : toString (-((m + 1 : Nat) : Int)) = "-" ++ toString ((m + 1 : Nat) : Int) := rfl
  rw [e, String.toList_append, List.map_append, h1]
  rfl
theorem sgn (i : Int) : (∃ n : Nat, i = n) ∨ ∃ n : Nat, 0 < n ∧ i = -(n : Int) := by
  by_cases h : 0 ≤ i
  · exact .inl ⟨i.toNat, by omega⟩
  · exact .inr ⟨(-i).toNat, by omega, by omega⟩
theorem num_log {i : Int} (h : i.natAbs < 2 ^ 100) : i.natAbs.log2 < 1920 := Nat.lt_trans (PySem.Flt.log2_lt_of (show 0 < 100 by decide) h) (by decide)
theorem numS_len {i : Int} (h : i.natAbs < 2 ^ 100) : (numS i).length ≤ 110 := by
  have h2 := PySem.Flt.log2_lt_of (show 0 < 100 by decide) h
  have h3 := int_text_length_le (a := i) (k := i.natAbs.log2 + 1) (by omega) (by omega)
  show (Str.ofString (toString i)).length ≤ 110
  rw [PySem.ofString_length]; omega
theorem asc_tl {x : Str} : asc x = true ↔ ∀ c ∈ tl x, c < 128 := by
  unfold asc
  rw [Array.all_eq_true]
  constructor
  · intro h c hc
    obtain ⟨i, hi, e⟩ := List.mem_iff_getElem.mp hc
    have := h i (by simpa using hi)
    simp only [decide_eq_true_eq] at this
    rw [← e]; simpa [tl] using this
  · intro h i hi
    simp only [decide_eq_true_eq]
    exact h _ (by simp [tl])
theorem asc_num (i : Int) : asc (numS i) = true := by
  rw [asc_tl]
  intro c hc
  have hd : ∀ (n : Nat) c, c ∈ numL n → c < 128 := fun n c hc => by
    have := numL_digits n c hc
    omega
  rcases sgn i with ⟨n, rfl⟩ | ⟨n, h0, rfl⟩
  · rw [tl_nat] at hc; exact hd n c hc
  · rw [tl_negS n h0] at hc
    rcases List.mem_cons.mp hc with rfl | hc
    · decide
    · exact hd n c hc
theorem asc_app {x y : Str} (h : asc x = true) (k : asc y = true) : asc (x ++ y) = true := by
  rw [asc_tl] at h k ⊢
  intro c hc
  rw [tl_append] at hc
  exact (List.mem_append.mp hc).elim (h c) (k c)
theorem sum_le {k : Nat} : ∀ {ys : List Str}, (∀ p ∈ ys, p.length ≤ k) → (ys.map (·.length)).sum ≤ k * ys.length
  | [], _ => Nat.zero_le _
  | y :: ys, h => by
    have h1 := h y List.mem_cons_self
    have h2 := sum_le (ys := ys) fun p hp => h p (List.mem_cons_of_mem _ hp)
    simp only [List.map_cons, List.sum_cons, List.length_cons, Nat.mul_add, Nat.mul_one]; omega
theorem join_ok {k m : Nat} {ys : List Str} {xs : List T} {o : Bool} {Q : T → Prop} (e : xs = ys.map .str) (h : ∀ p ∈ ys, p.length ≤ k) (hl : ys.length ≤ m) (hk : (k + 1) * m ≤ 1000000) (q : Q (.str (Txt.join (" " : Str) ys))) : gJoin (" " : Str) [.lst o xs] Q := by
  subst e
  show (match strsT (ys.map .str) with
    | some ys => (ys.map (·.length)).sum + ys.length * (" " : Str).length ≤ 16777216 ∧ Q (.str (Txt.join (" " : Str) ys))
    | none => False)
  rw [strsT_map]
  have h1 := sum_le h
  have h2 : (k + 1) * ys.length ≤ (k + 1) * m := Nat.mul_le_mul_left _ hl
  have e1 : (" " : Str).length = 1 := by decide +kernel
  refine ⟨?_, q⟩
  rw [e1]
  rw [Nat.add_mul] at h2
  omega
theorem strs_cl (ys : List Str) : closedL (ys.map T.str) = true := (closedL_iff _).mpr fun t ht => by
  obtain ⟨s, _, rfl⟩ := List.mem_map.mp ht
  simp only [closed]
/-! ### an item of kinds, a run -/
abbrev wrdT : List T := [.str "s", .str "l", .str "sl", .str "ls"]
def kiB : T → Bool
  | .tup [a, b] => (strB a && inT a wrdT) && intB b (.int 1)
  | _ => false
def ruB : T → Bool
  | .tup [a, b, c] => intB a .non && ((strB b && inT b wrdT) && intB c (.int 1))
  | _ => false
def S_is_kinds_item : FS := fun ts Q => ∃ v, ts = [v] ∧ dat (frz v) = true ∧ Q (.ret (.bl (kiB (frz v)))) [frz v]
theorem l_is_kinds_item : ∀ ts Q, S_is_kinds_item ts Q → ts.length = 1 := fun ts Q ⟨v, e, _⟩ => by rw [e]; rfl
abbrev N_is_kinds_item : List Str := ["value"]
def w_is_kinds_item : WS :=
  (wRet 0 (wAndV (wCl gIsi (wCons (wV 0) (wCons (wC (.ty "tuple")) wNil))) (wAndV (wOp (gEq false) (wCl gLen (wCons (wV 0) wNil)) (wC (.int 2))) (wAndV (wCall S_is_one_of (wCons (wOp gIx (wV 0) (wC (.int 0))) (wCons (wC (.tup [.str "s", .str "l", .str "sl", .str "ls"])) wNil))) (wCall S_is_integer (wCons (wOp gIx (wV 0) (wC (.int 1))) (wCons (wC (.int 1)) wNil)))))))
theorem v_is_kinds_item : ∀ ts Qf, S_is_kinds_item ts Qf → w_is_kinds_item (endsD 0 ts Qf) (startD N_is_kinds_item 0 ts) := by
  rintro ts Qf ⟨v, rfl, hd, q⟩
  show w_is_kinds_item (endsD 0 [v] Qf) [some (frz v)]
  have q' : (endsD 0 [v] Qf).rt (.bl (kiB (frz v))) [some (frz v)] := q
  revert q'
  generalize endsD 0 [v] Qf = D
  revert hd
  generalize frz v = u
  intro hd q'
  cases u with
  | tup xs =>
    match xs, hd, q' with
    | [a, b], hd, q' =>
      simp only [dat, datL, Bool.and_true, Bool.and_eq_true] at hd
      obtain ⟨ha, hb⟩ := hd
      have no : kiB (.tup [a, b]) = false → D.rt (.bl false) [some (.tup [a, b])] := fun e => by rw [← e]; exact q'
      refine ⟨rfl, rfl, dat_closed a ha, rfl, at_iso ha rfl (ite_of (fun h1 => ⟨dat_closed b hb, rfl, at_isi hb ?_⟩) fun h1 => ?_)⟩
      · have e : kiB (.tup [a, b]) = intB b (.int 1) := by simp only [kiB]; rw [h1]; rfl
        exact e ▸ q'
      · exact no (by simp only [kiB]; rw [h1]; rfl)
    | [], hd, q' => simpa [wSeq, wIfS, wOr, wAnd, wNot, wTru, wTest, wCl, wCons, wNil, wV, wC, wRet, wRetN, wOrV, wAndV, wNotV, wOp, wUn, wIf, wAsg, wTake, wgN, wgTup, wgCons, wgNil, wPar, wLst, wTup, wTakes, wDrop, wNext, wNever, look, onV, onVs, truT, gIsi, gIs, isNon, nb, gCmp, gLen, gAbs, gInt, endsD, lookUp, frz, wCall, wCallD, dupOk, hasPl, closedAt, backs, tyN, isiB, w_is_kinds_item, gEq, kiB] using q'
    | [a], hd, q' => simpa [wSeq, wIfS, wOr, wAnd, wNot, wTru, wTest, wCl, wCons, wNil, wV, wC, wRet, wRetN, wOrV, wAndV, wNotV, wOp, wUn, wIf, wAsg, wTake, wgN, wgTup, wgCons, wgNil, wPar, wLst, wTup, wTakes, wDrop, wNext, wNever, look, onV, onVs, truT, gIsi, gIs, isNon, nb, gCmp, gLen, gAbs, gInt, endsD, lookUp, frz, wCall, wCallD, dupOk, hasPl, closedAt, backs, tyN, isiB, w_is_kinds_item, gEq, kiB] using q'
    | a :: b :: c :: r, hd, q' =>
      have e : ¬ ((r.length : Int) + 1 + 1 + 1 = 2) := by omega
      simpa [wSeq, wIfS, wOr, wAnd, wNot, wTru, wTest, wCl, wCons, wNil, wV, wC, wRet, wRetN, wOrV, wAndV, wNotV, wOp, wUn, wIf, wAsg, wTake, wgN, wgTup, wgCons, wgNil, wPar, wLst, wTup, wTakes, wDrop, wNext, wNever, look, onV, onVs, truT, gIsi, gIs, isNon, nb, gCmp, gLen, gAbs, gInt, endsD, lookUp, frz, wCall, wCallD, dupOk, hasPl, closedAt, backs, tyN, isiB, w_is_kinds_item, gEq, kiB, e] using q'
  | ins o C fs => simp [dat] at hd
  | fn a => simp [dat] at hd
  | ty n => simp [dat] at hd
  | exc a y od fs => simp [dat] at hd
  | exv y fs => simp [dat] at hd
  | _ => simpa [wSeq, wIfS, wOr, wAnd, wNot, wTru, wTest, wCl, wCons, wNil, wV, wC, wRet, wRetN, wOrV, wAndV, wNotV, wOp, wUn, wIf, wAsg, wTake, wgN, wgTup, wgCons, wgNil, wPar, wLst, wTup, wTakes, wDrop, wNext, wNever, look, onV, onVs, truT, gIsi, gIs, isNon, nb, gCmp, gLen, gAbs, gInt, endsD, lookUp, frz, wCall, wCallD, dupOk, hasPl, closedAt, backs, tyN, isiB, w_is_kinds_item, kiB] using q'
theorem at_ki {x : T} {Q : Rs → List T → Prop} (h : dat x = true) (q : Q (.ret (.bl (kiB x))) [x]) : S_is_kinds_item [x] Q := ⟨x, rfl, by rw [dat_frz h]; exact h, by rw [dat_frz h]; exact q⟩
structure R3 where
  i : Int
  w : Str
  n : Int
namespace R3
abbrev t (r : R3) : T := .tup [.int r.i, .str r.w, .int r.n]
structure Ok (r : R3) : Prop where
  i : r.i.natAbs < 2 ^ 100
  w : r.w = "s" ∨ r.w = "l" ∨ r.w = "sl" ∨ r.w = "ls"
  n : 1 ≤ r.n ∧ r.n.natAbs < 2 ^ 100
end R3
abbrev RL (rs : List R3) : List T := rs.map R3.t
def ruW (r : R3) : Str := numS r.i ++ ":" ++ r.w ++ "*" ++ numS r.n
def txtU (rs : List R3) : Str := Txt.join (" " : Str) (rs.map ruW)
theorem R3.Ok.b {r : R3} (h : r.Ok) : ruB r.t = true := by
  have e1 : inT (.str r.w) wrdT = true := by rcases h.w with e | e | e | e <;> rw [e] <;> decide +kernel
  have e2 : decide ((1 : Int) ≤ r.n) = true := decide_eq_true h.n.1
  simp only [ruB, intB, strB, e1, e2]; rfl
theorem rl_dat (rs : List R3) : datL (RL rs) = true := (datL_iff _).mpr fun x hx => by
  obtain ⟨e, _, rfl⟩ := List.mem_map.mp hx
  rfl
theorem rl_cl (rs : List R3) : closedL (RL rs) = true := datL_closed _ (rl_dat rs)
theorem rl_frz (rs : List R3) : frzL (RL rs) = RL rs := datL_frz (rl_dat rs)
theorem R3.Ok.w2 {r : R3} (h : r.Ok) : r.w.length ≤ 2 ∧ asc r.w = true := by rcases h.w with e | e | e | e <;> rw [e] <;> decide +kernel
theorem str_len (x y : Str) : (x ++ y).length = x.length + y.length := PySem.Str.length_append x y
theorem ruW_len {r : R3} (h : r.Ok) : (ruW r).length ≤ 230 := by
  have h1 := numS_len h.i
  have h2 := numS_len h.n.2
  have h3 := h.w2.1
  have e1 : (":" : Str).length = 1 := by decide +kernel
  have e2 : ("*" : Str).length = 1 := by decide +kernel
  unfold ruW
  simp only [str_len, e1, e2]; omega
theorem ruW_asc {r : R3} (h : r.Ok) : asc (ruW r) = true := asc_app (asc_app (asc_app (asc_app (asc_num _) (by decide +kernel)) h.w2.2) (by decide +kernel)) (asc_num _)
end TL

set_option maxRecDepth 100000
set_option maxHeartbeats 1000000
namespace TL
open PySem PySem.Spec PyProof.Rows L2
theorem at_rules_ok {v : T} {Q : Rs → List T → Prop} (hd : dat v = true) (h : rfault v = none) (q : Q (.ret .non) [v]) : S_require_rules [v] Q := by
  have e := dat_frz hd
  refine ⟨v, rfl, ?_, fun _ => ?_, fun i hi => ?_⟩
  · rw [e]; exact hd
  · rw [e]; exact q
  · rw [e, h] at hi; cases hi
theorem at_rules_bad {v i : T} {Q : Rs → List T → Prop} (hd : dat v = true) (h : rfault v = some i) (q : Q (.exc "InvalidRules" [("index", i)]) [v]) : S_require_rules [v] Q := by
  have e := dat_frz hd
  refine ⟨v, rfl, ?_, fun z => ?_, fun j hj => ?_⟩
  · rw [e]; exact hd
  · rw [e, h] at z; cases z
  · rw [e, h] at hj
    cases hj
    rw [e]; exact q
theorem Ru.Ok.nof {x : Ru} {M : Int} (h : x.Ok M) : rfault x.t = none := by
  have e := h.flg
  have p := (place_false (TL.flg x.l)).1 e
  show (if x.l.length = 7 then (match placeT (.bl false) ((TL.flg x.l).map .bl) with
    | none => none
    | some j => some (T.int (j : Nat))) else some .non) = none
  rw [p]; rfl
/-! ### format_rules -/
def S_format_rules : FS := fun ts Q => ∃ v, ts = [v] ∧ dat v = true ∧ ((∃ i, rfault v = some i ∧ Q (.exc "InvalidRules" [("index", i)]) [v]) ∨ ∃ x : Ru, v = x.t ∧ x.Ok MX ∧ ∀ s, Q (.ret (.str s)) [v])
theorem l_format_rules : ∀ ts Q, S_format_rules ts Q → ts.length = 1 := fun ts Q ⟨_, e, _⟩ => by rw [e]; rfl
abbrev N_format_rules : List Str := ["rules", "numbers", "number"]
def w_format_rules_1 : WS :=
  (wCallX S_require_rules [] (wCons (wV 0) wNil))
def w_format_rules_2 : WS :=
  (wAsg (wLc (wiTup (wSl (wV 0) woN (woS (wC (.int 4))))) (wgN 2) wYes (wCl gStr (wCons (wV 2) wNil)) [2]) (wgN 1))
def w_format_rules_3 : WS :=
  (wRet 0 (wMs gJoin (wC (.str " ")) (wCons (wLst (wStar (wV 1) (wCons (wOp gIx (wV 0) (wC (.int 4))) (wCons (wOp gIx (wC (.tup [.str "no", .str "yes"])) (wCl gInt (wCons (wOp gIx (wV 0) (wC (.int 5))) wNil))) (wCons (wOp gIx (wV 0) (wC (.int 6))) wNil))))) wNil)))
def w_format_rules : WS :=
  (wSeq w_format_rules_1 (wSeq w_format_rules_2 w_format_rules_3))
theorem num4 {x : Ru} {i : Nat} {y : T} (h : ([.int x.a, .int x.b, .int x.c, .int x.d] : List T)[i]? = some y) : ∃ n : Int, y = .int n ∧ ([x.a, x.b, x.c, x.d] : List Int)[i]? = some n := by
  match i, h with
  | 0, h => exact ⟨_, (Option.some.inj h).symm, rfl⟩
  | 1, h => exact ⟨_, (Option.some.inj h).symm, rfl⟩
  | 2, h => exact ⟨_, (Option.some.inj h).symm, rfl⟩
  | 3, h => exact ⟨_, (Option.some.inj h).symm, rfl⟩
theorem num4_abs {x : Ru} (h : x.Ok MX) {n : Int} (hn : n ∈ [x.a, x.b, x.c, x.d]) : n.natAbs < 2 ^ 100 := by
  have ha := h.a; have hb := h.b; have hc := h.c; have hd := h.d
  have eM : MX = 10 ^ 30 - 1 := rfl
  simp only [List.mem_cons, List.not_mem_nil, or_false] at hn
  rcases hn with rfl | rfl | rfl | rfl <;> omega
abbrev nums (x : Ru) : List T := [.str (numS x.a), .str (numS x.b), .str (numS x.c), .str (numS x.d)]
theorem fr2 {x : Ru} {D : EndsD} (h : x.Ok MX) (k : D.nx [some x.t, some (.lst true (nums x)), none]) : w_format_rules_2 D [some x.t, none, none] := by
  refine ⟨rfl, fun i acc Δ => acc = (([x.a, x.b, x.c, x.d].take i).map fun n => T.str (numS n)) ∧ Δ = [some x.t, none, none], ⟨rfl, rfl⟩, ?_, ?_⟩
  · rintro i y acc Δ hy ⟨rfl, rfl⟩
    obtain ⟨n, rfl, hn⟩ := num4 hy
    have hi := (List.getElem?_eq_some_iff.mp hn).1
    refine ⟨num_log (num4_abs h (List.mem_of_getElem? hn)), zz200 (by simp; omega), ?_, rfl⟩
    rw [take_at hn, List.map_append]; rfl
  · rintro acc Δ ⟨rfl, rfl⟩
    exact k
theorem v_format_rules : ∀ ts Qf, S_format_rules ts Qf → w_format_rules (endsX 0 ts Qf) (startD N_format_rules 0 ts) := by
  rintro ts Qf ⟨v, rfl, hd, q⟩
  have hz := fz1 hd
  show w_format_rules (endsX 0 [v] Qf) [some (frz v), none, none]
  rw [dat_frz hd]
  rcases q with ⟨i, hi, q⟩ | ⟨x, rfl, h, q⟩
  · exact sq ⟨rfl, at_rules_bad hd hi (ex_of (Δ := []) hz q)⟩
  · have fin : ∀ s Δ, (endsX 0 [x.t] Qf).rt (.str s) Δ := fun s Δ => rt_of hz (q s)
    clear q
    revert fin
    generalize endsX 0 [x.t] Qf = D
    intro fin
    refine sq ⟨rfl, at_rules_ok hd h.nof ?_⟩
    show wSeq w_format_rules_2 w_format_rules_3 D [some x.t, none, none]
    refine sq (fr2 h ?_)
    show wRet 0 (wMs gJoin (wC (.str " ")) (wCons (wLst (wStar (wV 1) (wCons (wOp gIx (wV 0) (wC (.int 4))) (wCons (wOp gIx (wC (.tup [.str "no", .str "yes"])) (wCl gInt (wCons (wOp gIx (wV 0) (wC (.int 5))) wNil))) (wCons (wOp gIx (wV 0) (wC (.int 6))) wNil))))) wNil)) D [some x.t, some (.lst true (nums x)), none]
    refine ⟨rfl, rfl, ?_⟩
    have hr : x.r.length ≤ 10 := by rcases h.r with e | e | e <;> rw [e] <;> decide
    have hq : x.q.length ≤ 10 := by rcases h.q with e | e | e | e <;> rw [e] <;> decide
    have go : ∀ s : Str, s.length ≤ 10 → gJoin (" " : Str) [.lst true [.str (numS x.a), .str (numS x.b), .str (numS x.c), .str (numS x.d), .str x.r, .str s, .str x.q]] fun t => D.rt t [some x.t, some (.lst false (nums x)), none] := fun s hs => by
      refine join_ok (k := 110) (m := 7) (ys := [numS x.a, numS x.b, numS x.c, numS x.d, x.r, s, x.q]) rfl ?_ (Nat.le_refl 7) (by decide) (fin _ _)
      intro p hp
      have nl := fun n hn => numS_len (num4_abs h (n := n) hn)
      simp only [List.mem_cons, List.not_mem_nil, or_false] at hp
      rcases hp with rfl | rfl | rfl | rfl | rfl | rfl | rfl
      · exact nl _ (by simp)
      · exact nl _ (by simp)
      · exact nl _ (by simp)
      · exact nl _ (by simp)
      · omega
      · omega
      · omega
    cases hp : x.p with
    | false => exact ⟨rfl, rfl, z7, go "no" (by decide)⟩
    | true => exact ⟨rfl, rfl, z7, go "yes" (by decide)⟩
/-! ### format_record -/
def S_format_record : FS := fun ts Q => ∃ v, ts = [v] ∧ dat v = true ∧ ((∃ i, faultL v = [i] ∧ Q (.exc "InvalidRecord" [("index", i)]) [v]) ∨ ∃ es, v = .lst false (EL es) ∧ VR 100 es ∧ ∀ s, Q (.ret (.str s)) [v])
theorem l_format_record : ∀ ts Q, S_format_record ts Q → ts.length = 1 := fun ts Q ⟨_, e, _⟩ => by rw [e]; rfl
abbrev N_format_record : List Str := ["record", "tick", "lever", "is_pressed"]
def w_format_record_1 : WS :=
  (wCallX S_require_record [] (wCons (wV 0) wNil))
def w_format_record_2 : WS :=
  (wRet 0 (wMs gJoin (wC (.str " ")) (wCons (wLc (wiList (wV 0)) (wgTup 3 (wgCons (wgN 1) (wgCons (wgN 2) (wgCons (wgN 3) wgNil)))) wYes (wJoined (wjCons (wFmt (wV 1)) (wjCons (wFmt (wV 2)) (wjCons (wFmt (wIf (wTru (wV 3)) (wC (.str "+")) (wC (.str "-")))) wjNil)))) [1, 2, 3]) wNil)))
def w_format_record : WS :=
  (wSeq w_format_record_1 w_format_record_2)
theorem emp_len : Str.empty.length = 0 := by decide +kernel
theorem v_format_record : ∀ ts Qf, S_format_record ts Qf → w_format_record (endsX 0 ts Qf) (startD N_format_record 0 ts) := by
  rintro ts Qf ⟨v, rfl, hd, q⟩
  have hz := fz1 hd
  show w_format_record (endsX 0 [v] Qf) [some (frz v), none, none, none]
  rw [dat_frz hd]
  rcases q with ⟨i, hi, q⟩ | ⟨es, rfl, h, q⟩
  · exact sq ⟨rfl, at_rec_bad hd hi (ex_of (Δ := []) hz q)⟩
  · have fin : ∀ s Δ, (endsX 0 [.lst false (EL es)] Qf).rt (.str s) Δ := fun s Δ => rt_of hz (q s)
    clear q
    revert fin
    generalize endsX 0 [.lst false (EL es)] Qf = D
    intro fin
    have hlen := h.len
    refine sq ⟨rfl, at_rec_ok hd (fault_of h) ?_⟩
    show w_format_record_2 D [some (.lst false (EL es)), none, none, none]
    refine ⟨fun i acc Δ => (∃ ys : List Str, acc = ys.map .str ∧ (∀ p ∈ ys, p.length ≤ 120) ∧ ys.length = i) ∧ i ≤ 200 ∧ Δ = [some (.lst false (EL es)), none, none, none], ⟨⟨[], rfl, fun _ z => (nomatch z), rfl⟩, Nat.zero_le _, ?_⟩, ?_, ?_⟩
    · show [some (T.lst false (frzL (EL es))), none, none, none] = _
      rw [el_frz]
    · rintro i y acc Δ hy ⟨⟨ys, rfl, hys, hl⟩, hi2, rfl⟩
      have hy' : (frzL (frzL (EL es)))[i]? = some y := hy
      rw [el_frz, el_frz] at hy'
      obtain ⟨e, he, rfl, hm, hi⟩ := el_at hy'
      have ok := h.ok e hm
      have hn := numS_len ok.i
      have h1 : e.l.length ≤ 1 := by rcases ok.l with h | h <;> rw [h] <;> decide
      have tail : ∀ s : Str, s.length ≤ 1 → s.length ≤ sizeLine ∧ (Str.empty ++ numS e.i ++ e.l ++ s).length ≤ sizeLine ∧ (ys.map T.str).length < sizeLine ∧ ((∃ zs : List Str, ys.map T.str ++ [T.str (Str.empty ++ numS e.i ++ e.l ++ s)] = zs.map .str ∧ (∀ p ∈ zs, p.length ≤ 120) ∧ zs.length = i + 1) ∧ i + 1 ≤ 200 ∧ ([some (.lst false (EL es)), none, none, none] : Dt) = [some (.lst false (EL es)), none, none, none]) := fun s hs => by
        have n3 : (Str.empty ++ numS e.i ++ e.l ++ s).length ≤ 120 := by simp only [str_len, emp_len]; omega
        refine ⟨sz5 (by omega), sz5 (by omega), zz200 (by simp; omega), ⟨ys ++ [Str.empty ++ numS e.i ++ e.l ++ s], ?_, ?_, ?_⟩, by omega, rfl⟩
        · rw [List.map_append]; rfl
        · intro p hp
          rcases List.mem_append.mp hp with hp | hp
          · exact hys p hp
          · rw [List.mem_singleton.mp hp]; exact n3
        · simp [hl]
      have n1 : (Str.empty ++ numS e.i).length ≤ sizeLine := sz5 (by simp only [str_len, emp_len]; omega)
      have n2 : (Str.empty ++ numS e.i ++ e.l).length ≤ sizeLine := sz5 (by simp only [str_len, emp_len]; omega)
      exact ⟨rfl, num_log ok.i, n1, sz5 (by omega), n2, ite_of (fun hb => tail "+" (by decide)) fun hb => tail "-" (by decide)⟩
    · rintro acc Δ ⟨⟨ys, rfl, hys, hl⟩, hi2, rfl⟩
      show gJoin (" " : Str) [.lst true (ys.map T.str)] fun t => D.rt t [some (.lst false (EL es)), none, none, none]
      exact join_ok (k := 120) (m := 200) rfl hys (by rw [hl]; exact hi2) (by decide) (fin _ _)
/-! ### format_runs -/
def S_format_runs : FS := fun ts Q => ∃ v, ts = [v] ∧ dat (frz v) = true ∧ (((∀ o xs, frz v ≠ .lst o xs) ∧ Q (.exc "InvalidRuns" [("index", .non)]) [frz v]) ∨ (∃ (rs : List R3) (x : T) (rest : List T), frz v = .lst false (RL rs ++ x :: rest) ∧ (∀ r ∈ rs, r.Ok) ∧ rs.length ≤ 1000 ∧ ruB x = false ∧ Q (.exc "InvalidRuns" [("index", .int (rs.length : Int))]) [frz v]) ∨
  ∃ rs : List R3, frz v = .lst false (RL rs) ∧ (∀ r ∈ rs, r.Ok) ∧ rs.length ≤ 1000 ∧ Q (.ret (.str (txtU rs))) [frz v])
theorem l_format_runs : ∀ ts Q, S_format_runs ts Q → ts.length = 1 := fun ts Q ⟨_, e, _⟩ => by rw [e]; rfl
abbrev N_format_runs : List Str := ["runs", "index", "item", "begin", "word", "times"]
def w_format_runs_1_1 : WS :=
  (wRaise "InvalidRuns" ["index"] (wCons (wC .non) wNil))
def w_format_runs_1 : WS :=
  (wIfS (wNot (wTru (wCl gIsi (wCons (wV 0) (wCons (wC (.ty "list")) wNil))))) w_format_runs_1_1 wNext)
def w_format_runs_2_1_1 : WS :=
  (wRaise "InvalidRuns" ["index"] (wCons (wV 1) wNil))
def w_format_runs_2_1 : WS :=
  (wIfS (wOr (wNot (wTru (wCl gIsi (wCons (wV 2) (wCons (wC (.ty "tuple")) wNil))))) (wOr (wTest (wOp (gEq true) (wCl gLen (wCons (wV 2) wNil)) (wC (.int 3)))) (wOr (wNot (wTru (wCallD S_is_integer [.non] (wCons (wOp gIx (wV 2) (wC (.int 0))) wNil)))) (wNot (wTru (wCall S_is_kinds_item (wCons (wSl (wV 2) (woS (wC (.int 1))) woN) wNil))))))) w_format_runs_2_1_1 wNext)
def w_format_runs_2 : WS :=
  (wFor (wiEnum (wCons (wV 0) wNil)) (wgTup 2 (wgCons (wgN 1) (wgCons (wgN 2) wgNil))) w_format_runs_2_1)
def w_format_runs_3 : WS :=
  (wRet 0 (wMs gJoin (wC (.str " ")) (wCons (wLc (wiList (wV 0)) (wgTup 3 (wgCons (wgN 3) (wgCons (wgN 4) (wgCons (wgN 5) wgNil)))) wYes (wJoined (wjCons (wFmt (wV 3)) (wjCons (wC (.str ":")) (wjCons (wFmt (wV 4)) (wjCons (wC (.str "*")) (wjCons (wFmt (wV 5)) wjNil)))))) [3, 4, 5]) wNil)))
def w_format_runs : WS :=
  (wSeq w_format_runs_1 (wSeq w_format_runs_2 w_format_runs_3))
abbrev B6 (v : T) (x1 x2 x3 x4 x5 : Option T) : Dt := [some v, x1, x2, x3, x4, x5]
/-- one item judged -/
theorem fu21 {D : EndsD} {v x : T} {i : Int} {x3 x4 x5 : Option T} (hd : dat x = true) (good : ruB x = true → D.nx (B6 v (some (.int i)) (some x) x3 x4 x5)) (bad : ruB x = false → ∀ Δ, D.ex "InvalidRuns" [("index", .int i)] Δ) : w_format_runs_2_1 D (B6 v (some (.int i)) (some x) x3 x4 x5) := by
  cases x with
  | tup xs =>
    match xs, hd, good, bad with
    | [a, b, c], hd, good, bad =>
      simp only [dat, datL, Bool.and_true, Bool.and_eq_true] at hd
      obtain ⟨ha, hb, hc⟩ := hd
      have cl : closedL [a, b, c] = true := by simp only [closedL, dat_closed _ ha, dat_closed _ hb, dat_closed _ hc]; rfl
      have rb : ruB (.tup [a, b, c]) = (intB a .non && kiB (.tup [b, c])) := rfl
      have dbc : dat (.tup [b, c]) = true := by simp only [dat, datL, hb, hc]; rfl
      refine ⟨rfl, rfl, dat_closed a ha, rfl, at_isint ha (.inl rfl) (ite_of (fun h1 => ⟨rfl, rfl, bad ?_ _⟩) fun h1 => ⟨cl, rfl, at_ki dbc (ite_of (fun h2 => ⟨rfl, rfl, bad ?_ _⟩) fun h2 => good ?_)⟩)⟩
      · have h1 : (!intB a .non) = true := h1
        rw [rb]
        have : intB a .non = false := by simpa using h1
        rw [this]; rfl
      · have h2 : (!kiB (.tup [b, c])) = true := h2
        rw [rb]
        have : kiB (.tup [b, c]) = false := by simpa using h2
        rw [this, Bool.and_false]
      · have h1 : (!intB a .non) = false := h1
        have h2 : (!kiB (.tup [b, c])) = false := h2
        rw [rb]
        simp only [Bool.not_eq_false'] at h1 h2
        rw [h1, h2]; rfl
    | [], hd, good, bad => exact ⟨rfl, rfl, rfl, rfl, bad rfl _⟩
    | [a], hd, good, bad => exact ⟨rfl, rfl, rfl, rfl, bad rfl _⟩
    | [a, b], hd, good, bad => exact ⟨rfl, rfl, rfl, rfl, bad rfl _⟩
    | a :: b :: c :: d :: r, hd, good, bad => exact ⟨rfl, rfl, rfl, rfl, bad rfl _⟩
  | ins o C fs => simp [dat] at hd
  | fn a => simp [dat] at hd
  | ty n => simp [dat] at hd
  | exc a y od fs => simp [dat] at hd
  | exv y fs => simp [dat] at hd
  | _ => exact ⟨rfl, rfl, rfl, rfl, bad rfl _⟩
theorem fu2 {D : EndsD} {xs : List T} {x3 x4 x5 : Option T} (hd : datL xs = true) (h : (∃ (rs : List R3) (x : T) (rest : List T), xs = RL rs ++ x :: rest ∧ (∀ r ∈ rs, r.Ok) ∧ ruB x = false ∧ ∀ Δ, D.ex "InvalidRuns" [("index", .int (rs.length : Int))] Δ) ∨ ((∀ x ∈ xs, ruB x = true) ∧ ∀ y1 y2, D.nx (B6 (.lst false xs) y1 y2 x3 x4 x5))) :
    w_format_runs_2 D (B6 (.lst false xs) none none x3 x4 x5) := by
  have ex : frzL xs = xs := datL_frz hd
  have hz : ∀ i x, xs[i]? = some x → dat x = true := fun i x e => (datL_iff xs).mp hd x (List.mem_of_getElem? e)
  rcases h with ⟨rs, x, rest, hx, hr, hb, q⟩ | ⟨hall, q⟩
  · refine ⟨fun i Δ => i ≤ rs.length ∧ ∃ y1 y2, Δ = B6 (.lst false xs) y1 y2 x3 x4 x5, ⟨Nat.zero_le _, none, none, ?_⟩, ?_, ?_⟩
    · show B6 (.lst false (frzL xs)) none none x3 x4 x5 = _
      rw [ex]
    · rintro i t Δ ht ⟨hi, y1, y2, rfl⟩
      rw [enumT_get, ex, ex] at ht
      cases hxi : xs[i]? with
      | none => rw [hxi] at ht; cases ht
      | some y =>
        rw [hxi] at ht
        obtain rfl : T.tup [.int ((0 + i : Nat) : Int), y] = t := Option.some.inj ht
        have dx := hz i y hxi
        refine ⟨rfl, ?_⟩
        show w_format_runs_2_1 _ (B6 (.lst false xs) (some (.int ((0 + i : Nat) : Int))) (some y) x3 x4 x5)
        rw [Nat.zero_add]
        refine fu21 dx (fun g => ⟨?_, _, _, rfl⟩) fun g Δ => ?_
        · by_cases he : i = rs.length
          · subst he
            rw [hx, List.getElem?_append_right (by simp)] at hxi
            simp at hxi
            rw [hxi] at hb
            rw [hb] at g; cases g
          · omega
        · have he : i = rs.length := by
            by_cases he : i = rs.length
            · exact he
            · have hi2 : i < rs.length := by omega
              rw [hx, List.getElem?_append_left (by simpa using hi2), List.getElem?_map] at hxi
              cases hri : rs[i]? with
              | none => rw [hri] at hxi; cases hxi
              | some r =>
                rw [hri] at hxi
                obtain rfl := Option.some.inj hxi
                rw [(hr r (List.mem_of_getElem? hri)).b] at g; cases g
          subst he
          exact q Δ
    · rintro Δ ⟨hi, y1, y2, rfl⟩
      rw [enumT_len, ex, ex, hx] at hi
      simp at hi
      omega
  · refine ⟨fun i Δ => ∃ y1 y2, Δ = B6 (.lst false xs) y1 y2 x3 x4 x5, ⟨none, none, ?_⟩, ?_, ?_⟩
    · show B6 (.lst false (frzL xs)) none none x3 x4 x5 = _
      rw [ex]
    · rintro i t Δ ht ⟨y1, y2, rfl⟩
      rw [enumT_get, ex, ex] at ht
      cases hxi : xs[i]? with
      | none => rw [hxi] at ht; cases ht
      | some y =>
        rw [hxi] at ht
        obtain rfl : T.tup [.int ((0 + i : Nat) : Int), y] = t := Option.some.inj ht
        have dx := hz i y hxi
        refine ⟨rfl, ?_⟩
        show w_format_runs_2_1 _ (B6 (.lst false xs) (some (.int ((0 + i : Nat) : Int))) (some y) x3 x4 x5)
        refine fu21 dx (fun g => ⟨_, _, rfl⟩) fun g Δ => ?_
        rw [hall y (List.mem_of_getElem? hxi)] at g; cases g
    · rintro Δ ⟨y1, y2, rfl⟩
      exact q _ _
theorem fu3 {D : EndsD} {rs : List R3} {x1 x2 x3 x4 x5 : Option T} (h : ∀ r ∈ rs, r.Ok) (hl : rs.length ≤ 1000) (q : ∀ Δ, D.rt (.str (txtU rs)) Δ) : w_format_runs_3 D (B6 (.lst false (RL rs)) x1 x2 x3 x4 x5) := by
  refine ⟨fun i acc Δ => acc = ((rs.take i).map ruW).map T.str ∧ Δ = B6 (.lst false (RL rs)) x1 x2 none none none, ⟨rfl, ?_⟩, ?_, ?_⟩
  · show B6 (.lst false (frzL (RL rs))) x1 x2 none none none = _
    rw [rl_frz]
  · rintro i y acc Δ hy ⟨rfl, rfl⟩
    have hy' : (frzL (frzL (RL rs)))[i]? = some y := hy
    rw [rl_frz, rl_frz, List.getElem?_map] at hy'
    cases hr : rs[i]? with
    | none => rw [hr] at hy'; cases hy'
    | some r =>
      rw [hr] at hy'
      obtain rfl := Option.some.inj hy'
      have hi := (List.getElem?_eq_some_iff.mp hr).1
      have ok := h r (List.mem_of_getElem? hr)
      have h1 := numS_len ok.i
      have h2 := numS_len ok.n.2
      have h3 := ok.w2.1
      have e1 : (":" : Str).length = 1 := by decide +kernel
      have e2 : ("*" : Str).length = 1 := by decide +kernel
      have ee : Str.empty ++ numS r.i ++ ":" ++ r.w ++ "*" ++ numS r.n = ruW r := by
        refine ext_tl ?_
        unfold ruW
        simp only [tl_append]
        have : tl Str.empty = [] := by decide +kernel
        rw [this]; rfl
      refine ⟨rfl, num_log ok.i, ?_, ?_, ?_, ?_, ?_, num_log ok.n.2, ?_, ?_, ?_, rfl⟩
      · exact sz5 (show (Str.empty ++ numS r.i).length ≤ 10000 by simp only [str_len, emp_len]; omega)
      · exact sz5 (show (Str.empty ++ numS r.i ++ ":").length ≤ 10000 by simp only [str_len, emp_len]; omega)
      · exact sz5 (show r.w.length ≤ 10000 by omega)
      · exact sz5 (show (Str.empty ++ numS r.i ++ ":" ++ r.w).length ≤ 10000 by simp only [str_len, emp_len]; omega)
      · exact sz5 (show (Str.empty ++ numS r.i ++ ":" ++ r.w ++ "*").length ≤ 10000 by simp only [str_len, emp_len]; omega)
      · exact sz5 (show (Str.empty ++ numS r.i ++ ":" ++ r.w ++ "*" ++ numS r.n).length ≤ 10000 by simp only [str_len, emp_len]; omega)
      · exact zz200 (by simp; omega)
      · show _ ++ [frz (T.str (Str.empty ++ numS r.i ++ ":" ++ r.w ++ "*" ++ numS r.n))] = _
        rw [ee, take_at hr, List.map_append, List.map_append]; rfl
  · rintro acc Δ ⟨rfl, rfl⟩
    have el : (frzL (frzL (RL rs))).length = rs.length := by rw [rl_frz, rl_frz, List.length_map]
    show gJoin (" " : Str) [.lst true (((rs.take (frzL (frzL (RL rs))).length).map ruW).map T.str)] fun t => D.rt t (B6 (.lst false (RL rs)) x1 x2 none none none)
    rw [el, List.take_length]
    exact join_ok (k := 230) (m := 1000) rfl (fun p hp => by
      obtain ⟨r, hr, rfl⟩ := List.mem_map.mp hp
      exact ruW_len (h r hr)) (by simpa using hl) (by decide) (q _)
theorem v_format_runs : ∀ ts Qf, S_format_runs ts Qf → w_format_runs (endsX 0 ts Qf) (startD N_format_runs 0 ts) := by
  rintro ts Qf ⟨v, rfl, hd, q⟩
  show w_format_runs (endsX 0 [v] Qf) [some (frz v), none, none, none, none, none]
  have X : ∀ {x fs Δ}, Qf (.exc x fs) [frz v] → (endsX 0 [v] Qf).ex x fs Δ := fun z => z
  have Y : ∀ {t Δ}, Qf (.ret t) [frz v] → (endsX 0 [v] Qf).rt t Δ := fun z => z
  revert X Y
  generalize endsX 0 [v] Qf = D
  generalize frz v = u at q hd ⊢
  intro X Y
  rcases q with ⟨hn, q⟩ | ⟨rs, x, rest, rfl, hr, hl, hb, q⟩ | ⟨rs, rfl, hr, hl, q⟩
  · cases u with
    | lst o xs => exact absurd rfl (hn o xs)
    | ins o C fs => simp [dat] at hd
    | fn a => simp [dat] at hd
    | ty n => simp [dat] at hd
    | exc a y od fs => simp [dat] at hd
    | exv y fs => simp [dat] at hd
    | _ => exact sq ⟨rfl, rfl, rfl, rfl, X (Δ := _) q⟩
  · have hdl : datL (RL rs ++ x :: rest) = true := by simpa [dat] using hd
    refine sq ⟨rfl, rfl, ?_⟩
    show wSeq w_format_runs_2 w_format_runs_3 D (B6 (.lst false (RL rs ++ x :: rest)) none none none none none)
    refine sq (fu2 hdl (.inl ⟨rs, x, rest, rfl, hr, hb, fun Δ => X q⟩))
  · refine sq ⟨rfl, rfl, ?_⟩
    show wSeq w_format_runs_2 w_format_runs_3 D (B6 (.lst false (RL rs)) none none none none none)
    refine sq (fu2 (rl_dat rs) (.inr ⟨fun x hx => ?_, fun y1 y2 => fu3 hr hl fun Δ => Y q⟩))
    obtain ⟨r, hm, rfl⟩ := List.mem_map.mp hx
    exact (hr r hm).b
end TL

set_option maxRecDepth 100000
set_option maxHeartbeats 1000000
namespace TL
open PySem PySem.Spec PyProof.Rows L2
def Shown (t : T) : Prop := (okT t = true ∧ dpT t ≤ 60 ∧ wtT t ≤ sizeLine) ∨ okR t = true
inductive ResT : Int → T → Str → Prop
  | r0n {v : T} (h : ∀ o xs, v ≠ .lst o xs) : ResT 0 v (runT .non)
  | r0 {rs : List R3} {x : T} {rest : List T} (hr : ∀ r ∈ rs, r.Ok) (hl : rs.length ≤ 1000) (hb : ruB x = false) : ResT 0 (.lst false (RL rs ++ x :: rest)) (runT (.int (rs.length : Int)))
  | u1 {v i : T} (h : rfault v = some i) : ResT 1 v (rulT i)
  | f1 {x : Ru} (h : x.Ok MX) : ResT 1 x.t "fine"
  | c2 {v i : T} (h : faultL v = [i]) : ResT 2 v (recT i)
  | f2 {es : List E3} (h : VR 100 es) : ResT 2 (.lst false (EL es)) "fine"
def S__law_told : FS := fun ts Q => ∃ (d : Int) (v : T) (u : Str), ts = [.int d, v] ∧ dat (frz v) = true ∧ Shown (frz v) ∧ ResT d (frz v) u ∧ Q (.ret (.str u)) [.int d, frz v]
theorem l__law_told : ∀ ts Q, S__law_told ts Q → ts.length = 2 := fun ts Q ⟨_, _, _, e, _⟩ => by rw [e]; rfl
theorem place_lt {y : T} : ∀ {xs : List T} {j : Nat}, placeT y xs = some j → j < xs.length
  | [], j, h => by simp [placeT] at h
  | x :: xs, j, h => by
    unfold placeT at h
    split at h
    · cases h; simp
    · cases e : placeT y xs with
      | none => rw [e] at h; cases h
      | some k =>
        rw [e] at h
        have := place_lt e
        have : k + 1 = j := by simpa using h
        simp; omega
theorem rfault_show {v i : T} (h : rfault v = some i) : ShowI i := by
  unfold rfault at h
  split at h
  · split at h
    · rename_i hl
      split at h
      · cases h
      · rename_i j hj
        cases h
        have := place_lt hj
        rename_i xs
        obtain ⟨a, b, c, d, e, f, g, rfl⟩ := seven hl
        have : j < 7 := this
        exact showI_int (by omega)
    · cases h; exact showI_non
  · cases h; exact showI_non
abbrev N__law_told : List Str := ["door", "value", "kept", "told", "e"]
def w__law_told_1 : WS :=
  (wPar 2 3 (wCons (wCl gReprM (wCons (wV 1) wNil)) (wCons (wC (.str "fine")) wNil)))
def w__law_told_2_t1_1 : WS :=
  (wCallX S_format_runs [] (wCons (wV 1) wNil))
def w__law_told_2_t1_e1_1 : WS :=
  (wCallX S_format_rules [] (wCons (wV 1) wNil))
def w__law_told_2_t1_e1_e1 : WS :=
  (wCallX S_format_record [] (wCons (wV 1) wNil))
def w__law_told_2_t1_e1 : WS :=
  (wIfS (wTest (wOp (gEq false) (wV 0) (wC (.int 1)))) w__law_told_2_t1_e1_1 w__law_told_2_t1_e1_e1)
def w__law_told_2_t1 : WS :=
  (wIfS (wTest (wOp (gEq false) (wV 0) (wC (.int 0)))) w__law_told_2_t1_1 w__law_told_2_t1_e1)
def w__law_told_2 : WS :=
  (wTry ["InvalidRecord", "InvalidRules", "InvalidRuns"] 4 w__law_told_2_t1 fun ea ey eo => (wAsg (wCall (S__law_class ea ey eo) (wCons (wV 4) wNil)) (wgN 3)))
def w__law_told_3 : WS :=
  (wRet 0 (wIf (wTest (wOp (gEq false) (wCl gReprM (wCons (wV 1) wNil)) (wV 2))) (wV 3) (wC (.str "changed"))))
def w__law_told : WS :=
  (wSeq w__law_told_1 (wSeq w__law_told_2 w__law_told_3))
abbrev G5 (d : Int) (v : T) (x2 x3 x4 : Option T) : Dt := [some (.int d), some v, x2, x3, x4]
abbrev ok3 : List Str := ["InvalidRecord", "InvalidRules", "InvalidRuns"]
theorem i3a : ("InvalidRecord" : Str) ∈ ok3 := by decide +kernel
theorem i3b : ("InvalidRules" : Str) ∈ ok3 := by decide +kernel
theorem i3c : ("InvalidRuns" : Str) ∈ ok3 := by decide +kernel
section
variable {D : EndsD} {d : Int} {v i : T} {x2 x3 : Option T} {ad : Addr} {od : Option Addr} {u : Str} {ey : Str}
theorem su {eu : Str} (h : Idx ey i eu) (hi : ShowI i) (q : D.nx (G5 d v x2 (some (.str eu)) none)) : (wAsg (wCall (S__law_class ad ey od) (wCons (wV 4) wNil)) (wgN 3)) (goneD 4 D) (G5 d v x2 x3 (some (.exc ad ey od [(("index" : Str), i)]))) :=
  ⟨rfl, i, eu, rfl, h, hi, q⟩
theorem lt2 (hd : dat v = true) (h : ResT d v u) (q : D.nx (G5 d v x2 (some (.str u)) none)) : w__law_told_2 D (G5 d v x2 (some (.str "fine")) none) := by
  have fv := dat_frz hd
  cases h with
  | r0n h => exact ⟨rfl, v, rfl, by rw [fv]; exact hd, .inl ⟨by rw [fv]; exact h, by
      rw [fv]
      exact ⟨i3c, fun ad od => su (.inr (.inr ⟨rfl, rfl⟩)) showI_non q⟩⟩⟩
  | @r0 rs x rest hr hl hb => exact ⟨rfl, _, rfl, by rw [fv]; exact hd, .inr (.inl ⟨rs, x, rest, fv, hr, hl, hb, by
      rw [fv]
      exact ⟨i3c, fun ad od => su (.inr (.inr ⟨rfl, rfl⟩)) (showI_int (by omega)) q⟩⟩)⟩
  | @u1 _ i h => exact ⟨rfl, v, rfl, hd, .inl ⟨i, h, i3b, fun ad od => su (.inr (.inl ⟨rfl, rfl⟩)) (rfault_show h) q⟩⟩
  | @f1 x h => exact ⟨rfl, x.t, rfl, hd, .inr ⟨x, rfl, h, fun s => q⟩⟩
  | @c2 _ i h => exact ⟨rfl, v, rfl, hd, .inl ⟨i, h, i3a, fun ad od => su (.inl ⟨rfl, rfl⟩) (fault_show h) q⟩⟩
  | @f2 es h => exact ⟨rfl, _, rfl, hd, .inr ⟨es, rfl, h, fun s => q⟩⟩
end
theorem v__law_told : ∀ ts Qf, S__law_told ts Qf → w__law_told (endsD 0 ts Qf) (startD N__law_told 0 ts) := by
  rintro ts Qf ⟨d, v, u, rfl, hd, hs, hR, q⟩
  show w__law_told (endsD 0 [.int d, v] Qf) [some (.int d), some (frz v), none, none, none]
  have fin : ∀ Δ, (endsD 0 [.int d, v] Qf).rt (.str u) Δ := fun Δ => q
  revert fin
  generalize endsD 0 [.int d, v] Qf = D
  generalize frz v = w at hd hs hR ⊢
  intro fin
  have fw := dat_frz hd
  rcases hs with hs | hs
  · refine sq (.inl ⟨hs, ?_⟩)
    show wSeq w__law_told_2 w__law_told_3 D (G5 d w (some (.str (shI w))) (some (.str "fine")) none)
    refine sq (lt2 hd hR ?_)
    refine .inl ⟨hs, ?_⟩
    refine ite_yes (c := decide (shI w = shI w)) (decide_eq_true rfl) ?_
    exact fin _
  · refine sq (.inr ⟨hs, ?_⟩)
    show wSeq w__law_told_2 w__law_told_3 D (G5 d w (some (.str (shR w))) (some (.str "fine")) none)
    refine sq (lt2 hd hR ?_)
    refine .inr ⟨hs, ?_⟩
    refine ite_yes (c := decide (shR w = shR w)) (decide_eq_true rfl) ?_
    exact fin _
theorem at_told {d : Int} {v : T} {u : Str} {Q : Rs → List T → Prop} (hd : dat v = true) (hs : Shown v) (hR : ResT d v u) (q : Q (.ret (.str u)) [.int d, v]) : S__law_told [.int d, v] Q := by
  have e := dat_frz hd
  exact ⟨d, v, u, rfl, by rw [e]; exact hd, by rw [e]; exact hs, by rw [e]; exact hR, by rw [e]; exact q⟩
theorem at_told2 {d : Int} {v v' : T} {u : Str} {Q : Rs → List T → Prop} (e : frz v' = v) (hd : dat v = true) (hs : Shown v) (hR : ResT d v u) (q : Q (.ret (.str u)) [.int d, v]) : S__law_told [.int d, v'] Q :=
  ⟨d, v', u, rfl, by rw [e]; exact hd, by rw [e]; exact hs, by rw [e]; exact hR, by rw [e]; exact q⟩
end TL

set_option maxRecDepth 100000
set_option maxHeartbeats 1000000
namespace TL
open PySem PySem.Spec PyProof.Rows L2
def S__law_some_runs : FS := fun ts Q => ∃ (t : T) (m n : Nat), ts = [t, .int (m : Int)] ∧ Fo n t ∧ n < 2 ^ 90 ∧ m ≤ 400 ∧ ∀ t' rs, (∀ r ∈ rs, R3.Ok r) → rs.length = m → Fo (n + 2400) t' → Q (.ret (.lst true (RL rs))) [t', .int (m : Int)]
theorem l__law_some_runs : ∀ ts Q, S__law_some_runs ts Q → ts.length = 2 := fun ts Q ⟨_, _, _, e, _⟩ => by rw [e]; rfl
abbrev N__law_some_runs : List Str := ["fount", "many", "found", "turn", "begin", "times_here"]
def w__law_some_runs_1 : WS :=
  (wAsg (wLst wNil) (wgN 2))
def w__law_some_runs_2_1 : WS :=
  (wAsg (wOp gIx (wLst (wCons (wOp TL.gSub (wCall S__law_dip (wCons (wV 0) (wCons (wC (.int 99)) wNil))) (wC (.int 50))) (wCons (wCall S__law_dip (wCons (wV 0) (wCons (wOp gPow (wC (.int 10)) (wC (.int 29))) wNil))) (wCons (wOp TL.gSub (wC (.int 1)) (wOp gPow (wC (.int 10)) (wC (.int 30)))) wNil)))) (wCall S__law_dip (wCons (wV 0) (wCons (wC (.int 3)) wNil)))) (wgN 4))
def w__law_some_runs_2_2 : WS :=
  (wAsg (wOp gAdd (wC (.int 1)) (wCall S__law_dip (wCons (wV 0) (wCons (wOp gIx (wLst (wCons (wC (.int 1)) (wCons (wC (.int 9)) (wCons (wOp gPow (wC (.int 10)) (wC (.int 29))) wNil)))) (wCall S__law_dip (wCons (wV 0) (wCons (wC (.int 3)) wNil)))) wNil)))) (wgN 5))
def w__law_some_runs_2_3 : WS :=
  (wDrop (wApp 2 (wTup (wCons (wV 4) (wCons (wOp gIx (wLst (wCons (wC (.str "s")) (wCons (wC (.str "l")) (wCons (wC (.str "sl")) (wCons (wC (.str "ls")) wNil))))) (wCall S__law_dip (wCons (wV 0) (wCons (wC (.int 4)) wNil)))) (wCons (wV 5) wNil))))))
def w__law_some_runs_2 : WS :=
  (wFor (wiRng1 (wCons (wV 1) wNil)) (wgN 3) (wSeq w__law_some_runs_2_1 (wSeq w__law_some_runs_2_2 w__law_some_runs_2_3)))
def w__law_some_runs_3 : WS :=
  (wRet 1 (wV 2))
def w__law_some_runs : WS :=
  (wSeq w__law_some_runs_1 (wSeq w__law_some_runs_2 w__law_some_runs_3))
abbrev K6 (t : T) (m : Nat) (x2 x3 x4 x5 : Option T) : Dt := [some t, some (.int (m : Int)), x2, x3, x4, x5]
section
variable {D : EndsD} {t : T} {m n : Nat} {x2 x3 x4 x5 : Option T} {a b : Int}
theorem sr1 (hF : Fo n t) (hn : n < 2 ^ 95) (q : ∀ t' a, Fo (n + 3) t' → Int.natAbs a < 2 ^ 100 → D.nx (K6 t' m x2 x3 (some (.int a)) x5)) : w__law_some_runs_2_1 D (K6 t m x2 x3 x4 x5) := by
  refine ⟨rfl, at_dip hF (by omega) (by decide) (by decide) fun r1 t1 a1 b1 hF1 => ⟨by decide, by decide, rfl, at_dip hF1 (by omega) (by decide) (by decide) fun r2 t2 a2 b2 hF2 => ⟨by decide, by decide, z3, rfl, at_dip hF2 (by omega) (by decide) (by decide) fun r3 t3 a3 b3 hF3 => ?_⟩⟩⟩
  dsimp only [onV, onVs, look, List.getElem?_cons_zero, List.getElem?_cons_succ, List.set_cons_zero, List.set_cons_succ, wOp, wV, wC, wUn, wCl, wCons, wNil, wTest, backs]
  refine ix_ints (l := [r1 - 50, r2, 1 - 10 ^ 30]) (P := fun z => z.natAbs < 2 ^ 100) a3 b3 ?_ fun z hz => q t3 z hF3 hz
  intro z hz
  simp only [List.mem_cons, List.not_mem_nil, or_false] at hz
  have hb2 : r2 < 10 ^ 29 := b2
  rcases hz with rfl | rfl | rfl <;> omega
theorem sr2 (hF : Fo n t) (hn : n < 2 ^ 95) (q : ∀ t' b, Fo (n + 2) t' → (1 ≤ b ∧ Int.natAbs b < 2 ^ 100) → D.nx (K6 t' m x2 x3 x4 (some (.int b)))) : w__law_some_runs_2_2 D (K6 t m x2 x3 x4 x5) := by
  refine ⟨by decide, by decide, z3, rfl, at_dip hF (by omega) (by decide) (by decide) fun r1 t1 a1 b1 hF1 => ?_⟩
  dsimp only [onV, onVs, look, List.getElem?_cons_zero, List.getElem?_cons_succ, List.set_cons_zero, List.set_cons_succ, wOp, wV, wC, wUn, wCl, wCons, wNil, wTest, backs]
  refine ix_ints (l := [1, 9, 10 ^ 29]) (P := fun z => 1 ≤ z ∧ z ≤ 10 ^ 29) a1 b1 (by decide) fun z hz => ⟨rfl, at_dip hF1 (by omega) (by omega) (by omega) fun r2 t2 a2 b2 hF2 => ?_⟩
  exact q t2 (1 + r2) hF2 (by omega)
theorem sr3 {rs : List R3} (hF : Fo n t) (hn : n < 2 ^ 95) (ha : a.natAbs < 2 ^ 100) (hb : 1 ≤ b ∧ b.natAbs < 2 ^ 100) (hl : rs.length ≤ 400) (q : ∀ t' (w : Str), Fo (n + 1) t' → (w = "s" ∨ w = "l" ∨ w = "sl" ∨ w = "ls") → D.nx (K6 t' m (some (.lst true (RL (rs ++ [⟨a, w, b⟩])))) x3 (some (.int a)) (some (.int b)))) :
    w__law_some_runs_2_3 D (K6 t m (some (.lst true (RL rs))) x3 (some (.int a)) (some (.int b))) := by
  refine ⟨z4, rfl, at_dip hF (by omega) (by decide) (by decide) fun r1 t1 a1 b1 hF1 => ?_⟩
  dsimp only [wTup, wTakes, wTake, wCons, wNil, onV, onVs, look, List.getElem?_cons_zero, List.getElem?_cons_succ, List.set_cons_zero, List.set_cons_succ, wOp, wV, wC, wUn, wCl, wCons, wNil, wTest, backs]
  refine ix_strs (l := ["s", "l", "sl", "ls"]) (P := fun z => z = "s" ∨ z = "l" ∨ z = "sl" ∨ z = "ls") a1 b1 (by simp) fun w hw => ⟨z3, rl_cl rs, zz200 (by simp; omega), ?_⟩
  have q := q t1 w hF1 hw
  rw [show RL (rs ++ [⟨a, w, b⟩]) = RL rs ++ [R3.t ⟨a, w, b⟩] from List.map_append] at q
  exact q
end
theorem v__law_some_runs : ∀ ts Qf, S__law_some_runs ts Qf → w__law_some_runs (endsD 1 ts Qf) (startD N__law_some_runs 1 ts) := by
  rintro ts Qf ⟨t, m, n, rfl, hF, hn, hm, q⟩
  show w__law_some_runs (endsD 1 [t, .int (m : Int)] Qf) (K6 t m none none none none)
  have fin : ∀ t' rs x3 x4 x5, (∀ r ∈ rs, R3.Ok r) → rs.length = m → Fo (n + 2400) t' → (endsD 1 [t, .int (m : Int)] Qf).rt (.lst true (RL rs)) (K6 t' m none x3 x4 x5) := fun t' rs _ _ _ h1 h2 h3 => q t' rs h1 h2 h3
  revert fin
  generalize endsD 1 [t, .int (m : Int)] Qf = D
  intro fin
  refine sq ⟨Nat.zero_le _, ?_⟩
  show wSeq w__law_some_runs_2 w__law_some_runs_3 D (K6 t m (some (.lst true (RL []))) none none none)
  refine sq ⟨by omega, by omega, fun i Δ => ∃ t' rs x3 x4 x5, Δ = K6 t' m (some (.lst true (RL rs))) x3 x4 x5 ∧ Fo (n + 6 * i) t' ∧ (∀ r ∈ rs, R3.Ok r) ∧ rs.length = i ∧ i ≤ 400, ⟨t, [], _, _, _, rfl, hF, fun _ z => (nomatch z), rfl, Nat.zero_le _⟩, ?_, ?_⟩
  · rintro i y Δ hy ⟨t', rs, x3, x4, x5, rfl, hF', hrs, hl, hi⟩
    obtain ⟨hi2, rfl⟩ := rng_at hy
    have hi2 : i < m := by simpa using hi2
    refine sq (sr1 hF' (by omega) fun t1 a hF1 ha => ?_)
    dsimp only
    refine sq (sr2 hF1 (by omega) fun t2 b hF2 hb => ?_)
    dsimp only
    refine sr3 hF2 (by omega) ha hb (by omega) fun t3 w hF3 hw => ⟨t3, _, _, _, _, rfl, hF3, fun r hr => ?_, by simp [hl], by omega⟩
    rcases List.mem_append.mp hr with hr | hr
    · exact hrs r hr
    · rw [List.mem_singleton.mp hr]; exact ⟨ha, hw, hb⟩
  · rintro Δ ⟨t', rs, x3, x4, x5, rfl, hF', hrs, hl, hi⟩
    have e : (rngT 0 ((m : Int)).toNat).length = m := by rw [rng_len]; simp
    rw [e] at hF' hl hi
    exact fin t' rs _ _ _ hrs hl (hF'.mono (by omega))
/-! ### the text of runs, put together -/
theorem joinL_mem (S : List Nat) : ∀ (ps : List (List Nat)) (c : Nat), c ∈ joinL S ps → c ∈ S ∨ ∃ p ∈ ps, c ∈ p
  | [], c, h => by simp [joinL] at h
  | [p], c, h => .inr ⟨p, by simp, by simpa [joinL] using h⟩
  | p :: q :: r, c, h => by
    have h : c ∈ p ++ (S ++ joinL S (q :: r)) := h
    rcases List.mem_append.mp h with h | h
    · exact .inr ⟨p, by simp, h⟩
    · rcases List.mem_append.mp h with h | h
      · exact .inl h
      · rcases joinL_mem S (q :: r) c h with h | ⟨z, hz, h⟩
        · exact .inl h
        · exact .inr ⟨z, List.mem_cons_of_mem _ hz, h⟩
theorem txtU_asc {rs : List R3} (h : ∀ r ∈ rs, R3.Ok r) : asc (txtU rs) = true := by
  rw [asc_tl]
  intro c hc
  unfold txtU at hc
  rw [join_eq, tl_join] at hc
  rcases joinL_mem _ _ c hc with hc | ⟨p, hp, hc⟩
  · have e : tl (" " : Str) = [32] := by decide +kernel
    rw [e] at hc
    rw [List.mem_singleton.mp hc]; decide
  · obtain ⟨y, hy, rfl⟩ := List.mem_map.mp hp
    obtain ⟨r, hr, rfl⟩ := List.mem_map.mp hy
    exact asc_tl.mp (ruW_asc (h r hr)) c hc
theorem r3_it {r : R3} (h : r.Ok) : It 1 400 r.t := by
  have h1 := h.i
  have h2 := h.n.2
  have w : It 0 110 (.str r.w) := by rcases h.w with e | e | e | e <;> rw [e] <;> exact lit (by decide +kernel)
  exact (it_tup (k := 3) (d := 0) (w := 110) (.cons (it_int (by omega)) (.cons w (.cons (it_int (by omega)) .nil)))).mono (by decide) (by decide)
theorem rl_its {rs : List R3} (h : ∀ r ∈ rs, R3.Ok r) : Its' rs.length 1 400 (RL rs) := ⟨by simp, fun x hx => by
  obtain ⟨r, hr, rfl⟩ := List.mem_map.mp hx
  exact r3_it (h r hr)⟩
theorem rl_ok {rs : List R3} (h : ∀ r ∈ rs, R3.Ok r) (hl : rs.length ≤ 400) (o : Bool) : okT (.lst o (RL rs)) = true ∧ dpT (.lst o (RL rs)) ≤ 60 ∧ wtT (.lst o (RL rs)) ≤ sizeLine := by
  have := (it_lst ((rl_its h).mono (Nat.le_refl _) (Nat.le_refl _) hl)).ok (by decide) (by decide)
  exact this
theorem shI_lst {o o' : Bool} {xs : List T} : shI (.lst o xs) = shI (.lst o' xs) := by
  rw [shI_eq, shI_eq]; rfl
theorem eq_rep {u : Str} {k : Nat} {o o' neg : Bool} {Q : T → Prop} (hu : asc u = true) (q : Q (.bl (!neg))) : gEq neg (.lst o (List.replicate k (.str u))) (.lst o' (List.replicate k (.str u))) Q := by
  have ho : ∀ o, okT (.lst o (List.replicate k (.str u))) = true := fun o => by
    simp only [okT]
    rw [okL_iff]
    intro t ht
    rw [List.eq_of_mem_replicate ht]
    exact hu
  have hd : dpT (.lst o (List.replicate k (.str u))) ≤ 60 := by
    have : ∀ k, dpL (List.replicate k (.str u)) = 0 := fun k => by
      induction k with
      | zero => rfl
      | succ k ih => simp only [List.replicate_succ, dpL, ih]; rfl
    simp only [dpT, this]; decide
  refine ⟨⟨ho o, ho o'⟩, Nat.le_trans (Nat.min_le_left _ _) hd, ?_⟩
  have e : eqT (.lst o (List.replicate k (.str u))) (.lst o' (List.replicate k (.str u))) = true := eqT_refl (t := .lst o (List.replicate k (.str u))) (ho o)
  rw [e]
  cases neg <;> exact q
theorem eq_repF {u : Str} {k : Nat} {o o' neg : Bool} {Q : T → Prop} (hu : asc u = true) (q : Q (.bl (!neg))) : gEq neg (.lst o (List.replicate k (.str u))) (.lst o' (List.replicate k [T.str u]).flatten) Q := by
  rw [rep1]; exact eq_rep hu q
theorem rep_add {k : Nat} {x : T} : List.replicate k x ++ [x] = List.replicate (k + 1) x := by
  rw [List.replicate_succ']
def S__law_right : FS := fun ts Q => ∃ (t : T) (o : Bool) (rs : List R3), ts = [t, .lst o (RL rs)] ∧ (∀ r ∈ rs, R3.Ok r) ∧ rs.length ≤ 400 ∧ Q (.ret (.bl true)) [t, .lst false (RL rs)]
theorem l__law_right : ∀ ts Q, S__law_right ts Q → ts.length = 2 := fun ts Q ⟨_, _, _, e, _⟩ => by rw [e]; rfl
abbrev N__law_right : List Str := ["fount", "runs", "words", "begin", "word", "times_here", "kept", "told"]
def w__law_right_1 : WS :=
  (wAsg (wLc (wiList (wV 1)) (wgTup 3 (wgCons (wgN 3) (wgCons (wgN 4) (wgCons (wgN 5) wgNil)))) wYes (wOp gAdd (wOp gAdd (wOp gAdd (wOp gAdd (wCl gStr (wCons (wV 3) wNil)) (wC (.str ":"))) (wV 4)) (wC (.str "*"))) (wCl gStr (wCons (wV 5) wNil))) [3, 4, 5]) (wgN 2))
def w__law_right_2 : WS :=
  (wPar 6 7 (wCons (wCl gReprM (wCons (wV 1) wNil)) (wCons (wLst (wCons (wCall (noX S_format_runs) (wCons (wV 1) wNil)) (wCons (wCall (noX S_format_runs) (wCons (wCl gListOf (wCons (wV 1) wNil)) wNil)) wNil))) wNil)))
def w__law_right_3 : WS :=
  (wRet 1 (wAndV (wOp (gEq false) (wV 7) (wOp gMulA (wLst (wCons (wMs gJoin (wC (.str " ")) (wCons (wV 2) wNil)) wNil)) (wC (.int 2)))) (wOp (gEq false) (wCl gReprM (wCons (wV 1) wNil)) (wV 6))))
def w__law_right : WS :=
  (wSeq w__law_right_1 (wSeq w__law_right_2 w__law_right_3))
abbrev P8 (t : T) (rs : List R3) (x2 x3 x4 x5 x6 x7 : Option T) : Dt := [some t, some (.lst false (RL rs)), x2, x3, x4, x5, x6, x7]
abbrev P8' (t u : T) (x2 x6 x7 : Option T) : Dt := [some t, some u, x2, none, none, none, x6, x7]
theorem at_fruns {o : Bool} {rs : List R3} {Q : Rs → List T → Prop} (h : ∀ r ∈ rs, R3.Ok r) (hl : rs.length ≤ 400) (q : Q (.ret (.str (txtU rs))) [.lst false (RL rs)]) : S_format_runs [.lst o (RL rs)] Q := by
  have e : frz (.lst o (RL rs)) = .lst false (RL rs) := eq_lst (rl_dat rs) o
  refine ⟨_, rfl, ?_, .inr (.inr ⟨rs, e, h, by omega, ?_⟩)⟩
  · rw [e]; simp only [dat, rl_dat]; rfl
  · rw [e]; exact q
section
variable {D : EndsD} {t : T} {rs : List R3} {x2 x3 x4 x5 x6 x7 : Option T}
theorem ri1 (h : ∀ r ∈ rs, R3.Ok r) (hl : rs.length ≤ 400) (q : D.nx (P8 t rs (some (.lst true ((rs.map ruW).map T.str))) none none none x6 x7)) : w__law_right_1 D (P8 t rs x2 none none none x6 x7) := by
  refine ⟨fun i acc Δ => acc = ((rs.take i).map ruW).map T.str ∧ Δ = P8 t rs x2 none none none x6 x7, ⟨rfl, ?_⟩, ?_, ?_⟩
  · show P8' t (frz (.lst false (RL rs))) x2 x6 x7 = _
    rw [eq_lst (rl_dat rs)]
  · rintro i y acc Δ hy ⟨rfl, rfl⟩
    have hy' : (frzL (frzL (RL rs)))[i]? = some y := hy
    rw [rl_frz, rl_frz, List.getElem?_map] at hy'
    cases hr : rs[i]? with
    | none => rw [hr] at hy'; cases hy'
    | some r =>
      rw [hr] at hy'
      obtain rfl := Option.some.inj hy'
      have hi := (List.getElem?_eq_some_iff.mp hr).1
      have ok := h r (List.mem_of_getElem? hr)
      have h1 := numS_len ok.i
      have h2 := numS_len ok.n.2
      have h3 := ok.w2.1
      have e1 : (":" : Str).length = 1 := by decide +kernel
      have e2 : ("*" : Str).length = 1 := by decide +kernel
      refine ⟨rfl, num_log ok.i, ?_, ?_, ?_, num_log ok.n.2, ?_, ?_, ?_, rfl⟩
      · exact sz5 (show (numS r.i).length + (":" : Str).length ≤ 10000 by omega)
      · exact sz5 (show (numS r.i ++ ":").length + r.w.length ≤ 10000 by simp only [str_len]; omega)
      · exact sz5 (show (numS r.i ++ ":" ++ r.w).length + ("*" : Str).length ≤ 10000 by simp only [str_len]; omega)
      · exact sz5 (show (numS r.i ++ ":" ++ r.w ++ "*").length + (numS r.n).length ≤ 10000 by simp only [str_len]; omega)
      · exact zz200 (by simp; omega)
      · rw [take_at hr, List.map_append, List.map_append]; rfl
  · rintro acc Δ ⟨rfl, rfl⟩
    have el : (frzL (frzL (RL rs))).length = rs.length := by rw [rl_frz, rl_frz, List.length_map]
    show D.nx (P8 t rs (some (.lst true (((rs.take (frzL (frzL (RL rs))).length).map ruW).map T.str))) none none none x6 x7)
    rw [el, List.take_length]
    exact q
theorem ri2 (h : ∀ r ∈ rs, R3.Ok r) (hl : rs.length ≤ 400) (q : D.nx (P8 t rs x2 x3 x4 x5 (some (.str (shI (.lst false (RL rs))))) (some (.lst true [.str (txtU rs), .str (txtU rs)])))) : w__law_right_2 D (P8 t rs x2 x3 x4 x5 x6 x7) :=
  .inl ⟨rl_ok h hl false, rfl, at_fruns h hl ⟨rl_cl rs, rfl, at_fruns h hl ⟨z2, q⟩⟩⟩
theorem ri3 (h : ∀ r ∈ rs, R3.Ok r) (hl : rs.length ≤ 400) (q : ∀ x2, D.rt (.bl true) (P8 t rs x2 x3 x4 x5 (some (.str (shI (.lst false (RL rs))))) (some (.lst true [.str (txtU rs), .str (txtU rs)])))) :
    w__law_right_3 D (P8 t rs (some (.lst true ((rs.map ruW).map T.str))) x3 x4 x5 (some (.str (shI (.lst false (RL rs))))) (some (.lst true [.str (txtU rs), .str (txtU rs)]))) := by
  dsimp only [w__law_right_3, wRet, wAndV, wMs, wCons, wLst, wTakes, wTake, wNil, onV, onVs, look, List.getElem?_cons_zero, List.getElem?_cons_succ, List.set_cons_zero, List.set_cons_succ, wOp, wV, wC, wUn, wCl, wCons, wNil, wTest, backs]
  refine join_ok (k := 230) (m := 400) rfl (fun p hp => by
      obtain ⟨r, hr, rfl⟩ := List.mem_map.mp hp
      exact ruW_len (h r hr)) (by simpa using hl) (by decide) ⟨z1, rfl, by decide, by decide, show 2 ≤ sizeLine by decide, ?_⟩
  have ha := txtU_asc h
  have e2 : [T.str (txtU rs), .str (txtU rs)] = List.replicate 2 (.str (txtU rs)) := rfl
  rw [e2]
  refine eq_repF (u := txtU rs) (k := 2) ha ?_
  refine .inl ⟨rl_ok h hl false, ?_⟩
  show D.rt (.bl (nb false (decide (shI (.lst false (RL rs)) = shI (.lst false (RL rs)))))) _
  rw [decide_eq_true rfl]
  exact q _
end
theorem v__law_right : ∀ ts Qf, S__law_right ts Qf → w__law_right (endsD 1 ts Qf) (startD N__law_right 1 ts) := by
  rintro ts Qf ⟨t, o, rs, rfl, h, hl, q⟩
  show w__law_right (endsD 1 [t, .lst o (RL rs)] Qf) [some t, some (.lst false (frzL (RL rs))), none, none, none, none, none, none]
  have fin : ∀ x2 x3 x4 x5 x6 x7, (endsD 1 [t, .lst o (RL rs)] Qf).rt (.bl true) (P8 t rs x2 x3 x4 x5 x6 x7) := fun _ _ _ _ _ _ => by
    show Qf _ [t, .lst false (frzL (RL rs))]
    rw [rl_frz]; exact q
  rw [rl_frz]
  revert fin
  generalize endsD 1 [t, .lst o (RL rs)] Qf = D
  intro fin
  refine sq (ri1 h hl ?_)
  dsimp only
  refine sq (ri2 h hl ?_)
  dsimp only
  exact ri3 h hl fun x2 => fin _ _ _ _ _ _
end TL

set_option maxRecDepth 100000
set_option maxHeartbeats 1000000
namespace TL
open PySem PySem.Spec PyProof.Rows L2
def S__law_wrong_right : FS := fun ts Q => ∃ (t : T) (o : Bool) (rs : List R3) (n : Nat), ts = [t, .lst o (RL rs)] ∧ Fo n t ∧ n < 2 ^ 90 ∧ (∀ r ∈ rs, R3.Ok r) ∧ (0 < rs.length ∧ rs.length ≤ 400) ∧ ∀ t', Fo (n + 50) t' → Q (.ret (.bl true)) [t', .lst false (RL rs)]
theorem l__law_wrong_right : ∀ ts Q, S__law_wrong_right ts Q → ts.length = 2 := fun ts Q ⟨_, _, _, _, e, _⟩ => by rw [e]; rfl
abbrev N__law_wrong_right : List Str := ["fount", "runs", "at", "begin", "word", "times_here", "odds", "odd", "rest", "value"]
def w__law_wrong_right_1 : WS :=
  (wAsg (wCall S__law_dip (wCons (wV 0) (wCons (wCl gLen (wCons (wV 1) wNil)) wNil))) (wgN 2))
def w__law_wrong_right_2 : WS :=
  (wAsg (wOp gIx (wV 1) (wV 2)) (wgTup 3 (wgCons (wgN 3) (wgCons (wgN 4) (wgCons (wgN 5) wgNil)))))
def w__law_wrong_right_3 : WS :=
  (wAsg (wLst (wCons (wC .non) (wCons (wC (.int 0)) (wCons (wTup wNil) (wCons (wC (.str "0:s*1")) (wCons (wLst (wCons (wV 3) (wCons (wV 4) (wCons (wV 5) wNil)))) (wCons (wTup (wCons (wV 3) (wCons (wV 4) wNil))) (wCons (wTup (wCons (wV 3) (wCons (wV 4) (wCons (wV 5) (wCons (wC (.int 0)) wNil))))) wNil)))))))) (wgN 6))
def w__law_wrong_right_4 : WS :=
  (wAsg (wOp gAdd (wV 6) (wLst (wCons (wTup (wCons (wC .non) (wCons (wV 4) (wCons (wC (.int 1)) wNil)))) (wCons (wTup (wCons (wC (.bl true)) (wCons (wV 4) (wCons (wC (.int 1)) wNil)))) (wCons (wTup (wCons (wCl gStr (wCons (wV 3) wNil)) (wCons (wV 4) (wCons (wC (.int 1)) wNil)))) (wCons (wTup (wCons (wV 3) (wCons (wC (.str "")) (wCons (wC (.int 1)) wNil)))) (wCons (wTup (wCons (wV 3) (wCons (wC (.str "ss")) (wCons (wC (.int 1)) wNil)))) wNil))))))) (wgN 6))
def w__law_wrong_right_5 : WS :=
  (wAsg (wOp gAdd (wV 6) (wLst (wCons (wTup (wCons (wV 3) (wCons (wC (.str "x")) (wCons (wC (.int 1)) wNil)))) (wCons (wTup (wCons (wV 3) (wCons (wLst (wCons (wC (.str "s")) wNil)) (wCons (wC (.int 1)) wNil)))) (wCons (wTup (wCons (wV 3) (wCons (wC .non) (wCons (wC (.int 1)) wNil)))) (wCons (wTup (wCons (wV 3) (wCons (wV 4) (wCons (wC (.int 0)) wNil)))) (wCons (wTup (wCons (wV 3) (wCons (wV 4) (wCons (wUn gNeg (wC (.int 1))) wNil)))) wNil))))))) (wgN 6))
def w__law_wrong_right_6_1 : WS :=
  (wAsg (wIf (wTest (wOp (gEq false) (wCall S__law_dip (wCons (wV 0) (wCons (wC (.int 2)) wNil))) (wC (.int 0)))) (wSl (wV 1) (woS (wOp gAdd (wV 2) (wC (.int 1)))) woN) (wLst (wCons (wC .non) wNil))) (wgN 8))
def w__law_wrong_right_6_2_1 : WS :=
  (wRet 1 (wC (.bl false)))
def w__law_wrong_right_6_2 : WS :=
  (wIfS (wTest (wOp (gEq true) (wCall S__law_told (wCons (wC (.int 0)) (wCons (wOp gAdd (wOp gAdd (wSl (wV 1) woN (woS (wV 2))) (wLst (wCons (wV 7) wNil))) (wV 8)) wNil))) (wOp gAdd (wC (.str "runs ")) (wCl gReprM (wCons (wV 2) wNil))))) w__law_wrong_right_6_2_1 wNext)
def w__law_wrong_right_6 : WS :=
  (wFor (wiList (wOp gAdd (wV 6) (wLst (wCons (wTup (wCons (wV 3) (wCons (wV 4) (wCons (wC (.bl true)) wNil)))) (wCons (wTup (wCons (wV 3) (wCons (wV 4) (wCons (wC .non) wNil)))) (wCons (wTup (wCons (wV 3) (wCons (wV 4) (wCons (wC (.str "1")) wNil)))) (wCons (wTup (wCons (wV 4) (wCons (wV 3) (wCons (wC (.int 1)) wNil)))) wNil))))))) (wgN 7) (wSeq w__law_wrong_right_6_1 w__law_wrong_right_6_2))
def w__law_wrong_right_7 : WS :=
  (wRet 1 (wOp (gEq false) (wLc (wiTup (wTup (wCons (wC .non) (wCons (wC (.int 0)) (wCons (wC (.str "")) (wCons (wTup wNil) (wCons wDNew (wCons (wCl gTupleOf (wCons (wV 1) wNil)) (wCons (wC (.bl true)) wNil))))))))) (wgN 9) wYes (wCall S__law_told (wCons (wC (.int 0)) (wCons (wV 9) wNil))) [9]) (wOp gMulA (wLst (wCons (wC (.str "runs None")) wNil)) (wC (.int 7)))))
def w__law_wrong_right : WS :=
  (wSeq w__law_wrong_right_1 (wSeq w__law_wrong_right_2 (wSeq w__law_wrong_right_3 (wSeq w__law_wrong_right_4 (wSeq w__law_wrong_right_5 (wSeq w__law_wrong_right_6 w__law_wrong_right_7))))))
abbrev W10 (t : T) (rs : List R3) (x2 x3 x4 x5 x6 x7 x8 x9 : Option T) : Dt := [some t, some (.lst false (RL rs)), x2, x3, x4, x5, x6, x7, x8, x9]
abbrev WE10 (t : T) (rs : List R3) (k : Nat) (r : R3) (x6 x7 x8 x9 : Option T) : Dt := W10 t rs (some (.int (k : Int))) (some (.int r.i)) (some (.str r.w)) (some (.int r.n)) x6 x7 x8 x9
abbrev wdA (r : R3) : List T := [.non, .int 0, .tup [], .str "0:s*1", .lst false [.int r.i, .str r.w, .int r.n], .tup [.int r.i, .str r.w], .tup [.int r.i, .str r.w, .int r.n, .int 0]]
abbrev wdB (r : R3) : List T := [.tup [.non, .str r.w, .int 1], .tup [.bl true, .str r.w, .int 1], .tup [.str (numS r.i), .str r.w, .int 1], .tup [.int r.i, .str "", .int 1], .tup [.int r.i, .str "ss", .int 1]]
abbrev wdC (r : R3) : List T := [.tup [.int r.i, .str "x", .int 1], .tup [.int r.i, .lst false [.str "s"], .int 1], .tup [.int r.i, .non, .int 1], .tup [.int r.i, .str r.w, .int 0], .tup [.int r.i, .str r.w, .int (-1)]]
abbrev wdD (r : R3) : List T := [.tup [.int r.i, .str r.w, .bl true], .tup [.int r.i, .str r.w, .non], .tup [.int r.i, .str r.w, .str "1"], .tup [.str r.w, .int r.i, .int 1]]
abbrev wds23 (r : R3) : List T := wdA r ++ wdB r ++ wdC r ++ wdD r
theorem ru_mid {a c : T} {s : Str} (h : inT (.str s) wrdT = false) : ruB (.tup [a, .str s, c]) = false := by
  simp only [ruB, h, Bool.and_false, Bool.false_and]
theorem wds_bad {r : R3} (h : r.Ok) : ∀ x ∈ wds23 r, ruB x = false := by
  intro x hx
  have e1 : inT (.str r.w) wrdT = true := by rcases h.w with e | e | e | e <;> rw [e] <;> decide +kernel
  simp only [wds23, wdA, wdB, wdC, wdD, List.cons_append, List.nil_append, List.mem_cons, List.not_mem_nil, or_false] at hx
  rcases hx with rfl | rfl | rfl | rfl | rfl | rfl | rfl | rfl | rfl | rfl | rfl | rfl | rfl | rfl | rfl | rfl | rfl | rfl | rfl | rfl | rfl
  · rfl
  · rfl
  · rfl
  · rfl
  · rfl
  · rfl
  · rfl
  · rfl
  · rfl
  · rfl
  · exact ru_mid (by decide +kernel)
  · exact ru_mid (by decide +kernel)
  · exact ru_mid (by decide +kernel)
  · rfl
  · rfl
  · simp only [ruB, e1]; rfl
  · simp only [ruB, e1]; rfl
  · simp only [ruB, e1]; rfl
  · simp only [ruB, e1]; rfl
  · simp only [ruB, e1]; rfl
  · rfl
theorem wds_it {r : R3} (h : r.Ok) : Its' 21 2 5000 (wds23 r) := by
  have h1 := h.i
  have h2 := h.n.2
  have ei : It 0 1200 (.int r.i) := (it_int (by omega)).mono (by decide) (by decide)
  have ni : It 0 1200 (.int r.n) := (it_int (by omega)).mono (by decide) (by decide)
  have wi : It 0 1200 (.str r.w) := by rcases h.w with e | e | e | e <;> rw [e] <;> exact (lit (by decide +kernel)).mono (by decide) (by decide)
  have si : It 0 1200 (.str (numS r.i)) := ⟨rfl, asc_num _, Nat.le_refl _, by have := numS_len h1; simp only [wtT]; omega⟩
  have num : ∀ i : Int, -(10 ^ 31) ≤ i ∧ i ≤ 10 ^ 31 → It 0 1200 (.int i) := fun i hi => (it_int hi).mono (by decide) (by decide)
  have nn : It 0 1200 .non := it_non.mono (by decide) (by decide)
  have bb : It 0 1200 (.bl true) := (it_bl true).mono (by decide) (by decide)
  have ll : ∀ {x : Str}, (asc x && decide (x.length ≤ 10)) = true → It 0 1200 (.str x) := fun hx => (lit hx).mono (by decide) (by decide)
  have up : ∀ {x : T}, It 0 1200 x → It 2 5000 x := fun h => h.mono (by decide) (by decide)
  have t2 : ∀ {x y : T}, It 0 1200 x → It 0 1200 y → It 2 5000 (.tup [x, y]) := fun a b => (it_tup (k := 2) (.cons a (.cons b .nil))).mono (by decide) (by decide)
  have t3 : ∀ {x y z : T}, It 0 1200 x → It 0 1200 y → It 0 1200 z → It 2 5000 (.tup [x, y, z]) := fun a b c => (it_tup (k := 3) (.cons a (.cons b (.cons c .nil)))).mono (by decide) (by decide)
  have t4 : ∀ {x y z u : T}, It 0 1200 x → It 0 1200 y → It 0 1200 z → It 0 1200 u → It 2 5000 (.tup [x, y, z, u]) := fun a b c d => (it_tup (k := 4) (.cons a (.cons b (.cons c (.cons d .nil))))).mono (by decide) (by decide)
  have l3 : ∀ {x y z : T}, It 0 1200 x → It 0 1200 y → It 0 1200 z → It 2 5000 (.lst false [x, y, z]) := fun a b c => (it_lst (k := 3) (.cons a (.cons b (.cons c .nil)))).mono (by decide) (by decide)
  have w3 : ∀ {x y z : T}, It 0 1200 x → It 0 1200 y → It 0 1200 z → It 2 5000 (.tup [x, .lst false [y], z]) := fun a b c => (it_tup (k := 3) (d := 1) (w := 1300) (.cons (a.mono (by decide) (by decide)) (.cons ((it_lst (k := 1) (.cons b .nil)).mono (by decide) (by decide)) (.cons (c.mono (by decide) (by decide)) .nil)))).mono (by decide) (by decide)
  have z0 := num 0 (by decide)
  have z1 := num 1 (by decide)
  exact .cons (up nn) (.cons (up z0) (.cons ((it_tup (d := 0) (w := 0) .nil).mono (by decide) (by decide)) (.cons (up (ll (by decide +kernel))) (.cons (l3 ei wi ni) (.cons (t2 ei wi) (.cons (t4 ei wi ni z0)
    (.cons (t3 nn wi z1) (.cons (t3 bb wi z1) (.cons (t3 si wi z1) (.cons (t3 ei (ll (by decide +kernel)) z1) (.cons (t3 ei (ll (by decide +kernel)) z1)
    (.cons (t3 ei (ll (by decide +kernel)) z1) (.cons (w3 ei (ll (by decide +kernel)) z1) (.cons (t3 ei nn z1) (.cons (t3 ei wi z0) (.cons (t3 ei wi (num (-1) (by decide)))
    (.cons (t3 ei wi bb) (.cons (t3 ei wi nn) (.cons (t3 ei wi (ll (by decide +kernel))) (.cons (t3 wi ei z1) .nil))))))))))))))))))))
section
variable {D : EndsD} {t : T} {rs : List R3} {x2 x3 x4 x5 x6 x7 x8 x9 : Option T} {n k : Nat} {r : R3}
theorem wr1 (hF : Fo n t) (hn : n < 2 ^ 95) (hl : 0 < rs.length ∧ rs.length ≤ 400) (q : ∀ t' (k : Nat), Fo (n + 1) t' → k < rs.length → D.nx (W10 t' rs (some (.int (k : Int))) x3 x4 x5 x6 x7 x8 x9)) : w__law_wrong_right_1 D (W10 t rs x2 x3 x4 x5 x6 x7 x8 x9) := by
  have hL : ((RL rs).length : Int) = rs.length := by rw [List.length_map]
  refine ⟨rfl, at_dip hF (by omega) (by omega) (by omega) fun r t' r0 r1 hF' => ?_⟩
  have := q t' r.toNat hF' (by omega)
  rw [show ((r.toNat : Nat) : Int) = r by omega] at this
  exact this
theorem wr2 (hr : rs[k]? = some r) (q : D.nx (WE10 t rs k r x6 x7 x8 x9)) : w__law_wrong_right_2 D (W10 t rs (some (.int (k : Int))) x3 x4 x5 x6 x7 x8 x9) := by
  have hk := (List.getElem?_eq_some_iff.mp hr).1
  show gIx (.lst false (RL rs)) (.int (k : Int)) _
  have e : atI (RL rs) (k : Int) = some r.t := by
    unfold atI ixN
    rw [List.length_map, if_pos (Int.natCast_nonneg k), if_pos (by omega)]
    show (RL rs)[(k : Int).toNat]? = _
    rw [Int.toNat_natCast, List.getElem?_map, hr]; rfl
  show (match atI (RL rs) (k : Int) with
    | some t => closed t = true ∧ _
    | none => False)
  rw [e]
  exact ⟨rfl, rfl, q⟩
theorem wr3 (q : D.nx (WE10 t rs k r (some (.lst true (wdA r))) x7 x8 x9)) : w__law_wrong_right_3 D (WE10 t rs k r x6 x7 x8 x9) :=
  ⟨Nat.zero_le _, z3, z2, z4, show 7 ≤ sizeLine by decide, q⟩
theorem wr4 (h : r.Ok) (q : D.nx (WE10 t rs k r (some (.lst true (wdA r ++ wdB r))) x7 x8 x9)) : w__law_wrong_right_4 D (WE10 t rs k r (some (.lst true (wdA r))) x7 x8 x9) :=
  ⟨z3, z3, num_log h.i, z3, z3, z3, show 5 ≤ sizeLine by decide, ⟨rfl, rfl⟩, show 12 ≤ sizeLine by decide, q⟩
theorem wr5 (q : D.nx (WE10 t rs k r (some (.lst true (wdA r ++ wdB r ++ wdC r))) x7 x8 x9)) : w__law_wrong_right_5 D (WE10 t rs k r (some (.lst true (wdA r ++ wdB r))) x7 x8 x9) :=
  ⟨z3, z1, z3, z3, z3, z3, show 5 ≤ sizeLine by decide, ⟨rfl, rfl⟩, show 17 ≤ sizeLine by decide, q⟩
theorem wr6b {x : T} {rest : List T} {o : Bool} (h : ∀ r ∈ rs, R3.Ok r) (hl : rs.length ≤ 400) (hk : k < rs.length) (hx : ruB x = false) (hi : It 2 5000 x) (hr : Its' 400 2 5000 rest) (q : D.nx (WE10 t rs k r x6 (some x) (some (.lst o rest)) x9)) :
    w__law_wrong_right_6_2 D (WE10 t rs k r x6 (some x) (some (.lst o rest)) x9) := by
  have hd := hi.1
  have fx := dat_frz hd
  have cx : closedL [x] = true := by simp only [closedL, dat_closed x hd]; rfl
  have c1 : cutT (RL rs) none (some (k : Int)) = RL (rs.take k) := by rw [cut_lo (by simp; omega)]; exact List.map_take.symm
  have hrl := hr.1
  have h1 : Its' 400 2 5000 (RL (rs.take k)) := (rl_its fun z hz => h z (List.mem_of_mem_take hz)).mono (by decide) (by decide) (by rw [List.length_take]; omega)
  have hI := it_lst (h1.app (.cons hi hr))
  have hlt : (rs.take k).length = k := by rw [List.length_take]; omega
  have hR : ResT 0 (.lst false (RL (rs.take k) ++ x :: rest)) (runT (.int (k : Int))) := by
    have := ResT.r0 (rs := rs.take k) (x := x) (rest := rest) (fun z hz => h z (List.mem_of_mem_take hz)) (by omega) hx
    rw [hlt] at this
    exact this
  have eu : frz (.lst true (RL (rs.take k) ++ [x] ++ rest)) = .lst false (RL (rs.take k) ++ x :: rest) := by
    rw [List.append_assoc]
    exact eq_lst (by simpa [dat] using hI.1) true
  have sr : ShowI (.int (k : Int)) := showI_int (by omega)
  have hz : ("runs " : Str).length + (shI (.int (k : Int))).length ≤ sizeLine := by
    have := sr.2.2
    show 5 + _ ≤ sizeLine
    rw [sizeLine_eq]; omega
  refine ⟨rl_cl rs, z1, ?_⟩
  dsimp only [wCons, wLst, wTakes, wTake, wNil, onV, onVs, look, List.getElem?_cons_zero, List.getElem?_cons_succ, List.set_cons_zero, List.set_cons_succ, wOp, wV, wC, wUn, wCl, wCons, wNil, wTest, backs]
  rw [c1, fx]
  refine ⟨⟨rl_cl _, by rw [fx]; exact cx⟩, sz5 (by simp; omega), ⟨closedL_app (rl_cl _) (by rw [fx]; exact cx), hr.cl⟩, sz5 (by simp; omega), rfl, ?_⟩
  rw [fx]
  refine at_told2 eu hI.1 (.inl (hI.ok (by decide) (by decide))) hR ?_
  dsimp only [onV, onVs, look, List.getElem?_cons_zero, List.getElem?_cons_succ, List.set_cons_zero, List.set_cons_succ, wOp, wV, wC, wUn, wCl, wCons, wNil, wTest, backs]
  refine gReprM_int (by omega) ⟨hz, ?_⟩
  refine ite_no (c := nb true (decide (runT (.int (k : Int)) = runT (.int (k : Int))))) (by rw [decide_eq_true rfl]; rfl) ?_
  have e : WE10 t rs k r x6 (some x) (some (.lst o rest)) x9 = WE10 t rs k r x6 (some (frz x)) (some (.lst o rest)) x9 := by rw [fx]
  exact q
theorem wr6 (h : ∀ r ∈ rs, R3.Ok r) (hl : rs.length ≤ 400) (hr : rs[k]? = some r) (hF : Fo n t) (hn : n < 2 ^ 95) (q : ∀ t' x7 x8, Fo (n + 21) t' → D.nx (WE10 t' rs k r (some (.lst true (wdA r ++ wdB r ++ wdC r))) x7 x8 x9)) :
    w__law_wrong_right_6 D (WE10 t rs k r (some (.lst true (wdA r ++ wdB r ++ wdC r))) x7 x8 x9) := by
  have hk := (List.getElem?_eq_some_iff.mp hr).1
  have ok := h r (List.mem_of_getElem? hr)
  have hit := wds_it ok
  have hbad := wds_bad ok
  refine ⟨z3, z3, z3, z3, z4, ⟨rfl, rfl⟩, show 21 ≤ sizeLine by decide, fun i Δ => i ≤ 21 ∧ ∃ t' x7 x8, Δ = WE10 t' rs k r (some (.lst true (wdA r ++ wdB r ++ wdC r))) x7 x8 x9 ∧ Fo (n + i) t', ⟨Nat.zero_le _, t, x7, x8, rfl, hF⟩, ?_, ?_⟩
  · rintro i x Δ hx ⟨hi, t', x7, x8, rfl, hF'⟩
    have hx' : (wds23 r)[i]? = some x := hx
    have hm := List.mem_of_getElem? hx'
    have hi2 : i < 21 := (List.getElem?_eq_some_iff.mp hx').1
    have hxi := hit.2 x hm
    have hxb := hbad x hm
    have c2 : cutT (RL rs) (some ((k : Int) + 1)) none = RL (rs.drop (k + 1)) := by
      rw [show ((k : Int) + 1) = ((k + 1 : Nat) : Int) by omega, cut_hi (by simp; omega)]; exact List.map_drop.symm
    have h2 : Its' 400 2 5000 (RL (rs.drop (k + 1))) := (rl_its fun z hz => h z (List.mem_of_mem_drop hz)).mono (by decide) (by decide) (by rw [List.length_drop]; omega)
    have h3 : Its' 400 2 5000 [.non] := (Its'.cons (it_non.mono (by decide) (by decide)) .nil).mono (Nat.le_refl _) (Nat.le_refl _) (by decide)
    refine sq ⟨rfl, at_dip hF' (by omega) (by decide) (by decide) fun r0 t2 a0 b0 hF2 => ite_of (fun _ => ⟨rl_cl rs, ?_⟩) fun _ => ⟨z1, ?_⟩⟩
    · rw [c2]
      exact wr6b h hl hk hxb hxi h2 ⟨by omega, t2, _, _, rfl, hF2⟩
    · exact wr6b h hl hk hxb hxi h3 ⟨by omega, t2, _, _, rfl, hF2⟩
  · rintro Δ ⟨hi, t', x7, x8, rfl, hF'⟩
    exact q t' _ _ hF'
abbrev sevV (rs : List R3) : List T := [.non, .int 0, .str "", .tup [], .dct false [], .tup (RL rs), .bl true]
theorem sevV_ok {rs : List R3} (h : ∀ r ∈ rs, R3.Ok r) (hl : rs.length ≤ 400) : ∀ v ∈ sevV rs, dat v = true ∧ Shown v ∧ ResT 0 v (runT .non) := by
  intro v hv
  have sh : ∀ {x : T}, It 3 200000 x → Shown x := fun hx => .inl (hx.ok (by decide) (by decide))
  simp only [sevV, List.mem_cons, List.not_mem_nil, or_false] at hv
  rcases hv with rfl | rfl | rfl | rfl | rfl | rfl | rfl
  · exact ⟨rfl, sh (it_non.mono (by decide) (by decide)), .r0n fun o xs e => by cases e⟩
  · exact ⟨rfl, sh ((it_int (by decide)).mono (by decide) (by decide)), .r0n fun o xs e => by cases e⟩
  · exact ⟨rfl, sh ((lit (by decide +kernel)).mono (by decide) (by decide)), .r0n fun o xs e => by cases e⟩
  · exact ⟨rfl, sh ((it_tup (d := 0) (w := 0) .nil).mono (by decide) (by decide)), .r0n fun o xs e => by cases e⟩
  · exact ⟨rfl, .inr (by decide +kernel), .r0n fun o xs e => by cases e⟩
  · have hi := it_tup ((rl_its h).mono (Nat.le_refl _) (Nat.le_refl _) hl)
    exact ⟨hi.1, sh (hi.mono (by decide) (by decide)), .r0n fun o xs e => by cases e⟩
  · exact ⟨rfl, sh ((it_bl true).mono (by decide) (by decide)), .r0n fun o xs e => by cases e⟩
theorem run_none : runT .non = ("runs None" : Str) := by
  show ("runs " : Str) ++ shI .non = _
  rw [shI_eq]; decide +kernel
theorem wr7 (h : ∀ r ∈ rs, R3.Ok r) (hl : rs.length ≤ 400) (q : D.rt (.bl true) (W10 t rs x2 x3 x4 x5 x6 x7 x8 none)) : w__law_wrong_right_7 D (W10 t rs x2 x3 x4 x5 x6 x7 x8 x9) := by
  refine ⟨Nat.zero_le _, rl_cl rs, z7, ?_⟩
  have e : frzL [frz T.non, frz (.int 0), frz (.str ""), frz (.tup []), frz (.dct true []), frz (.tup (RL rs)), frz (.bl true)] = sevV rs := by
    simp only [frz, frzL, frzK, rl_frz]
  have sv := sevV_ok h hl
  refine ⟨fun i acc Δ => acc = List.replicate i (.str (runT .non)) ∧ i ≤ 7 ∧ Δ = W10 t rs x2 x3 x4 x5 x6 x7 x8 none, ⟨rfl, Nat.zero_le _, rfl⟩, ?_, ?_⟩
  · rintro i y acc Δ hy ⟨rfl, hi, rfl⟩
    have hy' : (sevV rs)[i]? = some y := by rw [← e]; exact hy
    have hi7 : i < 7 := (List.getElem?_eq_some_iff.mp hy').1
    obtain ⟨hd, hs, hR⟩ := sv y (List.mem_of_getElem? hy')
    refine ⟨rfl, at_told hd hs hR ⟨zz200 (by simp; omega), ?_, by omega, rfl⟩⟩
    rw [← rep_add]; rfl
  · rintro acc Δ ⟨rfl, _, rfl⟩
    refine ⟨z1, rfl, by decide, by decide, z7, ?_⟩
    dsimp only [onV]
    rw [← run_none]
    refine eq_repF (u := runT .non) (k := 7) (by rw [run_none]; decide +kernel) ?_
    exact q
end
theorem v__law_wrong_right : ∀ ts Qf, S__law_wrong_right ts Qf → w__law_wrong_right (endsD 1 ts Qf) (startD N__law_wrong_right 1 ts) := by
  rintro ts Qf ⟨t, o, rs, n, rfl, hF, hn, h, hl, q⟩
  show w__law_wrong_right (endsD 1 [t, .lst o (RL rs)] Qf) [some t, some (.lst false (frzL (RL rs))), none, none, none, none, none, none, none, none]
  have fin : ∀ t' x2 x3 x4 x5 x6 x7 x8 x9, Fo (n + 50) t' → (endsD 1 [t, .lst o (RL rs)] Qf).rt (.bl true) (W10 t' rs x2 x3 x4 x5 x6 x7 x8 x9) := fun t' _ _ _ _ _ _ _ _ hF' => by
    show Qf _ [t', .lst false (frzL (RL rs))]
    rw [rl_frz]; exact q t' hF'
  rw [rl_frz]
  revert fin
  generalize endsD 1 [t, .lst o (RL rs)] Qf = D
  intro fin
  refine sq (wr1 hF (by omega) hl fun t1 k hF1 hk => ?_)
  obtain ⟨r, hr⟩ : ∃ r, rs[k]? = some r := ⟨rs[k], by simp [hk]⟩
  dsimp only
  refine sq (wr2 hr ?_)
  dsimp only
  refine sq (wr3 ?_)
  dsimp only
  refine sq (wr4 (h r (List.mem_of_getElem? hr)) ?_)
  dsimp only
  refine sq (wr5 ?_)
  dsimp only
  refine sq (wr6 h hl.2 hr hF1 (by omega) fun t2 y7 y8 hF2 => ?_)
  dsimp only
  exact wr7 h hl.2 (fin t2 _ _ _ _ _ _ _ _ (hF2.mono (by omega)))
end TL

set_option maxRecDepth 100000
set_option maxHeartbeats 1000000
namespace TL
open PySem PySem.Spec PyProof.Rows L2
def S_law : FS := fun ts Q => ∃ (o : Bool) (ns : List Int), ts = [.lst o (ns.map .int)] ∧ ∀ ts', Q (.ret (.bl true)) ts'
theorem l_law : ∀ ts Q, S_law ts Q → ts.length = 1 := fun ts Q ⟨_, _, e, _⟩ => by rw [e]; rfl
theorem at_fount {o : Bool} {ns : List Int} {k : Int} {Q : Rs → List T → Prop} (h0 : 0 ≤ k) (h1 : k ≤ 3) (q : ∀ t, Fo 0 t → Q (.ret t) [.lst false (ns.map .int), .int k]) : S__law_fount [.lst o (ns.map .int), .int k] Q := ⟨o, ns, k, rfl, ⟨h0, h1⟩, q⟩
theorem at_record {t : T} {m n : Nat} {Q : Rs → List T → Prop} (h : Fo n t) (hn : n < 2 ^ 80) (hm : 1 ≤ m ∧ m ≤ 190) (q : ∀ (es : List E3) t', VR 100 es → (2 ≤ es.length ∧ es.length ≤ 192) → Fo (n + 2000) t' → Q (.ret (.lst true (EL es))) [t', .int m, .int 9]) : S__law_record [t, .int m, .int 9] Q :=
  ⟨t, m, 9, n, rfl, h, by omega, by omega, by decide, fun xs t' hR hl hF => by
    obtain ⟨es, rfl, hv⟩ := rc_es hR
    rw [List.length_map] at hl
    have he := vr_even hv
    exact q es t' hv (by omega) hF⟩
abbrev N_law : List Str := ["script", "k", "fount", "many", "runs", "rules", "record", "bad", "due"]
def w_law_1_1 : WS :=
  (wAsg (wCall S__law_fount (wCons (wV 0) (wCons (wV 1) wNil))) (wgN 2))
def w_law_1_2_1 : WS :=
  (wAsg (wCall S__law_some_runs (wCons (wV 2) (wCons (wV 3) wNil))) (wgN 4))
def w_law_1_2_2_1 : WS :=
  (wRet 0 (wC (.bl false)))
def w_law_1_2_2 : WS :=
  (wIfS (wOr (wNot (wTru (wCall S__law_right (wCons (wV 2) (wCons (wV 4) wNil))))) (wAnd (wTest (wOp (gNilL true) (wV 4) (wLst wNil))) (wNot (wTru (wCall S__law_wrong_right (wCons (wV 2) (wCons (wV 4) wNil))))))) w_law_1_2_2_1 wNext)
def w_law_1_2 : WS :=
  (wFor (wiList (wOp gAdd (wLst (wCons (wCall S__law_dip (wCons (wV 2) (wCons (wC (.int 3)) wNil))) (wCons (wOp gAdd (wC (.int 1)) (wCall S__law_dip (wCons (wV 2) (wCons (wC (.int 12)) wNil)))) wNil))) (wLst (wCons (wOp gIx (wLst (wCons (wC (.int 100)) (wCons (wC (.int 101)) (wCons (wC (.int 200)) (wCons (wC (.int 400)) wNil))))) (wCall S__law_dip (wCons (wV 2) (wCons (wC (.int 4)) wNil)))) wNil)))) (wgN 3) (wSeq w_law_1_2_1 w_law_1_2_2))
def w_law_1_3 : WS :=
  (wPar 5 6 (wCons (wCall S__law_rules (wCons (wV 2) wNil)) (wCons (wCall S__law_record (wCons (wV 2) (wCons (wOp gAdd (wC (.int 1)) (wCall S__law_dip (wCons (wV 2) (wCons (wOp gIx (wLst (wCons (wC (.int 9)) (wCons (wC (.int 190)) wNil))) (wCl gInt (wCons (wOp (gEq false) (wV 1) (wC (.int 0))) wNil))) wNil)))) (wCons (wC (.int 9)) wNil)))) wNil)))
def w_law_1_4_1_1 : WS :=
  (wRet 0 (wC (.bl false)))
def w_law_1_4_1 : WS :=
  (wIfS (wTest (wOp (gEq true) (wCall S__law_told (wCons (wC (.int 1)) (wCons (wV 7) wNil))) (wV 8))) w_law_1_4_1_1 wNext)
def w_law_1_4 : WS :=
  (wFor (wiList (wCall S__law_bad_rules (wCons (wV 2) (wCons (wV 5) wNil)))) (wgTup 2 (wgCons (wgN 7) (wgCons (wgN 8) wgNil))) w_law_1_4_1)
def w_law_1_5_1_1 : WS :=
  (wRet 0 (wC (.bl false)))
def w_law_1_5_1 : WS :=
  (wIfS (wTest (wOp (gEq true) (wCall S__law_told (wCons (wC (.int 2)) (wCons (wV 7) wNil))) (wV 8))) w_law_1_5_1_1 wNext)
def w_law_1_5 : WS :=
  (wFor (wiList (wCall S__law_bad_records (wCons (wV 2) (wCons (wV 6) wNil)))) (wgTup 2 (wgCons (wgN 7) (wgCons (wgN 8) wgNil))) w_law_1_5_1)
def w_law_1_6_1 : WS :=
  (wRet 0 (wC (.bl false)))
def w_law_1_6 : WS :=
  (wIfS (wTest (wOp (gEq true) (wLst (wCons (wCall S__law_told (wCons (wC (.int 1)) (wCons (wV 5) wNil))) (wCons (wCall S__law_told (wCons (wC (.int 2)) (wCons (wV 6) wNil))) (wCons (wCall S__law_told (wCons (wC (.int 2)) (wCons (wLst wNil) wNil))) wNil)))) (wOp gMulA (wLst (wCons (wC (.str "fine")) wNil)) (wC (.int 3))))) w_law_1_6_1 wNext)
def w_law_1 : WS :=
  (wFor (wiRng1 (wCons (wCl gMax2 (wCons (wC (.int 1)) (wCons (wCl gMin2 (wCons (wC (.int 3)) (wCons (wCl gLen (wCons (wV 0) wNil)) wNil))) wNil))) wNil)) (wgN 1) (wSeq w_law_1_1 (wSeq w_law_1_2 (wSeq w_law_1_3 (wSeq w_law_1_4 (wSeq w_law_1_5 w_law_1_6))))))
def w_law_2 : WS :=
  (wRet 0 (wOp (gEq false) (wLst (wCons (wCall (noX S_format_runs) (wCons (wLst wNil) wNil)) (wCons (wCall (noX S_format_runs) (wCons (wLst (wCons (wTup (wCons (wC (.int 0)) (wCons (wC (.str "sl")) (wCons (wC (.int 2)) wNil)))) (wCons (wTup (wCons (wC (.int 24)) (wCons (wC (.str "s")) (wCons (wC (.int 1)) wNil)))) wNil))) wNil)) wNil))) (wLst (wCons (wC (.str "")) (wCons (wC (.str "0:sl*2 24:s*1")) wNil)))))
def w_law : WS :=
  (wSeq w_law_1 w_law_2)
abbrev L9 (ns : List Int) (x1 x2 x3 x4 x5 x6 x7 x8 : Option T) : Dt := [some (.lst false (ns.map .int)), x1, x2, x3, x4, x5, x6, x7, x8]
section
variable {D : EndsD} {ns : List Int} {es : List E3} {x : Ru} {n : Nat} {t : T} {x1 x2 x3 x4 x5 x6 x7 x8 : Option T} {k : Int}
theorem g1 (hk : 0 ≤ k ∧ k ≤ 3) (q : ∀ t, Fo 0 t → D.nx (L9 ns (some (.int k)) (some t) x3 x4 x5 x6 x7 x8)) : w_law_1_1 D (L9 ns (some (.int k)) x2 x3 x4 x5 x6 x7 x8) :=
  ⟨rfl, at_fount hk.1 hk.2 fun t hF => q t hF⟩
theorem g21 {m : Nat} (hF : Fo n t) (hn : n < 2 ^ 80) (hm : m ≤ 400) (q : ∀ t' rs, (∀ r ∈ rs, R3.Ok r) → rs.length = m → Fo (n + 2400) t' → D.nx (L9 ns x1 (some t') (some (.int (m : Int))) (some (.lst true (RL rs))) x5 x6 x7 x8)) : w_law_1_2_1 D (L9 ns x1 (some t) (some (.int (m : Int))) x4 x5 x6 x7 x8) :=
  ⟨rfl, t, m, n, rfl, hF, by omega, hm, fun t' rs h1 h2 h3 => q t' rs h1 h2 h3⟩
theorem g22 {rs : List R3} (hF : Fo n t) (hn : n < 2 ^ 80) (h : ∀ r ∈ rs, R3.Ok r) (hl : rs.length ≤ 400) (q : ∀ t' x4, Fo (n + 50) t' → D.nx (L9 ns x1 (some t') x3 x4 x5 x6 x7 x8)) : w_law_1_2_2 D (L9 ns x1 (some t) x3 (some (.lst true (RL rs))) x5 x6 x7 x8) := by
  refine ⟨rfl, t, true, rs, rfl, h, hl, Nat.zero_le _, ite_of (fun c => ?_) fun c => ?_⟩
  · have c : (!(RL rs).isEmpty) = true := c
    have hp : 0 < rs.length := by
      cases rs with
      | nil => cases c
      | cons r rs => simp
    exact ⟨rfl, t, false, rs, n, rfl, hF, by omega, h, ⟨hp, hl⟩, fun t' hF' => q t' _ hF'⟩
  · exact q t _ (hF.mono (by omega))
theorem g2 (hF : Fo n t) (hn : n < 2 ^ 70) (q : ∀ t' x3 x4, Fo (n + 10000) t' → D.nx (L9 ns x1 (some t') x3 x4 x5 x6 x7 x8)) : w_law_1_2 D (L9 ns x1 (some t) x3 x4 x5 x6 x7 x8) := by
  refine ⟨rfl, at_dip hF (by omega) (by decide) (by decide) fun r1 t1 a1 b1 hF1 => ⟨rfl, at_dip hF1 (by omega) (by decide) (by decide) fun r2 t2 a2 b2 hF2 => ⟨z2, z4, rfl, at_dip hF2 (by omega) (by decide) (by decide) fun r3 t3 a3 b3 hF3 => ?_⟩⟩⟩
  dsimp only [onV, onVs, look, List.getElem?_cons_zero, List.getElem?_cons_succ, List.set_cons_zero, List.set_cons_succ, wOp, wV, wC, wUn, wCl, wCons, wNil, wTest, backs]
  refine ix_ints (l := [100, 101, 200, 400]) (P := fun z => 100 ≤ z ∧ z ≤ 400) a3 b3 (by decide) fun z hz => ⟨z1, ⟨rfl, rfl⟩, show 3 ≤ sizeLine by decide, ?_⟩
  refine ⟨fun i Δ => ∃ t' x3 x4, Δ = L9 ns x1 (some t') x3 x4 x5 x6 x7 x8 ∧ Fo (n + 3 + 2450 * i) t' ∧ i ≤ 3, ⟨t3, _, _, rfl, hF3, Nat.zero_le _⟩, ?_, ?_⟩
  · rintro i y Δ hy ⟨t', x3, x4, rfl, hF', hi⟩
    have hm : ∃ m : Nat, y = .int (m : Int) ∧ m ≤ 400 ∧ i < 3 := by
      match i, hy with
      | 0, e => exact ⟨r1.toNat, by rw [← Option.some.inj e]; show T.int r1 = _; rw [show ((r1.toNat : Nat) : Int) = r1 by omega], by omega, by decide⟩
      | 1, e => exact ⟨(1 + r2).toNat, by rw [← Option.some.inj e]; show T.int (1 + r2) = _; rw [show (((1 + r2).toNat : Nat) : Int) = 1 + r2 by omega], by omega, by decide⟩
      | 2, e => exact ⟨z.toNat, by rw [← Option.some.inj e]; show T.int z = _; rw [show ((z.toNat : Nat) : Int) = z by omega], by omega, by decide⟩
    obtain ⟨m, rfl, hm, hi3⟩ := hm
    refine sq (g21 hF' (by omega) hm fun t4 rs h1 h2 hF4 => ?_)
    dsimp only
    exact g22 hF4 (by omega) h1 (by omega) fun t5 y4 hF5 => ⟨t5, _, _, rfl, hF5.mono (by omega), by omega⟩
  · rintro Δ ⟨t', x3, x4, rfl, hF', hi⟩
    exact q t' _ _ (hF'.mono (by show n + 3 + 2450 * 3 ≤ n + 10000; omega))
theorem g3 (hF : Fo n t) (hn : n < 2 ^ 70) (q : ∀ t' x es, Ru.Ok x MX → VR 100 es → (2 ≤ es.length ∧ es.length ≤ 192) → Fo (n + 2100) t' → D.nx (L9 ns (some (.int k)) (some t') x3 x4 (some x.t) (some (.lst true (EL es))) x7 x8)) :
    w_law_1_3 D (L9 ns (some (.int k)) (some t) x3 x4 x5 x6 x7 x8) := by
  refine ⟨rfl, at_rules hF (by omega) fun x t1 hx hF1 => ⟨z2, ?_⟩⟩
  have rest : ∀ w : Int, 1 ≤ w ∧ w ≤ 190 → ∀ (r : Int) t2, Fo (n + 21) t2 → 0 ≤ r → r < w → S__law_record [t2, .int (1 + r), .int 9] fun r' ts' => match r' with
      | .ret t => D.nx (((backs (L9 ns (some (.int k)) (some t2) x3 x4 x5 x6 x7 x8) [.pl 2, .val (.int (1 + r)), .val (.int 9)] (ts'.take 3)).set 5 (some x.t)).set 6 (some t))
      | .exc _ _ => False := fun w hw r t2 hF2 r0 r1 => by
    obtain ⟨m, rfl⟩ : ∃ m : Nat, r = (m : Int) := ⟨r.toNat, by omega⟩
    have e : (1 : Int) + (m : Int) = ((1 + m : Nat) : Int) := by omega
    rw [e]
    exact at_record hF2 (by omega) (by omega) fun es t3 hv hl hF3 => q t3 x es hx hv hl (hF3.mono (by omega))
  dsimp only [gEq, gInt, wCons, wNil, onV, onVs, look, List.getElem?_cons_zero, List.getElem?_cons_succ, List.set_cons_zero, List.set_cons_succ, wOp, wV, wC, wUn, wCl, wCons, wNil, wTest, backs]
  refine ix_ints (l := [9, 190]) (P := fun w => 1 ≤ w ∧ w ≤ 190) (r := if nb false (decide (k = 0)) = true then 1 else 0) (by split <;> decide) (by split <;> decide) (by decide) fun w hw => ?_
  exact ⟨rfl, at_dip hF1 (by omega) (by omega) (by omega) fun r t2 r0 r1 hF2 => ⟨rfl, rest w hw r t2 hF2 r0 r1⟩⟩
theorem us_frz {bs : List (T × T)} {m : Nat} (h : Us m bs) : frzL (rbT bs) = rbT bs := frzL_closed _ (us_cl h)
theorem bs_frz {bs : List (T × T)} {m : Nat} (h : Bs m bs) : frzL (bsT bs) = bsT bs := frzL_closed _ (bs_cl h)
theorem shw {v : T} (h : It 3 200000 v ∨ v = .dct false []) : Shown v := by
  rcases h with h | rfl
  · exact .inl (h.ok (by decide) (by decide))
  · exact .inr (by decide +kernel)
theorem g4 (hF : Fo n t) (hn : n < 2 ^ 80) (hx : x.Ok MX) (q : ∀ t' x7 x8, Fo (n + 60) t' → D.nx (L9 ns x1 (some t') x3 x4 (some x.t) x6 x7 x8)) : w_law_1_4 D (L9 ns x1 (some t) x3 x4 (some x.t) x6 x7 x8) := by
  refine ⟨rfl, t, x, n, rfl, hF, by omega, hx, fun t1 bs hbs hF1 => ?_⟩
  have ef := us_frz hbs
  refine ⟨fun i Δ => ∃ x7 x8, Δ = L9 ns x1 (some t1) x3 x4 (some x.t) x6 x7 x8, ⟨_, _, rfl⟩, ?_, fun Δ ⟨x7, x8, e⟩ => e ▸ q t1 x7 x8 hF1⟩
  rintro i y Δ hy ⟨x7, x8, rfl⟩
  have hy : (frzL (rbT bs))[i]? = some y := hy
  rw [ef, List.getElem?_map] at hy
  cases hp : bs[i]? with
  | none => rw [hp] at hy; cases hy
  | some p =>
    rw [hp] at hy
    obtain rfl := Option.some.inj hy
    have hb := hbs.2 p (List.mem_of_getElem? hp)
    refine ⟨rfl, rfl, at_told hb.dat (shw hb.1) (.u1 hb.2) ?_⟩
    refine ite_no (c := nb true (decide (rulT p.2 = rulT p.2))) (by rw [decide_eq_true rfl]; rfl) ?_
    exact ⟨_, _, rfl⟩
theorem g5 (hF : Fo n t) (hn : n < 2 ^ 80) (hv : VR 100 es) (hl : 2 ≤ es.length ∧ es.length ≤ 192) (q : ∀ t' x7 x8, D.nx (L9 ns x1 (some t') x3 x4 x5 (some (.lst false (EL es))) x7 x8)) : w_law_1_5 D (L9 ns x1 (some t) x3 x4 x5 (some (.lst true (EL es))) x7 x8) := by
  refine ⟨rfl, t, true, es, n, rfl, hF, by omega, hv, hl, fun t1 bs hbs hF1 => ?_⟩
  have ef := bs_frz hbs
  refine ⟨fun i Δ => ∃ x7 x8, Δ = L9 ns x1 (some t1) x3 x4 x5 (some (.lst false (EL es))) x7 x8, ⟨_, _, rfl⟩, ?_, fun Δ ⟨x7, x8, e⟩ => e ▸ q t1 x7 x8⟩
  rintro i y Δ hy ⟨x7, x8, rfl⟩
  have hy : (frzL (bsT bs))[i]? = some y := hy
  rw [ef, List.getElem?_map] at hy
  cases hp : bs[i]? with
  | none => rw [hp] at hy; cases hy
  | some p =>
    rw [hp] at hy
    obtain rfl := Option.some.inj hy
    have hb := hbs.2 p (List.mem_of_getElem? hp)
    refine ⟨rfl, rfl, at_told hb.dat (shw hb.1) (.c2 hb.2) ?_⟩
    refine ite_no (c := nb true (decide (recT p.2 = recT p.2))) (by rw [decide_eq_true rfl]; rfl) ?_
    exact ⟨_, _, rfl⟩
theorem vr_nil : VR 100 [] := ⟨fun _ z => (nomatch z), Nat.zero_le _, rfl⟩
theorem g6 (hx : x.Ok MX) (hv : VR 100 es) (hl : es.length ≤ 192) (q : D.nx (L9 ns x1 x2 x3 x4 (some x.t) (some (.lst false (EL es))) x7 x8)) : w_law_1_6 D (L9 ns x1 x2 x3 x4 (some x.t) (some (.lst false (EL es))) x7 x8) := by
  have ix := hx.it
  have ie := rec_it hv hl
  have en : frz (.lst true []) = .lst false (EL []) := rfl
  refine ⟨rfl, at_told ix.1 (.inl (ix.ok (by decide) (by decide))) (.f1 hx) ⟨rfl, at_told ie.1 (.inl (ie.ok (by decide) (by decide))) (.f2 hv) ⟨Nat.zero_le _, rfl, at_told2 en rfl (.inr (by decide +kernel)) (.f2 vr_nil) ⟨z3, z1, rfl, by decide, by decide, z3, ?_⟩⟩⟩⟩
  dsimp only [onV, onVs, look, List.getElem?_cons_zero, List.getElem?_cons_succ, List.set_cons_zero, List.set_cons_succ, wOp, wV, wC, wUn, wCl, wCons, wNil, wTest, backs]
  refine eq_repF (u := "fine") (k := 3) (by decide +kernel) ?_
  exact q
theorem txt0 : txtU [] = "" := by decide +kernel
theorem txt2 : txtU [⟨0, "sl", 2⟩, ⟨24, "s", 1⟩] = "0:sl*2 24:s*1" := by decide +kernel
theorem gl2 (q : ∀ Δ, D.rt (.bl true) Δ) : w_law_2 D (L9 ns x1 x2 x3 x4 x5 x6 x7 x8) := by
  have h0 : ∀ r ∈ ([] : List R3), R3.Ok r := fun _ z => (nomatch z)
  have h2 : ∀ r ∈ ([⟨0, "sl", 2⟩, ⟨24, "s", 1⟩] : List R3), R3.Ok r := by
    intro r hr
    simp only [List.mem_cons, List.not_mem_nil, or_false] at hr
    rcases hr with rfl | rfl
    · exact ⟨by decide, .inr (.inr (.inl rfl)), by decide⟩
    · exact ⟨by decide, .inl rfl, by decide⟩
  refine ⟨Nat.zero_le _, rfl, at_fruns (rs := []) h0 (by decide) ⟨z3, z3, z2, rfl, at_fruns (rs := [⟨0, "sl", 2⟩, ⟨24, "s", 1⟩]) h2 (by decide) ⟨z2, z2, ?_⟩⟩⟩
  dsimp only [onV, onVs, look, List.getElem?_cons_zero, List.getElem?_cons_succ, List.set_cons_zero, List.set_cons_succ, wOp, wV, wC, wUn, wCl, wCons, wNil, wTest, backs]
  rw [txt0, txt2]
  refine ⟨⟨by decide +kernel, by decide +kernel⟩, by decide +kernel, ?_⟩
  have e : eqT (.lst true [.str "", .str "0:sl*2 24:s*1"]) (.lst true [.str "", .str "0:sl*2 24:s*1"]) = true := eqT_refl (by decide +kernel)
  show D.rt (.bl (if false = true then _ else eqT (.lst true [.str "", .str "0:sl*2 24:s*1"]) (.lst true [.str "", .str "0:sl*2 24:s*1"]))) _
  rw [e]
  exact q _
end
theorem v_law : ∀ ts Qf, S_law ts Qf → w_law (endsD 0 ts Qf) (startD N_law 0 ts) := by
  rintro ts Qf ⟨o, ns, rfl, q⟩
  show w_law (endsD 0 [.lst o (ns.map .int)] Qf) [some (.lst false (frzL (ns.map .int))), none, none, none, none, none, none, none, none]
  have fin : ∀ Δ, (endsD 0 [.lst o (ns.map .int)] Qf).rt (.bl true) Δ := fun Δ => q _
  rw [ints_frz]
  revert fin
  generalize endsD 0 [.lst o (ns.map .int)] Qf = D
  intro fin
  have hb : (1 : Int) ≤ (if (if ((ns.map T.int).length : Int) < 3 then ((ns.map T.int).length : Int) else 3) > 1 then (if ((ns.map T.int).length : Int) < 3 then ((ns.map T.int).length : Int) else 3) else 1) ∧ (if (if ((ns.map T.int).length : Int) < 3 then ((ns.map T.int).length : Int) else 3) > 1 then (if ((ns.map T.int).length : Int) < 3 then ((ns.map T.int).length : Int) else 3) else 1) ≤ 3 := by
    split <;> split <;> omega
  refine sq ⟨by omega, by omega, fun i Δ => ∃ x1 x2 x3 x4 x5 x6 x7 x8, Δ = L9 ns x1 x2 x3 x4 x5 x6 x7 x8, ⟨none, none, none, none, none, none, none, none, rfl⟩, ?_, ?_⟩
  · rintro i y Δ hy ⟨x1, x2, x3, x4, x5, x6, x7, x8, rfl⟩
    obtain ⟨hi, rfl⟩ := rng_at hy
    refine sq (g1 (k := (i : Int)) (by omega) fun t hF => ?_)
    dsimp only
    refine sq (g2 hF (by omega) fun t1 y3 y4 hF1 => ?_)
    dsimp only
    refine sq (g3 hF1 (by omega) fun t2 x es hx hv hl hF2 => ?_)
    dsimp only
    refine sq (g4 hF2 (by omega) hx fun t3 y7 y8 hF3 => ?_)
    dsimp only
    refine sq (g5 hF3 (by omega) hv hl fun t4 z7 z8 => ?_)
    dsimp only
    exact g6 hx hv hl.2 ⟨_, _, _, _, _, _, _, _, rfl⟩
  · rintro Δ ⟨x1, x2, x3, x4, x5, x6, x7, x8, rfl⟩
    exact gl2 fin
end TL

set_option maxRecDepth 100000
set_option maxHeartbeats 1000000
namespace TL
open PySem PySem.Spec PyProof.Rows L2
def top (i : Nat) : Stmt := PySem.Challenge.pw_squeezedkeyer_k66_runs_as_texts.main.body.getD i (.Pass ⟨0, 0, 0, 0⟩)
abbrev s_is_integer : Stmt := top 25
abbrev s_is_one_of : Stmt := top 26
abbrev s_rules_flags : Stmt := top 27
abbrev s_require_rules : Stmt := top 28
abbrev s_is_event : Stmt := top 29
abbrev s_fault_of_record : Stmt := top 30
abbrev s_require_record : Stmt := top 31
abbrev s_is_kinds_item : Stmt := top 32
abbrev s_format_rules : Stmt := top 35
abbrev s_format_record : Stmt := top 36
abbrev s_format_runs : Stmt := top 37
abbrev s__law_fount : Stmt := top 39
abbrev s__law_dip : Stmt := top 40
abbrev s__law_rules : Stmt := top 41
abbrev s__law_record : Stmt := top 42
abbrev s__law_fields : Stmt := top 43
abbrev s__law_class : Stmt := top 44
abbrev s__law_bad_rules : Stmt := top 45
abbrev s__law_bad_records : Stmt := top 46
abbrev s__law_told : Stmt := top 47
abbrev s__law_some_runs : Stmt := top 48
abbrev s__law_right : Stmt := top 49
abbrev s__law_wrong_right : Stmt := top 50
abbrev s_law : Stmt := top 51
structure Gm (K : Frag) (mg : Str → Option Value) : Prop where
  b_ValueError : mg "ValueError" = none
  b_abs : mg "abs" = none
  b_bool : mg "bool" = none
  b_enumerate : mg "enumerate" = none
  b_int : mg "int" = none
  b_isinstance : mg "isinstance" = none
  b_len : mg "len" = none
  b_list : mg "list" = none
  b_max : mg "max" = none
  b_min : mg "min" = none
  b_range : mg "range" = none
  b_repr : mg "repr" = none
  b_str : mg "str" = none
  b_tuple : mg "tuple" = none
  c_LEVERS : ∃ a, mg "LEVERS" = some (.ref a) ∧ ∀ B H, Rp K B H (.ref a) (.tup [.str "s", .str "l"]) []
  c_MOST_EVENTS : ∃ t, mg "MOST_EVENTS" = some (Value.int 200 t)
  c_NO_YES : ∃ a, mg "NO_YES" = some (.ref a) ∧ ∀ B H, Rp K B H (.ref a) (.tup [.str "no", .str "yes"]) []
  c_PREFERENCES : ∃ a, mg "PREFERENCES" = some (.ref a) ∧ ∀ B H, Rp K B H (.ref a) (.tup [.str "turn", .str "stay", .str "s", .str "l"]) []
  c_REMEMBERS : ∃ a, mg "REMEMBERS" = some (.ref a) ∧ ∀ B H, Rp K B H (.ref a) (.tup [.str "none", .str "press", .str "held"]) []
  c_WORDS : ∃ a, mg "WORDS" = some (.ref a) ∧ ∀ B H, Rp K B H (.ref a) (.tup [.str "s", .str "l", .str "sl", .str "ls"]) []
section
variable {P : Program} {w : World} {K : Frag} {mg : Str → Option Value} {base : Heap}
abbrev si_InvalidCases : Stmt := (cbody (top 15)).getD 0 (.Pass ⟨0, 0, 0, 0⟩)
theorem sci_InvalidCases : FnScope ["self", "index"] ["self", "index"] (defScope si_InvalidCases) := ⟨rfl, rfl, rfl, by decide +kernel, rfl, by decide +kernel, by decide +kernel⟩
theorem i_InvalidCases {CK fI : Addr} {oc : Value} {od an : Option Addr} {dV kV dc pm cd ct : Value} {sl : Array (Option Value)} (B : BaseAt K mg "KeyerError" CK) (l : K.lookup fI = some ⟨oc, od, .func (PySem.W.fnOf "__init__" "InvalidCases.__init__" (defArgs si_InvalidCases) (defBody si_InvalidCases) (defScope si_InvalidCases) dV kV dc pm an cd ct), sl⟩) (hc : PySem.W.codeIn K cd "InvalidCases.__init__" = true) :
    FnOk P w K mg base CX0 1 fI (PySem.W.fnOf "__init__" "InvalidCases.__init__" (defArgs si_InvalidCases) (defBody si_InvalidCases) (defScope si_InvalidCases) dV kV dc pm an cd ct) ["self", "index"] (spI K ["index"]) :=
  fn_of (N := ["self", "index"]) l hc sci_InvalidCases (spI_len rfl) fun A outer s H vs Q E _ hs => ⟨_, pss_cons (ps_expr (pe_baseInit (by rfl) B (pa_cons (pe_var (i := 0) rfl (.inl rfl)) (pa_cons pe_str pa_nil))) rfl) (pss_one (ps_ost (pe_var (i := 0) rfl (.inl rfl)) (pe_var (i := 1) rfl (.inl rfl)))), init1 rfl hs⟩
abbrev si_InvalidCode : Stmt := (cbody (top 16)).getD 0 (.Pass ⟨0, 0, 0, 0⟩)
theorem sci_InvalidCode : FnScope ["self", "letter"] ["self", "letter"] (defScope si_InvalidCode) := ⟨rfl, rfl, rfl, by decide +kernel, rfl, by decide +kernel, by decide +kernel⟩
theorem i_InvalidCode {CK fI : Addr} {oc : Value} {od an : Option Addr} {dV kV dc pm cd ct : Value} {sl : Array (Option Value)} (B : BaseAt K mg "KeyerError" CK) (l : K.lookup fI = some ⟨oc, od, .func (PySem.W.fnOf "__init__" "InvalidCode.__init__" (defArgs si_InvalidCode) (defBody si_InvalidCode) (defScope si_InvalidCode) dV kV dc pm an cd ct), sl⟩) (hc : PySem.W.codeIn K cd "InvalidCode.__init__" = true) :
    FnOk P w K mg base CX0 1 fI (PySem.W.fnOf "__init__" "InvalidCode.__init__" (defArgs si_InvalidCode) (defBody si_InvalidCode) (defScope si_InvalidCode) dV kV dc pm an cd ct) ["self", "letter"] (spI K ["letter"]) :=
  fn_of (N := ["self", "letter"]) l hc sci_InvalidCode (spI_len rfl) fun A outer s H vs Q E _ hs => ⟨_, pss_cons (ps_expr (pe_baseInit (by rfl) B (pa_cons (pe_var (i := 0) rfl (.inl rfl)) (pa_cons pe_str pa_nil))) rfl) (pss_one (ps_ost (pe_var (i := 0) rfl (.inl rfl)) (pe_var (i := 1) rfl (.inl rfl)))), init1 rfl hs⟩
abbrev si_InvalidKinds : Stmt := (cbody (top 14)).getD 0 (.Pass ⟨0, 0, 0, 0⟩)
theorem sci_InvalidKinds : FnScope ["self", "index"] ["self", "index"] (defScope si_InvalidKinds) := ⟨rfl, rfl, rfl, by decide +kernel, rfl, by decide +kernel, by decide +kernel⟩
theorem i_InvalidKinds {CK fI : Addr} {oc : Value} {od an : Option Addr} {dV kV dc pm cd ct : Value} {sl : Array (Option Value)} (B : BaseAt K mg "KeyerError" CK) (l : K.lookup fI = some ⟨oc, od, .func (PySem.W.fnOf "__init__" "InvalidKinds.__init__" (defArgs si_InvalidKinds) (defBody si_InvalidKinds) (defScope si_InvalidKinds) dV kV dc pm an cd ct), sl⟩) (hc : PySem.W.codeIn K cd "InvalidKinds.__init__" = true) :
    FnOk P w K mg base CX0 1 fI (PySem.W.fnOf "__init__" "InvalidKinds.__init__" (defArgs si_InvalidKinds) (defBody si_InvalidKinds) (defScope si_InvalidKinds) dV kV dc pm an cd ct) ["self", "index"] (spI K ["index"]) :=
  fn_of (N := ["self", "index"]) l hc sci_InvalidKinds (spI_len rfl) fun A outer s H vs Q E _ hs => ⟨_, pss_cons (ps_expr (pe_baseInit (by rfl) B (pa_cons (pe_var (i := 0) rfl (.inl rfl)) (pa_cons pe_str pa_nil))) rfl) (pss_one (ps_ost (pe_var (i := 0) rfl (.inl rfl)) (pe_var (i := 1) rfl (.inl rfl)))), init1 rfl hs⟩
abbrev si_InvalidRecord : Stmt := (cbody (top 12)).getD 0 (.Pass ⟨0, 0, 0, 0⟩)
theorem sci_InvalidRecord : FnScope ["self", "index"] ["self", "index"] (defScope si_InvalidRecord) := ⟨rfl, rfl, rfl, by decide +kernel, rfl, by decide +kernel, by decide +kernel⟩
theorem i_InvalidRecord {CK fI : Addr} {oc : Value} {od an : Option Addr} {dV kV dc pm cd ct : Value} {sl : Array (Option Value)} (B : BaseAt K mg "KeyerError" CK) (l : K.lookup fI = some ⟨oc, od, .func (PySem.W.fnOf "__init__" "InvalidRecord.__init__" (defArgs si_InvalidRecord) (defBody si_InvalidRecord) (defScope si_InvalidRecord) dV kV dc pm an cd ct), sl⟩) (hc : PySem.W.codeIn K cd "InvalidRecord.__init__" = true) :
    FnOk P w K mg base CX0 1 fI (PySem.W.fnOf "__init__" "InvalidRecord.__init__" (defArgs si_InvalidRecord) (defBody si_InvalidRecord) (defScope si_InvalidRecord) dV kV dc pm an cd ct) ["self", "index"] (spI K ["index"]) :=
  fn_of (N := ["self", "index"]) l hc sci_InvalidRecord (spI_len rfl) fun A outer s H vs Q E _ hs => ⟨_, pss_cons (ps_expr (pe_baseInit (by rfl) B (pa_cons (pe_var (i := 0) rfl (.inl rfl)) (pa_cons pe_str pa_nil))) rfl) (pss_one (ps_ost (pe_var (i := 0) rfl (.inl rfl)) (pe_var (i := 1) rfl (.inl rfl)))), init1 rfl hs⟩
abbrev si_InvalidRules : Stmt := (cbody (top 11)).getD 0 (.Pass ⟨0, 0, 0, 0⟩)
theorem sci_InvalidRules : FnScope ["self", "index"] ["self", "index"] (defScope si_InvalidRules) := ⟨rfl, rfl, rfl, by decide +kernel, rfl, by decide +kernel, by decide +kernel⟩
theorem i_InvalidRules {CK fI : Addr} {oc : Value} {od an : Option Addr} {dV kV dc pm cd ct : Value} {sl : Array (Option Value)} (B : BaseAt K mg "KeyerError" CK) (l : K.lookup fI = some ⟨oc, od, .func (PySem.W.fnOf "__init__" "InvalidRules.__init__" (defArgs si_InvalidRules) (defBody si_InvalidRules) (defScope si_InvalidRules) dV kV dc pm an cd ct), sl⟩) (hc : PySem.W.codeIn K cd "InvalidRules.__init__" = true) :
    FnOk P w K mg base CX0 1 fI (PySem.W.fnOf "__init__" "InvalidRules.__init__" (defArgs si_InvalidRules) (defBody si_InvalidRules) (defScope si_InvalidRules) dV kV dc pm an cd ct) ["self", "index"] (spI K ["index"]) :=
  fn_of (N := ["self", "index"]) l hc sci_InvalidRules (spI_len rfl) fun A outer s H vs Q E _ hs => ⟨_, pss_cons (ps_expr (pe_baseInit (by rfl) B (pa_cons (pe_var (i := 0) rfl (.inl rfl)) (pa_cons pe_str pa_nil))) rfl) (pss_one (ps_ost (pe_var (i := 0) rfl (.inl rfl)) (pe_var (i := 1) rfl (.inl rfl)))), init1 rfl hs⟩
abbrev si_InvalidRuns : Stmt := (cbody (top 13)).getD 0 (.Pass ⟨0, 0, 0, 0⟩)
theorem sci_InvalidRuns : FnScope ["self", "index"] ["self", "index"] (defScope si_InvalidRuns) := ⟨rfl, rfl, rfl, by decide +kernel, rfl, by decide +kernel, by decide +kernel⟩
theorem i_InvalidRuns {CK fI : Addr} {oc : Value} {od an : Option Addr} {dV kV dc pm cd ct : Value} {sl : Array (Option Value)} (B : BaseAt K mg "KeyerError" CK) (l : K.lookup fI = some ⟨oc, od, .func (PySem.W.fnOf "__init__" "InvalidRuns.__init__" (defArgs si_InvalidRuns) (defBody si_InvalidRuns) (defScope si_InvalidRuns) dV kV dc pm an cd ct), sl⟩) (hc : PySem.W.codeIn K cd "InvalidRuns.__init__" = true) :
    FnOk P w K mg base CX0 1 fI (PySem.W.fnOf "__init__" "InvalidRuns.__init__" (defArgs si_InvalidRuns) (defBody si_InvalidRuns) (defScope si_InvalidRuns) dV kV dc pm an cd ct) ["self", "index"] (spI K ["index"]) :=
  fn_of (N := ["self", "index"]) l hc sci_InvalidRuns (spI_len rfl) fun A outer s H vs Q E _ hs => ⟨_, pss_cons (ps_expr (pe_baseInit (by rfl) B (pa_cons (pe_var (i := 0) rfl (.inl rfl)) (pa_cons pe_str pa_nil))) rfl) (pss_one (ps_ost (pe_var (i := 0) rfl (.inl rfl)) (pe_var (i := 1) rfl (.inl rfl)))), init1 rfl hs⟩
abbrev si_InvalidSyntax : Stmt := (cbody (top 18)).getD 0 (.Pass ⟨0, 0, 0, 0⟩)
theorem sci_InvalidSyntax : FnScope ["self", "line", "word"] ["self", "line", "word"] (defScope si_InvalidSyntax) := ⟨rfl, rfl, rfl, by decide +kernel, rfl, by decide +kernel, by decide +kernel⟩
theorem i_InvalidSyntax {CK fI : Addr} {oc : Value} {od an : Option Addr} {dV kV dc pm cd ct : Value} {sl : Array (Option Value)} (B : BaseAt K mg "KeyerError" CK) (l : K.lookup fI = some ⟨oc, od, .func (PySem.W.fnOf "__init__" "InvalidSyntax.__init__" (defArgs si_InvalidSyntax) (defBody si_InvalidSyntax) (defScope si_InvalidSyntax) dV kV dc pm an cd ct), sl⟩) (hc : PySem.W.codeIn K cd "InvalidSyntax.__init__" = true) :
    FnOk P w K mg base CX0 1 fI (PySem.W.fnOf "__init__" "InvalidSyntax.__init__" (defArgs si_InvalidSyntax) (defBody si_InvalidSyntax) (defScope si_InvalidSyntax) dV kV dc pm an cd ct) ["self", "line", "word"] (spI K ["line", "word"]) :=
  fn_of (N := ["self", "line", "word"]) l hc sci_InvalidSyntax (spI_len rfl) fun A outer s H vs Q E _ hs => ⟨_, pss_cons (ps_expr (pe_baseInit (by rfl) B (pa_cons (pe_var (i := 0) rfl (.inl rfl)) (pa_cons pe_str pa_nil))) rfl) (pss_cons (ps_ost (pe_var (i := 0) rfl (.inl rfl)) (pe_var (i := 1) rfl (.inl rfl))) (pss_one (ps_ost (pe_var (i := 0) rfl (.inl rfl)) (pe_var (i := 2) rfl (.inl rfl))))), init2 rfl hs⟩
abbrev si_TooLarge : Stmt := (cbody (top 17)).getD 0 (.Pass ⟨0, 0, 0, 0⟩)
theorem sci_TooLarge : FnScope ["self", "limit"] ["self", "limit"] (defScope si_TooLarge) := ⟨rfl, rfl, rfl, by decide +kernel, rfl, by decide +kernel, by decide +kernel⟩
theorem i_TooLarge {CK fI : Addr} {oc : Value} {od an : Option Addr} {dV kV dc pm cd ct : Value} {sl : Array (Option Value)} (B : BaseAt K mg "KeyerError" CK) (l : K.lookup fI = some ⟨oc, od, .func (PySem.W.fnOf "__init__" "TooLarge.__init__" (defArgs si_TooLarge) (defBody si_TooLarge) (defScope si_TooLarge) dV kV dc pm an cd ct), sl⟩) (hc : PySem.W.codeIn K cd "TooLarge.__init__" = true) :
    FnOk P w K mg base CX0 1 fI (PySem.W.fnOf "__init__" "TooLarge.__init__" (defArgs si_TooLarge) (defBody si_TooLarge) (defScope si_TooLarge) dV kV dc pm an cd ct) ["self", "limit"] (spI K ["limit"]) :=
  fn_of (N := ["self", "limit"]) l hc sci_TooLarge (spI_len rfl) fun A outer s H vs Q E _ hs => ⟨_, pss_cons (ps_expr (pe_baseInit (by rfl) B (pa_cons (pe_var (i := 0) rfl (.inl rfl)) (pa_cons pe_str pa_nil))) rfl) (pss_one (ps_ost (pe_var (i := 0) rfl (.inl rfl)) (pe_var (i := 1) rfl (.inl rfl)))), init1 rfl hs⟩
theorem sc_is_integer : FnScope N_is_integer ["value", "least"] (defScope s_is_integer) := ⟨rfl, rfl, rfl, by decide +kernel, rfl, by decide +kernel, by decide +kernel⟩
theorem t_is_integer (g : Gm K mg) (sys : SysAt base)  {f : Addr} {fd : FuncData} {dV : Value} (F : DefAt K mg "is_integer" "is_integer" s_is_integer f fd dV) : FnG P w K mg base CX0 1 f fd ["value", "least"] (spT K S_is_integer) := by
  refine def_ok (N := N_is_integer) (k := 0) 0 F sc_is_integer l_is_integer (by decide) fun cdv A outer s H E hr hgd => ⟨w_is_integer, ?_, v_is_integer⟩
  have nd := sc_is_integer.nd
  have hu64 := hr.units
  have hu := hu_of hr
  exact (css_cons (cs_if ((cw_or (ct_not (ct_tru (ce_callB call_isi l_isi (by rfl) g.b_isinstance bt_isinstance (ca_cons (ce_var 0) (ca_cons (ce_bltn (v := .ty "int") (by rfl) g.b_int bt_int rfl fun _ _ => .ty "int") ca_nil))))) (cw_or1 (ct_tru (ce_callB call_isi l_isi (by rfl) g.b_isinstance bt_isinstance (ca_cons (ce_var 0) (ca_cons (ce_bltn (v := .ty "bool") (by rfl) g.b_bool bt_bool rfl fun _ _ => .ty "bool") ca_nil))))))).ct (css_one (cs_ret ce_bl)) css_nil) (css_one (cs_ret (ce_or (ce_cmp op_isA l_is (ce_var 1) ce_non rfl) (ce_one (ce_cmp op_ge l_cmp (ce_var 0) (ce_var 1) rfl))))))
theorem sc_is_one_of : FnScope N_is_one_of ["value", "words"] (defScope s_is_one_of) := ⟨rfl, rfl, rfl, by decide +kernel, rfl, by decide +kernel, by decide +kernel⟩
theorem t_is_one_of (g : Gm K mg) (sys : SysAt base)  {f : Addr} {fd : FuncData} {dV : Value} (F : DefAt K mg "is_one_of" "is_one_of" s_is_one_of f fd dV) : FnG P w K mg base CX0 1 f fd ["value", "words"] (spT K S_is_one_of) := by
  refine def_ok (N := N_is_one_of) (k := 0) 0 F sc_is_one_of l_is_one_of (by decide) fun cdv A outer s H E hr hgd => ⟨w_is_one_of, ?_, v_is_one_of⟩
  have nd := sc_is_one_of.nd
  have hu64 := hr.units
  have hu := hu_of hr
  exact (css_one (cs_ret (ce_and (ce_callB call_isi l_isi (by rfl) g.b_isinstance bt_isinstance (ca_cons (ce_var 0) (ca_cons (ce_bltn (v := .ty "str") (by rfl) g.b_str bt_str rfl fun _ _ => .ty "str") ca_nil))) (ce_one (ce_in op_inA l_in (ce_var 0) (ce_var 1))))))
theorem sc_rules_flags : FnScope N_rules_flags ["value"] (defScope s_rules_flags) := ⟨rfl, rfl, rfl, by decide +kernel, rfl, by decide +kernel, by decide +kernel⟩
theorem t_rules_flags (g : Gm K mg) (sys : SysAt base) (c_is_integer : Cal P w K mg base 1 "is_integer" [] S_is_integer) (c_is_one_of : Cal P w K mg base 1 "is_one_of" [] S_is_one_of) {f : Addr} {fd : FuncData} {dV : Value} (F : DefAt K mg "rules_flags" "rules_flags" s_rules_flags f fd dV) : FnG P w K mg base CX0 2 f fd ["value"] (spT K S_rules_flags) := by
  obtain ⟨a_PREFERENCES, k_PREFERENCES⟩ := g.c_PREFERENCES
  obtain ⟨a_REMEMBERS, k_REMEMBERS⟩ := g.c_REMEMBERS
  refine def_ok (N := N_rules_flags) (k := 1) 0 F sc_rules_flags l_rules_flags (by decide) fun cdv A outer s H E hr hgd => ⟨w_rules_flags, ?_, v_rules_flags⟩
  have nd := sc_rules_flags.nd
  have hu64 := hr.units
  have hu := hu_of hr
  exact (css_cons (cs_setLc (i := 1) (own := [("item", 2)]) rfl nd rfl rfl (by decide) (sw_true rfl rfl rfl (by decide +kernel)) (ci_tup (ce_slice (ce_var 0) co_none (co_some ce_int))) (blkOk_by (N := N_rules_flags) (sc := defScope s_rules_flags) (by decide +kernel)) (fun _ _ _ _ _ => (cg_own (i := 2) nd rfl (Or.inl rfl) (by decide))) (fun _ _ _ _ _ => cts_nil) (fun _ _ _ _ _ => (ce_cal c_is_integer hr (by decide) hgd (by rfl) (ca_cons (ce_var 2) (ca_cons ce_int ca_nil))))) (css_cons (cs_expr (ce_app (i := 1) (ce_cal c_is_integer hr (by decide) hgd (by rfl) (ca_cons (ce_ix (ce_var 0) ce_int) (ca_cons ce_int ca_nil))))) (css_one (cs_ret (ce_lst (ca_star (ce_var 1) (ca_cons (ce_cal c_is_one_of hr (by decide) hgd (by rfl) (ca_cons (ce_ix (ce_var 0) ce_int) (ca_cons (ce_glob (v := .ref a_REMEMBERS) (by rfl) k_REMEMBERS.1 rfl k_REMEMBERS.2) ca_nil))) (ca_cons (ce_callB call_isi l_isi (by rfl) g.b_isinstance bt_isinstance (ca_cons (ce_ix (ce_var 0) ce_int) (ca_cons (ce_bltn (v := .ty "bool") (by rfl) g.b_bool bt_bool rfl fun _ _ => .ty "bool") ca_nil))) (ca_cons (ce_cal c_is_one_of hr (by decide) hgd (by rfl) (ca_cons (ce_ix (ce_var 0) ce_int) (ca_cons (ce_glob (v := .ref a_PREFERENCES) (by rfl) k_PREFERENCES.1 rfl k_PREFERENCES.2) ca_nil))) ca_nil)))))))))
theorem sc_require_rules : FnScope N_require_rules ["value"] (defScope s_require_rules) := ⟨rfl, rfl, rfl, by decide +kernel, rfl, by decide +kernel, by decide +kernel⟩
theorem t_require_rules (g : Gm K mg) (sys : SysAt base) (x_InvalidRules : ExcAt P w K mg base "InvalidRules" ["index"]) (c_rules_flags : Cal P w K mg base 2 "rules_flags" [] S_rules_flags) {f : Addr} {fd : FuncData} {dV : Value} (F : DefAt K mg "require_rules" "require_rules" s_require_rules f fd dV) : FnG P w K mg base (L2N.CX P w) 3 f fd ["value"] (spT K S_require_rules) := by
  refine def_okX (N := N_require_rules) (k := 2) 0 F sc_require_rules l_require_rules (by decide) fun cdv A outer s H E hr hgd => ⟨w_require_rules, ?_, v_require_rules⟩
  have nd := sc_require_rules.nd
  have hu64 := hr.units
  have hu := hu_of hr
  exact (css_cons (cs_if ((cw_or (ct_not (ct_tru (ce_callB call_isi l_isi (by rfl) g.b_isinstance bt_isinstance (ca_cons (ce_var 0) (ca_cons (ce_bltn (v := .ty "tuple") (by rfl) g.b_tuple bt_tuple rfl fun _ _ => .ty "tuple") ca_nil))))) (cw_or1 (ct_cmp (op_neA hu64) l_eqS (ce_callB call_lenA l_len (by rfl) g.b_len bt_len (ca_cons (ce_var 0) ca_nil)) ce_int rfl)))).ct (css_one (cs_raise x_InvalidRules hr (by decide) rfl (by rfl) (ca_cons ce_non ca_nil))) css_nil) (css_cons (cs_set (i := 1) nd rfl (Or.inl rfl) (by decide) (ce_cal c_rules_flags hr (by decide) hgd (by rfl) (ca_cons (ce_var 0) ca_nil))) (css_one (cs_if (ct_in op_inA l_in ce_bl (ce_var 1)) (css_one (cs_raise x_InvalidRules hr (by decide) rfl (by rfl) (ca_cons (ce_lindex (ce_var 1) ce_bl) ca_nil))) css_nil))))
theorem sc_is_event : FnScope N_is_event ["value"] (defScope s_is_event) := ⟨rfl, rfl, rfl, by decide +kernel, rfl, by decide +kernel, by decide +kernel⟩
theorem t_is_event (g : Gm K mg) (sys : SysAt base) (c_is_integer_1 : Cal P w K mg base 1 "is_integer" [.non] S_is_integer) (c_is_one_of : Cal P w K mg base 1 "is_one_of" [] S_is_one_of) {f : Addr} {fd : FuncData} {dV : Value} (F : DefAt K mg "is_event" "is_event" s_is_event f fd dV) : FnG P w K mg base CX0 2 f fd ["value"] (spT K S_is_event) := by
  obtain ⟨a_LEVERS, k_LEVERS⟩ := g.c_LEVERS
  refine def_ok (N := N_is_event) (k := 1) 0 F sc_is_event l_is_event (by decide) fun cdv A outer s H E hr hgd => ⟨w_is_event, ?_, v_is_event⟩
  have nd := sc_is_event.nd
  have hu64 := hr.units
  have hu := hu_of hr
  exact (css_cons (cs_if ((cw_or (ct_not (ct_tru (ce_callB call_isi l_isi (by rfl) g.b_isinstance bt_isinstance (ca_cons (ce_var 0) (ca_cons (ce_bltn (v := .ty "tuple") (by rfl) g.b_tuple bt_tuple rfl fun _ _ => .ty "tuple") ca_nil))))) (cw_or1 (ct_cmp (op_neA hu64) l_eqS (ce_callB call_lenA l_len (by rfl) g.b_len bt_len (ca_cons (ce_var 0) ca_nil)) ce_int rfl)))).ct (css_one (cs_ret ce_bl)) css_nil) (css_one (cs_ret (ce_and (ce_calD c_is_integer_1 rfl hr (by decide) hgd (by rfl) (ca_cons (ce_ix (ce_var 0) ce_int) ca_nil)) (ce_and (ce_cal c_is_one_of hr (by decide) hgd (by rfl) (ca_cons (ce_ix (ce_var 0) ce_int) (ca_cons (ce_glob (v := .ref a_LEVERS) (by rfl) k_LEVERS.1 rfl k_LEVERS.2) ca_nil))) (ce_one (ce_callB call_isi l_isi (by rfl) g.b_isinstance bt_isinstance (ca_cons (ce_ix (ce_var 0) ce_int) (ca_cons (ce_bltn (v := .ty "bool") (by rfl) g.b_bool bt_bool rfl fun _ _ => .ty "bool") ca_nil)))))))))
theorem sc_fault_of_record : FnScope N_fault_of_record ["value"] (defScope s_fault_of_record) := ⟨rfl, rfl, rfl, by decide +kernel, rfl, by decide +kernel, by decide +kernel⟩
theorem t_fault_of_record (g : Gm K mg) (sys : SysAt base) (c_is_event : Cal P w K mg base 2 "is_event" [] S_is_event) {f : Addr} {fd : FuncData} {dV : Value} (F : DefAt K mg "fault_of_record" "fault_of_record" s_fault_of_record f fd dV) : FnG P w K mg base CX0 3 f fd ["value"] (spT K S_fault_of_record) := by
  obtain ⟨a_MOST_EVENTS, k_MOST_EVENTS⟩ := g.c_MOST_EVENTS
  refine def_ok (N := N_fault_of_record) (k := 2) 0 F sc_fault_of_record l_fault_of_record (by decide) fun cdv A outer s H E hr hgd => ⟨w_fault_of_record, ?_, v_fault_of_record⟩
  have nd := sc_fault_of_record.nd
  have hu64 := hr.units
  have hu := hu_of hr
  exact (css_cons (cs_if ((cw_or (ct_not (ct_tru (ce_callB call_isi l_isi (by rfl) g.b_isinstance bt_isinstance (ca_cons (ce_var 0) (ca_cons (ce_bltn (v := .ty "list") (by rfl) g.b_list bt_list rfl fun _ _ => .ty "list") ca_nil))))) (cw_or1 (ct_cmp op_gt l_cmp (ce_callB call_lenA l_len (by rfl) g.b_len bt_len (ca_cons (ce_var 0) ca_nil)) (ce_glob (v := .int 200) (by rfl) k_MOST_EVENTS ⟨_, rfl⟩ fun _ _ => .int 200) rfl)))).ct (css_one (cs_ret (ce_lst (ca_cons ce_non ca_nil)))) css_nil) (css_cons (cs_par (i := 1) (j := 2) rfl nd rfl rfl (by decide) rfl rfl (by decide) (by decide) (ca_cons (ce_lst ca_nil) (ca_cons ce_non ca_nil)) rfl) (css_cons (cs_for PassesOwn.never rfl (ci_enum (by rfl) g.b_enumerate (ca_cons (ce_var 0) ca_nil)) (cg_tup rfl (cgs_cons (cg_name (i := 3) nd rfl (Or.inl rfl) (by decide)) (cgs_cons (cg_name (i := 4) nd rfl (Or.inl rfl) (by decide)) cgs_nil))) (css_cons (cs_if (ct_not (ct_tru (ce_cal c_is_event hr (by decide) hgd (by rfl) (ca_cons (ce_var 4) ca_nil)))) (css_one (cs_ret (ce_lst (ca_cons (ce_var 3) ca_nil)))) css_nil) (css_cons (cs_asg (ce_var 4) (cg_tup rfl (cgs_cons (cg_name (i := 5) nd rfl (Or.inl rfl) (by decide)) (cgs_cons (cg_name (i := 6) nd rfl (Or.inr rfl) (by decide)) (cgs_cons (cg_name (i := 7) nd rfl (Or.inl rfl) (by decide)) cgs_nil))))) (css_cons (cs_if ((cw_or ((cw_and (ct_cmp op_isNotA l_is (ce_var 2) ce_non rfl) (cw_and1 (ct_cmp op_lt l_cmp (ce_var 5) (ce_var 2) rfl)))).ct (cw_or1 (ct_cmp (op_eqA hu64) l_eqS (ce_var 7) (ce_in op_inA l_in (ce_var 6) (ce_var 1)) rfl)))).ct (css_one (cs_ret (ce_lst (ca_cons (ce_var 3) ca_nil)))) css_nil) (css_cons (cs_set (i := 1) nd rfl (Or.inl rfl) (by decide) (ce_ifE (ct_tru (ce_var 7)) (ce_lst (ca_star (ce_var 1) (ca_cons (ce_var 6) ca_nil))) (ce_lc (own := [("other", 8)]) rfl nd (ci_list (ce_var 1)) (blkOk_by (N := N_fault_of_record) (sc := defScope s_fault_of_record) (by decide +kernel)) (fun _ _ _ _ _ => (cg_own (i := 8) nd rfl (Or.inl rfl) (by decide))) (fun _ _ _ _ _ => (cts_one (ct_cmp (op_neA hu64) l_eqS (ce_var 8) (ce_var 6) rfl))) (fun _ _ _ _ _ => (ce_var 8))))) (css_one (cs_set (i := 2) nd rfl (Or.inl rfl) (by decide) (ce_var 5)))))))) (css_one (cs_ret (ce_ifE (ct_cmp (op_eqA hu64) l_eqS (ce_var 1) (ce_lst ca_nil) rfl) (ce_lst ca_nil) (ce_lst (ca_cons (ce_callB call_lenA l_len (by rfl) g.b_len bt_len (ca_cons (ce_var 0) ca_nil)) ca_nil))))))))
theorem sc_require_record : FnScope N_require_record ["value"] (defScope s_require_record) := ⟨rfl, rfl, rfl, by decide +kernel, rfl, by decide +kernel, by decide +kernel⟩
theorem t_require_record (g : Gm K mg) (sys : SysAt base) (x_InvalidRecord : ExcAt P w K mg base "InvalidRecord" ["index"]) (c_fault_of_record : Cal P w K mg base 3 "fault_of_record" [] S_fault_of_record) {f : Addr} {fd : FuncData} {dV : Value} (F : DefAt K mg "require_record" "require_record" s_require_record f fd dV) : FnG P w K mg base (L2N.CX P w) 4 f fd ["value"] (spT K S_require_record) := by
  refine def_okX (N := N_require_record) (k := 3) 0 F sc_require_record l_require_record (by decide) fun cdv A outer s H E hr hgd => ⟨w_require_record, ?_, v_require_record⟩
  have nd := sc_require_record.nd
  have hu64 := hr.units
  have hu := hu_of hr
  exact (css_one (cs_for (passes_of rfl) rfl (ci_list (ce_cal c_fault_of_record hr (by decide) hgd (by rfl) (ca_cons (ce_var 0) ca_nil))) (cg_name (i := 1) nd rfl (Or.inl rfl) (by decide)) (css_one (cs_raise x_InvalidRecord hr (by decide) rfl (by rfl) (ca_cons (ce_var 1) ca_nil)))))
theorem sc_is_kinds_item : FnScope N_is_kinds_item ["value"] (defScope s_is_kinds_item) := ⟨rfl, rfl, rfl, by decide +kernel, rfl, by decide +kernel, by decide +kernel⟩
theorem t_is_kinds_item (g : Gm K mg) (sys : SysAt base) (c_is_integer : Cal P w K mg base 1 "is_integer" [] S_is_integer) (c_is_one_of : Cal P w K mg base 1 "is_one_of" [] S_is_one_of) {f : Addr} {fd : FuncData} {dV : Value} (F : DefAt K mg "is_kinds_item" "is_kinds_item" s_is_kinds_item f fd dV) : FnG P w K mg base CX0 2 f fd ["value"] (spT K S_is_kinds_item) := by
  obtain ⟨a_WORDS, k_WORDS⟩ := g.c_WORDS
  refine def_ok (N := N_is_kinds_item) (k := 1) 0 F sc_is_kinds_item l_is_kinds_item (by decide) fun cdv A outer s H E hr hgd => ⟨w_is_kinds_item, ?_, v_is_kinds_item⟩
  have nd := sc_is_kinds_item.nd
  have hu64 := hr.units
  have hu := hu_of hr
  exact (css_one (cs_ret (ce_and (ce_callB call_isi l_isi (by rfl) g.b_isinstance bt_isinstance (ca_cons (ce_var 0) (ca_cons (ce_bltn (v := .ty "tuple") (by rfl) g.b_tuple bt_tuple rfl fun _ _ => .ty "tuple") ca_nil))) (ce_and (ce_cmp (op_eqA hu64) l_eqS (ce_callB call_lenA l_len (by rfl) g.b_len bt_len (ca_cons (ce_var 0) ca_nil)) ce_int rfl) (ce_and (ce_cal c_is_one_of hr (by decide) hgd (by rfl) (ca_cons (ce_ix (ce_var 0) ce_int) (ca_cons (ce_glob (v := .ref a_WORDS) (by rfl) k_WORDS.1 rfl k_WORDS.2) ca_nil))) (ce_one (ce_cal c_is_integer hr (by decide) hgd (by rfl) (ca_cons (ce_ix (ce_var 0) ce_int) (ca_cons ce_int ca_nil)))))))))
theorem sc_format_rules : FnScope N_format_rules ["rules"] (defScope s_format_rules) := ⟨rfl, rfl, rfl, by decide +kernel, rfl, by decide +kernel, by decide +kernel⟩
theorem t_format_rules (g : Gm K mg) (sys : SysAt base) (cx_require_rules : CalX P w K mg base 3 "require_rules" [] S_require_rules) {f : Addr} {fd : FuncData} {dV : Value} (F : DefAt K mg "format_rules" "format_rules" s_format_rules f fd dV) : FnG P w K mg base (L2N.CX P w) 4 f fd ["rules"] (spT K S_format_rules) := by
  obtain ⟨a_NO_YES, k_NO_YES⟩ := g.c_NO_YES
  refine def_okX (N := N_format_rules) (k := 3) 0 F sc_format_rules l_format_rules (by decide) fun cdv A outer s H E hr hgd => ⟨w_format_rules, ?_, v_format_rules⟩
  have nd := sc_format_rules.nd
  have hu64 := hr.units
  have hu := hu_of hr
  exact (css_cons (cs_callX cx_require_rules rfl hr (by decide) hgd (by rfl) (ca_cons (ce_var 0) ca_nil)) (css_cons (cs_setLc (i := 1) (own := [("number", 2)]) rfl nd rfl rfl (by decide) (sw_true rfl rfl rfl (by decide +kernel)) (ci_tup (ce_slice (ce_var 0) co_none (co_some ce_int))) (blkOk_by (N := N_format_rules) (sc := defScope s_format_rules) (by decide +kernel)) (fun _ _ _ _ _ => (cg_own (i := 2) nd rfl (Or.inl rfl) (by decide))) (fun _ _ _ _ _ => cts_nil) (fun _ _ _ _ _ => (ce_callTy call_strA l_str (by rfl) g.b_str bt_str (ca_cons (ce_var 2) ca_nil)))) (css_one (cs_ret (ce_mS PySem.F.slot_str_join PySem.F.type_str_join mt_join l_join ce_str (ca_cons (ce_lst (ca_star (ce_var 1) (ca_cons (ce_ix (ce_var 0) ce_int) (ca_cons (ce_ix (ce_glob (v := .ref a_NO_YES) (by rfl) k_NO_YES.1 rfl k_NO_YES.2) (ce_callTy call_int1 l_int (by rfl) g.b_int bt_int (ca_cons (ce_ix (ce_var 0) ce_int) ca_nil))) (ca_cons (ce_ix (ce_var 0) ce_int) ca_nil))))) ca_nil))))))
theorem sc_format_record : FnScope N_format_record ["record"] (defScope s_format_record) := ⟨rfl, rfl, rfl, by decide +kernel, rfl, by decide +kernel, by decide +kernel⟩
theorem t_format_record (g : Gm K mg) (sys : SysAt base) (cx_require_record : CalX P w K mg base 4 "require_record" [] S_require_record) {f : Addr} {fd : FuncData} {dV : Value} (F : DefAt K mg "format_record" "format_record" s_format_record f fd dV) : FnG P w K mg base (L2N.CX P w) 5 f fd ["record"] (spT K S_format_record) := by
  refine def_okX (N := N_format_record) (k := 4) 0 F sc_format_record l_format_record (by decide) fun cdv A outer s H E hr hgd => ⟨w_format_record, ?_, v_format_record⟩
  have nd := sc_format_record.nd
  have hu64 := hr.units
  have hu := hu_of hr
  exact (css_cons (cs_callX cx_require_record rfl hr (by decide) hgd (by rfl) (ca_cons (ce_var 0) ca_nil)) (css_one (cs_ret (ce_mS PySem.F.slot_str_join PySem.F.type_str_join mt_join l_join ce_str (ca_cons (ce_lc (own := [("tick", 1), ("lever", 2), ("is_pressed", 3)]) rfl nd (ci_list (ce_var 0)) (blkOk_by (N := N_format_record) (sc := defScope s_format_record) (by decide +kernel)) (fun _ _ _ _ _ => (cg_tup rfl (cgs_cons (cg_own (i := 1) nd rfl (Or.inl rfl) (by decide)) (cgs_cons (cg_own (i := 2) nd rfl (Or.inl rfl) (by decide)) (cgs_cons (cg_own (i := 3) nd rfl (Or.inl rfl) (by decide)) cgs_nil))))) (fun _ _ _ _ _ => cts_nil) (fun _ _ _ _ _ => (ce_joined (cj_cons (ce_fmt (ce_var 1)) (cj_cons (ce_fmt (ce_var 2)) (cj_cons (ce_fmt (ce_ifE (ct_tru (ce_var 3)) ce_str ce_str)) cj_nil)))))) ca_nil)))))
theorem sc_format_runs : FnScope N_format_runs ["runs"] (defScope s_format_runs) := ⟨rfl, rfl, rfl, by decide +kernel, rfl, by decide +kernel, by decide +kernel⟩
theorem t_format_runs (g : Gm K mg) (sys : SysAt base) (x_InvalidRuns : ExcAt P w K mg base "InvalidRuns" ["index"]) (c_is_integer_1 : Cal P w K mg base 1 "is_integer" [.non] S_is_integer) (c_is_kinds_item : Cal P w K mg base 2 "is_kinds_item" [] S_is_kinds_item) {f : Addr} {fd : FuncData} {dV : Value} (F : DefAt K mg "format_runs" "format_runs" s_format_runs f fd dV) : FnG P w K mg base (L2N.CX P w) 3 f fd ["runs"] (spT K S_format_runs) := by
  refine def_okX (N := N_format_runs) (k := 2) 0 F sc_format_runs l_format_runs (by decide) fun cdv A outer s H E hr hgd => ⟨w_format_runs, ?_, v_format_runs⟩
  have nd := sc_format_runs.nd
  have hu64 := hr.units
  have hu := hu_of hr
  exact (css_cons (cs_if (ct_not (ct_tru (ce_callB call_isi l_isi (by rfl) g.b_isinstance bt_isinstance (ca_cons (ce_var 0) (ca_cons (ce_bltn (v := .ty "list") (by rfl) g.b_list bt_list rfl fun _ _ => .ty "list") ca_nil))))) (css_one (cs_raise x_InvalidRuns hr (by decide) rfl (by rfl) (ca_cons ce_non ca_nil))) css_nil) (css_cons (cs_for (passes_of rfl) rfl (ci_enum (by rfl) g.b_enumerate (ca_cons (ce_var 0) ca_nil)) (cg_tup rfl (cgs_cons (cg_name (i := 1) nd rfl (Or.inl rfl) (by decide)) (cgs_cons (cg_name (i := 2) nd rfl (Or.inl rfl) (by decide)) cgs_nil))) (css_one (cs_if ((cw_or (ct_not (ct_tru (ce_callB call_isi l_isi (by rfl) g.b_isinstance bt_isinstance (ca_cons (ce_var 2) (ca_cons (ce_bltn (v := .ty "tuple") (by rfl) g.b_tuple bt_tuple rfl fun _ _ => .ty "tuple") ca_nil))))) (cw_or (ct_cmp (op_neA hu64) l_eqS (ce_callB call_lenA l_len (by rfl) g.b_len bt_len (ca_cons (ce_var 2) ca_nil)) ce_int rfl) (cw_or (ct_not (ct_tru (ce_calD c_is_integer_1 rfl hr (by decide) hgd (by rfl) (ca_cons (ce_ix (ce_var 2) ce_int) ca_nil)))) (cw_or1 (ct_not (ct_tru (ce_cal c_is_kinds_item hr (by decide) hgd (by rfl) (ca_cons (ce_slice (ce_var 2) (co_some ce_int) co_none) ca_nil))))))))).ct (css_one (cs_raise x_InvalidRuns hr (by decide) rfl (by rfl) (ca_cons (ce_var 1) ca_nil))) css_nil))) (css_one (cs_ret (ce_mS PySem.F.slot_str_join PySem.F.type_str_join mt_join l_join ce_str (ca_cons (ce_lc (own := [("begin", 3), ("word", 4), ("times", 5)]) rfl nd (ci_list (ce_var 0)) (blkOk_by (N := N_format_runs) (sc := defScope s_format_runs) (by decide +kernel)) (fun _ _ _ _ _ => (cg_tup rfl (cgs_cons (cg_own (i := 3) nd rfl (Or.inl rfl) (by decide)) (cgs_cons (cg_own (i := 4) nd rfl (Or.inl rfl) (by decide)) (cgs_cons (cg_own (i := 5) nd rfl (Or.inl rfl) (by decide)) cgs_nil))))) (fun _ _ _ _ _ => cts_nil) (fun _ _ _ _ _ => (ce_joined (cj_cons (ce_fmt (ce_var 3)) (cj_cons ce_str (cj_cons (ce_fmt (ce_var 4)) (cj_cons ce_str (cj_cons (ce_fmt (ce_var 5)) cj_nil)))))))) ca_nil))))))
theorem sc__law_fount : FnScope N__law_fount ["script", "k"] (defScope s__law_fount) := ⟨rfl, rfl, rfl, by decide +kernel, rfl, by decide +kernel, by decide +kernel⟩
theorem t__law_fount (g : Gm K mg) (sys : SysAt base)  {f : Addr} {fd : FuncData} {dV : Value} (F : DefAt K mg "_law_fount" "_law_fount" s__law_fount f fd dV) : FnG P w K mg base CX0 1 f fd ["script", "k"] (spT K S__law_fount) := by
  refine def_ok (N := N__law_fount) (k := 0) 0 F sc__law_fount l__law_fount (by decide) fun cdv A outer s H E hr hgd => ⟨w__law_fount, ?_, v__law_fount⟩
  have nd := sc__law_fount.nd
  have hu64 := hr.units
  have hu := hu_of hr
  exact (css_cons (cs_set (i := 2) nd rfl (Or.inl rfl) (by decide) (ce_ifE (ct_cmp op_lt l_cmp (ce_var 1) (ce_callB call_lenA l_len (by rfl) g.b_len bt_len (ca_cons (ce_var 0) ca_nil)) rfl) (ce_callB call_abs l_abs (by rfl) g.b_abs bt_abs (ca_cons (ce_callTy call_int1 l_int (by rfl) g.b_int bt_int (ca_cons (ce_ix (ce_var 0) (ce_var 1)) ca_nil)) ca_nil)) ce_int)) (css_one (cs_ret (ce_lst (ca_cons (ce_callB (call_max2 rfl) l_max2 (by rfl) g.b_max bt_max (ca_cons ce_int (ca_cons (ce_op op_sub l_sub (ce_var 2) (ce_op op_powW l_pow ce_int ce_int)) ca_nil))) (ca_cons (ce_op op_addA l_add (ce_op op_addA l_add (ce_op op_mulA l_mul (ce_op op_mod l_mod (ce_callTy call_int1 l_int (by rfl) g.b_int bt_int (ca_cons (ce_var 2) ca_nil)) (ce_op op_addA l_add (ce_op op_powW l_pow ce_int ce_int) ce_int)) ce_int) (ce_op op_mulA l_mul ce_int (ce_var 1))) ce_int) (ca_cons ce_int ca_nil)))))))
theorem sc__law_dip : FnScope N__law_dip ["fount", "many"] (defScope s__law_dip) := ⟨rfl, rfl, rfl, by decide +kernel, rfl, by decide +kernel, by decide +kernel⟩
theorem t__law_dip (g : Gm K mg) (sys : SysAt base)  {f : Addr} {fd : FuncData} {dV : Value} (F : DefAt K mg "_law_dip" "_law_dip" s__law_dip f fd dV) : FnG P w K mg base CX0 1 f fd ["fount", "many"] (spT K S__law_dip) := by
  refine def_ok (N := N__law_dip) (k := 0) 1 F sc__law_dip l__law_dip (by decide) fun cdv A outer s H E hr hgd => ⟨w__law_dip, ?_, v__law_dip⟩
  have nd := sc__law_dip.nd
  have hu64 := hr.units
  have hu := hu_of hr
  exact (css_cons (cs_if (ct_cmp op_gt l_cmp (ce_ix (ce_var 0) ce_int) ce_int rfl) (css_cons (cs_set (i := 2) nd rfl (Or.inl rfl) (by decide) (ce_op op_mod l_mod (ce_callTy call_int1 l_int (by rfl) g.b_int bt_int (ca_cons (ce_ix (ce_var 0) ce_int) ca_nil)) (ce_var 1))) (css_cons (cs_asg (ce_op op_fdivW l_div (ce_ix (ce_var 0) ce_int) (ce_var 1)) (cg_sub (i := 0) hu rfl (Or.inl rfl) ce_int)) (css_one (cs_ret (ce_var 2))))) css_nil) (css_cons (cs_asg (ce_op op_addA l_add (ce_ix (ce_var 0) ce_int) ce_int) (cg_sub (i := 0) hu rfl (Or.inl rfl) ce_int)) (css_cons (cs_set (i := 3) nd rfl (Or.inl rfl) (by decide) (ce_op op_mod l_mod (ce_callTy call_int1 l_int (by rfl) g.b_int bt_int (ca_cons (ce_op op_powW l_pow (ce_op op_addA l_add (ce_ix (ce_var 0) ce_int) (ce_op op_mulA l_mul ce_int (ce_ix (ce_var 0) ce_int))) ce_int) ca_nil)) (ce_op op_addA l_add (ce_op op_powW l_pow ce_int ce_int) ce_int))) (css_cons (cs_set (i := 3) nd rfl (Or.inl rfl) (by decide) (ce_op op_mod l_mod (ce_callTy call_int1 l_int (by rfl) g.b_int bt_int (ca_cons (ce_op op_powW l_pow (ce_op op_addA l_add (ce_var 3) (ce_op op_mulA l_mul ce_int (ce_ix (ce_var 0) ce_int))) ce_int) ca_nil)) (ce_op op_addA l_add (ce_op op_powW l_pow ce_int ce_int) ce_int))) (css_one (cs_ret (ce_op op_mod l_mod (ce_callTy call_int1 l_int (by rfl) g.b_int bt_int (ca_cons (ce_op op_fdivW l_div (ce_var 3) (ce_op op_powW l_pow ce_int ce_int)) ca_nil)) (ce_var 1))))))))
theorem sc__law_rules : FnScope N__law_rules ["fount"] (defScope s__law_rules) := ⟨rfl, rfl, rfl, by decide +kernel, rfl, by decide +kernel, by decide +kernel⟩
theorem t__law_rules (g : Gm K mg) (sys : SysAt base) (c__law_dip : Cal P w K mg base 1 "_law_dip" [] S__law_dip) {f : Addr} {fd : FuncData} {dV : Value} (F : DefAt K mg "_law_rules" "_law_rules" s__law_rules f fd dV) : FnG P w K mg base CX0 2 f fd ["fount"] (spT K S__law_rules) := by
  refine def_ok (N := N__law_rules) (k := 1) 1 F sc__law_rules l__law_rules (by decide) fun cdv A outer s H E hr hgd => ⟨w__law_rules, ?_, v__law_rules⟩
  have nd := sc__law_rules.nd
  have hu64 := hr.units
  have hu := hu_of hr
  exact (css_cons (cs_par (i := 1) (j := 2) rfl nd rfl rfl (by decide) rfl rfl (by decide) (by decide) (ca_cons (ce_ix (ce_lst (ca_cons ce_int (ca_cons ce_int (ca_cons ce_int (ca_cons (ce_op op_powW l_pow ce_int ce_int) ca_nil))))) (ce_cal c__law_dip hr (by decide) hgd (by rfl) (ca_cons (ce_var 0) (ca_cons ce_int ca_nil)))) (ca_cons (ce_lst (ca_cons ce_str (ca_cons ce_str (ca_cons ce_str ca_nil)))) ca_nil)) rfl) (css_cons (cs_par3 (i := 3) (j := 4) (l := 5) rfl nd rfl rfl rfl (by decide) (by decide) (by decide) rfl rfl rfl (by decide) (by decide) (by decide) (ca_cons (ce_op op_addA l_add ce_int (ce_cal c__law_dip hr (by decide) hgd (by rfl) (ca_cons (ce_var 0) (ca_cons (ce_var 1) ca_nil)))) (ca_cons (ce_op op_addA l_add ce_int (ce_cal c__law_dip hr (by decide) hgd (by rfl) (ca_cons (ce_var 0) (ca_cons (ce_var 1) ca_nil)))) (ca_cons (ce_op op_addA l_add ce_int (ce_cal c__law_dip hr (by decide) hgd (by rfl) (ca_cons (ce_var 0) (ca_cons (ce_var 1) ca_nil)))) ca_nil))) rfl) (css_cons (cs_par (i := 6) (j := 7) rfl nd rfl rfl (by decide) rfl rfl (by decide) (by decide) (ca_cons (ce_op op_addA l_add (ce_callB (call_min2 rfl) l_min2 (by rfl) g.b_min bt_min (ca_cons (ce_var 3) (ca_cons (ce_var 4) ca_nil))) (ce_var 5)) (ca_cons (ce_op op_addA l_add (ce_callB (call_max2 rfl) l_max2 (by rfl) g.b_max bt_max (ca_cons (ce_var 3) (ca_cons (ce_var 4) ca_nil))) (ce_var 5)) ca_nil)) rfl) (css_cons (cs_set (i := 8) nd rfl (Or.inl rfl) (by decide) (ce_lst (ca_cons ce_int (ca_cons ce_int (ca_cons (ce_cal c__law_dip hr (by decide) hgd (by rfl) (ca_cons (ce_var 0) (ca_cons (ce_var 6) ca_nil))) (ca_cons (ce_op op_addA l_add (ce_var 6) (ce_cal c__law_dip hr (by decide) hgd (by rfl) (ca_cons (ce_var 0) (ca_cons (ce_op op_addA l_add (ce_op op_sub l_sub (ce_var 7) (ce_var 6)) ce_int) ca_nil)))) (ca_cons (ce_op op_addA l_add (ce_var 7) (ce_cal c__law_dip hr (by decide) hgd (by rfl) (ca_cons (ce_var 0) (ca_cons ce_int ca_nil)))) ca_nil))))))) (css_cons (cs_set (i := 9) nd rfl (Or.inl rfl) (by decide) (ce_tup (ca_cons (ce_var 3) (ca_cons (ce_var 4) (ca_cons (ce_var 5) (ca_cons (ce_ix (ce_var 8) (ce_cal c__law_dip hr (by decide) hgd (by rfl) (ca_cons (ce_var 0) (ca_cons ce_int ca_nil)))) (ca_cons (ce_ix (ce_var 2) (ce_cal c__law_dip hr (by decide) hgd (by rfl) (ca_cons (ce_var 0) (ca_cons ce_int ca_nil)))) (ca_cons (ce_cmp (op_eqA hu64) l_eqS (ce_cal c__law_dip hr (by decide) hgd (by rfl) (ca_cons (ce_var 0) (ca_cons ce_int ca_nil))) ce_int rfl) ca_nil)))))))) (css_one (cs_ret (ce_op op_addA l_add (ce_var 9) (ce_tup (ca_cons (ce_ix (ce_lst (ca_cons ce_str (ca_cons ce_str (ca_cons ce_str (ca_cons ce_str ca_nil))))) (ce_cal c__law_dip hr (by decide) hgd (by rfl) (ca_cons (ce_var 0) (ca_cons ce_int ca_nil)))) ca_nil))))))))))
theorem sc__law_record : FnScope N__law_record ["fount", "many", "wide"] (defScope s__law_record) := ⟨rfl, rfl, rfl, by decide +kernel, rfl, by decide +kernel, by decide +kernel⟩
theorem t__law_record (g : Gm K mg) (sys : SysAt base) (c__law_dip : Cal P w K mg base 1 "_law_dip" [] S__law_dip) {f : Addr} {fd : FuncData} {dV : Value} (F : DefAt K mg "_law_record" "_law_record" s__law_record f fd dV) : FnG P w K mg base CX0 2 f fd ["fount", "many", "wide"] (spT K S__law_record) := by
  refine def_ok (N := N__law_record) (k := 1) 1 F sc__law_record l__law_record (by decide) fun cdv A outer s H E hr hgd => ⟨w__law_record, ?_, v__law_record⟩
  have nd := sc__law_record.nd
  have hu64 := hr.units
  have hu := hu_of hr
  exact (css_cons (cs_par (i := 3) (j := 4) rfl nd rfl rfl (by decide) rfl rfl (by decide) (by decide) (ca_cons (ce_lst ca_nil) (ca_cons (ce_disp (cps_cons ce_str ce_bl (cps_cons ce_str ce_bl cps_nil))) ca_nil)) rfl) (css_cons (cs_set (i := 5) nd rfl (Or.inl rfl) (by decide) (ce_op op_sub l_sub (ce_cal c__law_dip hr (by decide) hgd (by rfl) (ca_cons (ce_var 0) (ca_cons (ce_op op_addA l_add (ce_op op_mulA l_mul ce_int (ce_var 2)) ce_int) ca_nil))) (ce_var 2))) (css_cons (cs_for PassesOwn.never rfl (ci_rng1 (by rfl) g.b_range (ca_cons (ce_var 1) ca_nil)) (cg_name (i := 6) nd rfl (Or.inl rfl) (by decide)) (css_cons (cs_set (i := 7) nd rfl (Or.inl rfl) (by decide) (ce_ix ce_str (ce_cal c__law_dip hr (by decide) hgd (by rfl) (ca_cons (ce_var 0) (ca_cons ce_int ca_nil))))) (css_cons (cs_set (i := 5) nd rfl (Or.inl rfl) (by decide) (ce_op op_addA l_add (ce_var 5) (ce_ix (ce_lst (ca_cons ce_int (ca_cons ce_int (ca_cons (ce_cal c__law_dip hr (by decide) hgd (by rfl) (ca_cons (ce_var 0) (ca_cons (ce_op op_addA l_add (ce_var 2) ce_int) ca_nil))) (ca_cons (ce_cal c__law_dip hr (by decide) hgd (by rfl) (ca_cons (ce_var 0) (ca_cons (ce_op op_addA l_add (ce_var 2) ce_int) ca_nil))) ca_nil))))) (ce_cal c__law_dip hr (by decide) hgd (by rfl) (ca_cons (ce_var 0) (ca_cons ce_int ca_nil)))))) (css_cons (cs_asg (ce_not (ce_dget hu (ce_var 4) (ce_var 7) (fun _ _ => rfl))) (cg_sub (i := 4) hu rfl (Or.inl rfl) (ce_var 7))) (css_one (cs_expr (ce_app (i := 3) (ce_tup (ca_cons (ce_var 5) (ca_cons (ce_var 7) (ca_cons (ce_dget hu (ce_var 4) (ce_var 7) (fun _ _ => rfl)) ca_nil))))))))))) (css_cons (cs_for PassesOwn.never rfl (ci_str (ce_ix (ce_lst (ca_cons ce_str (ca_cons ce_str ca_nil))) (ce_cal c__law_dip hr (by decide) hgd (by rfl) (ca_cons (ce_var 0) (ca_cons ce_int ca_nil))))) (cg_name (i := 7) nd rfl (Or.inl rfl) (by decide)) (css_one (cs_if (ct_tru (ce_dget hu (ce_var 4) (ce_var 7) (fun _ _ => rfl))) (css_cons (cs_set (i := 5) nd rfl (Or.inl rfl) (by decide) (ce_op op_addA l_add (ce_var 5) (ce_cal c__law_dip hr (by decide) hgd (by rfl) (ca_cons (ce_var 0) (ca_cons (ce_op op_addA l_add (ce_var 2) ce_int) ca_nil))))) (css_one (cs_expr (ce_app (i := 3) (ce_tup (ca_cons (ce_var 5) (ca_cons (ce_var 7) (ca_cons ce_bl ca_nil)))))))) css_nil))) (css_one (cs_ret (ce_var 3)))))))
theorem sc__law_fields : FnScope N__law_fields ["e"] (defScope s__law_fields) := ⟨rfl, rfl, rfl, by decide +kernel, rfl, by decide +kernel, by decide +kernel⟩
theorem t__law_fields (g : Gm K mg) (sys : SysAt base) (xn_InvalidCases : mg "InvalidCases" = some (.ref (clsOf K "InvalidCases"))) (xn_InvalidCode : mg "InvalidCode" = some (.ref (clsOf K "InvalidCode"))) (xn_InvalidKinds : mg "InvalidKinds" = some (.ref (clsOf K "InvalidKinds"))) (xn_InvalidRecord : mg "InvalidRecord" = some (.ref (clsOf K "InvalidRecord"))) (xn_InvalidRules : mg "InvalidRules" = some (.ref (clsOf K "InvalidRules"))) (xn_InvalidRuns : mg "InvalidRuns" = some (.ref (clsOf K "InvalidRuns"))) (xn_InvalidSyntax : mg "InvalidSyntax" = some (.ref (clsOf K "InvalidSyntax"))) (xn_TooLarge : mg "TooLarge" = some (.ref (clsOf K "TooLarge"))) (xv_index : ∀ y ∈ (["InvalidRules", "InvalidRecord", "InvalidRuns", "InvalidKinds", "InvalidCases"] : List Str), XfC K (clsOf K y) ∧ PySem.W.findIn K (.ref (clsOf K y)) "index" = some none) (xv_letter : ∀ y ∈ (["InvalidCode"] : List Str), XfC K (clsOf K y) ∧ PySem.W.findIn K (.ref (clsOf K y)) "letter" = some none) (xv_limit : ∀ y ∈ (["TooLarge"] : List Str), XfC K (clsOf K y) ∧ PySem.W.findIn K (.ref (clsOf K y)) "limit" = some none) (xv_line : ∀ y ∈ (["InvalidSyntax"] : List Str), XfC K (clsOf K y) ∧ PySem.W.findIn K (.ref (clsOf K y)) "line" = some none) (xv_word : ∀ y ∈ (["InvalidSyntax"] : List Str), XfC K (clsOf K y) ∧ PySem.W.findIn K (.ref (clsOf K y)) "word" = some none) (xq_InvalidCases : ∀ y ∈ allX, ExcC K (clsOf K y) ∧ PySem.W.kitOne K (.ref (clsOf K y)) (.ref (clsOf K "InvalidCases")) = some ((["InvalidCases"] : List Str).contains y)) (xq_InvalidCode : ∀ y ∈ allX, ExcC K (clsOf K y) ∧ PySem.W.kitOne K (.ref (clsOf K y)) (.ref (clsOf K "InvalidCode")) = some ((["InvalidCode"] : List Str).contains y)) (xq_InvalidKinds : ∀ y ∈ allX, ExcC K (clsOf K y) ∧ PySem.W.kitOne K (.ref (clsOf K y)) (.ref (clsOf K "InvalidKinds")) = some ((["InvalidKinds"] : List Str).contains y)) (xq_InvalidRecord : ∀ y ∈ allX, ExcC K (clsOf K y) ∧ PySem.W.kitOne K (.ref (clsOf K y)) (.ref (clsOf K "InvalidRecord")) = some ((["InvalidRecord"] : List Str).contains y)) (xq_InvalidRules : ∀ y ∈ allX, ExcC K (clsOf K y) ∧ PySem.W.kitOne K (.ref (clsOf K y)) (.ref (clsOf K "InvalidRules")) = some ((["InvalidRules"] : List Str).contains y)) (xq_InvalidRuns : ∀ y ∈ allX, ExcC K (clsOf K y) ∧ PySem.W.kitOne K (.ref (clsOf K y)) (.ref (clsOf K "InvalidRuns")) = some ((["InvalidRuns"] : List Str).contains y)) (xq_InvalidSyntax : ∀ y ∈ allX, ExcC K (clsOf K y) ∧ PySem.W.kitOne K (.ref (clsOf K y)) (.ref (clsOf K "InvalidSyntax")) = some ((["InvalidSyntax"] : List Str).contains y)) (xq_TooLarge : ∀ y ∈ allX, ExcC K (clsOf K y) ∧ PySem.W.kitOne K (.ref (clsOf K y)) (.ref (clsOf K "TooLarge")) = some ((["TooLarge"] : List Str).contains y))  {f : Addr} {fd : FuncData} {dV : Value} (F : DefAt K mg "_law_fields" "_law_fields" s__law_fields f fd dV) : FnK P w K mg base 1 f fd ["e"] S__law_fields := by
  refine def_okK (N := N__law_fields) (k := 0) 0 F sc__law_fields l__law_fields (by decide) fun cdv A outer s H E p ey eo hr hgd hk => ⟨w__law_fields p.1 ey eo, ?_, v__law_fields⟩
  have nd := sc__law_fields.nd
  have hu64 := roomK_u64 hr
  have hu := roomK_u1 hr
  exact (css_cons (cs_if (ct_tru (ce_isKT (cls := ["InvalidRules", "InvalidRecord", "InvalidRuns", "InvalidKinds", "InvalidCases"]) hk (ce_var 0) (ca_cons (ce_glob (v := .ref (clsOf K "InvalidRules")) (by rfl) xn_InvalidRules rfl fun _ _ => .fn _) (ca_cons (ce_glob (v := .ref (clsOf K "InvalidRecord")) (by rfl) xn_InvalidRecord rfl fun _ _ => .fn _) (ca_cons (ce_glob (v := .ref (clsOf K "InvalidRuns")) (by rfl) xn_InvalidRuns rfl fun _ _ => .fn _) (ca_cons (ce_glob (v := .ref (clsOf K "InvalidKinds")) (by rfl) xn_InvalidKinds rfl fun _ _ => .fn _) (ca_cons (ce_glob (v := .ref (clsOf K "InvalidCases")) (by rfl) xn_InvalidCases rfl fun _ _ => .fn _) ca_nil))))) (by rfl) g.b_isinstance bt_isinstance (by decide) (fun y hy => ⟨(xq_InvalidRules y hy).1, kitAny_of (cs := [(.ref (clsOf K "InvalidRules"), ["InvalidRules"]), (.ref (clsOf K "InvalidRecord"), ["InvalidRecord"]), (.ref (clsOf K "InvalidRuns"), ["InvalidRuns"]), (.ref (clsOf K "InvalidKinds"), ["InvalidKinds"]), (.ref (clsOf K "InvalidCases"), ["InvalidCases"])]) (List.forall_mem_cons.mpr ⟨(xq_InvalidRules y hy).2, (List.forall_mem_cons.mpr ⟨(xq_InvalidRecord y hy).2, (List.forall_mem_cons.mpr ⟨(xq_InvalidRuns y hy).2, (List.forall_mem_cons.mpr ⟨(xq_InvalidKinds y hy).2, (List.forall_mem_cons.mpr ⟨(xq_InvalidCases y hy).2, (List.forall_mem_nil _)⟩)⟩)⟩)⟩)⟩)⟩))) (css_cons (cs_set (i := 1) nd rfl (Or.inl rfl) (by decide) (ce_lst (ca_cons ce_str (ca_cons ce_str (ca_cons ce_str (ca_cons ce_str (ca_cons ce_str ca_nil))))))) (css_cons (cs_set (i := 2) nd rfl (Or.inl rfl) (by decide) (ce_lst (ca_cons (ce_isK hk (ce_var 0) (by rfl) g.b_isinstance bt_isinstance (by rfl) xn_InvalidRules xq_InvalidRules) (ca_cons (ce_isK hk (ce_var 0) (by rfl) g.b_isinstance bt_isinstance (by rfl) xn_InvalidRecord xq_InvalidRecord) (ca_cons (ce_isK hk (ce_var 0) (by rfl) g.b_isinstance bt_isinstance (by rfl) xn_InvalidRuns xq_InvalidRuns) ca_nil))))) (css_one (cs_ret (ce_op op_addA l_add (ce_ix (ce_var 1) (ce_lindex (ce_op op_addA l_add (ce_var 2) (ce_lst (ca_cons (ce_isK hk (ce_var 0) (by rfl) g.b_isinstance bt_isinstance (by rfl) xn_InvalidKinds xq_InvalidKinds) (ca_cons ce_bl ca_nil)))) ce_bl)) (ce_callB (call_reprM hu64 hgd sys) l_reprM (by rfl) g.b_repr bt_repr (ca_cons (ce_fldK hk xv_index (ce_var 0)) ca_nil))))))) css_nil) (css_cons (cs_if (ct_tru (ce_isK hk (ce_var 0) (by rfl) g.b_isinstance bt_isinstance (by rfl) xn_InvalidCode xq_InvalidCode)) (css_one (cs_ret (ce_op op_addA l_add ce_str (ce_callB (call_reprM hu64 hgd sys) l_reprM (by rfl) g.b_repr bt_repr (ca_cons (ce_fldK hk xv_letter (ce_var 0)) ca_nil))))) css_nil) (css_cons (cs_if (ct_tru (ce_isK hk (ce_var 0) (by rfl) g.b_isinstance bt_isinstance (by rfl) xn_TooLarge xq_TooLarge)) (css_one (cs_ret (ce_op op_addA l_add ce_str (ce_callB (call_reprM hu64 hgd sys) l_reprM (by rfl) g.b_repr bt_repr (ca_cons (ce_fldK hk xv_limit (ce_var 0)) ca_nil))))) css_nil) (css_one (cs_ret (ce_ifE (ct_tru (ce_isK hk (ce_var 0) (by rfl) g.b_isinstance bt_isinstance (by rfl) xn_InvalidSyntax xq_InvalidSyntax)) (ce_op op_addA l_add (ce_op op_addA l_add (ce_op op_addA l_add ce_str (ce_callB (call_reprM hu64 hgd sys) l_reprM (by rfl) g.b_repr bt_repr (ca_cons (ce_fldK hk xv_line (ce_var 0)) ca_nil))) ce_str) (ce_callB (call_reprM hu64 hgd sys) l_reprM (by rfl) g.b_repr bt_repr (ca_cons (ce_fldK hk xv_word (ce_var 0)) ca_nil))) ce_str))))))
theorem sc__law_class : FnScope N__law_class ["e"] (defScope s__law_class) := ⟨rfl, rfl, rfl, by decide +kernel, rfl, by decide +kernel, by decide +kernel⟩
theorem t__law_class (g : Gm K mg) (sys : SysAt base) (xn_Impossible : mg "Impossible" = some (.ref (clsOf K "Impossible"))) (xn_InvalidCases : mg "InvalidCases" = some (.ref (clsOf K "InvalidCases"))) (xn_InvalidCode : mg "InvalidCode" = some (.ref (clsOf K "InvalidCode"))) (xn_InvalidCommand : mg "InvalidCommand" = some (.ref (clsOf K "InvalidCommand"))) (xn_InvalidGaps : mg "InvalidGaps" = some (.ref (clsOf K "InvalidGaps"))) (xn_InvalidKinds : mg "InvalidKinds" = some (.ref (clsOf K "InvalidKinds"))) (xn_InvalidLever : mg "InvalidLever" = some (.ref (clsOf K "InvalidLever"))) (xn_InvalidName : mg "InvalidName" = some (.ref (clsOf K "InvalidName"))) (xn_InvalidNumber : mg "InvalidNumber" = some (.ref (clsOf K "InvalidNumber"))) (xn_InvalidRecord : mg "InvalidRecord" = some (.ref (clsOf K "InvalidRecord"))) (xn_InvalidRules : mg "InvalidRules" = some (.ref (clsOf K "InvalidRules"))) (xn_InvalidRuns : mg "InvalidRuns" = some (.ref (clsOf K "InvalidRuns"))) (xn_InvalidSyntax : mg "InvalidSyntax" = some (.ref (clsOf K "InvalidSyntax"))) (xn_InvalidText : mg "InvalidText" = some (.ref (clsOf K "InvalidText"))) (xn_InvalidTick : mg "InvalidTick" = some (.ref (clsOf K "InvalidTick"))) (xn_NothingToUndo : mg "NothingToUndo" = some (.ref (clsOf K "NothingToUndo"))) (xn_TooLarge : mg "TooLarge" = some (.ref (clsOf K "TooLarge"))) (xq_Impossible : ∀ y ∈ allX, ExcC K (clsOf K y) ∧ PySem.W.kitOne K (.ref (clsOf K y)) (.ref (clsOf K "Impossible")) = some ((["Impossible"] : List Str).contains y)) (xq_InvalidCases : ∀ y ∈ allX, ExcC K (clsOf K y) ∧ PySem.W.kitOne K (.ref (clsOf K y)) (.ref (clsOf K "InvalidCases")) = some ((["InvalidCases"] : List Str).contains y)) (xq_InvalidCode : ∀ y ∈ allX, ExcC K (clsOf K y) ∧ PySem.W.kitOne K (.ref (clsOf K y)) (.ref (clsOf K "InvalidCode")) = some ((["InvalidCode"] : List Str).contains y)) (xq_InvalidCommand : ∀ y ∈ allX, ExcC K (clsOf K y) ∧ PySem.W.kitOne K (.ref (clsOf K y)) (.ref (clsOf K "InvalidCommand")) = some ((["InvalidCommand"] : List Str).contains y)) (xq_InvalidGaps : ∀ y ∈ allX, ExcC K (clsOf K y) ∧ PySem.W.kitOne K (.ref (clsOf K y)) (.ref (clsOf K "InvalidGaps")) = some ((["InvalidGaps"] : List Str).contains y)) (xq_InvalidKinds : ∀ y ∈ allX, ExcC K (clsOf K y) ∧ PySem.W.kitOne K (.ref (clsOf K y)) (.ref (clsOf K "InvalidKinds")) = some ((["InvalidKinds"] : List Str).contains y)) (xq_InvalidLever : ∀ y ∈ allX, ExcC K (clsOf K y) ∧ PySem.W.kitOne K (.ref (clsOf K y)) (.ref (clsOf K "InvalidLever")) = some ((["InvalidLever"] : List Str).contains y)) (xq_InvalidName : ∀ y ∈ allX, ExcC K (clsOf K y) ∧ PySem.W.kitOne K (.ref (clsOf K y)) (.ref (clsOf K "InvalidName")) = some ((["InvalidName"] : List Str).contains y)) (xq_InvalidNumber : ∀ y ∈ allX, ExcC K (clsOf K y) ∧ PySem.W.kitOne K (.ref (clsOf K y)) (.ref (clsOf K "InvalidNumber")) = some ((["InvalidNumber"] : List Str).contains y)) (xq_InvalidRecord : ∀ y ∈ allX, ExcC K (clsOf K y) ∧ PySem.W.kitOne K (.ref (clsOf K y)) (.ref (clsOf K "InvalidRecord")) = some ((["InvalidRecord"] : List Str).contains y)) (xq_InvalidRules : ∀ y ∈ allX, ExcC K (clsOf K y) ∧ PySem.W.kitOne K (.ref (clsOf K y)) (.ref (clsOf K "InvalidRules")) = some ((["InvalidRules"] : List Str).contains y)) (xq_InvalidRuns : ∀ y ∈ allX, ExcC K (clsOf K y) ∧ PySem.W.kitOne K (.ref (clsOf K y)) (.ref (clsOf K "InvalidRuns")) = some ((["InvalidRuns"] : List Str).contains y)) (xq_InvalidSyntax : ∀ y ∈ allX, ExcC K (clsOf K y) ∧ PySem.W.kitOne K (.ref (clsOf K y)) (.ref (clsOf K "InvalidSyntax")) = some ((["InvalidSyntax"] : List Str).contains y)) (xq_InvalidText : ∀ y ∈ allX, ExcC K (clsOf K y) ∧ PySem.W.kitOne K (.ref (clsOf K y)) (.ref (clsOf K "InvalidText")) = some ((["InvalidText"] : List Str).contains y)) (xq_InvalidTick : ∀ y ∈ allX, ExcC K (clsOf K y) ∧ PySem.W.kitOne K (.ref (clsOf K y)) (.ref (clsOf K "InvalidTick")) = some ((["InvalidTick"] : List Str).contains y)) (xq_NothingToUndo : ∀ y ∈ allX, ExcC K (clsOf K y) ∧ PySem.W.kitOne K (.ref (clsOf K y)) (.ref (clsOf K "NothingToUndo")) = some ((["NothingToUndo"] : List Str).contains y)) (xq_TooLarge : ∀ y ∈ allX, ExcC K (clsOf K y) ∧ PySem.W.kitOne K (.ref (clsOf K y)) (.ref (clsOf K "TooLarge")) = some ((["TooLarge"] : List Str).contains y)) (xq_ValueError : ∀ y ∈ allX, ExcC K (clsOf K y) ∧ PySem.W.kitOne K (.ref (clsOf K y)) (.type "ValueError") = some ((["KeyerError", "InvalidLever", "InvalidTick", "InvalidNumber", "InvalidGaps", "InvalidText", "InvalidName", "Impossible", "NothingToUndo", "InvalidCommand", "InvalidRules", "InvalidRecord", "InvalidRuns", "InvalidKinds", "InvalidCases", "InvalidCode", "TooLarge", "InvalidSyntax"] : List Str).contains y)) (ck__law_fields : CalK P w K mg base 1 "_law_fields" S__law_fields) {f : Addr} {fd : FuncData} {dV : Value} (F : DefAt K mg "_law_class" "_law_class" s__law_class f fd dV) : FnK P w K mg base 2 f fd ["e"] S__law_class := by
  refine def_okK (N := N__law_class) (k := 1) 0 F sc__law_class l__law_class (by decide) fun cdv A outer s H E p ey eo hr hgd hk => ⟨w__law_class p.1 ey eo, ?_, v__law_class⟩
  have nd := sc__law_class.nd
  have hu64 := roomK_u64 hr
  have hu := roomK_u1 hr
  exact (css_cons (cs_set (i := 1) nd rfl (Or.inl rfl) (by decide) (ce_lst (ca_cons (ce_tup (ca_cons ce_str (ca_cons (ce_isK hk (ce_var 0) (by rfl) g.b_isinstance bt_isinstance (by rfl) xn_InvalidLever xq_InvalidLever) ca_nil))) (ca_cons (ce_tup (ca_cons ce_str (ca_cons (ce_isK hk (ce_var 0) (by rfl) g.b_isinstance bt_isinstance (by rfl) xn_InvalidTick xq_InvalidTick) ca_nil))) ca_nil)))) (css_cons (cs_set (i := 1) nd rfl (Or.inl rfl) (by decide) (ce_op op_addA l_add (ce_var 1) (ce_lst (ca_cons (ce_tup (ca_cons ce_str (ca_cons (ce_isK hk (ce_var 0) (by rfl) g.b_isinstance bt_isinstance (by rfl) xn_InvalidNumber xq_InvalidNumber) ca_nil))) (ca_cons (ce_tup (ca_cons ce_str (ca_cons (ce_isK hk (ce_var 0) (by rfl) g.b_isinstance bt_isinstance (by rfl) xn_InvalidGaps xq_InvalidGaps) ca_nil))) ca_nil))))) (css_cons (cs_set (i := 1) nd rfl (Or.inl rfl) (by decide) (ce_op op_addA l_add (ce_var 1) (ce_lst (ca_cons (ce_tup (ca_cons ce_str (ca_cons (ce_isK hk (ce_var 0) (by rfl) g.b_isinstance bt_isinstance (by rfl) xn_InvalidText xq_InvalidText) ca_nil))) (ca_cons (ce_tup (ca_cons ce_str (ca_cons (ce_isK hk (ce_var 0) (by rfl) g.b_isinstance bt_isinstance (by rfl) xn_InvalidName xq_InvalidName) ca_nil))) ca_nil))))) (css_cons (cs_set (i := 1) nd rfl (Or.inl rfl) (by decide) (ce_op op_addA l_add (ce_var 1) (ce_lst (ca_cons (ce_tup (ca_cons ce_str (ca_cons (ce_isK hk (ce_var 0) (by rfl) g.b_isinstance bt_isinstance (by rfl) xn_Impossible xq_Impossible) ca_nil))) (ca_cons (ce_tup (ca_cons ce_str (ca_cons (ce_isK hk (ce_var 0) (by rfl) g.b_isinstance bt_isinstance (by rfl) xn_NothingToUndo xq_NothingToUndo) ca_nil))) ca_nil))))) (css_cons (cs_set (i := 1) nd rfl (Or.inl rfl) (by decide) (ce_op op_addA l_add (ce_var 1) (ce_lst (ca_cons (ce_tup (ca_cons ce_str (ca_cons (ce_isK hk (ce_var 0) (by rfl) g.b_isinstance bt_isinstance (by rfl) xn_InvalidCommand xq_InvalidCommand) ca_nil))) (ca_cons (ce_tup (ca_cons ce_str (ca_cons (ce_isK hk (ce_var 0) (by rfl) g.b_isinstance bt_isinstance (by rfl) xn_InvalidRules xq_InvalidRules) ca_nil))) ca_nil))))) (css_cons (cs_set (i := 1) nd rfl (Or.inl rfl) (by decide) (ce_op op_addA l_add (ce_var 1) (ce_lst (ca_cons (ce_tup (ca_cons ce_str (ca_cons (ce_isK hk (ce_var 0) (by rfl) g.b_isinstance bt_isinstance (by rfl) xn_InvalidRecord xq_InvalidRecord) ca_nil))) (ca_cons (ce_tup (ca_cons ce_str (ca_cons (ce_isK hk (ce_var 0) (by rfl) g.b_isinstance bt_isinstance (by rfl) xn_InvalidRuns xq_InvalidRuns) ca_nil))) ca_nil))))) (css_cons (cs_set (i := 1) nd rfl (Or.inl rfl) (by decide) (ce_op op_addA l_add (ce_var 1) (ce_lst (ca_cons (ce_tup (ca_cons ce_str (ca_cons (ce_isK hk (ce_var 0) (by rfl) g.b_isinstance bt_isinstance (by rfl) xn_InvalidKinds xq_InvalidKinds) ca_nil))) (ca_cons (ce_tup (ca_cons ce_str (ca_cons (ce_isK hk (ce_var 0) (by rfl) g.b_isinstance bt_isinstance (by rfl) xn_InvalidCases xq_InvalidCases) ca_nil))) ca_nil))))) (css_cons (cs_set (i := 1) nd rfl (Or.inl rfl) (by decide) (ce_op op_addA l_add (ce_var 1) (ce_lst (ca_cons (ce_tup (ca_cons ce_str (ca_cons (ce_isK hk (ce_var 0) (by rfl) g.b_isinstance bt_isinstance (by rfl) xn_InvalidCode xq_InvalidCode) ca_nil))) (ca_cons (ce_tup (ca_cons ce_str (ca_cons (ce_isK hk (ce_var 0) (by rfl) g.b_isinstance bt_isinstance (by rfl) xn_TooLarge xq_TooLarge) ca_nil))) ca_nil))))) (css_cons (cs_set (i := 1) nd rfl (Or.inl rfl) (by decide) (ce_op op_addA l_add (ce_var 1) (ce_lst (ca_cons (ce_tup (ca_cons ce_str (ca_cons (ce_isK hk (ce_var 0) (by rfl) g.b_isinstance bt_isinstance (by rfl) xn_InvalidSyntax xq_InvalidSyntax) ca_nil))) ca_nil)))) (css_cons (cs_setLcH (i := 2) (own := [("word", 3), ("is_one", 4)]) hk.hotC nd rfl rfl (by decide) (sw_true rfl rfl rfl (by decide +kernel)) (ce_var 1) (blkOk_by (N := N__law_class) (sc := defScope s__law_class) (by decide +kernel)) (fun _ _ _ _ _ hb => (cg_tupB hb (cgs_cons (cg_own (i := 3) nd rfl (Or.inl rfl) (by decide)) (cgs_cons (cg_own (i := 4) nd rfl (Or.inl rfl) (by decide)) cgs_nil)))) (fun _ _ _ _ _ => (cts_one (ct_tru (ce_var 4)))) (fun _ _ _ _ _ => (ce_var 3))) (css_cons (cs_if ((cw_or (ct_cmp (op_neA hu64) l_eqS (ce_callB call_lenA l_len (by rfl) g.b_len bt_len (ca_cons (ce_var 2) ca_nil)) ce_int rfl) (cw_or1 (ct_not (ct_tru (ce_isKV hk (ce_var 0) (by rfl) g.b_isinstance bt_isinstance (by rfl) g.b_ValueError xq_ValueError)))))).ct (css_one (cs_ret ce_str)) css_nil) (css_one (cs_ret (ce_ifE (ct_cmp (op_neA hu64) l_eqS (ce_calK ck__law_fields hk hr (by decide) hgd (by rfl) (ca_cons (ce_var 0) ca_nil)) ce_str rfl) (ce_calK ck__law_fields hk hr (by decide) hgd (by rfl) (ca_cons (ce_var 0) ca_nil)) (ce_ix (ce_var 2) ce_int)))))))))))))))
theorem sc__law_bad_rules : FnScope N__law_bad_rules ["fount", "rules"] (defScope s__law_bad_rules) := ⟨rfl, rfl, rfl, by decide +kernel, rfl, by decide +kernel, by decide +kernel⟩
theorem t__law_bad_rules (g : Gm K mg) (sys : SysAt base) (c__law_dip : Cal P w K mg base 1 "_law_dip" [] S__law_dip) {f : Addr} {fd : FuncData} {dV : Value} (F : DefAt K mg "_law_bad_rules" "_law_bad_rules" s__law_bad_rules f fd dV) : FnG P w K mg base CX0 2 f fd ["fount", "rules"] (spT K S__law_bad_rules) := by
  refine def_ok (N := N__law_bad_rules) (k := 1) 1 F sc__law_bad_rules l__law_bad_rules (by decide) fun cdv A outer s H E hr hgd => ⟨w__law_bad_rules, ?_, v__law_bad_rules⟩
  have nd := sc__law_bad_rules.nd
  have hu64 := hr.units
  have hu := hu_of hr
  exact (css_cons (cs_setLc (i := 2) (own := [("value", 3)]) rfl nd rfl rfl (by decide) (sw_true rfl rfl rfl (by decide +kernel)) (ci_list (ce_lst (ca_cons ce_non (ca_cons ce_int (ca_cons ce_str (ca_cons (ce_lst ca_nil) (ca_cons (ce_tup ca_nil) (ca_cons ce_dnew (ca_cons (ce_callTy call_list_of l_listOf (by rfl) g.b_list bt_list (ca_cons (ce_var 1) ca_nil)) (ca_cons (ce_slice (ce_var 1) co_none (co_some ce_int)) (ca_cons (ce_op op_addA l_add (ce_var 1) (ce_tup (ca_cons ce_int ca_nil))) ca_nil))))))))))) (blkOk_by (N := N__law_bad_rules) (sc := defScope s__law_bad_rules) (by decide +kernel)) (fun _ _ _ _ _ => (cg_own (i := 3) nd rfl (Or.inl rfl) (by decide))) (fun _ _ _ _ _ => cts_nil) (fun _ _ _ _ _ => (ce_tup (ca_cons (ce_var 3) (ca_cons ce_str ca_nil))))) (css_cons (cs_set (i := 4) nd rfl (Or.inl rfl) (by decide) (ce_op op_mulA l_mul (ce_lst (ca_cons (ce_lst (ca_cons ce_int (ca_cons (ce_un un_neg l_neg ce_int) (ca_cons ce_non (ca_cons ce_bl (ca_cons ce_str (ca_cons (ce_lst (ca_cons ce_int ca_nil)) (ca_cons (ce_tup (ca_cons ce_int ca_nil)) ca_nil)))))))) ca_nil)) ce_int)) (css_cons (cs_expr (ce_app (i := 4) (ce_lst (ca_cons (ce_un un_neg l_neg ce_int) (ca_cons ce_non (ca_cons ce_bl (ca_cons ce_str (ca_cons (ce_lst (ca_cons ce_int ca_nil)) (ca_cons ce_bl ca_nil))))))))) (css_cons (cs_expr (ce_app (i := 4) (ce_lst (ca_cons ce_non (ca_cons ce_int (ca_cons ce_str (ca_cons ce_str (ca_cons ce_str (ca_cons (ce_lst (ca_cons ce_str ca_nil)) (ca_cons ce_bl ca_nil)))))))))) (css_cons (cs_set (i := 4) nd rfl (Or.inl rfl) (by decide) (ce_op op_addA l_add (ce_var 4) (ce_lst (ca_cons (ce_lst (ca_cons ce_non (ca_cons ce_int (ca_cons ce_int (ca_cons ce_str (ca_cons (ce_lst (ca_cons ce_bl ca_nil)) ca_nil)))))) (ca_cons (ce_lst (ca_cons ce_non (ca_cons ce_int (ca_cons ce_str (ca_cons ce_str (ca_cons ce_str (ca_cons (ce_lst (ca_cons ce_str ca_nil)) (ca_cons ce_bl ca_nil)))))))) ca_nil))))) (css_cons (cs_for PassesOwn.never rfl (ci_rng1 (by rfl) g.b_range (ca_cons ce_int ca_nil)) (cg_name (i := 5) nd rfl (Or.inl rfl) (by decide)) (css_one (cs_for PassesOwn.never rfl (ci_list (ce_ix (ce_var 4) (ce_var 5))) (cg_name (i := 6) nd rfl (Or.inl rfl) (by decide)) (css_cons (cs_set (i := 7) nd rfl (Or.inl rfl) (by decide) (ce_ifE (ct_cmp (op_eqA hu64) l_eqS (ce_cal c__law_dip hr (by decide) hgd (by rfl) (ca_cons (ce_var 0) (ca_cons ce_int ca_nil))) ce_int rfl) (ce_slice (ce_var 1) (co_some (ce_op op_addA l_add (ce_var 5) ce_int)) co_none) (ce_op op_repA l_repA (ce_tup (ca_cons ce_non ca_nil)) (ce_op op_sub l_sub ce_int (ce_var 5))))) (css_one (cs_expr (ce_app (i := 2) (ce_tup (ca_cons (ce_op op_addA l_add (ce_op op_addA l_add (ce_slice (ce_var 1) co_none (co_some (ce_var 5))) (ce_tup (ca_cons (ce_var 6) ca_nil))) (ce_var 7)) (ca_cons (ce_op op_addA l_add ce_str (ce_callB (call_reprM hu64 hgd sys) l_reprM (by rfl) g.b_repr bt_repr (ca_cons (ce_var 5) ca_nil))) ca_nil)))))))))) (css_one (cs_ret (ce_var 2)))))))))
theorem sc__law_bad_records : FnScope N__law_bad_records ["fount", "record"] (defScope s__law_bad_records) := ⟨rfl, rfl, rfl, by decide +kernel, rfl, by decide +kernel, by decide +kernel⟩
theorem t__law_bad_records (g : Gm K mg) (sys : SysAt base) (c__law_dip : Cal P w K mg base 1 "_law_dip" [] S__law_dip) {f : Addr} {fd : FuncData} {dV : Value} (F : DefAt K mg "_law_bad_records" "_law_bad_records" s__law_bad_records f fd dV) : FnG P w K mg base CX0 2 f fd ["fount", "record"] (spT K S__law_bad_records) := by
  refine def_ok (N := N__law_bad_records) (k := 1) 1 F sc__law_bad_records l__law_bad_records (by decide) fun cdv A outer s H E hr hgd => ⟨w__law_bad_records, ?_, v__law_bad_records⟩
  have nd := sc__law_bad_records.nd
  have hu64 := hr.units
  have hu := hu_of hr
  exact (css_cons (cs_setLc (i := 2) (own := [("value", 3)]) rfl nd rfl rfl (by decide) (sw_true rfl rfl rfl (by decide +kernel)) (ci_list (ce_lst (ca_cons ce_non (ca_cons ce_int (ca_cons ce_str (ca_cons (ce_tup ca_nil) (ca_cons ce_dnew (ca_cons (ce_callTy call_tuple_of l_tupleOf (by rfl) g.b_tuple bt_tuple (ca_cons (ce_var 1) ca_nil)) (ca_cons (ce_op op_mulA l_mul (ce_lst (ca_cons (ce_tup (ca_cons ce_int (ca_cons ce_str (ca_cons ce_bl ca_nil)))) ca_nil)) ce_int) ca_nil))))))))) (blkOk_by (N := N__law_bad_records) (sc := defScope s__law_bad_records) (by decide +kernel)) (fun _ _ _ _ _ => (cg_own (i := 3) nd rfl (Or.inl rfl) (by decide))) (fun _ _ _ _ _ => cts_nil) (fun _ _ _ _ _ => (ce_tup (ca_cons (ce_var 3) (ca_cons ce_str ca_nil))))) (css_cons (cs_set (i := 4) nd rfl (Or.inl rfl) (by decide) (ce_cal c__law_dip hr (by decide) hgd (by rfl) (ca_cons (ce_var 0) (ca_cons (ce_callB call_lenA l_len (by rfl) g.b_len bt_len (ca_cons (ce_var 1) ca_nil)) ca_nil)))) (css_cons (cs_asg (ce_ix (ce_var 1) (ce_var 4)) (cg_tup rfl (cgs_cons (cg_name (i := 5) nd rfl (Or.inl rfl) (by decide)) (cgs_cons (cg_name (i := 6) nd rfl (Or.inl rfl) (by decide)) (cgs_cons (cg_name (i := 7) nd rfl (Or.inl rfl) (by decide)) cgs_nil))))) (css_cons (cs_set (i := 8) nd rfl (Or.inl rfl) (by decide) (ce_lst (ca_cons ce_non (ca_cons ce_int (ca_cons (ce_tup ca_nil) (ca_cons ce_str (ca_cons (ce_lst (ca_cons (ce_var 5) (ca_cons (ce_var 6) (ca_cons (ce_var 7) ca_nil)))) (ca_cons (ce_tup (ca_cons (ce_var 5) (ca_cons (ce_var 6) ca_nil))) (ca_cons (ce_tup (ca_cons (ce_var 5) (ca_cons (ce_var 6) (ca_cons (ce_var 7) (ca_cons ce_int ca_nil))))) ca_nil))))))))) (css_cons (cs_set (i := 8) nd rfl (Or.inl rfl) (by decide) (ce_op op_addA l_add (ce_var 8) (ce_lst (ca_cons (ce_tup (ca_cons ce_non (ca_cons (ce_var 6) (ca_cons (ce_var 7) ca_nil)))) (ca_cons (ce_tup (ca_cons ce_bl (ca_cons (ce_var 6) (ca_cons (ce_var 7) ca_nil)))) (ca_cons (ce_tup (ca_cons ce_str (ca_cons (ce_var 6) (ca_cons (ce_var 7) ca_nil)))) ca_nil)))))) (css_cons (cs_set (i := 8) nd rfl (Or.inl rfl) (by decide) (ce_op op_addA l_add (ce_var 8) (ce_lst (ca_cons (ce_tup (ca_cons (ce_var 5) (ca_cons ce_str (ca_cons (ce_var 7) ca_nil)))) (ca_cons (ce_tup (ca_cons (ce_op op_sub l_sub (ce_ix (ce_ix (ce_var 1) ce_int) ce_int) ce_int) (ca_cons (ce_var 6) (ca_cons (ce_not (ce_var 7)) ca_nil)))) ca_nil))))) (css_cons (cs_set (i := 8) nd rfl (Or.inl rfl) (by decide) (ce_op op_addA l_add (ce_var 8) (ce_lst (ca_cons (ce_tup (ca_cons (ce_var 5) (ca_cons ce_non (ca_cons (ce_var 7) ca_nil)))) (ca_cons (ce_tup (ca_cons (ce_var 5) (ca_cons (ce_op op_addA l_add (ce_var 6) ce_str) (ca_cons (ce_var 7) ca_nil)))) (ca_cons (ce_tup (ca_cons (ce_var 5) (ca_cons (ce_var 6) (ca_cons (ce_callTy call_int1 l_int (by rfl) g.b_int bt_int (ca_cons (ce_var 7) ca_nil)) ca_nil)))) ca_nil)))))) (css_cons (cs_set (i := 8) nd rfl (Or.inl rfl) (by decide) (ce_op op_addA l_add (ce_var 8) (ce_lst (ca_cons (ce_tup (ca_cons (ce_var 5) (ca_cons (ce_var 6) (ca_cons ce_non ca_nil)))) (ca_cons (ce_tup (ca_cons (ce_var 5) (ca_cons (ce_var 6) (ca_cons ce_str ca_nil)))) ca_nil))))) (css_cons (cs_set (i := 8) nd rfl (Or.inl rfl) (by decide) (ce_op op_addA l_add (ce_var 8) (ce_lst (ca_cons (ce_tup (ca_cons (ce_var 5) (ca_cons (ce_var 6) (ca_cons (ce_not (ce_var 7)) ca_nil)))) (ca_cons (ce_tup (ca_cons (ce_var 5) (ca_cons (ce_lst (ca_cons ce_str ca_nil)) (ca_cons (ce_var 7) ca_nil)))) ca_nil))))) (css_cons (cs_for PassesOwn.never rfl (ci_list (ce_var 8)) (cg_name (i := 9) nd rfl (Or.inl rfl) (by decide)) (css_cons (cs_set (i := 10) nd rfl (Or.inl rfl) (by decide) (ce_ifE (ct_cmp (op_eqA hu64) l_eqS (ce_cal c__law_dip hr (by decide) hgd (by rfl) (ca_cons (ce_var 0) (ca_cons ce_int ca_nil))) ce_int rfl) (ce_slice (ce_var 1) (co_some (ce_op op_addA l_add (ce_var 4) ce_int)) co_none) (ce_lst (ca_cons ce_non ca_nil)))) (css_one (cs_expr (ce_app (i := 2) (ce_tup (ca_cons (ce_op op_addA l_add (ce_op op_addA l_add (ce_slice (ce_var 1) co_none (co_some (ce_var 4))) (ce_lst (ca_cons (ce_var 9) ca_nil))) (ce_var 10)) (ca_cons (ce_op op_addA l_add ce_str (ce_callB (call_reprM hu64 hgd sys) l_reprM (by rfl) g.b_repr bt_repr (ca_cons (ce_var 4) ca_nil))) ca_nil)))))))) (css_cons (cs_if (ct_cmp op_gt l_cmp (ce_var 4) ce_int rfl) (css_one (cs_expr (ce_app (i := 2) (ce_tup (ca_cons (ce_op op_addA l_add (ce_op op_addA l_add (ce_slice (ce_var 1) co_none (co_some (ce_var 4))) (ce_lst (ca_cons (ce_tup (ca_cons (ce_op op_sub l_sub (ce_ix (ce_ix (ce_var 1) (ce_op op_sub l_sub (ce_var 4) ce_int)) ce_int) ce_int) (ca_cons (ce_var 6) (ca_cons (ce_var 7) ca_nil)))) ca_nil))) (ce_lst (ca_cons ce_int ca_nil))) (ca_cons (ce_op op_addA l_add ce_str (ce_callB (call_reprM hu64 hgd sys) l_reprM (by rfl) g.b_repr bt_repr (ca_cons (ce_var 4) ca_nil))) ca_nil)))))) css_nil) (css_cons (cs_expr (ce_app (i := 2) (ce_tup (ca_cons (ce_slice (ce_var 1) co_none (co_some (ce_un un_neg l_neg ce_int))) (ca_cons (ce_op op_addA l_add ce_str (ce_callB (call_reprM hu64 hgd sys) l_reprM (by rfl) g.b_repr bt_repr (ca_cons (ce_op op_sub l_sub (ce_callB call_lenA l_len (by rfl) g.b_len bt_len (ca_cons (ce_var 1) ca_nil)) ce_int) ca_nil))) ca_nil))))) (css_one (cs_ret (ce_op op_addA l_add (ce_var 2) (ce_lst (ca_cons (ce_tup (ca_cons (ce_op op_addA l_add (ce_var 1) (ce_lst (ca_cons (ce_tup (ca_cons (ce_ix (ce_ix (ce_var 1) (ce_un un_neg l_neg ce_int)) ce_int) (ca_cons ce_str (ca_cons ce_bl ca_nil)))) ca_nil))) (ca_cons (ce_op op_addA l_add ce_str (ce_callB (call_reprM hu64 hgd sys) l_reprM (by rfl) g.b_repr bt_repr (ca_cons (ce_op op_addA l_add (ce_callB call_lenA l_len (by rfl) g.b_len bt_len (ca_cons (ce_var 1) ca_nil)) ce_int) ca_nil))) ca_nil))) ca_nil)))))))))))))))))
theorem sc__law_told : FnScope N__law_told ["door", "value"] (defScope s__law_told) := ⟨rfl, rfl, rfl, by decide +kernel, rfl, by decide +kernel, by decide +kernel⟩
theorem t__law_told (g : Gm K mg) (sys : SysAt base) (xn_KeyerError : mg "KeyerError" = some (.ref (clsOf K "KeyerError"))) (xm_InvalidRecord_KeyerError : PySem.W.exmOne K (.ref (clsOf K "InvalidRecord")) (.ref (clsOf K "KeyerError")) = some true) (xm_InvalidRules_KeyerError : PySem.W.exmOne K (.ref (clsOf K "InvalidRules")) (.ref (clsOf K "KeyerError")) = some true) (xm_InvalidRuns_KeyerError : PySem.W.exmOne K (.ref (clsOf K "InvalidRuns")) (.ref (clsOf K "KeyerError")) = some true) (cx_format_record : CalX P w K mg base 5 "format_record" [] S_format_record) (cx_format_rules : CalX P w K mg base 4 "format_rules" [] S_format_rules) (cx_format_runs : CalX P w K mg base 3 "format_runs" [] S_format_runs) (ck__law_class : CalK P w K mg base 2 "_law_class" S__law_class) {f : Addr} {fd : FuncData} {dV : Value} (F : DefAt K mg "_law_told" "_law_told" s__law_told f fd dV) : FnG P w K mg base CX0 6 f fd ["door", "value"] (spT K S__law_told) := by
  refine def_ok (N := N__law_told) (k := 5) 0 F sc__law_told l__law_told (by decide) fun cdv A outer s H E hr hgd => ⟨w__law_told, ?_, v__law_told⟩
  have nd := sc__law_told.nd
  have hu64 := hr.units
  have hu := hu_of hr
  exact (css_cons (cs_par (i := 2) (j := 3) rfl nd rfl rfl (by decide) rfl rfl (by decide) (by decide) (ca_cons (ce_callB (call_reprM hu64 hgd sys) l_reprM (by rfl) g.b_repr bt_repr (ca_cons (ce_var 1) ca_nil)) (ca_cons ce_str ca_nil)) rfl) (css_cons (cs_try (i := 4) (ok := ["InvalidRecord", "InvalidRules", "InvalidRuns"]) rfl rfl nd rfl rfl (by decide) ⟨by rfl, by decide, .inl xn_KeyerError⟩ (List.forall_mem_cons.mpr ⟨xm_InvalidRecord_KeyerError, (List.forall_mem_cons.mpr ⟨xm_InvalidRules_KeyerError, (List.forall_mem_cons.mpr ⟨xm_InvalidRuns_KeyerError, (List.forall_mem_nil _)⟩)⟩)⟩) (fun pn xe ps => (css_one (cs_if (ct_cmp (op_eqA hu64) l_eqS (ce_var 0) ce_int rfl) (css_one (cs_callX cx_format_runs rfl hr (by decide) hgd (by rfl) (ca_cons (ce_var 1) ca_nil))) (css_one (cs_if (ct_cmp (op_eqA hu64) l_eqS (ce_var 0) ce_int rfl) (css_one (cs_callX cx_format_rules rfl hr (by decide) hgd (by rfl) (ca_cons (ce_var 1) ca_nil))) (css_one (cs_callX cx_format_record rfl hr (by decide) hgd (by rfl) (ca_cons (ce_var 1) ca_nil)))))))) (fun ea oe ey eo pn hy z d => (css_one (cs_set (i := 3) nd rfl (Or.inl rfl) (by decide) (ce_calK ck__law_class (hotK_suite z d) (roomK hr) (by decide) hgd (by rfl) (ca_cons (ce_var 4) ca_nil)))))) (css_one (cs_ret (ce_ifE (ct_cmp (op_eqA hu64) l_eqS (ce_callB (call_reprM hu64 hgd sys) l_reprM (by rfl) g.b_repr bt_repr (ca_cons (ce_var 1) ca_nil)) (ce_var 2) rfl) (ce_var 3) ce_str)))))
theorem sc__law_some_runs : FnScope N__law_some_runs ["fount", "many"] (defScope s__law_some_runs) := ⟨rfl, rfl, rfl, by decide +kernel, rfl, by decide +kernel, by decide +kernel⟩
theorem t__law_some_runs (g : Gm K mg) (sys : SysAt base) (c__law_dip : Cal P w K mg base 1 "_law_dip" [] S__law_dip) {f : Addr} {fd : FuncData} {dV : Value} (F : DefAt K mg "_law_some_runs" "_law_some_runs" s__law_some_runs f fd dV) : FnG P w K mg base CX0 2 f fd ["fount", "many"] (spT K S__law_some_runs) := by
  refine def_ok (N := N__law_some_runs) (k := 1) 1 F sc__law_some_runs l__law_some_runs (by decide) fun cdv A outer s H E hr hgd => ⟨w__law_some_runs, ?_, v__law_some_runs⟩
  have nd := sc__law_some_runs.nd
  have hu64 := hr.units
  have hu := hu_of hr
  exact (css_cons (cs_set (i := 2) nd rfl (Or.inl rfl) (by decide) (ce_lst ca_nil)) (css_cons (cs_for PassesOwn.never rfl (ci_rng1 (by rfl) g.b_range (ca_cons (ce_var 1) ca_nil)) (cg_name (i := 3) nd rfl (Or.inl rfl) (by decide)) (css_cons (cs_set (i := 4) nd rfl (Or.inl rfl) (by decide) (ce_ix (ce_lst (ca_cons (ce_op op_sub l_sub (ce_cal c__law_dip hr (by decide) hgd (by rfl) (ca_cons (ce_var 0) (ca_cons ce_int ca_nil))) ce_int) (ca_cons (ce_cal c__law_dip hr (by decide) hgd (by rfl) (ca_cons (ce_var 0) (ca_cons (ce_op op_powW l_pow ce_int ce_int) ca_nil))) (ca_cons (ce_op op_sub l_sub ce_int (ce_op op_powW l_pow ce_int ce_int)) ca_nil)))) (ce_cal c__law_dip hr (by decide) hgd (by rfl) (ca_cons (ce_var 0) (ca_cons ce_int ca_nil))))) (css_cons (cs_set (i := 5) nd rfl (Or.inl rfl) (by decide) (ce_op op_addA l_add ce_int (ce_cal c__law_dip hr (by decide) hgd (by rfl) (ca_cons (ce_var 0) (ca_cons (ce_ix (ce_lst (ca_cons ce_int (ca_cons ce_int (ca_cons (ce_op op_powW l_pow ce_int ce_int) ca_nil)))) (ce_cal c__law_dip hr (by decide) hgd (by rfl) (ca_cons (ce_var 0) (ca_cons ce_int ca_nil)))) ca_nil))))) (css_one (cs_expr (ce_app (i := 2) (ce_tup (ca_cons (ce_var 4) (ca_cons (ce_ix (ce_lst (ca_cons ce_str (ca_cons ce_str (ca_cons ce_str (ca_cons ce_str ca_nil))))) (ce_cal c__law_dip hr (by decide) hgd (by rfl) (ca_cons (ce_var 0) (ca_cons ce_int ca_nil)))) (ca_cons (ce_var 5) ca_nil)))))))))) (css_one (cs_ret (ce_var 2)))))
theorem sc__law_right : FnScope N__law_right ["fount", "runs"] (defScope s__law_right) := ⟨rfl, rfl, rfl, by decide +kernel, rfl, by decide +kernel, by decide +kernel⟩
theorem t__law_right (g : Gm K mg) (sys : SysAt base) (cx_format_runs : CalX P w K mg base 3 "format_runs" [] S_format_runs) {f : Addr} {fd : FuncData} {dV : Value} (F : DefAt K mg "_law_right" "_law_right" s__law_right f fd dV) : FnG P w K mg base CX0 4 f fd ["fount", "runs"] (spT K S__law_right) := by
  refine def_ok (N := N__law_right) (k := 3) 1 F sc__law_right l__law_right (by decide) fun cdv A outer s H E hr hgd => ⟨w__law_right, ?_, v__law_right⟩
  have nd := sc__law_right.nd
  have hu64 := hr.units
  have hu := hu_of hr
  exact (css_cons (cs_setLc (i := 2) (own := [("begin", 3), ("word", 4), ("times_here", 5)]) rfl nd rfl rfl (by decide) (sw_true rfl rfl rfl (by decide +kernel)) (ci_list (ce_var 1)) (blkOk_by (N := N__law_right) (sc := defScope s__law_right) (by decide +kernel)) (fun _ _ _ _ _ => (cg_tup rfl (cgs_cons (cg_own (i := 3) nd rfl (Or.inl rfl) (by decide)) (cgs_cons (cg_own (i := 4) nd rfl (Or.inl rfl) (by decide)) (cgs_cons (cg_own (i := 5) nd rfl (Or.inl rfl) (by decide)) cgs_nil))))) (fun _ _ _ _ _ => cts_nil) (fun _ _ _ _ _ => (ce_op op_addA l_add (ce_op op_addA l_add (ce_op op_addA l_add (ce_op op_addA l_add (ce_callTy call_strA l_str (by rfl) g.b_str bt_str (ca_cons (ce_var 3) ca_nil)) ce_str) (ce_var 4)) ce_str) (ce_callTy call_strA l_str (by rfl) g.b_str bt_str (ca_cons (ce_var 5) ca_nil))))) (css_cons (cs_par (i := 6) (j := 7) rfl nd rfl rfl (by decide) rfl rfl (by decide) (by decide) (ca_cons (ce_callB (call_reprM hu64 hgd sys) l_reprM (by rfl) g.b_repr bt_repr (ca_cons (ce_var 1) ca_nil)) (ca_cons (ce_lst (ca_cons (ce_cal cx_format_runs.nox hr (by decide) hgd (by rfl) (ca_cons (ce_var 1) ca_nil)) (ca_cons (ce_cal cx_format_runs.nox hr (by decide) hgd (by rfl) (ca_cons (ce_callTy call_list_of l_listOf (by rfl) g.b_list bt_list (ca_cons (ce_var 1) ca_nil)) ca_nil)) ca_nil))) ca_nil)) rfl) (css_one (cs_ret (ce_and (ce_cmp (op_eqA hu64) l_eqS (ce_var 7) (ce_op op_mulA l_mul (ce_lst (ca_cons (ce_mS PySem.F.slot_str_join PySem.F.type_str_join mt_join l_join ce_str (ca_cons (ce_var 2) ca_nil)) ca_nil)) ce_int) rfl) (ce_one (ce_cmp (op_eqA hu64) l_eqS (ce_callB (call_reprM hu64 hgd sys) l_reprM (by rfl) g.b_repr bt_repr (ca_cons (ce_var 1) ca_nil)) (ce_var 6) rfl)))))))
theorem sc__law_wrong_right : FnScope N__law_wrong_right ["fount", "runs"] (defScope s__law_wrong_right) := ⟨rfl, rfl, rfl, by decide +kernel, rfl, by decide +kernel, by decide +kernel⟩
theorem t__law_wrong_right (g : Gm K mg) (sys : SysAt base) (c__law_dip : Cal P w K mg base 1 "_law_dip" [] S__law_dip) (c__law_told : Cal P w K mg base 6 "_law_told" [] S__law_told) {f : Addr} {fd : FuncData} {dV : Value} (F : DefAt K mg "_law_wrong_right" "_law_wrong_right" s__law_wrong_right f fd dV) : FnG P w K mg base CX0 7 f fd ["fount", "runs"] (spT K S__law_wrong_right) := by
  refine def_ok (N := N__law_wrong_right) (k := 6) 1 F sc__law_wrong_right l__law_wrong_right (by decide) fun cdv A outer s H E hr hgd => ⟨w__law_wrong_right, ?_, v__law_wrong_right⟩
  have nd := sc__law_wrong_right.nd
  have hu64 := hr.units
  have hu := hu_of hr
  exact (css_cons (cs_set (i := 2) nd rfl (Or.inl rfl) (by decide) (ce_cal c__law_dip hr (by decide) hgd (by rfl) (ca_cons (ce_var 0) (ca_cons (ce_callB call_lenA l_len (by rfl) g.b_len bt_len (ca_cons (ce_var 1) ca_nil)) ca_nil)))) (css_cons (cs_asg (ce_ix (ce_var 1) (ce_var 2)) (cg_tup rfl (cgs_cons (cg_name (i := 3) nd rfl (Or.inl rfl) (by decide)) (cgs_cons (cg_name (i := 4) nd rfl (Or.inl rfl) (by decide)) (cgs_cons (cg_name (i := 5) nd rfl (Or.inl rfl) (by decide)) cgs_nil))))) (css_cons (cs_set (i := 6) nd rfl (Or.inl rfl) (by decide) (ce_lst (ca_cons ce_non (ca_cons ce_int (ca_cons (ce_tup ca_nil) (ca_cons ce_str (ca_cons (ce_lst (ca_cons (ce_var 3) (ca_cons (ce_var 4) (ca_cons (ce_var 5) ca_nil)))) (ca_cons (ce_tup (ca_cons (ce_var 3) (ca_cons (ce_var 4) ca_nil))) (ca_cons (ce_tup (ca_cons (ce_var 3) (ca_cons (ce_var 4) (ca_cons (ce_var 5) (ca_cons ce_int ca_nil))))) ca_nil))))))))) (css_cons (cs_set (i := 6) nd rfl (Or.inl rfl) (by decide) (ce_op op_addA l_add (ce_var 6) (ce_lst (ca_cons (ce_tup (ca_cons ce_non (ca_cons (ce_var 4) (ca_cons ce_int ca_nil)))) (ca_cons (ce_tup (ca_cons ce_bl (ca_cons (ce_var 4) (ca_cons ce_int ca_nil)))) (ca_cons (ce_tup (ca_cons (ce_callTy call_strA l_str (by rfl) g.b_str bt_str (ca_cons (ce_var 3) ca_nil)) (ca_cons (ce_var 4) (ca_cons ce_int ca_nil)))) (ca_cons (ce_tup (ca_cons (ce_var 3) (ca_cons ce_str (ca_cons ce_int ca_nil)))) (ca_cons (ce_tup (ca_cons (ce_var 3) (ca_cons ce_str (ca_cons ce_int ca_nil)))) ca_nil)))))))) (css_cons (cs_set (i := 6) nd rfl (Or.inl rfl) (by decide) (ce_op op_addA l_add (ce_var 6) (ce_lst (ca_cons (ce_tup (ca_cons (ce_var 3) (ca_cons ce_str (ca_cons ce_int ca_nil)))) (ca_cons (ce_tup (ca_cons (ce_var 3) (ca_cons (ce_lst (ca_cons ce_str ca_nil)) (ca_cons ce_int ca_nil)))) (ca_cons (ce_tup (ca_cons (ce_var 3) (ca_cons ce_non (ca_cons ce_int ca_nil)))) (ca_cons (ce_tup (ca_cons (ce_var 3) (ca_cons (ce_var 4) (ca_cons ce_int ca_nil)))) (ca_cons (ce_tup (ca_cons (ce_var 3) (ca_cons (ce_var 4) (ca_cons (ce_un un_neg l_neg ce_int) ca_nil)))) ca_nil)))))))) (css_cons (cs_for PassesOwn.never rfl (ci_list (ce_op op_addA l_add (ce_var 6) (ce_lst (ca_cons (ce_tup (ca_cons (ce_var 3) (ca_cons (ce_var 4) (ca_cons ce_bl ca_nil)))) (ca_cons (ce_tup (ca_cons (ce_var 3) (ca_cons (ce_var 4) (ca_cons ce_non ca_nil)))) (ca_cons (ce_tup (ca_cons (ce_var 3) (ca_cons (ce_var 4) (ca_cons ce_str ca_nil)))) (ca_cons (ce_tup (ca_cons (ce_var 4) (ca_cons (ce_var 3) (ca_cons ce_int ca_nil)))) ca_nil))))))) (cg_name (i := 7) nd rfl (Or.inl rfl) (by decide)) (css_cons (cs_set (i := 8) nd rfl (Or.inl rfl) (by decide) (ce_ifE (ct_cmp (op_eqA hu64) l_eqS (ce_cal c__law_dip hr (by decide) hgd (by rfl) (ca_cons (ce_var 0) (ca_cons ce_int ca_nil))) ce_int rfl) (ce_slice (ce_var 1) (co_some (ce_op op_addA l_add (ce_var 2) ce_int)) co_none) (ce_lst (ca_cons ce_non ca_nil)))) (css_one (cs_if (ct_cmp (op_neA hu64) l_eqS (ce_cal c__law_told hr (by decide) hgd (by rfl) (ca_cons ce_int (ca_cons (ce_op op_addA l_add (ce_op op_addA l_add (ce_slice (ce_var 1) co_none (co_some (ce_var 2))) (ce_lst (ca_cons (ce_var 7) ca_nil))) (ce_var 8)) ca_nil))) (ce_op op_addA l_add ce_str (ce_callB (call_reprM hu64 hgd sys) l_reprM (by rfl) g.b_repr bt_repr (ca_cons (ce_var 2) ca_nil))) rfl) (css_one (cs_ret ce_bl)) css_nil)))) (css_one (cs_ret (ce_cmp (op_eqA hu64) l_eqS (ce_lc (own := [("value", 9)]) rfl nd (ci_tup (ce_tup (ca_cons ce_non (ca_cons ce_int (ca_cons ce_str (ca_cons (ce_tup ca_nil) (ca_cons ce_dnew (ca_cons (ce_callTy call_tuple_of l_tupleOf (by rfl) g.b_tuple bt_tuple (ca_cons (ce_var 1) ca_nil)) (ca_cons ce_bl ca_nil))))))))) (blkOk_by (N := N__law_wrong_right) (sc := defScope s__law_wrong_right) (by decide +kernel)) (fun _ _ _ _ _ => (cg_own (i := 9) nd rfl (Or.inl rfl) (by decide))) (fun _ _ _ _ _ => cts_nil) (fun _ _ _ _ _ => (ce_cal c__law_told hr (by decide) hgd (by rfl) (ca_cons ce_int (ca_cons (ce_var 9) ca_nil))))) (ce_op op_mulA l_mul (ce_lst (ca_cons ce_str ca_nil)) ce_int) rfl)))))))))
theorem sc_law : FnScope N_law ["script"] (defScope s_law) := ⟨rfl, rfl, rfl, by decide +kernel, rfl, by decide +kernel, by decide +kernel⟩
theorem t_law (g : Gm K mg) (sys : SysAt base) (cx_format_runs : CalX P w K mg base 3 "format_runs" [] S_format_runs) (c__law_bad_records : Cal P w K mg base 2 "_law_bad_records" [] S__law_bad_records) (c__law_bad_rules : Cal P w K mg base 2 "_law_bad_rules" [] S__law_bad_rules) (c__law_dip : Cal P w K mg base 1 "_law_dip" [] S__law_dip) (c__law_fount : Cal P w K mg base 1 "_law_fount" [] S__law_fount) (c__law_record : Cal P w K mg base 2 "_law_record" [] S__law_record) (c__law_right : Cal P w K mg base 4 "_law_right" [] S__law_right) (c__law_rules : Cal P w K mg base 2 "_law_rules" [] S__law_rules) (c__law_some_runs : Cal P w K mg base 2 "_law_some_runs" [] S__law_some_runs) (c__law_told : Cal P w K mg base 6 "_law_told" [] S__law_told) (c__law_wrong_right : Cal P w K mg base 7 "_law_wrong_right" [] S__law_wrong_right) {f : Addr} {fd : FuncData} {dV : Value} (F : DefAt K mg "law" "law" s_law f fd dV) : FnG P w K mg base CX0 8 f fd ["script"] (spT K S_law) := by
  refine def_ok (N := N_law) (k := 7) 0 F sc_law l_law (by decide) fun cdv A outer s H E hr hgd => ⟨w_law, ?_, v_law⟩
  have nd := sc_law.nd
  have hu64 := hr.units
  have hu := hu_of hr
  exact (css_cons (cs_for PassesOwn.never rfl (ci_rng1 (by rfl) g.b_range (ca_cons (ce_callB (call_max2 rfl) l_max2 (by rfl) g.b_max bt_max (ca_cons ce_int (ca_cons (ce_callB (call_min2 rfl) l_min2 (by rfl) g.b_min bt_min (ca_cons ce_int (ca_cons (ce_callB call_lenA l_len (by rfl) g.b_len bt_len (ca_cons (ce_var 0) ca_nil)) ca_nil))) ca_nil))) ca_nil)) (cg_name (i := 1) nd rfl (Or.inl rfl) (by decide)) (css_cons (cs_set (i := 2) nd rfl (Or.inl rfl) (by decide) (ce_cal c__law_fount hr (by decide) hgd (by rfl) (ca_cons (ce_var 0) (ca_cons (ce_var 1) ca_nil)))) (css_cons (cs_for PassesOwn.never rfl (ci_list (ce_op op_addA l_add (ce_lst (ca_cons (ce_cal c__law_dip hr (by decide) hgd (by rfl) (ca_cons (ce_var 2) (ca_cons ce_int ca_nil))) (ca_cons (ce_op op_addA l_add ce_int (ce_cal c__law_dip hr (by decide) hgd (by rfl) (ca_cons (ce_var 2) (ca_cons ce_int ca_nil)))) ca_nil))) (ce_lst (ca_cons (ce_ix (ce_lst (ca_cons ce_int (ca_cons ce_int (ca_cons ce_int (ca_cons ce_int ca_nil))))) (ce_cal c__law_dip hr (by decide) hgd (by rfl) (ca_cons (ce_var 2) (ca_cons ce_int ca_nil)))) ca_nil)))) (cg_name (i := 3) nd rfl (Or.inl rfl) (by decide)) (css_cons (cs_set (i := 4) nd rfl (Or.inl rfl) (by decide) (ce_cal c__law_some_runs hr (by decide) hgd (by rfl) (ca_cons (ce_var 2) (ca_cons (ce_var 3) ca_nil)))) (css_one (cs_if ((cw_or (ct_not (ct_tru (ce_cal c__law_right hr (by decide) hgd (by rfl) (ca_cons (ce_var 2) (ca_cons (ce_var 4) ca_nil))))) (cw_or1 ((cw_and (ct_cmp (op_neNil hu64) l_nilL (ce_var 4) (ce_lst ca_nil) rfl) (cw_and1 (ct_not (ct_tru (ce_cal c__law_wrong_right hr (by decide) hgd (by rfl) (ca_cons (ce_var 2) (ca_cons (ce_var 4) ca_nil)))))))).ct))).ct (css_one (cs_ret ce_bl)) css_nil)))) (css_cons (cs_par (i := 5) (j := 6) rfl nd rfl rfl (by decide) rfl rfl (by decide) (by decide) (ca_cons (ce_cal c__law_rules hr (by decide) hgd (by rfl) (ca_cons (ce_var 2) ca_nil)) (ca_cons (ce_cal c__law_record hr (by decide) hgd (by rfl) (ca_cons (ce_var 2) (ca_cons (ce_op op_addA l_add ce_int (ce_cal c__law_dip hr (by decide) hgd (by rfl) (ca_cons (ce_var 2) (ca_cons (ce_ix (ce_lst (ca_cons ce_int (ca_cons ce_int ca_nil))) (ce_callTy call_int1 l_int (by rfl) g.b_int bt_int (ca_cons (ce_cmp (op_eqA hu64) l_eqS (ce_var 1) ce_int rfl) ca_nil))) ca_nil)))) (ca_cons ce_int ca_nil)))) ca_nil)) rfl) (css_cons (cs_for PassesOwn.never rfl (ci_list (ce_cal c__law_bad_rules hr (by decide) hgd (by rfl) (ca_cons (ce_var 2) (ca_cons (ce_var 5) ca_nil)))) (cg_tup rfl (cgs_cons (cg_name (i := 7) nd rfl (Or.inl rfl) (by decide)) (cgs_cons (cg_name (i := 8) nd rfl (Or.inl rfl) (by decide)) cgs_nil))) (css_one (cs_if (ct_cmp (op_neA hu64) l_eqS (ce_cal c__law_told hr (by decide) hgd (by rfl) (ca_cons ce_int (ca_cons (ce_var 7) ca_nil))) (ce_var 8) rfl) (css_one (cs_ret ce_bl)) css_nil))) (css_cons (cs_for PassesOwn.never rfl (ci_list (ce_cal c__law_bad_records hr (by decide) hgd (by rfl) (ca_cons (ce_var 2) (ca_cons (ce_var 6) ca_nil)))) (cg_tup rfl (cgs_cons (cg_name (i := 7) nd rfl (Or.inl rfl) (by decide)) (cgs_cons (cg_name (i := 8) nd rfl (Or.inl rfl) (by decide)) cgs_nil))) (css_one (cs_if (ct_cmp (op_neA hu64) l_eqS (ce_cal c__law_told hr (by decide) hgd (by rfl) (ca_cons ce_int (ca_cons (ce_var 7) ca_nil))) (ce_var 8) rfl) (css_one (cs_ret ce_bl)) css_nil))) (css_one (cs_if (ct_cmp (op_neA hu64) l_eqS (ce_lst (ca_cons (ce_cal c__law_told hr (by decide) hgd (by rfl) (ca_cons ce_int (ca_cons (ce_var 5) ca_nil))) (ca_cons (ce_cal c__law_told hr (by decide) hgd (by rfl) (ca_cons ce_int (ca_cons (ce_var 6) ca_nil))) (ca_cons (ce_cal c__law_told hr (by decide) hgd (by rfl) (ca_cons ce_int (ca_cons (ce_lst ca_nil) ca_nil))) ca_nil)))) (ce_op op_mulA l_mul (ce_lst (ca_cons ce_str ca_nil)) ce_int) rfl) (css_one (cs_ret ce_bl)) css_nil)))))))) (css_one (cs_ret (ce_cmp (op_eqA hu64) l_eqS (ce_lst (ca_cons (ce_cal cx_format_runs.nox hr (by decide) hgd (by rfl) (ca_cons (ce_lst ca_nil) ca_nil)) (ca_cons (ce_cal cx_format_runs.nox hr (by decide) hgd (by rfl) (ca_cons (ce_lst (ca_cons (ce_tup (ca_cons ce_int (ca_cons ce_str (ca_cons ce_int ca_nil)))) (ca_cons (ce_tup (ca_cons ce_int (ca_cons ce_str (ca_cons ce_int ca_nil)))) ca_nil))) ca_nil)) ca_nil))) (ce_lst (ca_cons ce_str (ca_cons ce_str ca_nil))) rfl))))
end
theorem all_mk {l : PySem.W.OpenLaw} {w : World} {K : Frag} {h : Heap} {mg : Str → Option Value} {fa : Addr} (X : K.In h) (G : h.Ns mainGlobals mg) (hfa : mg "law" = some (.ref fa))
    (z_ValueError : PySem.W.nsIn K mainGlobals "ValueError" = some none)
    (z_abs : PySem.W.nsIn K mainGlobals "abs" = some none)
    (z_bool : PySem.W.nsIn K mainGlobals "bool" = some none)
    (z_enumerate : PySem.W.nsIn K mainGlobals "enumerate" = some none)
    (z_int : PySem.W.nsIn K mainGlobals "int" = some none)
    (z_isinstance : PySem.W.nsIn K mainGlobals "isinstance" = some none)
    (z_len : PySem.W.nsIn K mainGlobals "len" = some none)
    (z_list : PySem.W.nsIn K mainGlobals "list" = some none)
    (z_max : PySem.W.nsIn K mainGlobals "max" = some none)
    (z_min : PySem.W.nsIn K mainGlobals "min" = some none)
    (z_range : PySem.W.nsIn K mainGlobals "range" = some none)
    (z_repr : PySem.W.nsIn K mainGlobals "repr" = some none)
    (z_str : PySem.W.nsIn K mainGlobals "str" = some none)
    (z_tuple : PySem.W.nsIn K mainGlobals "tuple" = some none)
    {ad_LEVERS : Addr} {dd_LEVERS : Option Addr} {n_LEVERS : Nat} {sl_LEVERS : Array (Option Value)} {tLEVERS0 tLEVERS1 : Tok} (a_LEVERS : PySem.W.nsIn K mainGlobals "LEVERS" = some (some (.ref ad_LEVERS))) (l_LEVERS : K.lookup ad_LEVERS = some ⟨.type "tuple", dd_LEVERS, .seq [.str "s" tLEVERS0, .str "l" tLEVERS1].toArray n_LEVERS, sl_LEVERS⟩)
    {t_MOST_EVENTS : Tok} (a_MOST_EVENTS : PySem.W.nsIn K mainGlobals "MOST_EVENTS" = some (some (.int 200 t_MOST_EVENTS)))
    {ad_NO_YES : Addr} {dd_NO_YES : Option Addr} {n_NO_YES : Nat} {sl_NO_YES : Array (Option Value)} {tNO_YES0 tNO_YES1 : Tok} (a_NO_YES : PySem.W.nsIn K mainGlobals "NO_YES" = some (some (.ref ad_NO_YES))) (l_NO_YES : K.lookup ad_NO_YES = some ⟨.type "tuple", dd_NO_YES, .seq [.str "no" tNO_YES0, .str "yes" tNO_YES1].toArray n_NO_YES, sl_NO_YES⟩)
    {ad_PREFERENCES : Addr} {dd_PREFERENCES : Option Addr} {n_PREFERENCES : Nat} {sl_PREFERENCES : Array (Option Value)} {tPREFERENCES0 tPREFERENCES1 tPREFERENCES2 tPREFERENCES3 : Tok} (a_PREFERENCES : PySem.W.nsIn K mainGlobals "PREFERENCES" = some (some (.ref ad_PREFERENCES))) (l_PREFERENCES : K.lookup ad_PREFERENCES = some ⟨.type "tuple", dd_PREFERENCES, .seq [.str "turn" tPREFERENCES0, .str "stay" tPREFERENCES1, .str "s" tPREFERENCES2, .str "l" tPREFERENCES3].toArray n_PREFERENCES, sl_PREFERENCES⟩)
    {ad_REMEMBERS : Addr} {dd_REMEMBERS : Option Addr} {n_REMEMBERS : Nat} {sl_REMEMBERS : Array (Option Value)} {tREMEMBERS0 tREMEMBERS1 tREMEMBERS2 : Tok} (a_REMEMBERS : PySem.W.nsIn K mainGlobals "REMEMBERS" = some (some (.ref ad_REMEMBERS))) (l_REMEMBERS : K.lookup ad_REMEMBERS = some ⟨.type "tuple", dd_REMEMBERS, .seq [.str "none" tREMEMBERS0, .str "press" tREMEMBERS1, .str "held" tREMEMBERS2].toArray n_REMEMBERS, sl_REMEMBERS⟩)
    {ad_WORDS : Addr} {dd_WORDS : Option Addr} {n_WORDS : Nat} {sl_WORDS : Array (Option Value)} {tWORDS0 tWORDS1 tWORDS2 tWORDS3 : Tok} (a_WORDS : PySem.W.nsIn K mainGlobals "WORDS" = some (some (.ref ad_WORDS))) (l_WORDS : K.lookup ad_WORDS = some ⟨.type "tuple", dd_WORDS, .seq [.str "s" tWORDS0, .str "l" tWORDS1, .str "sl" tWORDS2, .str "ls" tWORDS3].toArray n_WORDS, sl_WORDS⟩)
    {C_Impossible : Addr} (xa_Impossible : PySem.W.nsIn K mainGlobals "Impossible" = some (some (.ref C_Impossible)))
    {C_InvalidCases : Addr} (xa_InvalidCases : PySem.W.nsIn K mainGlobals "InvalidCases" = some (some (.ref C_InvalidCases)))
    {C_InvalidCode : Addr} (xa_InvalidCode : PySem.W.nsIn K mainGlobals "InvalidCode" = some (some (.ref C_InvalidCode)))
    {C_InvalidCommand : Addr} (xa_InvalidCommand : PySem.W.nsIn K mainGlobals "InvalidCommand" = some (some (.ref C_InvalidCommand)))
    {C_InvalidGaps : Addr} (xa_InvalidGaps : PySem.W.nsIn K mainGlobals "InvalidGaps" = some (some (.ref C_InvalidGaps)))
    {C_InvalidKinds : Addr} (xa_InvalidKinds : PySem.W.nsIn K mainGlobals "InvalidKinds" = some (some (.ref C_InvalidKinds)))
    {C_InvalidLever : Addr} (xa_InvalidLever : PySem.W.nsIn K mainGlobals "InvalidLever" = some (some (.ref C_InvalidLever)))
    {C_InvalidName : Addr} (xa_InvalidName : PySem.W.nsIn K mainGlobals "InvalidName" = some (some (.ref C_InvalidName)))
    {C_InvalidNumber : Addr} (xa_InvalidNumber : PySem.W.nsIn K mainGlobals "InvalidNumber" = some (some (.ref C_InvalidNumber)))
    {C_InvalidRecord : Addr} (xa_InvalidRecord : PySem.W.nsIn K mainGlobals "InvalidRecord" = some (some (.ref C_InvalidRecord)))
    {C_InvalidRules : Addr} (xa_InvalidRules : PySem.W.nsIn K mainGlobals "InvalidRules" = some (some (.ref C_InvalidRules)))
    {C_InvalidRuns : Addr} (xa_InvalidRuns : PySem.W.nsIn K mainGlobals "InvalidRuns" = some (some (.ref C_InvalidRuns)))
    {C_InvalidSyntax : Addr} (xa_InvalidSyntax : PySem.W.nsIn K mainGlobals "InvalidSyntax" = some (some (.ref C_InvalidSyntax)))
    {C_InvalidText : Addr} (xa_InvalidText : PySem.W.nsIn K mainGlobals "InvalidText" = some (some (.ref C_InvalidText)))
    {C_InvalidTick : Addr} (xa_InvalidTick : PySem.W.nsIn K mainGlobals "InvalidTick" = some (some (.ref C_InvalidTick)))
    {C_KeyerError : Addr} (xa_KeyerError : PySem.W.nsIn K mainGlobals "KeyerError" = some (some (.ref C_KeyerError)))
    {C_NothingToUndo : Addr} (xa_NothingToUndo : PySem.W.nsIn K mainGlobals "NothingToUndo" = some (some (.ref C_NothingToUndo)))
    {C_TooLarge : Addr} (xa_TooLarge : PySem.W.nsIn K mainGlobals "TooLarge" = some (some (.ref C_TooLarge)))
    (xs_KeyerError : PySem.W.specialIn K (.ref C_KeyerError) "__getattribute__" = some (some (.builtin "type.__getattribute__"))) (xt_KeyerError : PySem.W.typeIn K (.ref C_KeyerError) = some (.type "type")) (xr_KeyerError : PySem.W.readsIn K C_KeyerError (.type "type") = true) (xc_KeyerError : PySem.W.findCls K (.ref C_KeyerError) (.type "type") "__init__" = some (.val (.builtin "ValueError.__init__")))
    {nm_InvalidCases q_InvalidCases : Str} {N_InvalidCases : Addr} {bs_InvalidCases bm_InvalidCases : List Value} {sn_InvalidCases : List Str} {sub_InvalidCases : List Value} {ab_InvalidCases : Bool} {col_InvalidCases : Option Bool} {dd_InvalidCases : Option Addr} {m0_InvalidCases m1_InvalidCases m2_InvalidCases m3_InvalidCases m5_InvalidCases : Option Value}
    (xl_InvalidCases : K.lookup C_InvalidCases = some (PySem.excClassObj nm_InvalidCases q_InvalidCases C_InvalidCases N_InvalidCases bs_InvalidCases bm_InvalidCases true sn_InvalidCases sub_InvalidCases ab_InvalidCases col_InvalidCases dd_InvalidCases m0_InvalidCases m1_InvalidCases m2_InvalidCases m3_InvalidCases m5_InvalidCases "ValueError.__new__")) (xb_InvalidCases : PySem.HandSPX.refsVE bm_InvalidCases = true)
    (xsa_InvalidCases : PySem.W.findIn K (.ref C_InvalidCases) "__setattr__" = some (some (.builtin "object.__setattr__"))) (xe_InvalidCases : PySem.W.subIn K (.ref C_InvalidCases) (.type "BaseException") = some true) (xty_InvalidCases : PySem.W.typeIn K (.ref C_InvalidCases) = some (.type "type")) (xk_InvalidCases : PySem.W.keepIn K (.ref C_InvalidCases) = true)
    {fi_InvalidCases : Addr} {od_InvalidCases an_InvalidCases : Option Addr} {sl_InvalidCases : Array (Option Value)} {oc_InvalidCases kV_InvalidCases dc_InvalidCases pm_InvalidCases cd_InvalidCases ct_InvalidCases : Value} (xi_InvalidCases : PySem.W.findIn K (.ref C_InvalidCases) "__init__" = some (some (.ref fi_InvalidCases))) (xti_InvalidCases : PySem.W.typeIn K (.ref fi_InvalidCases) = some (.type "function"))
    (xli_InvalidCases : K.lookup fi_InvalidCases = some ⟨oc_InvalidCases, od_InvalidCases, .func (PySem.W.fnOf "__init__" "InvalidCases.__init__" (defArgs si_InvalidCases) (defBody si_InvalidCases) (defScope si_InvalidCases) .none kV_InvalidCases dc_InvalidCases pm_InvalidCases an_InvalidCases cd_InvalidCases ct_InvalidCases), sl_InvalidCases⟩) (xci_InvalidCases : PySem.W.codeIn K cd_InvalidCases "InvalidCases.__init__" = true)
    (xno0_InvalidCases : PySem.W.findIn K (.ref C_InvalidCases) "index" = some none)
    {nm_InvalidCode q_InvalidCode : Str} {N_InvalidCode : Addr} {bs_InvalidCode bm_InvalidCode : List Value} {sn_InvalidCode : List Str} {sub_InvalidCode : List Value} {ab_InvalidCode : Bool} {col_InvalidCode : Option Bool} {dd_InvalidCode : Option Addr} {m0_InvalidCode m1_InvalidCode m2_InvalidCode m3_InvalidCode m5_InvalidCode : Option Value}
    (xl_InvalidCode : K.lookup C_InvalidCode = some (PySem.excClassObj nm_InvalidCode q_InvalidCode C_InvalidCode N_InvalidCode bs_InvalidCode bm_InvalidCode true sn_InvalidCode sub_InvalidCode ab_InvalidCode col_InvalidCode dd_InvalidCode m0_InvalidCode m1_InvalidCode m2_InvalidCode m3_InvalidCode m5_InvalidCode "ValueError.__new__")) (xb_InvalidCode : PySem.HandSPX.refsVE bm_InvalidCode = true)
    (xsa_InvalidCode : PySem.W.findIn K (.ref C_InvalidCode) "__setattr__" = some (some (.builtin "object.__setattr__"))) (xe_InvalidCode : PySem.W.subIn K (.ref C_InvalidCode) (.type "BaseException") = some true) (xty_InvalidCode : PySem.W.typeIn K (.ref C_InvalidCode) = some (.type "type")) (xk_InvalidCode : PySem.W.keepIn K (.ref C_InvalidCode) = true)
    {fi_InvalidCode : Addr} {od_InvalidCode an_InvalidCode : Option Addr} {sl_InvalidCode : Array (Option Value)} {oc_InvalidCode kV_InvalidCode dc_InvalidCode pm_InvalidCode cd_InvalidCode ct_InvalidCode : Value} (xi_InvalidCode : PySem.W.findIn K (.ref C_InvalidCode) "__init__" = some (some (.ref fi_InvalidCode))) (xti_InvalidCode : PySem.W.typeIn K (.ref fi_InvalidCode) = some (.type "function"))
    (xli_InvalidCode : K.lookup fi_InvalidCode = some ⟨oc_InvalidCode, od_InvalidCode, .func (PySem.W.fnOf "__init__" "InvalidCode.__init__" (defArgs si_InvalidCode) (defBody si_InvalidCode) (defScope si_InvalidCode) .none kV_InvalidCode dc_InvalidCode pm_InvalidCode an_InvalidCode cd_InvalidCode ct_InvalidCode), sl_InvalidCode⟩) (xci_InvalidCode : PySem.W.codeIn K cd_InvalidCode "InvalidCode.__init__" = true)
    (xno0_InvalidCode : PySem.W.findIn K (.ref C_InvalidCode) "letter" = some none)
    {nm_InvalidKinds q_InvalidKinds : Str} {N_InvalidKinds : Addr} {bs_InvalidKinds bm_InvalidKinds : List Value} {sn_InvalidKinds : List Str} {sub_InvalidKinds : List Value} {ab_InvalidKinds : Bool} {col_InvalidKinds : Option Bool} {dd_InvalidKinds : Option Addr} {m0_InvalidKinds m1_InvalidKinds m2_InvalidKinds m3_InvalidKinds m5_InvalidKinds : Option Value}
    (xl_InvalidKinds : K.lookup C_InvalidKinds = some (PySem.excClassObj nm_InvalidKinds q_InvalidKinds C_InvalidKinds N_InvalidKinds bs_InvalidKinds bm_InvalidKinds true sn_InvalidKinds sub_InvalidKinds ab_InvalidKinds col_InvalidKinds dd_InvalidKinds m0_InvalidKinds m1_InvalidKinds m2_InvalidKinds m3_InvalidKinds m5_InvalidKinds "ValueError.__new__")) (xb_InvalidKinds : PySem.HandSPX.refsVE bm_InvalidKinds = true)
    (xsa_InvalidKinds : PySem.W.findIn K (.ref C_InvalidKinds) "__setattr__" = some (some (.builtin "object.__setattr__"))) (xe_InvalidKinds : PySem.W.subIn K (.ref C_InvalidKinds) (.type "BaseException") = some true) (xty_InvalidKinds : PySem.W.typeIn K (.ref C_InvalidKinds) = some (.type "type")) (xk_InvalidKinds : PySem.W.keepIn K (.ref C_InvalidKinds) = true)
    {fi_InvalidKinds : Addr} {od_InvalidKinds an_InvalidKinds : Option Addr} {sl_InvalidKinds : Array (Option Value)} {oc_InvalidKinds kV_InvalidKinds dc_InvalidKinds pm_InvalidKinds cd_InvalidKinds ct_InvalidKinds : Value} (xi_InvalidKinds : PySem.W.findIn K (.ref C_InvalidKinds) "__init__" = some (some (.ref fi_InvalidKinds))) (xti_InvalidKinds : PySem.W.typeIn K (.ref fi_InvalidKinds) = some (.type "function"))
    (xli_InvalidKinds : K.lookup fi_InvalidKinds = some ⟨oc_InvalidKinds, od_InvalidKinds, .func (PySem.W.fnOf "__init__" "InvalidKinds.__init__" (defArgs si_InvalidKinds) (defBody si_InvalidKinds) (defScope si_InvalidKinds) .none kV_InvalidKinds dc_InvalidKinds pm_InvalidKinds an_InvalidKinds cd_InvalidKinds ct_InvalidKinds), sl_InvalidKinds⟩) (xci_InvalidKinds : PySem.W.codeIn K cd_InvalidKinds "InvalidKinds.__init__" = true)
    (xno0_InvalidKinds : PySem.W.findIn K (.ref C_InvalidKinds) "index" = some none)
    {nm_InvalidRecord q_InvalidRecord : Str} {N_InvalidRecord : Addr} {bs_InvalidRecord bm_InvalidRecord : List Value} {sn_InvalidRecord : List Str} {sub_InvalidRecord : List Value} {ab_InvalidRecord : Bool} {col_InvalidRecord : Option Bool} {dd_InvalidRecord : Option Addr} {m0_InvalidRecord m1_InvalidRecord m2_InvalidRecord m3_InvalidRecord m5_InvalidRecord : Option Value}
    (xl_InvalidRecord : K.lookup C_InvalidRecord = some (PySem.excClassObj nm_InvalidRecord q_InvalidRecord C_InvalidRecord N_InvalidRecord bs_InvalidRecord bm_InvalidRecord true sn_InvalidRecord sub_InvalidRecord ab_InvalidRecord col_InvalidRecord dd_InvalidRecord m0_InvalidRecord m1_InvalidRecord m2_InvalidRecord m3_InvalidRecord m5_InvalidRecord "ValueError.__new__")) (xb_InvalidRecord : PySem.HandSPX.refsVE bm_InvalidRecord = true)
    (xsa_InvalidRecord : PySem.W.findIn K (.ref C_InvalidRecord) "__setattr__" = some (some (.builtin "object.__setattr__"))) (xe_InvalidRecord : PySem.W.subIn K (.ref C_InvalidRecord) (.type "BaseException") = some true) (xty_InvalidRecord : PySem.W.typeIn K (.ref C_InvalidRecord) = some (.type "type")) (xk_InvalidRecord : PySem.W.keepIn K (.ref C_InvalidRecord) = true)
    {fi_InvalidRecord : Addr} {od_InvalidRecord an_InvalidRecord : Option Addr} {sl_InvalidRecord : Array (Option Value)} {oc_InvalidRecord kV_InvalidRecord dc_InvalidRecord pm_InvalidRecord cd_InvalidRecord ct_InvalidRecord : Value} (xi_InvalidRecord : PySem.W.findIn K (.ref C_InvalidRecord) "__init__" = some (some (.ref fi_InvalidRecord))) (xti_InvalidRecord : PySem.W.typeIn K (.ref fi_InvalidRecord) = some (.type "function"))
    (xli_InvalidRecord : K.lookup fi_InvalidRecord = some ⟨oc_InvalidRecord, od_InvalidRecord, .func (PySem.W.fnOf "__init__" "InvalidRecord.__init__" (defArgs si_InvalidRecord) (defBody si_InvalidRecord) (defScope si_InvalidRecord) .none kV_InvalidRecord dc_InvalidRecord pm_InvalidRecord an_InvalidRecord cd_InvalidRecord ct_InvalidRecord), sl_InvalidRecord⟩) (xci_InvalidRecord : PySem.W.codeIn K cd_InvalidRecord "InvalidRecord.__init__" = true)
    (xno0_InvalidRecord : PySem.W.findIn K (.ref C_InvalidRecord) "index" = some none)
    {nm_InvalidRules q_InvalidRules : Str} {N_InvalidRules : Addr} {bs_InvalidRules bm_InvalidRules : List Value} {sn_InvalidRules : List Str} {sub_InvalidRules : List Value} {ab_InvalidRules : Bool} {col_InvalidRules : Option Bool} {dd_InvalidRules : Option Addr} {m0_InvalidRules m1_InvalidRules m2_InvalidRules m3_InvalidRules m5_InvalidRules : Option Value}
    (xl_InvalidRules : K.lookup C_InvalidRules = some (PySem.excClassObj nm_InvalidRules q_InvalidRules C_InvalidRules N_InvalidRules bs_InvalidRules bm_InvalidRules true sn_InvalidRules sub_InvalidRules ab_InvalidRules col_InvalidRules dd_InvalidRules m0_InvalidRules m1_InvalidRules m2_InvalidRules m3_InvalidRules m5_InvalidRules "ValueError.__new__")) (xb_InvalidRules : PySem.HandSPX.refsVE bm_InvalidRules = true)
    (xsa_InvalidRules : PySem.W.findIn K (.ref C_InvalidRules) "__setattr__" = some (some (.builtin "object.__setattr__"))) (xe_InvalidRules : PySem.W.subIn K (.ref C_InvalidRules) (.type "BaseException") = some true) (xty_InvalidRules : PySem.W.typeIn K (.ref C_InvalidRules) = some (.type "type")) (xk_InvalidRules : PySem.W.keepIn K (.ref C_InvalidRules) = true)
    {fi_InvalidRules : Addr} {od_InvalidRules an_InvalidRules : Option Addr} {sl_InvalidRules : Array (Option Value)} {oc_InvalidRules kV_InvalidRules dc_InvalidRules pm_InvalidRules cd_InvalidRules ct_InvalidRules : Value} (xi_InvalidRules : PySem.W.findIn K (.ref C_InvalidRules) "__init__" = some (some (.ref fi_InvalidRules))) (xti_InvalidRules : PySem.W.typeIn K (.ref fi_InvalidRules) = some (.type "function"))
    (xli_InvalidRules : K.lookup fi_InvalidRules = some ⟨oc_InvalidRules, od_InvalidRules, .func (PySem.W.fnOf "__init__" "InvalidRules.__init__" (defArgs si_InvalidRules) (defBody si_InvalidRules) (defScope si_InvalidRules) .none kV_InvalidRules dc_InvalidRules pm_InvalidRules an_InvalidRules cd_InvalidRules ct_InvalidRules), sl_InvalidRules⟩) (xci_InvalidRules : PySem.W.codeIn K cd_InvalidRules "InvalidRules.__init__" = true)
    (xno0_InvalidRules : PySem.W.findIn K (.ref C_InvalidRules) "index" = some none)
    {nm_InvalidRuns q_InvalidRuns : Str} {N_InvalidRuns : Addr} {bs_InvalidRuns bm_InvalidRuns : List Value} {sn_InvalidRuns : List Str} {sub_InvalidRuns : List Value} {ab_InvalidRuns : Bool} {col_InvalidRuns : Option Bool} {dd_InvalidRuns : Option Addr} {m0_InvalidRuns m1_InvalidRuns m2_InvalidRuns m3_InvalidRuns m5_InvalidRuns : Option Value}
    (xl_InvalidRuns : K.lookup C_InvalidRuns = some (PySem.excClassObj nm_InvalidRuns q_InvalidRuns C_InvalidRuns N_InvalidRuns bs_InvalidRuns bm_InvalidRuns true sn_InvalidRuns sub_InvalidRuns ab_InvalidRuns col_InvalidRuns dd_InvalidRuns m0_InvalidRuns m1_InvalidRuns m2_InvalidRuns m3_InvalidRuns m5_InvalidRuns "ValueError.__new__")) (xb_InvalidRuns : PySem.HandSPX.refsVE bm_InvalidRuns = true)
    (xsa_InvalidRuns : PySem.W.findIn K (.ref C_InvalidRuns) "__setattr__" = some (some (.builtin "object.__setattr__"))) (xe_InvalidRuns : PySem.W.subIn K (.ref C_InvalidRuns) (.type "BaseException") = some true) (xty_InvalidRuns : PySem.W.typeIn K (.ref C_InvalidRuns) = some (.type "type")) (xk_InvalidRuns : PySem.W.keepIn K (.ref C_InvalidRuns) = true)
    {fi_InvalidRuns : Addr} {od_InvalidRuns an_InvalidRuns : Option Addr} {sl_InvalidRuns : Array (Option Value)} {oc_InvalidRuns kV_InvalidRuns dc_InvalidRuns pm_InvalidRuns cd_InvalidRuns ct_InvalidRuns : Value} (xi_InvalidRuns : PySem.W.findIn K (.ref C_InvalidRuns) "__init__" = some (some (.ref fi_InvalidRuns))) (xti_InvalidRuns : PySem.W.typeIn K (.ref fi_InvalidRuns) = some (.type "function"))
    (xli_InvalidRuns : K.lookup fi_InvalidRuns = some ⟨oc_InvalidRuns, od_InvalidRuns, .func (PySem.W.fnOf "__init__" "InvalidRuns.__init__" (defArgs si_InvalidRuns) (defBody si_InvalidRuns) (defScope si_InvalidRuns) .none kV_InvalidRuns dc_InvalidRuns pm_InvalidRuns an_InvalidRuns cd_InvalidRuns ct_InvalidRuns), sl_InvalidRuns⟩) (xci_InvalidRuns : PySem.W.codeIn K cd_InvalidRuns "InvalidRuns.__init__" = true)
    (xno0_InvalidRuns : PySem.W.findIn K (.ref C_InvalidRuns) "index" = some none)
    {nm_InvalidSyntax q_InvalidSyntax : Str} {N_InvalidSyntax : Addr} {bs_InvalidSyntax bm_InvalidSyntax : List Value} {sn_InvalidSyntax : List Str} {sub_InvalidSyntax : List Value} {ab_InvalidSyntax : Bool} {col_InvalidSyntax : Option Bool} {dd_InvalidSyntax : Option Addr} {m0_InvalidSyntax m1_InvalidSyntax m2_InvalidSyntax m3_InvalidSyntax m5_InvalidSyntax : Option Value}
    (xl_InvalidSyntax : K.lookup C_InvalidSyntax = some (PySem.excClassObj nm_InvalidSyntax q_InvalidSyntax C_InvalidSyntax N_InvalidSyntax bs_InvalidSyntax bm_InvalidSyntax true sn_InvalidSyntax sub_InvalidSyntax ab_InvalidSyntax col_InvalidSyntax dd_InvalidSyntax m0_InvalidSyntax m1_InvalidSyntax m2_InvalidSyntax m3_InvalidSyntax m5_InvalidSyntax "ValueError.__new__")) (xb_InvalidSyntax : PySem.HandSPX.refsVE bm_InvalidSyntax = true)
    (xsa_InvalidSyntax : PySem.W.findIn K (.ref C_InvalidSyntax) "__setattr__" = some (some (.builtin "object.__setattr__"))) (xe_InvalidSyntax : PySem.W.subIn K (.ref C_InvalidSyntax) (.type "BaseException") = some true) (xty_InvalidSyntax : PySem.W.typeIn K (.ref C_InvalidSyntax) = some (.type "type")) (xk_InvalidSyntax : PySem.W.keepIn K (.ref C_InvalidSyntax) = true)
    {fi_InvalidSyntax : Addr} {od_InvalidSyntax an_InvalidSyntax : Option Addr} {sl_InvalidSyntax : Array (Option Value)} {oc_InvalidSyntax kV_InvalidSyntax dc_InvalidSyntax pm_InvalidSyntax cd_InvalidSyntax ct_InvalidSyntax : Value} (xi_InvalidSyntax : PySem.W.findIn K (.ref C_InvalidSyntax) "__init__" = some (some (.ref fi_InvalidSyntax))) (xti_InvalidSyntax : PySem.W.typeIn K (.ref fi_InvalidSyntax) = some (.type "function"))
    (xli_InvalidSyntax : K.lookup fi_InvalidSyntax = some ⟨oc_InvalidSyntax, od_InvalidSyntax, .func (PySem.W.fnOf "__init__" "InvalidSyntax.__init__" (defArgs si_InvalidSyntax) (defBody si_InvalidSyntax) (defScope si_InvalidSyntax) .none kV_InvalidSyntax dc_InvalidSyntax pm_InvalidSyntax an_InvalidSyntax cd_InvalidSyntax ct_InvalidSyntax), sl_InvalidSyntax⟩) (xci_InvalidSyntax : PySem.W.codeIn K cd_InvalidSyntax "InvalidSyntax.__init__" = true)
    (xno0_InvalidSyntax : PySem.W.findIn K (.ref C_InvalidSyntax) "line" = some none)
    (xno1_InvalidSyntax : PySem.W.findIn K (.ref C_InvalidSyntax) "word" = some none)
    {nm_TooLarge q_TooLarge : Str} {N_TooLarge : Addr} {bs_TooLarge bm_TooLarge : List Value} {sn_TooLarge : List Str} {sub_TooLarge : List Value} {ab_TooLarge : Bool} {col_TooLarge : Option Bool} {dd_TooLarge : Option Addr} {m0_TooLarge m1_TooLarge m2_TooLarge m3_TooLarge m5_TooLarge : Option Value}
    (xl_TooLarge : K.lookup C_TooLarge = some (PySem.excClassObj nm_TooLarge q_TooLarge C_TooLarge N_TooLarge bs_TooLarge bm_TooLarge true sn_TooLarge sub_TooLarge ab_TooLarge col_TooLarge dd_TooLarge m0_TooLarge m1_TooLarge m2_TooLarge m3_TooLarge m5_TooLarge "ValueError.__new__")) (xb_TooLarge : PySem.HandSPX.refsVE bm_TooLarge = true)
    (xsa_TooLarge : PySem.W.findIn K (.ref C_TooLarge) "__setattr__" = some (some (.builtin "object.__setattr__"))) (xe_TooLarge : PySem.W.subIn K (.ref C_TooLarge) (.type "BaseException") = some true) (xty_TooLarge : PySem.W.typeIn K (.ref C_TooLarge) = some (.type "type")) (xk_TooLarge : PySem.W.keepIn K (.ref C_TooLarge) = true)
    {fi_TooLarge : Addr} {od_TooLarge an_TooLarge : Option Addr} {sl_TooLarge : Array (Option Value)} {oc_TooLarge kV_TooLarge dc_TooLarge pm_TooLarge cd_TooLarge ct_TooLarge : Value} (xi_TooLarge : PySem.W.findIn K (.ref C_TooLarge) "__init__" = some (some (.ref fi_TooLarge))) (xti_TooLarge : PySem.W.typeIn K (.ref fi_TooLarge) = some (.type "function"))
    (xli_TooLarge : K.lookup fi_TooLarge = some ⟨oc_TooLarge, od_TooLarge, .func (PySem.W.fnOf "__init__" "TooLarge.__init__" (defArgs si_TooLarge) (defBody si_TooLarge) (defScope si_TooLarge) .none kV_TooLarge dc_TooLarge pm_TooLarge an_TooLarge cd_TooLarge ct_TooLarge), sl_TooLarge⟩) (xci_TooLarge : PySem.W.codeIn K cd_TooLarge "TooLarge.__init__" = true)
    (xno0_TooLarge : PySem.W.findIn K (.ref C_TooLarge) "limit" = some none)
    (xhn : PySem.W.specialIn K (.builtin "object.__class__") "__get__" = some (some (.builtin "getset_descriptor.__get__"))) (xht : PySem.W.takesIn K (.builtin "object.__class__") = some true)
    (xex_KeyerError : exB K C_KeyerError = true)
    (xex_InvalidLever : exB K C_InvalidLever = true)
    (xex_InvalidTick : exB K C_InvalidTick = true)
    (xex_InvalidNumber : exB K C_InvalidNumber = true)
    (xex_InvalidGaps : exB K C_InvalidGaps = true)
    (xex_InvalidText : exB K C_InvalidText = true)
    (xex_InvalidName : exB K C_InvalidName = true)
    (xex_Impossible : exB K C_Impossible = true)
    (xex_NothingToUndo : exB K C_NothingToUndo = true)
    (xex_InvalidCommand : exB K C_InvalidCommand = true)
    (xex_InvalidRules : exB K C_InvalidRules = true)
    (xex_InvalidRecord : exB K C_InvalidRecord = true)
    (xex_InvalidRuns : exB K C_InvalidRuns = true)
    (xex_InvalidKinds : exB K C_InvalidKinds = true)
    (xex_InvalidCases : exB K C_InvalidCases = true)
    (xex_InvalidCode : exB K C_InvalidCode = true)
    (xex_TooLarge : exB K C_TooLarge = true)
    (xex_InvalidSyntax : exB K C_InvalidSyntax = true)
    (xkit_Impossible : ([("KeyerError", C_KeyerError), ("InvalidLever", C_InvalidLever), ("InvalidTick", C_InvalidTick), ("InvalidNumber", C_InvalidNumber), ("InvalidGaps", C_InvalidGaps), ("InvalidText", C_InvalidText), ("InvalidName", C_InvalidName), ("Impossible", C_Impossible), ("NothingToUndo", C_NothingToUndo), ("InvalidCommand", C_InvalidCommand), ("InvalidRules", C_InvalidRules), ("InvalidRecord", C_InvalidRecord), ("InvalidRuns", C_InvalidRuns), ("InvalidKinds", C_InvalidKinds), ("InvalidCases", C_InvalidCases), ("InvalidCode", C_InvalidCode), ("TooLarge", C_TooLarge), ("InvalidSyntax", C_InvalidSyntax)] : List (Str × Addr)).all (fun p => PySem.W.kitOne K (.ref p.2) (.ref C_Impossible) == some ((["Impossible"] : List Str).contains p.1)) = true)
    (xkit_InvalidCases : ([("KeyerError", C_KeyerError), ("InvalidLever", C_InvalidLever), ("InvalidTick", C_InvalidTick), ("InvalidNumber", C_InvalidNumber), ("InvalidGaps", C_InvalidGaps), ("InvalidText", C_InvalidText), ("InvalidName", C_InvalidName), ("Impossible", C_Impossible), ("NothingToUndo", C_NothingToUndo), ("InvalidCommand", C_InvalidCommand), ("InvalidRules", C_InvalidRules), ("InvalidRecord", C_InvalidRecord), ("InvalidRuns", C_InvalidRuns), ("InvalidKinds", C_InvalidKinds), ("InvalidCases", C_InvalidCases), ("InvalidCode", C_InvalidCode), ("TooLarge", C_TooLarge), ("InvalidSyntax", C_InvalidSyntax)] : List (Str × Addr)).all (fun p => PySem.W.kitOne K (.ref p.2) (.ref C_InvalidCases) == some ((["InvalidCases"] : List Str).contains p.1)) = true)
    (xkit_InvalidCode : ([("KeyerError", C_KeyerError), ("InvalidLever", C_InvalidLever), ("InvalidTick", C_InvalidTick), ("InvalidNumber", C_InvalidNumber), ("InvalidGaps", C_InvalidGaps), ("InvalidText", C_InvalidText), ("InvalidName", C_InvalidName), ("Impossible", C_Impossible), ("NothingToUndo", C_NothingToUndo), ("InvalidCommand", C_InvalidCommand), ("InvalidRules", C_InvalidRules), ("InvalidRecord", C_InvalidRecord), ("InvalidRuns", C_InvalidRuns), ("InvalidKinds", C_InvalidKinds), ("InvalidCases", C_InvalidCases), ("InvalidCode", C_InvalidCode), ("TooLarge", C_TooLarge), ("InvalidSyntax", C_InvalidSyntax)] : List (Str × Addr)).all (fun p => PySem.W.kitOne K (.ref p.2) (.ref C_InvalidCode) == some ((["InvalidCode"] : List Str).contains p.1)) = true)
    (xkit_InvalidCommand : ([("KeyerError", C_KeyerError), ("InvalidLever", C_InvalidLever), ("InvalidTick", C_InvalidTick), ("InvalidNumber", C_InvalidNumber), ("InvalidGaps", C_InvalidGaps), ("InvalidText", C_InvalidText), ("InvalidName", C_InvalidName), ("Impossible", C_Impossible), ("NothingToUndo", C_NothingToUndo), ("InvalidCommand", C_InvalidCommand), ("InvalidRules", C_InvalidRules), ("InvalidRecord", C_InvalidRecord), ("InvalidRuns", C_InvalidRuns), ("InvalidKinds", C_InvalidKinds), ("InvalidCases", C_InvalidCases), ("InvalidCode", C_InvalidCode), ("TooLarge", C_TooLarge), ("InvalidSyntax", C_InvalidSyntax)] : List (Str × Addr)).all (fun p => PySem.W.kitOne K (.ref p.2) (.ref C_InvalidCommand) == some ((["InvalidCommand"] : List Str).contains p.1)) = true)
    (xkit_InvalidGaps : ([("KeyerError", C_KeyerError), ("InvalidLever", C_InvalidLever), ("InvalidTick", C_InvalidTick), ("InvalidNumber", C_InvalidNumber), ("InvalidGaps", C_InvalidGaps), ("InvalidText", C_InvalidText), ("InvalidName", C_InvalidName), ("Impossible", C_Impossible), ("NothingToUndo", C_NothingToUndo), ("InvalidCommand", C_InvalidCommand), ("InvalidRules", C_InvalidRules), ("InvalidRecord", C_InvalidRecord), ("InvalidRuns", C_InvalidRuns), ("InvalidKinds", C_InvalidKinds), ("InvalidCases", C_InvalidCases), ("InvalidCode", C_InvalidCode), ("TooLarge", C_TooLarge), ("InvalidSyntax", C_InvalidSyntax)] : List (Str × Addr)).all (fun p => PySem.W.kitOne K (.ref p.2) (.ref C_InvalidGaps) == some ((["InvalidGaps"] : List Str).contains p.1)) = true)
    (xkit_InvalidKinds : ([("KeyerError", C_KeyerError), ("InvalidLever", C_InvalidLever), ("InvalidTick", C_InvalidTick), ("InvalidNumber", C_InvalidNumber), ("InvalidGaps", C_InvalidGaps), ("InvalidText", C_InvalidText), ("InvalidName", C_InvalidName), ("Impossible", C_Impossible), ("NothingToUndo", C_NothingToUndo), ("InvalidCommand", C_InvalidCommand), ("InvalidRules", C_InvalidRules), ("InvalidRecord", C_InvalidRecord), ("InvalidRuns", C_InvalidRuns), ("InvalidKinds", C_InvalidKinds), ("InvalidCases", C_InvalidCases), ("InvalidCode", C_InvalidCode), ("TooLarge", C_TooLarge), ("InvalidSyntax", C_InvalidSyntax)] : List (Str × Addr)).all (fun p => PySem.W.kitOne K (.ref p.2) (.ref C_InvalidKinds) == some ((["InvalidKinds"] : List Str).contains p.1)) = true)
    (xkit_InvalidLever : ([("KeyerError", C_KeyerError), ("InvalidLever", C_InvalidLever), ("InvalidTick", C_InvalidTick), ("InvalidNumber", C_InvalidNumber), ("InvalidGaps", C_InvalidGaps), ("InvalidText", C_InvalidText), ("InvalidName", C_InvalidName), ("Impossible", C_Impossible), ("NothingToUndo", C_NothingToUndo), ("InvalidCommand", C_InvalidCommand), ("InvalidRules", C_InvalidRules), ("InvalidRecord", C_InvalidRecord), ("InvalidRuns", C_InvalidRuns), ("InvalidKinds", C_InvalidKinds), ("InvalidCases", C_InvalidCases), ("InvalidCode", C_InvalidCode), ("TooLarge", C_TooLarge), ("InvalidSyntax", C_InvalidSyntax)] : List (Str × Addr)).all (fun p => PySem.W.kitOne K (.ref p.2) (.ref C_InvalidLever) == some ((["InvalidLever"] : List Str).contains p.1)) = true)
    (xkit_InvalidName : ([("KeyerError", C_KeyerError), ("InvalidLever", C_InvalidLever), ("InvalidTick", C_InvalidTick), ("InvalidNumber", C_InvalidNumber), ("InvalidGaps", C_InvalidGaps), ("InvalidText", C_InvalidText), ("InvalidName", C_InvalidName), ("Impossible", C_Impossible), ("NothingToUndo", C_NothingToUndo), ("InvalidCommand", C_InvalidCommand), ("InvalidRules", C_InvalidRules), ("InvalidRecord", C_InvalidRecord), ("InvalidRuns", C_InvalidRuns), ("InvalidKinds", C_InvalidKinds), ("InvalidCases", C_InvalidCases), ("InvalidCode", C_InvalidCode), ("TooLarge", C_TooLarge), ("InvalidSyntax", C_InvalidSyntax)] : List (Str × Addr)).all (fun p => PySem.W.kitOne K (.ref p.2) (.ref C_InvalidName) == some ((["InvalidName"] : List Str).contains p.1)) = true)
    (xkit_InvalidNumber : ([("KeyerError", C_KeyerError), ("InvalidLever", C_InvalidLever), ("InvalidTick", C_InvalidTick), ("InvalidNumber", C_InvalidNumber), ("InvalidGaps", C_InvalidGaps), ("InvalidText", C_InvalidText), ("InvalidName", C_InvalidName), ("Impossible", C_Impossible), ("NothingToUndo", C_NothingToUndo), ("InvalidCommand", C_InvalidCommand), ("InvalidRules", C_InvalidRules), ("InvalidRecord", C_InvalidRecord), ("InvalidRuns", C_InvalidRuns), ("InvalidKinds", C_InvalidKinds), ("InvalidCases", C_InvalidCases), ("InvalidCode", C_InvalidCode), ("TooLarge", C_TooLarge), ("InvalidSyntax", C_InvalidSyntax)] : List (Str × Addr)).all (fun p => PySem.W.kitOne K (.ref p.2) (.ref C_InvalidNumber) == some ((["InvalidNumber"] : List Str).contains p.1)) = true)
    (xkit_InvalidRecord : ([("KeyerError", C_KeyerError), ("InvalidLever", C_InvalidLever), ("InvalidTick", C_InvalidTick), ("InvalidNumber", C_InvalidNumber), ("InvalidGaps", C_InvalidGaps), ("InvalidText", C_InvalidText), ("InvalidName", C_InvalidName), ("Impossible", C_Impossible), ("NothingToUndo", C_NothingToUndo), ("InvalidCommand", C_InvalidCommand), ("InvalidRules", C_InvalidRules), ("InvalidRecord", C_InvalidRecord), ("InvalidRuns", C_InvalidRuns), ("InvalidKinds", C_InvalidKinds), ("InvalidCases", C_InvalidCases), ("InvalidCode", C_InvalidCode), ("TooLarge", C_TooLarge), ("InvalidSyntax", C_InvalidSyntax)] : List (Str × Addr)).all (fun p => PySem.W.kitOne K (.ref p.2) (.ref C_InvalidRecord) == some ((["InvalidRecord"] : List Str).contains p.1)) = true)
    (xkit_InvalidRules : ([("KeyerError", C_KeyerError), ("InvalidLever", C_InvalidLever), ("InvalidTick", C_InvalidTick), ("InvalidNumber", C_InvalidNumber), ("InvalidGaps", C_InvalidGaps), ("InvalidText", C_InvalidText), ("InvalidName", C_InvalidName), ("Impossible", C_Impossible), ("NothingToUndo", C_NothingToUndo), ("InvalidCommand", C_InvalidCommand), ("InvalidRules", C_InvalidRules), ("InvalidRecord", C_InvalidRecord), ("InvalidRuns", C_InvalidRuns), ("InvalidKinds", C_InvalidKinds), ("InvalidCases", C_InvalidCases), ("InvalidCode", C_InvalidCode), ("TooLarge", C_TooLarge), ("InvalidSyntax", C_InvalidSyntax)] : List (Str × Addr)).all (fun p => PySem.W.kitOne K (.ref p.2) (.ref C_InvalidRules) == some ((["InvalidRules"] : List Str).contains p.1)) = true)
    (xkit_InvalidRuns : ([("KeyerError", C_KeyerError), ("InvalidLever", C_InvalidLever), ("InvalidTick", C_InvalidTick), ("InvalidNumber", C_InvalidNumber), ("InvalidGaps", C_InvalidGaps), ("InvalidText", C_InvalidText), ("InvalidName", C_InvalidName), ("Impossible", C_Impossible), ("NothingToUndo", C_NothingToUndo), ("InvalidCommand", C_InvalidCommand), ("InvalidRules", C_InvalidRules), ("InvalidRecord", C_InvalidRecord), ("InvalidRuns", C_InvalidRuns), ("InvalidKinds", C_InvalidKinds), ("InvalidCases", C_InvalidCases), ("InvalidCode", C_InvalidCode), ("TooLarge", C_TooLarge), ("InvalidSyntax", C_InvalidSyntax)] : List (Str × Addr)).all (fun p => PySem.W.kitOne K (.ref p.2) (.ref C_InvalidRuns) == some ((["InvalidRuns"] : List Str).contains p.1)) = true)
    (xkit_InvalidSyntax : ([("KeyerError", C_KeyerError), ("InvalidLever", C_InvalidLever), ("InvalidTick", C_InvalidTick), ("InvalidNumber", C_InvalidNumber), ("InvalidGaps", C_InvalidGaps), ("InvalidText", C_InvalidText), ("InvalidName", C_InvalidName), ("Impossible", C_Impossible), ("NothingToUndo", C_NothingToUndo), ("InvalidCommand", C_InvalidCommand), ("InvalidRules", C_InvalidRules), ("InvalidRecord", C_InvalidRecord), ("InvalidRuns", C_InvalidRuns), ("InvalidKinds", C_InvalidKinds), ("InvalidCases", C_InvalidCases), ("InvalidCode", C_InvalidCode), ("TooLarge", C_TooLarge), ("InvalidSyntax", C_InvalidSyntax)] : List (Str × Addr)).all (fun p => PySem.W.kitOne K (.ref p.2) (.ref C_InvalidSyntax) == some ((["InvalidSyntax"] : List Str).contains p.1)) = true)
    (xkit_InvalidText : ([("KeyerError", C_KeyerError), ("InvalidLever", C_InvalidLever), ("InvalidTick", C_InvalidTick), ("InvalidNumber", C_InvalidNumber), ("InvalidGaps", C_InvalidGaps), ("InvalidText", C_InvalidText), ("InvalidName", C_InvalidName), ("Impossible", C_Impossible), ("NothingToUndo", C_NothingToUndo), ("InvalidCommand", C_InvalidCommand), ("InvalidRules", C_InvalidRules), ("InvalidRecord", C_InvalidRecord), ("InvalidRuns", C_InvalidRuns), ("InvalidKinds", C_InvalidKinds), ("InvalidCases", C_InvalidCases), ("InvalidCode", C_InvalidCode), ("TooLarge", C_TooLarge), ("InvalidSyntax", C_InvalidSyntax)] : List (Str × Addr)).all (fun p => PySem.W.kitOne K (.ref p.2) (.ref C_InvalidText) == some ((["InvalidText"] : List Str).contains p.1)) = true)
    (xkit_InvalidTick : ([("KeyerError", C_KeyerError), ("InvalidLever", C_InvalidLever), ("InvalidTick", C_InvalidTick), ("InvalidNumber", C_InvalidNumber), ("InvalidGaps", C_InvalidGaps), ("InvalidText", C_InvalidText), ("InvalidName", C_InvalidName), ("Impossible", C_Impossible), ("NothingToUndo", C_NothingToUndo), ("InvalidCommand", C_InvalidCommand), ("InvalidRules", C_InvalidRules), ("InvalidRecord", C_InvalidRecord), ("InvalidRuns", C_InvalidRuns), ("InvalidKinds", C_InvalidKinds), ("InvalidCases", C_InvalidCases), ("InvalidCode", C_InvalidCode), ("TooLarge", C_TooLarge), ("InvalidSyntax", C_InvalidSyntax)] : List (Str × Addr)).all (fun p => PySem.W.kitOne K (.ref p.2) (.ref C_InvalidTick) == some ((["InvalidTick"] : List Str).contains p.1)) = true)
    (xkit_NothingToUndo : ([("KeyerError", C_KeyerError), ("InvalidLever", C_InvalidLever), ("InvalidTick", C_InvalidTick), ("InvalidNumber", C_InvalidNumber), ("InvalidGaps", C_InvalidGaps), ("InvalidText", C_InvalidText), ("InvalidName", C_InvalidName), ("Impossible", C_Impossible), ("NothingToUndo", C_NothingToUndo), ("InvalidCommand", C_InvalidCommand), ("InvalidRules", C_InvalidRules), ("InvalidRecord", C_InvalidRecord), ("InvalidRuns", C_InvalidRuns), ("InvalidKinds", C_InvalidKinds), ("InvalidCases", C_InvalidCases), ("InvalidCode", C_InvalidCode), ("TooLarge", C_TooLarge), ("InvalidSyntax", C_InvalidSyntax)] : List (Str × Addr)).all (fun p => PySem.W.kitOne K (.ref p.2) (.ref C_NothingToUndo) == some ((["NothingToUndo"] : List Str).contains p.1)) = true)
    (xkit_TooLarge : ([("KeyerError", C_KeyerError), ("InvalidLever", C_InvalidLever), ("InvalidTick", C_InvalidTick), ("InvalidNumber", C_InvalidNumber), ("InvalidGaps", C_InvalidGaps), ("InvalidText", C_InvalidText), ("InvalidName", C_InvalidName), ("Impossible", C_Impossible), ("NothingToUndo", C_NothingToUndo), ("InvalidCommand", C_InvalidCommand), ("InvalidRules", C_InvalidRules), ("InvalidRecord", C_InvalidRecord), ("InvalidRuns", C_InvalidRuns), ("InvalidKinds", C_InvalidKinds), ("InvalidCases", C_InvalidCases), ("InvalidCode", C_InvalidCode), ("TooLarge", C_TooLarge), ("InvalidSyntax", C_InvalidSyntax)] : List (Str × Addr)).all (fun p => PySem.W.kitOne K (.ref p.2) (.ref C_TooLarge) == some ((["TooLarge"] : List Str).contains p.1)) = true)
    (xkit_ValueError : ([("KeyerError", C_KeyerError), ("InvalidLever", C_InvalidLever), ("InvalidTick", C_InvalidTick), ("InvalidNumber", C_InvalidNumber), ("InvalidGaps", C_InvalidGaps), ("InvalidText", C_InvalidText), ("InvalidName", C_InvalidName), ("Impossible", C_Impossible), ("NothingToUndo", C_NothingToUndo), ("InvalidCommand", C_InvalidCommand), ("InvalidRules", C_InvalidRules), ("InvalidRecord", C_InvalidRecord), ("InvalidRuns", C_InvalidRuns), ("InvalidKinds", C_InvalidKinds), ("InvalidCases", C_InvalidCases), ("InvalidCode", C_InvalidCode), ("TooLarge", C_TooLarge), ("InvalidSyntax", C_InvalidSyntax)] : List (Str × Addr)).all (fun p => PySem.W.kitOne K (.ref p.2) (.type "ValueError") == some ((["KeyerError", "InvalidLever", "InvalidTick", "InvalidNumber", "InvalidGaps", "InvalidText", "InvalidName", "Impossible", "NothingToUndo", "InvalidCommand", "InvalidRules", "InvalidRecord", "InvalidRuns", "InvalidKinds", "InvalidCases", "InvalidCode", "TooLarge", "InvalidSyntax"] : List Str).contains p.1)) = true)
    (xsub_InvalidRecord_KeyerError : PySem.W.subIn K (.ref C_InvalidRecord) (.ref C_KeyerError) = some true)
    (xsub_InvalidRules_KeyerError : PySem.W.subIn K (.ref C_InvalidRules) (.ref C_KeyerError) = some true)
    (xsub_InvalidRuns_KeyerError : PySem.W.subIn K (.ref C_InvalidRuns) (.ref C_KeyerError) = some true)
    (xic_KeyerError : PySem.W.isClsIn K C_KeyerError = true)
    (xe_KeyerError : PySem.W.subIn K (.ref C_KeyerError) (.type "BaseException") = some true) (xty_KeyerError : PySem.W.typeIn K (.ref C_KeyerError) = some (.type "type"))
    {f_0 : Addr} {od_0 an_0 : Option Addr} {sl_0 : Array (Option Value)} {oc_0 kV_0 dc_0 pm_0 cd_0 ct_0 : Value} {Td_0 : Addr} {ddd_0 : Option Addr} {nd_0 : Nat} {sld_0 : Array (Option Value)}
    (a_0 : PySem.W.nsIn K mainGlobals "is_integer" = some (some (.ref f_0))) (l_0 : K.lookup f_0 = some ⟨oc_0, od_0, .func (PySem.W.fnOf "is_integer" "is_integer" (defArgs s_is_integer) (defBody s_is_integer) (defScope s_is_integer) (.ref Td_0) kV_0 dc_0 pm_0 an_0 cd_0 ct_0), sl_0⟩) (c_0 : PySem.W.codeIn K cd_0 "is_integer" = true) (k_0 : PySem.W.keepIn K (.ref f_0) = true)
    (d_0 : K.lookup Td_0 = some ⟨.type "tuple", ddd_0, .seq [.none].toArray nd_0, sld_0⟩)
    {f_1 : Addr} {od_1 an_1 : Option Addr} {sl_1 : Array (Option Value)} {oc_1 kV_1 dc_1 pm_1 cd_1 ct_1 : Value}
    (a_1 : PySem.W.nsIn K mainGlobals "is_one_of" = some (some (.ref f_1))) (l_1 : K.lookup f_1 = some ⟨oc_1, od_1, .func (PySem.W.fnOf "is_one_of" "is_one_of" (defArgs s_is_one_of) (defBody s_is_one_of) (defScope s_is_one_of) .none kV_1 dc_1 pm_1 an_1 cd_1 ct_1), sl_1⟩) (c_1 : PySem.W.codeIn K cd_1 "is_one_of" = true) (k_1 : PySem.W.keepIn K (.ref f_1) = true)
    {f_2 : Addr} {od_2 an_2 : Option Addr} {sl_2 : Array (Option Value)} {oc_2 kV_2 dc_2 pm_2 cd_2 ct_2 : Value}
    (a_2 : PySem.W.nsIn K mainGlobals "rules_flags" = some (some (.ref f_2))) (l_2 : K.lookup f_2 = some ⟨oc_2, od_2, .func (PySem.W.fnOf "rules_flags" "rules_flags" (defArgs s_rules_flags) (defBody s_rules_flags) (defScope s_rules_flags) .none kV_2 dc_2 pm_2 an_2 cd_2 ct_2), sl_2⟩) (c_2 : PySem.W.codeIn K cd_2 "rules_flags" = true) (k_2 : PySem.W.keepIn K (.ref f_2) = true)
    {f_3 : Addr} {od_3 an_3 : Option Addr} {sl_3 : Array (Option Value)} {oc_3 kV_3 dc_3 pm_3 cd_3 ct_3 : Value}
    (a_3 : PySem.W.nsIn K mainGlobals "require_rules" = some (some (.ref f_3))) (l_3 : K.lookup f_3 = some ⟨oc_3, od_3, .func (PySem.W.fnOf "require_rules" "require_rules" (defArgs s_require_rules) (defBody s_require_rules) (defScope s_require_rules) .none kV_3 dc_3 pm_3 an_3 cd_3 ct_3), sl_3⟩) (c_3 : PySem.W.codeIn K cd_3 "require_rules" = true) (k_3 : PySem.W.keepIn K (.ref f_3) = true)
    {f_4 : Addr} {od_4 an_4 : Option Addr} {sl_4 : Array (Option Value)} {oc_4 kV_4 dc_4 pm_4 cd_4 ct_4 : Value}
    (a_4 : PySem.W.nsIn K mainGlobals "is_event" = some (some (.ref f_4))) (l_4 : K.lookup f_4 = some ⟨oc_4, od_4, .func (PySem.W.fnOf "is_event" "is_event" (defArgs s_is_event) (defBody s_is_event) (defScope s_is_event) .none kV_4 dc_4 pm_4 an_4 cd_4 ct_4), sl_4⟩) (c_4 : PySem.W.codeIn K cd_4 "is_event" = true) (k_4 : PySem.W.keepIn K (.ref f_4) = true)
    {f_5 : Addr} {od_5 an_5 : Option Addr} {sl_5 : Array (Option Value)} {oc_5 kV_5 dc_5 pm_5 cd_5 ct_5 : Value}
    (a_5 : PySem.W.nsIn K mainGlobals "fault_of_record" = some (some (.ref f_5))) (l_5 : K.lookup f_5 = some ⟨oc_5, od_5, .func (PySem.W.fnOf "fault_of_record" "fault_of_record" (defArgs s_fault_of_record) (defBody s_fault_of_record) (defScope s_fault_of_record) .none kV_5 dc_5 pm_5 an_5 cd_5 ct_5), sl_5⟩) (c_5 : PySem.W.codeIn K cd_5 "fault_of_record" = true) (k_5 : PySem.W.keepIn K (.ref f_5) = true)
    {f_6 : Addr} {od_6 an_6 : Option Addr} {sl_6 : Array (Option Value)} {oc_6 kV_6 dc_6 pm_6 cd_6 ct_6 : Value}
    (a_6 : PySem.W.nsIn K mainGlobals "require_record" = some (some (.ref f_6))) (l_6 : K.lookup f_6 = some ⟨oc_6, od_6, .func (PySem.W.fnOf "require_record" "require_record" (defArgs s_require_record) (defBody s_require_record) (defScope s_require_record) .none kV_6 dc_6 pm_6 an_6 cd_6 ct_6), sl_6⟩) (c_6 : PySem.W.codeIn K cd_6 "require_record" = true) (k_6 : PySem.W.keepIn K (.ref f_6) = true)
    {f_7 : Addr} {od_7 an_7 : Option Addr} {sl_7 : Array (Option Value)} {oc_7 kV_7 dc_7 pm_7 cd_7 ct_7 : Value}
    (a_7 : PySem.W.nsIn K mainGlobals "is_kinds_item" = some (some (.ref f_7))) (l_7 : K.lookup f_7 = some ⟨oc_7, od_7, .func (PySem.W.fnOf "is_kinds_item" "is_kinds_item" (defArgs s_is_kinds_item) (defBody s_is_kinds_item) (defScope s_is_kinds_item) .none kV_7 dc_7 pm_7 an_7 cd_7 ct_7), sl_7⟩) (c_7 : PySem.W.codeIn K cd_7 "is_kinds_item" = true) (k_7 : PySem.W.keepIn K (.ref f_7) = true)
    {f_8 : Addr} {od_8 an_8 : Option Addr} {sl_8 : Array (Option Value)} {oc_8 kV_8 dc_8 pm_8 cd_8 ct_8 : Value}
    (a_8 : PySem.W.nsIn K mainGlobals "format_rules" = some (some (.ref f_8))) (l_8 : K.lookup f_8 = some ⟨oc_8, od_8, .func (PySem.W.fnOf "format_rules" "format_rules" (defArgs s_format_rules) (defBody s_format_rules) (defScope s_format_rules) .none kV_8 dc_8 pm_8 an_8 cd_8 ct_8), sl_8⟩) (c_8 : PySem.W.codeIn K cd_8 "format_rules" = true) (k_8 : PySem.W.keepIn K (.ref f_8) = true)
    {f_9 : Addr} {od_9 an_9 : Option Addr} {sl_9 : Array (Option Value)} {oc_9 kV_9 dc_9 pm_9 cd_9 ct_9 : Value}
    (a_9 : PySem.W.nsIn K mainGlobals "format_record" = some (some (.ref f_9))) (l_9 : K.lookup f_9 = some ⟨oc_9, od_9, .func (PySem.W.fnOf "format_record" "format_record" (defArgs s_format_record) (defBody s_format_record) (defScope s_format_record) .none kV_9 dc_9 pm_9 an_9 cd_9 ct_9), sl_9⟩) (c_9 : PySem.W.codeIn K cd_9 "format_record" = true) (k_9 : PySem.W.keepIn K (.ref f_9) = true)
    {f_10 : Addr} {od_10 an_10 : Option Addr} {sl_10 : Array (Option Value)} {oc_10 kV_10 dc_10 pm_10 cd_10 ct_10 : Value}
    (a_10 : PySem.W.nsIn K mainGlobals "format_runs" = some (some (.ref f_10))) (l_10 : K.lookup f_10 = some ⟨oc_10, od_10, .func (PySem.W.fnOf "format_runs" "format_runs" (defArgs s_format_runs) (defBody s_format_runs) (defScope s_format_runs) .none kV_10 dc_10 pm_10 an_10 cd_10 ct_10), sl_10⟩) (c_10 : PySem.W.codeIn K cd_10 "format_runs" = true) (k_10 : PySem.W.keepIn K (.ref f_10) = true)
    {f_11 : Addr} {od_11 an_11 : Option Addr} {sl_11 : Array (Option Value)} {oc_11 kV_11 dc_11 pm_11 cd_11 ct_11 : Value}
    (a_11 : PySem.W.nsIn K mainGlobals "_law_fount" = some (some (.ref f_11))) (l_11 : K.lookup f_11 = some ⟨oc_11, od_11, .func (PySem.W.fnOf "_law_fount" "_law_fount" (defArgs s__law_fount) (defBody s__law_fount) (defScope s__law_fount) .none kV_11 dc_11 pm_11 an_11 cd_11 ct_11), sl_11⟩) (c_11 : PySem.W.codeIn K cd_11 "_law_fount" = true) (k_11 : PySem.W.keepIn K (.ref f_11) = true)
    {f_12 : Addr} {od_12 an_12 : Option Addr} {sl_12 : Array (Option Value)} {oc_12 kV_12 dc_12 pm_12 cd_12 ct_12 : Value}
    (a_12 : PySem.W.nsIn K mainGlobals "_law_dip" = some (some (.ref f_12))) (l_12 : K.lookup f_12 = some ⟨oc_12, od_12, .func (PySem.W.fnOf "_law_dip" "_law_dip" (defArgs s__law_dip) (defBody s__law_dip) (defScope s__law_dip) .none kV_12 dc_12 pm_12 an_12 cd_12 ct_12), sl_12⟩) (c_12 : PySem.W.codeIn K cd_12 "_law_dip" = true) (k_12 : PySem.W.keepIn K (.ref f_12) = true)
    {f_13 : Addr} {od_13 an_13 : Option Addr} {sl_13 : Array (Option Value)} {oc_13 kV_13 dc_13 pm_13 cd_13 ct_13 : Value}
    (a_13 : PySem.W.nsIn K mainGlobals "_law_rules" = some (some (.ref f_13))) (l_13 : K.lookup f_13 = some ⟨oc_13, od_13, .func (PySem.W.fnOf "_law_rules" "_law_rules" (defArgs s__law_rules) (defBody s__law_rules) (defScope s__law_rules) .none kV_13 dc_13 pm_13 an_13 cd_13 ct_13), sl_13⟩) (c_13 : PySem.W.codeIn K cd_13 "_law_rules" = true) (k_13 : PySem.W.keepIn K (.ref f_13) = true)
    {f_14 : Addr} {od_14 an_14 : Option Addr} {sl_14 : Array (Option Value)} {oc_14 kV_14 dc_14 pm_14 cd_14 ct_14 : Value}
    (a_14 : PySem.W.nsIn K mainGlobals "_law_record" = some (some (.ref f_14))) (l_14 : K.lookup f_14 = some ⟨oc_14, od_14, .func (PySem.W.fnOf "_law_record" "_law_record" (defArgs s__law_record) (defBody s__law_record) (defScope s__law_record) .none kV_14 dc_14 pm_14 an_14 cd_14 ct_14), sl_14⟩) (c_14 : PySem.W.codeIn K cd_14 "_law_record" = true) (k_14 : PySem.W.keepIn K (.ref f_14) = true)
    {f_15 : Addr} {od_15 an_15 : Option Addr} {sl_15 : Array (Option Value)} {oc_15 kV_15 dc_15 pm_15 cd_15 ct_15 : Value}
    (a_15 : PySem.W.nsIn K mainGlobals "_law_fields" = some (some (.ref f_15))) (l_15 : K.lookup f_15 = some ⟨oc_15, od_15, .func (PySem.W.fnOf "_law_fields" "_law_fields" (defArgs s__law_fields) (defBody s__law_fields) (defScope s__law_fields) .none kV_15 dc_15 pm_15 an_15 cd_15 ct_15), sl_15⟩) (c_15 : PySem.W.codeIn K cd_15 "_law_fields" = true) (k_15 : PySem.W.keepIn K (.ref f_15) = true)
    {f_16 : Addr} {od_16 an_16 : Option Addr} {sl_16 : Array (Option Value)} {oc_16 kV_16 dc_16 pm_16 cd_16 ct_16 : Value}
    (a_16 : PySem.W.nsIn K mainGlobals "_law_class" = some (some (.ref f_16))) (l_16 : K.lookup f_16 = some ⟨oc_16, od_16, .func (PySem.W.fnOf "_law_class" "_law_class" (defArgs s__law_class) (defBody s__law_class) (defScope s__law_class) .none kV_16 dc_16 pm_16 an_16 cd_16 ct_16), sl_16⟩) (c_16 : PySem.W.codeIn K cd_16 "_law_class" = true) (k_16 : PySem.W.keepIn K (.ref f_16) = true)
    {f_17 : Addr} {od_17 an_17 : Option Addr} {sl_17 : Array (Option Value)} {oc_17 kV_17 dc_17 pm_17 cd_17 ct_17 : Value}
    (a_17 : PySem.W.nsIn K mainGlobals "_law_bad_rules" = some (some (.ref f_17))) (l_17 : K.lookup f_17 = some ⟨oc_17, od_17, .func (PySem.W.fnOf "_law_bad_rules" "_law_bad_rules" (defArgs s__law_bad_rules) (defBody s__law_bad_rules) (defScope s__law_bad_rules) .none kV_17 dc_17 pm_17 an_17 cd_17 ct_17), sl_17⟩) (c_17 : PySem.W.codeIn K cd_17 "_law_bad_rules" = true) (k_17 : PySem.W.keepIn K (.ref f_17) = true)
    {f_18 : Addr} {od_18 an_18 : Option Addr} {sl_18 : Array (Option Value)} {oc_18 kV_18 dc_18 pm_18 cd_18 ct_18 : Value}
    (a_18 : PySem.W.nsIn K mainGlobals "_law_bad_records" = some (some (.ref f_18))) (l_18 : K.lookup f_18 = some ⟨oc_18, od_18, .func (PySem.W.fnOf "_law_bad_records" "_law_bad_records" (defArgs s__law_bad_records) (defBody s__law_bad_records) (defScope s__law_bad_records) .none kV_18 dc_18 pm_18 an_18 cd_18 ct_18), sl_18⟩) (c_18 : PySem.W.codeIn K cd_18 "_law_bad_records" = true) (k_18 : PySem.W.keepIn K (.ref f_18) = true)
    {f_19 : Addr} {od_19 an_19 : Option Addr} {sl_19 : Array (Option Value)} {oc_19 kV_19 dc_19 pm_19 cd_19 ct_19 : Value}
    (a_19 : PySem.W.nsIn K mainGlobals "_law_told" = some (some (.ref f_19))) (l_19 : K.lookup f_19 = some ⟨oc_19, od_19, .func (PySem.W.fnOf "_law_told" "_law_told" (defArgs s__law_told) (defBody s__law_told) (defScope s__law_told) .none kV_19 dc_19 pm_19 an_19 cd_19 ct_19), sl_19⟩) (c_19 : PySem.W.codeIn K cd_19 "_law_told" = true) (k_19 : PySem.W.keepIn K (.ref f_19) = true)
    {f_20 : Addr} {od_20 an_20 : Option Addr} {sl_20 : Array (Option Value)} {oc_20 kV_20 dc_20 pm_20 cd_20 ct_20 : Value}
    (a_20 : PySem.W.nsIn K mainGlobals "_law_some_runs" = some (some (.ref f_20))) (l_20 : K.lookup f_20 = some ⟨oc_20, od_20, .func (PySem.W.fnOf "_law_some_runs" "_law_some_runs" (defArgs s__law_some_runs) (defBody s__law_some_runs) (defScope s__law_some_runs) .none kV_20 dc_20 pm_20 an_20 cd_20 ct_20), sl_20⟩) (c_20 : PySem.W.codeIn K cd_20 "_law_some_runs" = true) (k_20 : PySem.W.keepIn K (.ref f_20) = true)
    {f_21 : Addr} {od_21 an_21 : Option Addr} {sl_21 : Array (Option Value)} {oc_21 kV_21 dc_21 pm_21 cd_21 ct_21 : Value}
    (a_21 : PySem.W.nsIn K mainGlobals "_law_right" = some (some (.ref f_21))) (l_21 : K.lookup f_21 = some ⟨oc_21, od_21, .func (PySem.W.fnOf "_law_right" "_law_right" (defArgs s__law_right) (defBody s__law_right) (defScope s__law_right) .none kV_21 dc_21 pm_21 an_21 cd_21 ct_21), sl_21⟩) (c_21 : PySem.W.codeIn K cd_21 "_law_right" = true) (k_21 : PySem.W.keepIn K (.ref f_21) = true)
    {f_22 : Addr} {od_22 an_22 : Option Addr} {sl_22 : Array (Option Value)} {oc_22 kV_22 dc_22 pm_22 cd_22 ct_22 : Value}
    (a_22 : PySem.W.nsIn K mainGlobals "_law_wrong_right" = some (some (.ref f_22))) (l_22 : K.lookup f_22 = some ⟨oc_22, od_22, .func (PySem.W.fnOf "_law_wrong_right" "_law_wrong_right" (defArgs s__law_wrong_right) (defBody s__law_wrong_right) (defScope s__law_wrong_right) .none kV_22 dc_22 pm_22 an_22 cd_22 ct_22), sl_22⟩) (c_22 : PySem.W.codeIn K cd_22 "_law_wrong_right" = true) (k_22 : PySem.W.keepIn K (.ref f_22) = true)
    {f_23 : Addr} {od_23 an_23 : Option Addr} {sl_23 : Array (Option Value)} {oc_23 kV_23 dc_23 pm_23 cd_23 ct_23 : Value}
    (a_23 : PySem.W.nsIn K mainGlobals "law" = some (some (.ref f_23))) (l_23 : K.lookup f_23 = some ⟨oc_23, od_23, .func (PySem.W.fnOf "law" "law" (defArgs s_law) (defBody s_law) (defScope s_law) .none kV_23 dc_23 pm_23 an_23 cd_23 ct_23), sl_23⟩) (c_23 : PySem.W.codeIn K cd_23 "law" = true) (k_23 : PySem.W.keepIn K (.ref f_23) = true) :
    ∃ fd : FuncData, (∀ (s : Shared) (u : Value), BindsTo s fd ⟨[u], []⟩ [("script", u)]) ∧ ∀ base : Heap, K.In base → base.Ns mainGlobals mg → SysAt base → FnG l.prog w K mg base CX0 8 fa fd ["script"] (spT K S_law) := by
  cases hfa.symm.trans (PySem.W.mg_of X G a_23)
  have g : Gm K mg := ⟨PySem.W.mg_none_of X G z_ValueError, PySem.W.mg_none_of X G z_abs, PySem.W.mg_none_of X G z_bool, PySem.W.mg_none_of X G z_enumerate, PySem.W.mg_none_of X G z_int, PySem.W.mg_none_of X G z_isinstance, PySem.W.mg_none_of X G z_len, PySem.W.mg_none_of X G z_list, PySem.W.mg_none_of X G z_max, PySem.W.mg_none_of X G z_min, PySem.W.mg_none_of X G z_range, PySem.W.mg_none_of X G z_repr, PySem.W.mg_none_of X G z_str, PySem.W.mg_none_of X G z_tuple, ⟨_, PySem.W.mg_of X G a_LEVERS, rp_ktup l_LEVERS rfl (show 2 ≤ sizeLine by decide) (.cons ⟨_, rfl⟩ (.cons ⟨_, rfl⟩ .nil))⟩, ⟨_, PySem.W.mg_of X G a_MOST_EVENTS⟩, ⟨_, PySem.W.mg_of X G a_NO_YES, rp_ktup l_NO_YES rfl (show 2 ≤ sizeLine by decide) (.cons ⟨_, rfl⟩ (.cons ⟨_, rfl⟩ .nil))⟩, ⟨_, PySem.W.mg_of X G a_PREFERENCES, rp_ktup l_PREFERENCES rfl (show 4 ≤ sizeLine by decide) (.cons ⟨_, rfl⟩ (.cons ⟨_, rfl⟩ (.cons ⟨_, rfl⟩ (.cons ⟨_, rfl⟩ .nil))))⟩, ⟨_, PySem.W.mg_of X G a_REMEMBERS, rp_ktup l_REMEMBERS rfl (show 3 ≤ sizeLine by decide) (.cons ⟨_, rfl⟩ (.cons ⟨_, rfl⟩ (.cons ⟨_, rfl⟩ .nil)))⟩, ⟨_, PySem.W.mg_of X G a_WORDS, rp_ktup l_WORDS rfl (show 4 ≤ sizeLine by decide) (.cons ⟨_, rfl⟩ (.cons ⟨_, rfl⟩ (.cons ⟨_, rfl⟩ (.cons ⟨_, rfl⟩ .nil))))⟩⟩
  have D_0 : DefAt K mg "is_integer" "is_integer" s_is_integer _ _ (.ref Td_0) := ⟨⟨_, _, _, _, _, _, _, l_0, rfl, c_0, rfl⟩, k_0, PySem.W.mg_of X G a_0⟩
  have D_1 : DefAt K mg "is_one_of" "is_one_of" s_is_one_of _ _ .none := ⟨⟨_, _, _, _, _, _, _, l_1, rfl, c_1, rfl⟩, k_1, PySem.W.mg_of X G a_1⟩
  have D_2 : DefAt K mg "rules_flags" "rules_flags" s_rules_flags _ _ .none := ⟨⟨_, _, _, _, _, _, _, l_2, rfl, c_2, rfl⟩, k_2, PySem.W.mg_of X G a_2⟩
  have D_3 : DefAt K mg "require_rules" "require_rules" s_require_rules _ _ .none := ⟨⟨_, _, _, _, _, _, _, l_3, rfl, c_3, rfl⟩, k_3, PySem.W.mg_of X G a_3⟩
  have D_4 : DefAt K mg "is_event" "is_event" s_is_event _ _ .none := ⟨⟨_, _, _, _, _, _, _, l_4, rfl, c_4, rfl⟩, k_4, PySem.W.mg_of X G a_4⟩
  have D_5 : DefAt K mg "fault_of_record" "fault_of_record" s_fault_of_record _ _ .none := ⟨⟨_, _, _, _, _, _, _, l_5, rfl, c_5, rfl⟩, k_5, PySem.W.mg_of X G a_5⟩
  have D_6 : DefAt K mg "require_record" "require_record" s_require_record _ _ .none := ⟨⟨_, _, _, _, _, _, _, l_6, rfl, c_6, rfl⟩, k_6, PySem.W.mg_of X G a_6⟩
  have D_7 : DefAt K mg "is_kinds_item" "is_kinds_item" s_is_kinds_item _ _ .none := ⟨⟨_, _, _, _, _, _, _, l_7, rfl, c_7, rfl⟩, k_7, PySem.W.mg_of X G a_7⟩
  have D_8 : DefAt K mg "format_rules" "format_rules" s_format_rules _ _ .none := ⟨⟨_, _, _, _, _, _, _, l_8, rfl, c_8, rfl⟩, k_8, PySem.W.mg_of X G a_8⟩
  have D_9 : DefAt K mg "format_record" "format_record" s_format_record _ _ .none := ⟨⟨_, _, _, _, _, _, _, l_9, rfl, c_9, rfl⟩, k_9, PySem.W.mg_of X G a_9⟩
  have D_10 : DefAt K mg "format_runs" "format_runs" s_format_runs _ _ .none := ⟨⟨_, _, _, _, _, _, _, l_10, rfl, c_10, rfl⟩, k_10, PySem.W.mg_of X G a_10⟩
  have D_11 : DefAt K mg "_law_fount" "_law_fount" s__law_fount _ _ .none := ⟨⟨_, _, _, _, _, _, _, l_11, rfl, c_11, rfl⟩, k_11, PySem.W.mg_of X G a_11⟩
  have D_12 : DefAt K mg "_law_dip" "_law_dip" s__law_dip _ _ .none := ⟨⟨_, _, _, _, _, _, _, l_12, rfl, c_12, rfl⟩, k_12, PySem.W.mg_of X G a_12⟩
  have D_13 : DefAt K mg "_law_rules" "_law_rules" s__law_rules _ _ .none := ⟨⟨_, _, _, _, _, _, _, l_13, rfl, c_13, rfl⟩, k_13, PySem.W.mg_of X G a_13⟩
  have D_14 : DefAt K mg "_law_record" "_law_record" s__law_record _ _ .none := ⟨⟨_, _, _, _, _, _, _, l_14, rfl, c_14, rfl⟩, k_14, PySem.W.mg_of X G a_14⟩
  have D_15 : DefAt K mg "_law_fields" "_law_fields" s__law_fields _ _ .none := ⟨⟨_, _, _, _, _, _, _, l_15, rfl, c_15, rfl⟩, k_15, PySem.W.mg_of X G a_15⟩
  have D_16 : DefAt K mg "_law_class" "_law_class" s__law_class _ _ .none := ⟨⟨_, _, _, _, _, _, _, l_16, rfl, c_16, rfl⟩, k_16, PySem.W.mg_of X G a_16⟩
  have D_17 : DefAt K mg "_law_bad_rules" "_law_bad_rules" s__law_bad_rules _ _ .none := ⟨⟨_, _, _, _, _, _, _, l_17, rfl, c_17, rfl⟩, k_17, PySem.W.mg_of X G a_17⟩
  have D_18 : DefAt K mg "_law_bad_records" "_law_bad_records" s__law_bad_records _ _ .none := ⟨⟨_, _, _, _, _, _, _, l_18, rfl, c_18, rfl⟩, k_18, PySem.W.mg_of X G a_18⟩
  have D_19 : DefAt K mg "_law_told" "_law_told" s__law_told _ _ .none := ⟨⟨_, _, _, _, _, _, _, l_19, rfl, c_19, rfl⟩, k_19, PySem.W.mg_of X G a_19⟩
  have D_20 : DefAt K mg "_law_some_runs" "_law_some_runs" s__law_some_runs _ _ .none := ⟨⟨_, _, _, _, _, _, _, l_20, rfl, c_20, rfl⟩, k_20, PySem.W.mg_of X G a_20⟩
  have D_21 : DefAt K mg "_law_right" "_law_right" s__law_right _ _ .none := ⟨⟨_, _, _, _, _, _, _, l_21, rfl, c_21, rfl⟩, k_21, PySem.W.mg_of X G a_21⟩
  have D_22 : DefAt K mg "_law_wrong_right" "_law_wrong_right" s__law_wrong_right _ _ .none := ⟨⟨_, _, _, _, _, _, _, l_22, rfl, c_22, rfl⟩, k_22, PySem.W.mg_of X G a_22⟩
  have D_23 : DefAt K mg "law" "law" s_law _ _ .none := ⟨⟨_, _, _, _, _, _, _, l_23, rfl, c_23, rfl⟩, k_23, PySem.W.mg_of X G a_23⟩
  refine ⟨PySem.W.fnOf "law" "law" (defArgs s_law) (defBody s_law) (defScope s_law) .none kV_23 dc_23 pm_23 an_23 cd_23 ct_23, fun s u => .of_eq rfl, fun base _ _ sys => ?_⟩
  have xB_KeyerError : BaseAt K mg "KeyerError" C_KeyerError := ⟨PySem.W.mg_of X G xa_KeyerError, xs_KeyerError, xt_KeyerError, xr_KeyerError, xc_KeyerError⟩
  have hAll : ∀ p ∈ ([("KeyerError", C_KeyerError), ("InvalidLever", C_InvalidLever), ("InvalidTick", C_InvalidTick), ("InvalidNumber", C_InvalidNumber), ("InvalidGaps", C_InvalidGaps), ("InvalidText", C_InvalidText), ("InvalidName", C_InvalidName), ("Impossible", C_Impossible), ("NothingToUndo", C_NothingToUndo), ("InvalidCommand", C_InvalidCommand), ("InvalidRules", C_InvalidRules), ("InvalidRecord", C_InvalidRecord), ("InvalidRuns", C_InvalidRuns), ("InvalidKinds", C_InvalidKinds), ("InvalidCases", C_InvalidCases), ("InvalidCode", C_InvalidCode), ("TooLarge", C_TooLarge), ("InvalidSyntax", C_InvalidSyntax)] : List (Str × Addr)), PySem.W.nsIn K mainGlobals p.1 = some (some (.ref p.2)) := (List.forall_mem_cons.mpr ⟨xa_KeyerError, (List.forall_mem_cons.mpr ⟨xa_InvalidLever, (List.forall_mem_cons.mpr ⟨xa_InvalidTick, (List.forall_mem_cons.mpr ⟨xa_InvalidNumber, (List.forall_mem_cons.mpr ⟨xa_InvalidGaps, (List.forall_mem_cons.mpr ⟨xa_InvalidText, (List.forall_mem_cons.mpr ⟨xa_InvalidName, (List.forall_mem_cons.mpr ⟨xa_Impossible, (List.forall_mem_cons.mpr ⟨xa_NothingToUndo, (List.forall_mem_cons.mpr ⟨xa_InvalidCommand, (List.forall_mem_cons.mpr ⟨xa_InvalidRules, (List.forall_mem_cons.mpr ⟨xa_InvalidRecord, (List.forall_mem_cons.mpr ⟨xa_InvalidRuns, (List.forall_mem_cons.mpr ⟨xa_InvalidKinds, (List.forall_mem_cons.mpr ⟨xa_InvalidCases, (List.forall_mem_cons.mpr ⟨xa_InvalidCode, (List.forall_mem_cons.mpr ⟨xa_TooLarge, (List.forall_mem_cons.mpr ⟨xa_InvalidSyntax, (List.forall_mem_nil _)⟩)⟩)⟩)⟩)⟩)⟩)⟩)⟩)⟩)⟩)⟩)⟩)⟩)⟩)⟩)⟩)⟩)⟩)
  have hEx : ∀ p ∈ ([("KeyerError", C_KeyerError), ("InvalidLever", C_InvalidLever), ("InvalidTick", C_InvalidTick), ("InvalidNumber", C_InvalidNumber), ("InvalidGaps", C_InvalidGaps), ("InvalidText", C_InvalidText), ("InvalidName", C_InvalidName), ("Impossible", C_Impossible), ("NothingToUndo", C_NothingToUndo), ("InvalidCommand", C_InvalidCommand), ("InvalidRules", C_InvalidRules), ("InvalidRecord", C_InvalidRecord), ("InvalidRuns", C_InvalidRuns), ("InvalidKinds", C_InvalidKinds), ("InvalidCases", C_InvalidCases), ("InvalidCode", C_InvalidCode), ("TooLarge", C_TooLarge), ("InvalidSyntax", C_InvalidSyntax)] : List (Str × Addr)), exB K p.2 = true := (List.forall_mem_cons.mpr ⟨xex_KeyerError, (List.forall_mem_cons.mpr ⟨xex_InvalidLever, (List.forall_mem_cons.mpr ⟨xex_InvalidTick, (List.forall_mem_cons.mpr ⟨xex_InvalidNumber, (List.forall_mem_cons.mpr ⟨xex_InvalidGaps, (List.forall_mem_cons.mpr ⟨xex_InvalidText, (List.forall_mem_cons.mpr ⟨xex_InvalidName, (List.forall_mem_cons.mpr ⟨xex_Impossible, (List.forall_mem_cons.mpr ⟨xex_NothingToUndo, (List.forall_mem_cons.mpr ⟨xex_InvalidCommand, (List.forall_mem_cons.mpr ⟨xex_InvalidRules, (List.forall_mem_cons.mpr ⟨xex_InvalidRecord, (List.forall_mem_cons.mpr ⟨xex_InvalidRuns, (List.forall_mem_cons.mpr ⟨xex_InvalidKinds, (List.forall_mem_cons.mpr ⟨xex_InvalidCases, (List.forall_mem_cons.mpr ⟨xex_InvalidCode, (List.forall_mem_cons.mpr ⟨xex_TooLarge, (List.forall_mem_cons.mpr ⟨xex_InvalidSyntax, (List.forall_mem_nil _)⟩)⟩)⟩)⟩)⟩)⟩)⟩)⟩)⟩)⟩)⟩)⟩)⟩)⟩)⟩)⟩)⟩)⟩)
  have x_InvalidRecord : ExcAt l.prog w K mg base "InvalidRecord" ["index"] := excAt_of xa_InvalidRecord (PySem.W.mg_of X G xa_InvalidRecord) ⟨⟨_, _, _, _, _, _, _, _, _, _, _, _, _, _, _, xl_InvalidRecord, xb_InvalidRecord⟩, xsa_InvalidRecord, xe_InvalidRecord, xty_InvalidRecord, xk_InvalidRecord⟩ xi_InvalidRecord xti_InvalidRecord (i_InvalidRecord xB_KeyerError xli_InvalidRecord xci_InvalidRecord) (.all fun us hl => match us, hl with | [_, _], _ => rfl) (no1 xno0_InvalidRecord) (by decide)
  have x_InvalidRules : ExcAt l.prog w K mg base "InvalidRules" ["index"] := excAt_of xa_InvalidRules (PySem.W.mg_of X G xa_InvalidRules) ⟨⟨_, _, _, _, _, _, _, _, _, _, _, _, _, _, _, xl_InvalidRules, xb_InvalidRules⟩, xsa_InvalidRules, xe_InvalidRules, xty_InvalidRules, xk_InvalidRules⟩ xi_InvalidRules xti_InvalidRules (i_InvalidRules xB_KeyerError xli_InvalidRules xci_InvalidRules) (.all fun us hl => match us, hl with | [_, _], _ => rfl) (no1 xno0_InvalidRules) (by decide)
  have x_InvalidRuns : ExcAt l.prog w K mg base "InvalidRuns" ["index"] := excAt_of xa_InvalidRuns (PySem.W.mg_of X G xa_InvalidRuns) ⟨⟨_, _, _, _, _, _, _, _, _, _, _, _, _, _, _, xl_InvalidRuns, xb_InvalidRuns⟩, xsa_InvalidRuns, xe_InvalidRuns, xty_InvalidRuns, xk_InvalidRuns⟩ xi_InvalidRuns xti_InvalidRuns (i_InvalidRuns xB_KeyerError xli_InvalidRuns xci_InvalidRuns) (.all fun us hl => match us, hl with | [_, _], _ => rfl) (no1 xno0_InvalidRuns) (by decide)
  have xm_InvalidRecord_KeyerError : PySem.W.exmOne K (.ref (clsOf K "InvalidRecord")) (.ref (clsOf K "KeyerError")) = some true := xm_of xa_InvalidRecord xa_KeyerError (exm_of xe_KeyerError xic_KeyerError xty_KeyerError xsub_InvalidRecord_KeyerError)
  have xm_InvalidRules_KeyerError : PySem.W.exmOne K (.ref (clsOf K "InvalidRules")) (.ref (clsOf K "KeyerError")) = some true := xm_of xa_InvalidRules xa_KeyerError (exm_of xe_KeyerError xic_KeyerError xty_KeyerError xsub_InvalidRules_KeyerError)
  have xm_InvalidRuns_KeyerError : PySem.W.exmOne K (.ref (clsOf K "InvalidRuns")) (.ref (clsOf K "KeyerError")) = some true := xm_of xa_InvalidRuns xa_KeyerError (exm_of xe_KeyerError xic_KeyerError xty_KeyerError xsub_InvalidRuns_KeyerError)
  have xn_Impossible : mg "Impossible" = some (.ref (clsOf K "Impossible")) := xn_of xa_Impossible (PySem.W.mg_of X G xa_Impossible)
  have xn_InvalidCases : mg "InvalidCases" = some (.ref (clsOf K "InvalidCases")) := xn_of xa_InvalidCases (PySem.W.mg_of X G xa_InvalidCases)
  have xn_InvalidCode : mg "InvalidCode" = some (.ref (clsOf K "InvalidCode")) := xn_of xa_InvalidCode (PySem.W.mg_of X G xa_InvalidCode)
  have xn_InvalidCommand : mg "InvalidCommand" = some (.ref (clsOf K "InvalidCommand")) := xn_of xa_InvalidCommand (PySem.W.mg_of X G xa_InvalidCommand)
  have xn_InvalidGaps : mg "InvalidGaps" = some (.ref (clsOf K "InvalidGaps")) := xn_of xa_InvalidGaps (PySem.W.mg_of X G xa_InvalidGaps)
  have xn_InvalidKinds : mg "InvalidKinds" = some (.ref (clsOf K "InvalidKinds")) := xn_of xa_InvalidKinds (PySem.W.mg_of X G xa_InvalidKinds)
  have xn_InvalidLever : mg "InvalidLever" = some (.ref (clsOf K "InvalidLever")) := xn_of xa_InvalidLever (PySem.W.mg_of X G xa_InvalidLever)
  have xn_InvalidName : mg "InvalidName" = some (.ref (clsOf K "InvalidName")) := xn_of xa_InvalidName (PySem.W.mg_of X G xa_InvalidName)
  have xn_InvalidNumber : mg "InvalidNumber" = some (.ref (clsOf K "InvalidNumber")) := xn_of xa_InvalidNumber (PySem.W.mg_of X G xa_InvalidNumber)
  have xn_InvalidRecord : mg "InvalidRecord" = some (.ref (clsOf K "InvalidRecord")) := xn_of xa_InvalidRecord (PySem.W.mg_of X G xa_InvalidRecord)
  have xn_InvalidRules : mg "InvalidRules" = some (.ref (clsOf K "InvalidRules")) := xn_of xa_InvalidRules (PySem.W.mg_of X G xa_InvalidRules)
  have xn_InvalidRuns : mg "InvalidRuns" = some (.ref (clsOf K "InvalidRuns")) := xn_of xa_InvalidRuns (PySem.W.mg_of X G xa_InvalidRuns)
  have xn_InvalidSyntax : mg "InvalidSyntax" = some (.ref (clsOf K "InvalidSyntax")) := xn_of xa_InvalidSyntax (PySem.W.mg_of X G xa_InvalidSyntax)
  have xn_InvalidText : mg "InvalidText" = some (.ref (clsOf K "InvalidText")) := xn_of xa_InvalidText (PySem.W.mg_of X G xa_InvalidText)
  have xn_InvalidTick : mg "InvalidTick" = some (.ref (clsOf K "InvalidTick")) := xn_of xa_InvalidTick (PySem.W.mg_of X G xa_InvalidTick)
  have xn_KeyerError : mg "KeyerError" = some (.ref (clsOf K "KeyerError")) := xn_of xa_KeyerError (PySem.W.mg_of X G xa_KeyerError)
  have xn_NothingToUndo : mg "NothingToUndo" = some (.ref (clsOf K "NothingToUndo")) := xn_of xa_NothingToUndo (PySem.W.mg_of X G xa_NothingToUndo)
  have xn_TooLarge : mg "TooLarge" = some (.ref (clsOf K "TooLarge")) := xn_of xa_TooLarge (PySem.W.mg_of X G xa_TooLarge)
  have xq_Impossible : ∀ y ∈ allX, ExcC K (clsOf K y) ∧ PySem.W.kitOne K (.ref (clsOf K y)) (.ref (clsOf K "Impossible")) = some ((["Impossible"] : List Str).contains y) := by rw [clsOf_is xa_Impossible]; exact all_of hAll hEx xhn xht xkit_Impossible
  have xq_InvalidCases : ∀ y ∈ allX, ExcC K (clsOf K y) ∧ PySem.W.kitOne K (.ref (clsOf K y)) (.ref (clsOf K "InvalidCases")) = some ((["InvalidCases"] : List Str).contains y) := by rw [clsOf_is xa_InvalidCases]; exact all_of hAll hEx xhn xht xkit_InvalidCases
  have xq_InvalidCode : ∀ y ∈ allX, ExcC K (clsOf K y) ∧ PySem.W.kitOne K (.ref (clsOf K y)) (.ref (clsOf K "InvalidCode")) = some ((["InvalidCode"] : List Str).contains y) := by rw [clsOf_is xa_InvalidCode]; exact all_of hAll hEx xhn xht xkit_InvalidCode
  have xq_InvalidCommand : ∀ y ∈ allX, ExcC K (clsOf K y) ∧ PySem.W.kitOne K (.ref (clsOf K y)) (.ref (clsOf K "InvalidCommand")) = some ((["InvalidCommand"] : List Str).contains y) := by rw [clsOf_is xa_InvalidCommand]; exact all_of hAll hEx xhn xht xkit_InvalidCommand
  have xq_InvalidGaps : ∀ y ∈ allX, ExcC K (clsOf K y) ∧ PySem.W.kitOne K (.ref (clsOf K y)) (.ref (clsOf K "InvalidGaps")) = some ((["InvalidGaps"] : List Str).contains y) := by rw [clsOf_is xa_InvalidGaps]; exact all_of hAll hEx xhn xht xkit_InvalidGaps
  have xq_InvalidKinds : ∀ y ∈ allX, ExcC K (clsOf K y) ∧ PySem.W.kitOne K (.ref (clsOf K y)) (.ref (clsOf K "InvalidKinds")) = some ((["InvalidKinds"] : List Str).contains y) := by rw [clsOf_is xa_InvalidKinds]; exact all_of hAll hEx xhn xht xkit_InvalidKinds
  have xq_InvalidLever : ∀ y ∈ allX, ExcC K (clsOf K y) ∧ PySem.W.kitOne K (.ref (clsOf K y)) (.ref (clsOf K "InvalidLever")) = some ((["InvalidLever"] : List Str).contains y) := by rw [clsOf_is xa_InvalidLever]; exact all_of hAll hEx xhn xht xkit_InvalidLever
  have xq_InvalidName : ∀ y ∈ allX, ExcC K (clsOf K y) ∧ PySem.W.kitOne K (.ref (clsOf K y)) (.ref (clsOf K "InvalidName")) = some ((["InvalidName"] : List Str).contains y) := by rw [clsOf_is xa_InvalidName]; exact all_of hAll hEx xhn xht xkit_InvalidName
  have xq_InvalidNumber : ∀ y ∈ allX, ExcC K (clsOf K y) ∧ PySem.W.kitOne K (.ref (clsOf K y)) (.ref (clsOf K "InvalidNumber")) = some ((["InvalidNumber"] : List Str).contains y) := by rw [clsOf_is xa_InvalidNumber]; exact all_of hAll hEx xhn xht xkit_InvalidNumber
  have xq_InvalidRecord : ∀ y ∈ allX, ExcC K (clsOf K y) ∧ PySem.W.kitOne K (.ref (clsOf K y)) (.ref (clsOf K "InvalidRecord")) = some ((["InvalidRecord"] : List Str).contains y) := by rw [clsOf_is xa_InvalidRecord]; exact all_of hAll hEx xhn xht xkit_InvalidRecord
  have xq_InvalidRules : ∀ y ∈ allX, ExcC K (clsOf K y) ∧ PySem.W.kitOne K (.ref (clsOf K y)) (.ref (clsOf K "InvalidRules")) = some ((["InvalidRules"] : List Str).contains y) := by rw [clsOf_is xa_InvalidRules]; exact all_of hAll hEx xhn xht xkit_InvalidRules
  have xq_InvalidRuns : ∀ y ∈ allX, ExcC K (clsOf K y) ∧ PySem.W.kitOne K (.ref (clsOf K y)) (.ref (clsOf K "InvalidRuns")) = some ((["InvalidRuns"] : List Str).contains y) := by rw [clsOf_is xa_InvalidRuns]; exact all_of hAll hEx xhn xht xkit_InvalidRuns
  have xq_InvalidSyntax : ∀ y ∈ allX, ExcC K (clsOf K y) ∧ PySem.W.kitOne K (.ref (clsOf K y)) (.ref (clsOf K "InvalidSyntax")) = some ((["InvalidSyntax"] : List Str).contains y) := by rw [clsOf_is xa_InvalidSyntax]; exact all_of hAll hEx xhn xht xkit_InvalidSyntax
  have xq_InvalidText : ∀ y ∈ allX, ExcC K (clsOf K y) ∧ PySem.W.kitOne K (.ref (clsOf K y)) (.ref (clsOf K "InvalidText")) = some ((["InvalidText"] : List Str).contains y) := by rw [clsOf_is xa_InvalidText]; exact all_of hAll hEx xhn xht xkit_InvalidText
  have xq_InvalidTick : ∀ y ∈ allX, ExcC K (clsOf K y) ∧ PySem.W.kitOne K (.ref (clsOf K y)) (.ref (clsOf K "InvalidTick")) = some ((["InvalidTick"] : List Str).contains y) := by rw [clsOf_is xa_InvalidTick]; exact all_of hAll hEx xhn xht xkit_InvalidTick
  have xq_NothingToUndo : ∀ y ∈ allX, ExcC K (clsOf K y) ∧ PySem.W.kitOne K (.ref (clsOf K y)) (.ref (clsOf K "NothingToUndo")) = some ((["NothingToUndo"] : List Str).contains y) := by rw [clsOf_is xa_NothingToUndo]; exact all_of hAll hEx xhn xht xkit_NothingToUndo
  have xq_TooLarge : ∀ y ∈ allX, ExcC K (clsOf K y) ∧ PySem.W.kitOne K (.ref (clsOf K y)) (.ref (clsOf K "TooLarge")) = some ((["TooLarge"] : List Str).contains y) := by rw [clsOf_is xa_TooLarge]; exact all_of hAll hEx xhn xht xkit_TooLarge
  have xq_ValueError : ∀ y ∈ allX, ExcC K (clsOf K y) ∧ PySem.W.kitOne K (.ref (clsOf K y)) (.type "ValueError") = some ((["KeyerError", "InvalidLever", "InvalidTick", "InvalidNumber", "InvalidGaps", "InvalidText", "InvalidName", "Impossible", "NothingToUndo", "InvalidCommand", "InvalidRules", "InvalidRecord", "InvalidRuns", "InvalidKinds", "InvalidCases", "InvalidCode", "TooLarge", "InvalidSyntax"] : List Str).contains y) := all_of hAll hEx xhn xht xkit_ValueError
  have xv_index : ∀ y ∈ (["InvalidRules", "InvalidRecord", "InvalidRuns", "InvalidKinds", "InvalidCases"] : List Str), XfC K (clsOf K y) ∧ PySem.W.findIn K (.ref (clsOf K y)) "index" = some none := List.forall_mem_cons.mpr ⟨fld_of xa_InvalidRules (xq_Impossible "InvalidRules" (by decide +kernel)).1 xno0_InvalidRules, List.forall_mem_cons.mpr ⟨fld_of xa_InvalidRecord (xq_Impossible "InvalidRecord" (by decide +kernel)).1 xno0_InvalidRecord, List.forall_mem_cons.mpr ⟨fld_of xa_InvalidRuns (xq_Impossible "InvalidRuns" (by decide +kernel)).1 xno0_InvalidRuns, List.forall_mem_cons.mpr ⟨fld_of xa_InvalidKinds (xq_Impossible "InvalidKinds" (by decide +kernel)).1 xno0_InvalidKinds, List.forall_mem_cons.mpr ⟨fld_of xa_InvalidCases (xq_Impossible "InvalidCases" (by decide +kernel)).1 xno0_InvalidCases, List.forall_mem_nil _⟩⟩⟩⟩⟩
  have xv_letter : ∀ y ∈ (["InvalidCode"] : List Str), XfC K (clsOf K y) ∧ PySem.W.findIn K (.ref (clsOf K y)) "letter" = some none := List.forall_mem_cons.mpr ⟨fld_of xa_InvalidCode (xq_Impossible "InvalidCode" (by decide +kernel)).1 xno0_InvalidCode, List.forall_mem_nil _⟩
  have xv_limit : ∀ y ∈ (["TooLarge"] : List Str), XfC K (clsOf K y) ∧ PySem.W.findIn K (.ref (clsOf K y)) "limit" = some none := List.forall_mem_cons.mpr ⟨fld_of xa_TooLarge (xq_Impossible "TooLarge" (by decide +kernel)).1 xno0_TooLarge, List.forall_mem_nil _⟩
  have xv_line : ∀ y ∈ (["InvalidSyntax"] : List Str), XfC K (clsOf K y) ∧ PySem.W.findIn K (.ref (clsOf K y)) "line" = some none := List.forall_mem_cons.mpr ⟨fld_of xa_InvalidSyntax (xq_Impossible "InvalidSyntax" (by decide +kernel)).1 xno0_InvalidSyntax, List.forall_mem_nil _⟩
  have xv_word : ∀ y ∈ (["InvalidSyntax"] : List Str), XfC K (clsOf K y) ∧ PySem.W.findIn K (.ref (clsOf K y)) "word" = some none := List.forall_mem_cons.mpr ⟨fld_of xa_InvalidSyntax (xq_Impossible "InvalidSyntax" (by decide +kernel)).1 xno1_InvalidSyntax, List.forall_mem_nil _⟩
  have c_is_integer : Cal l.prog w K mg base 1 "is_integer" [] S_is_integer := D_0.calF (t_is_integer g sys   D_0) d_0 rfl (fun _ _ _ _ _ _ us hl => match us, hl with | [_, _], _ => ⟨_, rfl, rfl⟩)
  have c_is_integer_1 : Cal l.prog w K mg base 1 "is_integer" [.non] S_is_integer := D_0.calD (ds := [.non]) (t_is_integer g sys   D_0) d_0 rfl (.cons rfl .nil) 1 rfl (fun _ _ _ _ _ _ us hl => match us, hl with | [_], _ => ⟨_, rfl, rfl⟩)
  have c_is_one_of : Cal l.prog w K mg base 1 "is_one_of" [] S_is_one_of := D_1.cal (t_is_one_of g sys   D_1) (fun _ _ _ _ _ _ us hl => match us, hl with | [_, _], _ => rfl)
  have c__law_fount : Cal l.prog w K mg base 1 "_law_fount" [] S__law_fount := D_11.cal (t__law_fount g sys   D_11) (fun _ _ _ _ _ _ us hl => match us, hl with | [_, _], _ => rfl)
  have c__law_dip : Cal l.prog w K mg base 1 "_law_dip" [] S__law_dip := D_12.cal (t__law_dip g sys   D_12) (fun _ _ _ _ _ _ us hl => match us, hl with | [_, _], _ => rfl)
  have ck__law_fields : CalK l.prog w K mg base 1 "_law_fields" S__law_fields := D_15.calK (t__law_fields g sys xn_InvalidCases xn_InvalidCode xn_InvalidKinds xn_InvalidRecord xn_InvalidRules xn_InvalidRuns xn_InvalidSyntax xn_TooLarge xv_index xv_letter xv_limit xv_line xv_word xq_InvalidCases xq_InvalidCode xq_InvalidKinds xq_InvalidRecord xq_InvalidRules xq_InvalidRuns xq_InvalidSyntax xq_TooLarge  D_15) (fun _ _ _ _ _ _ us hl => match us, hl with | [_], _ => rfl)
  have c_rules_flags : Cal l.prog w K mg base 2 "rules_flags" [] S_rules_flags := D_2.cal (t_rules_flags g sys  c_is_integer c_is_one_of D_2) (fun _ _ _ _ _ _ us hl => match us, hl with | [_], _ => rfl)
  have c_is_event : Cal l.prog w K mg base 2 "is_event" [] S_is_event := D_4.cal (t_is_event g sys  c_is_integer_1 c_is_one_of D_4) (fun _ _ _ _ _ _ us hl => match us, hl with | [_], _ => rfl)
  have c_is_kinds_item : Cal l.prog w K mg base 2 "is_kinds_item" [] S_is_kinds_item := D_7.cal (t_is_kinds_item g sys  c_is_integer c_is_one_of D_7) (fun _ _ _ _ _ _ us hl => match us, hl with | [_], _ => rfl)
  have c__law_rules : Cal l.prog w K mg base 2 "_law_rules" [] S__law_rules := D_13.cal (t__law_rules g sys  c__law_dip D_13) (fun _ _ _ _ _ _ us hl => match us, hl with | [_], _ => rfl)
  have c__law_record : Cal l.prog w K mg base 2 "_law_record" [] S__law_record := D_14.cal (t__law_record g sys  c__law_dip D_14) (fun _ _ _ _ _ _ us hl => match us, hl with | [_, _, _], _ => rfl)
  have ck__law_class : CalK l.prog w K mg base 2 "_law_class" S__law_class := D_16.calK (t__law_class g sys xn_Impossible xn_InvalidCases xn_InvalidCode xn_InvalidCommand xn_InvalidGaps xn_InvalidKinds xn_InvalidLever xn_InvalidName xn_InvalidNumber xn_InvalidRecord xn_InvalidRules xn_InvalidRuns xn_InvalidSyntax xn_InvalidText xn_InvalidTick xn_NothingToUndo xn_TooLarge xq_Impossible xq_InvalidCases xq_InvalidCode xq_InvalidCommand xq_InvalidGaps xq_InvalidKinds xq_InvalidLever xq_InvalidName xq_InvalidNumber xq_InvalidRecord xq_InvalidRules xq_InvalidRuns xq_InvalidSyntax xq_InvalidText xq_InvalidTick xq_NothingToUndo xq_TooLarge xq_ValueError ck__law_fields D_16) (fun _ _ _ _ _ _ us hl => match us, hl with | [_], _ => rfl)
  have c__law_bad_rules : Cal l.prog w K mg base 2 "_law_bad_rules" [] S__law_bad_rules := D_17.cal (t__law_bad_rules g sys  c__law_dip D_17) (fun _ _ _ _ _ _ us hl => match us, hl with | [_, _], _ => rfl)
  have c__law_bad_records : Cal l.prog w K mg base 2 "_law_bad_records" [] S__law_bad_records := D_18.cal (t__law_bad_records g sys  c__law_dip D_18) (fun _ _ _ _ _ _ us hl => match us, hl with | [_, _], _ => rfl)
  have c__law_some_runs : Cal l.prog w K mg base 2 "_law_some_runs" [] S__law_some_runs := D_20.cal (t__law_some_runs g sys  c__law_dip D_20) (fun _ _ _ _ _ _ us hl => match us, hl with | [_, _], _ => rfl)
  have cx_require_rules : CalX l.prog w K mg base 3 "require_rules" [] S_require_rules := D_3.calX (t_require_rules g sys x_InvalidRules c_rules_flags D_3) (fun _ _ _ _ _ _ us hl => match us, hl with | [_], _ => rfl)
  have c_fault_of_record : Cal l.prog w K mg base 3 "fault_of_record" [] S_fault_of_record := D_5.cal (t_fault_of_record g sys  c_is_event D_5) (fun _ _ _ _ _ _ us hl => match us, hl with | [_], _ => rfl)
  have cx_format_runs : CalX l.prog w K mg base 3 "format_runs" [] S_format_runs := D_10.calX (t_format_runs g sys x_InvalidRuns c_is_integer_1 c_is_kinds_item D_10) (fun _ _ _ _ _ _ us hl => match us, hl with | [_], _ => rfl)
  have cx_require_record : CalX l.prog w K mg base 4 "require_record" [] S_require_record := D_6.calX (t_require_record g sys x_InvalidRecord c_fault_of_record D_6) (fun _ _ _ _ _ _ us hl => match us, hl with | [_], _ => rfl)
  have cx_format_rules : CalX l.prog w K mg base 4 "format_rules" [] S_format_rules := D_8.calX (t_format_rules g sys  cx_require_rules D_8) (fun _ _ _ _ _ _ us hl => match us, hl with | [_], _ => rfl)
  have c__law_right : Cal l.prog w K mg base 4 "_law_right" [] S__law_right := D_21.cal (t__law_right g sys  cx_format_runs D_21) (fun _ _ _ _ _ _ us hl => match us, hl with | [_, _], _ => rfl)
  have cx_format_record : CalX l.prog w K mg base 5 "format_record" [] S_format_record := D_9.calX (t_format_record g sys  cx_require_record D_9) (fun _ _ _ _ _ _ us hl => match us, hl with | [_], _ => rfl)
  have c__law_told : Cal l.prog w K mg base 6 "_law_told" [] S__law_told := D_19.cal (t__law_told g sys xn_KeyerError xm_InvalidRecord_KeyerError xm_InvalidRules_KeyerError xm_InvalidRuns_KeyerError cx_format_record cx_format_rules cx_format_runs ck__law_class D_19) (fun _ _ _ _ _ _ us hl => match us, hl with | [_, _], _ => rfl)
  have c__law_wrong_right : Cal l.prog w K mg base 7 "_law_wrong_right" [] S__law_wrong_right := D_22.cal (t__law_wrong_right g sys  c__law_dip c__law_told D_22) (fun _ _ _ _ _ _ us hl => match us, hl with | [_, _], _ => rfl)
  exact t_law g sys  cx_format_runs c__law_bad_records c__law_bad_rules c__law_dip c__law_fount c__law_record c__law_right c__law_rules c__law_some_runs c__law_told c__law_wrong_right D_23
end TL
open PySem PySem.W PyProof.Rows
set_option maxRecDepth 100000 in
set_option maxHeartbeats 0 in
theorem PySem.Challenge.cw_squeezedkeyer_k66_runs_as_texts_holds : PySem.Challenge.rw_squeezedkeyer_k66_runs_as_texts.Holds := by
  w_on; o_law; k_head; (case hw => w_witness2)
  k_fill
  refine TL.law_walk (l := PySem.Challenge.rw_squeezedkeyer_k66_runs_as_texts) (n := 63) (k := 8) (CX := fun _ => L2.CX0) (S := TL.S_law) rfl (by decide) rfl ⟨rfl, by decide, by decide⟩ rfl (by decide +kernel) (fun w h Y => PySem.W.kIn_of Y) ?F (fun ns _ => ⟨false, ns, rfl, fun _ => rfl⟩) (fun _ _ _ _ _ z => z)
  case F =>
    intro w mg fa h KX G hmg
    refine' TL.all_mk KX G hmg ?z_ValueError ?z_abs ?z_bool ?z_enumerate ?z_int ?z_isinstance ?z_len ?z_list ?z_max ?z_min ?z_range ?z_repr ?z_str ?z_tuple ?a_LEVERS ?l_LEVERS ?a_MOST_EVENTS ?a_NO_YES ?l_NO_YES ?a_PREFERENCES ?l_PREFERENCES ?a_REMEMBERS ?l_REMEMBERS ?a_WORDS ?l_WORDS ?xa_Impossible ?xa_InvalidCases ?xa_InvalidCode ?xa_InvalidCommand ?xa_InvalidGaps ?xa_InvalidKinds ?xa_InvalidLever ?xa_InvalidName ?xa_InvalidNumber ?xa_InvalidRecord ?xa_InvalidRules ?xa_InvalidRuns ?xa_InvalidSyntax ?xa_InvalidText ?xa_InvalidTick ?xa_KeyerError ?xa_NothingToUndo ?xa_TooLarge ?xs_KeyerError ?xt_KeyerError ?xr_KeyerError ?xc_KeyerError ?xl_InvalidCases ?xb_InvalidCases ?xsa_InvalidCases ?xe_InvalidCases ?xty_InvalidCases ?xk_InvalidCases ?xi_InvalidCases ?xti_InvalidCases ?xli_InvalidCases ?xci_InvalidCases ?xno0_InvalidCases ?xl_InvalidCode ?xb_InvalidCode ?xsa_InvalidCode ?xe_InvalidCode ?xty_InvalidCode ?xk_InvalidCode ?xi_InvalidCode ?xti_InvalidCode ?xli_InvalidCode ?xci_InvalidCode ?xno0_InvalidCode ?xl_InvalidKinds ?xb_InvalidKinds ?xsa_InvalidKinds ?xe_InvalidKinds ?xty_InvalidKinds ?xk_InvalidKinds ?xi_InvalidKinds ?xti_InvalidKinds ?xli_InvalidKinds ?xci_InvalidKinds ?xno0_InvalidKinds ?xl_InvalidRecord ?xb_InvalidRecord ?xsa_InvalidRecord ?xe_InvalidRecord ?xty_InvalidRecord ?xk_InvalidRecord ?xi_InvalidRecord ?xti_InvalidRecord ?xli_InvalidRecord ?xci_InvalidRecord ?xno0_InvalidRecord ?xl_InvalidRules ?xb_InvalidRules ?xsa_InvalidRules ?xe_InvalidRules ?xty_InvalidRules ?xk_InvalidRules ?xi_InvalidRules ?xti_InvalidRules ?xli_InvalidRules ?xci_InvalidRules ?xno0_InvalidRules ?xl_InvalidRuns ?xb_InvalidRuns ?xsa_InvalidRuns ?xe_InvalidRuns ?xty_InvalidRuns ?xk_InvalidRuns ?xi_InvalidRuns ?xti_InvalidRuns ?xli_InvalidRuns ?xci_InvalidRuns ?xno0_InvalidRuns ?xl_InvalidSyntax ?xb_InvalidSyntax ?xsa_InvalidSyntax ?xe_InvalidSyntax ?xty_InvalidSyntax ?xk_InvalidSyntax ?xi_InvalidSyntax ?xti_InvalidSyntax ?xli_InvalidSyntax ?xci_InvalidSyntax ?xno0_InvalidSyntax ?xno1_InvalidSyntax ?xl_TooLarge ?xb_TooLarge ?xsa_TooLarge ?xe_TooLarge ?xty_TooLarge ?xk_TooLarge ?xi_TooLarge ?xti_TooLarge ?xli_TooLarge ?xci_TooLarge ?xno0_TooLarge ?xhn ?xht ?xex_KeyerError ?xex_InvalidLever ?xex_InvalidTick ?xex_InvalidNumber ?xex_InvalidGaps ?xex_InvalidText ?xex_InvalidName ?xex_Impossible ?xex_NothingToUndo ?xex_InvalidCommand ?xex_InvalidRules ?xex_InvalidRecord ?xex_InvalidRuns ?xex_InvalidKinds ?xex_InvalidCases ?xex_InvalidCode ?xex_TooLarge ?xex_InvalidSyntax ?xkit_Impossible ?xkit_InvalidCases ?xkit_InvalidCode ?xkit_InvalidCommand ?xkit_InvalidGaps ?xkit_InvalidKinds ?xkit_InvalidLever ?xkit_InvalidName ?xkit_InvalidNumber ?xkit_InvalidRecord ?xkit_InvalidRules ?xkit_InvalidRuns ?xkit_InvalidSyntax ?xkit_InvalidText ?xkit_InvalidTick ?xkit_NothingToUndo ?xkit_TooLarge ?xkit_ValueError ?xsub_InvalidRecord_KeyerError ?xsub_InvalidRules_KeyerError ?xsub_InvalidRuns_KeyerError ?xic_KeyerError ?xe_KeyerError ?xty_KeyerError ?a_0 ?l_0 ?c_0 ?k_0 ?d_0 ?a_1 ?l_1 ?c_1 ?k_1 ?a_2 ?l_2 ?c_2 ?k_2 ?a_3 ?l_3 ?c_3 ?k_3 ?a_4 ?l_4 ?c_4 ?k_4 ?a_5 ?l_5 ?c_5 ?k_5 ?a_6 ?l_6 ?c_6 ?k_6 ?a_7 ?l_7 ?c_7 ?k_7 ?a_8 ?l_8 ?c_8 ?k_8 ?a_9 ?l_9 ?c_9 ?k_9 ?a_10 ?l_10 ?c_10 ?k_10 ?a_11 ?l_11 ?c_11 ?k_11 ?a_12 ?l_12 ?c_12 ?k_12 ?a_13 ?l_13 ?c_13 ?k_13 ?a_14 ?l_14 ?c_14 ?k_14 ?a_15 ?l_15 ?c_15 ?k_15 ?a_16 ?l_16 ?c_16 ?k_16 ?a_17 ?l_17 ?c_17 ?k_17 ?a_18 ?l_18 ?c_18 ?k_18 ?a_19 ?l_19 ?c_19 ?k_19 ?a_20 ?l_20 ?c_20 ?k_20 ?a_21 ?l_21 ?c_21 ?k_21 ?a_22 ?l_22 ?c_22 ?k_22 ?a_23 ?l_23 ?c_23 ?k_23
    (case z_ValueError => k_is)
    (case z_abs => k_is)
    (case z_bool => k_is)
    (case z_enumerate => k_is)
    (case z_int => k_is)
    (case z_isinstance => k_is)
    (case z_len => k_is)
    (case z_list => k_is)
    (case z_max => k_is)
    (case z_min => k_is)
    (case z_range => k_is)
    (case z_repr => k_is)
    (case z_str => k_is)
    (case z_tuple => k_is)
    (case a_LEVERS => k_is)
    (case l_LEVERS => k_is)
    (case a_MOST_EVENTS => k_is)
    (case a_NO_YES => k_is)
    (case l_NO_YES => k_is)
    (case a_PREFERENCES => k_is)
    (case l_PREFERENCES => k_is)
    (case a_REMEMBERS => k_is)
    (case l_REMEMBERS => k_is)
    (case a_WORDS => k_is)
    (case l_WORDS => k_is)
    (case xa_Impossible => k_is)
    (case xa_InvalidCases => k_is)
    (case xa_InvalidCode => k_is)
    (case xa_InvalidCommand => k_is)
    (case xa_InvalidGaps => k_is)
    (case xa_InvalidKinds => k_is)
    (case xa_InvalidLever => k_is)
    (case xa_InvalidName => k_is)
    (case xa_InvalidNumber => k_is)
    (case xa_InvalidRecord => k_is)
    (case xa_InvalidRules => k_is)
    (case xa_InvalidRuns => k_is)
    (case xa_InvalidSyntax => k_is)
    (case xa_InvalidText => k_is)
    (case xa_InvalidTick => k_is)
    (case xa_KeyerError => k_is)
    (case xa_NothingToUndo => k_is)
    (case xa_TooLarge => k_is)
    (case xs_KeyerError => k_is)
    (case xt_KeyerError => k_is)
    (case xr_KeyerError => k_is)
    (case xc_KeyerError => k_is)
    (case xl_InvalidCases => k_is)
    (case xb_InvalidCases => decide +kernel)
    (case xsa_InvalidCases => k_is)
    (case xe_InvalidCases => k_is)
    (case xty_InvalidCases => k_is)
    (case xk_InvalidCases => k_is)
    (case xi_InvalidCases => k_is)
    (case xti_InvalidCases => k_is)
    (case xli_InvalidCases => k_is)
    (case xci_InvalidCases => k_is)
    (case xno0_InvalidCases => k_is)
    (case xl_InvalidCode => k_is)
    (case xb_InvalidCode => decide +kernel)
    (case xsa_InvalidCode => k_is)
    (case xe_InvalidCode => k_is)
    (case xty_InvalidCode => k_is)
    (case xk_InvalidCode => k_is)
    (case xi_InvalidCode => k_is)
    (case xti_InvalidCode => k_is)
    (case xli_InvalidCode => k_is)
    (case xci_InvalidCode => k_is)
    (case xno0_InvalidCode => k_is)
    (case xl_InvalidKinds => k_is)
    (case xb_InvalidKinds => decide +kernel)
    (case xsa_InvalidKinds => k_is)
    (case xe_InvalidKinds => k_is)
    (case xty_InvalidKinds => k_is)
    (case xk_InvalidKinds => k_is)
    (case xi_InvalidKinds => k_is)
    (case xti_InvalidKinds => k_is)
    (case xli_InvalidKinds => k_is)
    (case xci_InvalidKinds => k_is)
    (case xno0_InvalidKinds => k_is)
    (case xl_InvalidRecord => k_is)
    (case xb_InvalidRecord => decide +kernel)
    (case xsa_InvalidRecord => k_is)
    (case xe_InvalidRecord => k_is)
    (case xty_InvalidRecord => k_is)
    (case xk_InvalidRecord => k_is)
    (case xi_InvalidRecord => k_is)
    (case xti_InvalidRecord => k_is)
    (case xli_InvalidRecord => k_is)
    (case xci_InvalidRecord => k_is)
    (case xno0_InvalidRecord => k_is)
    (case xl_InvalidRules => k_is)
    (case xb_InvalidRules => decide +kernel)
    (case xsa_InvalidRules => k_is)
    (case xe_InvalidRules => k_is)
    (case xty_InvalidRules => k_is)
    (case xk_InvalidRules => k_is)
    (case xi_InvalidRules => k_is)
    (case xti_InvalidRules => k_is)
    (case xli_InvalidRules => k_is)
    (case xci_InvalidRules => k_is)
    (case xno0_InvalidRules => k_is)
    (case xl_InvalidRuns => k_is)
    (case xb_InvalidRuns => decide +kernel)
    (case xsa_InvalidRuns => k_is)
    (case xe_InvalidRuns => k_is)
    (case xty_InvalidRuns => k_is)
    (case xk_InvalidRuns => k_is)
    (case xi_InvalidRuns => k_is)
    (case xti_InvalidRuns => k_is)
    (case xli_InvalidRuns => k_is)
    (case xci_InvalidRuns => k_is)
    (case xno0_InvalidRuns => k_is)
    (case xl_InvalidSyntax => k_is)
    (case xb_InvalidSyntax => decide +kernel)
    (case xsa_InvalidSyntax => k_is)
    (case xe_InvalidSyntax => k_is)
    (case xty_InvalidSyntax => k_is)
    (case xk_InvalidSyntax => k_is)
    (case xi_InvalidSyntax => k_is)
    (case xti_InvalidSyntax => k_is)
    (case xli_InvalidSyntax => k_is)
    (case xci_InvalidSyntax => k_is)
    (case xno0_InvalidSyntax => k_is)
    (case xno1_InvalidSyntax => k_is)
    (case xl_TooLarge => k_is)
    (case xb_TooLarge => decide +kernel)
    (case xsa_TooLarge => k_is)
    (case xe_TooLarge => k_is)
    (case xty_TooLarge => k_is)
    (case xk_TooLarge => k_is)
    (case xi_TooLarge => k_is)
    (case xti_TooLarge => k_is)
    (case xli_TooLarge => k_is)
    (case xci_TooLarge => k_is)
    (case xno0_TooLarge => k_is)
    (case xhn => k_is)
    (case xht => k_is)
    (case xex_KeyerError => kernel_rfl)
    (case xex_InvalidLever => kernel_rfl)
    (case xex_InvalidTick => kernel_rfl)
    (case xex_InvalidNumber => kernel_rfl)
    (case xex_InvalidGaps => kernel_rfl)
    (case xex_InvalidText => kernel_rfl)
    (case xex_InvalidName => kernel_rfl)
    (case xex_Impossible => kernel_rfl)
    (case xex_NothingToUndo => kernel_rfl)
    (case xex_InvalidCommand => kernel_rfl)
    (case xex_InvalidRules => kernel_rfl)
    (case xex_InvalidRecord => kernel_rfl)
    (case xex_InvalidRuns => kernel_rfl)
    (case xex_InvalidKinds => kernel_rfl)
    (case xex_InvalidCases => kernel_rfl)
    (case xex_InvalidCode => kernel_rfl)
    (case xex_TooLarge => kernel_rfl)
    (case xex_InvalidSyntax => kernel_rfl)
    (case xkit_Impossible => kernel_rfl)
    (case xkit_InvalidCases => kernel_rfl)
    (case xkit_InvalidCode => kernel_rfl)
    (case xkit_InvalidCommand => kernel_rfl)
    (case xkit_InvalidGaps => kernel_rfl)
    (case xkit_InvalidKinds => kernel_rfl)
    (case xkit_InvalidLever => kernel_rfl)
    (case xkit_InvalidName => kernel_rfl)
    (case xkit_InvalidNumber => kernel_rfl)
    (case xkit_InvalidRecord => kernel_rfl)
    (case xkit_InvalidRules => kernel_rfl)
    (case xkit_InvalidRuns => kernel_rfl)
    (case xkit_InvalidSyntax => kernel_rfl)
    (case xkit_InvalidText => kernel_rfl)
    (case xkit_InvalidTick => kernel_rfl)
    (case xkit_NothingToUndo => kernel_rfl)
    (case xkit_TooLarge => kernel_rfl)
    (case xkit_ValueError => kernel_rfl)
    (case xsub_InvalidRecord_KeyerError => first | rfl | k_is)
    (case xsub_InvalidRules_KeyerError => first | rfl | k_is)
    (case xsub_InvalidRuns_KeyerError => first | rfl | k_is)
    (case xic_KeyerError => k_is)
    (case xe_KeyerError => k_is)
    (case xty_KeyerError => k_is)
    (case a_0 => k_is)
    (case l_0 => k_is)
    (case c_0 => k_is)
    (case k_0 => k_is)
    (case d_0 => k_is)
    (case a_1 => k_is)
    (case l_1 => k_is)
    (case c_1 => k_is)
    (case k_1 => k_is)
    (case a_2 => k_is)
    (case l_2 => k_is)
    (case c_2 => k_is)
    (case k_2 => k_is)
    (case a_3 => k_is)
    (case l_3 => k_is)
    (case c_3 => k_is)
    (case k_3 => k_is)
    (case a_4 => k_is)
    (case l_4 => k_is)
    (case c_4 => k_is)
    (case k_4 => k_is)
    (case a_5 => k_is)
    (case l_5 => k_is)
    (case c_5 => k_is)
    (case k_5 => k_is)
    (case a_6 => k_is)
    (case l_6 => k_is)
    (case c_6 => k_is)
    (case k_6 => k_is)
    (case a_7 => k_is)
    (case l_7 => k_is)
    (case c_7 => k_is)
    (case k_7 => k_is)
    (case a_8 => k_is)
    (case l_8 => k_is)
    (case c_8 => k_is)
    (case k_8 => k_is)
    (case a_9 => k_is)
    (case l_9 => k_is)
    (case c_9 => k_is)
    (case k_9 => k_is)
    (case a_10 => k_is)
    (case l_10 => k_is)
    (case c_10 => k_is)
    (case k_10 => k_is)
    (case a_11 => k_is)
    (case l_11 => k_is)
    (case c_11 => k_is)
    (case k_11 => k_is)
    (case a_12 => k_is)
    (case l_12 => k_is)
    (case c_12 => k_is)
    (case k_12 => k_is)
    (case a_13 => k_is)
    (case l_13 => k_is)
    (case c_13 => k_is)
    (case k_13 => k_is)
    (case a_14 => k_is)
    (case l_14 => k_is)
    (case c_14 => k_is)
    (case k_14 => k_is)
    (case a_15 => k_is)
    (case l_15 => k_is)
    (case c_15 => k_is)
    (case k_15 => k_is)
    (case a_16 => k_is)
    (case l_16 => k_is)
    (case c_16 => k_is)
    (case k_16 => k_is)
    (case a_17 => k_is)
    (case l_17 => k_is)
    (case c_17 => k_is)
    (case k_17 => k_is)
    (case a_18 => k_is)
    (case l_18 => k_is)
    (case c_18 => k_is)
    (case k_18 => k_is)
    (case a_19 => k_is)
    (case l_19 => k_is)
    (case c_19 => k_is)
    (case k_19 => k_is)
    (case a_20 => k_is)
    (case l_20 => k_is)
    (case c_20 => k_is)
    (case k_20 => k_is)
    (case a_21 => k_is)
    (case l_21 => k_is)
    (case c_21 => k_is)
    (case k_21 => k_is)
    (case a_22 => k_is)
    (case l_22 => k_is)
    (case c_22 => k_is)
    (case k_22 => k_is)
    (case a_23 => k_is)
    (case l_23 => k_is)
    (case c_23 => k_is)
    (case k_23 => k_is)
#print axioms PySem.Challenge.cw_squeezedkeyer_k66_runs_as_texts_holds
