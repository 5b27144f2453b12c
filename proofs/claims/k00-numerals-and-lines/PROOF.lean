import PyProof.Rows.All
import Wide.All
import OpenK.AllK
import Wide.FinOn
import HandS.ForMost
import HandS.ForExc
import HandS.Wide
import HandS.TupAny
import HandS.TupMul
import HandS.IsInst
import HandS.Conv
import HandS.SortInts
import HandS.StrMore
import KE.KIntText
import PySem.Challenge.RW_actsapart_k00_numerals_and_lines
set_option Elab.async false
set_option linter.all false
set_option maxRecDepth 100000
set_option maxHeartbeats 4000000
/-! DLA: data with owned and frozen nodes, how the abstract heap bears them, the state of a body. -/
namespace DL
open PySem PySem.Spec PyProof.Rows L2

/-- data: lists, dicts and instances bear a mark (true: owned here, may be changed; false: frozen) -/
inductive D where
  | non | bl (b : Bool) | int (i : Int) | str (s : Str) | ty (n : String) | ref (a : Addr) | scr (ns : List Int)
  | lst (o : Bool) (xs : List D) | tup (xs : List D)
  | dK (o : Bool) (ks : List Key) (xs : List D) | dT (o : Bool) (ks : List (List Key)) (xs : List D)
  | obj (o : Bool) (C : Addr) (ns : List Str) (xs : List D)

mutual
/-- every mark taken away -/
def fz : D → D
  | .lst _ xs => .lst false (fzs xs)
  | .tup xs => .tup (fzs xs)
  | .dK _ ks xs => .dK false ks (fzs xs)
  | .dT _ ks xs => .dT false ks (fzs xs)
  | .obj _ C ns xs => .obj false C ns (fzs xs)
  | d => d
def fzs : List D → List D
  | [] => []
  | d :: ds => fz d :: fzs ds
end
mutual
/-- no mark is in it -/
def isFz : D → Bool
  | .lst o xs => !o && isFzs xs
  | .tup xs => isFzs xs
  | .dK o _ xs => !o && isFzs xs
  | .dT o _ xs => !o && isFzs xs
  | .obj o _ _ xs => !o && isFzs xs
  | _ => true
def isFzs : List D → Bool
  | [] => true
  | d :: ds => isFz d && isFzs ds
end
theorem fzs_map : ∀ ds : List D, fzs ds = ds.map fz
  | [] => by rw [fzs]; rfl
  | d :: ds => by rw [fzs, fzs_map ds]; rfl
theorem isFzs_all : ∀ ds : List D, isFzs ds = ds.all isFz
  | [] => by rw [isFzs]; rfl
  | d :: ds => by rw [isFzs, isFzs_all ds]; rfl

/-- a written list, tuple of the module -/
def KL (K : PySem.W.Frag) (a : Addr) (xs : List V) : Prop :=
  ∃ (o : Obj) (its : Array Value) (n : Nat), K.lookup a = some o ∧ o.cls = .type "list" ∧ o.dict = none ∧ o.data = .seq its n ∧ its.size ≤ sizeLine ∧ Vals xs its.toList
def KT (K : PySem.W.Frag) (a : Addr) (xs : List V) : Prop :=
  ∃ (o : Obj) (its : Array Value) (n : Nat), K.lookup a = some o ∧ o.cls = .type "tuple" ∧ o.data = .seq its n ∧ its.size ≤ sizeLine ∧ Vals xs its.toList
def FSq (K : PySem.W.Frag) (F : Addr → Prop) (H : Hp) (a : Addr) (xs : List V) : Prop := F a ∧ H a = some (.lst xs)
def FTu (K : PySem.W.Frag) (F : Addr → Prop) (H : Hp) (a : Addr) (xs : List V) : Prop := F a ∧ H a = some (.tup xs)

/-- the script's list: frozen, or one of the module's own -/
def ScrAt (K : PySem.W.Frag) (F : Addr → Prop) (H : Hp) (a : Addr) (ns : List Int) : Prop := (F a ∧ ∃ o, H a = some (.frz o (.lst (ns.map V.int)))) ∨ KL K a (ns.map V.int)
mutual
/-- the value v is the data d in H; what is frozen stands in F, as: the addresses of the owned nodes -/
inductive Rp (K : PySem.W.Frag) (F : Addr → Prop) (H : Hp) : V → D → List Addr → Prop
  | non : Rp K F H .non .non []
  | bl (b : Bool) : Rp K F H (.bl b) (.bl b) []
  | int (i : Int) : Rp K F H (.int i) (.int i) []
  | str (s : Str) : Rp K F H (.str s) (.str s) []
  | ty (n : String) : Rp K F H (.ty n) (.ty n) []
  | ref (a : Addr) : Rp K F H (.ref a) (.ref a) []
  | scr {a : Addr} {ns : List Int} : ScrAt K F H a ns → Rp K F H (.ref a) (.scr ns) []
  | lstF {a : Addr} {vs : List V} {xs : List D} : FSq K F H a vs → Rps K F H vs xs [] → Rp K F H (.ref a) (.lst false xs) []
  | lstO {a : Addr} {vs : List V} {xs : List D} {l : List Addr} : H a = some (.lst vs) → Rps K F H vs xs l → Rp K F H (.ref a) (.lst true xs) (a :: l)
  | tup {a : Addr} {vs : List V} {xs : List D} {l : List Addr} : FTu K F H a vs → Rps K F H vs xs l → Rp K F H (.ref a) (.tup xs) l
  | dKF {a : Addr} {kvs : List (Key × V)} {xs : List D} : F a → H a = some (.dK kvs) → Rps K F H (kvs.map (·.2)) xs [] → Rp K F H (.ref a) (.dK false (kvs.map (·.1)) xs) []
  | dKO {a : Addr} {kvs : List (Key × V)} {xs : List D} {l : List Addr} : H a = some (.dK kvs) → Rps K F H (kvs.map (·.2)) xs l → Rp K F H (.ref a) (.dK true (kvs.map (·.1)) xs) (a :: l)
  | dTF {a : Addr} {kvs : List (List Key × V)} {xs : List D} : F a → H a = some (.dT kvs) → Rps K F H (kvs.map (·.2)) xs [] → Rp K F H (.ref a) (.dT false (kvs.map (·.1)) xs) []
  | dTO {a : Addr} {kvs : List (List Key × V)} {xs : List D} {l : List Addr} : H a = some (.dT kvs) → Rps K F H (kvs.map (·.2)) xs l → Rp K F H (.ref a) (.dT true (kvs.map (·.1)) xs) (a :: l)
  | objF {a C dx : Addr} {fs : List (Str × V)} {xs : List D} : F a → H a = some (.ins C dx fs) → Rps K F H (fs.map (·.2)) xs [] → Rp K F H (.ref a) (.obj false C (fs.map (·.1)) xs) []
  | objO {a C dx : Addr} {fs : List (Str × V)} {xs : List D} {l : List Addr} : H a = some (.ins C dx fs) → Rps K F H (fs.map (·.2)) xs l → Rp K F H (.ref a) (.obj true C (fs.map (·.1)) xs) (a :: l)
inductive Rps (K : PySem.W.Frag) (F : Addr → Prop) (H : Hp) : List V → List D → List Addr → Prop
  | nil : Rps K F H [] [] []
  | cons {v : V} {d : D} {vs : List V} {ds : List D} {l m : List Addr} : Rp K F H v d l → Rps K F H vs ds m → Rps K F H (v :: vs) (d :: ds) (l ++ m)
end

section
variable {K : PySem.W.Frag} {F F' : Addr → Prop} {H H' : Hp}
theorem Rd.mono {a : Addr} {u : HO} (h : Rd H a u) (k : ∀ o, H a = some o → H' a = some o) : Rd H' a u := by
  rcases h with h | ⟨o, h⟩
  · exact .inl (k _ h)
  · exact .inr ⟨o, k _ h⟩
theorem FSq.mono {a : Addr} {xs : List V} (h : FSq K F H a xs) (hF : F a → F' a) (k : F a → ∀ o, H a = some o → H' a = some o) : FSq K F' H' a xs := ⟨hF h.1, k h.1 _ h.2⟩
theorem FTu.mono {a : Addr} {xs : List V} (h : FTu K F H a xs) (hF : F a → F' a) (k : F a → ∀ o, H a = some o → H' a = some o) : FTu K F' H' a xs := ⟨hF h.1, k h.1 _ h.2⟩
theorem ScrAt.mono {a : Addr} {ns : List Int} (h : ScrAt K F H a ns) (hF : F a → F' a) (k : F a → ∀ o, H a = some o → H' a = some o) : ScrAt K F' H' a ns := h.imp (fun ⟨f, o, e⟩ => ⟨hF f, o, k f _ e⟩) id
theorem ScrAt.sq {a : Addr} {ns : List Int} (h : ScrAt K F H a ns) : SqL K H a (ns.map V.int) := h.imp (fun ⟨_, o, e⟩ => .inr ⟨o, e⟩) id
theorem FSq.sq {a : Addr} {xs : List V} (h : FSq K F H a xs) : SqL K H a xs := .inl (.inl h.2)
theorem FTu.sq {a : Addr} {xs : List V} (h : FTu K F H a xs) : SqT K H a xs := .inl (.inl h.2)
mutual
/-- what is read stands still -/
theorem Rp.frame (hF : ∀ a, F a → F' a) : ∀ {v : V} {d : D} {l : List Addr}, Rp K F H v d l → (∀ a o, (F a ∨ a ∈ l) → H a = some o → H' a = some o) → Rp K F' H' v d l
  | _, _, _, .non, _ => .non
  | _, _, _, .bl b, _ => .bl b
  | _, _, _, .int b, _ => .int b
  | _, _, _, .str b, _ => .str b
  | _, _, _, .ty b, _ => .ty b
  | _, _, _, .ref b, _ => .ref b
  | _, _, _, .scr h, k => .scr (h.mono (hF _) fun f o e => k _ o (.inl f) e)
  | _, _, _, .lstF h r, k => .lstF (h.mono (hF _) fun f o e => k _ o (.inl f) e) (Rps.frame hF r fun a o h e => k a o (h.imp id id) e)
  | _, _, _, .lstO h r, k => .lstO (k _ _ (.inr List.mem_cons_self) h) (Rps.frame hF r fun a o h e => k a o (h.imp id (List.mem_cons_of_mem _)) e)
  | _, _, _, .tup h r, k => .tup (h.mono (hF _) fun f o e => k _ o (.inl f) e) (Rps.frame hF r fun a o h e => k a o h e)
  | _, _, _, .dKF f h r, k => .dKF (hF _ f) (k _ _ (.inl f) h) (Rps.frame hF r fun a o h e => k a o (h.imp id id) e)
  | _, _, _, .dKO h r, k => .dKO (k _ _ (.inr List.mem_cons_self) h) (Rps.frame hF r fun a o h e => k a o (h.imp id (List.mem_cons_of_mem _)) e)
  | _, _, _, .dTF f h r, k => .dTF (hF _ f) (k _ _ (.inl f) h) (Rps.frame hF r fun a o h e => k a o (h.imp id id) e)
  | _, _, _, .dTO h r, k => .dTO (k _ _ (.inr List.mem_cons_self) h) (Rps.frame hF r fun a o h e => k a o (h.imp id (List.mem_cons_of_mem _)) e)
  | _, _, _, .objF f h r, k => .objF (hF _ f) (k _ _ (.inl f) h) (Rps.frame hF r fun a o h e => k a o (h.imp id id) e)
  | _, _, _, .objO h r, k => .objO (k _ _ (.inr List.mem_cons_self) h) (Rps.frame hF r fun a o h e => k a o (h.imp id (List.mem_cons_of_mem _)) e)
theorem Rps.frame (hF : ∀ a, F a → F' a) : ∀ {vs : List V} {ds : List D} {l : List Addr}, Rps K F H vs ds l → (∀ a o, (F a ∨ a ∈ l) → H a = some o → H' a = some o) → Rps K F' H' vs ds l
  | _, _, _, .nil, _ => .nil
  | _, _, _, .cons h r, k => .cons (Rp.frame hF h fun a o h e => k a o (h.imp id (List.mem_append_left _)) e) (Rps.frame hF r fun a o h e => k a o (h.imp id (List.mem_append_right _)) e)
end
mutual
/-- the owned nodes are frozen -/
theorem Rp.freeze (hF : ∀ a, F a → F' a) : ∀ {v : V} {d : D} {l : List Addr}, Rp K F H v d l → (∀ a, a ∈ l → F' a) → Rp K F' H v (fz d) []
  | _, _, _, .non, _ => by rw [fz] <;> first | exact .non | intros; contradiction
  | _, _, _, .bl b, _ => by rw [fz] <;> first | exact .bl b | intros; contradiction
  | _, _, _, .int b, _ => by rw [fz] <;> first | exact .int b | intros; contradiction
  | _, _, _, .str b, _ => by rw [fz] <;> first | exact .str b | intros; contradiction
  | _, _, _, .ty b, _ => by rw [fz] <;> first | exact .ty b | intros; contradiction
  | _, _, _, .ref b, _ => by rw [fz] <;> first | exact .ref b | intros; contradiction
  | _, _, _, .scr h, _ => by rw [fz] <;> first | exact .scr (h.mono (hF _) fun _ o e => e) | intros; contradiction
  | _, _, _, .lstF h r, k => by rw [fz]; exact .lstF (h.mono (hF _) fun _ o e => e) (Rps.freeze hF r fun a h => k a h)
  | _, _, _, .lstO h r, k => by rw [fz]; exact .lstF ⟨k _ List.mem_cons_self, h⟩ (Rps.freeze hF r fun a h => k a (List.mem_cons_of_mem _ h))
  | _, _, _, .tup h r, k => by rw [fz]; exact .tup (h.mono (hF _) fun _ o e => e) (Rps.freeze hF r k)
  | _, _, _, .dKF f h r, k => by rw [fz]; exact .dKF (hF _ f) h (Rps.freeze hF r fun a h => k a h)
  | _, _, _, .dKO h r, k => by rw [fz]; exact .dKF (k _ List.mem_cons_self) h (Rps.freeze hF r fun a h => k a (List.mem_cons_of_mem _ h))
  | _, _, _, .dTF f h r, k => by rw [fz]; exact .dTF (hF _ f) h (Rps.freeze hF r fun a h => k a h)
  | _, _, _, .dTO h r, k => by rw [fz]; exact .dTF (k _ List.mem_cons_self) h (Rps.freeze hF r fun a h => k a (List.mem_cons_of_mem _ h))
  | _, _, _, .objF f h r, k => by rw [fz]; exact .objF (hF _ f) h (Rps.freeze hF r fun a h => k a h)
  | _, _, _, .objO h r, k => by rw [fz]; exact .objF (k _ List.mem_cons_self) h (Rps.freeze hF r fun a h => k a (List.mem_cons_of_mem _ h))
theorem Rps.freeze (hF : ∀ a, F a → F' a) : ∀ {vs : List V} {ds : List D} {l : List Addr}, Rps K F H vs ds l → (∀ a, a ∈ l → F' a) → Rps K F' H vs (fzs ds) []
  | _, _, _, .nil, _ => by rw [fzs]; exact .nil
  | _, _, _, .cons h r, k => by
    rw [fzs]
    exact .cons (l := []) (m := []) (Rp.freeze hF h fun a z => k a (List.mem_append_left _ z)) (Rps.freeze hF r fun a z => k a (List.mem_append_right _ z))
end
mutual
theorem Rp.isFz : ∀ {v : V} {d : D} {l : List Addr}, Rp K F H v d l → isFz d = true → l = []
  | _, _, _, .non, _ => rfl
  | _, _, _, .bl b, _ => rfl
  | _, _, _, .int b, _ => rfl
  | _, _, _, .str b, _ => rfl
  | _, _, _, .ty b, _ => rfl
  | _, _, _, .ref b, _ => rfl
  | _, _, _, .scr _, _ => rfl
  | _, _, _, .lstF h r, k => rfl
  | _, _, _, .lstO h r, k => by rw [DL.isFz] at k; cases k
  | _, _, _, .tup h r, k => by rw [DL.isFz] at k; exact Rps.isFz r k
  | _, _, _, .dKF f h r, k => rfl
  | _, _, _, .dKO h r, k => by rw [DL.isFz] at k; cases k
  | _, _, _, .dTF f h r, k => rfl
  | _, _, _, .dTO h r, k => by rw [DL.isFz] at k; cases k
  | _, _, _, .objF f h r, k => rfl
  | _, _, _, .objO h r, k => by rw [DL.isFz] at k; cases k
theorem Rps.isFz : ∀ {vs : List V} {ds : List D} {l : List Addr}, Rps K F H vs ds l → isFzs ds = true → l = []
  | _, _, _, .nil, _ => rfl
  | _, _, _, .cons h r, k => by
    rw [isFzs, Bool.and_eq_true] at k
    rw [Rp.isFz h k.1, Rps.isFz r k.2]
    rfl
end
mutual
theorem fz_of : ∀ {d : D}, isFz d = true → fz d = d
  | .non, _ => by rw [fz] <;> intros <;> contradiction
  | .bl b, _ => by rw [fz] <;> intros <;> contradiction
  | .int b, _ => by rw [fz] <;> intros <;> contradiction
  | .str b, _ => by rw [fz] <;> intros <;> contradiction
  | .ty b, _ => by rw [fz] <;> intros <;> contradiction
  | .ref b, _ => by rw [fz] <;> intros <;> contradiction
  | .scr b, _ => by rw [fz] <;> intros <;> contradiction
  | .lst o xs, k => by
    rw [isFz, Bool.and_eq_true, Bool.not_eq_true'] at k
    rw [fz, fzs_of k.2, k.1]
  | .tup xs, k => by
    rw [isFz] at k
    rw [fz, fzs_of k]
  | .dK o ks xs, k => by
    rw [isFz, Bool.and_eq_true, Bool.not_eq_true'] at k
    rw [fz, fzs_of k.2, k.1]
  | .dT o ks xs, k => by
    rw [isFz, Bool.and_eq_true, Bool.not_eq_true'] at k
    rw [fz, fzs_of k.2, k.1]
  | .obj o C ns xs, k => by
    rw [isFz, Bool.and_eq_true, Bool.not_eq_true'] at k
    rw [fz, fzs_of k.2, k.1]
theorem fzs_of : ∀ {ds : List D}, isFzs ds = true → fzs ds = ds
  | [], _ => by rw [fzs]
  | d :: ds, k => by
    rw [isFzs, Bool.and_eq_true] at k
    rw [fzs, fz_of k.1, fzs_of k.2]
end
theorem Rps.length : ∀ {vs : List V} {ds : List D} {l : List Addr}, Rps K F H vs ds l → vs.length = ds.length
  | _, _, _, .nil => rfl
  | _, _, _, .cons _ r => by rw [List.length_cons, List.length_cons, Rps.length r]
theorem Rps.get : ∀ {vs : List V} {ds : List D} {l : List Addr} {i : Nat} {d : D}, Rps K F H vs ds l → ds[i]? = some d → ∃ v m, vs[i]? = some v ∧ Rp K F H v d m ∧ ∀ a ∈ m, a ∈ l
  | _, _, _, _, _, .nil, e => by simp at e
  | _, _, _, 0, _, .cons h r, e => by
    cases e
    exact ⟨_, _, rfl, h, fun a z => List.mem_append_left _ z⟩
  | _, _, _, i + 1, _, .cons h r, e => by
    obtain ⟨v, m, h1, h2, h3⟩ := Rps.get r (i := i) e
    exact ⟨v, m, h1, h2, fun a z => List.mem_append_right _ (h3 a z)⟩
theorem Rps.append : ∀ {vs ws : List V} {ds es : List D} {l m : List Addr}, Rps K F H vs ds l → Rps K F H ws es m → Rps K F H (vs ++ ws) (ds ++ es) (l ++ m)
  | _, _, _, _, _, _, .nil, s => s
  | _, _, _, _, _, _, .cons h r, s => by
    rw [List.append_assoc]
    exact .cons h (Rps.append r s)
theorem Rps.split : ∀ {ds es : List D} {vs : List V} {l : List Addr}, Rps K F H vs (ds ++ es) l → ∃ vs1 vs2 l1 l2, vs = vs1 ++ vs2 ∧ l = l1 ++ l2 ∧ Rps K F H vs1 ds l1 ∧ Rps K F H vs2 es l2
  | [], es, vs, l, h => ⟨[], vs, [], l, rfl, rfl, .nil, h⟩
  | d :: ds, es, _, _, .cons h r => by
    obtain ⟨v1, v2, l1, l2, e1, e2, r1, r2⟩ := Rps.split r
    subst e1 e2
    exact ⟨_ :: v1, v2, _ ++ l1, l2, rfl, by rw [List.append_assoc], .cons h r1, r2⟩
theorem Rps.one {v : V} {d : D} {l : List Addr} (h : Rp K F H v d l) : Rps K F H [v] [d] l := by
  have := Rps.cons h .nil
  rwa [List.append_nil] at this
theorem Rps.un_one {v : V} {d : D} {l : List Addr} (h : Rps K F H [v] [d] l) : Rp K F H v d l := by
  cases h with
  | cons h r =>
    cases r
    rw [List.append_nil]
    exact h
/-- frozen data, item by item -/
theorem Rps.of_get : ∀ {vs : List V} {ds : List D}, vs.length = ds.length → (∀ (i : Nat) (v : V) (d : D), vs[i]? = some v → ds[i]? = some d → Rp K F H v d []) → Rps K F H vs ds []
  | [], [], _, _ => .nil
  | v :: vs, d :: ds, e, h => by
    have := Rps.cons (h 0 v d rfl rfl) (Rps.of_get (vs := vs) (ds := ds) (by simpa using e) fun i v d h1 h2 => h (i + 1) v d h1 h2)
    exact this
mutual
theorem Rp.dom : ∀ {v : V} {d : D} {l : List Addr}, Rp K F H v d l → ∀ a ∈ l, H a ≠ none
  | _, _, _, .non, _, z => nomatch z
  | _, _, _, .bl b, _, z => nomatch z
  | _, _, _, .int b, _, z => nomatch z
  | _, _, _, .str b, _, z => nomatch z
  | _, _, _, .ty b, _, z => nomatch z
  | _, _, _, .ref b, _, z => nomatch z
  | _, _, _, .scr _, _, z => nomatch z
  | _, _, _, .lstF h r, _, z => nomatch z
  | _, _, _, .lstO h r, a, z => by
    rcases List.mem_cons.mp z with e | z
    · rw [e, h]; exact fun q => nomatch q
    · exact Rps.dom r a z
  | _, _, _, .tup h r, a, z => Rps.dom r a z
  | _, _, _, .dKF f h r, _, z => nomatch z
  | _, _, _, .dKO h r, a, z => by
    rcases List.mem_cons.mp z with e | z
    · rw [e, h]; exact fun q => nomatch q
    · exact Rps.dom r a z
  | _, _, _, .dTF f h r, _, z => nomatch z
  | _, _, _, .dTO h r, a, z => by
    rcases List.mem_cons.mp z with e | z
    · rw [e, h]; exact fun q => nomatch q
    · exact Rps.dom r a z
  | _, _, _, .objF f h r, _, z => nomatch z
  | _, _, _, .objO h r, a, z => by
    rcases List.mem_cons.mp z with e | z
    · rw [e, h]; exact fun q => nomatch q
    · exact Rps.dom r a z
theorem Rps.dom : ∀ {vs : List V} {ds : List D} {l : List Addr}, Rps K F H vs ds l → ∀ a ∈ l, H a ≠ none
  | _, _, _, .nil, _, z => nomatch z
  | _, _, _, .cons h r, a, z => (List.mem_append.mp z).elim (Rp.dom h a) (Rps.dom r a)
end
end
end DL

set_option Elab.async false
set_option linter.all false
set_option maxRecDepth 100000
set_option maxHeartbeats 4000000
/-! DLB: the state of a body: slots, temporaries, what is owned, what is frozen; its steps. -/
namespace DL
open PySem PySem.Spec PyProof.Rows L2

/-- a slot: not set, or its data (true: only looked at) -/
abbrev Rho := List (Option (Bool × D))
def kl1 : Option (Bool × D) → Option (Bool × D)
  | some (true, _) => none
  | s => s
/-- what is only looked at is forgotten -/
def kill (ρ : Rho) : Rho := ρ.map kl1

inductive Slots (K : PySem.W.Frag) (F : Addr → Prop) (H : Hp) : L2.St → Rho → List Addr → Prop
  | nil : Slots K F H [] [] []
  | un {x : Option V} {σ : L2.St} {ρ : Rho} {l : List Addr} : Slots K F H σ ρ l → Slots K F H (x :: σ) (none :: ρ) l
  | ow {v : V} {d : D} {σ : L2.St} {ρ : Rho} {l m : List Addr} : Rp K F H v d l → Slots K F H σ ρ m → Slots K F H (some v :: σ) (some (false, d) :: ρ) (l ++ m)
  | vw {v : V} {d : D} {σ : L2.St} {ρ : Rho} {l m : List Addr} : Rp K F H v d l → Slots K F H σ ρ m → Slots K F H (some v :: σ) (some (true, d) :: ρ) m

/-- what stays through a body: the heap, the frozen and the owned addresses at its entry, slots that are not set anew -/
structure Cn where
  H0 : Hp
  F0 : Addr → Prop
  A0 : List Addr
  pin : List (Nat × V)

structure Ok (K : PySem.W.Frag) (c : Cn) (F : Addr → Prop) (H : Hp) (σ : L2.St) (ρ : Rho) (τ : List V) (θ : List D) : Prop where
  rep : ∃ l m, Slots K F H σ ρ l ∧ Rps K F H τ θ m ∧ (l ++ m).Nodup ∧ ∀ a ∈ l ++ m, ¬ F a ∧ (a ∈ c.A0 ∨ c.H0 a = none)
  dom : ∀ a, F a → H a ≠ none
  new : ∀ a, F a → c.F0 a ∨ c.H0 a = none ∨ a ∈ c.A0
  sub : ∀ a, c.F0 a → F a
  fr : ∀ a o, c.H0 a = some o → a ∉ c.A0 → H a = some o
  gr : ∀ a, c.H0 a ≠ none → H a ≠ none
  pin : ∀ p ∈ c.pin, σ[p.1]? = some (some p.2)

section
variable {K : PySem.W.Frag} {F F' : Addr → Prop} {H H' : Hp} {σ : L2.St} {ρ : Rho} {L : List Addr}
theorem Slots.length : ∀ {σ : L2.St} {ρ : Rho} {L : List Addr}, Slots K F H σ ρ L → σ.length = ρ.length
  | _, _, _, .nil => rfl
  | _, _, _, .un h => by rw [List.length_cons, List.length_cons, h.length]
  | _, _, _, .ow _ h => by rw [List.length_cons, List.length_cons, h.length]
  | _, _, _, .vw _ h => by rw [List.length_cons, List.length_cons, h.length]
theorem Slots.frameS (hF : ∀ a, F a → F' a) (k : ∀ a o, H a = some o → H' a = some o) : ∀ {σ : L2.St} {ρ : Rho} {L : List Addr}, Slots K F H σ ρ L → Slots K F' H' σ ρ L
  | _, _, _, .nil => .nil
  | _, _, _, .un h => .un (h.frameS hF k)
  | _, _, _, .ow r h => .ow (r.frame hF fun a o _ e => k a o e) (h.frameS hF k)
  | _, _, _, .vw r h => .vw (r.frame hF fun a o _ e => k a o e) (h.frameS hF k)
theorem Slots.frameK (hF : ∀ a, F a → F' a) : ∀ {σ : L2.St} {ρ : Rho} {L : List Addr}, Slots K F H σ ρ L → (∀ a o, (F a ∨ a ∈ L) → H a = some o → H' a = some o) → Slots K F' H' σ (kill ρ) L
  | _, _, _, .nil, _ => .nil
  | _, _, _, .un h, k => .un (h.frameK hF k)
  | _, _, _, .ow r h, k => .ow (r.frame hF fun a o z e => k a o (z.imp id (List.mem_append_left _)) e) (h.frameK hF fun a o z e => k a o (z.imp id (List.mem_append_right _)) e)
  | _, _, _, .vw r h, k => .un (h.frameK hF k)
theorem Slots.get : ∀ {σ : L2.St} {ρ : Rho} {L : List Addr} {i : Nat} {b : Bool} {d : D}, Slots K F H σ ρ L → ρ[i]? = some (some (b, d)) → ∃ v l, σ[i]? = some (some v) ∧ Rp K F H v d l
  | _, _, _, 0, _, _, .un h, e => by cases e
  | _, _, _, 0, _, _, .ow r h, e => by cases e; exact ⟨_, _, rfl, r⟩
  | _, _, _, 0, _, _, .vw r h, e => by cases e; exact ⟨_, _, rfl, r⟩
  | _, _, _, i + 1, _, _, .un h, e => h.get (i := i) e
  | _, _, _, i + 1, _, _, .ow r h, e => h.get (i := i) e
  | _, _, _, i + 1, _, _, .vw r h, e => h.get (i := i) e
theorem Slots.take : ∀ {σ : L2.St} {ρ : Rho} {L : List Addr} {i : Nat} {d : D}, Slots K F H σ ρ L → ρ[i]? = some (some (false, d)) → ∃ v l L1, σ[i]? = some (some v) ∧ Rp K F H v d l ∧ Slots K F H σ (ρ.set i none) L1 ∧ L.Perm (l ++ L1)
  | _, _, _, 0, _, .un h, e => by cases e
  | _, _, _, 0, _, .ow r h, e => by cases e; exact ⟨_, _, _, rfl, r, .un h, .refl _⟩
  | _, _, _, 0, _, .vw r h, e => by cases e
  | _, _, _, i + 1, _, .un h, e => by
    obtain ⟨v, l, L1, h1, h2, h3, h4⟩ := h.take (i := i) e
    exact ⟨v, l, L1, h1, h2, .un h3, h4⟩
  | _, _, _, i + 1, _, .ow (l := l0) r h, e => by
    obtain ⟨v, l, L1, h1, h2, h3, h4⟩ := h.take (i := i) e
    refine ⟨v, l, l0 ++ L1, h1, h2, .ow r h3, ?_⟩
    exact (h4.append_left l0).trans (by rw [← List.append_assoc, ← List.append_assoc]; exact List.perm_append_comm.append_right L1)
  | _, _, _, i + 1, _, .vw r h, e => by
    obtain ⟨v, l, L1, h1, h2, h3, h4⟩ := h.take (i := i) e
    exact ⟨v, l, L1, h1, h2, .vw r h3, h4⟩
theorem Slots.unset : ∀ {σ : L2.St} {ρ : Rho} {L : List Addr} (i : Nat), Slots K F H σ ρ L → ∃ L1, Slots K F H σ (ρ.set i none) L1 ∧ L1.Sublist L
  | _, _, _, _, .nil => ⟨[], .nil, .refl _⟩
  | _, _, _, 0, .un h => ⟨_, .un h, .refl _⟩
  | _, _, _, 0, .ow r h => ⟨_, .un h, List.sublist_append_right _ _⟩
  | _, _, _, 0, .vw r h => ⟨_, .un h, .refl _⟩
  | _, _, _, i + 1, .un h => let ⟨_, h1, h2⟩ := h.unset i; ⟨_, .un h1, h2⟩
  | _, _, _, i + 1, .ow r h => let ⟨_, h1, h2⟩ := h.unset i; ⟨_, .ow r h1, h2.append_left _⟩
  | _, _, _, i + 1, .vw r h => let ⟨_, h1, h2⟩ := h.unset i; ⟨_, .vw r h1, h2⟩
/-- a slot that bears nothing may hold anything -/
theorem Slots.any : ∀ {σ : L2.St} {ρ : Rho} {L : List Addr} (i : Nat) (x : Option V), Slots K F H σ ρ L → ρ[i]? = some none → Slots K F H (σ.set i x) ρ L
  | _, _, _, 0, x, .un h, _ => .un h
  | _, _, _, 0, _, .ow r h, e => by cases e
  | _, _, _, 0, _, .vw r h, e => by cases e
  | _, _, _, i + 1, x, .un h, e => .un (h.any i x e)
  | _, _, _, i + 1, x, .ow r h, e => .ow r (h.any i x e)
  | _, _, _, i + 1, x, .vw r h, e => .vw r (h.any i x e)
theorem Slots.put {v : V} {d : D} {l : List Addr} (hv : Rp K F H v d l) : ∀ {σ : L2.St} {ρ : Rho} {L : List Addr} {i : Nat}, Slots K F H σ ρ L → ρ[i]? = some none → ∃ L', Slots K F H (σ.set i (some v)) (ρ.set i (some (false, d))) L' ∧ L'.Perm (l ++ L)
  | _, _, _, 0, .un h, _ => ⟨_, .ow hv h, .refl _⟩
  | _, _, _, 0, .ow r h, e => by cases e
  | _, _, _, 0, .vw r h, e => by cases e
  | _, _, _, i + 1, .un h, e => let ⟨_, h1, h2⟩ := h.put hv (i := i) e; ⟨_, .un h1, h2⟩
  | _, _, _, i + 1, .ow (l := l0) (m := m0) r h, e => by
    obtain ⟨L', h1, h2⟩ := h.put hv (i := i) e
    refine ⟨_, .ow r h1, (h2.append_left l0).trans ?_⟩
    rw [← List.append_assoc, ← List.append_assoc]
    exact List.perm_append_comm.append_right m0
  | _, _, _, i + 1, .vw r h, e => let ⟨_, h1, h2⟩ := h.put hv (i := i) e; ⟨_, .vw r h1, h2⟩
theorem Slots.putV {v : V} {d : D} {l : List Addr} (hv : Rp K F H v d l) : ∀ {σ : L2.St} {ρ : Rho} {L : List Addr} {i : Nat}, Slots K F H σ ρ L → ρ[i]? = some none → Slots K F H (σ.set i (some v)) (ρ.set i (some (true, d))) L
  | _, _, _, 0, .un h, _ => .vw hv h
  | _, _, _, 0, .ow r h, e => by cases e
  | _, _, _, 0, .vw r h, e => by cases e
  | _, _, _, i + 1, .un h, e => .un (h.putV hv (i := i) e)
  | _, _, _, i + 1, .ow r h, e => .ow r (h.putV hv (i := i) e)
  | _, _, _, i + 1, .vw r h, e => .vw r (h.putV hv (i := i) e)
theorem Slots.dom : ∀ {σ : L2.St} {ρ : Rho} {L : List Addr}, Slots K F H σ ρ L → ∀ a ∈ L, H a ≠ none
  | _, _, _, .nil, _, z => nomatch z
  | _, _, _, .un h, a, z => h.dom a z
  | _, _, _, .ow r h, a, z => (List.mem_append.mp z).elim (r.dom a) (h.dom a)
  | _, _, _, .vw r h, a, z => h.dom a z
theorem Slots.kill (h : Slots K F H σ ρ L) : Slots K F H σ (DL.kill ρ) L := h.frameK (fun _ z => z) fun _ _ _ e => e
end

theorem nd_perm {l l' m m' : List Addr} (h : (l ++ m).Nodup) (p : (l' ++ m').Perm (l ++ m)) : (l' ++ m').Nodup := p.nodup_iff.mpr h
theorem nd_sub {l l' : List Addr} (h : l.Nodup) (p : l'.Sublist l) : l'.Nodup := h.sublist p

section
variable {K : PySem.W.Frag} {c : Cn} {F : Addr → Prop} {H : Hp} {σ : L2.St} {ρ : Rho} {τ : List V} {θ : List D}
theorem Ok.len (k : Ok K c F H σ ρ τ θ) : σ.length = ρ.length := by
  obtain ⟨l, m, h1, _⟩ := k.rep
  exact h1.length
theorem Ok.get {i : Nat} {b : Bool} {d : D} (k : Ok K c F H σ ρ τ θ) (e : ρ[i]? = some (some (b, d))) : ∃ v l, σ[i]? = some (some v) ∧ Rp K F H v d l := by
  obtain ⟨l, m, h1, _⟩ := k.rep
  exact h1.get e
/-- only new things were laid -/
theorem Ok.same {H' : Hp} (k : Ok K c F H σ ρ τ θ) (s : Same H H') : Ok K c F H' σ ρ τ θ := by
  obtain ⟨l, m, h1, h2, h3, h4⟩ := k.rep
  refine ⟨⟨l, m, h1.frameS (fun _ z => z) s, h2.frame (fun _ z => z) fun a o _ e => s a o e, h3, h4⟩, fun a f e => k.dom a f (s.free e), k.new, k.sub, fun a o e n => s _ _ (k.fr a o e n), fun a e z => k.gr a e (s.free z), k.pin⟩
theorem same_upd {p : Addr} {o : HO} (h : H p = none) : Same H (upd H p o) := fun b x e => by
  rw [upd_ne (ne_of_none e h)]
  exact e
/-- more is frozen, of what was owned -/
theorem Ok.more {G : Addr → Prop} {τ' : List V} {θ' : List D} (k : Ok K c F H σ ρ τ θ) (hn : ∀ l m, Slots K F H σ ρ l → Rps K F H τ θ m → (l ++ m).Nodup → (∀ a, G a → a ∈ l ++ m) ∧ ∃ l' m', Slots K F H σ ρ l' ∧ Rps K F H τ' θ' m' ∧ (l' ++ m').Sublist (l ++ m) ∧ ∀ a ∈ l' ++ m', ¬ G a) : Ok K c (fun a => F a ∨ G a) H σ ρ τ' θ' := by
  obtain ⟨l, m, h1, h2, h3, h4⟩ := k.rep
  obtain ⟨q0, l', m', q1, q2, q3, q4⟩ := hn l m h1 h2 h3
  refine ⟨⟨l', m', q1.frameS (fun a f => .inl f) (fun _ _ e => e), q2.frame (fun a f => .inl f) (fun _ _ _ e => e), nd_sub h3 q3, fun a z => ⟨fun f => f.elim (h4 a (q3.subset z)).1 (q4 a z), (h4 a (q3.subset z)).2⟩⟩, fun a f => ?_, fun a f => ?_, fun a f => .inl (k.sub a f), k.fr, k.gr, k.pin⟩
  · rcases f with f | f
    · exact k.dom a f
    · exact (List.mem_append.mp (q0 a f)).elim (h1.dom a) (h2.dom a)
  · rcases f with f | f
    · exact k.new a f
    · exact (h4 a (q0 a f)).2.elim (fun z => .inr (.inr z)) fun z => .inr (.inl z)
theorem Ok.kill (k : Ok K c F H σ ρ τ θ) : Ok K c F H σ (kill ρ) τ θ := by
  obtain ⟨l, m, h1, h2, h3, h4⟩ := k.rep
  exact ⟨⟨l, m, h1.kill, h2, h3, h4⟩, k.dom, k.new, k.sub, k.fr, k.gr, k.pin⟩
/-- a value without owned nodes comes to the temporaries -/
theorem Ok.push0 {v : V} {d : D} (k : Ok K c F H σ ρ τ θ) (h : Rp K F H v d []) : Ok K c F H σ ρ (v :: τ) (d :: θ) := by
  obtain ⟨l, m, h1, h2, h3, h4⟩ := k.rep
  exact ⟨⟨l, m, h1, .cons (l := []) h h2, h3, h4⟩, k.dom, k.new, k.sub, k.fr, k.gr, k.pin⟩
theorem Ok.drop {v : V} {d : D} (k : Ok K c F H σ ρ (v :: τ) (d :: θ)) : Ok K c F H σ ρ τ θ := by
  obtain ⟨l, m, h1, h2, h3, h4⟩ := k.rep
  cases h2 with
  | cons r h2 =>
    rename_i l1 m1
    refine ⟨⟨l, m1, h1, h2, nd_sub h3 ((List.Sublist.refl l).append (List.sublist_append_right _ _)), fun a z => h4 a ?_⟩, k.dom, k.new, k.sub, k.fr, k.gr, k.pin⟩
    rcases List.mem_append.mp z with z | z
    · exact List.mem_append_left _ z
    · exact List.mem_append_right _ (List.mem_append_right _ z)
theorem Ok.dropAll (k : Ok K c F H σ ρ τ θ) : Ok K c F H σ ρ [] [] := by
  obtain ⟨l, m, h1, h2, h3, h4⟩ := k.rep
  refine ⟨⟨l, [], h1, .nil, nd_sub h3 (by rw [List.append_nil]; exact List.sublist_append_left _ _), fun a z => h4 a ?_⟩, k.dom, k.new, k.sub, k.fr, k.gr, k.pin⟩
  rw [List.append_nil] at z
  exact List.mem_append_left _ z
theorem Ok.top {v : V} {d : D} (k : Ok K c F H σ ρ (v :: τ) (d :: θ)) : ∃ l, Rp K F H v d l := by
  obtain ⟨l, m, h1, h2, h3, h4⟩ := k.rep
  cases h2 with
  | cons r h2 => exact ⟨_, r⟩
/-- a slot gives its value away -/
theorem Ok.move {i : Nat} {d : D} {v : V} (k : Ok K c F H σ ρ τ θ) (e : ρ[i]? = some (some (false, d))) (ev : σ[i]? = some (some v)) : Ok K c F H σ (ρ.set i none) (v :: τ) (d :: θ) := by
  obtain ⟨l, m, h1, h2, h3, h4⟩ := k.rep
  obtain ⟨v', l1, L1, e1, r, s, p⟩ := h1.take e
  rw [ev] at e1
  cases e1
  have pp : (L1 ++ (l1 ++ m)).Perm (l ++ m) := by
    refine List.Perm.trans ?_ (p.append_right m).symm
    rw [← List.append_assoc]
    exact List.perm_append_comm.append_right m
  exact ⟨⟨L1, l1 ++ m, s, .cons r h2, nd_perm h3 pp, fun a z => h4 a (pp.mem_iff.mp z)⟩, k.dom, k.new, k.sub, k.fr, k.gr, k.pin⟩
/-- the newest temporary goes into a slot -/
theorem Ok.store {i : Nat} {d : D} {v : V} (k : Ok K c F H σ ρ (v :: τ) (d :: θ)) (hi : i < ρ.length) (hp : ∀ p ∈ c.pin, p.1 ≠ i) : Ok K c F H (σ.set i (some v)) (ρ.set i (some (false, d))) τ θ := by
  obtain ⟨l, m, h1, h2, h3, h4⟩ := k.rep
  cases h2 with
  | cons r h2 =>
    rename_i l1 m1
    obtain ⟨L1, s1, sb⟩ := h1.unset i
    obtain ⟨L2, s2, p2⟩ := s1.put r (i := i) (by rw [List.getElem?_set_self hi])
    rw [List.set_set] at s2
    have nd1 : (L1 ++ (l1 ++ m1)).Nodup := nd_sub h3 (sb.append (List.Sublist.refl _))
    have pp : (L2 ++ m1).Perm (L1 ++ (l1 ++ m1)) := by
      refine (p2.append_right m1).trans ?_
      rw [← List.append_assoc L1]
      exact List.perm_append_comm.append_right m1
    refine ⟨⟨L2, m1, s2, h2, nd_perm nd1 pp, fun a z => h4 a ?_⟩, k.dom, k.new, k.sub, k.fr, k.gr, fun p hpp => ?_⟩
    · rcases List.mem_append.mp (pp.mem_iff.mp z) with z | z
      · exact List.mem_append_left _ (sb.subset z)
      · exact List.mem_append_right _ z
    · rw [List.getElem?_set_ne (fun e => hp p hpp e.symm)]
      exact k.pin p hpp
/-- a look goes into a slot -/
theorem Ok.storeV {i : Nat} {d : D} {v : V} {l0 : List Addr} (k : Ok K c F H σ ρ τ θ) (r : Rp K F H v d l0) (hi : i < ρ.length) (hp : ∀ p ∈ c.pin, p.1 ≠ i) : Ok K c F H (σ.set i (some v)) (ρ.set i (some (true, d))) τ θ := by
  obtain ⟨l, m, h1, h2, h3, h4⟩ := k.rep
  obtain ⟨L1, s1, sb⟩ := h1.unset i
  have s2 := s1.putV r (i := i) (by rw [List.getElem?_set_self hi])
  rw [List.set_set] at s2
  refine ⟨⟨L1, m, s2, h2, nd_sub h3 (sb.append (List.Sublist.refl _)), fun a z => h4 a ?_⟩, k.dom, k.new, k.sub, k.fr, k.gr, fun p hpp => ?_⟩
  · rcases List.mem_append.mp z with z | z
    · exact List.mem_append_left _ (sb.subset z)
    · exact List.mem_append_right _ z
  · rw [List.getElem?_set_ne (fun e => hp p hpp e.symm)]
    exact k.pin p hpp
theorem Ok.unset (k : Ok K c F H σ ρ τ θ) (i : Nat) : Ok K c F H σ (ρ.set i none) τ θ := by
  obtain ⟨l, m, h1, h2, h3, h4⟩ := k.rep
  obtain ⟨L1, s1, sb⟩ := h1.unset i
  refine ⟨⟨L1, m, s1, h2, nd_sub h3 (sb.append (List.Sublist.refl _)), fun a z => h4 a ?_⟩, k.dom, k.new, k.sub, k.fr, k.gr, k.pin⟩
  rcases List.mem_append.mp z with z | z
  · exact List.mem_append_left _ (sb.subset z)
  · exact List.mem_append_right _ z
/-- the newest temporary is frozen -/
theorem Ok.freezeTop {v : V} {d : D} (k : Ok K c F H σ ρ (v :: τ) (d :: θ)) : ∃ F' : Addr → Prop, (∀ a, F a → F' a) ∧ Rp K F' H v (fz d) [] ∧ Ok K c F' H σ ρ τ θ := by
  obtain ⟨l0, m0, h1, h2, h3, h4⟩ := k.rep
  cases h2 with
  | cons r h2 =>
    rename_i l1 m1
    refine ⟨fun a => F a ∨ a ∈ l1, fun a f => .inl f, r.freeze (fun a f => .inl f) fun a z => .inr z, ?_⟩
    have nd := List.nodup_append.mp h3
    have nd2 := List.nodup_append.mp nd.2.1
    refine ⟨⟨l0, m1, h1.frameS (fun a f => .inl f) (fun _ _ e => e), h2.frame (fun a f => .inl f) (fun _ _ _ e => e), nd_sub h3 ((List.Sublist.refl l0).append (List.sublist_append_right _ _)), fun a z => ⟨fun f => ?_, ?_⟩⟩, fun a f => ?_, fun a f => ?_, fun a f => .inl (k.sub a f), k.fr, k.gr, k.pin⟩
    · have z' : a ∈ l0 ++ (l1 ++ m1) := (List.mem_append.mp z).elim (fun z => List.mem_append_left _ z) fun z => List.mem_append_right _ (List.mem_append_right _ z)
      rcases f with f | f
      · exact (h4 a z').1 f
      · rcases List.mem_append.mp z with z | z
        · exact nd.2.2 a z a (List.mem_append_left _ f) rfl
        · exact nd2.2.2 a f a z rfl
    · have z' : a ∈ l0 ++ (l1 ++ m1) := (List.mem_append.mp z).elim (fun z => List.mem_append_left _ z) fun z => List.mem_append_right _ (List.mem_append_right _ z)
      exact (h4 a z').2
    · rcases f with f | f
      · exact k.dom a f
      · exact r.dom a f
    · rcases f with f | f
      · exact k.new a f
      · exact (h4 a (List.mem_append_right _ (List.mem_append_left _ f))).2.elim (fun z => .inr (.inr z)) fun z => .inr (.inl z)
theorem Ok.fresh {p : Addr} (k : Ok K c F H σ ρ τ θ) (hp : H p = none) : ¬ F p ∧ c.H0 p = none := by
  refine ⟨fun f => k.dom p f hp, ?_⟩
  cases q : c.H0 p with
  | none => rfl
  | some o => exact absurd hp (k.gr p (by rw [q]; exact fun z => nomatch z))
/-- a new owned object comes to the temporaries, its parts come from there -/
theorem Ok.newO {vs : List V} {ds : List D} {p : Addr} {o : HO} {d : D} (k : Ok K c F H σ ρ (vs ++ τ) (ds ++ θ)) (hl : vs.length = ds.length) (hp : H p = none)
    (hd : ∀ m, Rps K F (upd H p o) vs ds m → Rp K F (upd H p o) (.ref p) d (p :: m)) : Ok K c F (upd H p o) σ ρ (.ref p :: τ) (d :: θ) := by
  have s : Same H (upd H p o) := same_upd hp
  have k' := k.same s
  obtain ⟨l, m, h1, h2, h3, h4⟩ := k.rep
  have np : ∀ a ∈ l ++ m, a ≠ p := fun a z e => by
    rw [e] at z
    exact (List.mem_append.mp z).elim (fun z => h1.dom p z hp) fun z => h2.dom p z hp
  obtain ⟨v1, v2, m1, m2, e1, e2, r1, r2⟩ := h2.split
  obtain ⟨rfl, rfl⟩ := List.append_inj e1 (by rw [hl, r1.length])
  subst e2
  have r1' : Rps K F (upd H p o) vs ds m1 := r1.frame (fun _ z => z) fun a o _ e => s a o e
  have r2' : Rps K F (upd H p o) τ θ m2 := r2.frame (fun _ z => z) fun a o _ e => s a o e
  refine ⟨⟨l, (p :: m1) ++ m2, h1.frameS (fun _ z => z) s, .cons (hd m1 r1') r2', ?_, fun a z => ?_⟩, k'.dom, k'.new, k'.sub, k'.fr, k'.gr, k'.pin⟩
  · have pp : (l ++ ((p :: m1) ++ m2)).Perm (p :: (l ++ (m1 ++ m2))) := List.perm_middle
    rw [pp.nodup_iff]
    exact List.nodup_cons.mpr ⟨fun z => np p z rfl, h3⟩
  · have pp : (l ++ ((p :: m1) ++ m2)).Perm (p :: (l ++ (m1 ++ m2))) := List.perm_middle
    rcases List.mem_cons.mp (pp.mem_iff.mp z) with e | z
    · rw [e]
      exact ⟨(k.fresh hp).1, .inr (k.fresh hp).2⟩
    · exact h4 a z
theorem Ok.newL {vs : List V} {ds : List D} {p : Addr} (k : Ok K c F H σ ρ (vs ++ τ) (ds ++ θ)) (hl : vs.length = ds.length) (hp : H p = none) : Ok K c F (upd H p (.lst vs)) σ ρ (.ref p :: τ) (.lst true ds :: θ) :=
  k.newO hl hp fun m r => .lstO upd_same r
/-- a new tuple -/
theorem Ok.newT {vs : List V} {ds : List D} {p : Addr} (k : Ok K c F H σ ρ (vs ++ τ) (ds ++ θ)) (hl : vs.length = ds.length) (hp : H p = none) : ∃ F' : Addr → Prop, (∀ a, F a → F' a) ∧ (∀ a, F' a → F a ∨ H a = none) ∧ Ok K c F' (upd H p (.tup vs)) σ ρ (.ref p :: τ) (.tup ds :: θ) := by
  have s : Same H (upd H p (.tup vs)) := same_upd hp
  have k' := k.same s
  obtain ⟨l, m, h1, h2, h3, h4⟩ := k.rep
  have np : ∀ a ∈ l ++ m, a ≠ p := fun a z e => by
    rw [e] at z
    exact (List.mem_append.mp z).elim (fun z => h1.dom p z hp) fun z => h2.dom p z hp
  obtain ⟨v1, v2, m1, m2, e1, e2, r1, r2⟩ := h2.split
  obtain ⟨rfl, rfl⟩ := List.append_inj e1 (by rw [hl, r1.length])
  subst e2
  refine ⟨fun a => F a ∨ a = p, fun a f => .inl f, fun a f => f.imp id fun e => by rw [e]; exact hp, ?_⟩
  have r1' : Rps K (fun a => F a ∨ a = p) (upd H p (.tup vs)) vs ds m1 := r1.frame (fun a f => .inl f) fun a o _ e => s a o e
  have r2' : Rps K (fun a => F a ∨ a = p) (upd H p (.tup vs)) τ θ m2 := r2.frame (fun a f => .inl f) fun a o _ e => s a o e
  refine ⟨⟨l, m1 ++ m2, h1.frameS (fun a f => .inl f) s, .cons (.tup ⟨.inr rfl, upd_same⟩ r1') r2', h3, fun a z => ⟨fun f => f.elim (h4 a z).1 (np a z), (h4 a z).2⟩⟩, fun a f => ?_, fun a f => ?_, fun a f => .inl (k.sub a f), k'.fr, k'.gr, k'.pin⟩
  · rcases f with f | f
    · exact k'.dom a f
    · rw [f, upd_same]
      exact fun z => nomatch z
  · rcases f with f | f
    · exact k.new a f
    · rw [f]
      exact .inr (.inl (k.fresh hp).2)
/-- an owned object of a slot is changed; temporaries may go into it, others may come out -/
theorem Ok.mut {vs : List V} {ds : List D} {i : Nat} {d : D} {v : V} (k : Ok K c F H σ ρ (vs ++ τ) (ds ++ θ)) (hl : vs.length = ds.length) (e : ρ[i]? = some (some (false, d))) (ev : σ[i]? = some (some v)) :
    ∃ l m1, Rp K F H v d l ∧ Rps K F H vs ds m1 ∧ (l ++ m1).Nodup ∧ (∀ a ∈ l ++ m1, ¬ F a) ∧
      ∀ (a : Addr) (o' : HO) (d' : D) (l' : List Addr) (vs' : List V) (ds' : List D) (m' : List Addr), a ∈ l → (∀ b ∈ l' ++ m', b ∈ l ++ m1) → (l' ++ m').Nodup → Rp K F (upd H a o') v d' l' → Rps K F (upd H a o') vs' ds' m' →
        Ok K c F (upd H a o') σ ((DL.kill ρ).set i (some (false, d'))) (vs' ++ τ) (ds' ++ θ) := by
  obtain ⟨L, m, h1, h2, h3, h4⟩ := k.rep
  obtain ⟨v1, v2, m1, m2, e1, e2, r1, r2⟩ := h2.split
  obtain ⟨rfl, rfl⟩ := List.append_inj e1 (by rw [hl, r1.length])
  subst e2
  obtain ⟨v', l, L1, e3, r, s1, p1⟩ := h1.take e
  rw [ev] at e3
  cases e3
  have pp : (L ++ (m1 ++ m2)).Perm ((l ++ m1) ++ (L1 ++ m2)) := by
    refine (p1.append_right _).trans ?_
    rw [List.append_assoc l, List.append_assoc l]
    refine List.Perm.append_left l ?_
    rw [← List.append_assoc, ← List.append_assoc]
    exact List.perm_append_comm.append_right m2
  have nd : ((l ++ m1) ++ (L1 ++ m2)).Nodup := pp.nodup_iff.mp h3
  have nd' := List.nodup_append.mp nd
  have hF : ∀ a ∈ (l ++ m1) ++ (L1 ++ m2), ¬ F a ∧ (a ∈ c.A0 ∨ c.H0 a = none) := fun a z => h4 a (pp.mem_iff.mpr z)
  refine ⟨l, m1, r, r1, nd'.1, fun a z => (hF a (List.mem_append_left _ z)).1, fun a o' d' l' vs' ds' m' ha hsub hnd hr hrs => ?_⟩
  have ha' : a ∈ (l ++ m1) ++ (L1 ++ m2) := List.mem_append_left _ (List.mem_append_left _ ha)
  have keep : ∀ b o, (F b ∨ b ∈ L1 ++ m2) → H b = some o → upd H a o' b = some o := fun b o z q => by
    rw [upd_ne]
    · exact q
    · intro z'
      rw [z'] at z
      rcases z with z | z
      · exact (hF a ha').1 z
      · exact nd'.2.2 a (List.mem_append_left _ ha) a z rfl
  have s2 : Slots K F (upd H a o') σ (DL.kill (ρ.set i none)) L1 := s1.frameK (fun _ z => z) fun b o z q => keep b o (z.imp id (List.mem_append_left _)) q
  have r2' : Rps K F (upd H a o') τ θ m2 := r2.frame (fun _ z => z) fun b o z q => keep b o (z.imp id (List.mem_append_right _)) q
  have hi : i < ρ.length := (List.getElem?_eq_some_iff.mp e).1
  have ek : DL.kill (ρ.set i none) = (DL.kill ρ).set i none := by
    unfold DL.kill
    rw [List.map_set]
    rfl
  rw [ek] at s2
  obtain ⟨L2, s3, p3⟩ := s2.put hr (i := i) (by rw [List.getElem?_set_self (by unfold DL.kill; rw [List.length_map]; exact hi)])
  rw [List.set_set] at s3
  have es : σ.set i (some v) = σ := by
    obtain ⟨hh, ee⟩ := List.getElem?_eq_some_iff.mp ev
    rw [← ee]
    exact List.set_getElem_self hh
  rw [es] at s3
  have pf : (L2 ++ (m' ++ m2)).Perm ((l' ++ m') ++ (L1 ++ m2)) := by
    refine (p3.append_right _).trans ?_
    rw [List.append_assoc l', List.append_assoc l']
    refine List.Perm.append_left l' ?_
    rw [← List.append_assoc, ← List.append_assoc]
    exact List.perm_append_comm.append_right m2
  have ndf : ((l' ++ m') ++ (L1 ++ m2)).Nodup := List.nodup_append.mpr ⟨hnd, nd'.2.1, fun x hx y hy => nd'.2.2 x (hsub x hx) y hy⟩
  refine ⟨⟨L2, m' ++ m2, s3, hrs.append r2', pf.nodup_iff.mpr ndf, fun b z => ?_⟩, fun b f => ?_, k.new, k.sub, fun b o q n => ?_, fun b q => ?_, k.pin⟩
  · rcases List.mem_append.mp (pf.mem_iff.mp z) with z | z
    · exact hF b (List.mem_append_left _ (hsub b z))
    · exact hF b (List.mem_append_right _ z)
  · by_cases hb : b = a
    · rw [hb, upd_same]
      exact fun z => nomatch z
    · rw [upd_ne hb]
      exact k.dom b f
  · rw [upd_ne]
    · exact k.fr b o q n
    · intro z
      rw [z] at q n
      rcases (hF a ha').2 with z | z
      · exact n z
      · rw [z] at q
        cases q
  · by_cases hb : b = a
    · rw [hb, upd_same]
      exact fun z => nomatch z
    · rw [upd_ne hb]
      exact k.gr b q
theorem Rps.rotL {F : Addr → Prop} {H : Hp} {v : V} {d : D} : ∀ {ws : List V} {ds : List D} {τ : List V} {θ : List D} {m : List Addr}, ws.length = ds.length → Rps K F H (v :: (ws ++ τ)) (d :: (ds ++ θ)) m → ∃ m', Rps K F H (ws ++ v :: τ) (ds ++ d :: θ) m' ∧ m'.Perm m := by
  intro ws ds τ θ m hl h
  cases h with
  | cons r h =>
    rename_i l m1
    obtain ⟨v1, v2, l1, l2, e1, e2, r1, r2⟩ := h.split
    obtain ⟨rfl, rfl⟩ := List.append_inj e1 (by rw [hl, r1.length])
    subst e2
    refine ⟨l1 ++ (l ++ l2), r1.append (.cons r r2), ?_⟩
    rw [← List.append_assoc, ← List.append_assoc]
    exact List.perm_append_comm.append_right l2
theorem Rps.rotR {F : Addr → Prop} {H : Hp} {v : V} {d : D} : ∀ {ws : List V} {ds : List D} {τ : List V} {θ : List D} {m : List Addr}, ws.length = ds.length → Rps K F H (ws ++ v :: τ) (ds ++ d :: θ) m → ∃ m', Rps K F H (v :: (ws ++ τ)) (d :: (ds ++ θ)) m' ∧ m'.Perm m := by
  intro ws ds τ θ m hl h
  obtain ⟨v1, v2, l1, l2, e1, e2, r1, r2⟩ := h.split
  obtain ⟨rfl, rfl⟩ := List.append_inj e1 (by rw [hl, r1.length])
  subst e2
  cases r2 with
  | cons r h' =>
    rename_i l m1
    refine ⟨l ++ (l1 ++ m1), .cons r (r1.append h'), ?_⟩
    rw [← List.append_assoc, ← List.append_assoc]
    exact List.perm_append_comm.append_right m1
theorem Ok.rotL {v : V} {d : D} {ws : List V} {ds : List D} (k : Ok K c F H σ ρ (v :: (ws ++ τ)) (d :: (ds ++ θ))) (hl : ws.length = ds.length) : Ok K c F H σ ρ (ws ++ v :: τ) (ds ++ d :: θ) := by
  obtain ⟨l, m, h1, h2, h3, h4⟩ := k.rep
  obtain ⟨m', r, p⟩ := h2.rotL hl
  exact ⟨⟨l, m', h1, r, (p.append_left l).nodup_iff.mpr h3, fun a z => h4 a ((p.append_left l).mem_iff.mp z)⟩, k.dom, k.new, k.sub, k.fr, k.gr, k.pin⟩
theorem Ok.rotR {v : V} {d : D} {ws : List V} {ds : List D} (k : Ok K c F H σ ρ (ws ++ v :: τ) (ds ++ d :: θ)) (hl : ws.length = ds.length) : Ok K c F H σ ρ (v :: (ws ++ τ)) (d :: (ds ++ θ)) := by
  obtain ⟨l, m, h1, h2, h3, h4⟩ := k.rep
  obtain ⟨m', r, p⟩ := h2.rotR hl
  exact ⟨⟨l, m', h1, r, (p.append_left l).nodup_iff.mpr h3, fun a z => h4 a ((p.append_left l).mem_iff.mp z)⟩, k.dom, k.new, k.sub, k.fr, k.gr, k.pin⟩
/-- the value of a slot comes back to it -/
theorem Ok.back {i : Nat} {d : D} {v : V} (k : Ok K c F H σ ρ (v :: τ) (d :: θ)) (e : σ[i]? = some (some v)) : Ok K c F H σ (ρ.set i (some (false, d))) τ θ := by
  obtain ⟨l, m, h1, h2, h3, h4⟩ := k.rep
  have hi : i < ρ.length := by
    rw [← h1.length]
    exact (List.getElem?_eq_some_iff.mp e).1
  cases h2 with
  | cons r h2 =>
    rename_i l1 m1
    obtain ⟨L1, s1, sb⟩ := h1.unset i
    obtain ⟨L2, s2, p2⟩ := s1.put r (i := i) (by rw [List.getElem?_set_self hi])
    rw [List.set_set] at s2
    have es : σ.set i (some v) = σ := by
      obtain ⟨hh, ee⟩ := List.getElem?_eq_some_iff.mp e
      rw [← ee]
      exact List.set_getElem_self hh
    rw [es] at s2
    have nd1 : (L1 ++ (l1 ++ m1)).Nodup := nd_sub h3 (sb.append (List.Sublist.refl _))
    have pp : (L2 ++ m1).Perm (L1 ++ (l1 ++ m1)) := by
      refine (p2.append_right m1).trans ?_
      rw [← List.append_assoc L1]
      exact List.perm_append_comm.append_right m1
    refine ⟨⟨L2, m1, s2, h2, nd_perm nd1 pp, fun a z => h4 a ?_⟩, k.dom, k.new, k.sub, k.fr, k.gr, k.pin⟩
    rcases List.mem_append.mp (pp.mem_iff.mp z) with z | z
    · exact List.mem_append_left _ (sb.subset z)
    · exact List.mem_append_right _ z
/-- an address more is frozen (a new tuple of looks) -/
theorem Ok.laidF {p : Addr} {o : HO} (k : Ok K c F H σ ρ τ θ) (hp : H p = none) : Ok K c (fun a => F a ∨ a = p) (upd H p o) σ ρ τ θ := by
  have s : Same H (upd H p o) := same_upd hp
  have k' := k.same s
  obtain ⟨l, m, h1, h2, h3, h4⟩ := k.rep
  have np : ∀ a ∈ l ++ m, a ≠ p := fun a z e => by
    rw [e] at z
    exact (List.mem_append.mp z).elim (fun z => h1.dom p z hp) fun z => h2.dom p z hp
  refine ⟨⟨l, m, h1.frameS (fun a f => .inl f) s, h2.frame (fun a f => .inl f) (fun a o _ e => s a o e), h3, fun a z => ⟨fun f => f.elim (h4 a z).1 (np a z), (h4 a z).2⟩⟩, fun a f => ?_, fun a f => ?_, fun a f => .inl (k.sub a f), k'.fr, k'.gr, k'.pin⟩
  · rcases f with f | f
    · exact k'.dom a f
    · rw [f, upd_same]
      exact fun z => nomatch z
  · rcases f with f | f
    · exact k.new a f
    · rw [f]
      exact .inr (.inl (k.fresh hp).2)

/-- what a call leaves: the value and the arguments that are handed back -/
structure Back (K : PySem.W.Frag) (F : Addr → Prop) (H : Hp) (l0 : List Addr) (F' : Addr → Prop) (H' : Hp) (vs : List V) (ds : List D) : Prop where
  rep : ∃ l, Rps K F' H' vs ds l ∧ l.Nodup ∧ ∀ a ∈ l, ¬ F' a ∧ (a ∈ l0 ∨ H a = none)
  sub : ∀ a, F a → F' a
  new : ∀ a, F' a → F a ∨ H a = none ∨ a ∈ l0
  dom : ∀ a, F' a → H' a ≠ none
  fr : ∀ a o, H a = some o → a ∉ l0 → H' a = some o
  gr : ∀ a, H a ≠ none → H' a ≠ none
/-- the arguments at a call -/
structure Give (K : PySem.W.Frag) (F : Addr → Prop) (H : Hp) (l0 : List Addr) (vs : List V) (ds : List D) : Prop where
  rep : Rps K F H vs ds l0
  nd : l0.Nodup
  nF : ∀ a ∈ l0, ¬ F a
  dom : ∀ a, F a → H a ≠ none
theorem Ok.callT {vs : List V} {ds : List D} (k : Ok K c F H σ ρ (vs ++ τ) (ds ++ θ)) (hl : vs.length = ds.length) : ∃ l0, Give K F H l0 vs ds ∧
    ∀ (F' : Addr → Prop) (H' : Hp) (ws : List V) (es : List D), Back K F H l0 F' H' ws es → Ok K c F' H' σ (DL.kill ρ) (ws ++ τ) (es ++ θ) := by
  obtain ⟨L, m, h1, h2, h3, h4⟩ := k.rep
  obtain ⟨v1, v2, m1, m2, e1, e2, r1, r2⟩ := h2.split
  obtain ⟨rfl, rfl⟩ := List.append_inj e1 (by rw [hl, r1.length])
  subst e2
  have nd := List.nodup_append.mp h3
  have nd2 := List.nodup_append.mp nd.2.1
  refine ⟨m1, ⟨r1, nd2.1, fun a z => (h4 a (List.mem_append_right _ (List.mem_append_left _ z))).1, k.dom⟩, fun F' H' ws es B => ?_⟩
  obtain ⟨l', q1, q2, q3⟩ := B.rep
  have keep : ∀ b o, (F b ∨ b ∈ L ++ m2) → H b = some o → H' b = some o := fun b o z q => by
    refine B.fr b o q fun z' => ?_
    rcases z with z | z
    · exact (h4 b (List.mem_append_right _ (List.mem_append_left _ z'))).1 z
    · rcases List.mem_append.mp z with z | z
      · exact nd.2.2 b z b (List.mem_append_left _ z') rfl
      · exact nd2.2.2 b z' b z rfl
  have hLd : ∀ a ∈ L ++ m2, H a ≠ none := fun a z => (List.mem_append.mp z).elim (h1.dom a) (r2.dom a)
  have hLF : ∀ a ∈ L ++ m2, ¬ F a ∧ (a ∈ c.A0 ∨ c.H0 a = none) := fun a z => h4 a ((List.mem_append.mp z).elim (fun z => List.mem_append_left _ z) fun z => List.mem_append_right _ (List.mem_append_right _ z))
  have hm1 : ∀ a ∈ m1, ¬ F a ∧ (a ∈ c.A0 ∨ c.H0 a = none) := fun a z => h4 a (List.mem_append_right _ (List.mem_append_left _ z))
  have hdis : ∀ a ∈ L ++ m2, a ∉ m1 := fun a z z' => by
    rcases List.mem_append.mp z with z | z
    · exact nd.2.2 a z a (List.mem_append_left _ z') rfl
    · exact nd2.2.2 a z' a z rfl
  have hH0 : ∀ a, H a = none → c.H0 a = none := fun a z => by
    cases q : c.H0 a with
    | none => rfl
    | some o => exact absurd z (k.gr a (by rw [q]; exact fun z => nomatch z))
  have s1 : Slots K F' H' σ (DL.kill ρ) L := h1.frameK B.sub fun b o z q => keep b o (z.imp id (List.mem_append_left _)) q
  have r2' : Rps K F' H' τ θ m2 := r2.frame B.sub fun b o z q => keep b o (z.imp id (List.mem_append_right _)) q
  have hnew : ∀ a ∈ L ++ m2, a ∉ l' := fun a z z' => by
    rcases (q3 a z').2 with q | q
    · exact hdis a z q
    · exact hLd a z q
  refine ⟨⟨L, l' ++ m2, s1, q1.append r2', ?_, fun a z => ?_⟩, B.dom, fun a f => ?_, fun a f => B.sub a (k.sub a f), fun a o q n => ?_, fun a q => B.gr a (k.gr a q), k.pin⟩
  · refine List.nodup_append.mpr ⟨nd.1, List.nodup_append.mpr ⟨q2, nd2.2.1, fun x hx y hy e => hnew y (List.mem_append_right _ hy) (e ▸ hx)⟩, fun x hx y hy e => ?_⟩
    subst e
    rcases List.mem_append.mp hy with hy | hy
    · exact hnew x (List.mem_append_left _ hx) hy
    · exact nd.2.2 x hx x (List.mem_append_right _ hy) rfl
  · have hz : a ∈ L ++ m2 ∨ a ∈ l' := by
      rcases List.mem_append.mp z with z | z
      · exact .inl (List.mem_append_left _ z)
      · rcases List.mem_append.mp z with z | z
        · exact .inr z
        · exact .inl (List.mem_append_right _ z)
    rcases hz with z | z
    · refine ⟨fun f => ?_, (hLF a z).2⟩
      rcases B.new a f with f | f | f
      · exact (hLF a z).1 f
      · exact hLd a z f
      · exact hdis a z f
    · refine ⟨(q3 a z).1, ?_⟩
      rcases (q3 a z).2 with q | q
      · exact (hm1 a q).2
      · exact .inr (hH0 a q)
  · rcases B.new a f with f | f | f
    · exact k.new a f
    · exact .inr (.inl (hH0 a f))
    · rcases (hm1 a f).2 with q | q
      · exact .inr (.inr q)
      · exact .inr (.inl q)
  · refine B.fr a o (k.fr a o q n) fun z => ?_
    rcases (hm1 a z).2 with q' | q'
    · exact n q'
    · rw [q'] at q
      cases q
/-- .. where all arguments are frozen nothing is forgotten -/
theorem Ok.callF {vs : List V} {ds : List D} (k : Ok K c F H σ ρ τ θ) (hr : Rps K F H vs ds []) : Give K F H [] vs ds ∧
    ∀ (F' : Addr → Prop) (H' : Hp) (ws : List V) (es : List D), Back K F H [] F' H' ws es → Same H H' ∧ Ok K c F' H' σ ρ (ws ++ τ) (es ++ θ) := by
  refine ⟨⟨hr, List.nodup_nil, fun _ z => (nomatch z), k.dom⟩, fun F' H' ws es B => ?_⟩
  have s : Same H H' := fun a o q => B.fr a o q (fun z => nomatch z)
  refine ⟨s, ?_⟩
  obtain ⟨L, m, h1, h2, h3, h4⟩ := k.rep
  obtain ⟨l', q1, q2, q3⟩ := B.rep
  have hd : ∀ a ∈ L ++ m, H a ≠ none := fun a z => (List.mem_append.mp z).elim (h1.dom a) (h2.dom a)
  have hH0 : ∀ a, H a = none → c.H0 a = none := fun a z => by
    cases q : c.H0 a with
    | none => rfl
    | some o => exact absurd z (k.gr a (by rw [q]; exact fun z => nomatch z))
  have hn : ∀ a ∈ l', H a = none := fun a z => (q3 a z).2.elim (fun z => nomatch z) id
  have nd := List.nodup_append.mp h3
  refine ⟨⟨L, l' ++ m, h1.frameS B.sub s, q1.append (h2.frame B.sub fun a o _ e => s a o e), ?_, fun a z => ?_⟩, B.dom, fun a f => ?_, fun a f => B.sub a (k.sub a f), fun a o q n => s a o (k.fr a o q n), fun a q => B.gr a (k.gr a q), k.pin⟩
  · refine List.nodup_append.mpr ⟨nd.1, List.nodup_append.mpr ⟨q2, nd.2.1, fun x hx y hy e => hd y (List.mem_append_right _ hy) (e ▸ hn x hx)⟩, fun x hx y hy e => ?_⟩
    subst e
    rcases List.mem_append.mp hy with hy | hy
    · exact hd x (List.mem_append_left _ hx) (hn x hy)
    · exact nd.2.2 x hx x hy rfl
  · have hz : a ∈ L ++ m ∨ a ∈ l' := by
      rcases List.mem_append.mp z with z | z
      · exact .inl (List.mem_append_left _ z)
      · rcases List.mem_append.mp z with z | z
        · exact .inr z
        · exact .inl (List.mem_append_right _ z)
    rcases hz with z | z
    · refine ⟨fun f => ?_, (h4 a z).2⟩
      rcases B.new a f with f | f | f
      · exact (h4 a z).1 f
      · exact hd a z f
      · cases f
    · exact ⟨(q3 a z).1, .inr (hH0 a (hn a z))⟩
  · rcases B.new a f with f | f | f
    · exact k.new a f
    · exact .inr (.inl (hH0 a f))
    · cases f
end

/-- only new things were laid, only new things were frozen -/
structure Ext (F : Addr → Prop) (H : Hp) (F' : Addr → Prop) (H' : Hp) : Prop where
  sub : ∀ a, F a → F' a
  new : ∀ a, F' a → F a ∨ H a = none
  same : Same H H'
theorem Ext.refl {F : Addr → Prop} {H : Hp} : Ext F H F H := ⟨fun _ z => z, fun _ z => .inl z, .refl _⟩
theorem Ext.trans {F F1 F2 : Addr → Prop} {H H1 H2 : Hp} (x : Ext F H F1 H1) (y : Ext F1 H1 F2 H2) : Ext F H F2 H2 :=
  ⟨fun a z => y.sub a (x.sub a z), fun a z => (y.new a z).elim (x.new a) fun q => .inr (x.same.free q), x.same.trans y.same⟩
theorem Ext.rp {K : PySem.W.Frag} {F F' : Addr → Prop} {H H' : Hp} (x : Ext F H F' H') {v : V} {d : D} {l : List Addr} (r : Rp K F H v d l) : Rp K F' H' v d l := r.frame x.sub fun a o _ e => x.same a o e
theorem Ext.rps {K : PySem.W.Frag} {F F' : Addr → Prop} {H H' : Hp} (x : Ext F H F' H') {v : List V} {d : List D} {l : List Addr} (r : Rps K F H v d l) : Rps K F' H' v d l := r.frame x.sub fun a o _ e => x.same a o e
theorem Ok.grow {K : PySem.W.Frag} {c : Cn} {F F' : Addr → Prop} {H H' : Hp} {σ : L2.St} {ρ : Rho} {τ : List V} {θ : List D} (k : Ok K c F H σ ρ τ θ) (x : Ext F H F' H') (dom : ∀ a, F' a → H' a ≠ none) : Ok K c F' H' σ ρ τ θ := by
  obtain ⟨l, m, h1, h2, h3, h4⟩ := k.rep
  have hd : ∀ a ∈ l ++ m, H a ≠ none := fun a z => (List.mem_append.mp z).elim (h1.dom a) (h2.dom a)
  have hH0 : ∀ a, H a = none → c.H0 a = none := fun a z => by
    cases q : c.H0 a with
    | none => rfl
    | some o => exact absurd z (k.gr a (by rw [q]; exact fun z => nomatch z))
  refine ⟨⟨l, m, h1.frameS x.sub x.same, x.rps h2, h3, fun a z => ⟨fun f => (x.new a f).elim (h4 a z).1 (hd a z), (h4 a z).2⟩⟩, dom, fun a f => ?_, fun a f => x.sub a (k.sub a f), fun a o e n => x.same _ _ (k.fr a o e n), fun a e z => k.gr a e (x.same.free z), k.pin⟩
  rcases x.new a f with f | f
  · exact k.new a f
  · exact .inr (.inl (hH0 a f))
theorem Slots.unkill {K : PySem.W.Frag} {F : Addr → Prop} {H : Hp} : ∀ {σ : L2.St} {ρ : Rho} {L : List Addr}, Slots K F H σ (DL.kill ρ) L → (∀ (i : Nat) (d : D), ρ[i]? = some (some (true, d)) → ∃ v l, σ[i]? = some (some v) ∧ Rp K F H v d l) → Slots K F H σ ρ L
  | _, [], _, .nil, _ => .nil
  | _, none :: ρ, _, .un h, q => .un (h.unkill fun i d e => q (i + 1) d e)
  | _, some (true, d) :: ρ, _, .un h, q => by
    obtain ⟨v, l, h1, h2⟩ := q 0 d rfl
    cases h1
    exact .vw h2 (h.unkill fun i d e => q (i + 1) d e)
  | _, some (false, d) :: ρ, _, .ow r h, q => .ow r (h.unkill fun i d e => q (i + 1) d e)
theorem Ok.unkill {K : PySem.W.Frag} {c : Cn} {F : Addr → Prop} {H : Hp} {σ : L2.St} {ρ : Rho} {τ : List V} {θ : List D} (k : Ok K c F H σ (DL.kill ρ) τ θ) (q : ∀ (i : Nat) (d : D), ρ[i]? = some (some (true, d)) → ∃ v l, σ[i]? = some (some v) ∧ Rp K F H v d l) : Ok K c F H σ ρ τ θ := by
  obtain ⟨l, m, h1, h2, h3, h4⟩ := k.rep
  exact ⟨⟨l, m, h1.unkill q, h2, h3, h4⟩, k.dom, k.new, k.sub, k.fr, k.gr, k.pin⟩
/-- a new value comes to the temporaries -/
theorem Ok.pushN {K : PySem.W.Frag} {c : Cn} {F F' : Addr → Prop} {H H' : Hp} {σ : L2.St} {ρ : Rho} {τ : List V} {θ : List D} {v : V} {d : D} {l0 : List Addr} (k : Ok K c F H σ ρ τ θ) (x : Ext F H F' H') (dom : ∀ a, F' a → H' a ≠ none)
    (r : Rp K F' H' v d l0) (nd : l0.Nodup) (nw : ∀ a ∈ l0, ¬ F' a ∧ H a = none) : Ok K c F' H' σ ρ (v :: τ) (d :: θ) := by
  have k' := k.grow x dom
  obtain ⟨l, m, h1, h2, h3, h4⟩ := k.rep
  have hd : ∀ a ∈ l ++ m, H a ≠ none := fun a z => (List.mem_append.mp z).elim (h1.dom a) (h2.dom a)
  have hH0 : ∀ a, H a = none → c.H0 a = none := fun a z => by
    cases q : c.H0 a with
    | none => rfl
    | some o => exact absurd z (k.gr a (by rw [q]; exact fun z => nomatch z))
  have pp : (l ++ (l0 ++ m)).Perm (l0 ++ (l ++ m)) := by
    rw [← List.append_assoc, ← List.append_assoc]
    exact List.perm_append_comm.append_right m
  refine ⟨⟨l, l0 ++ m, h1.frameS x.sub x.same, .cons r (x.rps h2), ?_, fun a z => ?_⟩, dom, k'.new, k'.sub, k'.fr, k'.gr, k'.pin⟩
  · rw [pp.nodup_iff]
    exact List.nodup_append.mpr ⟨nd, h3, fun a ha b hb e => hd b hb (e ▸ (nw a ha).2)⟩
  · rcases List.mem_append.mp (pp.mem_iff.mp z) with z | z
    · exact ⟨(nw a z).1, .inr (hH0 a (nw a z).2)⟩
    · exact ⟨fun f => (x.new a f).elim (h4 a z).1 (hd a z), (h4 a z).2⟩
end DL

set_option Elab.async false
set_option linter.all false
set_option maxRecDepth 100000
set_option maxHeartbeats 4000000
/-! DLC: what an expression, a test, a statement denotes. -/
namespace DL
open PySem PySem.Spec PyProof.Rows L2

/-- a result with the slots behind it, or an exception (class, fields) -/
inductive Rs (α : Type) where
  | ok (a : α) (ρ : Rho) | ex (C : Addr) (fs : List (Str × D)) (ρ : Rho)
/-- .. where the slots stay -/
inductive Xs (α : Type) where
  | ok (a : α) | ex (C : Addr) (fs : List (Str × D))
inductive Out where
  | nx (ρ : Rho) | ret (d : D) (ρ : Rho) | brk (ρ : Rho) | cnt (ρ : Rho) | ex (C : Addr) (fs : List (Str × D)) (ρ : Rho)
/-- an exception's own dict -/
def XRep (K : PySem.W.Frag) (F : Addr → Prop) (H : Hp) : Option Addr → List (Str × D) → Prop
  | none, fs => fs = []
  | some q, fs => ∃ fvs : List (Str × V), H q = some (.xd fvs) ∧ fvs.map (·.1) = fs.map (·.1) ∧ Rps K F H (fvs.map (·.2)) (fs.map (·.2)) []

/-- a look: it changes nothing -/
structure DV (X : Cx) (e : Expr) (g : Rho → Option D) : Prop where
  ex : ∃ t, PE X e t ∧ ∀ (c : Cn) (F : Addr → Prop) (H : Hp) (σ : L2.St) (ρ : Rho) (τ : List V) (θ : List D) (Q : VK) (d : D), Ok X.K c F H σ ρ τ θ → g ρ = some d →
    (∀ (F' : Addr → Prop) (H' : Hp) (v : V) (l : List Addr), Ext F H F' H' → Ok X.K c F' H' σ ρ τ θ → Rp X.K F' H' v d l → Q v H') → t σ H Q
/-- a new value, owned by who asks; nothing else changes -/
structure DN (X : Cx) (W : WX) (e : Expr) (g : Rho → Option (Xs D)) : Prop where
  ex : ∃ t, PE X e t ∧ ∀ (c : Cn) (F : Addr → Prop) (H : Hp) (σ : L2.St) (ρ : Rho) (τ : List V) (θ : List D) (Q : VK) (r : Xs D), Ok X.K c F H σ ρ τ θ → g ρ = some r →
    (∀ d, r = .ok d → ∀ (F' : Addr → Prop) (H' : Hp) (v : V) (l : List Addr), Ext F H F' H' → Ok X.K c F' H' σ ρ τ θ → Rp X.K F' H' v d l → l.Nodup → (∀ a ∈ l, ¬ F' a ∧ H a = none) → Q v H') →
    (∀ C fs, r = .ex C fs → ∀ (F' : Addr → Prop) (H' : Hp) (q : Option Addr), Ext F H F' H' → Ok X.K c F' H' σ ρ τ θ → XRep X.K F' H' q fs → W (.ref C) q σ H') → t σ H Q
/-- any expression -/
structure DE (X : Cx) (W : WX) (e : Expr) (g : Rho → Option (Rs D)) : Prop where
  ex : ∃ t, PE X e t ∧ ∀ (c : Cn) (F : Addr → Prop) (H : Hp) (σ : L2.St) (ρ : Rho) (τ : List V) (θ : List D) (Q : VK) (r : Rs D), Ok X.K c F H σ ρ τ θ → g ρ = some r →
    (∀ d ρ', r = .ok d ρ' → ∀ (F' : Addr → Prop) (H' : Hp) (v : V), (∀ a, F a → F' a) → Ok X.K c F' H' σ ρ' (v :: τ) (d :: θ) → Q v H') →
    (∀ C fs ρ', r = .ex C fs ρ' → ∀ (F' : Addr → Prop) (H' : Hp) (q : Option Addr), (∀ a, F a → F' a) → Ok X.K c F' H' σ ρ' τ θ → XRep X.K F' H' q fs → W (.ref C) q σ H') → t σ H Q
/-- a test -/
structure DT (X : Cx) (e : Expr) (g : Rho → Option Bool) : Prop where
  ex : ∃ t, PT X e t ∧ ∀ (c : Cn) (F : Addr → Prop) (H : Hp) (σ : L2.St) (ρ : Rho) (τ : List V) (θ : List D) (Q : Bool → Hp → Prop) (b : Bool), Ok X.K c F H σ ρ τ θ → g ρ = some b →
    (∀ (F' : Addr → Prop) (H' : Hp), Ext F H F' H' → Ok X.K c F' H' σ ρ τ θ → Q b H') → t σ H Q
structure DTE (X : Cx) (W : WX) (e : Expr) (g : Rho → Option (Rs Bool)) : Prop where
  ex : ∃ t, PT X e t ∧ ∀ (c : Cn) (F : Addr → Prop) (H : Hp) (σ : L2.St) (ρ : Rho) (τ : List V) (θ : List D) (Q : Bool → Hp → Prop) (r : Rs Bool), Ok X.K c F H σ ρ τ θ → g ρ = some r →
    (∀ b ρ', r = .ok b ρ' → ∀ (F' : Addr → Prop) (H' : Hp), (∀ a, F a → F' a) → Ok X.K c F' H' σ ρ' τ θ → Q b H') →
    (∀ C fs ρ', r = .ex C fs ρ' → ∀ (F' : Addr → Prop) (H' : Hp) (q : Option Addr), (∀ a, F a → F' a) → Ok X.K c F' H' σ ρ' τ θ → XRep X.K F' H' q fs → W (.ref C) q σ H') → t σ H Q
/-- tests that and, or put in a row -/
structure DW (X : Cx) (e : Expr) (g : Rho → Option Bool) : Prop where
  ex : ∃ t, PW X e t ∧ ∀ (c : Cn) (F : Addr → Prop) (H : Hp) (σ : L2.St) (ρ : Rho) (τ : List V) (θ : List D) (Q : Bool → Hp → Prop) (b : Bool), Ok X.K c F H σ ρ τ θ → g ρ = some b →
    (∀ (F' : Addr → Prop) (H' : Hp), Ext F H F' H' → Ok X.K c F' H' σ ρ τ θ → Q b H') → t σ H Q
structure DWE (X : Cx) (W : WX) (e : Expr) (g : Rho → Option (Rs Bool)) : Prop where
  ex : ∃ t, PW X e t ∧ ∀ (c : Cn) (F : Addr → Prop) (H : Hp) (σ : L2.St) (ρ : Rho) (τ : List V) (θ : List D) (Q : Bool → Hp → Prop) (r : Rs Bool), Ok X.K c F H σ ρ τ θ → g ρ = some r →
    (∀ b ρ', r = .ok b ρ' → ∀ (F' : Addr → Prop) (H' : Hp), (∀ a, F a → F' a) → Ok X.K c F' H' σ ρ' τ θ → Q b H') →
    (∀ C fs ρ', r = .ex C fs ρ' → ∀ (F' : Addr → Prop) (H' : Hp) (q : Option Addr), (∀ a, F a → F' a) → Ok X.K c F' H' σ ρ' τ θ → XRep X.K F' H' q fs → W (.ref C) q σ H') → t σ H Q
/-- arguments that are looks -/
structure DVs (X : Cx) (es : List Expr) (g : Rho → Option (List D)) : Prop where
  ex : ∃ t, PA X es t ∧ ∀ (c : Cn) (F : Addr → Prop) (H : Hp) (σ : L2.St) (ρ : Rho) (τ : List V) (θ : List D) (Q : List V → Hp → Prop) (ds : List D), Ok X.K c F H σ ρ τ θ → g ρ = some ds →
    (∀ (F' : Addr → Prop) (H' : Hp) (vs : List V) (l : List Addr), Ext F H F' H' → Ok X.K c F' H' σ ρ τ θ → Rps X.K F' H' vs ds l → Q vs H') → t σ H Q
/-- which arguments are slots lent out -/
inductive Argd (σ : L2.St) : List (Option Nat) → List V → List V → Prop
  | nil : Argd σ [] [] []
  | val {b : List (Option Nat)} {v : V} {vs ws : List V} : Argd σ b vs ws → Argd σ (none :: b) (v :: vs) (v :: ws)
  | slot {b : List (Option Nat)} {i : Nat} {v : V} {vs ws : List V} : σ[i]? = some (some v) → Argd σ b vs ws → Argd σ (some i :: b) (v :: vs) ws
/-- any arguments: values (they come to the temporaries) and slots lent -/
structure DEs (X : Cx) (W : WX) (es : List Expr) (bk : List (Option Nat)) (g : Rho → Option (Rs (List D))) : Prop where
  ex : ∃ t, PA X es t ∧ ∀ (c : Cn) (F : Addr → Prop) (H : Hp) (σ : L2.St) (ρ : Rho) (τ : List V) (θ : List D) (Q : List V → Hp → Prop) (r : Rs (List D)), Ok X.K c F H σ ρ τ θ → g ρ = some r →
    (∀ ds ρ', r = .ok ds ρ' → ∀ (F' : Addr → Prop) (H' : Hp) (vs ws : List V), (∀ a, F a → F' a) → Argd σ bk vs ws → ws.length = ds.length → Ok X.K c F' H' σ ρ' (ws ++ τ) (ds ++ θ) → Q vs H') →
    (∀ C fs ρ', r = .ex C fs ρ' → ∀ (F' : Addr → Prop) (H' : Hp) (q : Option Addr), (∀ a, F a → F' a) → Ok X.K c F' H' σ ρ' τ θ → XRep X.K F' H' q fs → W (.ref C) q σ H') → t σ H Q

/-- what a statement's ends want -/
def Post (K : PySem.W.Frag) (c : Cn) (F : Addr → Prop) (W : WX) (D0 : Ends) (τ : List V) (θ : List D) : Out → Prop
  | .nx ρ => ∀ (F' : Addr → Prop) (H' : Hp) (σ' : L2.St), (∀ a, F a → F' a) → Ok K c F' H' σ' ρ τ θ → D0.nx σ' H'
  | .brk ρ => ∀ (F' : Addr → Prop) (H' : Hp) (σ' : L2.St), (∀ a, F a → F' a) → Ok K c F' H' σ' ρ τ θ → D0.bk σ' H'
  | .cnt ρ => ∀ (F' : Addr → Prop) (H' : Hp) (σ' : L2.St), (∀ a, F a → F' a) → Ok K c F' H' σ' ρ τ θ → D0.ct σ' H'
  | .ret d ρ => ∀ (F' : Addr → Prop) (H' : Hp) (σ' : L2.St) (v : V), (∀ a, F a → F' a) → Ok K c F' H' σ' ρ (v :: τ) (d :: θ) → D0.rt v H'
  | .ex C fs ρ => ∀ (F' : Addr → Prop) (H' : Hp) (σ' : L2.St) (q : Option Addr), (∀ a, F a → F' a) → Ok K c F' H' σ' ρ τ θ → XRep K F' H' q fs → W (.ref C) q σ' H'
/-- a statement; P: the slots that it must not set -/
structure DS (X : Cx) (W : WX) (P : List Nat) (st : Stmt) (g : Rho → Option Out) : Prop where
  ex : ∃ t, PS X st t ∧ ∀ (c : Cn) (F : Addr → Prop) (H : Hp) (σ : L2.St) (ρ : Rho) (τ : List V) (θ : List D) (D0 : Ends) (o : Out), (∀ p ∈ c.pin, p.1 ∈ P) → Ok X.K c F H σ ρ τ θ → g ρ = some o → Post X.K c F W D0 τ θ o → t D0 σ H
structure DSs (X : Cx) (W : WX) (P : List Nat) (sts : List Stmt) (g : Rho → Option Out) : Prop where
  ex : ∃ t, PSs X sts t ∧ ∀ (c : Cn) (F : Addr → Prop) (H : Hp) (σ : L2.St) (ρ : Rho) (τ : List V) (θ : List D) (D0 : Ends) (o : Out), (∀ p ∈ c.pin, p.1 ∈ P) → Ok X.K c F H σ ρ τ θ → g ρ = some o → Post X.K c F W D0 τ θ o → t D0 σ H

/-! ### from one to the other -/
def fzO (d : D) : Option D := if isFz d = true then some d else none
theorem fzO_some {d e : D} (h : fzO d = some e) : e = d ∧ isFz d = true := by
  unfold fzO at h
  split at h
  · rename_i q
    cases h
    exact ⟨rfl, q⟩
  · cases h
def vE (g : Rho → Option D) : Rho → Option (Rs D) := fun ρ => (g ρ).bind fun d => (fzO d).map fun d => .ok d ρ
def nE (g : Rho → Option (Xs D)) : Rho → Option (Rs D) := fun ρ => (g ρ).map fun
  | .ok d => .ok d ρ
  | .ex C fs => .ex C fs ρ
def nV (g : Rho → Option (Xs D)) : Rho → Option D := fun ρ => (g ρ).bind fun
  | .ok d => some d
  | .ex _ _ => none
def vN (g : Rho → Option D) : Rho → Option (Xs D) := fun ρ => (g ρ).bind fun d => (fzO d).map .ok
section
variable {X : Cx} {W : WX} {e : Expr}
theorem DV.toN {g : Rho → Option D} (h : DV X e g) : DN X W e (vN g) := by
  obtain ⟨t, h1, h2⟩ := h.ex
  refine ⟨t, h1, fun c F H σ ρ τ θ Q r k e0 q1 q2 => ?_⟩
  unfold vN at e0
  cases e1 : g ρ with
  | none => rw [e1] at e0; cases e0
  | some d =>
    rw [e1] at e0
    cases e2 : fzO d with
    | none => rw [Option.bind_some, e2] at e0; cases e0
    | some d' =>
      rw [Option.bind_some, e2] at e0
      cases e0
      obtain ⟨rfl, z⟩ := fzO_some e2
      refine h2 c F H σ ρ τ θ Q _ k e1 fun F' H' v l hF k' r' => ?_
      have e3 := r'.isFz z
      subst e3
      exact q1 _ rfl F' H' v [] hF k' r' List.nodup_nil fun _ z => nomatch z
theorem DN.toE {g : Rho → Option (Xs D)} (h : DN X W e g) : DE X W e (nE g) := by
  obtain ⟨t, h1, h2⟩ := h.ex
  refine ⟨t, h1, fun c F H σ ρ τ θ Q r k e0 q1 q2 => ?_⟩
  unfold nE at e0
  cases e1 : g ρ with
  | none => rw [e1] at e0; cases e0
  | some x =>
    rw [e1] at e0
    refine h2 c F H σ ρ τ θ Q x k e1 (fun d z F' H' v l hF k' r nd nw => ?_) fun C fs z F' H' q hF k' x' => ?_
    · subst z
      cases e0
      exact q1 _ _ rfl F' H' v hF.sub (k.pushN hF k'.dom r nd nw)
    · subst z
      cases e0
      exact q2 _ _ _ rfl F' H' q hF.sub k' x'
theorem DN.toV {g : Rho → Option (Xs D)} (h : DN X (fun _ _ _ _ => False) e g) : DV X e (nV g) := by
  obtain ⟨t, h1, h2⟩ := h.ex
  refine ⟨t, h1, fun c F H σ ρ τ θ Q d k e0 q1 => ?_⟩
  unfold nV at e0
  cases e1 : g ρ with
  | none => rw [e1] at e0; cases e0
  | some x =>
    rw [e1] at e0
    refine h2 c F H σ ρ τ θ Q x k e1 (fun d z F' H' v l hF k' r nd nw => ?_) fun C fs z F' H' q hF k' x' => ?_
    · subst z
      cases e0
      exact q1 F' H' v l hF k' r
    · subst z
      cases e0
theorem DV.toE {g : Rho → Option D} (h : DV X e g) : DE X W e (nE (vN g)) := h.toN.toE
def tE (g : Rho → Option Bool) : Rho → Option (Rs Bool) := fun ρ => (g ρ).map fun b => .ok b ρ
theorem DT.toE {g : Rho → Option Bool} (h : DT X e g) : DTE X W e (tE g) := by
  obtain ⟨t, h1, h2⟩ := h.ex
  refine ⟨t, h1, fun c F H σ ρ τ θ Q r k e0 q1 q2 => ?_⟩
  unfold tE at e0
  cases e1 : g ρ with
  | none => rw [e1] at e0; cases e0
  | some x =>
    rw [e1] at e0
    cases e0
    exact h2 c F H σ ρ τ θ Q x k e1 fun F' H' hF k' => q1 _ _ rfl F' H' hF.sub k'
theorem DW.toT {g : Rho → Option Bool} (h : DW X e g) : DT X e g := by
  obtain ⟨t, h1, h2⟩ := h.ex
  exact ⟨t, h1.pt, h2⟩
theorem DWE.toT {g : Rho → Option (Rs Bool)} (h : DWE X W e g) : DTE X W e g := by
  obtain ⟨t, h1, h2⟩ := h.ex
  exact ⟨t, h1.pt, h2⟩
end

/-! ### names and constants -/
def gK (d : D) : Rho → Option D := fun _ => some d
def gVar (i : Nat) : Rho → Option D := fun ρ => (ρ[i]?).bind fun s => s.map (·.2)
/-- the slot gives its value away -/
def gMove (i : Nat) : Rho → Option (Rs D) := fun ρ => match ρ[i]? with
  | some (some (false, d)) => some (.ok d (ρ.set i none))
  | _ => none
/-- the slot's value is frozen -/
def gFrz (i : Nat) : Rho → Option (Rs D) := fun ρ => match ρ[i]? with
  | some (some (false, d)) => some (.ok (fz d) (ρ.set i (some (false, fz d))))
  | _ => none
section
variable {X : Cx} {W : WX} {pos : Pos}
theorem dv_k {e : Expr} {v : V} {d : D} (h : PE X e (tC v)) (r : ∀ (F : Addr → Prop) (H : Hp), Rp X.K F H v d []) : DV X e (gK d) :=
  ⟨_, h, fun c F H σ ρ τ θ Q d' k e0 q => by
    cases e0
    exact q F H v [] (.refl) k (r F H)⟩
theorem dv_int {i : Int} {j : Nat} : DV X (.Constant (.int i) j pos) (gK (.int i)) := dv_k pe_int fun _ _ => .int i
theorem dv_bl {b : Bool} {j : Nat} : DV X (.Constant (.bool b) j pos) (gK (.bl b)) := dv_k pe_bl fun _ _ => .bl b
theorem dv_non {j : Nat} : DV X (.Constant .none j pos) (gK .non) := dv_k pe_non fun _ _ => .non
theorem dv_str {x : Str} {j : Nat} : DV X (.Constant (.str x) j pos) (gK (.str x)) := dv_k pe_str fun _ _ => .str x
theorem dv_var (i : Nat) {x : Str} (hN : X.N[i]? = some x := by rfl) (hv : Vis X.env.scope x := by first | exact Or.inl rfl | exact Or.inr (Or.inl rfl) | exact Or.inr (Or.inr rfl)) (hd : (x == ("__debug__" : Str)) = false := by decide)
    (hcd : (x == ("__classdict__" : Str)) = false := by decide) : DV X (.Name x pos) (gVar i) := by
  refine ⟨_, pe_var hN hv hd hcd, fun c F H σ ρ τ θ Q d k e0 q => ?_⟩
  unfold gVar at e0
  cases e1 : ρ[i]? with
  | none => rw [e1] at e0; cases e0
  | some s =>
    rw [e1] at e0
    cases s with
    | none => cases e0
    | some p =>
      obtain ⟨b, d'⟩ := p
      cases e0
      obtain ⟨v, l, h1, h2⟩ := k.get e1
      exact ⟨v, h1, q F H v l (.refl) k h2⟩
theorem de_move (i : Nat) {x : Str} (hN : X.N[i]? = some x := by rfl) (hv : Vis X.env.scope x := by first | exact Or.inl rfl | exact Or.inr (Or.inl rfl) | exact Or.inr (Or.inr rfl)) (hd : (x == ("__debug__" : Str)) = false := by decide)
    (hcd : (x == ("__classdict__" : Str)) = false := by decide) : DE X W (.Name x pos) (gMove i) := by
  refine ⟨_, pe_var hN hv hd hcd, fun c F H σ ρ τ θ Q r k e0 q1 q2 => ?_⟩
  unfold gMove at e0
  split at e0
  · rename_i d e1
    cases e0
    obtain ⟨v, l, h1, h2⟩ := k.get e1
    exact ⟨v, h1, q1 _ _ rfl F H v (fun _ z => z) (k.move e1 h1)⟩
  · cases e0
theorem de_frz (i : Nat) {x : Str} (hN : X.N[i]? = some x := by rfl) (hv : Vis X.env.scope x := by first | exact Or.inl rfl | exact Or.inr (Or.inl rfl) | exact Or.inr (Or.inr rfl)) (hd : (x == ("__debug__" : Str)) = false := by decide)
    (hcd : (x == ("__classdict__" : Str)) = false := by decide) : DE X W (.Name x pos) (gFrz i) := by
  refine ⟨_, pe_var hN hv hd hcd, fun c F H σ ρ τ θ Q r k e0 q1 q2 => ?_⟩
  unfold gFrz at e0
  split at e0
  · rename_i d e1
    cases e0
    obtain ⟨v, l, h1, h2⟩ := k.get e1
    obtain ⟨F', hF, r, k'⟩ := (k.move e1 h1).freezeTop
    refine ⟨v, h1, q1 _ _ rfl F' H v hF ?_⟩
    have k2 := ((k'.push0 r).back h1).push0 r
    rw [List.set_set] at k2
    exact k2
  · cases e0
theorem dv_glob {x : Str} {v : V} {d : D} (hg : Gl X x) (hm : ∃ u, X.mg x = some u ∧ RelV v u) (r : ∀ (F : Addr → Prop) (H : Hp), Rp X.K F H v d []) (hd : (x == ("__debug__" : Str)) = false := by decide) : DV X (.Name x pos) (gK d) := by
  obtain ⟨u, h1, h2⟩ := hm
  exact dv_k (pe_glob hg h1 h2 hd) r
end

/-! ### operators -/
/-- an operator by values, nothing is laid -/
def VOp1 (K : PySem.W.Frag) (r : V → Hp → VK → Prop) (f : D → Option D) : Prop := ∀ (F : Addr → Prop) (H : Hp) (x : V) (d1 d : D) (l1 : List Addr) (Q : VK), Rp K F H x d1 l1 → f d1 = some d → (∀ v l, Rp K F H v d l → Q v H) → r x H Q
def VOp2 (K : PySem.W.Frag) (r : R2) (f : D → D → Option D) : Prop := ∀ (F : Addr → Prop) (H : Hp) (x y : V) (d1 d2 d : D) (l1 l2 : List Addr) (Q : VK), Rp K F H x d1 l1 → Rp K F H y d2 l2 → f d1 d2 = some d → (∀ v l, Rp K F H v d l → Q v H) → r x y H Q
def VOpN (K : PySem.W.Frag) (r : List V → Hp → VK → Prop) (f : List D → Option D) : Prop := ∀ (F : Addr → Prop) (H : Hp) (vs : List V) (ds : List D) (d : D) (l : List Addr) (Q : VK), Rps K F H vs ds l → f ds = some d → (∀ v l, Rp K F H v d l → Q v H) → r vs H Q
/-- .. a new list of these items -/
def VNew2 (K : PySem.W.Frag) (r : R2) (f : D → D → Option (List D)) : Prop := ∀ (F : Addr → Prop) (H : Hp) (x y : V) (d1 d2 : D) (ds : List D) (l1 l2 : List Addr) (Q : VK), Rp K F H x d1 l1 → Rp K F H y d2 l2 → f d1 d2 = some ds → (∀ vs l, Rps K F H vs ds l → ∀ p, H p = none → Q (.ref p) (upd H p (.lst vs))) → r x y H Q
def VNewN (K : PySem.W.Frag) (r : List V → Hp → VK → Prop) (f : List D → Option (List D)) : Prop := ∀ (F : Addr → Prop) (H : Hp) (vs : List V) (ds es : List D) (l : List Addr) (Q : VK), Rps K F H vs ds l → f ds = some es → (∀ vs l, Rps K F H vs es l → ∀ p, H p = none → Q (.ref p) (upd H p (.lst vs))) → r vs H Q
/-- .. a new tuple of these items -/
def VTup2 (K : PySem.W.Frag) (r : R2) (f : D → D → Option (List D)) : Prop := ∀ (F : Addr → Prop) (H : Hp) (x y : V) (d1 d2 : D) (ds : List D) (l1 l2 : List Addr) (Q : VK), Rp K F H x d1 l1 → Rp K F H y d2 l2 → f d1 d2 = some ds → (∀ vs l, Rps K F H vs ds l → (∀ p, H p = none → Q (.ref p) (upd H p (.tup vs)))) → (∀ v l, Rp K F H v (.tup ds) l → Q v H) → r x y H Q
def VTupN (K : PySem.W.Frag) (r : List V → Hp → VK → Prop) (f : List D → Option (List D)) : Prop := ∀ (F : Addr → Prop) (H : Hp) (vs : List V) (ds es : List D) (l : List Addr) (Q : VK), Rps K F H vs ds l → f ds = some es → (∀ vs l, Rps K F H vs es l → (∀ p, H p = none → Q (.ref p) (upd H p (.tup vs)))) → (∀ v l, Rp K F H v (.tup es) l → Q v H) → r vs H Q

def gOp1 (f : D → Option D) (ga : Rho → Option D) : Rho → Option D := fun ρ => (ga ρ).bind f
def gOp2 {α : Type} (f : D → D → Option α) (ga gb : Rho → Option D) : Rho → Option α := fun ρ => (ga ρ).bind fun x => (gb ρ).bind fun y => f x y
/-- the results one after another -/
def rsB {α β : Type} (a : Option (Rs α)) (f : α → Rho → Option (Rs β)) : Option (Rs β) := a.bind fun
  | .ok x ρ => f x ρ
  | .ex C fs ρ => some (.ex C fs ρ)
def eOp1 (f : D → Option D) (ga : Rho → Option (Rs D)) : Rho → Option (Rs D) := fun ρ => rsB (ga ρ) fun x ρ1 => (f x).bind fun d => (fzO d).map fun d => .ok d ρ1
def eOp2 (f : D → D → Option D) (ga gb : Rho → Option (Rs D)) : Rho → Option (Rs D) := fun ρ => rsB (ga ρ) fun x ρ1 => rsB (gb ρ1) fun y ρ2 => (f x y).bind fun d => (fzO d).map fun d => .ok d ρ2
section
variable {X : Cx} {W : WX} {a b e : Expr} {pos : Pos} {ga gb : Rho → Option D}
/-- two looks in a row -/
theorem look2 {ta tb : TE} (ha : ∀ (c : Cn) (F : Addr → Prop) (H : Hp) (σ : L2.St) (ρ : Rho) (τ : List V) (θ : List D) (Q : VK) (d : D), Ok X.K c F H σ ρ τ θ → ga ρ = some d →
      (∀ (F' : Addr → Prop) (H' : Hp) (v : V) (l : List Addr), Ext F H F' H' → Ok X.K c F' H' σ ρ τ θ → Rp X.K F' H' v d l → Q v H') → ta σ H Q)
    (hb : ∀ (c : Cn) (F : Addr → Prop) (H : Hp) (σ : L2.St) (ρ : Rho) (τ : List V) (θ : List D) (Q : VK) (d : D), Ok X.K c F H σ ρ τ θ → gb ρ = some d →
      (∀ (F' : Addr → Prop) (H' : Hp) (v : V) (l : List Addr), Ext F H F' H' → Ok X.K c F' H' σ ρ τ θ → Rp X.K F' H' v d l → Q v H') → tb σ H Q)
    {α : Type} {f : D → D → Option α} {c : Cn} {F : Addr → Prop} {H : Hp} {σ : L2.St} {ρ : Rho} {τ : List V} {θ : List D} {R : V → V → Hp → Prop} {d : α} (k : Ok X.K c F H σ ρ τ θ) (e : gOp2 f ga gb ρ = some d)
    (q : ∀ (F' : Addr → Prop) (H' : Hp) (x y : V) (d1 d2 : D) (l1 l2 : List Addr), Ext F H F' H' → Ok X.K c F' H' σ ρ τ θ → Rp X.K F' H' x d1 l1 → Rp X.K F' H' y d2 l2 → f d1 d2 = some d → R x y H') :
    ta σ H fun x H1 => tb σ H1 fun y H2 => R x y H2 := by
  unfold gOp2 at e
  cases e1 : ga ρ with
  | none => rw [e1] at e; cases e
  | some d1 =>
    rw [e1, Option.bind_some] at e
    cases e2 : gb ρ with
    | none => rw [e2] at e; cases e
    | some d2 =>
      rw [e2, Option.bind_some] at e
      refine ha c F H σ ρ τ θ _ d1 k e1 fun F1 H1 x l1 hF1 k1 r1 => ?_
      refine hb c F1 H1 σ ρ τ θ _ d2 k1 e2 fun F2 H2 y l2 hF2 k2 r2 => ?_
      exact q F2 H2 x y d1 d2 l1 l2 (hF1.trans hF2) k2 (hF2.rp r1) r2 e
theorem dv_op1 {op : UnaryOp} {r : V → Hp → VK → Prop} {f : D → Option D} (ho : UnR X (unaryOp op) r) (hv : VOp1 X.K r f) (ha : DV X a ga) : DV X (.UnaryOp op a pos) (gOp1 f ga) := by
  obtain ⟨ta, a1, a2⟩ := ha.ex
  refine ⟨_, pe_un ho a1, fun c F H σ ρ τ θ Q d k e q => ?_⟩
  unfold gOp1 at e
  cases e1 : ga ρ with
  | none => rw [e1] at e; cases e
  | some d1 =>
    rw [e1, Option.bind_some] at e
    refine a2 c F H σ ρ τ θ _ d1 k e1 fun F1 H1 x l1 hF1 k1 r1 => ?_
    exact hv F1 H1 x d1 d l1 Q r1 e fun v l r2 => q F1 H1 v l hF1 k1 r2
theorem dv_op2 {op : Operator} {r : R2} {f : D → D → Option D} (ho : OpR X (binaryOp op) r) (hv : VOp2 X.K r f) (ha : DV X a ga) (hb : DV X b gb) : DV X (.BinOp a op b pos) (gOp2 f ga gb) := by
  obtain ⟨ta, a1, a2⟩ := ha.ex
  obtain ⟨tb, b1, b2⟩ := hb.ex
  refine ⟨_, pe_op ho a1 b1, fun c F H σ ρ τ θ Q d k e q => ?_⟩
  exact look2 a2 b2 k e fun F' H' x y d1 d2 l1 l2 hF k' r1 r2 ef => hv F' H' x y d1 d2 d l1 l2 Q r1 r2 ef fun v l r3 => q F' H' v l hF k' r3
theorem dv_cmp {op : CmpOp} {r : R2} {f : D → D → Option D} (ho : OpR X (compareOp op) r) (hv : VOp2 X.K r f) (ha : DV X a ga) (hb : DV X b gb) (hm : behindInMarks op b = false := by first | exact nomark _ | rfl) : DV X (.Compare a [op] [b] pos) (gOp2 f ga gb) := by
  obtain ⟨ta, a1, a2⟩ := ha.ex
  obtain ⟨tb, b1, b2⟩ := hb.ex
  refine ⟨_, pe_cmpR ho a1 b1 hm, fun c F H σ ρ τ θ Q d k e q => ?_⟩
  exact look2 a2 b2 k e fun F' H' x y d1 d2 l1 l2 hF k' r1 r2 ef => hv F' H' x y d1 d2 d l1 l2 Q r1 r2 ef fun v l r3 => q F' H' v l hF k' r3
theorem dv_ix {r : R2} {f : D → D → Option D} (ho : IxR X r) (hv : VOp2 X.K r f) (ha : DV X a ga) (hb : DV X b gb) (hs : PlainIx b := by exact fun _ _ => rfl) : DV X (.Subscript a b pos) (gOp2 f ga gb) := by
  obtain ⟨ta, a1, a2⟩ := ha.ex
  obtain ⟨tb, b1, b2⟩ := hb.ex
  refine ⟨_, pe_ix ho a1 b1 hs, fun c F H σ ρ τ θ Q d k e q => ?_⟩
  exact look2 a2 b2 k e fun F' H' x y d1 d2 l1 l2 hF k' r1 r2 ef => hv F' H' x y d1 d2 d l1 l2 Q r1 r2 ef fun v l r3 => q F' H' v l hF k' r3
def asB : D → Option Bool
  | .bl b => some b
  | _ => none
theorem asB_some {d : D} {b : Bool} (h : asB d = some b) : d = .bl b := by
  cases d <;> first | (cases h; rfl) | (cases h)
theorem Rp.bl_inv {K : PySem.W.Frag} {F : Addr → Prop} {H : Hp} {v : V} {b : Bool} {l : List Addr} (h : Rp K F H v (.bl b) l) : v = .bl b := by
  cases h
  rfl
theorem Rp.int_inv {K : PySem.W.Frag} {F : Addr → Prop} {H : Hp} {v : V} {b : Int} {l : List Addr} (h : Rp K F H v (.int b) l) : v = .int b := by
  cases h
  rfl
theorem Rp.str_inv {K : PySem.W.Frag} {F : Addr → Prop} {H : Hp} {v : V} {b : Str} {l : List Addr} (h : Rp K F H v (.str b) l) : v = .str b := by
  cases h
  rfl
theorem Rp.non_inv {K : PySem.W.Frag} {F : Addr → Prop} {H : Hp} {v : V} {l : List Addr} (h : Rp K F H v .non l) : v = .non := by
  cases h
  rfl
def gB (g : Rho → Option D) : Rho → Option Bool := fun ρ => (g ρ).bind asB
theorem gB_some {g : Rho → Option D} {ρ : Rho} {b : Bool} (h : gB g ρ = some b) : g ρ = some (.bl b) := by
  unfold gB at h
  cases e : g ρ with
  | none => rw [e] at h; cases h
  | some d => rw [e, Option.bind_some] at h; rw [asB_some h]
theorem dt_cmp {op : CmpOp} {r : R2} {f : D → D → Option D} (ho : OpR X (compareOp op) r) (hv : VOp2 X.K r f) (ha : DV X a ga) (hb : DV X b gb) (hm : behindInMarks op b = false := by first | exact nomark _ | rfl) : DT X (.Compare a [op] [b] pos) (gB (gOp2 f ga gb)) := by
  obtain ⟨ta, a1, a2⟩ := ha.ex
  obtain ⟨tb, b1, b2⟩ := hb.ex
  refine ⟨_, pt_cmpR ho a1 b1 hm, fun c F H σ ρ τ θ Q d k e q => ?_⟩
  exact look2 a2 b2 k (gB_some e) fun F' H' x y d1 d2 l1 l2 hF k' r1 r2 ef => hv F' H' x y d1 d2 _ l1 l2 _ r1 r2 ef fun v l r3 => ⟨d, r3.bl_inv, q F' H' hF k'⟩
/-- a look that gives a truth value, as a test -/
theorem dt_val {g : Rho → Option D} (h : DV X e g) (he : ∀ whole, isTrue e X.env whole = (do let v ← whole; standAt e.pos; holding [v] (truthy v)) := by intro _; rfl) : DT X e (gB g) := by
  obtain ⟨t, h1, h2⟩ := h.ex
  refine ⟨_, pt_val h1 he, fun c F H σ ρ τ θ Q b k e q => ?_⟩
  exact h2 c F H σ ρ τ θ _ _ k (gB_some e) fun F' H' v l hF k' r => ⟨b, r.bl_inv, q F' H' hF k'⟩
def gNot (g : Rho → Option Bool) : Rho → Option Bool := fun ρ => (g ρ).map not
theorem dt_not {g : Rho → Option Bool} (h : DT X a g) : DT X (.UnaryOp .Not a pos) (gNot g) := by
  obtain ⟨t, h1, h2⟩ := h.ex
  refine ⟨_, pt_not h1, fun c F H σ ρ τ θ Q b k e q => ?_⟩
  unfold gNot at e
  cases e1 : g ρ with
  | none => rw [e1] at e; cases e
  | some b1 =>
    rw [e1] at e
    cases e
    exact h2 c F H σ ρ τ θ _ _ k e1 fun F' H' hF k' => q F' H' hF k'
def gAnd (g h : Rho → Option Bool) : Rho → Option Bool := fun ρ => (g ρ).bind fun b => if b = true then h ρ else some false
def gOr (g h : Rho → Option Bool) : Rho → Option Bool := fun ρ => (g ρ).bind fun b => if b = true then some true else h ρ
variable {rest : List Expr} {g h : Rho → Option Bool}
theorem dw_and1 (x : DT X a g) : DW X (.BoolOp .And [a] pos) g := by
  obtain ⟨t, h1, h2⟩ := x.ex
  exact ⟨_, pw_and1 h1, h2⟩
theorem dw_or1 (x : DT X a g) : DW X (.BoolOp .Or [a] pos) g := by
  obtain ⟨t, h1, h2⟩ := x.ex
  exact ⟨_, pw_or1 h1, h2⟩
theorem dw_and (x : DT X a g) (y : DW X (.BoolOp .And (b :: rest) pos) h) : DW X (.BoolOp .And (a :: b :: rest) pos) (gAnd g h) := by
  obtain ⟨t, h1, h2⟩ := x.ex
  obtain ⟨u, u1, u2⟩ := y.ex
  refine ⟨_, pw_and h1 u1, fun c F H σ ρ τ θ Q b k e q => ?_⟩
  unfold gAnd at e
  cases e1 : g ρ with
  | none => rw [e1] at e; cases e
  | some b1 =>
    rw [e1, Option.bind_some] at e
    refine h2 c F H σ ρ τ θ _ _ k e1 fun F1 H1 hF k1 => ?_
    cases b1 with
    | true =>
      rw [if_pos rfl] at e
      exact iteT (u2 c F1 H1 σ ρ τ θ Q b k1 e fun F2 H2 hF2 k2 => q F2 H2 (hF.trans hF2) k2)
    | false =>
      rw [if_neg Bool.false_ne_true] at e
      cases e
      exact iteF (q F1 H1 hF k1)
theorem dw_or (x : DT X a g) (y : DW X (.BoolOp .Or (b :: rest) pos) h) : DW X (.BoolOp .Or (a :: b :: rest) pos) (gOr g h) := by
  obtain ⟨t, h1, h2⟩ := x.ex
  obtain ⟨u, u1, u2⟩ := y.ex
  refine ⟨_, pw_or h1 u1, fun c F H σ ρ τ θ Q b k e q => ?_⟩
  unfold gOr at e
  cases e1 : g ρ with
  | none => rw [e1] at e; cases e
  | some b1 =>
    rw [e1, Option.bind_some] at e
    refine h2 c F H σ ρ τ θ _ _ k e1 fun F1 H1 hF k1 => ?_
    cases b1 with
    | false =>
      rw [if_neg Bool.false_ne_true] at e
      exact iteF (u2 c F1 H1 σ ρ τ θ Q b k1 e fun F2 H2 hF2 k2 => q F2 H2 (hF.trans hF2) k2)
    | true =>
      rw [if_pos rfl] at e
      cases e
      exact iteT (q F1 H1 hF k1)
end
end DL

set_option Elab.async false
set_option linter.all false
set_option maxRecDepth 100000
set_option maxHeartbeats 4000000
/-! DLD: expressions that change slots; arguments; displays; built-in calls, methods, slices. -/
namespace DL
open PySem PySem.Spec PyProof.Rows L2
/-- what a DE's reading gives -/
abbrev ESem (X : Cx) (W : WX) (t : TE) (g : Rho → Option (Rs D)) : Prop :=
  ∀ (c : Cn) (F : Addr → Prop) (H : Hp) (σ : L2.St) (ρ : Rho) (τ : List V) (θ : List D) (Q : VK) (r : Rs D), Ok X.K c F H σ ρ τ θ → g ρ = some r →
    (∀ d ρ', r = .ok d ρ' → ∀ (F' : Addr → Prop) (H' : Hp) (v : V), (∀ a, F a → F' a) → Ok X.K c F' H' σ ρ' (v :: τ) (d :: θ) → Q v H') →
    (∀ C fs ρ', r = .ex C fs ρ' → ∀ (F' : Addr → Prop) (H' : Hp) (q : Option Addr), (∀ a, F a → F' a) → Ok X.K c F' H' σ ρ' τ θ → XRep X.K F' H' q fs → W (.ref C) q σ H') → t σ H Q
theorem rsB_some {α β : Type} {a : Option (Rs α)} {f : α → Rho → Option (Rs β)} {r : Rs β} (h : rsB a f = some r) : (∃ x ρ, a = some (.ok x ρ) ∧ f x ρ = some r) ∨ ∃ C fs ρ, a = some (.ex C fs ρ) ∧ r = .ex C fs ρ := by
  unfold rsB at h
  cases a with
  | none => cases h
  | some x =>
    cases x with
    | ok x ρ => exact .inl ⟨x, ρ, rfl, h⟩
    | ex C fs ρ => cases h; exact .inr ⟨C, fs, ρ, rfl, rfl⟩
section
variable {X : Cx} {W : WX} {a b e : Expr} {pos : Pos} {ga gb : Rho → Option (Rs D)}
/-- two in a row -/
theorem run2 {ta tb : TE} (ha : ESem X W ta ga) (hb : ESem X W tb gb) {α : Type} {f : D → D → Rho → Option (Rs α)} {c : Cn} {F : Addr → Prop} {H : Hp} {σ : L2.St} {ρ : Rho} {τ : List V} {θ : List D} {R : V → V → Hp → Prop} {r : Rs α}
    (k : Ok X.K c F H σ ρ τ θ) (e : (rsB (ga ρ) fun x ρ1 => rsB (gb ρ1) fun y ρ2 => f x y ρ2) = some r)
    (q : ∀ (F' : Addr → Prop) (H' : Hp) (x y : V) (d1 d2 : D) (ρ' : Rho), (∀ a, F a → F' a) → Ok X.K c F' H' σ ρ' (y :: x :: τ) (d2 :: d1 :: θ) → f d1 d2 ρ' = some r → R x y H')
    (qx : ∀ C fs ρ', r = .ex C fs ρ' → ∀ (F' : Addr → Prop) (H' : Hp) (q : Option Addr), (∀ a, F a → F' a) → Ok X.K c F' H' σ ρ' τ θ → XRep X.K F' H' q fs → W (.ref C) q σ H') :
    ta σ H fun x H1 => tb σ H1 fun y H2 => R x y H2 := by
  rcases rsB_some e with ⟨d1, ρ1, e1, e⟩ | ⟨C, fs, ρ1, e1, rfl⟩
  · refine ha c F H σ ρ τ θ _ _ k e1 (fun d ρ' z F1 H1 x hF1 k1 => ?_) fun C fs ρ' z => by cases z
    cases z
    rcases rsB_some e with ⟨d2, ρ2, e2, e⟩ | ⟨C, fs, ρ2, e2, rfl⟩
    · refine hb c F1 H1 σ ρ1 (x :: τ) (d1 :: θ) _ _ k1 e2 (fun d ρ' z F2 H2 y hF2 k2 => ?_) fun C fs ρ' z => by cases z
      cases z
      exact q F2 H2 x y d1 d2 ρ2 (fun a z => hF2 a (hF1 a z)) k2 e
    · refine hb c F1 H1 σ ρ1 (x :: τ) (d1 :: θ) _ _ k1 e2 (fun d ρ' z => by cases z) fun C fs ρ' z F2 H2 q hF2 k2 xr => ?_
      cases z
      exact qx _ _ _ rfl F2 H2 q (fun a z => hF2 a (hF1 a z)) k2.drop xr
  · refine ha c F H σ ρ τ θ _ _ k e1 (fun d ρ' z => by cases z) fun C fs ρ' z F1 H1 q hF1 k1 xr => ?_
    cases z
    exact qx _ _ _ rfl F1 H1 q hF1 k1 xr
theorem fzB_some {o : Option D} {ρ : Rho} {r : Rs D} (h : (o.bind fun d => (fzO d).map fun d => Rs.ok d ρ) = some r) : ∃ d, o = some d ∧ isFz d = true ∧ r = .ok d ρ := by
  cases o with
  | none => cases h
  | some d =>
    rw [Option.bind_some] at h
    cases e : fzO d with
    | none => rw [e] at h; cases h
    | some d' =>
      rw [e] at h
      cases h
      obtain ⟨rfl, z⟩ := fzO_some e
      exact ⟨_, rfl, z, rfl⟩
/-- an operator's end over the temporaries -/
theorem fin2 {r : R2} {f : D → D → Option D} (hv : VOp2 X.K r f) {c : Cn} {F : Addr → Prop} {H : Hp} {σ : L2.St} {ρ : Rho} {τ : List V} {θ : List D} {x y : V} {d1 d2 : D} {Q : VK} {rr : Rs D}
    (k : Ok X.K c F H σ ρ (y :: x :: τ) (d2 :: d1 :: θ)) (e : ((f d1 d2).bind fun d => (fzO d).map fun d => Rs.ok d ρ) = some rr)
    (q : ∀ d ρ', rr = .ok d ρ' → ∀ (F' : Addr → Prop) (H' : Hp) (v : V), (∀ a, F a → F' a) → Ok X.K c F' H' σ ρ' (v :: τ) (d :: θ) → Q v H') : r x y H Q := by
  obtain ⟨d, e1, z, rfl⟩ := fzB_some e
  obtain ⟨l2, r2⟩ := k.top
  obtain ⟨l1, r1⟩ := k.drop.top
  refine hv F H x y d1 d2 d l1 l2 Q r1 r2 e1 fun v l r3 => ?_
  have := r3.isFz z
  subst this
  exact q d ρ rfl F H v (fun _ z => z) (k.drop.drop.push0 r3)
theorem de_op2 {op : Operator} {r : R2} {f : D → D → Option D} (ho : OpR X (binaryOp op) r) (hv : VOp2 X.K r f) (ha : DE X W a ga) (hb : DE X W b gb) : DE X W (.BinOp a op b pos) (eOp2 f ga gb) := by
  obtain ⟨ta, a1, a2⟩ := ha.ex
  obtain ⟨tb, b1, b2⟩ := hb.ex
  refine ⟨_, pe_op ho a1 b1, fun c F H σ ρ τ θ Q rr k e q qx => ?_⟩
  exact run2 a2 b2 k e (fun F' H' x y d1 d2 ρ' hF k' e' => fin2 hv k' e' fun d ρ2 z F2 H2 v hF2 k2 => q d ρ2 z F2 H2 v (fun a z => hF2 a (hF a z)) k2) qx
theorem de_cmp {op : CmpOp} {r : R2} {f : D → D → Option D} (ho : OpR X (compareOp op) r) (hv : VOp2 X.K r f) (ha : DE X W a ga) (hb : DE X W b gb) (hm : behindInMarks op b = false := by first | exact nomark _ | rfl) : DE X W (.Compare a [op] [b] pos) (eOp2 f ga gb) := by
  obtain ⟨ta, a1, a2⟩ := ha.ex
  obtain ⟨tb, b1, b2⟩ := hb.ex
  refine ⟨_, pe_cmpR ho a1 b1 hm, fun c F H σ ρ τ θ Q rr k e q qx => ?_⟩
  exact run2 a2 b2 k e (fun F' H' x y d1 d2 ρ' hF k' e' => fin2 hv k' e' fun d ρ2 z F2 H2 v hF2 k2 => q d ρ2 z F2 H2 v (fun a z => hF2 a (hF a z)) k2) qx
theorem de_ix {r : R2} {f : D → D → Option D} (ho : IxR X r) (hv : VOp2 X.K r f) (ha : DE X W a ga) (hb : DE X W b gb) (hs : PlainIx b := by exact fun _ _ => rfl) : DE X W (.Subscript a b pos) (eOp2 f ga gb) := by
  obtain ⟨ta, a1, a2⟩ := ha.ex
  obtain ⟨tb, b1, b2⟩ := hb.ex
  refine ⟨_, pe_ix ho a1 b1 hs, fun c F H σ ρ τ θ Q rr k e q qx => ?_⟩
  exact run2 a2 b2 k e (fun F' H' x y d1 d2 ρ' hF k' e' => fin2 hv k' e' fun d ρ2 z F2 H2 v hF2 k2 => q d ρ2 z F2 H2 v (fun a z => hF2 a (hF a z)) k2) qx
theorem de_op1 {op : UnaryOp} {r : V → Hp → VK → Prop} {f : D → Option D} (ho : UnR X (unaryOp op) r) (hv : VOp1 X.K r f) (ha : DE X W a ga) : DE X W (.UnaryOp op a pos) (eOp1 f ga) := by
  obtain ⟨ta, a1, a2⟩ := ha.ex
  refine ⟨_, pe_un ho a1, fun c F H σ ρ τ θ Q rr k e q qx => ?_⟩
  rcases rsB_some e with ⟨d1, ρ1, e1, e⟩ | ⟨C, fs, ρ1, e1, rfl⟩
  · refine a2 c F H σ ρ τ θ _ _ k e1 (fun d ρ' z F1 H1 x hF1 k1 => ?_) fun C fs ρ' z => by cases z
    cases z
    obtain ⟨d, e1, z, rfl⟩ := fzB_some e
    obtain ⟨l1, r1⟩ := k1.top
    refine hv F1 H1 x _ d l1 Q r1 e1 fun v l r3 => ?_
    have := r3.isFz z
    subst this
    exact q d ρ1 rfl F1 H1 v hF1 (k1.drop.push0 r3)
  · exact a2 c F H σ ρ τ θ _ _ k e1 (fun d ρ' z => by cases z) fun C fs ρ' z F1 H1 q hF1 k1 xr => by
      cases z
      exact qx _ _ _ rfl F1 H1 q hF1 k1 xr
theorem gVar_some {i : Nat} {ρ : Rho} {d : D} (h : gVar i ρ = some d) : ∃ b, ρ[i]? = some (some (b, d)) := by
  unfold gVar at h
  cases e : ρ[i]? with
  | none => rw [e] at h; cases h
  | some s =>
    cases s with
    | none => rw [e] at h; cases h
    | some p =>
      obtain ⟨b, d'⟩ := p
      rw [e] at h
      cases h
      exact ⟨b, rfl⟩
/-- .. where the list (or text) stands in a slot and the index is reckoned behind it -/
def eIxN (i : Nat) (f : D → D → Option D) (gb : Rho → Option (Rs D)) : Rho → Option (Rs D) := fun ρ => (gVar i ρ).bind fun _ => rsB (gb ρ) fun y ρ1 => (gVar i ρ1).bind fun x => (f x y).bind fun d => (fzO d).map fun d => .ok d ρ1
theorem bind_some' {α β : Type} {o : Option α} {f : α → Option β} {r : β} (h : o.bind f = some r) : ∃ x, o = some x ∧ f x = some r := Option.bind_eq_some_iff.mp h
theorem de_ixN (i : Nat) {x : Str} {p : Pos} {r : R2} {f : D → D → Option D} (ho : IxR X r) (hv : VOp2 X.K r f) (hb : DE X W b gb) (hs : PlainIx b := by exact fun _ _ => rfl)
    (hN : X.N[i]? = some x := by rfl) (hv' : Vis X.env.scope x := by first | exact Or.inl rfl | exact Or.inr (Or.inl rfl) | exact Or.inr (Or.inr rfl)) (hd : (x == ("__debug__" : Str)) = false := by decide)
    (hcd : (x == ("__classdict__" : Str)) = false := by decide) : DE X W (.Subscript (.Name x p) b pos) (eIxN i f gb) := by
  obtain ⟨tb, b1, b2⟩ := hb.ex
  refine ⟨_, pe_ix ho (pe_var hN hv' hd hcd) b1 hs, fun c F H σ ρ τ θ Q rr k e q qx => ?_⟩
  obtain ⟨d0, e0, e⟩ := bind_some' e
  obtain ⟨bb, e0⟩ := gVar_some e0
  obtain ⟨v, _, hσ, _⟩ := k.get e0
  refine ⟨v, hσ, ?_⟩
  rcases rsB_some e with ⟨d2, ρ1, e1, e⟩ | ⟨C, fs, ρ1, e1, rfl⟩
  · refine b2 c F H σ ρ τ θ _ _ k e1 (fun d ρ' z F1 H1 y hF1 k1 => ?_) fun C fs ρ' z => by cases z
    cases z
    obtain ⟨d1, e2, e⟩ := bind_some' e
    obtain ⟨bb, e2⟩ := gVar_some e2
    obtain ⟨d, e3, z, rfl⟩ := fzB_some e
    obtain ⟨v', l1, h1, r1⟩ := k1.get e2
    rw [hσ] at h1
    cases h1
    obtain ⟨l2, r2⟩ := k1.top
    refine hv F1 H1 v y d1 d2 d l1 l2 Q r1 r2 e3 fun w l r3 => ?_
    have := r3.isFz z
    subst this
    exact q d ρ1 rfl F1 H1 w hF1 (k1.drop.push0 r3)
  · exact b2 c F H σ ρ τ θ _ _ k e1 (fun d ρ' z => by cases z) fun C fs ρ' z F1 H1 q hF1 k1 xr => by
      cases z
      exact qx _ _ _ rfl F1 H1 q hF1 k1 xr

/-! ### tests -/
def eB (g : Rho → Option (Rs D)) : Rho → Option (Rs Bool) := fun ρ => rsB (g ρ) fun d ρ1 => (asB d).map fun b => .ok b ρ1
theorem eB_end {d : D} {ρ : Rho} {r : Rs Bool} (h : ((asB d).map fun b => Rs.ok b ρ) = some r) : ∃ b, d = .bl b ∧ r = .ok b ρ := by
  cases e : asB d with
  | none => rw [e] at h; cases h
  | some b => rw [e] at h; cases h; exact ⟨b, asB_some e, rfl⟩
theorem dte_val {g : Rho → Option (Rs D)} (h : DE X W e g) (he : ∀ whole, isTrue e X.env whole = (do let v ← whole; standAt e.pos; holding [v] (truthy v)) := by intro _; rfl) : DTE X W e (eB g) := by
  obtain ⟨t, h1, h2⟩ := h.ex
  refine ⟨_, pt_val h1 he, fun c F H σ ρ τ θ Q r k e q qx => ?_⟩
  rcases rsB_some e with ⟨d1, ρ1, e1, e⟩ | ⟨C, fs, ρ1, e1, rfl⟩
  · refine h2 c F H σ ρ τ θ _ _ k e1 (fun d ρ' z F1 H1 x hF1 k1 => ?_) fun C fs ρ' z => by cases z
    cases z
    obtain ⟨b, rfl, rfl⟩ := eB_end e
    obtain ⟨l1, r1⟩ := k1.top
    exact ⟨b, r1.bl_inv, q _ _ rfl F1 H1 hF1 k1.drop⟩
  · exact h2 c F H σ ρ τ θ _ _ k e1 (fun d ρ' z => by cases z) fun C fs ρ' z F1 H1 q hF1 k1 xr => by
      cases z
      exact qx _ _ _ rfl F1 H1 q hF1 k1 xr
theorem dte_cmp {op : CmpOp} {r : R2} {f : D → D → Option D} (ho : OpR X (compareOp op) r) (hv : VOp2 X.K r f) (ha : DE X W a ga) (hb : DE X W b gb) (hm : behindInMarks op b = false := by first | exact nomark _ | rfl) : DTE X W (.Compare a [op] [b] pos) (eB (eOp2 f ga gb)) := by
  obtain ⟨ta, a1, a2⟩ := ha.ex
  obtain ⟨tb, b1, b2⟩ := hb.ex
  refine ⟨_, pt_cmpR ho a1 b1 hm, fun c F H σ ρ τ θ Q rr k e q qx => ?_⟩
  rcases rsB_some e with ⟨d1, ρ1, e1, e⟩ | ⟨C, fs, ρ1, e1, rfl⟩
  · obtain ⟨b, rfl, rfl⟩ := eB_end e
    exact run2 a2 b2 k e1 (fun F' H' x y d1 d2 ρ' hF k' e' => fin2 hv k' e' fun d ρ2 z F2 H2 v hF2 k2 => by
      cases z
      obtain ⟨l, r3⟩ := k2.top
      exact ⟨b, r3.bl_inv, q _ _ rfl F2 H2 (fun a z => hF2 a (hF a z)) k2.drop⟩) fun C fs ρ' z => by cases z
  · exact run2 a2 b2 k e1 (fun F' H' x y d1 d2 ρ' hF k' e' => fin2 hv k' e' fun d ρ2 z => by cases z) fun C fs ρ' z F1 H1 q hF1 k1 xr => by
      cases z
      exact qx _ _ _ rfl F1 H1 q hF1 k1 xr
def eNot (g : Rho → Option (Rs Bool)) : Rho → Option (Rs Bool) := fun ρ => rsB (g ρ) fun b ρ1 => some (.ok (!b) ρ1)
def eAnd (g h : Rho → Option (Rs Bool)) : Rho → Option (Rs Bool) := fun ρ => rsB (g ρ) fun b ρ1 => if b = true then h ρ1 else some (.ok false ρ1)
def eOr (g h : Rho → Option (Rs Bool)) : Rho → Option (Rs Bool) := fun ρ => rsB (g ρ) fun b ρ1 => if b = true then some (.ok true ρ1) else h ρ1
variable {rest : List Expr} {g h : Rho → Option (Rs Bool)}
theorem dte_not (x : DTE X W a g) : DTE X W (.UnaryOp .Not a pos) (eNot g) := by
  obtain ⟨t, h1, h2⟩ := x.ex
  refine ⟨_, pt_not h1, fun c F H σ ρ τ θ Q r k e q qx => ?_⟩
  rcases rsB_some e with ⟨d1, ρ1, e1, e⟩ | ⟨C, fs, ρ1, e1, rfl⟩
  · cases e
    exact h2 c F H σ ρ τ θ _ _ k e1 (fun d ρ' z F1 H1 hF1 k1 => by cases z; exact q _ _ rfl F1 H1 hF1 k1) fun C fs ρ' z => by cases z
  · exact h2 c F H σ ρ τ θ _ _ k e1 (fun d ρ' z => by cases z) fun C fs ρ' z F1 H1 q hF1 k1 xr => by
      cases z
      exact qx _ _ _ rfl F1 H1 q hF1 k1 xr
theorem dwe_and1 (x : DTE X W a g) : DWE X W (.BoolOp .And [a] pos) g := by
  obtain ⟨t, h1, h2⟩ := x.ex
  exact ⟨_, pw_and1 h1, h2⟩
theorem dwe_or1 (x : DTE X W a g) : DWE X W (.BoolOp .Or [a] pos) g := by
  obtain ⟨t, h1, h2⟩ := x.ex
  exact ⟨_, pw_or1 h1, h2⟩
theorem dwe_and (x : DTE X W a g) (y : DWE X W (.BoolOp .And (b :: rest) pos) h) : DWE X W (.BoolOp .And (a :: b :: rest) pos) (eAnd g h) := by
  obtain ⟨t, h1, h2⟩ := x.ex
  obtain ⟨u, u1, u2⟩ := y.ex
  refine ⟨_, pw_and h1 u1, fun c F H σ ρ τ θ Q r k e q qx => ?_⟩
  rcases rsB_some e with ⟨b1, ρ1, e1, e⟩ | ⟨C, fs, ρ1, e1, rfl⟩
  · refine h2 c F H σ ρ τ θ _ _ k e1 (fun d ρ' z F1 H1 hF1 k1 => ?_) fun C fs ρ' z => by cases z
    cases z
    cases b1 with
    | true =>
      rw [if_pos rfl] at e
      exact iteT (u2 c F1 H1 σ ρ1 τ θ Q r k1 e (fun d ρ' z F2 H2 hF2 k2 => q d ρ' z F2 H2 (fun a z => hF2 a (hF1 a z)) k2) fun C fs ρ' z F2 H2 q hF2 k2 xr => qx C fs ρ' z F2 H2 q (fun a z => hF2 a (hF1 a z)) k2 xr)
    | false =>
      rw [if_neg Bool.false_ne_true] at e
      cases e
      exact iteF (q _ _ rfl F1 H1 hF1 k1)
  · exact h2 c F H σ ρ τ θ _ _ k e1 (fun d ρ' z => by cases z) fun C fs ρ' z F1 H1 q hF1 k1 xr => by
      cases z
      exact qx _ _ _ rfl F1 H1 q hF1 k1 xr
theorem dwe_or (x : DTE X W a g) (y : DWE X W (.BoolOp .Or (b :: rest) pos) h) : DWE X W (.BoolOp .Or (a :: b :: rest) pos) (eOr g h) := by
  obtain ⟨t, h1, h2⟩ := x.ex
  obtain ⟨u, u1, u2⟩ := y.ex
  refine ⟨_, pw_or h1 u1, fun c F H σ ρ τ θ Q r k e q qx => ?_⟩
  rcases rsB_some e with ⟨b1, ρ1, e1, e⟩ | ⟨C, fs, ρ1, e1, rfl⟩
  · refine h2 c F H σ ρ τ θ _ _ k e1 (fun d ρ' z F1 H1 hF1 k1 => ?_) fun C fs ρ' z => by cases z
    cases z
    cases b1 with
    | false =>
      rw [if_neg Bool.false_ne_true] at e
      exact iteF (u2 c F1 H1 σ ρ1 τ θ Q r k1 e (fun d ρ' z F2 H2 hF2 k2 => q d ρ' z F2 H2 (fun a z => hF2 a (hF1 a z)) k2) fun C fs ρ' z F2 H2 q hF2 k2 xr => qx C fs ρ' z F2 H2 q (fun a z => hF2 a (hF1 a z)) k2 xr)
    | true =>
      rw [if_pos rfl] at e
      cases e
      exact iteT (q _ _ rfl F1 H1 hF1 k1)
  · exact h2 c F H σ ρ τ θ _ _ k e1 (fun d ρ' z => by cases z) fun C fs ρ' z F1 H1 q hF1 k1 xr => by
      cases z
      exact qx _ _ _ rfl F1 H1 q hF1 k1 xr
end

/-! ### arguments -/
def gNil : Rho → Option (List D) := fun _ => some []
def gCons (g : Rho → Option D) (h : Rho → Option (List D)) : Rho → Option (List D) := fun ρ => (g ρ).bind fun d => (h ρ).map fun ds => d :: ds
def eNil : Rho → Option (Rs (List D)) := fun ρ => some (.ok [] ρ)
def eCons (g : Rho → Option (Rs D)) (h : Rho → Option (Rs (List D))) : Rho → Option (Rs (List D)) := fun ρ => rsB (g ρ) fun d ρ1 => rsB (h ρ1) fun ds ρ2 => some (.ok (d :: ds) ρ2)
/-- a slot is lent: it must be set -/
def eLend (i : Nat) (h : Rho → Option (Rs (List D))) : Rho → Option (Rs (List D)) := fun ρ => (gVar i ρ).bind fun _ => h ρ
section
variable {X : Cx} {W : WX} {e : Expr} {es : List Expr} {pos : Pos}
theorem dvs_nil : DVs X [] gNil := ⟨_, pa_nil, fun c F H σ ρ τ θ Q ds k e0 q => by
  cases e0
  exact q F H [] [] (.refl) k .nil⟩
theorem dvs_cons {g : Rho → Option D} {h : Rho → Option (List D)} (x : DV X e g) (y : DVs X es h) (hs : starEach (e :: es) X.env = (false, eval e X.env) :: starEach es X.env := by rfl) : DVs X (e :: es) (gCons g h) := by
  obtain ⟨t, h1, h2⟩ := x.ex
  obtain ⟨u, u1, u2⟩ := y.ex
  refine ⟨_, pa_cons h1 u1 hs, fun c F H σ ρ τ θ Q ds k e0 q => ?_⟩
  obtain ⟨d, e1, e0⟩ := bind_some' e0
  cases e2 : h ρ with
  | none => rw [e2] at e0; cases e0
  | some ds' =>
    rw [e2] at e0
    cases e0
    refine h2 c F H σ ρ τ θ _ d k e1 fun F1 H1 v l hF1 k1 r1 => ?_
    refine u2 c F1 H1 σ ρ τ θ _ ds' k1 e2 fun F2 H2 vs m hF2 k2 r2 => ?_
    exact q F2 H2 (v :: vs) _ (hF1.trans hF2) k2 (.cons (hF2.rp r1) r2)
theorem des_nil : DEs X W [] [] eNil := ⟨_, pa_nil, fun c F H σ ρ τ θ Q r k e0 q qx => by
  cases e0
  exact q _ _ rfl F H [] [] (fun _ z => z) .nil rfl k⟩
theorem des_cons {g : Rho → Option (Rs D)} {bk : List (Option Nat)} {h : Rho → Option (Rs (List D))} (x : DE X W e g) (y : DEs X W es bk h) (hs : starEach (e :: es) X.env = (false, eval e X.env) :: starEach es X.env := by rfl) : DEs X W (e :: es) (none :: bk) (eCons g h) := by
  obtain ⟨t, h1, h2⟩ := x.ex
  obtain ⟨u, u1, u2⟩ := y.ex
  refine ⟨_, pa_cons h1 u1 hs, fun c F H σ ρ τ θ Q r k e0 q qx => ?_⟩
  rcases rsB_some e0 with ⟨d1, ρ1, e1, e0⟩ | ⟨C, fs, ρ1, e1, rfl⟩
  · refine h2 c F H σ ρ τ θ _ _ k e1 (fun d ρ' z F1 H1 v hF1 k1 => ?_) fun C fs ρ' z => by cases z
    cases z
    rcases rsB_some e0 with ⟨ds, ρ2, e2, e0⟩ | ⟨C, fs, ρ2, e2, rfl⟩
    · cases e0
      refine u2 c F1 H1 σ ρ1 _ _ _ _ k1 e2 (fun d ρ' z F2 H2 vs ws hF2 ad hl k2 => ?_) fun C fs ρ' z => by cases z
      cases z
      exact q _ _ rfl F2 H2 (v :: vs) (v :: ws) (fun a z => hF2 a (hF1 a z)) (.val ad) (by rw [List.length_cons, List.length_cons, hl]) (k2.rotR hl)
    · refine u2 c F1 H1 σ ρ1 _ _ _ _ k1 e2 (fun d ρ' z => by cases z) fun C fs ρ' z F2 H2 q hF2 k2 xr => ?_
      cases z
      exact qx _ _ _ rfl F2 H2 q (fun a z => hF2 a (hF1 a z)) k2.drop xr
  · exact h2 c F H σ ρ τ θ _ _ k e1 (fun d ρ' z => by cases z) fun C fs ρ' z F1 H1 q hF1 k1 xr => by
      cases z
      exact qx _ _ _ rfl F1 H1 q hF1 k1 xr
theorem des_slot (i : Nat) {x : Str} {p : Pos} {bk : List (Option Nat)} {h : Rho → Option (Rs (List D))} (y : DEs X W es bk h)
    (hN : X.N[i]? = some x := by rfl) (hv' : Vis X.env.scope x := by first | exact Or.inl rfl | exact Or.inr (Or.inl rfl) | exact Or.inr (Or.inr rfl)) (hd : (x == ("__debug__" : Str)) = false := by decide)
    (hcd : (x == ("__classdict__" : Str)) = false := by decide) (hs : starEach (.Name x p :: es) X.env = (false, eval (.Name x p) X.env) :: starEach es X.env := by rfl) : DEs X W (.Name x p :: es) (some i :: bk) (eLend i h) := by
  obtain ⟨u, u1, u2⟩ := y.ex
  refine ⟨_, pa_cons (pe_var hN hv' hd hcd) u1 hs, fun c F H σ ρ τ θ Q r k e0 q qx => ?_⟩
  obtain ⟨d, e1, e0⟩ := bind_some' e0
  obtain ⟨bb, e1⟩ := gVar_some e1
  obtain ⟨v, _, hσ, _⟩ := k.get e1
  refine ⟨v, hσ, ?_⟩
  exact u2 c F H σ ρ _ _ _ _ k e0 (fun d ρ' z F2 H2 vs ws hF2 ad hl k2 => q d ρ' z F2 H2 (v :: vs) ws hF2 (.slot hσ ad) hl k2) qx
theorem Argd.vals {σ : L2.St} : ∀ {n : Nat} {vs ws : List V}, Argd σ (List.replicate n none) vs ws → vs = ws
  | 0, _, _, .nil => rfl
  | n + 1, _, _, .val h => by rw [Argd.vals (n := n) h]

/-! ### displays -/
def allFz (ds : List D) : Option (List D) := if isFzs ds = true then some ds else none
theorem allFz_some {ds es : List D} (h : allFz ds = some es) : es = ds ∧ isFzs ds = true := by
  unfold allFz at h
  split at h
  · rename_i q
    cases h
    exact ⟨rfl, q⟩
  · cases h
def lineO {α : Type} (ds : List α) : Option (List α) := if ds.length ≤ sizeLine then some ds else none
theorem lineO_some {α : Type} {ds es : List α} (h : lineO ds = some es) : es = ds ∧ ds.length ≤ sizeLine := by
  unfold lineO at h
  split at h
  · rename_i q
    cases h
    exact ⟨rfl, q⟩
  · cases h
/-- a tuple, a list of what the temporaries hold -/
def eTup (h : Rho → Option (Rs (List D))) : Rho → Option (Rs D) := fun ρ => rsB (h ρ) fun ds ρ1 => (lineO ds).map fun ds => .ok (.tup ds) ρ1
def eLst (h : Rho → Option (Rs (List D))) : Rho → Option (Rs D) := fun ρ => rsB (h ρ) fun ds ρ1 => (lineO ds).map fun ds => .ok (.lst true ds) ρ1
theorem map_some' {α β : Type} {o : Option α} {f : α → β} {r : β} (h : o.map f = some r) : ∃ x, o = some x ∧ f x = r := Option.map_eq_some_iff.mp h
theorem de_tup {n k0 : Nat} {h : Rho → Option (Rs (List D))} (y : DEs X W es (List.replicate n none) h) : DE X W (.Tuple es k0 pos) (eTup h) := by
  obtain ⟨u, u1, u2⟩ := y.ex
  refine ⟨_, pe_tup u1, fun c F H σ ρ τ θ Q r k e0 q qx => ?_⟩
  rcases rsB_some e0 with ⟨ds, ρ1, e1, e0⟩ | ⟨C, fs, ρ1, e1, rfl⟩
  · refine u2 c F H σ ρ _ _ _ _ k e1 (fun d ρ' z F1 H1 vs ws hF1 ad hl k1 => ?_) fun C fs ρ' z => by cases z
    cases z
    obtain ⟨ds', e2, rfl⟩ := map_some' e0
    obtain ⟨rfl, z⟩ := lineO_some e2
    have := ad.vals
    subst this
    refine ⟨by rw [hl]; exact z, fun p hp => ?_⟩
    obtain ⟨F2, hF2, _, k2⟩ := k1.newT hl hp
    exact q _ _ rfl F2 _ _ (fun a z => hF2 a (hF1 a z)) k2
  · exact u2 c F H σ ρ _ _ _ _ k e1 (fun d ρ' z => by cases z) fun C fs ρ' z F1 H1 q hF1 k1 xr => by
      cases z
      exact qx _ _ _ rfl F1 H1 q hF1 k1 xr
theorem de_lst {n : Nat} {h : Rho → Option (Rs (List D))} (y : DEs X W es (List.replicate n none) h) : DE X W (.List es pos) (eLst h) := by
  obtain ⟨u, u1, u2⟩ := y.ex
  refine ⟨_, pe_lst u1, fun c F H σ ρ τ θ Q r k e0 q qx => ?_⟩
  rcases rsB_some e0 with ⟨ds, ρ1, e1, e0⟩ | ⟨C, fs, ρ1, e1, rfl⟩
  · refine u2 c F H σ ρ _ _ _ _ k e1 (fun d ρ' z F1 H1 vs ws hF1 ad hl k1 => ?_) fun C fs ρ' z => by cases z
    cases z
    obtain ⟨ds', e2, rfl⟩ := map_some' e0
    obtain ⟨rfl, z⟩ := lineO_some e2
    have := ad.vals
    subst this
    exact ⟨by rw [hl]; exact z, fun p hp => q _ _ rfl F1 _ _ hF1 (k1.newL hl hp)⟩
  · exact u2 c F H σ ρ _ _ _ _ k e1 (fun d ρ' z => by cases z) fun C fs ρ' z F1 H1 q hF1 k1 xr => by
      cases z
      exact qx _ _ _ rfl F1 H1 q hF1 k1 xr
theorem Ok.pushs {c : Cn} {K : PySem.W.Frag} {F : Addr → Prop} {H : Hp} {σ : L2.St} {ρ : Rho} {τ : List V} {θ : List D} : ∀ {vs : List V} {ds : List D}, Ok K c F H σ ρ τ θ → Rps K F H vs ds [] → Ok K c F H σ ρ (vs ++ τ) (ds ++ θ) := by
  intro vs ds k r
  obtain ⟨l, m, h1, h2, h3, h4⟩ := k.rep
  exact ⟨⟨l, m, h1, r.append h2, h3, h4⟩, k.dom, k.new, k.sub, k.fr, k.gr, k.pin⟩
/-- of looks, that are frozen -/
def gTup (h : Rho → Option (List D)) : Rho → Option (Xs D) := fun ρ => ((h ρ).bind allFz).bind fun ds => (lineO ds).map fun ds => .ok (.tup ds)
def gLst (h : Rho → Option (List D)) : Rho → Option (Xs D) := fun ρ => ((h ρ).bind allFz).bind fun ds => (lineO ds).map fun ds => .ok (.lst true ds)
theorem dn_tup {k0 : Nat} {h : Rho → Option (List D)} (y : DVs X es h) : DN X W (.Tuple es k0 pos) (gTup h) := by
  obtain ⟨u, u1, u2⟩ := y.ex
  refine ⟨_, pe_tup u1, fun c F H σ ρ τ θ Q r k e0 q qx => ?_⟩
  obtain ⟨ds, e1, e0⟩ := bind_some' e0
  obtain ⟨ds0, e1, e2⟩ := bind_some' e1
  obtain ⟨rfl, z⟩ := allFz_some e2
  obtain ⟨ds', e3, rfl⟩ := map_some' e0
  obtain ⟨rfl, z3⟩ := lineO_some e3
  refine u2 c F H σ ρ _ _ _ _ k e1 fun F1 H1 vs l hF1 k1 r1 => ?_
  have := r1.isFz z
  subst this
  refine ⟨by rw [r1.length]; exact z3, fun p hp => ?_⟩
  obtain ⟨F2, hF2, hn2, k2⟩ := (k1.pushs r1).newT r1.length hp
  obtain ⟨l2, r2⟩ := k2.top
  have := r2.isFz (by rw [isFz]; exact z)
  subst this
  exact q _ rfl F2 _ _ _ (hF1.trans ⟨hF2, hn2, DL.same_upd hp⟩) k2.drop r2 List.nodup_nil fun _ z => nomatch z
theorem dn_lst {h : Rho → Option (List D)} (y : DVs X es h) : DN X W (.List es pos) (gLst h) := by
  obtain ⟨u, u1, u2⟩ := y.ex
  refine ⟨_, pe_lst u1, fun c F H σ ρ τ θ Q r k e0 q qx => ?_⟩
  obtain ⟨ds, e1, e0⟩ := bind_some' e0
  obtain ⟨ds0, e1, e2⟩ := bind_some' e1
  obtain ⟨rfl, z⟩ := allFz_some e2
  obtain ⟨ds', e3, rfl⟩ := map_some' e0
  obtain ⟨rfl, z3⟩ := lineO_some e3
  refine u2 c F H σ ρ _ _ _ _ k e1 fun F1 H1 vs l hF1 k1 r1 => ?_
  have := r1.isFz z
  subst this
  refine ⟨by rw [r1.length]; exact z3, fun p hp => ?_⟩
  have hx : Ext F1 H1 F1 (upd H1 p (.lst vs)) := ⟨fun _ z => z, fun _ z => .inl z, DL.same_upd hp⟩
  exact q _ rfl F1 _ _ [p] (hF1.trans hx) (k1.same hx.same) (.lstO upd_same (hx.rps r1)) (List.nodup_cons.mpr ⟨(fun z => nomatch z), List.nodup_nil⟩) fun a z => by
    cases List.mem_singleton.mp z
    exact ⟨(k1.fresh hp).1, hF1.same.free hp⟩
end
end DL

set_option Elab.async false
set_option linter.all false
set_option maxRecDepth 100000
set_option maxHeartbeats 4000000
/-! DLE: statements, what a loop walks, loops, comprehensions. -/
namespace DL
open PySem PySem.Spec PyProof.Rows L2
section
variable {K : PySem.W.Frag} {c : Cn} {F F1 : Addr → Prop} {W : WX} {D0 : Ends} {τ : List V} {θ : List D}
theorem Post.mono {o : Out} (h : Post K c F W D0 τ θ o) (hF : ∀ a, F a → F1 a) : Post K c F1 W D0 τ θ o := by
  cases o with
  | nx ρ => exact fun F' H' σ' h1 => h F' H' σ' fun a z => h1 a (hF a z)
  | brk ρ => exact fun F' H' σ' h1 => h F' H' σ' fun a z => h1 a (hF a z)
  | cnt ρ => exact fun F' H' σ' h1 => h F' H' σ' fun a z => h1 a (hF a z)
  | ret d ρ => exact fun F' H' σ' v h1 => h F' H' σ' v fun a z => h1 a (hF a z)
  | ex C fs ρ => exact fun F' H' σ' q h1 => h F' H' σ' q fun a z => h1 a (hF a z)
end
section
variable {X : Cx} {W : WX} {P : List Nat} {e : Expr} {st : Stmt} {sts : List Stmt} {pos : Pos}
def sNx : Rho → Option Out := fun ρ => some (.nx ρ)
def sSeq (g h : Rho → Option Out) : Rho → Option Out := fun ρ => (g ρ).bind fun
  | .nx ρ1 => h ρ1
  | o => some o
theorem dss_nil : DSs X W P [] sNx := ⟨_, pss_nil, fun c F H σ ρ τ θ D0 o hp k e q => by
  cases e
  exact q F H σ (fun _ z => z) k⟩
theorem ds_pass : DS X W P (.Pass pos) sNx := ⟨_, ps_pass, fun c F H σ ρ τ θ D0 o hp k e q => by
  cases e
  exact q F H σ (fun _ z => z) k⟩
theorem ds_doc {x : Str} {j : Nat} {pos' : Pos} : DS X W P (.Expr (.Constant (.str x) j pos) pos') sNx := ⟨_, ps_doc, fun c F H σ ρ τ θ D0 o hp k e q => by
  cases e
  exact q F H σ (fun _ z => z) k⟩
def sBrk : Rho → Option Out := fun ρ => some (.brk ρ)
def sCnt : Rho → Option Out := fun ρ => some (.cnt ρ)
theorem ds_break : DS X W P (.Break pos) sBrk := ⟨_, ps_break, fun c F H σ ρ τ θ D0 o hp k e q => by
  cases e
  exact q F H σ (fun _ z => z) k⟩
theorem ds_continue : DS X W P (.Continue pos) sCnt := ⟨_, ps_continue, fun c F H σ ρ τ θ D0 o hp k e q => by
  cases e
  exact q F H σ (fun _ z => z) k⟩
def sNo : Rho → Option Out := fun _ => none
theorem ds_never : DS X W P st sNo := ⟨_, ps_never, fun c F H σ ρ τ θ D0 o hp k e q => by cases e⟩
theorem dss_never : DSs X W P sts sNo := ⟨_, pss_never, fun c F H σ ρ τ θ D0 o hp k e q => by cases e⟩
theorem dss_one {g : Rho → Option Out} (h : DS X W P st g) : DSs X W P [st] g := by
  obtain ⟨t, h1, h2⟩ := h.ex
  exact ⟨t, pss_one h1, h2⟩
theorem dss_cons {g h : Rho → Option Out} (x : DS X W P st g) (y : DSs X W P sts h) : DSs X W P (st :: sts) (sSeq g h) := by
  obtain ⟨t, h1, h2⟩ := x.ex
  obtain ⟨u, u1, u2⟩ := y.ex
  refine ⟨_, pss_cons h1 u1, fun c F H σ ρ τ θ D0 o hp k e q => ?_⟩
  obtain ⟨o1, e1, e⟩ := bind_some' e
  refine h2 c F H σ ρ τ θ _ o1 hp k e1 ?_
  cases o1 with
  | nx ρ1 => exact fun F1 H1 σ1 hF1 k1 => u2 c F1 H1 σ1 ρ1 τ θ D0 o hp k1 e (q.mono hF1)
  | brk ρ1 => cases e; exact q
  | cnt ρ1 => cases e; exact q
  | ret d ρ1 => cases e; exact q
  | ex C fs ρ1 => cases e; exact q
/-- an expression's result as a statement's end -/
def oRs {α : Type} (a : Option (Rs α)) (f : α → Rho → Option Out) : Option Out := a.bind fun
  | .ok x ρ => f x ρ
  | .ex C fs ρ => some (.ex C fs ρ)
theorem oRs_some {α : Type} {a : Option (Rs α)} {f : α → Rho → Option Out} {r : Out} (h : oRs a f = some r) : (∃ x ρ, a = some (.ok x ρ) ∧ f x ρ = some r) ∨ ∃ C fs ρ, a = some (.ex C fs ρ) ∧ r = .ex C fs ρ := by
  unfold oRs at h
  cases a with
  | none => cases h
  | some x =>
    cases x with
    | ok x ρ => exact .inl ⟨x, ρ, rfl, h⟩
    | ex C fs ρ => cases h; exact .inr ⟨C, fs, ρ, rfl, rfl⟩
/-- running an expression ahead of an end -/
theorem eThen {g : Rho → Option (Rs D)} {t : TE} (h2 : ESem X W t g) {f : D → Rho → Option Out} {c : Cn} {F : Addr → Prop} {H : Hp} {σ : L2.St} {ρ : Rho} {τ : List V} {θ : List D} {D0 : Ends} {o : Out} {R : VK}
    (k : Ok X.K c F H σ ρ τ θ) (e : oRs (g ρ) f = some o) (q : Post X.K c F W D0 τ θ o)
    (r : ∀ (d : D) (ρ' : Rho) (F' : Addr → Prop) (H' : Hp) (v : V), (∀ a, F a → F' a) → Ok X.K c F' H' σ ρ' (v :: τ) (d :: θ) → f d ρ' = some o → Post X.K c F' W D0 τ θ o → R v H') : t σ H R := by
  rcases oRs_some e with ⟨d, ρ1, e1, e⟩ | ⟨C, fs, ρ1, e1, rfl⟩
  · refine h2 c F H σ ρ τ θ _ _ k e1 (fun d' ρ' z F1 H1 v hF1 k1 => ?_) fun C fs ρ' z => by cases z
    cases z
    exact r _ _ F1 H1 v hF1 k1 e (q.mono hF1)
  · refine h2 c F H σ ρ τ θ _ _ k e1 (fun d' ρ' z => by cases z) fun C fs ρ' z F1 H1 x hF1 k1 xr => ?_
    cases z
    exact q F1 H1 σ x hF1 k1 xr
def sRet (g : Rho → Option (Rs D)) : Rho → Option Out := fun ρ => oRs (g ρ) fun d ρ1 => some (.ret d ρ1)
theorem ds_ret {g : Rho → Option (Rs D)} (h : DE X W e g) : DS X W P (.Return (some e) pos) (sRet g) := by
  obtain ⟨t, h1, h2⟩ := h.ex
  refine ⟨_, ps_ret h1, fun c F H σ ρ τ θ D0 o hp k e q => ?_⟩
  refine eThen h2 k e q fun d ρ' F' H' v hF k' e' q' => ?_
  cases e'
  exact q' F' H' σ v (fun _ z => z) k'
def sRetN : Rho → Option Out := fun ρ => some (.ret .non ρ)
theorem ds_retN : DS X W P (.Return none pos) sRetN := ⟨_, ps_retN, fun c F H σ ρ τ θ D0 o hp k e q => by
  cases e
  exact q F H σ .non (fun _ z => z) (k.push0 .non)⟩
def sDrop (g : Rho → Option (Rs D)) : Rho → Option Out := fun ρ => oRs (g ρ) fun _ ρ1 => some (.nx ρ1)
theorem ds_expr {g : Rho → Option (Rs D)} (h : DE X W e g) (hs : swapsWith e none pos.line X.env = pure false := by rfl) : DS X W P (.Expr e pos) (sDrop g) := by
  obtain ⟨t, h1, h2⟩ := h.ex
  refine ⟨_, ps_expr h1 hs, fun c F H σ ρ τ θ D0 o hp k e q => ?_⟩
  refine eThen h2 k e q fun d ρ' F' H' v hF k' e' q' => ?_
  cases e'
  exact q' F' H' σ (fun _ z => z) k'.drop
/-- name = e -/
def rSet (i : Nat) (s : Bool × D) (ρ : Rho) : Option Rho := if i < ρ.length then some (ρ.set i (some s)) else none
theorem rSet_some {i : Nat} {s : Bool × D} {ρ ρ' : Rho} (h : rSet i s ρ = some ρ') : i < ρ.length ∧ ρ' = ρ.set i (some s) := by
  unfold rSet at h
  split at h
  · rename_i q
    cases h
    exact ⟨q, rfl⟩
  · cases h
def sSet (i : Nat) (g : Rho → Option (Rs D)) : Rho → Option Out := fun ρ => oRs (g ρ) fun d ρ1 => (rSet i (false, d) ρ1).map .nx
theorem pin_ne {c : Cn} {P : List Nat} {i : Nat} (hp : ∀ p ∈ c.pin, p.1 ∈ P) (hi : P.contains i = false) : ∀ p ∈ c.pin, p.1 ≠ i := fun p hpp e => by
  have := hp p hpp
  rw [e] at this
  rw [List.contains_iff_mem.mpr this] at hi
  cases hi
theorem set_end {i : Nat} {d : D} {ρ : Rho} {o : Out} {c : Cn} {F : Addr → Prop} {H : Hp} {σ : L2.St} {τ : List V} {θ : List D} {D0 : Ends} {v : V} (hp : ∀ p ∈ c.pin, p.1 ∈ P) (hP : P.contains i = false)
    (k : Ok X.K c F H σ ρ (v :: τ) (d :: θ)) (e : (rSet i (false, d) ρ).map Out.nx = some o) (q : Post X.K c F W D0 τ θ o) : D0.nx (σ.set i (some v)) H := by
  obtain ⟨ρ', e1, rfl⟩ := map_some' e
  obtain ⟨hi, rfl⟩ := rSet_some e1
  exact q F H _ (fun _ z => z) (k.store hi (pin_ne hp hP))
theorem ds_set (i : Nat) {x : Str} {pos' : Pos} {g : Rho → Option (Rs D)} (h : DE X W e g) (hN : X.N.Nodup) (hP : P.contains i = false := by rfl) (hi : X.N[i]? = some x := by rfl) (hx : Loc X.env.scope x := by first | exact Or.inl rfl | exact Or.inr rfl)
    (hs : swapsWith e (some (.Name x pos')) pos.line X.env = pure false := by rfl) (hf : X.fn x = true ∨ X.env.scope.names.lookup x = some .local := by first | exact .inl rfl | exact .inr rfl | assumption) :
    DS X W P (.Assign [.Name x pos'] e pos) (sSet i g) := by
  obtain ⟨t, h1, h2⟩ := h.ex
  refine ⟨_, ps_set hN hi hx h1 hs hf, fun c F H σ ρ τ θ D0 o hp k e q => ?_⟩
  exact eThen h2 k e q fun d ρ' F' H' v hF k' e' q' => set_end hp hP k' e' q'
/-- name = a look -/
def sSetV (i : Nat) (g : Rho → Option D) : Rho → Option Out := fun ρ => (g ρ).bind fun d => (rSet i (!isFz d, d) ρ).map .nx
theorem Ok.storeW {K : PySem.W.Frag} {c : Cn} {F : Addr → Prop} {H : Hp} {σ : L2.St} {ρ : Rho} {τ : List V} {θ : List D} {i : Nat} {d : D} {v : V} {l : List Addr} (k : Ok K c F H σ ρ τ θ) (r : Rp K F H v d l) (hi : i < ρ.length) (hp : ∀ p ∈ c.pin, p.1 ≠ i) :
    Ok K c F H (σ.set i (some v)) (ρ.set i (some (!isFz d, d))) τ θ := by
  cases e : isFz d with
  | true =>
    have := r.isFz e
    subst this
    exact (k.push0 r).store hi hp
  | false => exact k.storeV r hi hp
theorem ds_setV (i : Nat) {x : Str} {pos' : Pos} {g : Rho → Option D} (h : DV X e g) (hN : X.N.Nodup) (hP : P.contains i = false := by rfl) (hi : X.N[i]? = some x := by rfl) (hx : Loc X.env.scope x := by first | exact Or.inl rfl | exact Or.inr rfl)
    (hs : swapsWith e (some (.Name x pos')) pos.line X.env = pure false := by rfl) (hf : X.fn x = true ∨ X.env.scope.names.lookup x = some .local := by first | exact .inl rfl | exact .inr rfl | assumption) :
    DS X W P (.Assign [.Name x pos'] e pos) (sSetV i g) := by
  obtain ⟨t, h1, h2⟩ := h.ex
  refine ⟨_, ps_set hN hi hx h1 hs hf, fun c F H σ ρ τ θ D0 o hp k e q => ?_⟩
  obtain ⟨d, e1, e⟩ := bind_some' e
  obtain ⟨ρ', e2, rfl⟩ := map_some' e
  obtain ⟨hi, rfl⟩ := rSet_some e2
  refine h2 c F H σ ρ τ θ _ d k e1 fun F1 H1 v l hF1 k1 r1 => ?_
  exact q F1 H1 _ hF1.sub (k1.storeW r1 hi (pin_ne hp hP))
def sIf (t : Rho → Option (Rs Bool)) (g h : Rho → Option Out) : Rho → Option Out := fun ρ => oRs (t ρ) fun b ρ1 => if b = true then g ρ1 else h ρ1
theorem ds_if {cnd : Expr} {s1 s2 : List Stmt} {t : Rho → Option (Rs Bool)} {g h : Rho → Option Out} (x : DTE X W cnd t) (y : DSs X W P s1 g) (z : DSs X W P s2 h) : DS X W P (.If cnd s1 s2 pos) (sIf t g h) := by
  obtain ⟨t1, h1, h2⟩ := x.ex
  obtain ⟨u, u1, u2⟩ := y.ex
  obtain ⟨w, w1, w2⟩ := z.ex
  refine ⟨_, ps_if h1 u1 w1, fun c F H σ ρ τ θ D0 o hp k e q => ?_⟩
  rcases oRs_some e with ⟨b, ρ1, e1, e⟩ | ⟨C, fs, ρ1, e1, rfl⟩
  · refine h2 c F H σ ρ τ θ _ _ k e1 (fun b' ρ' z F1 H1 hF1 k1 => ?_) fun C fs ρ' z => by cases z
    cases z
    cases b with
    | true =>
      rw [if_pos rfl] at e
      exact iteT (u2 c F1 H1 σ ρ1 τ θ D0 o hp k1 e (q.mono hF1))
    | false =>
      rw [if_neg Bool.false_ne_true] at e
      exact iteF (w2 c F1 H1 σ ρ1 τ θ D0 o hp k1 e (q.mono hF1))
  · refine h2 c F H σ ρ τ θ _ _ k e1 (fun d' ρ' z => by cases z) fun C fs ρ' z F1 H1 x hF1 k1 xr => ?_
    cases z
    exact q F1 H1 σ x hF1 k1 xr

/-! ### while -/
def whileN (t : Rho → Option (Rs Bool)) (g : Rho → Option Out) : Nat → Rho → Option Out
  | 0, _ => none
  | n + 1, ρ => oRs (t ρ) fun b ρ1 => if b = true then (g ρ1).bind fun
      | .nx ρ2 => whileN t g n ρ2
      | .cnt ρ2 => whileN t g n ρ2
      | .brk ρ2 => some (.nx ρ2)
      | o => some o
    else some (.nx ρ1)
theorem whileN_mono {t : Rho → Option (Rs Bool)} {g : Rho → Option Out} : ∀ {n m : Nat} {ρ : Rho} {o : Out}, n ≤ m → whileN t g n ρ = some o → whileN t g m ρ = some o
  | 0, _, _, _, _, e => by cases e
  | n + 1, 0, _, _, h, _ => absurd h (by omega)
  | n + 1, m + 1, ρ, o, h, e => by
    rw [whileN] at e ⊢
    rcases oRs_some e with ⟨b, ρ1, e1, e⟩ | ⟨C, fs, ρ1, e1, rfl⟩
    · rw [e1]
      show (if b = true then _ else _) = _
      cases b with
      | false => exact e
      | true =>
        rw [if_pos rfl] at e ⊢
        obtain ⟨o1, e2, e⟩ := bind_some' e
        rw [e2, Option.bind_some]
        cases o1 with
        | nx ρ2 => exact whileN_mono (Nat.le_of_succ_le_succ h) e
        | cnt ρ2 => exact whileN_mono (Nat.le_of_succ_le_succ h) e
        | brk ρ2 => exact e
        | ret d ρ2 => exact e
        | ex C fs ρ2 => exact e
    · rw [e1]
      rfl
open Classical in
/-- the loop's end, where it ends -/
noncomputable def sWhile (t : Rho → Option (Rs Bool)) (g : Rho → Option Out) : Rho → Option Out := fun ρ => if h : ∃ o n, whileN t g n ρ = some o then some h.choose else none
theorem sWhile_of {t : Rho → Option (Rs Bool)} {g : Rho → Option Out} {n : Nat} {ρ : Rho} {o : Out} (h : whileN t g n ρ = some o) : sWhile t g ρ = some o := by
  have hx : ∃ o n, whileN t g n ρ = some o := ⟨o, n, h⟩
  unfold sWhile
  rw [dif_pos hx]
  obtain ⟨m, hm⟩ := hx.choose_spec
  have h1 := whileN_mono (Nat.le_max_left n m) h
  have h2 := whileN_mono (Nat.le_max_right n m) hm
  rw [h1] at h2
  exact h2.symm
theorem of_sWhile {t : Rho → Option (Rs Bool)} {g : Rho → Option Out} {ρ : Rho} {o : Out} (h : sWhile t g ρ = some o) : ∃ n, whileN t g n ρ = some o := by
  unfold sWhile at h
  split at h
  · rename_i hx
    cases h
    exact hx.choose_spec
  · cases h
theorem ds_while {cnd : Expr} {body : List Stmt} {t : Rho → Option (Rs Bool)} {g : Rho → Option Out} (hpo : PassesOwn (model X.prog X.w) X.A X.env X.xe) (x : DTE X W cnd t) (y : DSs X W P body g) : DS X W P (.While cnd body [] pos) (sWhile t g) := by
  obtain ⟨t1, h1, h2⟩ := x.ex
  obtain ⟨u, u1, u2⟩ := y.ex
  refine ⟨_, ps_while hpo h1 u1, fun c F H σ ρ τ θ D0 o hp k e q => ?_⟩
  obtain ⟨n, e⟩ := of_sWhile e
  refine ⟨fun m σ H => ∃ F' ρ', (∀ a, F a → F' a) ∧ Ok X.K c F' H σ ρ' τ θ ∧ whileN t g m ρ' = some o, ⟨n, F, ρ, fun _ z => z, k, e⟩, ?_⟩
  rintro m σ1 H1 ⟨F1, ρ1, hF1, k1, e1⟩
  cases m with
  | zero => cases e1
  | succ m =>
    rw [whileN] at e1
    rcases oRs_some e1 with ⟨b, ρ2, e2, e1⟩ | ⟨C, fs, ρ2, e2, rfl⟩
    · refine h2 c F1 H1 σ1 ρ1 τ θ _ _ k1 e2 (fun b' ρ' z F2 H2 hF2 k2 => ?_) fun C fs ρ' z => by cases z
      cases z
      have hF12 : ∀ a, F a → F2 a := fun a z => hF2 a (hF1 a z)
      cases b with
      | false =>
        rw [if_neg Bool.false_ne_true] at e1
        cases e1
        exact iteF (q F2 H2 σ1 hF12 k2)
      | true =>
        rw [if_pos rfl] at e1
        obtain ⟨o1, e3, e1⟩ := bind_some' e1
        refine iteT ⟨fun σ' H' => ∃ F' ρ', (∀ a, F a → F' a) ∧ Ok X.K c F' H' σ' ρ' τ θ ∧ whileN t g m ρ' = some o, fun σ' H' h => ⟨m, Nat.lt_succ_self m, h⟩, ?_⟩
        refine u2 c F2 H2 σ1 ρ2 τ θ _ o1 hp k2 e3 ?_
        cases o1 with
        | nx ρ3 => exact fun F3 H3 σ3 hF3 k3 => ⟨F3, ρ3, fun a z => hF3 a (hF12 a z), k3, e1⟩
        | cnt ρ3 => exact fun F3 H3 σ3 hF3 k3 => ⟨F3, ρ3, fun a z => hF3 a (hF12 a z), k3, e1⟩
        | brk ρ3 => cases e1; exact fun F3 H3 σ3 hF3 k3 => q F3 H3 σ3 (fun a z => hF3 a (hF12 a z)) k3
        | ret d ρ3 => cases e1; exact q.mono hF12
        | ex C fs ρ3 => cases e1; exact q.mono hF12
    · refine h2 c F1 H1 σ1 ρ1 τ θ _ _ k1 e2 (fun d' ρ' z => by cases z) fun C fs ρ' z F2 H2 x hF2 k2 xr => ?_
      cases z
      exact q F2 H2 σ1 x (fun a z => hF2 a (hF1 a z)) k2 xr

/-! ### targets -/
/-- a target takes a look -/
structure DG (X : Cx) (P S : List Nat) (tg : Expr) (g : D → Rho → Option Rho) : Prop where
  ex : ∃ t, PG X tg t ∧ ∀ (c : Cn) (F : Addr → Prop) (H : Hp) (σ : L2.St) (ρ ρ' : Rho) (τ : List V) (θ : List D) (v : V) (d : D) (l : List Addr) (Q : L2.St → Hp → Prop), (∀ p ∈ c.pin, p.1 ∈ P) → Ok X.K c F H σ ρ τ θ → Rp X.K F H v d l → g d ρ = some ρ' →
    (∀ σ', Ok X.K c F H σ' ρ' τ θ → (∀ vs, (∀ j ∈ S, j ∈ vs) → wipe σ' vs = wipe σ vs) → Q σ' H) → t v σ H Q
structure DGs (X : Cx) (P S : List Nat) (tgs : List Expr) (g : List D → Rho → Option Rho) : Prop where
  ex : ∃ t, PGs X tgs t ∧ ∀ (c : Cn) (F : Addr → Prop) (H : Hp) (σ : L2.St) (ρ ρ' : Rho) (τ : List V) (θ : List D) (vs : List V) (ds : List D) (l : List Addr) (Q : L2.St → Hp → Prop), (∀ p ∈ c.pin, p.1 ∈ P) → Ok X.K c F H σ ρ τ θ → Rps X.K F H vs ds l → g ds ρ = some ρ' →
    (∀ σ', Ok X.K c F H σ' ρ' τ θ → (∀ vs, (∀ j ∈ S, j ∈ vs) → wipe σ' vs = wipe σ vs) → Q σ' H) → t vs σ H Q
theorem wipe_set {σ : L2.St} {i : Nat} {x : Option V} : ∀ {vs : List Nat}, i ∈ vs → wipe (σ.set i x) vs = wipe σ vs
  | v :: vs, h => by
    unfold wipe
    by_cases e : i = v
    · subst e
      have q : ∀ us : List Nat, wipe (σ.set i x) us = (wipe σ us).set i ((wipe (σ.set i x) us)[i]?.getD none) ∨ wipe (σ.set i x) us = wipe σ us := by
        intro us
        induction us with
        | nil =>
          by_cases hl : i < σ.length
          · left
            unfold wipe
            rw [List.getElem?_set_self hl]
            rfl
          · right
            unfold wipe
            exact List.set_eq_of_length_le (by omega)
        | cons u us ih =>
          unfold wipe
          by_cases eu : u = i
          · subst eu
            rcases ih with ih | ih
            · right
              rw [ih, List.set_set]
            · right
              rw [ih]
          · rcases ih with ih | ih
            · left
              rw [List.getElem?_set_ne eu]
              rw [List.set_comm _ _ eu, ← ih]
            · right
              rw [ih]
      rcases q vs with q | q
      · rw [q, List.set_set]
      · rw [q]
    · rw [wipe_set (vs := vs) (by simpa [e] using h)]
def hName (i : Nat) : D → Rho → Option Rho := fun d ρ => rSet i (!isFz d, d) ρ
theorem dg_name (i : Nat) {x : Str} (hN : X.N.Nodup) (hP : P.contains i = false := by rfl) (hi : X.N[i]? = some x := by rfl) (hx : Loc X.env.scope x := by first | exact Or.inl rfl | exact Or.inr rfl)
    (hf : X.fn x = true ∨ X.env.scope.names.lookup x = some .local := by first | exact .inl rfl | exact .inr rfl | assumption) : DG X P [i] (.Name x pos) (hName i) := by
  refine ⟨_, pg_name hN hi hx hf, fun c F H σ ρ ρ' τ θ v d l Q hp k r e q => ?_⟩
  obtain ⟨hl, rfl⟩ := rSet_some e
  exact q _ (k.storeW r hl (pin_ne hp hP)) fun vs z => wipe_set (z i List.mem_cons_self)
def hNil : List D → Rho → Option Rho := fun ds ρ => match ds with
  | [] => some ρ
  | _ => none
def hCons (g : D → Rho → Option Rho) (h : List D → Rho → Option Rho) : List D → Rho → Option Rho := fun ds ρ => match ds with
  | d :: r => (g d ρ).bind (h r)
  | [] => none
theorem dgs_nil : DGs X P [] [] hNil := by
  refine ⟨_, pgs_nil, fun c F H σ ρ ρ' τ θ vs ds l Q hp k r e q => ?_⟩
  cases r with
  | nil => cases e; exact ⟨rfl, q σ k fun _ _ => rfl⟩
  | cons _ _ => cases e
theorem dgs_cons {S S' : List Nat} {es : List Expr} {g : D → Rho → Option Rho} {h : List D → Rho → Option Rho} (x : DG X P S e g) (y : DGs X P S' es h) (hs : (assignEach (e :: es) X.env).map (·.2) = assign e X.env :: (assignEach es X.env).map (·.2) := by rfl) : DGs X P (S ++ S') (e :: es) (hCons g h) := by
  obtain ⟨t, h1, h2⟩ := x.ex
  obtain ⟨u, u1, u2⟩ := y.ex
  refine ⟨_, pgs_cons h1 u1 hs, fun c F H σ ρ ρ' τ θ vs ds l Q hp k r e q => ?_⟩
  cases r with
  | nil => cases e
  | cons r1 r2 =>
    obtain ⟨ρ1, e1, e⟩ := bind_some' e
    exact ⟨_, _, rfl, h2 c F H σ ρ ρ1 τ θ _ _ _ _ hp k r1 e1 fun σ1 k1 w1 => u2 c F H σ1 ρ1 ρ' τ θ _ _ _ Q hp k1 r2 e fun σ2 k2 w2 => q σ2 k2 fun vs z => (w2 vs fun j hj => z j (List.mem_append_right _ hj)).trans (w1 vs fun j hj => z j (List.mem_append_left _ hj))⟩
def hTup (n : Nat) (h : List D → Rho → Option Rho) : D → Rho → Option Rho := fun d ρ => match d with
  | .tup ds => if ds.length = n then h ds ρ else none
  | _ => none
theorem dg_tup {S : List Nat} {es : List Expr} {k0 : Nat} {h : List D → Rho → Option Rho} {n : Nat} (hc : X.calm = true) (y : DGs X P S es h)
    (hn : (assignEach es X.env).length = n := by rfl) (hst : (assignEach es X.env).findIdx? (·.1) = none := by rfl) : DG X P S (.Tuple es k0 pos) (hTup n h) := by
  obtain ⟨u, u1, u2⟩ := y.ex
  refine ⟨_, pg_tup hc u1 hn hst, fun c F H σ ρ ρ' τ θ v d l Q hp k r e q => ?_⟩
  unfold hTup at e
  split at e
  · rename_i ds
    split at e
    · rename_i hl
      cases r with
      | tup hs r => exact ⟨_, _, rfl, hs.sq, by rw [r.length]; exact hl, u2 c F H σ ρ ρ' τ θ _ _ _ Q hp k r e q⟩
    · cases e
  · cases e
end
end DL

set_option Elab.async false
set_option linter.all false
set_option maxRecDepth 100000
set_option maxHeartbeats 4000000
/-! DLF: what is walked, for, comprehensions. -/
namespace DL
open PySem PySem.Spec PyProof.Rows L2
/-- at each state in which ws are the data es, J goes through ds -/
def Walks (K : PySem.W.Frag) (J : It) (ws : List V) (es ds : List D) : Prop := ∀ (c : Cn) (F : Addr → Prop) (H : Hp) (σ : L2.St) (ρ : Rho) (τ : List V) (θ : List D), Ok K c F H σ ρ (ws ++ τ) (es ++ θ) →
  ∀ i : Nat, (∀ d, ds[i]? = some d → J.go i H ∧ ∀ x H', J.yld i H x H' → ∃ (F' : Addr → Prop) (l : List Addr), Ext F H F' H' ∧ (∀ a, F' a → H' a ≠ none) ∧ Rp K F' H' x d l) ∧ (ds.length ≤ i → J.stop i H)
/-- .. at each later state at which nothing old has changed -/
def WalksX (K : PySem.W.Frag) (J : It) (F0 : Addr → Prop) (H0 : Hp) (ds : List D) : Prop := ∀ (F : Addr → Prop) (H : Hp), Ext F0 H0 F H → (∀ a, F a → H a ≠ none) →
  ∀ i : Nat, (∀ d, ds[i]? = some d → J.go i H ∧ ∀ x H', J.yld i H x H' → ∃ (F' : Addr → Prop) (l : List Addr), Ext F H F' H' ∧ (∀ a, F' a → H' a ≠ none) ∧ Rp K F' H' x d l) ∧ (ds.length ≤ i → J.stop i H)
structure DI (X : Cx) (W : WX) (tg iter : Expr) (g : Rho → Option (Rs (List D))) : Prop where
  ex : ∃ wi, PI X tg iter wi ∧ ∀ (c : Cn) (F : Addr → Prop) (H : Hp) (σ : L2.St) (ρ : Rho) (τ : List V) (θ : List D) (R : It → Hp → Prop) (r : Rs (List D)), Ok X.K c F H σ ρ τ θ → g ρ = some r →
    (∀ ds ρ', r = .ok ds ρ' → ∀ (F' : Addr → Prop) (H' : Hp) (J : It) (ws : List V) (es : List D), (∀ a, F a → F' a) → ws.length = es.length → Ok X.K c F' H' σ ρ' (ws ++ τ) (es ++ θ) → Walks X.K J ws es ds → R J H') →
    (∀ C fs ρ', r = .ex C fs ρ' → ∀ (F' : Addr → Prop) (H' : Hp) (q : Option Addr), (∀ a, F a → F' a) → Ok X.K c F' H' σ ρ' τ θ → XRep X.K F' H' q fs → W (.ref C) q σ H') → wi σ H R
structure DIv (X : Cx) (tg iter : Expr) (g : Rho → Option (List D)) : Prop where
  ex : ∃ wi, PI X tg iter wi ∧ ∀ (c : Cn) (F : Addr → Prop) (H : Hp) (σ : L2.St) (ρ : Rho) (τ : List V) (θ : List D) (R : It → Hp → Prop) (ds : List D), Ok X.K c F H σ ρ τ θ → g ρ = some ds →
    (∀ (F' : Addr → Prop) (H' : Hp) (J : It), Ext F H F' H' → Ok X.K c F' H' σ ρ τ θ → WalksX X.K J F' H' ds → R J H') → wi σ H R
section
variable {K : PySem.W.Frag} {F : Addr → Prop} {H : Hp}
/-- one turn -/
abbrev Turns (K : PySem.W.Frag) (J : It) (F : Addr → Prop) (H : Hp) (ds : List D) : Prop := ∀ i : Nat, (∀ d, ds[i]? = some d → J.go i H ∧ ∀ x H', J.yld i H x H' → ∃ (F' : Addr → Prop) (l : List Addr), Ext F H F' H' ∧ (∀ a, F' a → H' a ≠ none) ∧ Rp K F' H' x d l) ∧ (ds.length ≤ i → J.stop i H)
theorem turns_list {a : Addr} {b : Bool} {xs : List D} {l : List Addr} (dom : ∀ a, F a → H a ≠ none) (r : Rp K F H (.ref a) (.lst b xs) l) : Turns K (Itl K a) F H xs := by
  obtain ⟨vs, m, hs, hr⟩ : ∃ vs m, SqL K H a vs ∧ Rps K F H vs xs m := by
    cases r with
    | lstF h r => exact ⟨_, _, h.sq, r⟩
    | lstO h r => exact ⟨_, _, SqL.of h, r⟩
  refine fun i => ⟨fun d e => ?_, fun e => ⟨vs, hs, by rw [hr.length]; exact e⟩⟩
  obtain ⟨v, m', h1, h2, _⟩ := hr.get e
  refine ⟨⟨vs, v, hs, h1⟩, fun x H' y => ?_⟩
  obtain ⟨rfl, y⟩ := y
  have := y vs hs
  rw [h1] at this
  cases this
  exact ⟨F, m', .refl, dom, h2⟩
theorem turns_tup {a : Addr} {xs : List D} {l : List Addr} (dom : ∀ a, F a → H a ≠ none) (r : Rp K F H (.ref a) (.tup xs) l) : Turns K (Itt K a) F H xs := by
  obtain ⟨vs, m, hs, hr⟩ : ∃ vs m, SqT K H a vs ∧ Rps K F H vs xs m := by
    cases r with
    | tup h r => exact ⟨_, _, h.sq, r⟩
  refine fun i => ⟨fun d e => ?_, fun e => ⟨vs, hs, by rw [hr.length]; exact e⟩⟩
  obtain ⟨v, m', h1, h2, _⟩ := hr.get e
  refine ⟨⟨vs, v, hs, h1⟩, fun x H' y => ?_⟩
  obtain ⟨rfl, y⟩ := y
  have := y vs hs
  rw [h1] at this
  cases this
  exact ⟨F, m', .refl, dom, h2⟩
/-- lo, lo + 1, .. (n of them) -/
def rng (lo : Int) (n : Nat) : List D := (List.range n).map fun i : Nat => D.int (lo + (i : Int))
theorem rng_len (lo : Int) (n : Nat) : (rng lo n).length = n := by unfold rng; simp
theorem rng_get {lo : Int} {n i : Nat} {d : D} (h : (rng lo n)[i]? = some d) : i < n ∧ d = .int (lo + (i : Int)) := by
  have hi : i < n := by
    have := (List.getElem?_eq_some_iff.mp h).1
    rwa [rng_len] at this
  refine ⟨hi, ?_⟩
  unfold rng at h
  rw [List.getElem?_map, List.getElem?_range hi] at h
  cases h
  rfl
theorem turns_rng {lo : Int} {n : Nat} (dom : ∀ a, F a → H a ≠ none) : Turns K (Itr lo n) F H (rng lo n) := by
  refine fun i => ⟨fun d e => ?_, fun e => by rw [rng_len] at e; exact e⟩
  obtain ⟨hi, rfl⟩ := rng_get e
  refine ⟨hi, fun x H' y => ?_⟩
  obtain ⟨rfl, rfl⟩ := y
  exact ⟨F, [], .refl, dom, .int _⟩
def signs (x : Str) : List D := x.cps.toList.map fun c => D.str ⟨#[c]⟩
theorem turns_str {x : Str} (dom : ∀ a, F a → H a ≠ none) : Turns K (Its x) F H (signs x) := by
  have hl : (signs x).length = x.cps.size := by unfold signs; simp
  refine fun i => ⟨fun d e => ?_, fun e => by rw [hl] at e; exact e⟩
  have hi : i < x.cps.size := by
    have := (List.getElem?_eq_some_iff.mp e).1
    rwa [hl] at this
  refine ⟨hi, fun v H' y => ?_⟩
  obtain ⟨rfl, c, h1, rfl⟩ := y
  unfold signs at e
  rw [List.getElem?_map, Array.getElem?_toList, h1] at e
  cases e
  exact ⟨F, [], .refl, dom, .str _⟩
theorem Ok.topR {c : Cn} {σ : L2.St} {ρ : Rho} {v : V} {d : D} {τ : List V} {θ : List D} (k : Ok K c F H σ ρ (v :: τ) (d :: θ)) : ∃ l, Rp K F H v d l := k.top
end
section
variable {X : Cx} {W : WX} {tg e : Expr} {es : List Expr}
def iLst (g : Rho → Option (Rs D)) : Rho → Option (Rs (List D)) := fun ρ => rsB (g ρ) fun d ρ1 => match d with
  | .lst _ xs => some (.ok xs ρ1)
  | _ => none
theorem di_list {g : Rho → Option (Rs D)} (h : DE X W e g) : DI X W tg e (iLst g) := by
  obtain ⟨t, h1, h2⟩ := h.ex
  refine ⟨_, pi_list h1, fun c F H σ ρ τ θ R r k e q qx => ?_⟩
  rcases rsB_some e with ⟨d, ρ1, e1, e⟩ | ⟨C, fs, ρ1, e1, rfl⟩
  · refine h2 c F H σ ρ τ θ _ _ k e1 (fun d' ρ' z F1 H1 v hF1 k1 => ?_) fun C fs ρ' z => by cases z
    cases z
    split at e
    · rename_i b xs
      cases e
      obtain ⟨l, r1⟩ := k1.top
      have hv : ∃ a, v = .ref a ∧ ∃ vs, SqL X.K H1 a vs := by
        cases r1 with
        | lstF h r => exact ⟨_, rfl, _, h.sq⟩
        | lstO h r => exact ⟨_, rfl, _, SqL.of h⟩
      obtain ⟨a, rfl, hs⟩ := hv
      exact ⟨a, rfl, hs, q _ _ rfl F1 H1 _ [.ref a] [.lst b xs] hF1 rfl k1 fun c F H σ ρ τ θ k => let ⟨_, r⟩ := k.top; turns_list k.dom r⟩
    · cases e
  · exact h2 c F H σ ρ τ θ _ _ k e1 (fun d ρ' z => by cases z) fun C fs ρ' z F1 H1 q hF1 k1 xr => by
      cases z
      exact qx _ _ _ rfl F1 H1 q hF1 k1 xr
def iTup (g : Rho → Option (Rs D)) : Rho → Option (Rs (List D)) := fun ρ => rsB (g ρ) fun d ρ1 => match d with
  | .tup xs => some (.ok xs ρ1)
  | _ => none
theorem di_tup {g : Rho → Option (Rs D)} (h : DE X W e g) : DI X W tg e (iTup g) := by
  obtain ⟨t, h1, h2⟩ := h.ex
  refine ⟨_, pi_tup h1, fun c F H σ ρ τ θ R r k e q qx => ?_⟩
  rcases rsB_some e with ⟨d, ρ1, e1, e⟩ | ⟨C, fs, ρ1, e1, rfl⟩
  · refine h2 c F H σ ρ τ θ _ _ k e1 (fun d' ρ' z F1 H1 v hF1 k1 => ?_) fun C fs ρ' z => by cases z
    cases z
    split at e
    · rename_i xs
      cases e
      obtain ⟨l, r1⟩ := k1.top
      have hv : ∃ a, v = .ref a ∧ ∃ vs, SqT X.K H1 a vs := by
        cases r1 with
        | tup h r => exact ⟨_, rfl, _, h.sq⟩
      obtain ⟨a, rfl, hs⟩ := hv
      exact ⟨a, rfl, hs, q _ _ rfl F1 H1 _ [.ref a] [.tup xs] hF1 rfl k1 fun c F H σ ρ τ θ k => let ⟨_, r⟩ := k.top; turns_tup k.dom r⟩
    · cases e
  · exact h2 c F H σ ρ τ θ _ _ k e1 (fun d ρ' z => by cases z) fun C fs ρ' z F1 H1 q hF1 k1 xr => by
      cases z
      exact qx _ _ _ rfl F1 H1 q hF1 k1 xr
def iStr (g : Rho → Option (Rs D)) : Rho → Option (Rs (List D)) := fun ρ => rsB (g ρ) fun d ρ1 => match d with
  | .str x => some (.ok (signs x) ρ1)
  | _ => none
theorem di_str {g : Rho → Option (Rs D)} (h : DE X W e g) : DI X W tg e (iStr g) := by
  obtain ⟨t, h1, h2⟩ := h.ex
  refine ⟨_, pi_str h1, fun c F H σ ρ τ θ R r k e q qx => ?_⟩
  rcases rsB_some e with ⟨d, ρ1, e1, e⟩ | ⟨C, fs, ρ1, e1, rfl⟩
  · refine h2 c F H σ ρ τ θ _ _ k e1 (fun d' ρ' z F1 H1 v hF1 k1 => ?_) fun C fs ρ' z => by cases z
    cases z
    split at e
    · rename_i x
      cases e
      obtain ⟨l, r1⟩ := k1.top
      have := r1.str_inv
      subst this
      exact ⟨x, rfl, q _ _ rfl F1 H1 _ [] [] hF1 rfl k1.drop fun c F H σ ρ τ θ k => turns_str k.dom⟩
    · cases e
  · exact h2 c F H σ ρ τ θ _ _ k e1 (fun d ρ' z => by cases z) fun C fs ρ' z F1 H1 q hF1 k1 xr => by
      cases z
      exact qx _ _ _ rfl F1 H1 q hF1 k1 xr
def okR (j : Int) : Bool := decide (-(2 ^ 62) ≤ j) && decide (j < 2 ^ 62)
theorem okR_of {j : Int} (h : okR j = true) : -(2 ^ 62) ≤ j ∧ j < 2 ^ 62 := by
  unfold okR at h
  rw [Bool.and_eq_true, decide_eq_true_eq, decide_eq_true_eq] at h
  exact h
def rng1 : List D → Option (List D)
  | [.int j] => if okR j = true then some (rng 0 j.toNat) else none
  | _ => none
def rng2 : List D → Option (List D)
  | [.int i, .int j] => if okR i = true ∧ okR j = true then some (rng i (j - i).toNat) else none
  | _ => none
def iRng (f : List D → Option (List D)) (g : Rho → Option (Rs (List D))) : Rho → Option (Rs (List D)) := fun ρ => rsB (g ρ) fun ds ρ1 => (f ds).map fun xs => .ok xs ρ1
theorem rng1_some {ds xs : List D} (h : rng1 ds = some xs) : ∃ j, ds = [.int j] ∧ okR j = true ∧ xs = rng 0 j.toNat := by
  unfold rng1 at h
  split at h
  · split at h
    · rename_i z
      cases h
      exact ⟨_, rfl, z, rfl⟩
    · cases h
  · cases h
theorem rng2_some {ds xs : List D} (h : rng2 ds = some xs) : ∃ i j, ds = [.int i, .int j] ∧ (okR i = true ∧ okR j = true) ∧ xs = rng i (j - i).toNat := by
  unfold rng2 at h
  split at h
  · split at h
    · rename_i z
      cases h
      exact ⟨_, _, rfl, z, rfl⟩
    · cases h
  · cases h
theorem Rps.int1 {K : PySem.W.Frag} {F : Addr → Prop} {H : Hp} {vs : List V} {j : Int} {l : List Addr} (r : Rps K F H vs [.int j] l) : vs = [.int j] := by
  cases r with
  | cons r1 r2 => cases r2; rw [r1.int_inv]
theorem Rps.int2 {K : PySem.W.Frag} {F : Addr → Prop} {H : Hp} {vs : List V} {i j : Int} {l : List Addr} (r : Rps K F H vs [.int i, .int j] l) : vs = [.int i, .int j] := by
  cases r with
  | cons r1 r2 => rw [r1.int_inv, r2.int1]
theorem Ok.drops {K : PySem.W.Frag} {c : Cn} {F : Addr → Prop} {H : Hp} {σ : L2.St} {ρ : Rho} {τ : List V} {θ : List D} : ∀ {ws : List V} {es : List D}, ws.length = es.length → Ok K c F H σ ρ (ws ++ τ) (es ++ θ) → Ok K c F H σ ρ τ θ
  | [], [], _, k => k
  | _ :: ws, _ :: es, h, k => Ok.drops (ws := ws) (es := es) (by simpa using h) (Ok.drop k)
theorem Ok.tops {K : PySem.W.Frag} {c : Cn} {F : Addr → Prop} {H : Hp} {σ : L2.St} {ρ : Rho} {τ : List V} {θ : List D} {ws : List V} {es : List D} (h : ws.length = es.length) (k : Ok K c F H σ ρ (ws ++ τ) (es ++ θ)) : ∃ l, Rps K F H ws es l := by
  obtain ⟨l, m, h1, h2, h3, h4⟩ := k.rep
  obtain ⟨v1, v2, m1, m2, e1, e2, r1, r2⟩ := h2.split
  obtain ⟨rfl, rfl⟩ := List.append_inj e1 (by rw [h, r1.length])
  exact ⟨_, r1⟩
theorem di_range1 {a : Expr} {g : Rho → Option (Rs (List D))} {p pos : Pos} (hg : Gl X "range") (hm : X.mg "range" = none) (h : DEs X W [a] [none] g) (hs : starEach [a] X.env = [(false, eval a X.env)] := by rfl) : DI X W tg (.Call (.Name "range" p) [a] [] pos) (iRng rng1 g) := by
  obtain ⟨t, h1, h2⟩ := h.ex
  refine ⟨_, pi_range1 hg hm h1 hs, fun c F H σ ρ τ θ R r k e q qx => ?_⟩
  rcases rsB_some e with ⟨ds, ρ1, e1, e⟩ | ⟨C, fs, ρ1, e1, rfl⟩
  · refine h2 c F H σ ρ τ θ _ _ k e1 (fun d' ρ' z F1 H1 vs ws hF1 ad hl k1 => ?_) fun C fs ρ' z => by cases z
    cases z
    obtain ⟨xs, e2, rfl⟩ := map_some' e
    have := Argd.vals (n := 1) ad
    subst this
    obtain ⟨l, r1⟩ := k1.tops hl
    obtain ⟨j, rfl, z, rfl⟩ := rng1_some e2
    exact ⟨j, r1.int1, (okR_of z).1, (okR_of z).2, q _ _ rfl F1 H1 _ [] [] hF1 rfl (k1.drops hl) fun c F H σ ρ τ θ k => turns_rng k.dom⟩
  · exact h2 c F H σ ρ τ θ _ _ k e1 (fun d ρ' z => by cases z) fun C fs ρ' z F1 H1 q hF1 k1 xr => by
      cases z
      exact qx _ _ _ rfl F1 H1 q hF1 k1 xr
theorem di_range2 {a b : Expr} {g : Rho → Option (Rs (List D))} {p pos : Pos} (hg : Gl X "range") (hm : X.mg "range" = none) (h : DEs X W [a, b] [none, none] g) (hs : starEach [a, b] X.env = [(false, eval a X.env), (false, eval b X.env)] := by rfl) (hs2 : starEach [b] X.env = [(false, eval b X.env)] := by rfl) : DI X W tg (.Call (.Name "range" p) [a, b] [] pos) (iRng rng2 g) := by
  obtain ⟨t, h1, h2⟩ := h.ex
  refine ⟨_, pi_range2 hg hm h1 hs hs2, fun c F H σ ρ τ θ R r k e q qx => ?_⟩
  rcases rsB_some e with ⟨ds, ρ1, e1, e⟩ | ⟨C, fs, ρ1, e1, rfl⟩
  · refine h2 c F H σ ρ τ θ _ _ k e1 (fun d' ρ' z F1 H1 vs ws hF1 ad hl k1 => ?_) fun C fs ρ' z => by cases z
    cases z
    obtain ⟨xs, e2, rfl⟩ := map_some' e
    have := Argd.vals (n := 2) ad
    subst this
    obtain ⟨l, r1⟩ := k1.tops hl
    obtain ⟨i, j, rfl, z, rfl⟩ := rng2_some e2
    exact ⟨i, j, r1.int2, ⟨(okR_of z.1).1, (okR_of z.1).2, (okR_of z.2).1, (okR_of z.2).2⟩, q _ _ rfl F1 H1 _ [] [] hF1 rfl (k1.drops hl) fun c F H σ ρ τ θ k => turns_rng k.dom⟩
  · exact h2 c F H σ ρ τ θ _ _ k e1 (fun d ρ' z => by cases z) fun C fs ρ' z F1 H1 q hF1 k1 xr => by
      cases z
      exact qx _ _ _ rfl F1 H1 q hF1 k1 xr
/-! looks that are walked -/
def jLst (g : Rho → Option D) : Rho → Option (List D) := fun ρ => (g ρ).bind fun
  | .lst _ xs => some xs
  | _ => none
theorem div_list {g : Rho → Option D} (h : DV X e g) : DIv X tg e (jLst g) := by
  obtain ⟨t, h1, h2⟩ := h.ex
  refine ⟨_, pi_list h1, fun c F H σ ρ τ θ R ds k e q => ?_⟩
  obtain ⟨d, e1, e⟩ := bind_some' e
  refine h2 c F H σ ρ τ θ _ _ k e1 fun F1 H1 v l hF1 k1 r1 => ?_
  split at e
  · rename_i b xs
    cases e
    have hv : ∃ a, v = .ref a ∧ ∃ vs, SqL X.K H1 a vs := by
      cases r1 with
      | lstF h r => exact ⟨_, rfl, _, h.sq⟩
      | lstO h r => exact ⟨_, rfl, _, SqL.of h⟩
    obtain ⟨a, rfl, hs⟩ := hv
    exact ⟨a, rfl, hs, q F1 H1 _ hF1 k1 fun F H x dom => turns_list dom (x.rp r1)⟩
  · cases e
def jTup (g : Rho → Option D) : Rho → Option (List D) := fun ρ => (g ρ).bind fun
  | .tup xs => some xs
  | _ => none
theorem div_tup {g : Rho → Option D} (h : DV X e g) : DIv X tg e (jTup g) := by
  obtain ⟨t, h1, h2⟩ := h.ex
  refine ⟨_, pi_tup h1, fun c F H σ ρ τ θ R ds k e q => ?_⟩
  obtain ⟨d, e1, e⟩ := bind_some' e
  refine h2 c F H σ ρ τ θ _ _ k e1 fun F1 H1 v l hF1 k1 r1 => ?_
  split at e
  · rename_i xs
    cases e
    have hv : ∃ a, v = .ref a ∧ ∃ vs, SqT X.K H1 a vs := by
      cases r1 with
      | tup h r => exact ⟨_, rfl, _, h.sq⟩
    obtain ⟨a, rfl, hs⟩ := hv
    exact ⟨a, rfl, hs, q F1 H1 _ hF1 k1 fun F H x dom => turns_tup dom (x.rp r1)⟩
  · cases e
def jStr (g : Rho → Option D) : Rho → Option (List D) := fun ρ => (g ρ).bind fun
  | .str x => some (signs x)
  | _ => none
theorem div_str {g : Rho → Option D} (h : DV X e g) : DIv X tg e (jStr g) := by
  obtain ⟨t, h1, h2⟩ := h.ex
  refine ⟨_, pi_str h1, fun c F H σ ρ τ θ R ds k e q => ?_⟩
  obtain ⟨d, e1, e⟩ := bind_some' e
  refine h2 c F H σ ρ τ θ _ _ k e1 fun F1 H1 v l hF1 k1 r1 => ?_
  split at e
  · rename_i x
    cases e
    have := r1.str_inv
    subst this
    exact ⟨x, rfl, q F1 H1 _ hF1 k1 fun F H x dom => turns_str dom⟩
  · cases e
def jRng (f : List D → Option (List D)) (g : Rho → Option (List D)) : Rho → Option (List D) := fun ρ => (g ρ).bind f
theorem div_range1 {a : Expr} {g : Rho → Option (List D)} {p pos : Pos} (hg : Gl X "range") (hm : X.mg "range" = none) (h : DVs X [a] g) (hs : starEach [a] X.env = [(false, eval a X.env)] := by rfl) : DIv X tg (.Call (.Name "range" p) [a] [] pos) (jRng rng1 g) := by
  obtain ⟨t, h1, h2⟩ := h.ex
  refine ⟨_, pi_range1 hg hm h1 hs, fun c F H σ ρ τ θ R ds k e q => ?_⟩
  obtain ⟨d, e1, e⟩ := bind_some' e
  refine h2 c F H σ ρ τ θ _ _ k e1 fun F1 H1 vs l hF1 k1 r1 => ?_
  obtain ⟨j, rfl, z, rfl⟩ := rng1_some e
  exact ⟨j, r1.int1, (okR_of z).1, (okR_of z).2, q F1 H1 _ hF1 k1 fun F H x dom => turns_rng dom⟩
theorem div_range2 {a b : Expr} {g : Rho → Option (List D)} {p pos : Pos} (hg : Gl X "range") (hm : X.mg "range" = none) (h : DVs X [a, b] g) (hs : starEach [a, b] X.env = [(false, eval a X.env), (false, eval b X.env)] := by rfl) (hs2 : starEach [b] X.env = [(false, eval b X.env)] := by rfl) : DIv X tg (.Call (.Name "range" p) [a, b] [] pos) (jRng rng2 g) := by
  obtain ⟨t, h1, h2⟩ := h.ex
  refine ⟨_, pi_range2 hg hm h1 hs hs2, fun c F H σ ρ τ θ R ds k e q => ?_⟩
  obtain ⟨d, e1, e⟩ := bind_some' e
  refine h2 c F H σ ρ τ θ _ _ k e1 fun F1 H1 vs l hF1 k1 r1 => ?_
  obtain ⟨i, j, rfl, z, rfl⟩ := rng2_some e
  exact ⟨i, j, r1.int2, ⟨(okR_of z.1).1, (okR_of z.1).2, (okR_of z.2).1, (okR_of z.2).2⟩, q F1 H1 _ hF1 k1 fun F H x dom => turns_rng dom⟩
end

/-! ### for -/
def forL (h : D → Rho → Option Rho) (g : Rho → Option Out) : List D → Rho → Option Out
  | [], ρ => some (.nx ρ)
  | d :: ds, ρ => (h d ρ).bind fun ρ1 => (g ρ1).bind fun
    | .nx ρ2 => forL h g ds ρ2
    | .cnt ρ2 => forL h g ds ρ2
    | .brk ρ2 => some (.nx ρ2)
    | o => some o
def sFor (s : Rho → Option (Rs (List D))) (h : D → Rho → Option Rho) (g : Rho → Option Out) : Rho → Option Out := fun ρ => oRs (s ρ) fun ds ρ1 => forL h g ds ρ1
section
variable {X : Cx} {W : WX} {P S : List Nat} {tg iter : Expr} {body : List Stmt} {pos : Pos}
theorem Post.drops {K : PySem.W.Frag} {c : Cn} {F : Addr → Prop} {D0 : Ends} {τ : List V} {θ : List D} {ws : List V} {es : List D} (hl : ws.length = es.length) {o : Out} (q : Post K c F W D0 τ θ o) : Post K c F W D0 (ws ++ τ) (es ++ θ) o := by
  cases o with
  | nx ρ => exact fun F' H' σ' hF k => q F' H' σ' hF (k.drops hl)
  | brk ρ => exact fun F' H' σ' hF k => q F' H' σ' hF (k.drops hl)
  | cnt ρ => exact fun F' H' σ' hF k => q F' H' σ' hF (k.drops hl)
  | ret d ρ => exact fun F' H' σ' v hF k => q F' H' σ' v hF (by
      have k2 := k.rotL hl
      exact k2.drops hl)
  | ex C fs ρ => exact fun F' H' σ' x hF k => q F' H' σ' x hF (k.drops hl)
/-- the loop over what is walked -/
theorem for_walk {J : It} {ws : List V} {es ds : List D} {h : D → Rho → Option Rho} {g : Rho → Option Out} {tt : TG} {tb : TS} (hl : ws.length = es.length) (hw : Walks X.K J ws es ds)
    (ht : ∀ (c : Cn) (F : Addr → Prop) (H : Hp) (σ : L2.St) (ρ ρ' : Rho) (τ : List V) (θ : List D) (v : V) (d : D) (l : List Addr) (Q : L2.St → Hp → Prop), (∀ p ∈ c.pin, p.1 ∈ P) → Ok X.K c F H σ ρ τ θ → Rp X.K F H v d l → h d ρ = some ρ' →
      (∀ σ', Ok X.K c F H σ' ρ' τ θ → (∀ vs, (∀ j ∈ S, j ∈ vs) → wipe σ' vs = wipe σ vs) → Q σ' H) → tt v σ H Q)
    (hb : ∀ (c : Cn) (F : Addr → Prop) (H : Hp) (σ : L2.St) (ρ : Rho) (τ : List V) (θ : List D) (D0 : Ends) (o : Out), (∀ p ∈ c.pin, p.1 ∈ P) → Ok X.K c F H σ ρ τ θ → g ρ = some o → Post X.K c F W D0 τ θ o → tb D0 σ H)
    {c : Cn} {F : Addr → Prop} {H : Hp} {σ : L2.St} {ρ : Rho} {τ : List V} {θ : List D} {D0 : Ends} {o : Out} (hp : ∀ p ∈ c.pin, p.1 ∈ P) (k : Ok X.K c F H σ ρ (ws ++ τ) (es ++ θ)) (e : forL h g ds ρ = some o) (q : Post X.K c F W D0 τ θ o) :
    ∃ W' : Nat → Nat → L2.St → Hp → Prop, (∃ m, W' 0 m σ H) ∧ ∀ i m σ H, W' i m σ H →
      (J.stop i H ∧ D0.nx σ H) ∨ (J.go i H ∧ ∃ N : L2.St → Hp → Prop, (∀ σ' H', N σ' H' → ∃ m', m' < m ∧ W' (i + 1) m' σ' H') ∧ ∀ x H', J.yld i H x H' → tt x σ H' fun σ2 H2 => tb { D0 with nx := N, ct := N, bk := D0.nx } σ2 H2) := by
  refine ⟨fun i m σ H => m = ds.length - i ∧ i ≤ ds.length ∧ ∃ F' ρ', (∀ a, F a → F' a) ∧ Ok X.K c F' H σ ρ' (ws ++ τ) (es ++ θ) ∧ forL h g (ds.drop i) ρ' = some o, ⟨ds.length, by simp, Nat.zero_le _, F, ρ, fun _ z => z, k, e⟩, ?_⟩
  rintro i m σ1 H1 ⟨rfl, hi, F1, ρ1, hF1, k1, e1⟩
  obtain ⟨w1, w2⟩ := hw c F1 H1 σ1 ρ1 τ θ k1 i
  by_cases hlt : i < ds.length
  · obtain ⟨go, yl⟩ := w1 _ (List.getElem?_eq_getElem hlt)
    rw [List.drop_eq_getElem_cons hlt, forL] at e1
    obtain ⟨ρ2, e2, e1⟩ := bind_some' e1
    obtain ⟨o1, e3, e1⟩ := bind_some' e1
    refine .inr ⟨go, fun σ' H' => ∃ F' ρ', (∀ a, F a → F' a) ∧ Ok X.K c F' H' σ' ρ' (ws ++ τ) (es ++ θ) ∧ forL h g (ds.drop (i + 1)) ρ' = some o, fun σ' H' z => ⟨ds.length - (i + 1), by omega, rfl, hlt, z⟩, fun x H2 y => ?_⟩
    obtain ⟨F2, l, hx, dom, r⟩ := yl x H2 y
    have k2 := k1.grow hx dom
    refine ht c F2 H2 σ1 ρ1 ρ2 _ _ x _ l _ hp k2 r e2 fun σ3 k3 _ => ?_
    refine hb c F2 H2 σ3 ρ2 _ _ _ o1 hp k3 e3 ?_
    have hF2 : ∀ a, F a → F2 a := fun a z => hx.sub a (hF1 a z)
    cases o1 with
    | nx ρ3 => exact fun F3 H3 σ4 hF3 k4 => ⟨F3, ρ3, fun a z => hF3 a (hF2 a z), k4, e1⟩
    | cnt ρ3 => exact fun F3 H3 σ4 hF3 k4 => ⟨F3, ρ3, fun a z => hF3 a (hF2 a z), k4, e1⟩
    | brk ρ3 =>
      cases e1
      exact fun F3 H3 σ4 hF3 k4 => q F3 H3 σ4 (fun a z => hF3 a (hF2 a z)) (k4.drops hl)
    | ret d ρ3 =>
      cases e1
      exact (q.mono hF2).drops hl
    | ex C fs ρ3 =>
      cases e1
      exact (q.mono hF2).drops hl
  · have hi' : ds.length ≤ i := by omega
    rw [List.drop_of_length_le hi', forL] at e1
    cases e1
    exact .inl ⟨w2 hi', q F1 H1 σ1 hF1 (k1.drops hl)⟩
theorem ds_for {s : Rho → Option (Rs (List D))} {h : D → Rho → Option Rho} {g : Rho → Option Out} (hpo : PassesOwn (model X.prog X.w) X.A X.env X.xe) (hc : X.calm = true) (x : DI X W tg iter s) (y : DG X P S tg h) (z : DSs X W P body g)
    (hs : ∀ x, foldedSetIterable iter X.env x = pure x := by intro _; rfl) : DS X W P (.For tg iter body [] pos) (sFor s h g) := by
  obtain ⟨wi, w1, w2⟩ := x.ex
  obtain ⟨tt, t1, t2⟩ := y.ex
  obtain ⟨tb, b1, b2⟩ := z.ex
  refine ⟨_, ps_for hpo hc w1 t1 b1 hs, fun c F H σ ρ τ θ D0 o hp k e q => ?_⟩
  rcases oRs_some e with ⟨ds, ρ1, e1, e⟩ | ⟨C, fs, ρ1, e1, rfl⟩
  · refine w2 c F H σ ρ τ θ _ _ k e1 (fun ds' ρ' z F1 H1 J ws es hF1 hl k1 hw => ?_) fun C fs ρ' z => by cases z
    cases z
    exact for_walk hl hw t2 b2 hp k1 e (q.mono hF1)
  · refine w2 c F H σ ρ τ θ _ _ k e1 (fun d' ρ' z => by cases z) fun C fs ρ' z F1 H1 x hF1 k1 xr => ?_
    cases z
    exact q F1 H1 σ x hF1 k1 xr
end
end DL

set_option Elab.async false
set_option linter.all false
set_option maxRecDepth 100000
set_option maxHeartbeats 4000000
/-! DLG: comprehensions. -/
namespace DL
open PySem PySem.Spec PyProof.Rows L2

/-! ### slots forgotten -/
def wipeR (ρ : Rho) : List Nat → Rho
  | [] => ρ
  | v :: vs => (wipeR ρ vs).set v none
theorem wipeR_len (ρ : Rho) : ∀ vs : List Nat, (wipeR ρ vs).length = ρ.length
  | [] => rfl
  | v :: vs => by unfold wipeR; rw [List.length_set, wipeR_len ρ vs]
theorem wipeR_at {ρ : Rho} : ∀ {vs : List Nat} {i : Nat} {s : Bool × D}, (wipeR ρ vs)[i]? = some (some s) → i ∉ vs
  | [], _, _, _ => by simp
  | v :: vs, i, s, h => by
    unfold wipeR at h
    by_cases e : v = i
    · subst e
      by_cases hv : v < (wipeR ρ vs).length
      · rw [List.getElem?_set_self hv] at h
        cases h
      · rw [List.getElem?_eq_none (by rw [List.length_set]; omega)] at h
        cases h
    · rw [List.getElem?_set_ne e] at h
      simp only [List.mem_cons, not_or]
      exact ⟨fun q => e q.symm, wipeR_at h⟩
theorem wipe_at {σ : L2.St} : ∀ {vs : List Nat} {i : Nat}, i ∉ vs → (wipe σ vs)[i]? = σ[i]?
  | [], _, _ => rfl
  | v :: vs, i, h => by
    simp only [List.mem_cons, not_or] at h
    unfold wipe
    rw [List.getElem?_set_ne (fun q => h.1 q.symm), wipe_at h.2]
theorem wipe_wipe {σ : L2.St} : ∀ {vs : List Nat}, wipe (wipe σ vs) vs = wipe σ vs := by
  intro vs
  apply List.ext_getElem?
  intro i
  by_cases h : i ∈ vs
  · have z : ∀ {τ : L2.St} {us : List Nat}, i ∈ us → i < τ.length → (wipe τ us)[i]? = some none := by
      intro τ us
      induction us with
      | nil => intro h; cases h
      | cons u us ih =>
        intro h hl
        unfold wipe
        by_cases e : u = i
        · subst e
          rw [List.getElem?_set_self (by rw [wipe_length]; exact hl)]
        · rw [List.getElem?_set_ne e]
          exact ih ((List.mem_cons.mp h).elim (fun q => absurd q.symm e) id) hl
    by_cases hl : i < σ.length
    · rw [z h (by rw [wipe_length]; exact hl), z h hl]
    · rw [List.getElem?_eq_none (by rw [wipe_length, wipe_length]; omega), List.getElem?_eq_none (by rw [wipe_length]; omega)]
  · rw [wipe_at h]
section
variable {K : PySem.W.Frag} {c : Cn} {F : Addr → Prop} {H : Hp} {σ σ' : L2.St} {ρ : Rho} {τ : List V} {θ : List D}
theorem Slots.agree : ∀ {σ σ' : L2.St} {ρ : Rho} {L : List Addr}, Slots K F H σ ρ L → σ'.length = σ.length → (∀ (i : Nat) s, ρ[i]? = some (some s) → σ'[i]? = σ[i]?) → Slots K F H σ' ρ L
  | _, [], _, _, .nil, _, _ => .nil
  | _, x :: σ', _, _, .un h, hl, q => .un (h.agree (by simpa using hl) fun i s e => q (i + 1) s e)
  | _, x :: σ', _, _, .ow r h, hl, q => by
    have := q 0 _ rfl
    cases this
    exact .ow r (h.agree (by simpa using hl) fun i s e => q (i + 1) s e)
  | _, x :: σ', _, _, .vw r h, hl, q => by
    have := q 0 _ rfl
    cases this
    exact .vw r (h.agree (by simpa using hl) fun i s e => q (i + 1) s e)
  | _ :: _, [], _, _, .un h, hl, _ => by cases hl
  | _ :: _, [], _, _, .ow _ _, hl, _ => by cases hl
  | _ :: _, [], _, _, .vw _ _, hl, _ => by cases hl
theorem Ok.agree (k : Ok K c F H σ ρ τ θ) (hl : σ'.length = σ.length) (q : ∀ (i : Nat) s, ρ[i]? = some (some s) → σ'[i]? = σ[i]?) (hp : ∀ p ∈ c.pin, σ'[p.1]? = some (some p.2)) : Ok K c F H σ' ρ τ θ := by
  obtain ⟨l, m, h1, h2, h3, h4⟩ := k.rep
  exact ⟨⟨l, m, h1.agree hl q, h2, h3, h4⟩, k.dom, k.new, k.sub, k.fr, k.gr, hp⟩
/-- no pins -/
abbrev Cn.np (c : Cn) : Cn := { c with pin := [] }
theorem Ok.np (k : Ok K c F H σ ρ τ θ) : Ok K c.np F H σ ρ τ θ := ⟨k.rep, k.dom, k.new, k.sub, k.fr, k.gr, fun _ z => nomatch z⟩
theorem Ok.ofNp (k : Ok K c.np F H σ ρ τ θ) (hp : ∀ p ∈ c.pin, σ[p.1]? = some (some p.2)) : Ok K c F H σ ρ τ θ := ⟨k.rep, k.dom, k.new, k.sub, k.fr, k.gr, hp⟩
theorem Ok.unsets (k : Ok K c F H σ ρ τ θ) : ∀ vs : List Nat, Ok K c F H σ (wipeR ρ vs) τ θ
  | [] => k
  | v :: vs => (k.unsets vs).unset v
theorem Ok.wiped (k : Ok K c F H σ ρ τ θ) (vs : List Nat) : Ok K c.np F H (wipe σ vs) (wipeR ρ vs) τ θ :=
  (k.unsets vs).np.agree (wipe_length _ _) (fun i s e => wipe_at (wipeR_at e)) fun _ z => nomatch z
/-- an item is put to the end of a list that the temporaries own -/
theorem Ok.appT {y : V} {d : D} {a : Addr} {xs : List D} (k : Ok K c F H σ ρ (.ref a :: y :: τ) (.lst true xs :: d :: θ)) : ∃ acc, H a = some (.lst acc) ∧ acc.length = xs.length ∧ Ok K c F (upd H a (.lst (acc ++ [y]))) σ (DL.kill ρ) (.ref a :: τ) (.lst true (xs ++ [d]) :: θ) := by
  obtain ⟨L, m, h1, h2, h3, h4⟩ := k.rep
  cases h2 with
  | cons rD h2 =>
    cases h2 with
    | cons ry h2 =>
      rename_i lD ly m2
      cases rD with
      | lstO hH rs =>
        rename_i acc lx
        refine ⟨acc, hH, rs.length, ?_⟩
        have nd := List.nodup_append.mp h3
        have nd2 := List.nodup_cons.mp nd.2.1
        have na : ∀ b ∈ L ++ (lx ++ (ly ++ m2)), b ≠ a := fun b z e => by
          subst e
          rcases List.mem_append.mp z with z | z
          · exact nd.2.2 b z b List.mem_cons_self rfl
          · exact nd2.1 z
        have nF : ¬ F a := (h4 a (List.mem_append_right _ List.mem_cons_self)).1
        have keep : ∀ b o, (F b ∨ b ∈ L ++ (lx ++ (ly ++ m2))) → H b = some o → upd H a (.lst (acc ++ [y])) b = some o := fun b o z e => by
          rw [upd_ne]
          · exact e
          · rintro rfl
            rcases z with z | z
            · exact nF z
            · exact na _ z rfl
        have s1 := h1.frameK (F' := F) (H' := upd H a (.lst (acc ++ [y]))) (fun _ z => z) fun b o z => keep b o (z.imp id (List.mem_append_left _))
        have r1 : Rps K F (upd H a (.lst (acc ++ [y]))) acc xs lx := rs.frame (fun _ z => z) fun b o z => keep b o (z.imp id fun z => List.mem_append_right _ (List.mem_append_left _ z))
        have r2 : Rp K F (upd H a (.lst (acc ++ [y]))) y d ly := ry.frame (fun _ z => z) fun b o z => keep b o (z.imp id fun z => List.mem_append_right _ (List.mem_append_right _ (List.mem_append_left _ z)))
        have r3 : Rps K F (upd H a (.lst (acc ++ [y]))) τ θ m2 := h2.frame (fun _ z => z) fun b o z => keep b o (z.imp id fun z => List.mem_append_right _ (List.mem_append_right _ (List.mem_append_right _ z)))
        have eL : L ++ ((a :: (lx ++ ly)) ++ m2) = L ++ ((a :: lx) ++ (ly ++ m2)) := by simp
        refine ⟨⟨L, (a :: (lx ++ ly)) ++ m2, s1, .cons (.lstO upd_same (r1.append (.one r2))) r3, by rw [eL]; exact h3, fun b z => h4 b (by rw [← eL]; exact z)⟩, fun b f => ?_, k.new, k.sub, fun b o q n => ?_, fun b q => ?_, k.pin⟩
        · by_cases hb : b = a
          · exact absurd (hb ▸ f) nF
          · rw [upd_ne hb]
            exact k.dom b f
        · rw [upd_ne]
          · exact k.fr b o q n
          · rintro rfl
            rcases (h4 b (List.mem_append_right _ List.mem_cons_self)).2 with z | z
            · exact n z
            · rw [z] at q
              cases q
        · by_cases hb : b = a
          · rw [hb, upd_same]
            exact fun z => nomatch z
          · rw [upd_ne hb]
            exact k.gr b q
end

/-! ### readings that do not depend on the context -/
theorem peImp {X : Cx} {e : Expr} {t t' : TE} (h : PE X e t) (i : ∀ σ H Q, t' σ H Q → t σ H Q) : PE X e t' := ⟨fun pins s σ H Q I q => h.run pins s σ H Q I (i σ H Q q)⟩
theorem pgImp {X : Cx} {e : Expr} {t t' : TG} (h : PG X e t) (i : ∀ v σ H Q, t' v σ H Q → t v σ H Q) : PG X e t' := ⟨fun pins s σ H v u Q I r q => h.run pins s σ H v u Q I r (i v σ H Q q)⟩
theorem ptsImp {X : Cx} {e : List Expr} {t t' : TT} (h : PTs X e t) (i : ∀ σ H Q, t' σ H Q → t σ H Q) : PTs X e t' := ⟨fun pins s σ H Q I q => h.run pins s σ H Q I (i σ H Q q)⟩
abbrev W0 : WX := fun _ _ _ _ => False
def tDN (K : PySem.W.Frag) (g : Rho → Option (Xs D)) : TE := fun σ H Q => ∃ (c : Cn) (F : Addr → Prop) (ρ : Rho) (τ : List V) (θ : List D) (d : D), Ok K c F H σ ρ τ θ ∧ g ρ = some (.ok d) ∧
  ∀ (F' : Addr → Prop) (H' : Hp) (v : V) (l : List Addr), Ext F H F' H' → Ok K c F' H' σ ρ τ θ → Rp K F' H' v d l → l.Nodup → (∀ a ∈ l, ¬ F' a ∧ H a = none) → Q v H'
def tDE (K : PySem.W.Frag) (g : Rho → Option (Rs D)) : TE := fun σ H Q => ∃ (c : Cn) (F : Addr → Prop) (ρ : Rho) (τ : List V) (θ : List D) (d : D) (ρ' : Rho), Ok K c F H σ ρ τ θ ∧ g ρ = some (.ok d ρ') ∧
  ∀ (F' : Addr → Prop) (H' : Hp) (v : V), (∀ a, F a → F' a) → Ok K c F' H' σ ρ' (v :: τ) (d :: θ) → Q v H'
def tDG (K : PySem.W.Frag) (S : List Nat) (g : D → Rho → Option Rho) : TG := fun v σ H Q => ∃ (c : Cn) (F : Addr → Prop) (ρ ρ' : Rho) (τ : List V) (θ : List D) (d : D) (l : List Addr), c.pin = [] ∧ Ok K c F H σ ρ τ θ ∧ Rp K F H v d l ∧ g d ρ = some ρ' ∧
  ∀ σ', Ok K c F H σ' ρ' τ θ → (∀ vs, (∀ j ∈ S, j ∈ vs) → wipe σ' vs = wipe σ vs) → Q σ' H
def tDTs (K : PySem.W.Frag) (g : Rho → Option Bool) : TT := fun σ H Q => ∃ (c : Cn) (F : Addr → Prop) (ρ : Rho) (τ : List V) (θ : List D) (b : Bool), Ok K c F H σ ρ τ θ ∧ g ρ = some b ∧
  ∀ (F' : Addr → Prop) (H' : Hp), Ext F H F' H' → Ok K c F' H' σ ρ τ θ → Q b H'
def tDTEs (K : PySem.W.Frag) (g : Rho → Option (Rs Bool)) : TT := fun σ H Q => ∃ (c : Cn) (F : Addr → Prop) (ρ : Rho) (τ : List V) (θ : List D) (b : Bool) (ρ' : Rho), Ok K c F H σ ρ τ θ ∧ g ρ = some (.ok b ρ') ∧
  ∀ (F' : Addr → Prop) (H' : Hp), (∀ a, F a → F' a) → Ok K c F' H' σ ρ' τ θ → Q b H'
section
variable {X : Cx} {e : Expr}
theorem DN.pe {g : Rho → Option (Xs D)} (h : DN X W0 e g) : PE X e (tDN X.K g) := by
  obtain ⟨t, h1, h2⟩ := h.ex
  refine peImp h1 fun σ H Q q => ?_
  obtain ⟨c, F, ρ, τ, θ, d, k, e, q⟩ := q
  exact h2 c F H σ ρ τ θ Q _ k e (fun d' z F' H' v l hx k' r nd nw => by cases z; exact q F' H' v l hx k' r nd nw) fun C fs z => by cases z
theorem DE.pe {g : Rho → Option (Rs D)} (h : DE X W0 e g) : PE X e (tDE X.K g) := by
  obtain ⟨t, h1, h2⟩ := h.ex
  refine peImp h1 fun σ H Q q => ?_
  obtain ⟨c, F, ρ, τ, θ, d, ρ', k, e, q⟩ := q
  exact h2 c F H σ ρ τ θ Q _ k e (fun d' ρ1 z F' H' v hx k' => by cases z; exact q F' H' v hx k') fun C fs ρ1 z => by cases z
theorem DG.pg {S : List Nat} {g : D → Rho → Option Rho} (h : DG X [] S e g) : PG X e (tDG X.K S g) := by
  obtain ⟨t, h1, h2⟩ := h.ex
  refine pgImp h1 fun v σ H Q q => ?_
  obtain ⟨c, F, ρ, ρ', τ, θ, d, l, hp, k, r, e, q⟩ := q
  exact h2 c F H σ ρ ρ' τ θ v d l Q (by rw [hp]; exact fun _ z => nomatch z) k r e q
/-- a comprehension's tests -/
structure DTs (X : Cx) (ifs : List Expr) (g : Rho → Option Bool) : Prop where
  pt : PTs X ifs (tDTs X.K g)
structure DTEs (X : Cx) (ifs : List Expr) (g : Rho → Option (Rs Bool)) : Prop where
  pt : PTs X ifs (tDTEs X.K g)
def gYes : Rho → Option Bool := fun _ => some true
theorem dts_nil : DTs X [] gYes := ⟨ptsImp pts_nil fun σ H Q q => by
  obtain ⟨c, F, ρ, τ, θ, b, k, e, q⟩ := q
  cases e
  exact q F H .refl k⟩
theorem dts_one {g : Rho → Option Bool} (h : DT X e g) : DTs X [e] g := by
  obtain ⟨t, h1, h2⟩ := h.ex
  refine ⟨ptsImp (pts_one h1) fun σ H Q q => ?_⟩
  obtain ⟨c, F, ρ, τ, θ, b, k, e, q⟩ := q
  exact h2 c F H σ ρ τ θ Q b k e q
theorem dtes_nil : DTEs X [] (tE gYes) := ⟨ptsImp pts_nil fun σ H Q q => by
  obtain ⟨c, F, ρ, τ, θ, b, ρ', k, e, q⟩ := q
  cases e
  exact q F H (fun _ z => z) k⟩
theorem dtes_one {g : Rho → Option (Rs Bool)} (h : DTE X W0 e g) : DTEs X [e] g := by
  obtain ⟨t, h1, h2⟩ := h.ex
  refine ⟨ptsImp (pts_one h1) fun σ H Q q => ?_⟩
  obtain ⟨c, F, ρ, τ, θ, b, ρ', k, e, q⟩ := q
  exact h2 c F H σ ρ τ θ Q _ k e (fun b' ρ1 z F' H' hx k' => by cases z; exact q F' H' hx k') fun C fs ρ1 z => by cases z
end

/-! ### the loop without changes -/
def compN (own : List Nat) (h : D → Rho → Option Rho) (t : Rho → Option Bool) (g : Rho → Option (Xs D)) (ρ : Rho) : List D → Option (List D)
  | [] => some []
  | d :: ds => (h d (wipeR ρ own)).bind fun ρ1 => (t ρ1).bind fun b => if b = true then (match g ρ1 with
      | some (.ok y) => (compN own h t g ρ ds).map fun r => y :: r
      | _ => none) else compN own h t g ρ ds
/-- the new list -/
def gComp (own : List Nat) (s : Rho → Option (List D)) (h : D → Rho → Option Rho) (t : Rho → Option Bool) (g : Rho → Option (Xs D)) : Rho → Option (Xs D) := fun ρ => (s ρ).bind fun ds => ((compN own h t g ρ ds).bind lineO).map fun xs => .ok (.lst true xs)
theorem comp_walk {K : PySem.W.Frag} {J : It} {own S : List Nat} {h : D → Rho → Option Rho} {t : Rho → Option Bool} {g : Rho → Option (Xs D)} {c : Cn} {F1 : Addr → Prop} {H1 : Hp} {σ : L2.St} {ρ : Rho} {τ : List V} {θ : List D} {ds total : List D} {Q : VK}
    (hS : ∀ j ∈ S, j ∈ own) (k1 : Ok K c F1 H1 σ ρ τ θ) (hw : WalksX K J F1 H1 ds) (ec : compN own h t g ρ ds = some total) (hz : total.length ≤ sizeLine)
    (q : ∀ (F' : Addr → Prop) (H' : Hp) (D0 : Addr) (l : List Addr), Ext F1 H1 F' H' → Ok K c F' H' σ ρ τ θ → Rp K F' H' (.ref D0) (.lst true total) l → l.Nodup → (∀ a ∈ l, ¬ F' a ∧ H1 a = none) → Q (.ref D0) H') :
    ∀ D0, H1 D0 = none → ∃ W' : Nat → Nat → Hp → Prop, (∃ m, W' 0 m (upd H1 D0 (.lst []))) ∧ ∀ i m H, W' i m H →
      (J.stop i H ∧ Q (.ref D0) H) ∨ (J.go i H ∧ ∃ Nx : Hp → Prop, (∀ H', Nx H' → ∃ m', m' < m ∧ W' (i + 1) m' H') ∧ ∀ x H', J.yld i H x H' → tDG K S h x (wipe σ own) H' fun σ2 H2 => wipe σ2 own = wipe σ own ∧ tDTs K t σ2 H2 fun b H3 =>
        if b = true then tDN K g σ2 H3 fun y H4 => ∃ acc, H4 D0 = some (.lst acc) ∧ acc.length < sizeLine ∧ Nx (upd H4 D0 (.lst (acc ++ [y]))) else Nx H3) := by
  intro D0 hD
  have fD := k1.fresh hD
  refine ⟨fun i m H => m = ds.length - i ∧ i ≤ ds.length ∧ ∃ (F' : Addr → Prop) (xs rest : List D) (acc : List V) (l : List Addr), Ext F1 H1 F' H ∧ (∀ a, F' a → H a ≠ none) ∧ H D0 = some (.lst acc) ∧ Rps K F' H acc xs l ∧ (D0 :: l).Nodup ∧ (∀ a ∈ D0 :: l, ¬ F' a ∧ H1 a = none) ∧
    compN own h t g ρ (ds.drop i) = some rest ∧ xs ++ rest = total, ⟨ds.length, by simp, Nat.zero_le _, F1, [], total, [], [], ⟨fun _ z => z, fun _ z => .inl z, DL.same_upd hD⟩, fun a f => (fun z => k1.dom a f ((DL.same_upd hD).free z)), upd_same, .nil, by simp, ?_, ec, rfl⟩, ?_⟩
  · intro a z
    have e : a = D0 := by simpa using z
    rw [e]
    exact ⟨fD.1, hD⟩
  · rintro i m H ⟨rfl, hi, F', xs, rest, acc, l, hx, dom, hH, rs, nd, nw, er, et⟩
    obtain ⟨w1, w2⟩ := hw F' H hx dom i
    by_cases hlt : i < ds.length
    · obtain ⟨go, yl⟩ := w1 _ (List.getElem?_eq_getElem hlt)
      rw [List.drop_eq_getElem_cons hlt, compN] at er
      obtain ⟨ρ1, e1, er⟩ := bind_some' er
      obtain ⟨b, e2, er⟩ := bind_some' er
      refine .inr ⟨go, fun H' => ∃ (F' : Addr → Prop) (xs rest : List D) (acc : List V) (l : List Addr), Ext F1 H1 F' H' ∧ (∀ a, F' a → H' a ≠ none) ∧ H' D0 = some (.lst acc) ∧ Rps K F' H' acc xs l ∧ (D0 :: l).Nodup ∧ (∀ a ∈ D0 :: l, ¬ F' a ∧ H1 a = none) ∧
        compN own h t g ρ (ds.drop (i + 1)) = some rest ∧ xs ++ rest = total, fun H' z => ⟨ds.length - (i + 1), by omega, rfl, hlt, z⟩, fun x H2 y => ?_⟩
      obtain ⟨F2, lx, hx2, dom2, rx⟩ := yl x H2 y
      have k2 := (k1.grow (hx.trans hx2) dom2).wiped own
      refine ⟨c.np, F2, _, ρ1, τ, θ, _, lx, rfl, k2, rx, e1, fun σ2 k3 ws => ⟨(ws own hS).trans wipe_wipe, ?_⟩⟩
      refine ⟨c.np, F2, ρ1, τ, θ, b, k3, e2, fun F3 H3 hx3 k4 => ?_⟩
      have nF3 : ∀ a ∈ D0 :: l, ¬ F3 a := fun a z f => by
        have hHa : H a ≠ none := by
          rcases List.mem_cons.mp z with z | z
          · rw [z, hH]
            exact fun q => nomatch q
          · exact rs.dom a z
        rcases (hx2.trans hx3).new a f with f | f
        · exact (nw a z).1 f
        · exact hHa f
      cases b with
      | false =>
        rw [if_neg Bool.false_ne_true] at er
        refine iteF ⟨F3, xs, rest, acc, l, hx.trans (hx2.trans hx3), k4.dom, (hx2.trans hx3).same _ _ hH, (hx2.trans hx3).rps rs, nd, fun a z => ⟨nF3 a z, (nw a z).2⟩, er, et⟩
      | true =>
        rw [if_pos rfl] at er
        split at er
        · rename_i yd ey
          obtain ⟨rest', er2, rfl⟩ := map_some' er
          refine iteT ⟨c.np, F3, ρ1, τ, θ, yd, k4, ey, fun F4 H4 v lv hx4 k5 rv ndv nwv => ?_⟩
          have hx24 := hx2.trans (hx3.trans hx4)
          have hH4 : H4 D0 = some (.lst acc) := hx24.same _ _ hH
          have hlen := rs.length
          refine ⟨acc, hH4, ?_, ?_⟩
          · rw [hlen]
            have := congrArg List.length et
            rw [List.length_append, List.length_cons] at this
            omega
          · have hHd : ∀ a ∈ D0 :: l, H3 a ≠ none := fun a z q => by
              have : H a = none := (hx2.trans hx3).same.free q
              rcases List.mem_cons.mp z with z | z
              · rw [z, hH] at this
                cases this
              · exact rs.dom a z this
            have nF4 : ∀ a ∈ D0 :: l, ¬ F4 a := fun a z f => (hx4.new a f).elim (nF3 a z) (hHd a z)
            have nDl : D0 ∉ l := (List.nodup_cons.mp nd).1
            have nDv : D0 ∉ lv := fun z => hHd D0 List.mem_cons_self (nwv D0 z).2
            have keep : ∀ a o, (F4 a ∨ a ∈ l ∨ a ∈ lv) → H4 a = some o → upd H4 D0 (.lst (acc ++ [v])) a = some o := fun a o z e => by
              rw [upd_ne]
              · exact e
              · rintro rfl
                rcases z with z | z | z
                · exact nF4 _ List.mem_cons_self z
                · exact nDl z
                · exact nDv z
            have r1 : Rps K F4 (upd H4 D0 (.lst (acc ++ [v]))) acc xs l := (hx24.rps rs).frame (fun _ z => z) fun a o z => keep a o (z.imp id .inl)
            have r2 : Rp K F4 (upd H4 D0 (.lst (acc ++ [v]))) v yd lv := rv.frame (fun _ z => z) fun a o z => keep a o (z.imp id .inr)
            refine ⟨F4, xs ++ [yd], rest', acc ++ [v], l ++ lv, ⟨fun a z => hx24.sub a (hx.sub a z), fun a z => (hx.trans hx24).new a z, fun a o e => ?_⟩, fun a f => ?_, upd_same, r1.append (.one r2), ?_, fun a z => ?_, er2, by rw [List.append_assoc]; exact et⟩
            · rw [upd_ne]
              · exact (hx.trans hx24).same _ _ e
              · rintro rfl
                rw [hD] at e
                cases e
            · by_cases ha : a = D0
              · exact absurd (ha ▸ f) (nF4 _ List.mem_cons_self)
              · rw [upd_ne ha]
                exact k5.dom a f
            · have e0 : D0 :: (l ++ lv) = (D0 :: l) ++ lv := rfl
              rw [e0]
              exact List.nodup_append.mpr ⟨nd, ndv, fun x hx y hy e => hHd x hx (e ▸ (nwv y hy).2)⟩
            · have e0 : D0 :: (l ++ lv) = (D0 :: l) ++ lv := rfl
              rw [e0] at z
              rcases List.mem_append.mp z with z | z
              · exact ⟨nF4 a z, (nw a z).2⟩
              · exact ⟨(nwv a z).1, (hx.trans (hx2.trans hx3)).same.free (nwv a z).2⟩
        · cases er
    · have hi' : ds.length ≤ i := by omega
      rw [List.drop_of_length_le hi', compN] at er
      cases er
      rw [List.append_nil] at et
      subst et
      exact .inl ⟨w2 hi', q F' H D0 (D0 :: l) hx (k1.grow hx dom) (.lstO hH rs) nd nw⟩
section
variable {X : Cx} {W : WX} {P S : List Nat} {elt tg iter : Expr} {ifs : List Expr} {scope : Scope} {pos : Pos}
theorem dn_comp {own : List (Str × Nat)} {s : Rho → Option (List D)} {h : D → Rho → Option Rho} {t : Rho → Option Bool} {g : Rho → Option (Xs D)} (hc : X.calm = true) (hN : X.N.Nodup) (x : DIv X tg iter s) (ok : BlkOk X.N X.env.scope scope own)
    (hg : ∀ (s : Shared) (H : Hp) (C : Addr) (cl : List (Str × Addr)) (fp : List Addr), DG (X.blk s H scope (compEnvC scope cl C X.env) fp) [] S tg h)
    (ht : ∀ (s : Shared) (H : Hp) (C : Addr) (cl : List (Str × Addr)) (fp : List Addr), DTs (X.blk s H scope (compEnvC scope cl C X.env) fp) ifs t)
    (he : ∀ (s : Shared) (H : Hp) (C : Addr) (cl : List (Str × Addr)) (fp : List Addr), DN (X.blk s H scope (compEnvC scope cl C X.env) fp) W0 elt g)
    (hS : ∀ j ∈ S, j ∈ own.map (·.2) := by decide) (hs : ∀ x, foldedSetIterable iter X.env x = pure x := by intro _; rfl) : DN X W (.ListComp elt [⟨tg, iter, ifs, 0⟩] scope pos) (gComp (own.map (·.2)) s h t g) := by
  obtain ⟨wi, w1, w2⟩ := x.ex
  refine ⟨_, pe_lc (g := tDG X.K S h) (tt := tDTs X.K t) (te := tDN X.K g) hc hN w1 ok (fun s H C cl fp => (hg s H C cl fp).pg) (fun s H C cl fp => (ht s H C cl fp).pt) (fun s H C cl fp => (he s H C cl fp).pe) hs, fun c F H σ ρ τ θ Q r k e q qx => ?_⟩
  obtain ⟨ds, e1, e⟩ := bind_some' e
  obtain ⟨xs, e2, rfl⟩ := map_some' e
  obtain ⟨xs0, e2, e3⟩ := bind_some' e2
  obtain ⟨rfl, hz⟩ := lineO_some e3
  refine w2 c F H σ ρ τ θ _ _ k e1 fun F1 H1 J hx1 k1 hw => ?_
  exact comp_walk hS k1 hw e2 hz fun F' H' D0 l hx k' r nd nw => q _ rfl F' H' _ l (hx1.trans hx) k' r nd fun a z => ⟨(nw a z).1, hx1.same.free (nw a z).2⟩
/-- name = [..] -/
theorem ds_setC (i : Nat) {own : List (Str × Nat)} {s : Rho → Option (List D)} {h : D → Rho → Option Rho} {t : Rho → Option Bool} {g : Rho → Option (Xs D)} {y : Str} {py spos : Pos} (hc : X.calm = true) (hN : X.N.Nodup) (x : DIv X tg iter s) (ok : BlkOk X.N X.env.scope scope own)
    (hg : ∀ (s : Shared) (H : Hp) (C : Addr) (cl : List (Str × Addr)) (fp : List Addr), DG (X.blk s H scope (compEnvC scope cl C X.env) fp) [] S tg h)
    (ht : ∀ (s : Shared) (H : Hp) (C : Addr) (cl : List (Str × Addr)) (fp : List Addr), DTs (X.blk s H scope (compEnvC scope cl C X.env) fp) ifs t)
    (he : ∀ (s : Shared) (H : Hp) (C : Addr) (cl : List (Str × Addr)) (fp : List Addr), DN (X.blk s H scope (compEnvC scope cl C X.env) fp) W0 elt g)
    (hsw : swapsWith (.ListComp elt [⟨tg, iter, ifs, 0⟩] scope pos) (some (.Name y py)) spos.line X.env = pure true) (hP : P.contains i = false := by rfl) (hy : X.N[i]? = some y := by rfl) (hyl : X.env.scope.names.lookup y = some .local := by rfl)
    (hS : ∀ j ∈ S, j ∈ own.map (·.2) := by decide) (hs : ∀ x, foldedSetIterable iter X.env x = pure x := by intro _; rfl) : DS X W P (.Assign [.Name y py] (.ListComp elt [⟨tg, iter, ifs, 0⟩] scope pos) spos) (sSet i (nE (gComp (own.map (·.2)) s h t g))) := by
  obtain ⟨wi, w1, w2⟩ := x.ex
  refine ⟨_, ps_setLc (g := tDG X.K S h) (tt := tDTs X.K t) (te := tDN X.K g) hc hN hy hyl hsw w1 ok (fun s H C cl fp => (hg s H C cl fp).pg) (fun s H C cl fp => (ht s H C cl fp).pt) (fun s H C cl fp => (he s H C cl fp).pe) hs, fun c F H σ ρ τ θ D0 o hp k e q => ?_⟩
  rcases oRs_some e with ⟨d, ρ1, e1, e⟩ | ⟨C, fs, ρ1, e1, rfl⟩
  · obtain ⟨xr, e6, e4⟩ := map_some' e1
    obtain ⟨ds, e7, e5⟩ := bind_some' e6
    obtain ⟨xs, e2, rfl⟩ := map_some' e5
    cases e4
    obtain ⟨xs0, e2, e3⟩ := bind_some' e2
    obtain ⟨rfl, hz⟩ := lineO_some e3
    refine w2 c F H σ ρ τ θ _ _ k e7 fun F1 H1 J hx1 k1 hw => ?_
    refine comp_walk (Q := fun x H1 => gName i x σ H1 D0.nx) hS k1 hw e2 hz fun F' H' D1 l hx k' r nd nw => ?_
    exact set_end (P := P) hp hP (k1.pushN hx k'.dom r nd nw) e (q.mono fun a z => (hx1.trans hx).sub a z)
  · obtain ⟨xr, e1, e4⟩ := map_some' e1
    obtain ⟨ds, e1, e5⟩ := bind_some' e1
    obtain ⟨xs, e2, rfl⟩ := map_some' e5
    cases e4
end

/-! ### a comprehension whose parts change slots -/
def compE (own : List Nat) (h : D → Rho → Option Rho) (t : Rho → Option (Rs Bool)) (g : Rho → Option (Rs D)) : List D → Rho → Option (List D × Rho)
  | [], ρ => some ([], ρ)
  | d :: ds, ρ => (h d ρ).bind fun ρ1 => match t ρ1 with
    | some (.ok true ρ2) => (match g ρ2 with
      | some (.ok y ρ3) => (compE own h t g ds (wipeR (kill ρ3) own)).map fun r => (y :: r.1, r.2)
      | _ => none)
    | some (.ok false ρ2) => compE own h t g ds (wipeR ρ2 own)
    | _ => none
def eComp (own : List Nat) (s : Rho → Option (Rs (List D))) (h : D → Rho → Option Rho) (t : Rho → Option (Rs Bool)) (g : Rho → Option (Rs D)) : Rho → Option (Rs D) := fun ρ => rsB (s ρ) fun ds ρ1 => (compE own h t g ds (wipeR ρ1 own)).bind fun r => (lineO r.1).map fun xs => .ok (.lst true xs) r.2
theorem wipeR_idem {ρ : Rho} : ∀ {vs : List Nat}, wipeR (wipeR ρ vs) vs = wipeR ρ vs := by
  intro vs
  have z : ∀ {ρ : Rho} {us : List Nat} {i : Nat}, i ∉ us → (wipeR ρ us)[i]? = ρ[i]? := by
    intro ρ us i
    induction us with
    | nil => intro _; rfl
    | cons u us ih =>
      intro h
      simp only [List.mem_cons, not_or] at h
      unfold wipeR
      rw [List.getElem?_set_ne (fun q => h.1 q.symm), ih h.2]
  have z2 : ∀ {ρ : Rho} {us : List Nat} {i : Nat}, i ∈ us → i < ρ.length → (wipeR ρ us)[i]? = some none := by
    intro ρ us i
    induction us with
    | nil => intro h; cases h
    | cons u us ih =>
      intro h hl
      unfold wipeR
      by_cases e : u = i
      · subst e
        rw [List.getElem?_set_self (by rw [wipeR_len]; exact hl)]
      · rw [List.getElem?_set_ne e]
        exact ih ((List.mem_cons.mp h).elim (fun q => absurd q.symm e) id) hl
  apply List.ext_getElem?
  intro i
  by_cases h : i ∈ vs
  · by_cases hl : i < ρ.length
    · rw [z2 h (by rw [wipeR_len]; exact hl), z2 h hl]
    · rw [List.getElem?_eq_none (by rw [wipeR_len, wipeR_len]; omega), List.getElem?_eq_none (by rw [wipeR_len]; omega)]
  · rw [z h]
theorem Ok.unwipe {K : PySem.W.Frag} {c : Cn} {F : Addr → Prop} {H : Hp} {σ σ2 : L2.St} {ρ : Rho} {τ : List V} {θ : List D} {own : List Nat} (k : Ok K c.np F H σ2 ρ τ θ) (hw : wipe σ2 own = wipe σ own) (hp : ∀ p ∈ c.pin, σ[p.1]? = some (some p.2)) : Ok K c F H σ (wipeR ρ own) τ θ := by
  have hl : σ.length = σ2.length := by
    have := congrArg List.length hw
    rw [wipe_length, wipe_length] at this
    exact this.symm
  refine Ok.ofNp ((k.unsets own).agree hl (fun i s e => ?_) fun _ z => nomatch z) hp
  have hi := wipeR_at e
  have this : (L2.wipe σ2 own)[i]? = (L2.wipe σ own)[i]? := by rw [hw]
  rw [wipe_at hi, wipe_at hi] at this
  exact this.symm
theorem compE_walk {K : PySem.W.Frag} {J : It} {own S : List Nat} {h : D → Rho → Option Rho} {t : Rho → Option (Rs Bool)} {g : Rho → Option (Rs D)} {c : Cn} {F1 : Addr → Prop} {H1 : Hp} {σ : L2.St} {ρ : Rho} {τ : List V} {θ : List D} {ws : List V} {es ds : List D} {total : List D × Rho} {Q : VK}
    (hS : ∀ j ∈ S, j ∈ own) (hl : ws.length = es.length) (k1 : Ok K c F1 H1 σ ρ (ws ++ τ) (es ++ θ)) (hw : Walks K J ws es ds) (ec : compE own h t g ds (wipeR ρ own) = some total) (hz : total.1.length ≤ sizeLine)
    (q : ∀ (F' : Addr → Prop) (H' : Hp) (v : V), (∀ a, F1 a → F' a) → Ok K c F' H' σ total.2 (v :: τ) (.lst true total.1 :: θ) → Q v H') :
    ∀ D0, H1 D0 = none → ∃ W' : Nat → Nat → Hp → Prop, (∃ m, W' 0 m (upd H1 D0 (.lst []))) ∧ ∀ i m H, W' i m H →
      (J.stop i H ∧ Q (.ref D0) H) ∨ (J.go i H ∧ ∃ Nx : Hp → Prop, (∀ H', Nx H' → ∃ m', m' < m ∧ W' (i + 1) m' H') ∧ ∀ x H', J.yld i H x H' → tDG K S h x (wipe σ own) H' fun σ2 H2 => wipe σ2 own = wipe σ own ∧ tDTEs K t σ2 H2 fun b H3 =>
        if b = true then tDE K g σ2 H3 fun y H4 => ∃ acc, H4 D0 = some (.lst acc) ∧ acc.length < sizeLine ∧ Nx (upd H4 D0 (.lst (acc ++ [y]))) else Nx H3) := by
  intro D0 hD
  have pins := k1.pin
  refine ⟨fun i m H => m = ds.length - i ∧ i ≤ ds.length ∧ ∃ (F' : Addr → Prop) (ρ' : Rho) (xs : List D) (rest : List D × Rho), (∀ a, F1 a → F' a) ∧ Ok K c F' H σ ρ' (ws ++ .ref D0 :: τ) (es ++ .lst true xs :: θ) ∧ wipeR ρ' own = ρ' ∧
    compE own h t g (ds.drop i) ρ' = some rest ∧ (xs ++ rest.1, rest.2) = total, ⟨ds.length, by simp, Nat.zero_le _, F1, wipeR ρ own, [], total, fun _ z => z, ?_, wipeR_idem, ec, rfl⟩, ?_⟩
  · exact Ok.rotL ((k1.unsets own).newL (vs := []) (ds := []) (τ := ws ++ τ) (θ := es ++ θ) rfl hD) hl
  · rintro i m H ⟨rfl, hi, F', ρ', xs, rest, hF, k, hid, er, et⟩
    obtain ⟨w1, w2⟩ := hw c F' H σ ρ' _ _ k i
    by_cases hlt : i < ds.length
    · obtain ⟨go, yl⟩ := w1 _ (List.getElem?_eq_getElem hlt)
      rw [List.drop_eq_getElem_cons hlt, compE] at er
      obtain ⟨ρ1, e1, er⟩ := bind_some' er
      refine .inr ⟨go, fun H' => ∃ (F' : Addr → Prop) (ρ' : Rho) (xs : List D) (rest : List D × Rho), (∀ a, F1 a → F' a) ∧ Ok K c F' H' σ ρ' (ws ++ .ref D0 :: τ) (es ++ .lst true xs :: θ) ∧ wipeR ρ' own = ρ' ∧
        compE own h t g (ds.drop (i + 1)) ρ' = some rest ∧ (xs ++ rest.1, rest.2) = total, fun H' z => ⟨ds.length - (i + 1), by omega, rfl, hlt, z⟩, fun x H2 y => ?_⟩
      obtain ⟨F2, lx, hx2, dom2, rx⟩ := yl x H2 y
      have k2 := (k.grow hx2 dom2).wiped own
      rw [hid] at k2
      refine ⟨c.np, F2, _, ρ1, _, _, _, lx, rfl, k2, rx, e1, fun σ2 k3 wsq => ?_⟩
      have hwp : wipe σ2 own = wipe σ own := (wsq own hS).trans wipe_wipe
      refine ⟨hwp, ?_⟩
      cases et1 : t ρ1 with
      | none => rw [et1] at er; cases er
      | some r1 =>
        cases r1 with
        | ex C fs ρ2 => rw [et1] at er; cases er
        | ok b ρ2 =>
          refine ⟨c.np, F2, ρ1, _, _, b, ρ2, k3, et1, fun F3 H3 hF3 k4 => ?_⟩
          rw [et1] at er
          cases b with
          | false =>
            exact iteF ⟨F3, wipeR ρ2 own, xs, rest, fun a z => hF3 a (hx2.sub a (hF a z)), k4.unwipe hwp pins, wipeR_idem, er, et⟩
          | true =>
            simp only at er
            cases eg : g ρ2 with
            | none => rw [eg] at er; cases er
            | some r2 =>
              cases r2 with
              | ex C fs ρ3 => rw [eg] at er; cases er
              | ok yd ρ3 =>
                rw [eg] at er
                obtain ⟨rest', er2, rfl⟩ := map_some' er
                refine iteT ⟨c.np, F3, ρ2, _, _, yd, ρ3, k4, eg, fun F4 H4 v hF4 k5 => ?_⟩
                have k6 := Ok.rotR (ws := v :: ws) (ds := yd :: es) k5 (by rw [List.length_cons, List.length_cons, hl])
                obtain ⟨acc, hH, hlen, k7⟩ := k6.appT
                refine ⟨acc, hH, ?_, ?_⟩
                · have := congrArg (fun p : List D × Rho => p.1.length) et
                  simp only [List.length_append, List.length_cons] at this
                  omega
                · have k8 := Ok.rotL k7 hl
                  refine ⟨F4, wipeR (kill ρ3) own, xs ++ [yd], rest', fun a z => hF4 a (hF3 a (hx2.sub a (hF a z))), k8.unwipe hwp pins, wipeR_idem, er2, ?_⟩
                  rw [List.append_assoc]
                  exact et
    · have hi' : ds.length ≤ i := by omega
      rw [List.drop_of_length_le hi', compE] at er
      cases er
      simp only [List.append_nil] at et
      subst et
      exact .inl ⟨w2 hi', q F' H _ hF (k.drops hl)⟩
section
variable {X : Cx} {W : WX} {P S : List Nat} {elt tg iter : Expr} {ifs : List Expr} {scope : Scope} {pos : Pos}
theorem de_comp {own : List (Str × Nat)} {s : Rho → Option (Rs (List D))} {h : D → Rho → Option Rho} {t : Rho → Option (Rs Bool)} {g : Rho → Option (Rs D)} (hc : X.calm = true) (hN : X.N.Nodup) (x : DI X W tg iter s) (ok : BlkOk X.N X.env.scope scope own)
    (hg : ∀ (s : Shared) (H : Hp) (C : Addr) (cl : List (Str × Addr)) (fp : List Addr), DG (X.blk s H scope (compEnvC scope cl C X.env) fp) [] S tg h)
    (ht : ∀ (s : Shared) (H : Hp) (C : Addr) (cl : List (Str × Addr)) (fp : List Addr), DTEs (X.blk s H scope (compEnvC scope cl C X.env) fp) ifs t)
    (he : ∀ (s : Shared) (H : Hp) (C : Addr) (cl : List (Str × Addr)) (fp : List Addr), DE (X.blk s H scope (compEnvC scope cl C X.env) fp) W0 elt g)
    (hS : ∀ j ∈ S, j ∈ own.map (·.2) := by decide) (hs : ∀ x, foldedSetIterable iter X.env x = pure x := by intro _; rfl) : DE X W (.ListComp elt [⟨tg, iter, ifs, 0⟩] scope pos) (eComp (own.map (·.2)) s h t g) := by
  obtain ⟨wi, w1, w2⟩ := x.ex
  refine ⟨_, pe_lc (g := tDG X.K S h) (tt := tDTEs X.K t) (te := tDE X.K g) hc hN w1 ok (fun s H C cl fp => (hg s H C cl fp).pg) (fun s H C cl fp => (ht s H C cl fp).pt) (fun s H C cl fp => (he s H C cl fp).pe) hs, fun c F H σ ρ τ θ Q r k e q qx => ?_⟩
  rcases rsB_some e with ⟨ds, ρ1, e1, e⟩ | ⟨C, fs, ρ1, e1, rfl⟩
  · obtain ⟨tt, e2, e⟩ := bind_some' e
    obtain ⟨xs, e3, rfl⟩ := map_some' e
    obtain ⟨rfl, hz⟩ := lineO_some e3
    refine w2 c F H σ ρ τ θ _ _ k e1 (fun ds' ρ' z F1 H1 J ws es hF1 hl k1 hw => ?_) fun C fs ρ' z => by cases z
    cases z
    exact compE_walk hS hl k1 hw e2 hz fun F' H' v hF' k' => q _ _ rfl F' H' v (fun a z => hF' a (hF1 a z)) k'
  · exact w2 c F H σ ρ τ θ _ _ k e1 (fun d ρ' z => by cases z) fun C fs ρ' z F1 H1 q hF1 k1 xr => by
      cases z
      exact qx _ _ _ rfl F1 H1 q hF1 k1 xr
theorem ds_setCE (i : Nat) {own : List (Str × Nat)} {s : Rho → Option (Rs (List D))} {h : D → Rho → Option Rho} {t : Rho → Option (Rs Bool)} {g : Rho → Option (Rs D)} {y : Str} {py spos : Pos} (hc : X.calm = true) (hN : X.N.Nodup) (x : DI X W tg iter s) (ok : BlkOk X.N X.env.scope scope own)
    (hg : ∀ (s : Shared) (H : Hp) (C : Addr) (cl : List (Str × Addr)) (fp : List Addr), DG (X.blk s H scope (compEnvC scope cl C X.env) fp) [] S tg h)
    (ht : ∀ (s : Shared) (H : Hp) (C : Addr) (cl : List (Str × Addr)) (fp : List Addr), DTEs (X.blk s H scope (compEnvC scope cl C X.env) fp) ifs t)
    (he : ∀ (s : Shared) (H : Hp) (C : Addr) (cl : List (Str × Addr)) (fp : List Addr), DE (X.blk s H scope (compEnvC scope cl C X.env) fp) W0 elt g)
    (hsw : swapsWith (.ListComp elt [⟨tg, iter, ifs, 0⟩] scope pos) (some (.Name y py)) spos.line X.env = pure true) (hP : P.contains i = false := by rfl) (hy : X.N[i]? = some y := by rfl) (hyl : X.env.scope.names.lookup y = some .local := by rfl)
    (hS : ∀ j ∈ S, j ∈ own.map (·.2) := by decide) (hs : ∀ x, foldedSetIterable iter X.env x = pure x := by intro _; rfl) : DS X W P (.Assign [.Name y py] (.ListComp elt [⟨tg, iter, ifs, 0⟩] scope pos) spos) (sSet i (eComp (own.map (·.2)) s h t g)) := by
  obtain ⟨wi, w1, w2⟩ := x.ex
  refine ⟨_, ps_setLc (g := tDG X.K S h) (tt := tDTEs X.K t) (te := tDE X.K g) hc hN hy hyl hsw w1 ok (fun s H C cl fp => (hg s H C cl fp).pg) (fun s H C cl fp => (ht s H C cl fp).pt) (fun s H C cl fp => (he s H C cl fp).pe) hs, fun c F H σ ρ τ θ D0 o hp k e q => ?_⟩
  rcases oRs_some e with ⟨d, ρ1, e1, e⟩ | ⟨C, fs, ρ1, e1, rfl⟩
  · rcases rsB_some e1 with ⟨ds, ρ2, e2, e1⟩ | ⟨C, fs, ρ2, e2, z⟩
    · obtain ⟨tt, e3, e1⟩ := bind_some' e1
      obtain ⟨xs, e4, e5⟩ := map_some' e1
      cases e5
      obtain ⟨rfl, hz⟩ := lineO_some e4
      refine w2 c F H σ ρ τ θ _ _ k e2 (fun ds' ρ' z F1 H1 J ws es hF1 hl k1 hw => ?_) fun C fs ρ' z => by cases z
      cases z
      exact compE_walk (Q := fun x H1 => gName i x σ H1 D0.nx) hS hl k1 hw e3 hz fun F' H' v hF' k' => set_end (P := P) hp hP k' e (q.mono fun a z => hF' a (hF1 a z))
    · cases z
  · rcases rsB_some e1 with ⟨ds, ρ2, e2, e1⟩ | ⟨C', fs', ρ2, e2, z⟩
    · obtain ⟨tt, e3, e1⟩ := bind_some' e1
      obtain ⟨xs, e4, e5⟩ := map_some' e1
      cases e5
    · cases z
      refine w2 c F H σ ρ τ θ _ _ k e2 (fun d ρ' z => by cases z) fun C fs ρ' z F1 H1 x hF1 k1 xr => ?_
      cases z
      exact q F1 H1 σ x hF1 k1 xr
end
end DL

set_option Elab.async false
set_option linter.all false
set_option maxRecDepth 100000
set_option maxHeartbeats 4000000
/-! DLH: a def by what it denotes, its calls. -/
namespace DL
open PySem PySem.Spec PyProof.Rows L2

/-- what a call gives: the value, the arguments that are handed back; or an exception -/
inductive Rd where
  | ok (d : D) (bk : List (Option D)) | ex (C : Addr) (fs : List (Str × D)) (bk : List (Option D))
def retV : List V → List (Option D) → List V
  | v :: vs, some _ :: bs => v :: retV vs bs
  | _ :: vs, none :: bs => retV vs bs
  | _, _ => []
def retD : List (Option D) → List D
  | some d :: bs => d :: retD bs
  | none :: bs => retD bs
  | [] => []
/-- the promise of a def that denotes f -/
def Prom (K : PySem.W.Frag) (f : List D → Option Rd) : Sp := fun vs H Q E => ∃ (F : Addr → Prop) (ds : List D) (l0 : List Addr) (r : Rd), Give K F H l0 vs ds ∧ f ds = some r ∧
  (∀ d bk, r = .ok d bk → ∀ (F' : Addr → Prop) (H' : Hp) (v : V), Back K F H l0 F' H' (v :: retV vs bk) (d :: retD bk) → Q v H') ∧
  (∀ C fs bk, r = .ex C fs bk → ∀ (F' : Addr → Prop) (H' : Hp) (q : Option Addr), Back K F H l0 F' H' (retV vs bk) (retD bk) → XRep K F' H' q fs → E (.ref C) q H')

/-- what a slot hands back -/
def bk1 (pin : List Nat) (ρ : Rho) (i : Nat) : Option D := if pin.contains i = true then (match ρ[i]? with
  | some (some (false, d)) => some d
  | _ => none) else none
def bkOf (n : Nat) (pin : List Nat) (ρ : Rho) : List (Option D) := (List.range n).map (bk1 pin ρ)
def runF (n m : Nat) (pin : List Nat) (g : Rho → Option Out) : List D → Option Rd := fun ds => if ds.length = n then
  match g (ds.map (fun d => some (false, d)) ++ List.replicate m none) with
  | some (.ret d ρ) => some (.ok d (bkOf n pin ρ))
  | some (.nx ρ) => some (.ok .non (bkOf n pin ρ))
  | some (.ex C fs ρ) => some (.ex C fs (bkOf n pin ρ))
  | _ => none
  else none
section
variable {K : PySem.W.Frag} {c : Cn} {F : Addr → Prop} {H : Hp} {σ : L2.St} {ρ : Rho} {τ : List V} {θ : List D}
theorem give_back {pin : List Nat} : ∀ {is : List Nat} {vs : List V} {ρ : Rho} {τ : List V} {θ : List D}, is.Nodup → is.length = vs.length → (∀ (j i : Nat) (v : V), is[j]? = some i → vs[j]? = some v → pin.contains i = true → σ[i]? = some (some v)) → Ok K c F H σ ρ τ θ →
    ∃ ρ', Ok K c F H σ ρ' (retV vs (is.map (bk1 pin ρ)) ++ τ) (retD (is.map (bk1 pin ρ)) ++ θ) ∧ ∀ i, i ∉ is → ρ'[i]? = ρ[i]?
  | [], [], ρ, τ, θ, _, _, _, k => ⟨ρ, k, fun _ _ => rfl⟩
  | i :: is, v :: vs, ρ, τ, θ, nd, hl, hs, k => by
    obtain ⟨n1, n2⟩ := List.nodup_cons.mp nd
    obtain ⟨ρ', k', h'⟩ := give_back (pin := pin) n2 (by simpa using hl) (fun j i' v' e1 e2 => hs (j + 1) i' v' e1 e2) k
    rw [List.map_cons]
    cases e : bk1 pin ρ i with
    | none => exact ⟨ρ', k', fun j hj => h' j fun z => hj (List.mem_cons_of_mem _ z)⟩
    | some d =>
      unfold bk1 at e
      split at e
      · rename_i hp
        split at e
        · rename_i d' e2
          cases e
          rw [← h' i n1] at e2
          refine ⟨ρ'.set i none, k'.move e2 (hs 0 i v rfl rfl hp), fun j hj => ?_⟩
          simp only [List.mem_cons, not_or] at hj
          rw [List.getElem?_set_ne (fun q => hj.1 q.symm)]
          exact h' j hj.2
        · cases e
      · cases e
theorem retV_len : ∀ {vs : List V} {bs : List (Option D)}, vs.length = bs.length → (retV vs bs).length = (retD bs).length
  | [], [], _ => rfl
  | _ :: vs, some d :: bs, h => by
    show (retV vs bs).length + 1 = (retD bs).length + 1
    rw [retV_len (by simpa using h)]
  | _ :: vs, none :: bs, h => retV_len (vs := vs) (bs := bs) (by simpa using h)
theorem slots_start : ∀ {vs : List V} {ds : List D} {l : List Addr} {m : Nat}, Rps K F H vs ds l → Slots K F H (vs.map some ++ List.replicate m none) (ds.map (fun d => some (false, d)) ++ List.replicate m none) l
  | _, _, _, m, .nil => by
    have z : ∀ m : Nat, Slots K F H (List.replicate m none) (List.replicate m none) [] := by
      intro m
      induction m with
      | zero => exact .nil
      | succ m ih => exact .un ih
    exact z m
  | _, _, _, _, .cons r h => .ow r (slots_start h)
/-- the state behind a body is what a call leaves -/
theorem back_of {l0 : List Addr} {ws : List V} {es : List D} {pinl : List (Nat × V)} {F0 : Addr → Prop} {H0 : Hp} (k : Ok K ⟨H0, F0, l0, pinl⟩ F H σ ρ ws es) : Back K F0 H0 l0 F H ws es := by
  obtain ⟨l, m, h1, h2, h3, h4⟩ := k.rep
  exact ⟨⟨m, h2, (List.nodup_append.mp h3).2.1, fun a z => h4 a (List.mem_append_right _ z)⟩, k.sub, k.new, k.dom, k.fr, k.gr⟩
end
section
variable {P : Program} {w : World} {K : PySem.W.Frag} {mg : Str → Option Value} {base : Heap}
/-- the wish of a def's body -/
abbrev Wf (E : XK) : WX := fun cls q _ H => E cls q H
theorem prom_len {f : List D → Option Rd} {n : Nat} (hf : ∀ ds r, f ds = some r → ds.length = n) {vs : List V} {H : Hp} {Q : VK} {E : XK} (h : Prom K f vs H Q E) : vs.length = n := by
  obtain ⟨F, ds, l0, r, g, e, _⟩ := h
  rw [g.rep.length]
  exact hf ds r e
theorem runF_len {n m : Nat} {pin : List Nat} {g : Rho → Option Out} {ds : List D} {r : Rd} (h : runF n m pin g ds = some r) : ds.length = n := by
  unfold runF at h
  split at h
  · assumption
  · cases h
/-- from a body's denotation to the reading that its call wants -/
theorem body_sem {X : Cx} {W : WX} {n m : Nat} {pin : List Nat} {sts : List Stmt} {g : Rho → Option Out} {vs : List V} {H : Hp} {Q : VK} {E : XK} (hW : ∀ cls q σ H, E cls q H → W cls q σ H) (h : DSs X W pin sts g) (hp : Prom X.K (runF n m pin g) vs H Q E) :
    ∃ t, PSs X sts t ∧ t { nx := fun _ H' => Q .non H', rt := Q } (vs.map some ++ List.replicate m none) H := by
  obtain ⟨t, h1, h2⟩ := h.ex
  refine ⟨t, h1, ?_⟩
  obtain ⟨F, ds, l0, r, gv, e, q1, q2⟩ := hp
  have hn := runF_len e
  unfold runF at e
  rw [if_pos hn] at e
  have hv : vs.length = n := by rw [gv.rep.length]; exact hn
  cases eg : g (ds.map (fun d => some (false, d)) ++ List.replicate m none) with
  | none => rw [eg] at e; cases e
  | some o =>
    rw [eg] at e
    let c : Cn := ⟨H, F, l0, (List.range n).filterMap fun i => if pin.contains i = true then (vs[i]?).map fun v => (i, v) else none⟩
    have hpin : ∀ p ∈ c.pin, pin.contains p.1 = true ∧ vs[p.1]? = some p.2 := fun p z => by
      obtain ⟨i, _, e⟩ := List.mem_filterMap.mp z
      split at e
      · rename_i hc
        obtain ⟨v, e1, rfl⟩ := map_some' e
        exact ⟨hc, e1⟩
      · cases e
    have pins : ∀ (i : Nat) (v : V), vs[i]? = some v → pin.contains i = true → (i, v) ∈ c.pin := fun i v e1 e2 => by
      refine List.mem_filterMap.mpr ⟨i, List.mem_range.mpr ?_, ?_⟩
      · rw [← hv]
        exact (List.getElem?_eq_some_iff.mp e1).1
      · rw [if_pos e2, e1]
        rfl
    have k : Ok X.K c F H (vs.map some ++ List.replicate m none) (ds.map (fun d => some (false, d)) ++ List.replicate m none) [] [] := by
      refine ⟨⟨l0, [], slots_start gv.rep, .nil, by rw [List.append_nil]; exact gv.nd, fun a z => ?_⟩, gv.dom, fun a f => .inl f, fun a f => f, fun a o e _ => e, fun a e => e, fun p z => ?_⟩
      · rw [List.append_nil] at z
        exact ⟨gv.nF a z, .inl z⟩
      · obtain ⟨_, e1⟩ := hpin p z
        have hlt : p.1 < (vs.map some).length := by
          rw [List.length_map]
          exact (List.getElem?_eq_some_iff.mp e1).1
        rw [List.getElem?_append_left hlt, List.getElem?_map, e1]
        rfl
    have gb : ∀ {F' : Addr → Prop} {H' : Hp} {σ' : L2.St} {ρ' : Rho} {τ : List V} {θ : List D}, Ok X.K c F' H' σ' ρ' τ θ → τ.length = θ.length → ∃ ρ2, Ok X.K c F' H' σ' ρ2 (τ ++ retV vs (bkOf n pin ρ')) (θ ++ retD (bkOf n pin ρ')) := fun {F' H' σ' ρ' τ θ} k' hl => by
      obtain ⟨ρ2, k2, _⟩ := give_back (pin := pin) (is := List.range n) (vs := vs) List.nodup_range (by rw [List.length_range, hv]) (fun j i v e1 e2 e3 => by
        have hj : j < n := by
          have := (List.getElem?_eq_some_iff.mp e1).1
          rwa [List.length_range] at this
        rw [List.getElem?_range hj] at e1
        cases e1
        exact k'.pin (j, v) (pins j v e2 e3)) k'
      refine ⟨ρ2, ?_⟩
      have hrl : (retV vs (bkOf n pin ρ')).length = (retD (bkOf n pin ρ')).length := retV_len (by unfold bkOf; rw [List.length_map, List.length_range, hv])
      obtain ⟨l, mm, a1, a2, a3, a4⟩ := k2.rep
      obtain ⟨v1, v2, m1, m2, b1, b2, r1, r2⟩ := a2.split
      obtain ⟨rfl, rfl⟩ := List.append_inj b1 (by rw [r1.length]; exact hrl)
      subst b2
      have pp : (l ++ (m2 ++ m1)).Perm (l ++ (m1 ++ m2)) := List.Perm.append_left l List.perm_append_comm
      exact ⟨⟨l, m2 ++ m1, a1, r2.append r1, pp.nodup_iff.mpr a3, fun a z => a4 a (pp.mem_iff.mp z)⟩, k2.dom, k2.new, k2.sub, k2.fr, k2.gr, k2.pin⟩
    refine h2 c F H _ _ [] [] _ o (fun p z => List.contains_iff_mem.mp (hpin p z).1) k eg ?_
    cases o with
    | nx ρ' =>
      cases e
      intro F' H' σ' hF k'
      obtain ⟨ρ2, k2⟩ := gb (k'.push0 .non) rfl
      exact q1 _ _ rfl F' H' .non (back_of k2)
    | ret d ρ' =>
      cases e
      intro F' H' σ' v hF k'
      obtain ⟨ρ2, k2⟩ := gb k' rfl
      exact q1 _ _ rfl F' H' v (back_of k2)
    | brk ρ' => cases e
    | cnt ρ' => cases e
    | ex C fs ρ' =>
      cases e
      intro F' H' σ' q hF k' xr
      obtain ⟨ρ2, k2⟩ := gb k' rfl
      exact hW _ _ _ _ (q2 _ _ _ rfl F' H' q (back_of k2) xr)
/-- a def by its body's denotation -/
theorem fn_den {x qual : Str} {st : Stmt} {f : Addr} {fd : FuncData} {N ps : List Str} {k n m : Nat} {pin : List Nat} {g : Rho → Option Out} (Fn : Fun K x qual st f fd) (S : FnScope N ps (defScope st)) (hn : ps.length = n) (hm : N.length = n + m)
    (hbody : ∀ (cdv : Value) (A : Around) (outer : List Env) (s : Shared) (H : Hp) (E : XK), Room k (A.deeper (envOfC qual (defScope st) s.heap.objs.size f cdv)) → DSs (cxOf (L2.CX P w) P w K mg base N qual (defScope st) f cdv A outer s H E) (Wf E) pin (defBody st) g) :
    FnOk P w K mg base (L2.CX P w) (k + 1) f fd ps (Prom K (runF n m pin g)) := by
  refine Fn.okX S (fun vs H Q E h => by rw [hn]; exact prom_len (fun _ _ => runF_len) h) fun cdv A outer s H vs Q E hr h => ?_
  have hv : vs.length = n := prom_len (fun _ _ => runF_len) h
  obtain ⟨t, h1, h2⟩ := body_sem (X := cxOf (L2.CX P w) P w K mg base N qual (defScope st) f cdv A outer s H E) (fun _ _ _ _ z => z) (hbody cdv A outer s H E hr) h
  refine ⟨t, h1, ?_⟩
  have e : L2.start N vs = vs.map some ++ List.replicate m none := by
    unfold L2.start
    have z : N.length - vs.length = m := by omega
    rw [z]
  rw [e]
  exact h2
end

/-! ### calls -/
def mergeA : List (Option Nat) → Rho → List D → Option (List D × Rho)
  | [], ρ, [] => some ([], ρ)
  | none :: bk, ρ, d :: ds => (mergeA bk ρ ds).map fun r => (d :: r.1, r.2)
  | some i :: bk, ρ, ds => (match ρ[i]? with
    | some (some (false, d)) => (mergeA bk (ρ.set i none) ds).map fun r => (d :: r.1, r.2)
    | _ => none)
  | _, _, _ => none
def restore : List (Option Nat) → List (Option D) → Rho → Rho
  | some i :: bk, some d :: bs, ρ => restore bk bs (ρ.set i (some (false, d)))
  | some _ :: bk, none :: bs, ρ => restore bk bs ρ
  | none :: bk, _ :: bs, ρ => restore bk bs ρ
  | _, _, ρ => ρ
section
variable {K : PySem.W.Frag} {c : Cn} {F : Addr → Prop} {H : Hp} {σ : L2.St}
theorem Ok.gather : ∀ {bk : List (Option Nat)} {vs ws : List V} {ds full : List D} {ρ ρ' : Rho} {τ : List V} {θ : List D}, Ok K c F H σ ρ (ws ++ τ) (ds ++ θ) → Argd σ bk vs ws → ws.length = ds.length → mergeA bk ρ ds = some (full, ρ') →
    Ok K c F H σ ρ' (vs ++ τ) (full ++ θ) ∧ vs.length = full.length
  | _, _, _, [], full, ρ, ρ', τ, θ, k, .nil, _, e => by
    cases e
    exact ⟨k, rfl⟩
  | _, _, _, _ :: _, _, _, _, _, _, _, .nil, hl, _ => by cases hl
  | _, _, _, [], _, _, _, _, _, _, .val _, hl, _ => by cases hl
  | none :: bk, v :: vs, _ :: ws, d :: ds, full, ρ, ρ', τ, θ, k, .val ad, hl, e => by
    rw [mergeA] at e
    obtain ⟨⟨r1, r2⟩, e1, e2⟩ := map_some' e
    cases e2
    have hl' : ws.length = ds.length := by simpa using hl
    obtain ⟨k2, hl2⟩ := Ok.gather (Ok.rotL k hl') ad hl' e1
    exact ⟨k2.rotR hl2, by rw [List.length_cons, List.length_cons, hl2]⟩
  | some i :: bk, v :: vs, ws, ds, full, ρ, ρ', τ, θ, k, .slot hs ad, hl, e => by
    rw [mergeA] at e
    split at e
    · rename_i d e1
      obtain ⟨⟨r1, r2⟩, e2, e3⟩ := map_some' e
      cases e3
      have k1 := k.move e1 hs
      obtain ⟨k2, hl2⟩ := Ok.gather (Ok.rotL k1 hl) ad hl e2
      exact ⟨k2.rotR hl2, by rw [List.length_cons, List.length_cons, hl2]⟩
    · cases e
theorem Ok.restore : ∀ {bk : List (Option Nat)} {vs ws : List V} {bs : List (Option D)} {ρ : Rho} {τ : List V} {θ : List D}, Argd σ bk vs ws → vs.length = bs.length → Ok K c F H σ ρ (retV vs bs ++ τ) (retD bs ++ θ) → Ok K c F H σ (restore bk bs ρ) τ θ
  | _, _, _, [], ρ, τ, θ, .nil, _, k => k
  | _, _, _, none :: bs, ρ, τ, θ, .val ad, hl, k => Ok.restore (bs := bs) ad (by simpa using hl) k
  | _, _, _, some d :: bs, ρ, τ, θ, .val ad, hl, k => Ok.restore (bs := bs) ad (by simpa using hl) (Ok.drop k)
  | _, _, _, none :: bs, ρ, τ, θ, .slot hs ad, hl, k => Ok.restore (bs := bs) ad (by simpa using hl) k
  | _, _, _, some d :: bs, ρ, τ, θ, .slot hs ad, hl, k => Ok.restore (bs := bs) ad (by simpa using hl) (Ok.back k hs)
end
def rdE (bk : List (Option Nat)) (ρ : Rho) : Rd → Option (Rs D)
  | .ok d b => if b.length = bk.length then some (.ok d (restore bk b ρ)) else none
  | .ex C fs b => if b.length = bk.length then some (.ex C fs (restore bk b ρ)) else none
def eCall (fn : List D → Option Rd) (bk : List (Option Nat)) (g : Rho → Option (Rs (List D))) : Rho → Option (Rs D) := fun ρ => rsB (g ρ) fun ds ρ1 => (mergeA bk ρ1 ds).bind fun a => (fn a.1).bind (rdE bk (kill a.2))
def gCall (fn : List D → Option Rd) (g : Rho → Option (List D)) : Rho → Option (Xs D) := fun ρ => ((g ρ).bind allFz).bind fun ds => (fn ds).map fun
  | .ok d _ => .ok d
  | .ex C fs _ => .ex C fs
section
variable {X : Cx} {W : WX} {x : Str} {p pos : Pos} {e : Expr} {es : List Expr} {k : Nat} {f : Addr} {fd : FuncData} {ps : List Str} {fn : List D → Option Rd}
/-- the state behind the arguments gives what a callee wants -/
theorem prom_of {bk : List (Option Nat)} {c : Cn} {F1 : Addr → Prop} {H1 : Hp} {σ : L2.St} {ρ1 : Rho} {τ : List V} {θ : List D} {vs ws : List V} {ds : List D} {Q : VK} {E : XK} {r : Rs D} (ad : Argd σ bk vs ws) (hl : ws.length = ds.length) (k1 : Ok X.K c F1 H1 σ ρ1 (ws ++ τ) (ds ++ θ))
    (e : ((mergeA bk ρ1 ds).bind fun a => (fn a.1).bind (rdE bk (kill a.2))) = some r)
    (q : ∀ d ρ', r = .ok d ρ' → ∀ (F' : Addr → Prop) (H' : Hp) (v : V), (∀ a, F1 a → F' a) → Ok X.K c F' H' σ ρ' (v :: τ) (d :: θ) → Q v H')
    (qx : ∀ C fs ρ', r = .ex C fs ρ' → ∀ (F' : Addr → Prop) (H' : Hp) (q : Option Addr), (∀ a, F1 a → F' a) → Ok X.K c F' H' σ ρ' τ θ → XRep X.K F' H' q fs → E (.ref C) q H') : Prom X.K fn vs H1 Q E := by
  obtain ⟨⟨full, ρ2⟩, e1, e⟩ := bind_some' e
  obtain ⟨rd, e2, e⟩ := bind_some' e
  obtain ⟨k2, hl2⟩ := Ok.gather k1 ad hl e1
  obtain ⟨l0, gv, cb⟩ := k2.callT hl2
  have hbl : vs.length = bk.length := by
    have z : ∀ {bk : List (Option Nat)} {vs ws : List V}, Argd σ bk vs ws → vs.length = bk.length := by
      intro bk vs ws a
      induction a with
      | nil => rfl
      | val _ ih => rw [List.length_cons, List.length_cons, ih]
      | slot _ _ ih => rw [List.length_cons, List.length_cons, ih]
    exact z ad
  refine ⟨F1, full, l0, rd, gv, e2, fun d b z F' H' v B => ?_, fun C fs b z F' H' xq B xr => ?_⟩
  · subst z
    have e : (if b.length = bk.length then some (Rs.ok d (restore bk b (kill ρ2))) else none) = some r := e
    split at e
    · rename_i hb
      cases e
      have k3 := cb F' H' _ _ B
      have k4 : Ok X.K c F' H' σ _ (retV vs b ++ v :: τ) (retD b ++ d :: θ) := Ok.rotL k3 (retV_len (by rw [hb, hbl]))
      exact q _ _ rfl F' H' v B.sub (k4.restore ad (by rw [hb, hbl]))
    · cases e
  · subst z
    have e : (if b.length = bk.length then some (Rs.ex (α := D) C fs (restore bk b (kill ρ2))) else none) = some r := e
    split at e
    · rename_i hb
      cases e
      exact qx _ _ _ rfl F' H' xq B.sub ((cb F' H' _ _ B).restore ad (by rw [hb, hbl])) xr
    · cases e
theorem de_call {bk : List (Option Nat)} {g : Rho → Option (Rs (List D))} (Fo : FnOk X.prog X.w X.K X.mg X.base (L2.CX X.prog X.w) k f fd ps (Prom X.K fn)) (hr : Room k X.A) (hg : Gl X x) (hm : X.mg x = some (.ref f)) (hk : PySem.W.keepIn X.K (.ref f) = true) (hb : Binds X.K fd ps []) (hx : ∀ σ, PassesAt (L2.CX X.prog X.w) X σ (WE W σ))
    (ha : DEs X W (e :: es) bk g) (hdb : (x == ("__debug__" : Str)) = false := by decide) (he : starEach (e :: es) X.env = (false, eval e X.env) :: starEach es X.env := by rfl) (hpl : (backTo pos (starEach es X.env)).any (·.1) = false := by rfl) :
    DE X W (.Call (.Name x p) (e :: es) [] pos) (eCall fn bk g) := by
  obtain ⟨t, h1, h2⟩ := ha.ex
  refine ⟨_, pe_callS Fo hr hg hm hk hb hx h1 hdb he hpl, fun c F H σ ρ τ θ Q r k e0 q qx => ?_⟩
  rcases rsB_some e0 with ⟨ds, ρ1, e1, e0⟩ | ⟨C, fs, ρ1, e1, rfl⟩
  · refine h2 c F H σ ρ τ θ _ _ k e1 (fun d' ρ' z F1 H1 vs ws hF1 ad hl k1 => ?_) fun C fs ρ' z => by cases z
    cases z
    exact prom_of ad hl k1 e0 (fun d ρ' z F' H' v hF k' => q d ρ' z F' H' v (fun a z => hF a (hF1 a z)) k') fun C fs ρ' z F' H' x hF k' xr => qx C fs ρ' z F' H' x (fun a z => hF a (hF1 a z)) k' xr
  · exact h2 c F H σ ρ τ θ _ _ k e1 (fun d ρ' z => by cases z) fun C fs ρ' z F1 H1 q hF1 k1 xr => by
      cases z
      exact qx _ _ _ rfl F1 H1 q hF1 k1 xr
/-- .. of looks, that are frozen: nothing changes -/
theorem promF_of {c : Cn} {F1 : Addr → Prop} {H1 : Hp} {σ : L2.St} {ρ : Rho} {τ : List V} {θ : List D} {vs : List V} {ds : List D} {Q : VK} {E : XK} {rd : Rd} (k1 : Ok X.K c F1 H1 σ ρ τ θ) (r1 : Rps X.K F1 H1 vs ds []) (e2 : fn ds = some rd)
    (q : ∀ d b, rd = .ok d b → ∀ (F' : Addr → Prop) (H' : Hp) (v : V) (l : List Addr), Ext F1 H1 F' H' → Ok X.K c F' H' σ ρ τ θ → Rp X.K F' H' v d l → l.Nodup → (∀ a ∈ l, ¬ F' a ∧ H1 a = none) → Q v H')
    (qx : ∀ C fs b, rd = .ex C fs b → ∀ (F' : Addr → Prop) (H' : Hp) (q : Option Addr), Ext F1 H1 F' H' → Ok X.K c F' H' σ ρ τ θ → XRep X.K F' H' q fs → E (.ref C) q H') : Prom X.K fn vs H1 Q E := by
  obtain ⟨gv, cb⟩ := k1.callF r1
  refine ⟨F1, ds, [], rd, gv, e2, fun d b z F' H' v B => ?_, fun C fs b z F' H' xq B xr => ?_⟩
  · obtain ⟨s, k2⟩ := cb F' H' _ _ B
    have hx : Ext F1 H1 F' H' := ⟨B.sub, fun a f => (B.new a f).elim .inl fun z => z.elim .inr (fun z => nomatch z), s⟩
    obtain ⟨l, r, nd, nw⟩ := B.rep
    cases r with
    | cons r r' =>
      refine q d b z F' H' v _ hx (k1.grow hx B.dom) r (List.nodup_append.mp nd).1 fun a z => ⟨(nw a (List.mem_append_left _ z)).1, ?_⟩
      exact (nw a (List.mem_append_left _ z)).2.elim (fun z => nomatch z) id
  · obtain ⟨s, k2⟩ := cb F' H' _ _ B
    have hx : Ext F1 H1 F' H' := ⟨B.sub, fun a f => (B.new a f).elim .inl fun z => z.elim .inr (fun z => nomatch z), s⟩
    exact qx C fs b z F' H' xq hx (k1.grow hx B.dom) xr
theorem dn_call {g : Rho → Option (List D)} (Fo : FnOk X.prog X.w X.K X.mg X.base (L2.CX X.prog X.w) k f fd ps (Prom X.K fn)) (hr : Room k X.A) (hg : Gl X x) (hm : X.mg x = some (.ref f)) (hk : PySem.W.keepIn X.K (.ref f) = true) (hb : Binds X.K fd ps []) (hx : ∀ σ, PassesAt (L2.CX X.prog X.w) X σ (WE W σ))
    (ha : DVs X (e :: es) g) (hdb : (x == ("__debug__" : Str)) = false := by decide) (he : starEach (e :: es) X.env = (false, eval e X.env) :: starEach es X.env := by rfl) (hpl : (backTo pos (starEach es X.env)).any (·.1) = false := by rfl) :
    DN X W (.Call (.Name x p) (e :: es) [] pos) (gCall fn g) := by
  obtain ⟨t, h1, h2⟩ := ha.ex
  refine ⟨_, pe_callS Fo hr hg hm hk hb hx h1 hdb he hpl, fun c F H σ ρ τ θ Q r k e0 q qx => ?_⟩
  obtain ⟨ds, e1, e0⟩ := bind_some' e0
  obtain ⟨ds0, e1, e2⟩ := bind_some' e1
  obtain ⟨rfl, z⟩ := allFz_some e2
  obtain ⟨rd, e3, rfl⟩ := map_some' e0
  refine h2 c F H σ ρ τ θ _ _ k e1 fun F1 H1 vs l hF1 k1 r1 => ?_
  have := r1.isFz z
  subst this
  refine promF_of k1 r1 e3 (fun d b z F' H' v l hx k' r nd nw => ?_) fun C fs b z F' H' x hx k' xr => ?_
  · subst z
    exact q _ rfl F' H' v l (hF1.trans hx) k' r nd fun a z => ⟨(nw a z).1, hF1.same.free (nw a z).2⟩
  · subst z
    exact qx _ _ rfl F' H' x (hF1.trans hx) k' xr
end
end DL

set_option Elab.async false
set_option linter.all false
set_option maxRecDepth 100000
set_option maxHeartbeats 4000000
/-! DLI: operations by values. -/
namespace DL
open PySem PySem.Spec PyProof.Rows L2

/-- a result: frozen or new -/
def Res (K : PySem.W.Frag) (F : Addr → Prop) (H : Hp) (d : D) (Q : VK) : Prop := ∀ (F' : Addr → Prop) (H' : Hp) (v : V) (l : List Addr), Ext F H F' H' → (∀ a, F' a → H' a ≠ none) → Rp K F' H' v d l → l.Nodup → (∀ a ∈ l, ¬ F' a ∧ H a = none) → Q v H'
def VX1 (K : PySem.W.Frag) (r : V → Hp → VK → Prop) (f : D → Option D) : Prop := ∀ (F : Addr → Prop) (H : Hp) (x : V) (d1 d : D) (l1 : List Addr) (Q : VK), (∀ a, F a → H a ≠ none) → Rp K F H x d1 l1 → f d1 = some d → Res K F H d Q → r x H Q
def VX2 (K : PySem.W.Frag) (r : R2) (f : D → D → Option D) : Prop := ∀ (F : Addr → Prop) (H : Hp) (x y : V) (d1 d2 d : D) (l1 l2 : List Addr) (Q : VK), (∀ a, F a → H a ≠ none) → Rp K F H x d1 l1 → Rp K F H y d2 l2 → f d1 d2 = some d → Res K F H d Q → r x y H Q
def VXN (K : PySem.W.Frag) (r : List V → Hp → VK → Prop) (f : List D → Option D) : Prop := ∀ (F : Addr → Prop) (H : Hp) (vs : List V) (ds : List D) (d : D) (l : List Addr) (Q : VK), (∀ a, F a → H a ≠ none) → Rps K F H vs ds l → f ds = some d → Res K F H d Q → r vs H Q
section
variable {K : PySem.W.Frag} {F : Addr → Prop} {H : Hp} {Q : VK}
theorem Res.flat {v : V} {d : D} (dom : ∀ a, F a → H a ≠ none) (h : Res K F H d Q) (r : Rp K F H v d []) : Q v H := h F H v [] .refl dom r List.nodup_nil fun _ z => nomatch z
/-- a new list of frozen items -/
theorem Res.lst {vs : List V} {ds : List D} {p : Addr} (dom : ∀ a, F a → H a ≠ none) (h : Res K F H (.lst true ds) Q) (r : Rps K F H vs ds []) (hp : H p = none) : Q (.ref p) (upd H p (.lst vs)) := by
  have hx : Ext F H F (upd H p (.lst vs)) := ⟨fun _ z => z, fun _ z => .inl z, DL.same_upd hp⟩
  refine h F _ _ [p] hx (fun a f z => dom a f (hx.same.free z)) (.lstO upd_same (hx.rps r)) (List.nodup_cons.mpr ⟨(fun z => nomatch z), List.nodup_nil⟩) fun a z => ?_
  cases List.mem_singleton.mp z
  exact ⟨fun f => dom _ f hp, hp⟩
theorem Res.tup {vs : List V} {ds : List D} {p : Addr} (dom : ∀ a, F a → H a ≠ none) (h : Res K F H (.tup ds) Q) (r : Rps K F H vs ds []) (hp : H p = none) : Q (.ref p) (upd H p (.tup vs)) := by
  have hx : Ext F H (fun a => F a ∨ a = p) (upd H p (.tup vs)) := ⟨fun _ z => .inl z, fun _ z => z.imp id fun e => by rw [e]; exact hp, DL.same_upd hp⟩
  refine h _ _ _ [] hx (fun a f => ?_) (.tup ⟨.inr rfl, upd_same⟩ (hx.rps r)) List.nodup_nil fun _ z => nomatch z
  rcases f with f | f
  · exact fun z => dom a f (hx.same.free z)
  · rw [f, upd_same]
    exact fun z => nomatch z
end
/-! ### from values to expressions -/
def nOp2 (f : D → D → Option D) (ga gb : Rho → Option D) : Rho → Option (Xs D) := fun ρ => (gOp2 f ga gb ρ).map .ok
def nOp1 (f : D → Option D) (ga : Rho → Option D) : Rho → Option (Xs D) := fun ρ => (gOp1 f ga ρ).map .ok
def nOpN (f : List D → Option D) (g : Rho → Option (List D)) : Rho → Option (Xs D) := fun ρ => ((g ρ).bind f).map .ok
def xOp1 (f : D → Option D) (ga : Rho → Option (Rs D)) : Rho → Option (Rs D) := fun ρ => rsB (ga ρ) fun x ρ1 => (f x).map fun d => .ok d ρ1
def xOp2 (f : D → D → Option D) (ga gb : Rho → Option (Rs D)) : Rho → Option (Rs D) := fun ρ => rsB (ga ρ) fun x ρ1 => rsB (gb ρ1) fun y ρ2 => (f x y).map fun d => .ok d ρ2
def xOpN (f : List D → Option D) (g : Rho → Option (Rs (List D))) : Rho → Option (Rs D) := fun ρ => rsB (g ρ) fun ds ρ1 => (f ds).map fun d => .ok d ρ1
section
variable {X : Cx} {W : WX} {a b e : Expr} {es : List Expr} {pos : Pos}
theorem OpR.orR {f : Value → Value → Sem Value} {r r' : R2} (h : OpR X f r) (h' : OpR X f r') : OpR X f (fun x y H Q => r x y H Q ∨ r' x y H Q) := by
  intro pins s σ H x y v u Q I rx ry q
  rcases q with q | q
  · exact h pins s σ H x y v u Q I rx ry q
  · exact h' pins s σ H x y v u Q I rx ry q
theorem CallR.orR {f : Value} {r r' : List V → Hp → VK → Prop} (h : CallR X f r) (h' : CallR X f r') : CallR X f (fun xs H Q => r xs H Q ∨ r' xs H Q) := by
  intro pins s σ H xs us Q I rs q
  rcases q with q | q
  · exact h pins s σ H xs us Q I rs q
  · exact h' pins s σ H xs us Q I rs q
theorem dn_op2 {op : Operator} {r : R2} {f : D → D → Option D} {ga gb : Rho → Option D} (ho : OpR X (binaryOp op) r) (hv : VX2 X.K r f) (ha : DV X a ga) (hb : DV X b gb) : DN X W (.BinOp a op b pos) (nOp2 f ga gb) := by
  obtain ⟨ta, a1, a2⟩ := ha.ex
  obtain ⟨tb, b1, b2⟩ := hb.ex
  refine ⟨_, pe_op ho a1 b1, fun c F H σ ρ τ θ Q r k e q qx => ?_⟩
  obtain ⟨d, e0, rfl⟩ := map_some' e
  exact look2 a2 b2 k e0 fun F' H' x y d1 d2 l1 l2 hF k' r1 r2 ef => hv F' H' x y d1 d2 d l1 l2 Q k'.dom r1 r2 ef fun F2 H2 v l hx dom r3 nd nw => q _ rfl F2 H2 v l (hF.trans hx) (k'.grow hx dom) r3 nd fun a z => ⟨(nw a z).1, hF.same.free (nw a z).2⟩
/-- an end over the temporaries -/
theorem finX2 {r : R2} {f : D → D → Option D} (hv : VX2 X.K r f) {c : Cn} {F : Addr → Prop} {H : Hp} {σ : L2.St} {ρ : Rho} {τ : List V} {θ : List D} {x y : V} {d1 d2 : D} {Q : VK} {rr : Rs D}
    (k : Ok X.K c F H σ ρ (y :: x :: τ) (d2 :: d1 :: θ)) (e : ((f d1 d2).map fun d => Rs.ok d ρ) = some rr)
    (q : ∀ d ρ', rr = .ok d ρ' → ∀ (F' : Addr → Prop) (H' : Hp) (v : V), (∀ a, F a → F' a) → Ok X.K c F' H' σ ρ' (v :: τ) (d :: θ) → Q v H') : r x y H Q := by
  obtain ⟨d, e1, rfl⟩ := map_some' e
  obtain ⟨l2, r2⟩ := k.top
  obtain ⟨l1, r1⟩ := k.drop.top
  exact hv F H x y d1 d2 d l1 l2 Q k.dom r1 r2 e1 fun F2 H2 v l hx dom r3 nd nw => q d ρ rfl F2 H2 v hx.sub (k.drop.drop.pushN hx dom r3 nd nw)
theorem de_op2X {op : Operator} {r : R2} {f : D → D → Option D} {ga gb : Rho → Option (Rs D)} (ho : OpR X (binaryOp op) r) (hv : VX2 X.K r f) (ha : DE X W a ga) (hb : DE X W b gb) : DE X W (.BinOp a op b pos) (xOp2 f ga gb) := by
  obtain ⟨ta, a1, a2⟩ := ha.ex
  obtain ⟨tb, b1, b2⟩ := hb.ex
  refine ⟨_, pe_op ho a1 b1, fun c F H σ ρ τ θ Q rr k e q qx => ?_⟩
  exact run2 a2 b2 k e (fun F' H' x y d1 d2 ρ' hF k' e' => finX2 hv k' e' fun d ρ2 z F2 H2 v hF2 k2 => q d ρ2 z F2 H2 v (fun a z => hF2 a (hF a z)) k2) qx
theorem dn_callB {id : String} {x : Str} {p : Pos} {r : List V → Hp → VK → Prop} {f : List D → Option D} {g : Rho → Option (List D)} (hc : CallR X (.builtin id) r) (hv : VXN X.K r f) (hg : Gl X x) (hm : X.mg x = none) (hb : bootBuiltins x = some (.builtin id)) (ha : DVs X (e :: es) g) (hn : x ≠ "__name__" := by decide) (hdb : (x == ("__debug__" : Str)) = false := by decide)
    (he : starEach (e :: es) X.env = (false, eval e X.env) :: starEach es X.env := by rfl) (hpl : (backTo pos (starEach es X.env)).any (·.1) = false := by rfl) : DN X W (.Call (.Name x p) (e :: es) [] pos) (nOpN f g) := by
  obtain ⟨t, h1, h2⟩ := ha.ex
  refine ⟨_, pe_callB hc hg hm hb h1 hn hdb he hpl, fun c F H σ ρ τ θ Q rr k e q qx => ?_⟩
  obtain ⟨d, e0, rfl⟩ := map_some' e
  obtain ⟨ds, e1, e2⟩ := bind_some' e0
  exact h2 c F H σ ρ τ θ _ ds k e1 fun F1 H1 vs l hF1 k1 r1 => hv F1 H1 vs ds d l Q k1.dom r1 e2 fun F2 H2 v l hx dom r3 nd nw => q _ rfl F2 H2 v l (hF1.trans hx) (k1.grow hx dom) r3 nd fun a z => ⟨(nw a z).1, hF1.same.free (nw a z).2⟩
theorem dn_callTy {T : String} {x : Str} {p : Pos} {r : List V → Hp → VK → Prop} {f : List D → Option D} {g : Rho → Option (List D)} (hc : CallR X (.type T) r) (hv : VXN X.K r f) (hg : Gl X x) (hm : X.mg x = none) (hb : bootBuiltins x = some (.type T)) (ha : DVs X (e :: es) g) (hn : x ≠ "__name__" := by decide) (hdb : (x == ("__debug__" : Str)) = false := by decide)
    (he : starEach (e :: es) X.env = (false, eval e X.env) :: starEach es X.env := by rfl) (hpl : (backTo pos (starEach es X.env)).any (·.1) = false := by rfl) : DN X W (.Call (.Name x p) (e :: es) [] pos) (nOpN f g) := by
  obtain ⟨t, h1, h2⟩ := ha.ex
  refine ⟨_, pe_callTy hc hg hm hb h1 hn hdb he hpl, fun c F H σ ρ τ θ Q rr k e q qx => ?_⟩
  obtain ⟨d, e0, rfl⟩ := map_some' e
  obtain ⟨ds, e1, e2⟩ := bind_some' e0
  exact h2 c F H σ ρ τ θ _ ds k e1 fun F1 H1 vs l hF1 k1 r1 => hv F1 H1 vs ds d l Q k1.dom r1 e2 fun F2 H2 v l hx dom r3 nd nw => q _ rfl F2 H2 v l (hF1.trans hx) (k1.grow hx dom) r3 nd fun a z => ⟨(nw a z).1, hF1.same.free (nw a z).2⟩
theorem finXN {r : List V → Hp → VK → Prop} {f : List D → Option D} (hv : VXN X.K r f) {c : Cn} {F : Addr → Prop} {H : Hp} {σ : L2.St} {ρ : Rho} {τ : List V} {θ : List D} {vs : List V} {ds : List D} {Q : VK} {rr : Rs D}
    (hl : vs.length = ds.length) (k : Ok X.K c F H σ ρ (vs ++ τ) (ds ++ θ)) (e : ((f ds).map fun d => Rs.ok d ρ) = some rr)
    (q : ∀ d ρ', rr = .ok d ρ' → ∀ (F' : Addr → Prop) (H' : Hp) (v : V), (∀ a, F a → F' a) → Ok X.K c F' H' σ ρ' (v :: τ) (d :: θ) → Q v H') : r vs H Q := by
  obtain ⟨d, e1, rfl⟩ := map_some' e
  obtain ⟨l, r1⟩ := k.tops hl
  exact hv F H vs ds d l Q k.dom r1 e1 fun F2 H2 v l hx dom r3 nd nw => q d ρ rfl F2 H2 v hx.sub ((k.drops hl).pushN hx dom r3 nd nw)
theorem de_callB {n : Nat} {id : String} {x : Str} {p : Pos} {r : List V → Hp → VK → Prop} {f : List D → Option D} {g : Rho → Option (Rs (List D))} (hc : CallR X (.builtin id) r) (hv : VXN X.K r f) (hg : Gl X x) (hm : X.mg x = none) (hb : bootBuiltins x = some (.builtin id)) (ha : DEs X W (e :: es) (List.replicate n none) g) (hn : x ≠ "__name__" := by decide) (hdb : (x == ("__debug__" : Str)) = false := by decide)
    (he : starEach (e :: es) X.env = (false, eval e X.env) :: starEach es X.env := by rfl) (hpl : (backTo pos (starEach es X.env)).any (·.1) = false := by rfl) : DE X W (.Call (.Name x p) (e :: es) [] pos) (xOpN f g) := by
  obtain ⟨t, h1, h2⟩ := ha.ex
  refine ⟨_, pe_callB hc hg hm hb h1 hn hdb he hpl, fun c F H σ ρ τ θ Q rr k e q qx => ?_⟩
  rcases rsB_some e with ⟨ds, ρ1, e1, e⟩ | ⟨C, fs, ρ1, e1, rfl⟩
  · refine h2 c F H σ ρ τ θ _ _ k e1 (fun d' ρ' z F1 H1 vs ws hF1 ad hl k1 => ?_) fun C fs ρ' z => by cases z
    cases z
    have := ad.vals
    subst this
    exact finXN hv hl k1 e fun d ρ2 z F2 H2 v hF2 k2 => q d ρ2 z F2 H2 v (fun a z => hF2 a (hF1 a z)) k2
  · exact h2 c F H σ ρ τ θ _ _ k e1 (fun d ρ' z => by cases z) fun C fs ρ' z F1 H1 q hF1 k1 xr => by
      cases z
      exact qx _ _ _ rfl F1 H1 q hF1 k1 xr
theorem de_callTy {n : Nat} {T : String} {x : Str} {p : Pos} {r : List V → Hp → VK → Prop} {f : List D → Option D} {g : Rho → Option (Rs (List D))} (hc : CallR X (.type T) r) (hv : VXN X.K r f) (hg : Gl X x) (hm : X.mg x = none) (hb : bootBuiltins x = some (.type T)) (ha : DEs X W (e :: es) (List.replicate n none) g) (hn : x ≠ "__name__" := by decide) (hdb : (x == ("__debug__" : Str)) = false := by decide)
    (he : starEach (e :: es) X.env = (false, eval e X.env) :: starEach es X.env := by rfl) (hpl : (backTo pos (starEach es X.env)).any (·.1) = false := by rfl) : DE X W (.Call (.Name x p) (e :: es) [] pos) (xOpN f g) := by
  obtain ⟨t, h1, h2⟩ := ha.ex
  refine ⟨_, pe_callTy hc hg hm hb h1 hn hdb he hpl, fun c F H σ ρ τ θ Q rr k e q qx => ?_⟩
  rcases rsB_some e with ⟨ds, ρ1, e1, e⟩ | ⟨C, fs, ρ1, e1, rfl⟩
  · refine h2 c F H σ ρ τ θ _ _ k e1 (fun d' ρ' z F1 H1 vs ws hF1 ad hl k1 => ?_) fun C fs ρ' z => by cases z
    cases z
    have := ad.vals
    subst this
    exact finXN hv hl k1 e fun d ρ2 z F2 H2 v hF2 k2 => q d ρ2 z F2 H2 v (fun a z => hF2 a (hF1 a z)) k2
  · exact h2 c F H σ ρ τ θ _ _ k e1 (fun d ρ' z => by cases z) fun C fs ρ' z F1 H1 q hF1 k1 xr => by
      cases z
      exact qx _ _ _ rfl F1 H1 q hF1 k1 xr
end

/-! ### numbers -/
theorem VOp2.x {K : PySem.W.Frag} {r : R2} {f : D → D → Option D} (h : VOp2 K r f) (hf : ∀ d1 d2 d, f d1 d2 = some d → isFz d = true) : VX2 K r f := fun F H x y d1 d2 d l1 l2 Q dom r1 r2 e q => h F H x y d1 d2 d l1 l2 Q r1 r2 e fun v l r => by
  have := r.isFz (hf _ _ _ e)
  subst this
  exact q.flat dom r
def fI2 (g : Int → Int → D) : D → D → Option D
  | .int i, .int j => some (g i j)
  | _, _ => none
def fI2c (c : Int → Int → Bool) (g : Int → Int → D) : D → D → Option D
  | .int i, .int j => if c i j = true then some (g i j) else none
  | _, _ => none
theorem fI2_some {g : Int → Int → D} {d1 d2 d : D} (h : fI2 g d1 d2 = some d) : ∃ i j, d1 = .int i ∧ d2 = .int j ∧ d = g i j := by
  unfold fI2 at h
  split at h
  · cases h; exact ⟨_, _, rfl, rfl, rfl⟩
  · cases h
theorem fI2c_some {c : Int → Int → Bool} {g : Int → Int → D} {d1 d2 d : D} (h : fI2c c g d1 d2 = some d) : ∃ i j, d1 = .int i ∧ d2 = .int j ∧ c i j = true ∧ d = g i j := by
  unfold fI2c at h
  split at h
  · split at h
    · rename_i z
      cases h; exact ⟨_, _, rfl, rfl, z, rfl⟩
    · cases h
  · cases h
theorem vI0 {K : PySem.W.Frag} {g : Int → Int → V} {g' : Int → Int → D} (h : ∀ F H i j, Rp K F H (g i j) (g' i j) []) : VOp2 K (rI0 g) (fI2 g') := fun F H x y d1 d2 d l1 l2 Q r1 r2 e q => by
  obtain ⟨i, j, rfl, rfl, rfl⟩ := fI2_some e
  exact ⟨i, j, r1.int_inv, r2.int_inv, q _ _ (h F H i j)⟩
theorem vI {K : PySem.W.Frag} {C : Int → Int → Prop} {c : Int → Int → Bool} {g : Int → Int → V} {g' : Int → Int → D} (hC : ∀ i j, c i j = true → C i j) (h : ∀ F H i j, Rp K F H (g i j) (g' i j) []) : VOp2 K (rI C g) (fI2c c g') := fun F H x y d1 d2 d l1 l2 Q r1 r2 e q => by
  obtain ⟨i, j, rfl, rfl, z, rfl⟩ := fI2c_some e
  exact ⟨i, j, r1.int_inv, r2.int_inv, hC i j z, q _ _ (h F H i j)⟩
def fSub := fI2 fun i j => .int (i - j)
def cMul (i j : Int) : Bool := decide (i.natAbs.log2 + j.natAbs.log2 < 1000000)
def cDiv (j : Int) : Bool := decide (j ≠ 0) && decide (j.natAbs < 1073741824)
def fFdiv := fI2c (fun _ j => cDiv j) fun i j => .int (i.fdiv j)
def fMod := fI2c (fun _ j => decide (j ≠ 0)) fun i j => .int (i.fmod j)
def fPow := fI2c (fun i j => decide (0 ≤ j) && decide (j ≤ 1000000) && decide (i.natAbs < 2 ^ 64)) fun i j => .int (i ^ j.toNat)
def fLt := fI2 fun i j => .bl (decide (i < j))
def fLe := fI2 fun i j => .bl (decide (i ≤ j))
def fGt := fI2 fun i j => .bl (decide (j < i))
def fGe := fI2 fun i j => .bl (decide (j ≤ i))
section
variable {X : Cx} {K : PySem.W.Frag}
theorem v_sub : VOp2 K (rI0 fun i j => .int (i - j)) fSub := vI0 fun _ _ _ _ => .int _
theorem v_fdiv : VOp2 K (rI CDivN fun i j => .int (i.fdiv j)) fFdiv := vI (fun i j h => by
  unfold cDiv at h
  rw [Bool.and_eq_true, decide_eq_true_eq, decide_eq_true_eq] at h
  exact h) fun _ _ _ _ => .int _
theorem v_mod : VOp2 K (rI (fun _ j => j ≠ 0) fun i j => .int (i.fmod j)) fMod := vI (fun i j h => of_decide_eq_true h) fun _ _ _ _ => .int _
theorem v_pow : VOp2 K (rI CPow fun i j => .int (i ^ j.toNat)) fPow := vI (fun i j h => by
  rw [Bool.and_eq_true, Bool.and_eq_true, decide_eq_true_eq, decide_eq_true_eq, decide_eq_true_eq] at h
  exact ⟨h.1.1, h.1.2, h.2⟩) fun _ _ _ _ => .int _
theorem v_lt : VOp2 K (rI0 fun i j => .bl (decide (i < j))) fLt := vI0 fun _ _ _ _ => .bl _
theorem v_le : VOp2 K (rI0 fun i j => .bl (decide (i ≤ j))) fLe := vI0 fun _ _ _ _ => .bl _
theorem v_gt : VOp2 K (rI0 fun i j => .bl (decide (j < i))) fGt := vI0 fun _ _ _ _ => .bl _
theorem v_ge : VOp2 K (rI0 fun i j => .bl (decide (j ≤ i))) fGe := vI0 fun _ _ _ _ => .bl _
def fNeg : D → Option D
  | .int i => some (.int (-i))
  | _ => none
theorem v_neg : VOp1 K (rU fun i => .int (-i)) fNeg := fun F H x d1 d l1 Q r e q => by
  unfold fNeg at e
  split at e
  · cases e; exact ⟨_, r.int_inv, q _ _ (.int _)⟩
  · cases e

/-! ### + and * of anything -/
/-- of frozen parts -/
def fCat (xs ys : List D) : Option (List D) := if isFzs xs = true ∧ isFzs ys = true ∧ xs.length + ys.length ≤ sizeLine then some (xs ++ ys) else none
theorem fCat_some {xs ys zs : List D} (h : fCat xs ys = some zs) : (isFzs xs = true ∧ isFzs ys = true ∧ xs.length + ys.length ≤ sizeLine) ∧ zs = xs ++ ys := by
  unfold fCat at h
  split at h
  · rename_i z
    cases h; exact ⟨z, rfl⟩
  · cases h
def fAdd : D → D → Option D
  | .int i, .int j => some (.int (i + j))
  | .str x, .str y => if x.length + y.length ≤ sizeLine then some (.str (x ++ y)) else none
  | .lst _ xs, .lst _ ys => (fCat xs ys).map (.lst true)
  | .tup xs, .tup ys => (fCat xs ys).map .tup
  | _, _ => none
def rAddA (K : PySem.W.Frag) : R2 := fun x y H Q => (((∃ i j, x = V.int i ∧ y = V.int j ∧ Q (.int (i + j)) H) ∨ (∃ i j, x = V.str i ∧ y = V.str j ∧ i.length + j.length ≤ sizeLine ∧ Q (.str (i ++ j)) H)) ∨ rCat x y H Q) ∨ rCatA K x y H Q
theorem op_addA : OpR X (binaryOp .Add) (rAddA X.K) := OpR.orR (OpR.orR (OpR.orR op_add op_add_str) op_cat) op_catA
theorem Rp.lstAt {F : Addr → Prop} {H : Hp} {v : V} {b : Bool} {xs : List D} {l : List Addr} (r : Rp K F H v (.lst b xs) l) : ∃ a vs m, v = .ref a ∧ H a = some (.lst vs) ∧ Rps K F H vs xs m := by
  cases r with
  | lstF h r => exact ⟨_, _, _, rfl, h.2, r⟩
  | lstO h r => exact ⟨_, _, _, rfl, h, r⟩
theorem Rp.tupAt {F : Addr → Prop} {H : Hp} {v : V} {xs : List D} {l : List Addr} (r : Rp K F H v (.tup xs) l) : ∃ a vs m, v = .ref a ∧ H a = some (.tup vs) ∧ Rps K F H vs xs m := by
  cases r with
  | tup h r => exact ⟨_, _, _, rfl, h.2, r⟩
theorem v_add : VX2 K (rAddA K) fAdd := fun F H x y d1 d2 d l1 l2 Q dom r1 r2 e q => by
  unfold fAdd at e
  split at e
  · cases e
    exact .inl (.inl (.inl ⟨_, _, r1.int_inv, r2.int_inv, q.flat dom (.int _)⟩))
  · split at e
    · rename_i z
      cases e
      exact .inl (.inl (.inr ⟨_, _, r1.str_inv, r2.str_inv, z, q.flat dom (.str _)⟩))
    · cases e
  · obtain ⟨zs, e0, rfl⟩ := map_some' e
    obtain ⟨⟨z1, z2, z3⟩, rfl⟩ := fCat_some e0
    obtain ⟨a, vs, m, rfl, ha, ra⟩ := r1.lstAt
    obtain ⟨b, us, n, rfl, hb, rb⟩ := r2.lstAt
    have := ra.isFz z1
    subst this
    have := rb.isFz z2
    subst this
    exact .inl (.inr ⟨a, b, vs, us, rfl, rfl, ha, hb, by rw [ra.length, rb.length]; exact z3, fun p hp => q.lst dom (ra.append rb) hp⟩)
  · obtain ⟨zs, e0, rfl⟩ := map_some' e
    obtain ⟨⟨z1, z2, z3⟩, rfl⟩ := fCat_some e0
    obtain ⟨a, vs, m, rfl, ha, ra⟩ := r1.tupAt
    obtain ⟨b, us, n, rfl, hb, rb⟩ := r2.tupAt
    have := ra.isFz z1
    subst this
    have := rb.isFz z2
    subst this
    have fa : F a := by cases r1 with | tup h _ => exact h.1
    have fb : F b := by cases r2 with | tup h _ => exact h.1
    refine .inr ⟨a, b, vs, us, rfl, rfl, .of ha, .of hb, by rw [ra.length, rb.length]; exact z3, fun ea => ?_, fun _ eb => ?_, fun _ _ p hp => q.tup dom (ra.append rb) hp⟩
    · subst ea
      cases ra
      exact q.flat dom (.tup (l := []) ⟨fb, hb⟩ rb)
    · subst eb
      cases rb
      rw [List.append_nil] at q
      exact q.flat dom (.tup (l := []) ⟨fa, ha⟩ ra)
  · cases e
end
end DL

set_option Elab.async false
set_option linter.all false
set_option maxRecDepth 100000
set_option maxHeartbeats 4000000
/-! DLJ: further operations by values; methods of texts; slices. -/
namespace DL
open PySem PySem.Spec PyProof.Rows L2
/-! ### text * int -/
def repS (x : Str) (n : Nat) : Str := ⟨(List.replicate n x.cps).foldl (· ++ ·) #[]⟩
theorem foldl_arr : ∀ (l : List (Array Nat)) (a : Array Nat), (l.foldl (· ++ ·) a).toList = a.toList ++ (l.map (·.toList)).flatten
  | [], a => by simp
  | x :: l, a => by
    rw [List.foldl_cons, foldl_arr l (a ++ x)]
    simp
theorem repS_toList (x : Str) (n : Nat) : (repS x n).cps.toList = (List.replicate n x.cps.toList).flatten := by
  unfold repS
  rw [foldl_arr]
  simp
theorem repS_length (x : Str) (n : Nat) : (repS x n).length = n * x.length := by
  show (repS x n).cps.size = _
  rw [← Array.length_toList, repS_toList, List.length_flatten, List.map_replicate, List.sum_replicate_nat]
  rfl
def rMulS : R2 := fun x y H Q => ∃ (z : Str) (n : Int), x = .str z ∧ y = .int n ∧ 1 ≤ n ∧ n < 2 ^ 24 ∧ z.length * n.toNat ≤ sizeLine ∧ Q (.str (repS z n.toNat)) H
section
variable {X : Cx}
theorem op_mulS : OpR X (binaryOp .Mult) rMulS := by
  intro pins s σ H x y v u Q I rx ry h
  obtain ⟨z, n, rfl, rfl, h1, h2, h3, q⟩ := h
  obtain ⟨t, rfl⟩ := rx
  obtain ⟨t', rfl⟩ := ry
  refine PySem.P.mul_str ?_ (fun _ hn => ?_) (fun _ _ => ?_) ?_
  · have a : ¬ n < -(2 ^ 63 : Int) := by omega
    have b : ¬ n ≥ (2 ^ 63 : Int) := by omega
    rw [decide_eq_false a, decide_eq_false b]
    rfl
  · have hz : z.length * n.toNat ≤ sizeLine := h3
    have e : (z.length : Int) ≤ (2 ^ 63 - 1) / n := by
      apply (Int.le_ediv_iff_mul_le (by omega)).mpr
      have : ((z.length * n.toNat : Nat) : Int) ≤ ((sizeLine : Nat) : Int) := by omega
      rw [Int.natCast_mul, Int.toNat_of_nonneg (by omega)] at this
      have e2 : ((sizeLine : Nat) : Int) = 16777216 := by decide
      omega
    omega
  · unfold Builtin.Str.tooLong
    exact decide_eq_false (by omega)
  · rw [if_neg (by omega)]
    by_cases c : (n == 1 || z.length == 0) = true
    · rw [if_pos c]
      have e : repS z n.toNat = z := by
        have el : (repS z n.toNat).cps.toList = z.cps.toList := by
          rw [repS_toList]
          rcases Bool.or_eq_true_iff.mp c with c | c
          · have : n = 1 := by simpa using c
            subst this
            simp
          · have hz : z.cps.toList = [] := by
              have : z.cps.size = 0 := by
                have c' : z.length = 0 := by simpa using c
                exact c'
              exact List.eq_nil_of_length_eq_zero (by rw [Array.length_toList]; exact this)
            rw [hz]
            simp
        have : (repS z n.toNat).cps = z.cps := by
          rw [← Array.toArray_toList (xs := (repS z n.toNat).cps), el, Array.toArray_toList]
        cases hz : repS z n.toNat with
        | mk c1 =>
          rw [hz] at this
          cases z
          simp only at this
          rw [this]
      rw [e] at q
      exact ⟨.str z, H, I, ⟨t, rfl⟩, q⟩
    · rw [if_neg c]
      refine ⟨?_, .str _, H, I.tok _, ⟨_, rfl⟩, q⟩
      show (repS z n.toNat).length ≤ sizeLine
      rw [repS_length, Nat.mul_comm]
      exact h3
def rMulA (K : PySem.W.Frag) : R2 := fun x y H Q => (((∃ i j, x = V.int i ∧ y = V.int j ∧ CMulW i j ∧ Q (.int (i * j)) H) ∨ rMulS x y H Q) ∨ rRep x y H Q)
theorem op_mulA : OpR X (binaryOp .Mult) (rMulA X.K) := OpR.orR (OpR.orR op_mulW op_mulS) op_rep
end
theorem cMul_ok {i j : Int} (h : cMul i j = true) : CMulW i j := by
  unfold cMul at h
  exact of_decide_eq_true (p := i.natAbs.log2 + j.natAbs.log2 < 1000000) h
def fRep (xs : List D) (n : Int) : Option (List D) := if isFzs xs = true ∧ -(2 ^ 63) ≤ n ∧ n < 2 ^ 63 ∧ xs.length * n.toNat ≤ sizeLine then some (List.replicate n.toNat xs).flatten else none
def fMul : D → D → Option D
  | .int i, .int j => if cMul i j = true then some (.int (i * j)) else none
  | .str x, .int n => if 1 ≤ n ∧ n < 2 ^ 24 ∧ x.length * n.toNat ≤ sizeLine then some (.str (repS x n.toNat)) else none
  | .lst _ xs, .int n => (fRep xs n).map (.lst true)
  | _, _ => none
section
variable {K : PySem.W.Frag}
theorem Rps.repl {F : Addr → Prop} {H : Hp} {vs : List V} {ds : List D} (r : Rps K F H vs ds []) : ∀ n : Nat, Rps K F H (List.replicate n vs).flatten (List.replicate n ds).flatten []
  | 0 => .nil
  | n + 1 => by
    rw [List.replicate_succ, List.replicate_succ, List.flatten_cons, List.flatten_cons]
    exact r.append (Rps.repl r n)
theorem v_mul : VX2 K (rMulA K) fMul := fun F H x y d1 d2 d l1 l2 Q dom r1 r2 e q => by
  unfold fMul at e
  split at e
  · split at e
    · rename_i z
      cases e
      exact .inl (.inl ⟨_, _, r1.int_inv, r2.int_inv, cMul_ok z, q.flat dom (.int _)⟩)
    · cases e
  · split at e
    · rename_i z
      cases e
      exact .inl (.inr ⟨_, _, r1.str_inv, r2.int_inv, z.1, z.2.1, z.2.2, q.flat dom (.str _)⟩)
    · cases e
  · obtain ⟨zs, e0, rfl⟩ := map_some' e
    unfold fRep at e0
    split at e0
    · rename_i z
      cases e0
      obtain ⟨a, vs, m, rfl, ha, ra⟩ := r1.lstAt
      have := ra.isFz z.1
      subst this
      exact .inr ⟨a, _, vs, rfl, r2.int_inv, ha, z.2.1, z.2.2.1, by rw [ra.length]; exact z.2.2.2, fun p hp => q.lst dom (Rps.repl ra _) hp⟩
    · cases e0
  · cases e
/-! ### == of data -/
mutual
def toP : D → Option PyData
  | .non => some .none
  | .bl b => some (.bool b)
  | .int i => some (.int i)
  | .str s => some (.str s)
  | .lst _ xs => (toPs xs).map .list
  | .tup xs => (toPs xs).map .tuple
  | _ => none
def toPs : List D → Option (List PyData)
  | [] => some []
  | d :: ds => (toP d).bind fun p => (toPs ds).map fun ps => p :: ps
end
mutual
theorem toP_dp {F : Addr → Prop} {H : Hp} : ∀ {d : D} {p : PyData} {v : V} {l : List Addr}, toP d = some p → Rp K F H v d l → Dp K H v p
  | .non, _, _, _, e, r => by cases r; rw [toP] at e; cases e; exact .non
  | .bl b, _, _, _, e, r => by cases r; rw [toP] at e; cases e; exact .bl b
  | .int i, _, _, _, e, r => by cases r; rw [toP] at e; cases e; exact .int i
  | .str s, _, _, _, e, r => by cases r; rw [toP] at e; cases e; exact .str s
  | .lst o xs, _, _, _, e, r => by
    rw [toP] at e
    obtain ⟨ps, e1, e2⟩ := map_some' e
    cases e2
    obtain ⟨a, vs, m, rfl, ha, ra⟩ := r.lstAt
    exact .lst (.of ha) (toPs_dp e1 ra)
  | .tup xs, _, _, _, e, r => by
    rw [toP] at e
    obtain ⟨ps, e1, e2⟩ := map_some' e
    cases e2
    obtain ⟨a, vs, m, rfl, ha, ra⟩ := r.tupAt
    exact .tup (.of ha) (toPs_dp e1 ra)
  | .ty _, _, _, _, e, _ => by rw [toP] at e <;> first | cases e | (intros; contradiction)
  | .ref _, _, _, _, e, _ => by rw [toP] at e <;> first | cases e | (intros; contradiction)
  | .scr _, _, _, _, e, _ => by rw [toP] at e <;> first | cases e | (intros; contradiction)
  | .dK _ _ _, _, _, _, e, _ => by rw [toP] at e <;> first | cases e | (intros; contradiction)
  | .dT _ _ _, _, _, _, e, _ => by rw [toP] at e <;> first | cases e | (intros; contradiction)
  | .obj _ _ _ _, _, _, _, e, _ => by rw [toP] at e <;> first | cases e | (intros; contradiction)
theorem toPs_dp {F : Addr → Prop} {H : Hp} : ∀ {ds : List D} {ps : List PyData} {vs : List V} {l : List Addr}, toPs ds = some ps → Rps K F H vs ds l → DpAll K H vs ps
  | [], _, _, _, e, .nil => by rw [toPs] at e; cases e; exact .nil
  | d :: ds, _, _, _, e, .cons r rs => by
    rw [toPs] at e
    obtain ⟨p, e1, e⟩ := bind_some' e
    obtain ⟨ps, e2, e3⟩ := map_some' e
    cases e3
    exact .cons (toP_dp e1 r) (toPs_dp e2 rs)
end
def eqD (d e : D) : Option Bool := (toP d).bind fun p => (toP e).bind fun q => if SeqAt.shaped p = true ∧ SeqAt.shaped q = true then some (PyData.eqv p q) else none
def fEq (d e : D) : Option D := (eqD d e).map .bl
def fNe (d e : D) : Option D := (eqD d e).map fun b => .bl (!b)
theorem v_eq : VOp2 K (rEqD K) fEq := fun F H x y d1 d2 d l1 l2 Q r1 r2 e q => by
  obtain ⟨b, e, rfl⟩ := map_some' e
  rename_i e0
  obtain ⟨p, e1, e⟩ := bind_some' e0
  obtain ⟨p2, e2, e⟩ := bind_some' e
  split at e
  · rename_i z
    cases e
    exact ⟨p, p2, toP_dp e1 r1, toP_dp e2 r2, z.1, z.2, q _ _ (.bl _)⟩
  · cases e
theorem v_ne : VOp2 K (rNeD K) fNe := fun F H x y d1 d2 d l1 l2 Q r1 r2 e q => by
  obtain ⟨b, e, rfl⟩ := map_some' e
  rename_i e0
  obtain ⟨p, e1, e⟩ := bind_some' e0
  obtain ⟨p2, e2, e⟩ := bind_some' e
  split at e
  · rename_i z
    cases e
    exact ⟨p, p2, toP_dp e1 r1, toP_dp e2 r2, z.1, z.2, q _ _ (.bl _)⟩
  · cases e
/-! ### is None -/
def isNon : D → Bool
  | .non => true
  | _ => false
theorem Rp.non_iff {F : Addr → Prop} {H : Hp} {v : V} {d : D} {l : List Addr} (r : Rp K F H v d l) : decide (v = .non) = isNon d := by
  cases r <;> rfl
def fIsN (d e : D) : Option D := if isNon e = true then some (.bl (isNon d)) else none
def fNotN (d e : D) : Option D := if isNon e = true then some (.bl (!isNon d)) else none
theorem v_isN : VOp2 K (fun x y H Q => y = .non ∧ Q (.bl (decide (x = .non))) H) fIsN := fun F H x y d1 d2 d l1 l2 Q r1 r2 e q => by
  unfold fIsN at e
  split at e
  · rename_i z
    cases e
    have := r2.non_iff
    rw [z] at this
    exact ⟨of_decide_eq_true this, by rw [r1.non_iff]; exact q _ _ (.bl _)⟩
  · cases e
theorem v_notN : VOp2 K (fun x y H Q => y = .non ∧ Q (.bl (!decide (x = .non))) H) fNotN := fun F H x y d1 d2 d l1 l2 Q r1 r2 e q => by
  unfold fNotN at e
  split at e
  · rename_i z
    cases e
    have := r2.non_iff
    rw [z] at this
    exact ⟨of_decide_eq_true this, by rw [r1.non_iff]; exact q _ _ (.bl _)⟩
  · cases e
/-! ### one sign in a text -/
def signIn : D → D → Option Bool
  | .str x, .str z => (match x.cps.toList with
    | [c] => some (decide (c ∈ z.cps.toList))
    | _ => none)
  | _, _ => none
def fInS (d e : D) : Option D := (signIn d e).map .bl
def fNotInS (d e : D) : Option D := (signIn d e).map fun b => .bl (!b)
theorem signIn_some {d e : D} {b : Bool} (h : signIn d e = some b) : ∃ (c : Nat) (z : Str), d = .str ⟨#[c]⟩ ∧ e = .str z ∧ b = decide (c ∈ z.cps.toList) := by
  unfold signIn at h
  split at h
  · rename_i x z
    split at h
    · rename_i c hc
      cases h
      refine ⟨c, z, ?_, rfl, rfl⟩
      have : x.cps = #[c] := by
        rw [← Array.toArray_toList (xs := x.cps), hc]
      cases x
      simp only at this
      rw [this]
    · cases h
  · cases h
theorem v_inS : VOp2 K (fun x y H Q => ∃ (c : Nat) (z : Str), x = .str ⟨#[c]⟩ ∧ y = .str z ∧ Q (.bl (decide (c ∈ z.cps.toList))) H) fInS := fun F H x y d1 d2 d l1 l2 Q r1 r2 e q => by
  obtain ⟨b, e0, rfl⟩ := map_some' e
  obtain ⟨c, z, rfl, rfl, rfl⟩ := signIn_some e0
  exact ⟨c, z, r1.str_inv, r2.str_inv, q _ _ (.bl _)⟩
theorem v_notInS : VOp2 K (fun x y H Q => ∃ (c : Nat) (z : Str), x = .str ⟨#[c]⟩ ∧ y = .str z ∧ Q (.bl (!decide (c ∈ z.cps.toList))) H) fNotInS := fun F H x y d1 d2 d l1 l2 Q r1 r2 e q => by
  obtain ⟨b, e0, rfl⟩ := map_some' e
  obtain ⟨c, z, rfl, rfl, rfl⟩ := signIn_some e0
  exact ⟨c, z, r1.str_inv, r2.str_inv, q _ _ (.bl _)⟩
/-! ### items -/
def fIx : D → D → Option D
  | .lst _ xs, .int i => atI xs i
  | .tup xs, .int i => atI xs i
  | .str z, .int i => if z.length ≤ sizeLine then (atI z.cps.toList i).map fun c => .str ⟨#[c]⟩ else none
  | _, _ => none
theorem Rps.atI {F : Addr → Prop} {H : Hp} {vs : List V} {ds : List D} {l : List Addr} {i : Int} {d : D} (r : Rps K F H vs ds l) (e : L2.atI ds i = some d) : ∃ v m, L2.atI vs i = some v ∧ Rp K F H v d m ∧ ∀ a ∈ m, a ∈ l := by
  unfold L2.atI at e ⊢
  obtain ⟨j, e1, e2⟩ := bind_some' e
  obtain ⟨v, m, h1, h2, h3⟩ := r.get e2
  rw [r.length, e1]
  exact ⟨v, m, h1, h2, h3⟩
theorem v_ix : VOp2 K (rIx K) fIx := fun F H x y d1 d2 d l1 l2 Q r1 r2 e q => by
  unfold fIx at e
  split at e
  · obtain ⟨a, vs, m, rfl, ha, ra⟩ := r1.lstAt
    obtain ⟨v, m', h1, h2, _⟩ := ra.atI e
    exact .inl ⟨a, vs, _, v, rfl, r2.int_inv, .of ha, h1, q _ _ h2⟩
  · obtain ⟨a, vs, m, rfl, ha, ra⟩ := r1.tupAt
    obtain ⟨v, m', h1, h2, _⟩ := ra.atI e
    exact .inr (.inl ⟨a, vs, _, v, rfl, r2.int_inv, .of ha, h1, q _ _ h2⟩)
  · split at e
    · rename_i z
      obtain ⟨c, e1, rfl⟩ := map_some' e
      exact .inr (.inr ⟨_, _, c, r1.str_inv, r2.int_inv, z, e1, q _ _ (.str _)⟩)
    · cases e
  · cases e
/-! ### built-in calls -/
def fLen : List D → Option D
  | [.lst _ xs] => some (.int xs.length)
  | [.tup xs] => some (.int xs.length)
  | [.str x] => if x.length ≤ sizeLine then some (.int x.length) else none
  | [.scr ns] => some (.int ns.length)
  | _ => none
theorem Rps.inv1 {F : Addr → Prop} {H : Hp} {vs : List V} {d : D} {l : List Addr} (r : Rps K F H vs [d] l) : ∃ v, vs = [v] ∧ Rp K F H v d l := by
  cases r with
  | cons h r =>
    cases r
    rw [List.append_nil]
    exact ⟨_, rfl, h⟩
theorem Rps.inv2 {F : Addr → Prop} {H : Hp} {vs : List V} {d e : D} {l : List Addr} (r : Rps K F H vs [d, e] l) : ∃ v u m n, vs = [v, u] ∧ Rp K F H v d m ∧ Rp K F H u e n ∧ l = m ++ n := by
  cases r with
  | cons h r =>
    obtain ⟨u, rfl, h2⟩ := r.inv1
    exact ⟨_, u, _, _, rfl, h, h2, rfl⟩
theorem Rp.scrAt {F : Addr → Prop} {H : Hp} {v : V} {ns : List Int} {l : List Addr} (r : Rp K F H v (.scr ns) l) : ∃ a, v = .ref a ∧ SqL K H a (ns.map V.int) := by
  cases r with
  | scr h => exact ⟨_, rfl, h.sq⟩
theorem v_len : VXN K (fun xs H Q => ∃ x n, xs = [x] ∧ LenV K x H n ∧ Q (.int n) H) fLen := fun F H vs ds d l Q dom r e q => by
  unfold fLen at e
  split at e
  · cases e
    obtain ⟨v, rfl, r0⟩ := r.inv1
    obtain ⟨a, us, m, rfl, ha, ra⟩ := r0.lstAt
    exact ⟨.ref a, us.length, rfl, .inl ⟨us, .of ha, rfl⟩, by rw [ra.length]; exact q.flat dom (.int _)⟩
  · cases e
    obtain ⟨v, rfl, r0⟩ := r.inv1
    obtain ⟨a, us, m, rfl, ha, ra⟩ := r0.tupAt
    exact ⟨.ref a, us.length, rfl, .inr ⟨us, .of ha, rfl⟩, by rw [ra.length]; exact q.flat dom (.int _)⟩
  · split at e
    · rename_i z
      cases e
      obtain ⟨v, rfl, r0⟩ := r.inv1
      have := r0.str_inv
      subst this
      exact ⟨.str _, _, rfl, ⟨z, rfl⟩, q.flat dom (.int _)⟩
    · cases e
  · rename_i ns
    cases e
    obtain ⟨v, rfl, r0⟩ := r.inv1
    obtain ⟨a, rfl, ha⟩ := r0.scrAt
    exact ⟨.ref a, ns.length, rfl, .inl ⟨ns.map V.int, ha, by rw [List.length_map]⟩, q.flat dom (.int _)⟩
  · cases e
/-- list(x) of frozen items -/
def fList : List D → Option D
  | [.lst _ xs] => (allFz xs).map (.lst true)
  | [.tup xs] => (allFz xs).map (.lst true)
  | [.scr ns] => some (.lst true (ns.map .int))
  | _ => none
theorem Rps.ints {F : Addr → Prop} {H : Hp} : ∀ ns : List Int, Rps K F H (ns.map V.int) (ns.map D.int) []
  | [] => .nil
  | n :: ns => by
    have := Rps.cons (K := K) (F := F) (H := H) (.int n) (Rps.ints ns)
    exact this
theorem v_list : VXN K (fun xs H Q => ∃ p ys, xs = [.ref p] ∧ (SqL K H p ys ∨ SqT K H p ys) ∧ ∀ l, H l = none → Q (.ref l) (upd H l (.lst ys))) fList := fun F H vs ds d l Q dom r e q => by
  unfold fList at e
  split at e
  · obtain ⟨zs, e0, rfl⟩ := map_some' e
    obtain ⟨rfl, z⟩ := allFz_some e0
    obtain ⟨v, rfl, r0⟩ := r.inv1
    obtain ⟨a, us, m, rfl, ha, ra⟩ := r0.lstAt
    have := ra.isFz z
    subst this
    exact ⟨a, us, rfl, .inl (.of ha), fun p hp => q.lst dom ra hp⟩
  · obtain ⟨zs, e0, rfl⟩ := map_some' e
    obtain ⟨rfl, z⟩ := allFz_some e0
    obtain ⟨v, rfl, r0⟩ := r.inv1
    obtain ⟨a, us, m, rfl, ha, ra⟩ := r0.tupAt
    have := ra.isFz z
    subst this
    exact ⟨a, us, rfl, .inr (.of ha), fun p hp => q.lst dom ra hp⟩
  · rename_i ns
    cases e
    obtain ⟨v, rfl, r0⟩ := r.inv1
    obtain ⟨a, rfl, ha⟩ := r0.scrAt
    exact ⟨a, ns.map V.int, rfl, .inl ha, fun p hp => q.lst dom (Rps.ints ns) hp⟩
  · cases e
/-- tuple(x) -/
def fTuple : List D → Option D
  | [.lst _ xs] => (allFz xs).map .tup
  | [.tup xs] => (allFz xs).map .tup
  | _ => none
theorem v_tuple : VXN K (fun xs H Q => ∃ p ys, xs = [.ref p] ∧ ((SqL K H p ys ∧ ∀ l, H l = none → Q (.ref l) (upd H l (.tup ys))) ∨ (SqT K H p ys ∧ Q (.ref p) H))) fTuple := fun F H vs ds d l Q dom r e q => by
  unfold fTuple at e
  split at e
  · obtain ⟨zs, e0, rfl⟩ := map_some' e
    obtain ⟨rfl, z⟩ := allFz_some e0
    obtain ⟨v, rfl, r0⟩ := r.inv1
    obtain ⟨a, us, m, rfl, ha, ra⟩ := r0.lstAt
    have := ra.isFz z
    subst this
    exact ⟨a, us, rfl, .inl ⟨.of ha, fun p hp => q.tup dom ra hp⟩⟩
  · obtain ⟨zs, e0, rfl⟩ := map_some' e
    obtain ⟨rfl, z⟩ := allFz_some e0
    obtain ⟨v, rfl, r0⟩ := r.inv1
    have hl := r0.isFz (by rw [isFz]; exact z)
    subst hl
    obtain ⟨a, us, m, rfl, ha, ra⟩ := r0.tupAt
    exact ⟨a, us, rfl, .inr ⟨.of ha, q.flat dom r0⟩⟩
  · cases e
def fInt : List D → Option D
  | [.int i] => some (.int i)
  | [.bl b] => some (.int (if b then 1 else 0))
  | _ => none
theorem v_int : VXN K (fun xs H Q => (∃ i, xs = [.int i] ∧ Q (.int i) H) ∨ ∃ k, xs = [.bl k] ∧ Q (.int (if k then 1 else 0)) H) fInt := fun F H vs ds d l Q dom r e q => by
  unfold fInt at e
  split at e
  · cases e
    obtain ⟨v, rfl, r0⟩ := r.inv1
    have := r0.int_inv
    subst this
    exact .inl ⟨_, rfl, q.flat dom (.int _)⟩
  · cases e
    obtain ⟨v, rfl, r0⟩ := r.inv1
    have := r0.bl_inv
    subst this
    exact .inr ⟨_, rfl, q.flat dom (.int _)⟩
  · cases e
def fAbs : List D → Option D
  | [.int i] => some (.int (if i < 0 then -i else i))
  | _ => none
theorem v_abs : VXN K (fun xs H Q => ∃ i, xs = [.int i] ∧ Q (.int (if i < 0 then -i else i)) H) fAbs := fun F H vs ds d l Q dom r e q => by
  unfold fAbs at e
  split at e
  · cases e
    obtain ⟨v, rfl, r0⟩ := r.inv1
    have := r0.int_inv
    subst this
    exact ⟨_, rfl, q.flat dom (.int _)⟩
  · cases e
def asInts : List D → Option (List Int)
  | [] => some []
  | .int i :: ds => (asInts ds).map fun r => i :: r
  | _ => none
def asBools : List D → Option (List Bool)
  | [] => some []
  | .bl i :: ds => (asBools ds).map fun r => i :: r
  | _ => none
def asStrs : List D → Option (List Str)
  | [] => some []
  | .str i :: ds => (asStrs ds).map fun r => i :: r
  | _ => none
theorem asInts_map : ∀ ns : List Int, asInts (ns.map .int) = some ns
  | [] => rfl
  | n :: ns => by rw [List.map_cons, asInts, asInts_map ns]; rfl
theorem asBools_map : ∀ ns : List Bool, asBools (ns.map .bl) = some ns
  | [] => rfl
  | n :: ns => by rw [List.map_cons, asBools, asBools_map ns]; rfl
theorem asStrs_map : ∀ ns : List Str, asStrs (ns.map .str) = some ns
  | [] => rfl
  | n :: ns => by rw [List.map_cons, asStrs, asStrs_map ns]; rfl
theorem asInts_rps {F : Addr → Prop} {H : Hp} : ∀ {ds : List D} {ns : List Int} {vs : List V} {l : List Addr}, asInts ds = some ns → Rps K F H vs ds l → vs = ns.map V.int
  | [], _, _, _, e, .nil => by cases e; rfl
  | .int i :: ds, _, _, _, e, .cons r rs => by
    rw [asInts] at e
    obtain ⟨ns, e1, rfl⟩ := map_some' e
    rw [r.int_inv, asInts_rps e1 rs]
    rfl
theorem asBools_rps {F : Addr → Prop} {H : Hp} : ∀ {ds : List D} {ns : List Bool} {vs : List V} {l : List Addr}, asBools ds = some ns → Rps K F H vs ds l → vs = ns.map V.bl
  | [], _, _, _, e, .nil => by cases e; rfl
  | .bl i :: ds, _, _, _, e, .cons r rs => by
    rw [asBools] at e
    obtain ⟨ns, e1, rfl⟩ := map_some' e
    rw [r.bl_inv, asBools_rps e1 rs]
    rfl
theorem asStrs_rps {F : Addr → Prop} {H : Hp} : ∀ {ds : List D} {ns : List Str} {vs : List V} {l : List Addr}, asStrs ds = some ns → Rps K F H vs ds l → vs = ns.map V.str
  | [], _, _, _, e, .nil => by cases e; rfl
  | .str i :: ds, _, _, _, e, .cons r rs => by
    rw [asStrs] at e
    obtain ⟨ns, e1, rfl⟩ := map_some' e
    rw [r.str_inv, asStrs_rps e1 rs]
    rfl
/-- a list's reading by its values -/
def fOfL {α : Type} (as : List D → Option (List α)) (g : List α → Option D) : List D → Option D
  | [.lst _ xs] => (as xs).bind g
  | _ => none
def fSum := fOfL asInts fun ns => some (.int ns.sum)
def fAll := fOfL asBools fun bs => some (.bl (bs.all id))
def fAny := fOfL asBools fun bs => some (.bl (bs.any id))
theorem v_sum : VXN K (rSum K) fSum := fun F H vs ds d l Q dom r e q => by
  unfold fSum fOfL at e
  split at e
  · obtain ⟨ns, e1, e2⟩ := bind_some' e
    cases e2
    obtain ⟨v, rfl, r0⟩ := r.inv1
    obtain ⟨a, us, m, rfl, ha, ra⟩ := r0.lstAt
    have := asInts_rps e1 ra
    subst this
    exact ⟨a, ns, rfl, .of ha, q.flat dom (.int _)⟩
  · cases e
theorem v_all : VXN K (rAll K) fAll := fun F H vs ds d l Q dom r e q => by
  unfold fAll fOfL at e
  split at e
  · obtain ⟨ns, e1, e2⟩ := bind_some' e
    cases e2
    obtain ⟨v, rfl, r0⟩ := r.inv1
    obtain ⟨a, us, m, rfl, ha, ra⟩ := r0.lstAt
    have := asBools_rps e1 ra
    subst this
    exact ⟨a, ns, rfl, .of ha, q.flat dom (.bl _)⟩
  · cases e
theorem v_any : VXN K (rAny K) fAny := fun F H vs ds d l Q dom r e q => by
  unfold fAny fOfL at e
  split at e
  · obtain ⟨ns, e1, e2⟩ := bind_some' e
    cases e2
    obtain ⟨v, rfl, r0⟩ := r.inv1
    obtain ⟨a, us, m, rfl, ha, ra⟩ := r0.lstAt
    have := asBools_rps e1 ra
    subst this
    exact ⟨a, ns, rfl, .of ha, q.flat dom (.bl _)⟩
  · cases e
def fMin : List D → Option D
  | [.int i, .int j] => some (.int (if j < i then j else i))
  | _ => none
def fMax : List D → Option D
  | [.int i, .int j] => some (.int (if j > i then j else i))
  | _ => none
theorem v_min2 : VXN K (fun xs H Q => ∃ i j, xs = [.int i, .int j] ∧ Q (.int (if j < i then j else i)) H) fMin := fun F H vs ds d l Q dom r e q => by
  unfold fMin at e
  split at e
  · cases e
    exact ⟨_, _, r.int2, q.flat dom (.int _)⟩
  · cases e
theorem v_max2 : VXN K (fun xs H Q => ∃ i j, xs = [.int i, .int j] ∧ Q (.int (if j > i then j else i)) H) fMax := fun F H vs ds d l Q dom r e q => by
  unfold fMax at e
  split at e
  · cases e
    exact ⟨_, _, r.int2, q.flat dom (.int _)⟩
  · cases e
/-! ### isinstance with built-in classes -/
def tyN : D → Option String
  | .non => some "NoneType"
  | .bl _ => some "bool"
  | .int _ => some "int"
  | .str _ => some "str"
  | .lst _ _ => some "list"
  | .tup _ => some "tuple"
  | .dK _ _ _ => some "dict"
  | .dT _ _ _ => some "dict"
  | _ => none
theorem Rp.tyx {F : Addr → Prop} {H : Hp} {v : V} {d : D} {l : List Addr} {n : String} (r : Rp K F H v d l) (e : tyN d = some n) : TyX K H v (.type n) := by
  cases r with
  | non => cases e; exact .base .non
  | bl b => cases e; exact .base (.bl b)
  | int i => cases e; exact .base (.int i)
  | str s => cases e; exact .base (.str s)
  | ty => cases e
  | ref => cases e
  | scr h => cases e
  | lstF h _ => cases e; exact .base (.lst h.2)
  | lstO h _ => cases e; exact .base (.lst h)
  | tup h _ => cases e; exact .base (.tup h.2)
  | dKF _ h _ => cases e; exact .base (.dK h)
  | dKO h _ => cases e; exact .base (.dK h)
  | dTF _ h _ => cases e; exact .base (.dT h)
  | dTO h _ => cases e; exact .base (.dT h)
  | objF _ h _ => cases e
  | objO h _ => cases e
def fIsi : List D → Option D
  | [x, .ty n] => (tyN x).bind fun m => (kitB m n).map .bl
  | _ => none
theorem v_isi : VXN K (rIsi K) fIsi := fun F H vs ds d l Q dom r e q => by
  unfold fIsi at e
  split at e
  · obtain ⟨m, e1, e2⟩ := bind_some' e
    obtain ⟨b, e3, rfl⟩ := map_some' e2
    obtain ⟨v, u, m1, m2, rfl, r1, r2, rfl⟩ := r.inv2
    cases r2
    exact ⟨v, .ty _, .type m, .type _, b, rfl, .ty _, r1.tyx e1, kit_ty e3, q.flat dom (.bl _)⟩
  · cases e
end
section
variable {X : Cx} {pos : Pos}
theorem dv_ty {x : Str} {n : String} (hg : Gl X x) (hm : X.mg x = none) (hb : bootBuiltins x = some (.type n)) (hn : x ≠ "__name__" := by decide) (hd : (x == ("__debug__" : Str)) = false := by decide) : DV X (.Name x pos) (gK (.ty n)) :=
  dv_k (pe_bltn (v := .ty n) hg hm hb rfl hn hd) fun _ _ => .ty n
end
end DL

set_option Elab.async false
set_option linter.all false
set_option maxRecDepth 100000
set_option maxHeartbeats 4000000
/-! DLK: methods of values, slices, conditional values, and, or, chains; changes of what a slot owns. -/
namespace DL
open PySem PySem.Spec PyProof.Rows L2
def VXM (K : PySem.W.Frag) (r : V → List V → Hp → VK → Prop) (f : D → List D → Option D) : Prop := ∀ (F : Addr → Prop) (H : Hp) (x : V) (d0 : D) (l0 : List Addr) (vs : List V) (ds : List D) (d : D) (l : List Addr) (Q : VK), (∀ a, F a → H a ≠ none) → Rp K F H x d0 l0 → Rps K F H vs ds l → f d0 ds = some d → Res K F H d Q → r x vs H Q
/-- what is of this type -/
def KdOk (K : PySem.W.Frag) (T : String) (kd : D → Bool) : Prop := ∀ (F : Addr → Prop) (H : Hp) (x : V) (d0 : D) (l0 : List Addr), Rp K F H x d0 l0 → kd d0 = true → tyV K T x H
def kdS : D → Bool
  | .str _ => true
  | _ => false
def kdL : D → Bool
  | .lst _ _ => true
  | _ => false
theorem kdS_ok {K : PySem.W.Frag} : KdOk K "str" kdS := fun F H x d0 l0 r h => by
  cases r <;> first | (cases h; done) | rfl
theorem kdL_ok {K : PySem.W.Frag} : KdOk K "list" kdL := fun F H x d0 l0 r h => by
  cases r <;> first | (cases h; done) | (rename_i q _; exact .inl ⟨rfl, _, q.sq⟩) | (rename_i q _; exact .inl ⟨rfl, _, .of q⟩)
def kdO (kd : D → Bool) (d : D) : Option D := if kd d = true then some d else none
theorem kdO_some {kd : D → Bool} {d e : D} (h : kdO kd d = some e) : e = d ∧ kd d = true := by
  unfold kdO at h
  split at h
  · rename_i z
    cases h; exact ⟨rfl, z⟩
  · cases h
def nOpM (kd : D → Bool) (f : D → List D → Option D) (go : Rho → Option D) (g : Rho → Option (List D)) : Rho → Option (Xs D) := fun ρ => ((go ρ).bind (kdO kd)).bind fun x => (g ρ).bind fun ds => (f x ds).map .ok
def xOpM (kd : D → Bool) (f : D → List D → Option D) (go : Rho → Option (Rs D)) (g : Rho → Option (Rs (List D))) : Rho → Option (Rs D) := fun ρ => rsB (go ρ) fun x ρ1 => (kdO kd x).bind fun x => rsB (g ρ1) fun ds ρ2 => (f x ds).map fun d => .ok d ρ2
section
variable {X : Cx} {W : WX} {a b e o : Expr} {es rest : List Expr} {pos apos cpos : Pos} {name : Str} {T id : String} {r : V → List V → Hp → VK → Prop} {f : D → List D → Option D} {kd : D → Bool}
theorem dn_bm {go : Rho → Option D} {g : Rho → Option (List D)} (pa : PlainAttrs T) (slot : Slot T name id) (hty : typeOf (.builtin id) = pure (.type "method_descriptor")) (hm : MtR X id r) (hk : KdOk X.K T kd) (hv : VXM X.K r f) (ho : DV X o go) (ha : DVs X (e :: es) g)
    (hbase : attributeBase o name X.env (eval o X.env) = eval o X.env := by rfl)
    (hfew : ((backTo cpos (starEach (e :: es) X.env)).all (fun x => !x.1) && (backToKw cpos (keywordEach [] X.env)).all (fun x => x.1.isSome)
      && decide ((e :: es).length + ([] : List Keyword).length + (if ([] : List Keyword).isEmpty then 0 else 1) < 30)) = true := by rfl)
    (hline : (apos.endLine == cpos.line) = true := by rfl) (hs : starEach (e :: es) X.env = (false, eval e X.env) :: starEach es X.env := by rfl) (hplain : (backTo cpos (starEach es X.env)).any (·.1) = false := by rfl) :
    DN X W (.Call (.Attribute o name apos) (e :: es) [] cpos) (nOpM kd f go g) := by
  obtain ⟨to, o1, o2⟩ := ho.ex
  obtain ⟨t, h1, h2⟩ := ha.ex
  refine ⟨_, pe_bm pa slot hty hm o1 h1 hbase hfew hline hs hplain, fun c F H σ ρ τ θ Q rr k e q qx => ?_⟩
  obtain ⟨d0, e1, e⟩ := bind_some' e
  obtain ⟨d0', e1, e1'⟩ := bind_some' e1
  obtain ⟨rfl, zk⟩ := kdO_some e1'
  obtain ⟨ds, e2, e⟩ := bind_some' e
  obtain ⟨d, e3, rfl⟩ := map_some' e
  refine o2 c F H σ ρ τ θ _ _ k e1 fun F1 H1 x l0 hF1 k1 r0 => ?_
  refine ⟨hk F1 H1 x _ l0 r0 zk, h2 c F1 H1 σ ρ τ θ _ ds k1 e2 fun F2 H2 vs l hF2 k2 r2 => hv F2 H2 x _ l0 vs ds d l Q k2.dom (hF2.rp r0) r2 e3 fun F3 H3 v l3 hx dom r3 nd nw => ?_⟩
  exact q _ rfl F3 H3 v l3 ((hF1.trans hF2).trans hx) (k2.grow hx dom) r3 nd fun a z => ⟨(nw a z).1, (hF1.trans hF2).same.free (nw a z).2⟩
theorem de_bm {n : Nat} {go : Rho → Option (Rs D)} {g : Rho → Option (Rs (List D))} (pa : PlainAttrs T) (slot : Slot T name id) (hty : typeOf (.builtin id) = pure (.type "method_descriptor")) (hm : MtR X id r) (hk : KdOk X.K T kd) (hv : VXM X.K r f) (ho : DE X W o go) (ha : DEs X W (e :: es) (List.replicate n none) g)
    (hbase : attributeBase o name X.env (eval o X.env) = eval o X.env := by rfl)
    (hfew : ((backTo cpos (starEach (e :: es) X.env)).all (fun x => !x.1) && (backToKw cpos (keywordEach [] X.env)).all (fun x => x.1.isSome)
      && decide ((e :: es).length + ([] : List Keyword).length + (if ([] : List Keyword).isEmpty then 0 else 1) < 30)) = true := by rfl)
    (hline : (apos.endLine == cpos.line) = true := by rfl) (hs : starEach (e :: es) X.env = (false, eval e X.env) :: starEach es X.env := by rfl) (hplain : (backTo cpos (starEach es X.env)).any (·.1) = false := by rfl) :
    DE X W (.Call (.Attribute o name apos) (e :: es) [] cpos) (xOpM kd f go g) := by
  obtain ⟨to, o1, o2⟩ := ho.ex
  obtain ⟨t, h1, h2⟩ := ha.ex
  refine ⟨_, pe_bm pa slot hty hm o1 h1 hbase hfew hline hs hplain, fun c F H σ ρ τ θ Q rr k e q qx => ?_⟩
  rcases rsB_some e with ⟨d0, ρ1, e1, e⟩ | ⟨C, fs, ρ1, e1, rfl⟩
  · refine o2 c F H σ ρ τ θ _ _ k e1 (fun d' ρ' z F1 H1 x hF1 k1 => ?_) fun C fs ρ' z => by cases z
    cases z
    obtain ⟨d0', e1', e4⟩ := bind_some' e
    obtain ⟨rfl, zk⟩ := kdO_some e1'
    obtain ⟨l0, r0⟩ := k1.top
    refine ⟨hk F1 H1 x _ l0 r0 zk, ?_⟩
    rcases rsB_some e4 with ⟨ds, ρ2, e2, e⟩ | ⟨C, fs, ρ2, e2, rfl⟩
    · obtain ⟨d, e3, rfl⟩ := map_some' e
      refine h2 c F1 H1 σ ρ1 _ _ _ _ k1 e2 (fun d' ρ' z F2 H2 vs ws hF2 ad hl k2 => ?_) fun C fs ρ' z => by cases z
      cases z
      have := ad.vals
      subst this
      obtain ⟨l, r2⟩ := k2.tops hl
      have k3 := k2.drops hl
      obtain ⟨l0', r0'⟩ := k3.top
      exact hv F2 H2 x _ l0' vs ds d l Q k2.dom r0' r2 e3 fun F3 H3 v l3 hx dom r3 nd nw => q _ _ rfl F3 H3 v (fun a z => hx.sub a (hF2 a (hF1 a z))) (k3.drop.pushN hx dom r3 nd nw)
    · refine h2 c F1 H1 σ ρ1 _ _ _ _ k1 e2 (fun d' ρ' z => by cases z) fun C fs ρ' z F2 H2 q hF2 k2 xr => ?_
      cases z
      exact qx _ _ _ rfl F2 H2 q (fun a z => hF2 a (hF1 a z)) k2.drop xr
  · exact o2 c F H σ ρ τ θ _ _ k e1 (fun d ρ' z => by cases z) fun C fs ρ' z F1 H1 q hF1 k1 xr => by
      cases z
      exact qx _ _ _ rfl F1 H1 q hF1 k1 xr

/-! ### slices -/
structure DPO (X : Cx) (e : Option Expr) (g : Rho → Option (Option Int)) : Prop where
  ex : ∃ t, PO X e t ∧ ∀ (c : Cn) (F : Addr → Prop) (H : Hp) (σ : L2.St) (ρ : Rho) (τ : List V) (θ : List D) (Q : Option Int → Hp → Prop) (i : Option Int), Ok X.K c F H σ ρ τ θ → g ρ = some i →
    (∀ (F' : Addr → Prop) (H' : Hp), Ext F H F' H' → Ok X.K c F' H' σ ρ τ θ → Q i H') → t σ H Q
def pNone : Rho → Option (Option Int) := fun _ => some none
def asI : D → Option Int
  | .int i => some i
  | _ => none
theorem asI_some {d : D} {i : Int} (h : asI d = some i) : d = .int i := by
  cases d <;> first | (cases h; rfl) | (cases h)
def pSome (g : Rho → Option D) : Rho → Option (Option Int) := fun ρ => ((g ρ).bind asI).map some
theorem dpo_none : DPO X none pNone := ⟨_, po_none, fun c F H σ ρ τ θ Q i k e q => by
  cases e
  exact q F H .refl k⟩
theorem dpo_some {g : Rho → Option D} (h : DV X e g) : DPO X (some e) (pSome g) := by
  obtain ⟨t, h1, h2⟩ := h.ex
  refine ⟨_, po_some h1, fun c F H σ ρ τ θ Q i k e q => ?_⟩
  obtain ⟨j, e1, rfl⟩ := map_some' e
  obtain ⟨d, e2, e3⟩ := bind_some' e1
  have := asI_some e3
  subst this
  exact h2 c F H σ ρ τ θ _ _ k e2 fun F1 H1 v l hF1 k1 r1 => ⟨j, r1.int_inv, q F1 H1 hF1 k1⟩
def VXS (K : PySem.W.Frag) (r : V → Option Int → Option Int → Hp → VK → Prop) (f : D → Option Int → Option Int → Option D) : Prop := ∀ (F : Addr → Prop) (H : Hp) (x : V) (d1 d : D) (l1 : List Addr) (lo hi : Option Int) (Q : VK), (∀ a, F a → H a ≠ none) → Rp K F H x d1 l1 → f d1 lo hi = some d → Res K F H d Q → r x lo hi H Q
def nSl (f : D → Option Int → Option Int → Option D) (g : Rho → Option D) (gl gh : Rho → Option (Option Int)) : Rho → Option (Xs D) := fun ρ => (g ρ).bind fun d => (gl ρ).bind fun lo => (gh ρ).bind fun hi => (f d lo hi).map .ok
theorem dn_slice {lo hi : Option Expr} {p2 : Pos} {r : V → Option Int → Option Int → Hp → VK → Prop} {f : D → Option Int → Option Int → Option D} {g : Rho → Option D} {gl gh : Rho → Option (Option Int)} (hr : SlR X r) (hv : VXS X.K r f) (h : DV X e g) (hl : DPO X lo gl) (hh : DPO X hi gh) :
    DN X W (.Subscript e (.Slice lo hi none p2) pos) (nSl f g gl gh) := by
  obtain ⟨t, h1, h2⟩ := h.ex
  obtain ⟨u, u1, u2⟩ := hl.ex
  obtain ⟨w, w1, w2⟩ := hh.ex
  refine ⟨_, pe_slice hr h1 u1 w1, fun c F H σ ρ τ θ Q rr k e q qx => ?_⟩
  obtain ⟨d1, e1, e⟩ := bind_some' e
  obtain ⟨i, e2, e⟩ := bind_some' e
  obtain ⟨j, e3, e⟩ := bind_some' e
  obtain ⟨d, e4, rfl⟩ := map_some' e
  refine h2 c F H σ ρ τ θ _ _ k e1 fun F1 H1 x l0 hF1 k1 r0 => ?_
  refine u2 c F1 H1 σ ρ τ θ _ _ k1 e2 fun F2 H2 hF2 k2 => ?_
  refine w2 c F2 H2 σ ρ τ θ _ _ k2 e3 fun F3 H3 hF3 k3 => ?_
  have hx := hF1.trans (hF2.trans hF3)
  exact hv F3 H3 x d1 d l0 i j Q k3.dom ((hF2.trans hF3).rp r0) e4 fun F4 H4 v l4 hx4 dom r4 nd nw => q _ rfl F4 H4 v l4 (hx.trans hx4) (k3.grow hx4 dom) r4 nd fun a z => ⟨(nw a z).1, hx.same.free (nw a z).2⟩
end
def cutD (xs : List D) (lo hi : Option Int) : List D := (xs.drop (HT.sIx xs.length 0 lo)).take (HT.sIx xs.length xs.length hi - HT.sIx xs.length 0 lo)
def fSl : D → Option Int → Option Int → Option D
  | .str z, lo, hi => if z.length ≤ sizeLine then some (.str (cutS z lo hi)) else none
  | .lst _ xs, lo, hi => (allFz xs).map fun xs => .lst true (cutD xs lo hi)
  | .tup xs, lo, hi => (allFz xs).map fun xs => .tup (cutD xs lo hi)
  | _, _, _ => none
section
variable {X : Cx} {K : PySem.W.Frag}
def rSlAll (K : PySem.W.Frag) : V → Option Int → Option Int → Hp → VK → Prop := fun x lo hi H Q => (rSlS x lo hi H Q ∨ rSlL K x lo hi H Q) ∨ rSlA K x lo hi H Q
theorem sl_all : SlR X (rSlAll X.K) := (sl_str.or sl_list).or sl_tupA
theorem Rps.drop0' {F : Addr → Prop} {H : Hp} : ∀ (n : Nat) {vs : List V} {ds : List D} {l : List Addr}, Rps K F H vs ds l → l = [] → Rps K F H (vs.drop n) (ds.drop n) []
  | 0, _, _, _, r, e => e ▸ r
  | n + 1, _, _, _, .nil, e => .nil
  | n + 1, _, _, _, .cons r rs, e => Rps.drop0' n rs (List.append_eq_nil_iff.mp e).2
theorem Rps.take0' {F : Addr → Prop} {H : Hp} : ∀ (n : Nat) {vs : List V} {ds : List D} {l : List Addr}, Rps K F H vs ds l → l = [] → Rps K F H (vs.take n) (ds.take n) []
  | 0, _, _, _, r, e => .nil
  | n + 1, _, _, _, .nil, e => .nil
  | n + 1, _, _, _, .cons r rs, e => by
    obtain ⟨rfl, e2⟩ := List.append_eq_nil_iff.mp e
    exact .cons (l := []) (m := []) r (Rps.take0' n rs e2)
theorem Rps.cut {F : Addr → Prop} {H : Hp} {vs : List V} {ds : List D} (r : Rps K F H vs ds []) (lo hi : Option Int) : Rps K F H (cutV vs lo hi) (cutD ds lo hi) [] := by
  unfold cutV cutD
  rw [r.length]
  exact (r.drop0' _ rfl).take0' _ rfl
theorem v_sl : VXS K (rSlAll K) fSl := fun F H x d1 d l1 lo hi Q dom r1 e q => by
  unfold fSl at e
  split at e
  · split at e
    · rename_i z
      cases e
      exact .inl (.inl ⟨_, r1.str_inv, z, q.flat dom (.str _)⟩)
    · cases e
  · obtain ⟨zs, e0, rfl⟩ := map_some' e
    obtain ⟨rfl, z⟩ := allFz_some e0
    obtain ⟨a, us, m, rfl, ha, ra⟩ := r1.lstAt
    have := ra.isFz z
    subst this
    exact .inl (.inr ⟨a, us, rfl, .of ha, fun p hp => q.lst dom (ra.cut lo hi) hp⟩)
  · obtain ⟨zs, e0, rfl⟩ := map_some' e
    obtain ⟨rfl, z⟩ := allFz_some e0
    have hl := r1.isFz (by rw [isFz]; exact z)
    subst hl
    obtain ⟨a, us, m, rfl, ha, ra⟩ := r1.tupAt
    have := ra.isFz z
    subst this
    refine .inr ⟨a, us, rfl, .of ha, fun w => ?_, fun _ p hp => q.tup dom (ra.cut lo hi) hp⟩
    have e1 : ∀ ws : List D, ws.length = us.length → cutD ws lo hi = ws := fun ws hw => by
      unfold cutD
      rw [hw, w.1, w.2, List.drop_zero, Nat.sub_zero, ← hw, List.take_length]
    rw [e1 _ ra.length.symm] at q
    exact q.flat dom r1
  · cases e
end
/-! ### conditional values; and, or, not as values; chains -/
def gIf (t : Rho → Option Bool) (g h : Rho → Option D) : Rho → Option D := fun ρ => (t ρ).bind fun b => if b = true then g ρ else h ρ
def nIf (t : Rho → Option Bool) (g h : Rho → Option (Xs D)) : Rho → Option (Xs D) := fun ρ => (t ρ).bind fun b => if b = true then g ρ else h ρ
def eIf (t : Rho → Option (Rs Bool)) (g h : Rho → Option (Rs D)) : Rho → Option (Rs D) := fun ρ => rsB (t ρ) fun b ρ1 => if b = true then g ρ1 else h ρ1
def gAndV (g h : Rho → Option D) : Rho → Option D := fun ρ => (gB g ρ).bind fun b => if b = true then h ρ else some (.bl false)
def gOrV (g h : Rho → Option D) : Rho → Option D := fun ρ => (gB g ρ).bind fun b => if b = true then some (.bl true) else h ρ
def gNotV (g : Rho → Option D) : Rho → Option D := fun ρ => (gB g ρ).map fun b => .bl (!b)
section
variable {X : Cx} {W : WX} {a b c0 e : Expr} {rest : List Expr} {pos : Pos}
theorem dv_if {t : Rho → Option Bool} {g h : Rho → Option D} (x : DT X c0 t) (y : DV X a g) (z : DV X b h) : DV X (.IfExp c0 a b pos) (gIf t g h) := by
  obtain ⟨t1, h1, h2⟩ := x.ex
  obtain ⟨u, u1, u2⟩ := y.ex
  obtain ⟨w, w1, w2⟩ := z.ex
  refine ⟨_, pe_ifExp h1 u1 w1, fun c F H σ ρ τ θ Q d k e q => ?_⟩
  obtain ⟨b, e1, e⟩ := bind_some' e
  refine h2 c F H σ ρ τ θ _ _ k e1 fun F1 H1 hF k1 => ?_
  cases b with
  | true => exact iteT (u2 c F1 H1 σ ρ τ θ Q d k1 (by simpa using e) fun F2 H2 v l hF2 k2 r => q F2 H2 v l (hF.trans hF2) k2 r)
  | false => exact iteF (w2 c F1 H1 σ ρ τ θ Q d k1 (by simpa using e) fun F2 H2 v l hF2 k2 r => q F2 H2 v l (hF.trans hF2) k2 r)
theorem de_if {t : Rho → Option (Rs Bool)} {g h : Rho → Option (Rs D)} (x : DTE X W c0 t) (y : DE X W a g) (z : DE X W b h) : DE X W (.IfExp c0 a b pos) (eIf t g h) := by
  obtain ⟨t1, h1, h2⟩ := x.ex
  obtain ⟨u, u1, u2⟩ := y.ex
  obtain ⟨w, w1, w2⟩ := z.ex
  refine ⟨_, pe_ifExp h1 u1 w1, fun c F H σ ρ τ θ Q r k e q qx => ?_⟩
  rcases rsB_some e with ⟨b1, ρ1, e1, e⟩ | ⟨C, fs, ρ1, e1, rfl⟩
  · refine h2 c F H σ ρ τ θ _ _ k e1 (fun d ρ' z F1 H1 hF1 k1 => ?_) fun C fs ρ' z => by cases z
    cases z
    cases b1 with
    | true => exact iteT (u2 c F1 H1 σ ρ1 τ θ Q r k1 (by simpa using e) (fun d ρ' z F2 H2 v hF2 k2 => q d ρ' z F2 H2 v (fun a z => hF2 a (hF1 a z)) k2) fun C fs ρ' z F2 H2 q hF2 k2 xr => qx C fs ρ' z F2 H2 q (fun a z => hF2 a (hF1 a z)) k2 xr)
    | false => exact iteF (w2 c F1 H1 σ ρ1 τ θ Q r k1 (by simpa using e) (fun d ρ' z F2 H2 v hF2 k2 => q d ρ' z F2 H2 v (fun a z => hF2 a (hF1 a z)) k2) fun C fs ρ' z F2 H2 q hF2 k2 xr => qx C fs ρ' z F2 H2 q (fun a z => hF2 a (hF1 a z)) k2 xr)
  · exact h2 c F H σ ρ τ θ _ _ k e1 (fun d ρ' z => by cases z) fun C fs ρ' z F1 H1 q hF1 k1 xr => by
      cases z
      exact qx _ _ _ rfl F1 H1 q hF1 k1 xr
theorem dv_one {op : BoolOp} {g : Rho → Option D} (x : DV X a g) : DV X (.BoolOp op [a] pos) g := by
  obtain ⟨t, h1, h2⟩ := x.ex
  exact ⟨_, pe_one h1, h2⟩
theorem dv_and {g h : Rho → Option D} (x : DV X a g) (y : DV X (.BoolOp .And (b :: rest) pos) h) : DV X (.BoolOp .And (a :: b :: rest) pos) (gAndV g h) := by
  obtain ⟨t, h1, h2⟩ := x.ex
  obtain ⟨u, u1, u2⟩ := y.ex
  refine ⟨_, pe_and h1 u1, fun c F H σ ρ τ θ Q d k e q => ?_⟩
  obtain ⟨b, e1, e⟩ := bind_some' e
  refine h2 c F H σ ρ τ θ _ _ k (gB_some e1) fun F1 H1 v l hF k1 r => ⟨b, r.bl_inv, ?_⟩
  cases b with
  | true => exact iteT (u2 c F1 H1 σ ρ τ θ Q d k1 (by simpa using e) fun F2 H2 v l hF2 k2 r => q F2 H2 v l (hF.trans hF2) k2 r)
  | false =>
    rw [if_neg Bool.false_ne_true] at e
    cases e
    exact iteF (q F1 H1 _ _ hF k1 (.bl _))
theorem dv_or {g h : Rho → Option D} (x : DV X a g) (y : DV X (.BoolOp .Or (b :: rest) pos) h) : DV X (.BoolOp .Or (a :: b :: rest) pos) (gOrV g h) := by
  obtain ⟨t, h1, h2⟩ := x.ex
  obtain ⟨u, u1, u2⟩ := y.ex
  refine ⟨_, pe_or h1 u1, fun c F H σ ρ τ θ Q d k e q => ?_⟩
  obtain ⟨b, e1, e⟩ := bind_some' e
  refine h2 c F H σ ρ τ θ _ _ k (gB_some e1) fun F1 H1 v l hF k1 r => ⟨b, r.bl_inv, ?_⟩
  cases b with
  | false => exact iteF (u2 c F1 H1 σ ρ τ θ Q d k1 (by simpa using e) fun F2 H2 v l hF2 k2 r => q F2 H2 v l (hF.trans hF2) k2 r)
  | true =>
    rw [if_pos rfl] at e
    cases e
    exact iteT (q F1 H1 _ _ hF k1 (.bl _))
theorem dv_not {g : Rho → Option D} (x : DV X a g) : DV X (.UnaryOp .Not a pos) (gNotV g) := by
  obtain ⟨t, h1, h2⟩ := x.ex
  refine ⟨_, pe_not h1, fun c F H σ ρ τ θ Q d k e q => ?_⟩
  obtain ⟨b, e1, rfl⟩ := map_some' e
  exact h2 c F H σ ρ τ θ _ _ k (gB_some e1) fun F1 H1 v l hF k1 r => ⟨b, r.bl_inv, q F1 H1 _ _ hF k1 (.bl _)⟩
def gChain (f f' : D → D → Option D) (ga gb gc : Rho → Option D) : Rho → Option D := fun ρ => (ga ρ).bind fun x => (gb ρ).bind fun y => ((f x y).bind asB).bind fun b => if b = true then (gc ρ).bind fun z => f' y z else some (.bl false)
theorem dv_chain {op op' : CmpOp} {r r' : R2} {f f' : D → D → Option D} {ga gb gc : Rho → Option D} (ho : OpR X (compareOp op) r) (hv : VOp2 X.K r f) (ho' : OpR X (compareOp op') r') (hv' : VOp2 X.K r' f') (x : DV X a ga) (y : DV X b gb) (z : DV X c0 gc)
    (hm : lastMarks [op, op'] [b, c0] = false := by with_unfolding_all rfl) : DV X (.Compare a [op, op'] [b, c0] pos) (gChain f f' ga gb gc) := by
  obtain ⟨ta, a1, a2⟩ := x.ex
  obtain ⟨tb, b1, b2⟩ := y.ex
  obtain ⟨tc, c1, c2⟩ := z.ex
  refine ⟨_, pe_chain ho ho' a1 b1 c1 hm, fun c F H σ ρ τ θ Q d k e q => ?_⟩
  obtain ⟨d1, e1, e⟩ := bind_some' e
  obtain ⟨d2, e2, e⟩ := bind_some' e
  obtain ⟨b, e3, e⟩ := bind_some' e
  obtain ⟨d3, e3, e4⟩ := bind_some' e3
  have := asB_some e4
  subst this
  refine a2 c F H σ ρ τ θ _ _ k e1 fun F1 H1 v1 l1 hF1 k1 r1 => ?_
  refine b2 c F1 H1 σ ρ τ θ _ _ k1 e2 fun F2 H2 v2 l2 hF2 k2 r2 => ?_
  refine hv F2 H2 v1 v2 d1 d2 _ _ _ _ (hF2.rp r1) r2 e3 fun v l r3 => ⟨b, r3.bl_inv, ?_⟩
  cases b with
  | true =>
    rw [if_pos rfl] at e
    obtain ⟨d4, e5, e⟩ := bind_some' e
    refine iteT (c2 c F2 H2 σ ρ τ θ _ _ k2 e5 fun F3 H3 v3 l3 hF3 k3 r4 => ?_)
    exact hv' F3 H3 v2 v3 d2 d4 _ _ _ _ (hF3.rp r2) r4 e fun v l r5 => q F3 H3 v l (hF1.trans (hF2.trans hF3)) k3 r5
  | false =>
    rw [if_neg Bool.false_ne_true] at e
    cases e
    exact iteF (q F2 H2 _ _ (hF1.trans hF2) k2 (.bl _))
theorem dt_chain {op op' : CmpOp} {r r' : R2} {f f' : D → D → Option D} {ga gb gc : Rho → Option D} (ho : OpR X (compareOp op) r) (hv : VOp2 X.K r f) (ho' : OpR X (compareOp op') r') (hv' : VOp2 X.K r' f') (x : DV X a ga) (y : DV X b gb) (z : DV X c0 gc)
    (hm : lastMarks [op, op'] [b, c0] = false := by with_unfolding_all rfl) : DT X (.Compare a [op, op'] [b, c0] pos) (gB (gChain f f' ga gb gc)) := by
  obtain ⟨ta, a1, a2⟩ := x.ex
  obtain ⟨tb, b1, b2⟩ := y.ex
  obtain ⟨tc, c1, c2⟩ := z.ex
  refine ⟨_, pt_chain ho ho' a1 b1 c1 hm, fun c F H σ ρ τ θ Q d k e q => ?_⟩
  have e := gB_some e
  obtain ⟨d1, e1, e⟩ := bind_some' e
  obtain ⟨d2, e2, e⟩ := bind_some' e
  obtain ⟨b, e3, e⟩ := bind_some' e
  obtain ⟨d3, e3, e4⟩ := bind_some' e3
  have := asB_some e4
  subst this
  refine a2 c F H σ ρ τ θ _ _ k e1 fun F1 H1 v1 l1 hF1 k1 r1 => ?_
  refine b2 c F1 H1 σ ρ τ θ _ _ k1 e2 fun F2 H2 v2 l2 hF2 k2 r2 => ?_
  refine hv F2 H2 v1 v2 d1 d2 _ _ _ _ (hF2.rp r1) r2 e3 fun v l r3 => ⟨b, r3.bl_inv, ?_⟩
  cases b with
  | true =>
    rw [if_pos rfl] at e
    obtain ⟨d4, e5, e⟩ := bind_some' e
    refine iteT (c2 c F2 H2 σ ρ τ θ _ _ k2 e5 fun F3 H3 v3 l3 hF3 k3 r4 => ?_)
    exact hv' F3 H3 v2 v3 d2 d4 _ _ _ _ (hF3.rp r2) r4 e fun v l r5 => ⟨d, r5.bl_inv, q F3 H3 (hF1.trans (hF2.trans hF3)) k3⟩
  | false =>
    rw [if_neg Bool.false_ne_true] at e
    cases e
    exact iteF ⟨false, rfl, q F2 H2 (hF1.trans hF2) k2⟩
end
end DL

set_option Elab.async false
set_option linter.all false
set_option maxRecDepth 100000
set_option maxHeartbeats 4000000
/-! DLL: places in a slot, what is changed there. -/
namespace DL
open PySem PySem.Spec PyProof.Rows L2
/-- a step into data -/
inductive Sg where
  | ix (n : Nat) | fld (f : Str)
def nx (f : Str) : List Str → Option Nat
  | [] => none
  | n :: ns => if f == n then some 0 else (nx f ns).map (· + 1)
def D.at : List Sg → D → Option D
  | [], d => some d
  | .ix n :: π, .lst true xs => xs[n]?.bind (D.at π)
  | .ix n :: π, .tup xs => xs[n]?.bind (D.at π)
  | .fld f :: π, .obj true _ ns xs => (nx f ns).bind fun n => xs[n]?.bind (D.at π)
  | _, _ => none
def D.put (e : D) : List Sg → D → D
  | [], _ => e
  | .ix n :: π, .lst o xs => .lst o (xs.modify n (D.put e π))
  | .ix n :: π, .tup xs => .tup (xs.modify n (D.put e π))
  | .fld f :: π, .obj o C ns xs => (match nx f ns with
    | some n => .obj o C ns (xs.modify n (D.put e π))
    | none => .obj o C ns xs)
  | _, d => d
/-- x is what the steps lead to from v -/
inductive VAt (H : Hp) : V → List Sg → V → Prop
  | nil {v : V} : VAt H v [] v
  | lst {a : Addr} {vs : List V} {n : Nat} {w x : V} {π : List Sg} : H a = some (.lst vs) → vs[n]? = some w → VAt H w π x → VAt H (.ref a) (.ix n :: π) x
  | tup {a : Addr} {vs : List V} {n : Nat} {w x : V} {π : List Sg} : H a = some (.tup vs) → vs[n]? = some w → VAt H w π x → VAt H (.ref a) (.ix n :: π) x
  | fld {a C dx : Addr} {fs : List (Str × V)} {f : Str} {n : Nat} {w x : V} {π : List Sg} : H a = some (.ins C dx fs) → nx f (fs.map (·.1)) = some n → (fs.map (·.2))[n]? = some w → VAt H w π x → VAt H (.ref a) (.fld f :: π) x
theorem VAt.same {H H' : Hp} (s : Same H H') {v x : V} {π : List Sg} (h : VAt H v π x) : VAt H' v π x := by
  induction h with
  | nil => exact .nil
  | lst h e _ ih => exact .lst (s _ _ h) e ih
  | tup h e _ ih => exact .tup (s _ _ h) e ih
  | fld h e e2 _ ih => exact .fld (s _ _ h) e e2 ih
theorem VAt.snoc {H : Hp} {v x y : V} {π : List Sg} {g : Sg} (h : VAt H v π x) (h' : VAt H x [g] y) : VAt H v (π ++ [g]) y := by
  induction h with
  | nil => exact h'
  | lst h e _ ih => exact .lst h e (ih h')
  | tup h e _ ih => exact .tup h e (ih h')
  | fld h e e2 _ ih => exact .fld h e e2 (ih h')
theorem D.at_snoc (g : Sg) : ∀ (π : List Sg) (d : D), D.at (π ++ [g]) d = (D.at π d).bind (D.at [g])
  | [], d => by rw [List.nil_append]; rfl
  | .ix n :: π, d => by
    cases d <;> try rfl
    · rename_i o xs
      cases o
      · rfl
      · show xs[n]?.bind (D.at (π ++ [g])) = (xs[n]?.bind (D.at π)).bind _
        cases xs[n]? with
        | none => rfl
        | some y => exact D.at_snoc g π y
    · rename_i xs
      show xs[n]?.bind (D.at (π ++ [g])) = (xs[n]?.bind (D.at π)).bind _
      cases xs[n]? with
      | none => rfl
      | some y => exact D.at_snoc g π y
  | .fld f :: π, d => by
    cases d <;> try rfl
    rename_i o C ns xs
    cases o
    · rfl
    · show (nx f ns).bind (fun n => xs[n]?.bind (D.at (π ++ [g]))) = ((nx f ns).bind fun n => xs[n]?.bind (D.at π)).bind _
      cases nx f ns with
      | none => rfl
      | some n =>
        show xs[n]?.bind (D.at (π ++ [g])) = (xs[n]?.bind (D.at π)).bind _
        cases xs[n]? with
        | none => rfl
        | some y => exact D.at_snoc g π y
section
variable {K : PySem.W.Frag} {F : Addr → Prop} {H : Hp}
/-- one of many, and what the others bear -/
theorem Rps.lens : ∀ {vs : List V} {xs : List D} {L : List Addr} {n : Nat} {d : D}, Rps K F H vs xs L → xs[n]? = some d → ∃ v l L', vs[n]? = some v ∧ Rp K F H v d l ∧ L.Perm (l ++ L') ∧
    ∀ (H' : Hp) (w : V) (e : D) (m : List Addr), (∀ a o, (F a ∨ a ∈ L') → H a = some o → H' a = some o) → Rp K F H' w e m → ∃ L'', Rps K F H' (vs.set n w) (xs.set n e) L'' ∧ L''.Perm (m ++ L')
  | _, _, _, _, _, .nil, e => by simp at e
  | _, _, _, 0, _, .cons (m := m0) h r, e => by
    cases e
    exact ⟨_, _, m0, rfl, h, .refl _, fun H' w e m k r' => ⟨_, .cons r' (r.frame (fun _ z => z) fun a o z q => k a o z q), .refl _⟩⟩
  | _, _, _, n + 1, _, .cons (l := l0) h r, e => by
    obtain ⟨v, l, L', h1, h2, p, h3⟩ := Rps.lens r (n := n) e
    have pp : ∀ {l l0 L' L : List Addr}, L.Perm (l ++ L') → (l0 ++ L).Perm (l ++ (l0 ++ L')) := fun {l l0 L' L} p => by
      refine (p.append_left l0).trans ?_
      rw [← List.append_assoc, ← List.append_assoc]
      exact List.perm_append_comm.append_right L'
    refine ⟨v, l, l0 ++ L', h1, h2, pp p, fun H' w e m k r' => ?_⟩
    obtain ⟨L'', q1, q2⟩ := h3 H' w e m (fun a o z q => k a o (z.imp id (List.mem_append_right _)) q) r'
    exact ⟨_, .cons (h.frame (fun _ z => z) fun a o z q => k a o (z.imp id (List.mem_append_left _)) q) q1, pp q2⟩
theorem set_get_self {α : Type} {xs : List α} {n : Nat} {a : α} (h : xs[n]? = some a) : xs.set n a = xs := by
  obtain ⟨hh, ee⟩ := List.getElem?_eq_some_iff.mp h
  rw [← ee]
  exact List.set_getElem_self hh
theorem modify_get {α : Type} {xs : List α} {n : Nat} {a : α} (f : α → α) (h : xs[n]? = some a) : xs.modify n f = xs.set n (f a) := by
  apply List.ext_getElem?
  intro i
  rw [List.getElem?_modify]
  by_cases e : n = i
  · subst e
    rw [h, List.getElem?_set_self (List.getElem?_eq_some_iff.mp h).1]
    simp
  · rw [List.getElem?_set_ne e]
    simp [e]
/-- what a place bears, and the rest -/
theorem Rp.lens : ∀ {π : List Sg} {v x : V} {D0 d : D} {L : List Addr}, VAt H v π x → Rp K F H v D0 L → D.at π D0 = some d → L.Nodup → (∀ a ∈ L, ¬ F a) → ∃ l L', Rp K F H x d l ∧ L.Perm (l ++ L') ∧
    ∀ (H' : Hp) (e : D) (m : List Addr), (∀ a o, (F a ∨ a ∈ L') → H a = some o → H' a = some o) → Rp K F H' x e m → ∃ L'', Rp K F H' v (D.put e π D0) L'' ∧ L''.Perm (m ++ L')
  | [], v, _, D0, d, L, .nil, r, e, _, _ => by
    cases e
    exact ⟨L, [], r, by rw [List.append_nil], fun H' e m k r' => ⟨m, r', by rw [List.append_nil]⟩⟩
  | .ix n :: π, _, x, D0, d, L, at_, r, e, nd, nF => by
    cases r with
    | lstO ha rs =>
      rename_i a vs xs l1
      cases at_ with
      | tup h e2 q => rw [ha] at h; cases h
      | lst h e2 q =>
        rename_i us w
        rw [ha] at h
        cases h
        have e : xs[n]?.bind (D.at π) = some d := e
        obtain ⟨d1, e1, e3⟩ := bind_some' e
        obtain ⟨w', l, L', h1, h2, p, h3⟩ := rs.lens e1
        rw [h1] at e2
        cases e2
        have nd2 := (List.nodup_cons.mp nd).2
        have nd3 := p.nodup_iff.mp nd2
        obtain ⟨l2, L2, r2, p2, h4⟩ := Rp.lens q h2 e3 (List.nodup_append.mp nd3).1 fun b z => nF b (List.mem_cons_of_mem _ (p.mem_iff.mpr (List.mem_append_left _ z)))
        have pp : ∀ {m l A : List Addr}, l.Perm (m ++ L2) → A.Perm (l ++ L') → (a :: A).Perm (m ++ (a :: (L2 ++ L'))) := fun {m l A} p1 p2 => by
          refine ((p2.trans (p1.append_right L')).cons a).trans ?_
          rw [List.append_assoc]
          exact List.perm_middle.symm
        refine ⟨l2, a :: (L2 ++ L'), r2, pp p2 p, fun H' e m k r' => ?_⟩
        obtain ⟨M, q1, q2⟩ := h4 H' e m (fun b o z q => k b o (z.imp id fun z => List.mem_cons_of_mem _ (List.mem_append_left _ z)) q) r'
        obtain ⟨M2, q3, q4⟩ := h3 H' w _ M (fun b o z q => k b o (z.imp id fun z => List.mem_cons_of_mem _ (List.mem_append_right _ z)) q) q1
        refine ⟨a :: M2, ?_, pp q2 q4⟩
        show Rp K F H' (.ref a) (.lst true (xs.modify n (D.put e π))) _
        rw [modify_get _ e1]
        rw [set_get_self h1] at q3
        exact .lstO (k a _ (.inr List.mem_cons_self) ha) q3
    | tup ht rs =>
      rename_i a vs xs
      cases at_ with
      | lst h e2 q => rw [ht.2] at h; cases h
      | tup h e2 q =>
        rename_i us w
        rw [ht.2] at h
        cases h
        have e : xs[n]?.bind (D.at π) = some d := e
        obtain ⟨d1, e1, e3⟩ := bind_some' e
        obtain ⟨w', l, L', h1, h2, p, h3⟩ := rs.lens e1
        rw [h1] at e2
        cases e2
        have nd3 := p.nodup_iff.mp nd
        obtain ⟨l2, L2, r2, p2, h4⟩ := Rp.lens q h2 e3 (List.nodup_append.mp nd3).1 fun b z => nF b (p.mem_iff.mpr (List.mem_append_left _ z))
        have pp : ∀ {m l A : List Addr}, l.Perm (m ++ L2) → A.Perm (l ++ L') → A.Perm (m ++ (L2 ++ L')) := fun {m l A} p1 p2 => by
          rw [← List.append_assoc]
          exact p2.trans (p1.append_right L')
        refine ⟨l2, L2 ++ L', r2, pp p2 p, fun H' e m k r' => ?_⟩
        obtain ⟨M, q1, q2⟩ := h4 H' e m (fun b o z q => k b o (z.imp id fun z => List.mem_append_left _ z) q) r'
        obtain ⟨M2, q3, q4⟩ := h3 H' w _ M (fun b o z q => k b o (z.imp id fun z => List.mem_append_right _ z) q) q1
        refine ⟨M2, ?_, pp q2 q4⟩
        show Rp K F H' (.ref a) (.tup (xs.modify n (D.put e π))) _
        rw [modify_get _ e1]
        rw [set_get_self h1] at q3
        exact .tup ⟨ht.1, k a _ (.inl ht.1) ht.2⟩ q3
    | _ => cases e
  | .fld f :: π, _, x, D0, d, L, at_, r, e, nd, nF => by
    cases r with
    | objO ha rs =>
      rename_i a C dx fs xs l1
      cases at_ with
      | fld h e0 e2 q =>
        rename_i C' dx' us i w
        rw [ha] at h
        cases h
        have e : (nx f (fs.map (·.1))).bind (fun n => xs[n]?.bind (D.at π)) = some d := e
        rw [e0] at e
        have e : xs[i]?.bind (D.at π) = some d := e
        obtain ⟨d1, e1, e3⟩ := bind_some' e
        obtain ⟨w', l, L', h1, h2, p, h3⟩ := rs.lens e1
        rw [h1] at e2
        cases e2
        have nd2 := (List.nodup_cons.mp nd).2
        have nd3 := p.nodup_iff.mp nd2
        obtain ⟨l2, L2, r2, p2, h4⟩ := Rp.lens q h2 e3 (List.nodup_append.mp nd3).1 fun b z => nF b (List.mem_cons_of_mem _ (p.mem_iff.mpr (List.mem_append_left _ z)))
        have pp : ∀ {m l A : List Addr}, l.Perm (m ++ L2) → A.Perm (l ++ L') → (a :: A).Perm (m ++ (a :: (L2 ++ L'))) := fun {m l A} p1 p2 => by
          refine ((p2.trans (p1.append_right L')).cons a).trans ?_
          rw [List.append_assoc]
          exact List.perm_middle.symm
        refine ⟨l2, a :: (L2 ++ L'), r2, pp p2 p, fun H' e m k r' => ?_⟩
        obtain ⟨M, q1, q2⟩ := h4 H' e m (fun b o z q => k b o (z.imp id fun z => List.mem_cons_of_mem _ (List.mem_append_left _ z)) q) r'
        obtain ⟨M2, q3, q4⟩ := h3 H' w _ M (fun b o z q => k b o (z.imp id fun z => List.mem_cons_of_mem _ (List.mem_append_right _ z)) q) q1
        refine ⟨a :: M2, ?_, pp q2 q4⟩
        show Rp K F H' (.ref a) (match nx f (fs.map (·.1)) with
          | some n => .obj true C (fs.map (·.1)) (xs.modify n (D.put e π))
          | none => .obj true C (fs.map (·.1)) xs) _
        rw [e0]
        show Rp K F H' (.ref a) (.obj true C (fs.map (·.1)) (xs.modify i (D.put e π))) _
        rw [modify_get _ e1]
        rw [set_get_self h1] at q3
        exact .objO (k a _ (.inr List.mem_cons_self) ha) q3
    | _ => cases e
end
/-- a change of an owned thing by values: r runs, f tells the new data and the result -/
def VMut (K : PySem.W.Frag) (r : V → List V → Hp → VK → Prop) (f : D → List D → Option (D × D)) : Prop := ∀ (F : Addr → Prop) (H : Hp) (x : V) (d0 : D) (l0 : List Addr) (vs : List V) (ds : List D) (m : List Addr) (d1 dr : D) (Q : VK),
  (∀ a, F a → H a ≠ none) → Rp K F H x d0 l0 → Rps K F H vs ds m → (l0 ++ m).Nodup → (∀ a ∈ l0 ++ m, ¬ F a) → f d0 ds = some (d1, dr) →
  (∀ (a : Addr) (o' : HO) (l1 lr : List Addr) (v : V), a ∈ l0 → (∀ b ∈ l1 ++ lr, b ∈ l0 ++ m) → (l1 ++ lr).Nodup → Rp K F (upd H a o') x d1 l1 → Rp K F (upd H a o') v dr lr → Q v (upd H a o')) → r x vs H Q
section
variable {K : PySem.W.Frag} {c : Cn} {F : Addr → Prop} {H : Hp} {σ : L2.St} {ρ : Rho} {τ : List V} {θ : List D}
theorem Ok.mutAt {r : V → List V → Hp → VK → Prop} {f : D → List D → Option (D × D)} {vs : List V} {ds : List D} {i : Nat} {D0 d0 d1 dr : D} {v x : V} {π : List Sg} {Q : VK} (hv : VMut K r f) (k : Ok K c F H σ ρ (vs ++ τ) (ds ++ θ)) (hl : vs.length = ds.length)
    (e : ρ[i]? = some (some (false, D0))) (ev : σ[i]? = some (some v)) (at_ : VAt H v π x) (ed : D.at π D0 = some d0) (ef : f d0 ds = some (d1, dr))
    (q : ∀ (H' : Hp) (y : V), Ok K c F H' σ ((DL.kill ρ).set i (some (false, D.put d1 π D0))) (y :: τ) (dr :: θ) → Q y H') : r x vs H Q := by
  obtain ⟨L, m, r1, r2, nd, nF, mu⟩ := k.mut hl e ev
  have ndL := List.nodup_append.mp nd
  obtain ⟨l, L', rx, p, lens⟩ := r1.lens at_ ed ndL.1 fun a z => nF a (List.mem_append_left _ z)
  have sub : ∀ b, b ∈ l ++ m → b ∈ L ++ m := fun b z => by
    rcases List.mem_append.mp z with z | z
    · exact List.mem_append_left _ (p.mem_iff.mpr (List.mem_append_left _ z))
    · exact List.mem_append_right _ z
  have p2 : (L ++ m).Perm ((l ++ m) ++ L') := by
    refine (p.append_right m).trans ?_
    rw [List.append_assoc, List.append_assoc]
    exact List.Perm.append_left l List.perm_append_comm
  have nd2 := p2.nodup_iff.mp nd
  have nd3 := List.nodup_append.mp nd2
  refine hv F H x d0 l vs ds m d1 dr Q k.dom rx r2 nd3.1 (fun a z => nF a (sub a z)) ef fun a o' l1 lr w ha hs hn q1 q2 => ?_
  have hk : ∀ b o, (F b ∨ b ∈ L') → H b = some o → upd H a o' b = some o := fun b o z q => by
    rw [upd_ne]
    · exact q
    · intro z'
      rw [z'] at z
      rcases z with z | z
      · exact nF a (sub a (List.mem_append_left _ ha)) z
      · exact nd3.2.2 a (List.mem_append_left _ ha) a z rfl
  obtain ⟨L2, q3, p3⟩ := lens (upd H a o') d1 l1 hk q1
  refine q _ w (mu a o' _ L2 [w] [dr] lr (p.mem_iff.mpr (List.mem_append_left _ ha)) (fun b z => ?_) ?_ q3 (.one q2))
  · rcases List.mem_append.mp z with z | z
    · rcases List.mem_append.mp (p3.mem_iff.mp z) with z | z
      · exact sub b (hs b (List.mem_append_left _ z))
      · exact List.mem_append_left _ (p.mem_iff.mpr (List.mem_append_right _ z))
    · exact sub b (hs b (List.mem_append_right _ z))
  · have p4 : (L2 ++ lr).Perm ((l1 ++ lr) ++ L') := by
      refine (p3.append_right lr).trans ?_
      rw [List.append_assoc, List.append_assoc]
      exact List.Perm.append_left l1 List.perm_append_comm
    exact p4.nodup_iff.mpr (List.nodup_append.mpr ⟨hn, nd3.2.1, fun y hy z hz => nd3.2.2 y (hs y hy) z hz⟩)
end

/-! ### places -/
structure DPl (X : Cx) (e : Expr) (i : Nat) (p : Rho → Option (List Sg)) : Prop where
  ex : ∃ t, PE X e t ∧ ∀ (c : Cn) (F : Addr → Prop) (H : Hp) (σ : L2.St) (ρ : Rho) (τ : List V) (θ : List D) (Q : VK) (D0 d : D) (π : List Sg), Ok X.K c F H σ ρ τ θ → ρ[i]? = some (some (false, D0)) → p ρ = some π → D.at π D0 = some d →
    (∀ (F' : Addr → Prop) (H' : Hp) (v x : V) (l : List Addr), Ext F H F' H' → Ok X.K c F' H' σ ρ τ θ → σ[i]? = some (some v) → VAt H' v π x → Rp X.K F' H' x d l → Q x H') → t σ H Q
def pHere : Rho → Option (List Sg) := fun _ => some []
def pIx (p : Rho → Option (List Sg)) (i : Nat) (g : Rho → Option D) : Rho → Option (List Sg) := fun ρ => (p ρ).bind fun π => match ρ[i]? with
  | some (some (false, D0)) => (match D.at π D0 with
    | some (.lst true xs) => ((g ρ).bind asI).bind fun j => (ixN xs.length j).map fun n => π ++ [.ix n]
    | some (.tup xs) => ((g ρ).bind asI).bind fun j => (ixN xs.length j).map fun n => π ++ [.ix n]
    | _ => none)
  | _ => none
section
variable {X : Cx} {e e2 : Expr} {i : Nat} {pos : Pos}
theorem dpl_var (i : Nat) {x : Str} (hN : X.N[i]? = some x := by rfl) (hv : Vis X.env.scope x := by first | exact Or.inl rfl | exact Or.inr (Or.inl rfl) | exact Or.inr (Or.inr rfl)) (hd : (x == ("__debug__" : Str)) = false := by decide)
    (hcd : (x == ("__classdict__" : Str)) = false := by decide) : DPl X (.Name x pos) i pHere := by
  refine ⟨_, pe_var hN hv hd hcd, fun c F H σ ρ τ θ Q D0 d π k e ep ed q => ?_⟩
  cases ep
  cases ed
  obtain ⟨v, l, h1, h2⟩ := k.get e
  exact ⟨v, h1, q F H v v l .refl k h1 .nil h2⟩
/-- o[j] of a place -/
theorem dpl_ix {p : Rho → Option (List Sg)} {g : Rho → Option D} (h1 : DPl X e i p) (h2 : DV X e2 g) (hs : PlainIx e2 := by with_unfolding_all rfl) : DPl X (.Subscript e e2 pos) i (pIx p i g) := by
  obtain ⟨t, t1, t2⟩ := h1.ex
  obtain ⟨u, u1, u2⟩ := h2.ex
  refine ⟨_, pe_ix ix_seq t1 u1 hs, fun c F H σ ρ τ θ Q D0 d π k e ep ed q => ?_⟩
  obtain ⟨π0, e0, ep⟩ := bind_some' ep
  rw [e] at ep
  have fin : ∀ {xs : List D} {isT : Bool}, D.at π0 D0 = some (if isT = true then .tup xs else .lst true xs) → (((g ρ).bind asI).bind fun j => (ixN xs.length j).map fun n => π0 ++ [.ix n]) = some π → t σ H (fun x H1 => u σ H1 fun y H2 => rIx X.K x y H2 Q) := by
    intro xs isT ea eb
    obtain ⟨j, e5, e6⟩ := bind_some' eb
    obtain ⟨dj, e7, e8⟩ := bind_some' e5
    have := asI_some e8
    subst this
    obtain ⟨n, en, rfl⟩ := map_some' e6
    rw [D.at_snoc, ea] at ed
    refine t2 c F H σ ρ τ θ _ D0 _ π0 k e e0 ea fun F1 H1 v x l hF1 k1 ev va r1 => ?_
    refine u2 c F1 H1 σ ρ τ θ _ _ k1 e7 fun F2 H2 y l2 hF2 k2 r2 => ?_
    have := r2.int_inv
    subst this
    have r1 := hF2.rp r1
    cases isT with
    | false =>
      have ed : xs[n]?.bind (D.at []) = some d := ed
      obtain ⟨d', e9, e10⟩ := bind_some' ed
      cases e10
      cases r1 with
      | lstO ha rs =>
        obtain ⟨w, lw, hw, rw', _⟩ := rs.get e9
        refine .inl ⟨_, _, j, w, rfl, rfl, .inl (.inl ha), ?_, q F2 H2 v w lw (hF1.trans hF2) k2 ev ((va.same hF2.same).snoc (.lst ha hw .nil)) rw'⟩
        unfold atI
        rw [rs.length, en]
        exact hw
    | true =>
      have ed : xs[n]?.bind (D.at []) = some d := ed
      obtain ⟨d', e9, e10⟩ := bind_some' ed
      cases e10
      cases r1 with
      | tup ha rs =>
        obtain ⟨w, lw, hw, rw', _⟩ := rs.get e9
        refine .inr (.inl ⟨_, _, j, w, rfl, rfl, ha.sq, ?_, q F2 H2 v w lw (hF1.trans hF2) k2 ev ((va.same hF2.same).snoc (.tup ha.2 hw .nil)) rw'⟩)
        unfold atI
        rw [rs.length, en]
        exact hw
  dsimp only at ep
  split at ep
  · rename_i xs ez
    exact fin (isT := false) ez ep
  · rename_i xs ez
    exact fin (isT := true) ez ep
  · cases ep
end
end DL

set_option Elab.async false
set_option linter.all false
set_option maxRecDepth 100000
set_option maxHeartbeats 4000000
/-! DLM: methods that change a place, items that are set. -/
namespace DL
open PySem PySem.Spec PyProof.Rows L2
/-- the change of a place by data -/
def mAt (i : Nat) (kd : D → Bool) (f : D → List D → Option (D × D)) (π : List Sg) (ds : List D) (ρ : Rho) : Option (Rs D) := match ρ[i]? with
  | some (some (false, D0)) => ((D.at π D0).bind (kdO kd)).bind fun d0 => (f d0 ds).map fun r => .ok r.2 ((kill ρ).set i (some (false, D.put r.1 π D0)))
  | _ => none
def eMut (i : Nat) (kd : D → Bool) (f : D → List D → Option (D × D)) (p : Rho → Option (List Sg)) (g : Rho → Option (List D)) : Rho → Option (Rs D) := fun ρ => (p ρ).bind fun π => ((g ρ).bind allFz).bind fun ds => mAt i kd f π ds ρ
def eMut0 (i : Nat) (kd : D → Bool) (f : D → List D → Option (D × D)) (g : Rho → Option (Rs (List D))) : Rho → Option (Rs D) := fun ρ => match ρ[i]? with
  | some (some (false, D0)) => (kdO kd D0).bind fun _ => rsB (g ρ) fun ds ρ1 => mAt i kd f [] ds ρ1
  | _ => none
theorem mAt_some {i : Nat} {kd : D → Bool} {f : D → List D → Option (D × D)} {π : List Sg} {ds : List D} {ρ : Rho} {r : Rs D} (h : mAt i kd f π ds ρ = some r) :
    ∃ D0 d0 d1 dr, ρ[i]? = some (some (false, D0)) ∧ D.at π D0 = some d0 ∧ kd d0 = true ∧ f d0 ds = some (d1, dr) ∧ r = .ok dr ((kill ρ).set i (some (false, D.put d1 π D0))) := by
  unfold mAt at h
  split at h
  · rename_i D0 e
    obtain ⟨d0, e1, h⟩ := bind_some' h
    obtain ⟨d0', e2, e3⟩ := bind_some' e1
    obtain ⟨rfl, zk⟩ := kdO_some e3
    obtain ⟨⟨d1, dr⟩, e4, rfl⟩ := map_some' h
    exact ⟨D0, _, d1, dr, e, e2, zk, e4, rfl⟩
  · cases h
section
variable {X : Cx} {W : WX} {e o e2 : Expr} {es : List Expr} {pos p2 apos cpos : Pos} {name : Str} {T id : String} {i : Nat} {r : V → List V → Hp → VK → Prop} {f : D → List D → Option (D × D)} {kd : D → Bool}
/-- a method of a place, the arguments are looks that are frozen -/
theorem de_mm {p : Rho → Option (List Sg)} {g : Rho → Option (List D)} (pa : PlainAttrs T) (slot : Slot T name id) (hty : typeOf (.builtin id) = pure (.type "method_descriptor")) (hm : MtR X id r) (hk : KdOk X.K T kd) (hv : VMut X.K r f) (ho : DPl X o i p) (ha : DVs X (e :: es) g)
    (hbase : attributeBase o name X.env (eval o X.env) = eval o X.env := by rfl)
    (hfew : ((backTo cpos (starEach (e :: es) X.env)).all (fun x => !x.1) && (backToKw cpos (keywordEach [] X.env)).all (fun x => x.1.isSome)
      && decide ((e :: es).length + ([] : List Keyword).length + (if ([] : List Keyword).isEmpty then 0 else 1) < 30)) = true := by rfl)
    (hline : (apos.endLine == cpos.line) = true := by rfl) (hs : starEach (e :: es) X.env = (false, eval e X.env) :: starEach es X.env := by rfl) (hplain : (backTo cpos (starEach es X.env)).any (·.1) = false := by rfl) :
    DE X W (.Call (.Attribute o name apos) (e :: es) [] cpos) (eMut i kd f p g) := by
  obtain ⟨to, o1, o2⟩ := ho.ex
  obtain ⟨t, h1, h2⟩ := ha.ex
  refine ⟨_, pe_bm pa slot hty hm o1 h1 hbase hfew hline hs hplain, fun c F H σ ρ τ θ Q rr k e0 q qx => ?_⟩
  obtain ⟨π, ep, e0⟩ := bind_some' e0
  obtain ⟨ds, e1, e0⟩ := bind_some' e0
  obtain ⟨ds0, e1, e2⟩ := bind_some' e1
  obtain ⟨rfl, z⟩ := allFz_some e2
  obtain ⟨D0, d0, d1, dr, m1, m2, m3, m4, rfl⟩ := mAt_some e0
  refine o2 c F H σ ρ τ θ _ D0 d0 π k m1 ep m2 fun F1 H1 v x l hF1 k1 ev va r0 => ?_
  refine ⟨hk F1 H1 x _ l r0 m3, h2 c F1 H1 σ ρ τ θ _ _ k1 e1 fun F2 H2 vs l2 hF2 k2 r2 => ?_⟩
  have := r2.isFz z
  subst this
  have k3 : Ok X.K c F2 H2 σ ρ (vs ++ τ) (ds ++ θ) := by
    obtain ⟨L, m, a1, a2, a3, a4⟩ := k2.rep
    exact ⟨⟨L, m, a1, r2.append a2, a3, a4⟩, k2.dom, k2.new, k2.sub, k2.fr, k2.gr, k2.pin⟩
  exact k3.mutAt hv r2.length m1 ev (va.same hF2.same) m2 m4 fun H' y k' => q _ _ rfl F2 H' y (hF1.trans hF2).sub k'
/-- .. without arguments -/
theorem de_mmN {p : Rho → Option (List Sg)} (pa : PlainAttrs T) (slot : Slot T name id) (hty : typeOf (.builtin id) = pure (.type "method_descriptor")) (hm : MtR X id r) (hk : KdOk X.K T kd) (hv : VMut X.K r f) (ho : DPl X o i p)
    (hbase : attributeBase o name X.env (eval o X.env) = eval o X.env := by rfl) (hline : (apos.endLine == cpos.line) = true := by rfl) :
    DE X W (.Call (.Attribute o name apos) [] [] cpos) (eMut i kd f p fun _ => some []) := by
  obtain ⟨to, o1, o2⟩ := ho.ex
  refine ⟨_, pe_bm0 pa slot hty hm o1 hbase hline, fun c F H σ ρ τ θ Q rr k e0 q qx => ?_⟩
  obtain ⟨π, ep, e0⟩ := bind_some' e0
  obtain ⟨ds, e1, e0⟩ := bind_some' e0
  obtain ⟨ds0, e1, e2⟩ := bind_some' e1
  obtain ⟨rfl, z⟩ := allFz_some e2
  cases e1
  obtain ⟨D0, d0, d1, dr, m1, m2, m3, m4, rfl⟩ := mAt_some e0
  refine o2 c F H σ ρ τ θ _ D0 d0 π k m1 ep m2 fun F1 H1 v x l hF1 k1 ev va r0 => ?_
  refine ⟨hk F1 H1 x _ l r0 m3, ?_⟩
  exact Ok.mutAt (vs := []) (ds := []) hv k1 rfl m1 ev va m2 m4 fun H' y k' => q _ _ rfl F1 H' y hF1.sub k'
/-- .. of a slot, any arguments -/
theorem de_mm0 {x : Str} {pn : Pos} {n : Nat} {g : Rho → Option (Rs (List D))} (i : Nat) (pa : PlainAttrs T) (slot : Slot T name id) (hty : typeOf (.builtin id) = pure (.type "method_descriptor")) (hm : MtR X id r) (hk : KdOk X.K T kd) (hv : VMut X.K r f) (ha : DEs X W (e :: es) (List.replicate n none) g)
    (hN : X.N[i]? = some x := by rfl) (hv' : Vis X.env.scope x := by first | exact Or.inl rfl | exact Or.inr (Or.inl rfl) | exact Or.inr (Or.inr rfl)) (hd : (x == ("__debug__" : Str)) = false := by decide)
    (hcd : (x == ("__classdict__" : Str)) = false := by decide)
    (hbase : attributeBase (.Name x pn) name X.env (eval (.Name x pn) X.env) = eval (.Name x pn) X.env := by rfl)
    (hfew : ((backTo cpos (starEach (e :: es) X.env)).all (fun x => !x.1) && (backToKw cpos (keywordEach [] X.env)).all (fun x => x.1.isSome)
      && decide ((e :: es).length + ([] : List Keyword).length + (if ([] : List Keyword).isEmpty then 0 else 1) < 30)) = true := by rfl)
    (hline : (apos.endLine == cpos.line) = true := by rfl) (hs : starEach (e :: es) X.env = (false, eval e X.env) :: starEach es X.env := by rfl) (hplain : (backTo cpos (starEach es X.env)).any (·.1) = false := by rfl) :
    DE X W (.Call (.Attribute (.Name x pn) name apos) (e :: es) [] cpos) (eMut0 i kd f g) := by
  obtain ⟨t, h1, h2⟩ := ha.ex
  refine ⟨_, pe_bm pa slot hty hm (pe_var hN hv' hd hcd) h1 hbase hfew hline hs hplain, fun c F H σ ρ τ θ Q rr k e0 q qx => ?_⟩
  unfold eMut0 at e0
  split at e0
  · rename_i D0 e1
    obtain ⟨D1, e2, e00⟩ := bind_some' e0
    obtain ⟨rfl, zk⟩ := kdO_some e2
    obtain ⟨v, l, h3, h4⟩ := k.get e1
    refine ⟨v, h3, hk F H v _ l h4 zk, ?_⟩
    rcases rsB_some e00 with ⟨ds, ρ1, e5, e6⟩ | ⟨C, fs, ρ1, e5, rfl⟩
    · refine h2 c F H σ ρ τ θ _ _ k e5 (fun d' ρ' z F1 H1 vs ws hF1 ad hl k1 => ?_) fun C fs ρ' z => by cases z
      cases z
      have := ad.vals
      subst this
      obtain ⟨D2, d0, d1, dr, m1, m2, m3, m4, rfl⟩ := mAt_some e6
      exact k1.mutAt hv hl m1 h3 .nil m2 m4 fun H' y k' => q _ _ rfl F1 H' y hF1 k'
    · exact h2 c F H σ ρ τ θ _ _ k e5 (fun d ρ' z => by cases z) fun C fs ρ' z F1 H1 q hF1 k1 xr => by
        cases z
        exact qx _ _ _ rfl F1 H1 q hF1 k1 xr
  · cases e0
/-- o[i] = e -/
def rOfSet (rs : TSet) : V → List V → Hp → VK → Prop := fun x vs H Q => ∃ i v, vs = [i, v] ∧ rs x i v H fun H => Q .non H
def kdAll : D → Bool := fun _ => true
def sPut (i : Nat) (f : D → List D → Option (D × D)) (p : Rho → Option (List Sg)) (gi : Rho → Option D) (g : Rho → Option (Rs D)) : Rho → Option Out := fun ρ => oRs (g ρ) fun d ρ1 => (p ρ1).bind fun π => ((gi ρ1).bind fzO).bind fun j => oRs (mAt i kdAll f π [j, d] ρ1) fun _ ρ2 => some (.nx ρ2)
theorem ds_put {P : List Nat} {rs : TSet} {p : Rho → Option (List Sg)} {gi : Rho → Option D} {g : Rho → Option (Rs D)} (hs : PSet X rs) (hv : VMut X.K (rOfSet rs) f) (h : DE X W e g) (ho : DPl X o i p) (hi : DV X e2 gi)
    (ha : ∀ v, assign (.Subscript o e2 p2) X.env v = (do
      let ov ← holding [v] (eval o X.env)
      let iv ← holding [v, ov] (eval e2 X.env)
      standAt p2
      holding [v, ov, iv] (setItem ov iv v)
      release [v, ov, iv] []) := by intro _; rfl)
    (hsw : swapsWithSole [.Subscript o e2 p2] e pos.line X.env = pure false := by rfl) (hw : swappedStores [.Subscript o e2 p2] e X.env = pure none := by rfl)
    (h1 : (assignEach [.Subscript o e2 p2] X.env).map (·.2) = [assign (.Subscript o e2 p2) X.env] := by rfl) : DS X W P (.Assign [.Subscript o e2 p2] e pos) (sPut i f p gi g) := by
  obtain ⟨t, t1, t2⟩ := h.ex
  obtain ⟨to, o1, o2⟩ := ho.ex
  obtain ⟨ti, i1, i2⟩ := hi.ex
  refine ⟨_, ps_asg t1 (pg_sub o1 i1 hs ha) hsw hw h1, fun c F H σ ρ τ θ D0 oo hp k e0 q => ?_⟩
  refine eThen t2 k e0 q fun d ρ' F' H' v hF k' e' q' => ?_
  obtain ⟨π, ep, e'⟩ := bind_some' e'
  obtain ⟨j, ej, e'⟩ := bind_some' e'
  obtain ⟨j', ej, ej'⟩ := bind_some' ej
  obtain ⟨rfl, zj⟩ := fzO_some ej'
  rcases oRs_some e' with ⟨x, ρ2, e6, e7⟩ | ⟨C, fs, ρ2, e6, e7⟩
  · obtain ⟨D1, d0, d1, dr, m1, m2, m3, m4, m5⟩ := mAt_some e6
    cases m5
    cases e7
    refine o2 c F' H' σ ρ' _ _ _ D1 d0 π k' m1 ep m2 fun F1 H1 w x l hF1 k1 ev va r0 => ?_
    refine i2 c F1 H1 σ ρ' _ _ _ _ k1 ej fun F2 H2 y l2 hF2 k2 r2 => ?_
    have := r2.isFz zj
    subst this
    have k3 := k2.push0 r2
    obtain ⟨jv, vv, ee, ff⟩ := Ok.mutAt (vs := [y, v]) (ds := [j, d]) hv k3 rfl m1 ev (va.same hF2.same) m2 m4 (Q := fun _ H' => D0.nx σ H') fun H3 y k' => q' F2 H3 σ (fun a z => (hF1.trans hF2).sub a z) k'.drop
    cases ee
    exact ff
  · obtain ⟨D1, d0, d1, dr, m1, m2, m3, m4, m5⟩ := mAt_some e6
    cases m5
end
/-! ### the changes of lists -/
section
variable {X : Cx} {K : PySem.W.Frag}
theorem Rps.off {F : Addr → Prop} {H : Hp} {a : Addr} {o' : HO} {vs : List V} {ds : List D} {m : List Addr} (r : Rps K F H vs ds m) (h1 : ¬ F a) (h2 : a ∉ m) : Rps K F (upd H a o') vs ds m := r.frame (fun _ z => z) fun b o z q => by
  rw [upd_ne]
  · exact q
  · intro e
    rw [e] at z
    exact z.elim h1 h2
/-- an item is put in the place of another -/
theorem Rps.put {F : Addr → Prop} {H : Hp} {us : List V} {xs : List D} {l l1 : List Addr} {j : Nat} {y : V} {d : D} (r : Rps K F H us xs l) (rd : Rp K F H y d l1) (nd : (l ++ l1).Nodup) (hj : j < xs.length) :
    ∃ L2, Rps K F H (us.set j y) (xs.set j d) L2 ∧ L2.Nodup ∧ ∀ b ∈ L2, b ∈ l ++ l1 := by
  obtain ⟨w, lw, L', g1, g2, p, g3⟩ := r.lens (List.getElem?_eq_getElem hj)
  obtain ⟨L2, q1, q2⟩ := g3 H y d l1 (fun _ _ _ q => q) rd
  have n1 := List.nodup_append.mp nd
  have n2 := List.nodup_append.mp (p.nodup_iff.mp n1.1)
  refine ⟨L2, q1, q2.nodup_iff.mpr (List.nodup_append.mpr ⟨n1.2.1, n2.2.1, fun x hx z hz => ?_⟩), fun b hb => ?_⟩
  · exact fun ee => n1.2.2 z (p.mem_iff.mpr (List.mem_append_right _ hz)) x hx ee.symm
  · rcases List.mem_append.mp (q2.mem_iff.mp hb) with z | z
    · exact List.mem_append_right _ z
    · exact List.mem_append_left _ (p.mem_iff.mpr (List.mem_append_right _ z))
theorem Rp.off {F : Addr → Prop} {H : Hp} {a : Addr} {o' : HO} {v : V} {d : D} {m : List Addr} (r : Rp K F H v d m) (h1 : ¬ F a) (h2 : a ∉ m) : Rp K F (upd H a o') v d m := r.frame (fun _ z => z) fun b o z q => by
  rw [upd_ne]
  · exact q
  · intro e
    rw [e] at z
    exact z.elim h1 h2
/-- the change of a list, where nothing but none is returned -/
theorem mutL_end {F : Addr → Prop} {H : Hp} {a : Addr} {us' : List V} {xs' : List D} {l m l' : List Addr} {Q : VK} (nd : ((a :: l) ++ m).Nodup) (rs : Rps K F (upd H a (.lst us')) us' xs' l') (hn : l'.Nodup) (hs : ∀ b ∈ l', b ∈ l ++ m)
    (q : ∀ (b : Addr) (o' : HO) (l1 lr : List Addr) (v : V), b ∈ a :: l → (∀ b ∈ l1 ++ lr, b ∈ (a :: l) ++ m) → (l1 ++ lr).Nodup → Rp K F (upd H b o') (.ref a) (.lst true xs') l1 → Rp K F (upd H b o') v .non lr → Q v (upd H b o')) : Q .non (upd H a (.lst us')) := by
  have nd : (a :: (l ++ m)).Nodup := nd
  have ndc := List.nodup_cons.mp nd
  refine q a _ (a :: l') [] .non List.mem_cons_self (fun b z => ?_) ?_ (.lstO upd_same rs) .non
  · rw [List.append_nil] at z
    show b ∈ a :: (l ++ m)
    rcases List.mem_cons.mp z with z | z
    · rw [z]; exact List.mem_cons_self
    · exact List.mem_cons_of_mem _ (hs b z)
  · rw [List.append_nil]
    exact List.nodup_cons.mpr ⟨fun z => ndc.1 (hs a z), hn⟩
theorem nd_off {a : Addr} {l m : List Addr} (nd : ((a :: l) ++ m).Nodup) : a ∉ l ∧ a ∉ m ∧ (l ++ m).Nodup := by
  have nd : (a :: (l ++ m)).Nodup := nd
  have ndc := List.nodup_cons.mp nd
  exact ⟨fun z => ndc.1 (List.mem_append_left _ z), fun z => ndc.1 (List.mem_append_right _ z), ndc.2⟩
theorem Rps.one_inv {F : Addr → Prop} {H : Hp} {vs : List V} {d : D} {m : List Addr} (r : Rps K F H vs [d] m) : ∃ y, vs = [y] ∧ Rp K F H y d m := by
  cases r with
  | cons rd r0 =>
    cases r0
    rename_i y l1
    exact ⟨y, rfl, by rw [List.append_nil]; exact rd⟩
theorem Rps.two_inv {F : Addr → Prop} {H : Hp} {vs : List V} {i : Int} {d : D} {m : List Addr} (r : Rps K F H vs [.int i, d] m) : ∃ y, vs = [.int i, y] ∧ Rp K F H y d m := by
  cases r with
  | cons ri r0 =>
    cases ri
    obtain ⟨y, rfl, r1⟩ := r0.one_inv
    exact ⟨y, rfl, r1⟩
theorem Rp.lstO_inv {F : Addr → Prop} {H : Hp} {x : V} {xs : List D} {l0 : List Addr} (r : Rp K F H x (.lst true xs) l0) : ∃ a us l, x = .ref a ∧ l0 = a :: l ∧ H a = some (.lst us) ∧ Rps K F H us xs l := by
  cases r with
  | lstO ha ra => exact ⟨_, _, _, rfl, rfl, ha, ra⟩
def fAppend : D → List D → Option (D × D)
  | .lst true xs, [d] => if xs.length < sizeLine then some (.lst true (xs ++ [d]), .non) else none
  | _, _ => none
theorem v_append : VMut K rAppend fAppend := fun F H x d0 l0 vs ds m d1 dr Q dom rx rs nd nF e q => by
  unfold fAppend at e
  split at e
  · split at e
    · rename_i xs d z
      cases e
      obtain ⟨a, us, l, rfl, rfl, ha, ra⟩ := rx.lstO_inv
      obtain ⟨y, rfl, rd⟩ := rs.one_inv
      obtain ⟨n1, n2, n3⟩ := nd_off nd
      have nFa : ¬ F a := nF a List.mem_cons_self
      refine ⟨a, us, y, rfl, rfl, ha, by rw [ra.length]; exact z, ?_⟩
      exact mutL_end nd ((ra.off nFa n1).append (.one (rd.off nFa n2))) n3 (fun b z => z) q
    · cases e
  · cases e
def fPutL : D → List D → Option (D × D)
  | .lst true xs, [.int i, d] => (ixN xs.length i).map fun j => (.lst true (xs.set j d), .non)
  | _, _ => none
theorem v_putL : VMut K (rOfSet rSetL) fPutL := fun F H x d0 l0 vs ds m d1 dr Q dom rx rs nd nF e q => by
  unfold fPutL at e
  split at e
  · rename_i xs i d
    obtain ⟨j, ej, e⟩ := map_some' e
    cases e
    obtain ⟨a, us, l, rfl, rfl, ha, ra⟩ := rx.lstO_inv
    obtain ⟨y, rfl, rd⟩ := rs.two_inv
    obtain ⟨n1, n2, n3⟩ := nd_off nd
    have nFa : ¬ F a := nF a List.mem_cons_self
    obtain ⟨_, h2, _, _⟩ := ixN_seq ej
    refine ⟨.int i, y, rfl, a, us, i, j, rfl, rfl, ha, by rw [ra.length]; exact ej, ?_⟩
    obtain ⟨L2, q1, q2, q3⟩ := (ra.off (o' := .lst (us.set j y)) nFa n1).put (rd.off nFa n2) n3 h2
    exact mutL_end nd q1 q2 q3 q
  · cases e
end
end DL

set_option Elab.async false
set_option linter.all false
set_option maxRecDepth 100000
set_option maxHeartbeats 4000000
/-! DLN: int(text) of any length that the digit limit lets pass; join, split, index. -/
namespace DL
open PySem PySem.Spec PyProof.Rows L2
section
open PySem.W PySem.NumText PySem.Calls
abbrev digitsKey : Str := "sys.int_max_str_digits"
theorem looks_max {K : PySem.W.Frag} {M : Model} {h : Heap} (x : K.In h) (e : nsIn K cStatics digitsKey = some none) : Looks M h Builtin.intMaxStrDigits 4300 := Looks.andThen (looks_nsIn x e) .now
theorem wp_textL {M : Model} {A : Around} {E : Value → Shared → Prop} {s : Shared} {Q : Value → Shared → Prop} {v : Value} {text : List Nat} {n : Int} (hL : ∀ Q : Nat → Shared → Prop, Q 4300 s → wpAny M A Builtin.intMaxStrDigits Q E s)
    (hs : ¬ (text.takeWhile (· != 0)).length ≤ 640) (hr : (int_private% "readNumeral") 4300 10 (text.takeWhile (· != 0)) = (int_private% "Numeral.value") n)
    (ha : ((text.takeWhile (· != 0)).length == text.length) = true) (h : Q (.int n s.toks) { s with toks := s.toks + 1 }) :
    wpAny M A ((int_private% "intFromText") v text 10) Q E s := by
  obtain ⟨hp, g, d, tk, os⟩ := s
  repeat (any_goals (first
    | assumption
    | (with_reducible refine wpAny_ite_false (decide_eq_false hs) ?_)
    | (with_reducible refine wpAny_ite_true (decide_eq_true ha) ?_)
    | (with_reducible refine hL _ ?_)
    | wp_step))
  all_goals (try rw [hr])
  all_goals (try dsimp only)
  repeat (any_goals (first
    | assumption
    | (with_reducible refine wpAny_ite_true (decide_eq_true ha) ?_)
    | wp_step))
structure HidL (p : Prop) : Prop where
  out : p
theorem gives_textL {x : PySem.Str} {u : Tok} {n : Int} (hl : x.length ≤ sizeLine) (hL : ¬ (numSeenOf x).length ≤ 640) (hn : PySem.intText? x = some n) :
    Meets (Builtin.«int.__new__» ⟨[.type "int", .str x u], []⟩) (fun _ R s => (∀ (M : Model) (A : Around) (E : Value → Shared → Prop) (Q : Nat → Shared → Prop), Q 4300 s → wpAny M A Builtin.intMaxStrDigits Q E s) ∧ R (.ok (.ret (.int n s.toks))) { s with toks := s.toks + 1 }) := by
  refine .of_wp fun prog w A R s hh => ?_
  obtain ⟨hM, h⟩ := hh
  obtain ⟨hp, g, d, tk, os⟩ := s
  have f1 := F.conv_sub_int
  have f2 := F.madeHere_int
  have f3 := KIN.str_int
  have f4 := KIN.str_idx
  have f5 := KIN.str_trunc
  have f6 : typeOf (.str x u) = pure (.type "str") := rfl
  have hr : (int_private% "readNumeral") 4300 10 (numSeenOf x) = (int_private% "Numeral.value") n ∧ ((numSeenOf x).length == (numTextOf x).length) = true := by
    rcases read4300 x hl with ⟨m, h1, h2, h3⟩ | ⟨h1, _⟩
    · rw [hn] at h1
      injection h1 with h1
      subst h1
      exact ⟨h3, h2⟩
    · rw [hn] at h1
      cases h1
  have hk := HidL.mk (And.intro hL hr)
  have hk2 := HidL.mk hM
  clear hL hr hl hn hM
  repeat (any_goals (first
    | assumption
    | ((with_reducible show wpAny _ _ ((int_private% "intFromText") _ _ _) _ _ _); refine wp_textL (hk2.out _ _ _) hk.out.1 hk.out.2.1 hk.out.2.2 ?_)
    | wp_step))
  all_goals first | exact ⟨_, rfl, h⟩ | skip
end
section
variable {X : Cx}
/-- int(text), up to 4300 digits -/
def rIntText : List V → Hp → VK → Prop := fun xs H Q => ∃ a n, xs = [.str a] ∧ PySem.intText? a = some n ∧ a.cps.all (· < 128) = true ∧ a.length ≤ sizeLine ∧ Q (.int n) H
theorem cr_intText (hd : PySem.W.nsIn X.K cStatics digitsKey = some none) : CallR X (.type "int") rIntText := by
  intro pins s σ H xs us Q I rs h
  obtain ⟨a, n, rfl, hn, h8, hl, h⟩ := h
  cases rs with
  | cons r1 rs =>
    cases rs
    obtain ⟨t, rfl⟩ := r1
    by_cases h6 : a.length ≤ 640
    · exact PySem.W.KIN.call_text hn h6 ⟨.int n, H, I.tok _, ⟨_, rfl⟩, h⟩
    · have h7 : ¬ (numSeenOf a).length ≤ 640 := fun z => by
        have e : ((numSeenOf a).length == (numTextOf a).length) = true := by
          unfold PySem.intText? at hn
          by_cases q : ((numSeenOf a).length == (numTextOf a).length) = true
          · exact q
          · rw [if_neg q] at hn
            exact nomatch hn
        have e1 : numTextOf a = a.cps.toList := if_pos h8
        have e2 : (numSeenOf a).length = a.length := by
          rw [eq_of_beq e, e1]
          exact Array.length_toList
        omega
      refine PySem.call_int_1 (gives_textL hl h7 hn) ⟨fun M A E Q q => looks_max I.kIn hd A Q E s (fun _ _ z => z) q, ?_⟩
      exact ⟨rfl, ⟨.int n, H, I.tok _, ⟨_, rfl⟩, h⟩⟩

def fIntT : List D → Option D
  | [.str a] => if a.cps.all (· < 128) = true ∧ a.length ≤ sizeLine then (PySem.intText? a).map .int else none
  | _ => none
theorem v_intT {K : PySem.W.Frag} : VXN K rIntText fIntT := fun F H vs ds d l Q dom r e q => by
  unfold fIntT at e
  split at e
  · split at e
    · rename_i a z
      obtain ⟨n, e1, rfl⟩ := map_some' e
      obtain ⟨v, rfl, r1⟩ := r.inv1
      have := r1.str_inv
      subst this
      exact ⟨a, n, rfl, e1, z.1, z.2, q.flat dom (.int _)⟩
    · cases e
  · cases e
/-! ### join, split, index -/
def rJoin (K : PySem.W.Frag) : V → List V → Hp → VK → Prop := fun x xs H Q => ∃ a p, ∃ ys : List Str, x = .str a ∧ xs = [.ref p] ∧ (SqL K H p (ys.map V.str) ∨ SqT K H p (ys.map V.str)) ∧ (ys.map (·.length)).sum + ys.length * a.length ≤ 16777216 ∧ Q (.str (Txt.join a ys)) H
theorem mt_joinD : MtR X "str.join" (rJoin X.K) := mt_join
def joinD (a : Str) (ys : List Str) : Option D := if (ys.map (·.length)).sum + ys.length * a.length ≤ 16777216 then some (.str (Txt.join a ys)) else none
def fJoin : D → List D → Option D
  | .str a, [.lst _ xs] => (asStrs xs).bind (joinD a)
  | .str a, [.tup xs] => (asStrs xs).bind (joinD a)
  | _, _ => none
theorem joinD_some {a : Str} {ys : List Str} {d : D} (h : joinD a ys = some d) : (ys.map (·.length)).sum + ys.length * a.length ≤ 16777216 ∧ d = .str (Txt.join a ys) := by
  unfold joinD at h
  split at h
  · rename_i z
    cases h
    exact ⟨z, rfl⟩
  · cases h
theorem v_join {K : PySem.W.Frag} : VXM K (rJoin K) fJoin := fun F H x d0 l0 vs ds d l Q dom r0 r e q => by
  unfold fJoin at e
  split at e
  · obtain ⟨ys, e1, e2⟩ := bind_some' e
    obtain ⟨z, rfl⟩ := joinD_some e2
    obtain ⟨v, rfl, r1⟩ := r.inv1
    obtain ⟨a, us, m, rfl, ha, ra⟩ := r1.lstAt
    have := asStrs_rps e1 ra
    subst this
    exact ⟨_, _, ys, r0.str_inv, rfl, .inl (.inl (.inl ha)), z, q.flat dom (.str _)⟩
  · obtain ⟨ys, e1, e2⟩ := bind_some' e
    obtain ⟨z, rfl⟩ := joinD_some e2
    obtain ⟨v, rfl, r1⟩ := r.inv1
    obtain ⟨a, us, m, rfl, ha, ra⟩ := r1.tupAt
    have := asStrs_rps e1 ra
    subst this
    exact ⟨_, _, ys, r0.str_inv, rfl, .inr (.inl (.inl ha)), z, q.flat dom (.str _)⟩
  · cases e
def rSplit : V → List V → Hp → VK → Prop := fun x xs H Q => ∃ a b, x = .str a ∧ xs = [.str b] ∧ (b.length == 0) = false ∧ a.length + 2 ≤ sizeLine ∧ rNewStrs (Txt.split a b) H Q
theorem mt_splitD : MtR X "str.split" rSplit := mt_split
def fSplit : D → List D → Option D
  | .str a, [.str b] => if (b.length == 0) = false ∧ a.length + 2 ≤ sizeLine then some (.lst true ((Txt.split a b).map .str)) else none
  | _, _ => none
theorem Rps.strs {K : PySem.W.Frag} {F : Addr → Prop} {H : Hp} : ∀ ys : List Str, Rps K F H (ys.map V.str) (ys.map D.str) []
  | [] => .nil
  | y :: ys => .cons (l := []) (m := []) (.str y) (Rps.strs ys)
theorem v_split {K : PySem.W.Frag} : VXM K rSplit fSplit := fun F H x d0 l0 vs ds d l Q dom r0 r e q => by
  unfold fSplit at e
  split at e
  · split at e
    · rename_i a b z
      cases e
      obtain ⟨v, rfl, r1⟩ := r.inv1
      have := r1.str_inv
      subst this
      exact ⟨a, b, r0.str_inv, rfl, z.1, z.2, fun p hp => q.lst dom (.strs _) hp⟩
    · cases e
  · cases e
def rIndexS : V → List V → Hp → VK → Prop := fun x xs H Q => ∃ (a b : Str) (k : Nat), x = .str a ∧ xs = [.str b] ∧ Txt.index0 a b = some k ∧ Q (.int (k : Nat)) H
theorem mt_indexS : MtR X "str.index" rIndexS := by
  intro pins s σ H x xs v us Q I rx rs h
  obtain ⟨a, b, k, rfl, rfl, e, h⟩ := h
  obtain ⟨t, rfl⟩ := rx
  cases rs with
  | cons r1 rs =>
    cases rs
    obtain ⟨u, rfl⟩ := r1
    cases q : Builtin.Str.occurrences a b 0 a.length 1 with
    | nil => unfold Txt.index0 at e; rw [q] at e; cases e
    | cons k' rest =>
      have e' : k' = k := by unfold Txt.index0 at e; rw [q] at e; exact Option.some.inj e
      subst e'
      exact PySem.SC.index q ⟨.int (k' : Nat), H, I.tok _, ⟨_, rfl⟩, h⟩
def fIndexS : D → List D → Option D
  | .str a, [.str b] => (Txt.index0 a b).map fun k => .int (k : Nat)
  | _, _ => none
theorem v_indexS {K : PySem.W.Frag} : VXM K rIndexS fIndexS := fun F H x d0 l0 vs ds d l Q dom r0 r e q => by
  unfold fIndexS at e
  split at e
  · rename_i a b
    obtain ⟨k, e1, rfl⟩ := map_some' e
    obtain ⟨v, rfl, r1⟩ := r.inv1
    have := r1.str_inv
    subst this
    exact ⟨a, b, k, r0.str_inv, rfl, e1, q.flat dom (.int _)⟩
  · cases e
end
end DL

set_option Elab.async false
set_option linter.all false
set_option maxRecDepth 100000
set_option maxHeartbeats 4000000
/-! DLO: defs that may be called, by what they denote. -/
namespace DL
open PySem PySem.Spec PyProof.Rows L2
/-- a def as the module has written it -/
structure Df (K : PySem.W.Frag) (mg : Str → Option Value) (x : Str) (st : Stmt) (ps : List Str) (f : Addr) (fd : FuncData) : Prop where
  fn : Fun K x x st f fd
  mgf : mg x = some (.ref f)
  b : Binds K fd ps []
/-- a def that may be called by its name -/
structure Cl (P : Program) (w : World) (K : PySem.W.Frag) (mg : Str → Option Value) (base : Heap) (k : Nat) (x : Str) (fn : List D → Option Rd) : Prop where
  ex : ∃ (f : Addr) (fd : FuncData) (ps : List Str), FnOk P w K mg base (L2.CX P w) k f fd ps (Prom K fn) ∧ mg x = some (.ref f) ∧ PySem.W.keepIn K (.ref f) = true ∧ Binds K fd ps []
section
variable {P : Program} {w : World} {K : PySem.W.Frag} {mg : Str → Option Value} {base : Heap} {x : Str} {fn fn' : List D → Option Rd} {j k n m : Nat} {f : Addr} {fd : FuncData} {st : Stmt} {N ps : List Str} {pin : List Nat} {g : Rho → Option Out}
theorem Prom.imp (h : ∀ ds r, fn' ds = some r → fn ds = some r) {vs : List V} {H : Hp} {Q : VK} {E : XK} (p : Prom K fn' vs H Q E) : Prom K fn vs H Q E := by
  obtain ⟨F, ds, l0, r, gv, e, q⟩ := p
  exact ⟨F, ds, l0, r, gv, h _ _ e, q⟩
theorem Cl.imp (c : Cl P w K mg base k x fn) (h : ∀ ds r, fn' ds = some r → fn ds = some r) : Cl P w K mg base k x fn' := by
  obtain ⟨f, fd, ps, F, r⟩ := c.ex
  exact ⟨f, fd, ps, F.imp fun vs H Q E p => p.imp h, r⟩
theorem Cl.mono (c : Cl P w K mg base j x fn) (h : j ≤ k) : Cl P w K mg base k x fn := by
  obtain ⟨f, fd, ps, F, r⟩ := c.ex
  exact ⟨f, fd, ps, F.mono h, r⟩
theorem cl_of (d : Df K mg x st ps f fd) (S : FnScope N ps (defScope st)) (hn : ps.length = n) (hm : N.length = n + m)
    (hbody : ∀ (cdv : Value) (A : Around) (outer : List Env) (s : Shared) (H : Hp) (E : XK), Room k (A.deeper (envOfC x (defScope st) s.heap.objs.size f cdv)) → DSs (cxOf (L2.CX P w) P w K mg base N x (defScope st) f cdv A outer s H E) (Wf E) pin (defBody st) g) : Cl P w K mg base (k + 1) x (runF n m pin g) :=
  ⟨f, fd, ps, fn_den d.fn S hn hm hbody, d.mgf, d.fn.kp, d.b⟩
/-- without fuel nothing is promised -/
theorem cl_none (d : Df K mg x st ps f fd) (S : FnScope N ps (defScope st)) (hn : ps.length = n) (hm : N.length = n + m) : Cl P w K mg base 1 x (fun _ => none) :=
  ⟨f, fd, ps, d.fn.okX S (fun vs H Q E h => by
    obtain ⟨F, ds, l0, r, gv, e, q⟩ := h
    cases e) (fun cdv A outer s H vs Q E hr h => by
    obtain ⟨F, ds, l0, r, gv, e, q⟩ := h
    cases e), d.mgf, d.fn.kp, d.b⟩
end
section
variable {X : Cx} {W : WX} {x : Str} {p pos : Pos} {e : Expr} {es : List Expr} {j k : Nat} {fn : List D → Option Rd}
theorem de_c {bk : List (Option Nat)} {g : Rho → Option (Rs (List D))} (c : Cl X.prog X.w X.K X.mg X.base k x fn) (hr : Room j X.A) (hx : ∀ σ, PassesAt (L2.CX X.prog X.w) X σ (WE W σ)) (ha : DEs X W (e :: es) bk g) (hk : k ≤ j := by first | exact Nat.le_refl _ | omega) (hg : Gl X x := by rfl)
    (hdb : (x == ("__debug__" : Str)) = false := by decide) (he : starEach (e :: es) X.env = (false, eval e X.env) :: starEach es X.env := by rfl) (hpl : (backTo pos (starEach es X.env)).any (·.1) = false := by rfl) :
    DE X W (.Call (.Name x p) (e :: es) [] pos) (eCall fn bk g) := by
  obtain ⟨f, fd, ps, Fo, hm, kp, b⟩ := c.ex
  exact de_call Fo (hr.mono hk) hg hm kp b hx ha hdb he hpl
theorem dn_c {g : Rho → Option (List D)} (c : Cl X.prog X.w X.K X.mg X.base k x fn) (hr : Room j X.A) (hx : ∀ σ, PassesAt (L2.CX X.prog X.w) X σ (WE W σ)) (ha : DVs X (e :: es) g) (hk : k ≤ j := by first | exact Nat.le_refl _ | omega) (hg : Gl X x := by rfl)
    (hdb : (x == ("__debug__" : Str)) = false := by decide) (he : starEach (e :: es) X.env = (false, eval e X.env) :: starEach es X.env := by rfl) (hpl : (backTo pos (starEach es X.env)).any (·.1) = false := by rfl) :
    DN X W (.Call (.Name x p) (e :: es) [] pos) (gCall fn g) := by
  obtain ⟨f, fd, ps, Fo, hm, kp, b⟩ := c.ex
  exact dn_call Fo (hr.mono hk) hg hm kp b hx ha hdb he hpl
end
/-! ### words for the printed terms -/
section
variable {X : Cx} {W : WX}
theorem kset_append : True := trivial
end
end DL

set_option Elab.async false
set_option linter.all false
set_option maxRecDepth 100000
set_option maxHeartbeats 4000000
/-! DLP: one of two readings; calls with looks whose result holds no address; freezing; words for builtins. -/
namespace DL
open PySem PySem.Spec PyProof.Rows L2
def orO {α : Type} (g h : Rho → Option α) : Rho → Option α := fun ρ => match g ρ with
  | some r => some r
  | none => h ρ
theorem orO_some {α : Type} {g h : Rho → Option α} {ρ : Rho} {r : α} (e : orO g h ρ = some r) : g ρ = some r ∨ h ρ = some r := by
  unfold orO at e
  split at e
  · rename_i x e1
    cases e
    exact .inl e1
  · exact .inr e
section
variable {X : Cx} {W : WX} {e tg : Expr}
theorem pe_or2 {t u : TE} (h : PE X e t) (h' : PE X e u) : PE X e (fun σ H Q => t σ H Q ∨ u σ H Q) := ⟨fun pins s σ H Q I q => q.elim (h.run pins s σ H Q I) (h'.run pins s σ H Q I)⟩
theorem DV.or {g h : Rho → Option D} (x : DV X e g) (y : DV X e h) : DV X e (orO g h) := by
  obtain ⟨t, h1, h2⟩ := x.ex
  obtain ⟨u, u1, u2⟩ := y.ex
  exact ⟨_, pe_or2 h1 u1, fun c F H σ ρ τ θ Q d k e q => (orO_some e).imp (fun e => h2 c F H σ ρ τ θ Q d k e q) fun e => u2 c F H σ ρ τ θ Q d k e q⟩
theorem DN.or {g h : Rho → Option (Xs D)} (x : DN X W e g) (y : DN X W e h) : DN X W e (orO g h) := by
  obtain ⟨t, h1, h2⟩ := x.ex
  obtain ⟨u, u1, u2⟩ := y.ex
  exact ⟨_, pe_or2 h1 u1, fun c F H σ ρ τ θ Q r k e q qx => (orO_some e).imp (fun e => h2 c F H σ ρ τ θ Q r k e q qx) fun e => u2 c F H σ ρ τ θ Q r k e q qx⟩
theorem DE.or {g h : Rho → Option (Rs D)} (x : DE X W e g) (y : DE X W e h) : DE X W e (orO g h) := by
  obtain ⟨t, h1, h2⟩ := x.ex
  obtain ⟨u, u1, u2⟩ := y.ex
  exact ⟨_, pe_or2 h1 u1, fun c F H σ ρ τ θ Q r k e q qx => (orO_some e).imp (fun e => h2 c F H σ ρ τ θ Q r k e q qx) fun e => u2 c F H σ ρ τ θ Q r k e q qx⟩
theorem DI.or {g h : Rho → Option (Rs (List D))} (x : DI X W tg e g) (y : DI X W tg e h) : DI X W tg e (orO g h) := by
  obtain ⟨t, h1, h2⟩ := x.ex
  obtain ⟨u, u1, u2⟩ := y.ex
  exact ⟨fun σ H R => t σ H R ∨ u σ H R, ⟨fun pins s σ H R I q => q.elim (h1.run pins s σ H R I) (u1.run pins s σ H R I)⟩, fun c F H σ ρ τ θ R r k e q qx => (orO_some e).imp (fun e => h2 c F H σ ρ τ θ R r k e q qx) fun e => u2 c F H σ ρ τ θ R r k e q qx⟩
theorem DIv.or {g h : Rho → Option (List D)} (x : DIv X tg e g) (y : DIv X tg e h) : DIv X tg e (orO g h) := by
  obtain ⟨t, h1, h2⟩ := x.ex
  obtain ⟨u, u1, u2⟩ := y.ex
  exact ⟨fun σ H R => t σ H R ∨ u σ H R, ⟨fun pins s σ H R I q => q.elim (h1.run pins s σ H R I) (u1.run pins s σ H R I)⟩, fun c F H σ ρ τ θ R r k e q => (orO_some e).imp (fun e => h2 c F H σ ρ τ θ R r k e q) fun e => u2 c F H σ ρ τ θ R r k e q⟩
/-- a list, a tuple or a text is walked -/
def iSeq (g : Rho → Option (Rs D)) : Rho → Option (Rs (List D)) := fun ρ => rsB (g ρ) fun d ρ1 => match d with
  | .lst _ xs => some (.ok xs ρ1)
  | .tup xs => some (.ok xs ρ1)
  | .str x => some (.ok (signs x) ρ1)
  | _ => none
def jSeq (g : Rho → Option D) : Rho → Option (List D) := fun ρ => (g ρ).bind fun
  | .lst _ xs => some xs
  | .tup xs => some xs
  | .str x => some (signs x)
  | _ => none
theorem DI.eq {g h : Rho → Option (Rs (List D))} (x : DI X W tg e g) (z : ∀ ρ r, h ρ = some r → g ρ = some r) : DI X W tg e h := by
  obtain ⟨t, h1, h2⟩ := x.ex
  exact ⟨t, h1, fun c F H σ ρ τ θ R r k e q qx => h2 c F H σ ρ τ θ R r k (z _ _ e) q qx⟩
theorem DIv.eq {g h : Rho → Option (List D)} (x : DIv X tg e g) (z : ∀ ρ r, h ρ = some r → g ρ = some r) : DIv X tg e h := by
  obtain ⟨t, h1, h2⟩ := x.ex
  exact ⟨t, h1, fun c F H σ ρ τ θ R r k e q => h2 c F H σ ρ τ θ R r k (z _ _ e) q⟩
theorem di_seq {g : Rho → Option (Rs D)} (h : DE X W e g) : DI X W tg e (iSeq g) := ((di_list h).or ((di_tup h).or (di_str h))).eq fun ρ r z => by
  unfold iSeq at z
  unfold orO iLst iTup iStr
  cases q : g ρ with
  | none => rw [q] at z; cases z
  | some rr =>
    rw [q] at z
    cases rr with
    | ex C fs ρ1 => cases z; rfl
    | ok d ρ1 => cases d <;> first | (cases z; rfl) | (cases z)
theorem div_seq {g : Rho → Option D} (h : DV X e g) : DIv X tg e (jSeq g) := ((div_list h).or ((div_tup h).or (div_str h))).eq fun ρ r z => by
  unfold jSeq at z
  unfold orO jLst jTup jStr
  cases q : g ρ with
  | none => rw [q] at z; cases z
  | some d =>
    rw [q] at z
    cases d <;> first | (cases z; rfl) | (cases z)
end
/-! ### calls with looks -/
mutual
def flat : D → Bool
  | .non => true
  | .bl _ => true
  | .int _ => true
  | .str _ => true
  | .ty _ => true
  | _ => false
end
def flatO (d : D) : Option D := if flat d = true then some d else none
def flatX : Rd → Option (Xs D)
  | .ok d _ => (flatO d).map .ok
  | .ex C fs _ => if fs.all (fun p => flat p.2) = true then some (.ex C fs) else none
def gCallV (fn : List D → Option Rd) (g : Rho → Option (List D)) : Rho → Option (Xs D) := fun ρ => (g ρ).bind fun ds => (fn (fzs ds)).bind flatX
theorem Rp.flat {K : PySem.W.Frag} {F F' : Addr → Prop} {H : Hp} {v : V} {d : D} {l : List Addr} (r : Rp K F H v d l) (z : flat d = true) : Rp K F' H v d [] := by
  cases r <;> first | (cases z; done) | constructor
theorem Rps.flat {K : PySem.W.Frag} {F F' : Addr → Prop} {H : Hp} : ∀ {vs : List V} {ds : List D} {l : List Addr}, Rps K F H vs ds l → ds.all DL.flat = true → Rps K F' H vs ds []
  | _, _, _, .nil, _ => .nil
  | _, _, _, .cons r rs, z => by
    rw [List.all_cons, Bool.and_eq_true] at z
    exact .cons (l := []) (m := []) (r.flat z.1) (Rps.flat rs z.2)
theorem XRep.flat {K : PySem.W.Frag} {F F' : Addr → Prop} {H : Hp} {q : Option Addr} {fs : List (Str × D)} (x : XRep K F H q fs) (z : fs.all (fun p => DL.flat p.2) = true) : XRep K F' H q fs := by
  cases q with
  | none => exact x
  | some q =>
    obtain ⟨fvs, h1, h2, h3⟩ := x
    exact ⟨fvs, h1, h2, h3.flat (by rw [List.all_map]; exact z)⟩
section
variable {X : Cx} {W : WX} {x : Str} {p pos : Pos} {e : Expr} {es : List Expr} {j k : Nat} {f : Addr} {fd : FuncData} {ps : List Str} {fn : List D → Option Rd}
theorem promV_of {c : Cn} {F1 : Addr → Prop} {H1 : Hp} {σ : L2.St} {ρ : Rho} {τ : List V} {θ : List D} {vs : List V} {ds : List D} {l : List Addr} {Q : VK} {E : XK} {rd : Rd} {r : Xs D} (k1 : Ok X.K c F1 H1 σ ρ τ θ) (r1 : Rps X.K F1 H1 vs ds l) (e2 : fn (fzs ds) = some rd) (e3 : flatX rd = some r)
    (q : ∀ d, r = .ok d → ∀ (F' : Addr → Prop) (H' : Hp) (v : V), Ext F1 H1 F' H' → Ok X.K c F' H' σ ρ τ θ → Rp X.K F' H' v d [] → Q v H')
    (qx : ∀ C fs, r = .ex C fs → ∀ (F' : Addr → Prop) (H' : Hp) (q : Option Addr), Ext F1 H1 F' H' → Ok X.K c F' H' σ ρ τ θ → XRep X.K F' H' q fs → E (.ref C) q H') : Prom X.K fn vs H1 Q E := by
  have gv : Give X.K (fun a => F1 a ∨ a ∈ l) H1 [] vs (fzs ds) := ⟨r1.freeze (fun a f => .inl f) fun a z => .inr z, List.nodup_nil, fun _ z => (nomatch z), fun a f => f.elim (k1.dom a) (r1.dom a)⟩
  have ext : ∀ {F' : Addr → Prop} {H' : Hp} {ws : List V} {es : List D}, Back X.K (fun a => F1 a ∨ a ∈ l) H1 [] F' H' ws es → Ext F1 H1 (fun a => F1 a ∨ (F' a ∧ H1 a = none)) H' ∧ ∀ a, (F1 a ∨ (F' a ∧ H1 a = none)) → H' a ≠ none := fun {F' H' ws es} B => by
    have s : Same H1 H' := fun a o q => B.fr a o q (fun z => nomatch z)
    exact ⟨⟨fun a z => .inl z, fun a z => z.imp id And.right, s⟩, fun a z => z.elim (fun z y => k1.dom a z (s.free y)) fun z => B.dom a z.1⟩
  refine ⟨_, _, [], rd, gv, e2, fun d b z F' H' v B => ?_, fun C fs b z F' H' xq B xr => ?_⟩
  · subst z
    obtain ⟨d', e4, rfl⟩ := map_some' e3
    have ed : d' = d ∧ flat d = true := by
      unfold flatO at e4
      split at e4
      · rename_i z
        cases e4
        exact ⟨rfl, z⟩
      · cases e4
    obtain ⟨rfl, zf⟩ := ed
    obtain ⟨hx, dom⟩ := ext B
    obtain ⟨l', r, nd, nw⟩ := B.rep
    cases r with
    | cons r r' => exact q _ rfl _ H' v hx (k1.grow hx dom) (r.flat zf)
  · subst z
    have e3 : (if fs.all (fun p => flat p.2) = true then some (Xs.ex (α := D) C fs) else none) = some r := e3
    split at e3
    · rename_i z
      cases e3
      obtain ⟨hx, dom⟩ := ext B
      exact qx _ _ rfl _ H' xq hx (k1.grow hx dom) (xr.flat z)
    · cases e3
/-- a call with looks, its result bears no address -/
theorem dn_cV {g : Rho → Option (List D)} (c : Cl X.prog X.w X.K X.mg X.base k x fn) (hr : Room j X.A) (hx : ∀ σ, PassesAt (L2.CX X.prog X.w) X σ (WE W σ)) (ha : DVs X (e :: es) g) (hk : k ≤ j := by first | exact Nat.le_refl _ | omega) (hg : Gl X x := by rfl)
    (hdb : (x == ("__debug__" : Str)) = false := by decide) (he : starEach (e :: es) X.env = (false, eval e X.env) :: starEach es X.env := by rfl) (hpl : (backTo pos (starEach es X.env)).any (·.1) = false := by rfl) :
    DN X W (.Call (.Name x p) (e :: es) [] pos) (gCallV fn g) := by
  obtain ⟨f, fd, ps, Fo, hm, kp, b⟩ := c.ex
  obtain ⟨t, h1, h2⟩ := ha.ex
  refine ⟨_, pe_callS Fo (hr.mono hk) hg hm kp b hx h1 hdb he hpl, fun c F H σ ρ τ θ Q r k e0 q qx => ?_⟩
  obtain ⟨ds, e1, e0⟩ := bind_some' e0
  obtain ⟨rd, e2, e3⟩ := bind_some' e0
  refine h2 c F H σ ρ τ θ _ _ k e1 fun F1 H1 vs l hF1 k1 r1 => ?_
  refine promV_of k1 r1 e2 e3 (fun d z F' H' v hx k' r => ?_) fun C fs z F' H' x hx k' xr => ?_
  · exact q _ z F' H' v [] (hF1.trans hx) k' r List.nodup_nil fun _ z => nomatch z
  · exact qx _ _ z F' H' x (hF1.trans hx) k' xr
/-- the value is frozen -/
def eFz (g : Rho → Option (Rs D)) : Rho → Option (Rs D) := fun ρ => (g ρ).map fun
  | .ok d ρ1 => .ok (fz d) ρ1
  | .ex C fs ρ1 => .ex C fs ρ1
theorem DE.fz {g : Rho → Option (Rs D)} (h : DE X W e g) : DE X W e (eFz g) := by
  obtain ⟨t, h1, h2⟩ := h.ex
  refine ⟨t, h1, fun c F H σ ρ τ θ Q r k e0 q qx => ?_⟩
  obtain ⟨x, e1, rfl⟩ := map_some' e0
  refine h2 c F H σ ρ τ θ Q x k e1 (fun d ρ' z F' H' v hF k' => ?_) fun C fs ρ' z F' H' xq hF k' xr => ?_
  · subst z
    obtain ⟨F2, hF2, r2, k2⟩ := k'.freezeTop
    exact q _ _ rfl F2 H' v (fun a z => hF2 a (hF a z)) (k2.push0 r2)
  · subst z
    exact qx _ _ _ rfl F' H' xq hF k' xr
end
end DL

set_option Elab.async false
set_option linter.all false
set_option maxRecDepth 100000
set_option maxHeartbeats 4000000
/-! DLQ: the denotations computed: equations for simp. -/
namespace DL
open PySem PySem.Spec PyProof.Rows L2
section
variable {α β : Type}
theorem oRs_ok (x : α) (ρ : Rho) (f : α → Rho → Option Out) : oRs (some (.ok x ρ)) f = f x ρ := rfl
theorem oRs_ex (C : Addr) (fs : List (Str × D)) (ρ : Rho) (f : α → Rho → Option Out) : oRs (some (.ex C fs ρ)) f = some (.ex C fs ρ) := rfl
theorem rsB_ok (x : α) (ρ : Rho) (f : α → Rho → Option (Rs β)) : rsB (some (.ok x ρ)) f = f x ρ := rfl
theorem rsB_ex (C : Addr) (fs : List (Str × D)) (ρ : Rho) (f : α → Rho → Option (Rs β)) : rsB (some (.ex C fs ρ)) f = some (.ex C fs ρ) := rfl
theorem sSeq_nx {g h : Rho → Option Out} {ρ ρ1 : Rho} (e : g ρ = some (.nx ρ1)) : sSeq g h ρ = h ρ1 := by unfold sSeq; rw [e]; rfl
theorem sSeq_ret {g h : Rho → Option Out} {ρ ρ1 : Rho} {d : D} (e : g ρ = some (.ret d ρ1)) : sSeq g h ρ = some (.ret d ρ1) := by unfold sSeq; rw [e]; rfl
theorem sIf_T {t : Rho → Option (Rs Bool)} {g h : Rho → Option Out} {ρ ρ1 : Rho} (e : t ρ = some (.ok true ρ1)) : sIf t g h ρ = g ρ1 := by unfold sIf; rw [e, oRs_ok, if_pos rfl]
theorem sIf_F {t : Rho → Option (Rs Bool)} {g h : Rho → Option Out} {ρ ρ1 : Rho} (e : t ρ = some (.ok false ρ1)) : sIf t g h ρ = h ρ1 := by unfold sIf; rw [e, oRs_ok, if_neg Bool.false_ne_true]
theorem fzO_non : fzO .non = some .non := by simp [fzO, isFz]
theorem fzO_bl (b : Bool) : fzO (.bl b) = some (.bl b) := by simp [fzO, isFz]
theorem fzO_int (b : Int) : fzO (.int b) = some (.int b) := by simp [fzO, isFz]
theorem fzO_str (b : Str) : fzO (.str b) = some (.str b) := by simp [fzO, isFz]
theorem fz_non : fz .non = .non := by simp [fz]
theorem fz_bl (b : Bool) : fz (.bl b) = .bl b := by simp [fz]
theorem fz_int (b : Int) : fz (.int b) = .int b := by simp [fz]
theorem fz_str (b : Str) : fz (.str b) = .str b := by simp [fz]
theorem fz_lst (o : Bool) (xs : List D) : fz (.lst o xs) = .lst false (fzs xs) := by rw [fz]
theorem fz_tup (xs : List D) : fz (.tup xs) = .tup (fzs xs) := by rw [fz]
theorem fzs_strs : ∀ ys : List Str, fzs (ys.map D.str) = ys.map D.str
  | [] => by simp [fzs]
  | y :: ys => by rw [List.map_cons, fzs, fz_str, fzs_strs ys]
theorem fzs_ints : ∀ ys : List Int, fzs (ys.map D.int) = ys.map D.int
  | [] => by simp [fzs]
  | y :: ys => by rw [List.map_cons, fzs, fz_int, fzs_ints ys]
theorem isFzs_strs : ∀ ys : List Str, isFzs (ys.map D.str) = true
  | [] => by simp [isFzs]
  | y :: ys => by rw [List.map_cons, isFzs, isFzs_strs ys]; simp [isFz]
theorem isFzs_ints : ∀ ys : List Int, isFzs (ys.map D.int) = true
  | [] => by simp [isFzs]
  | y :: ys => by rw [List.map_cons, isFzs, isFzs_ints ys]; simp [isFz]
theorem toP_int (i : Int) : toP (.int i) = some (.int i) := by rw [toP]
theorem toP_str (i : Str) : toP (.str i) = some (.str i) := by rw [toP]
theorem toP_bl (i : Bool) : toP (.bl i) = some (.bool i) := by rw [toP]
theorem toP_non : toP .non = some .none := by rw [toP]
theorem beq_dec {α : Type} [BEq α] [LawfulBEq α] [DecidableEq α] (i j : α) : (i == j) = decide (i = j) := by
  by_cases h : i = j
  · subst h; simp
  · simp [h]
theorem fEq_int (i j : Int) : fEq (.int i) (.int j) = some (.bl (decide (i = j))) := by
  simp [fEq, eqD, toP_int, SeqAt.shaped, PyData.canLay0, PyData.depth, PyData.eqv, beq_dec]
theorem fNe_int (i j : Int) : fNe (.int i) (.int j) = some (.bl (!decide (i = j))) := by
  simp [fNe, eqD, toP_int, SeqAt.shaped, PyData.canLay0, PyData.depth, PyData.eqv, beq_dec]
theorem dec_vstr (a b : Str) : decide (V.str a = V.str b) = decide (a = b) := by
  by_cases h : a = b
  · subst h; simp
  · rw [decide_eq_false h, decide_eq_false]
    intro z
    exact h (V.str.inj z)
/-- == : texts as they are, all else by what it holds -/
def fEqA : D → D → Option D
  | .str a, .str b => some (.bl (decide (a = b)))
  | d, e => fEq d e
def fNeA : D → D → Option D
  | .str a, .str b => some (.bl (!decide (a = b)))
  | d, e => fNe d e
section
variable {X : Cx} {K : PySem.W.Frag}
def rEqA (K : PySem.W.Frag) : R2 := fun x y H Q => rEq x y H Q ∨ rEqD K x y H Q
def rNeA (K : PySem.W.Frag) : R2 := fun x y H Q => rNe x y H Q ∨ rNeD K x y H Q
theorem op_eqA (hu : X.A.units + 64 < cLine) : OpR X (compareOp .Eq) (rEqA X.K) := OpR.orR op_eq (op_eqD hu)
theorem op_neA (hu : X.A.units + 64 < cLine) : OpR X (compareOp .NotEq) (rNeA X.K) := OpR.orR op_ne (op_neD hu)
theorem v_eqA : VOp2 K (rEqA K) fEqA := fun F H x y d1 d2 d l1 l2 Q r1 r2 e q => by
  unfold fEqA at e
  split at e
  · cases e
    have e1 := r1.str_inv
    have e2 := r2.str_inv
    subst e1 e2
    exact .inl ⟨rfl, by rw [dec_vstr]; exact q _ _ (.bl _)⟩
  · exact .inr (v_eq F H x y _ _ d l1 l2 Q r1 r2 e q)
theorem v_neA : VOp2 K (rNeA K) fNeA := fun F H x y d1 d2 d l1 l2 Q r1 r2 e q => by
  unfold fNeA at e
  split at e
  · cases e
    have e1 := r1.str_inv
    have e2 := r2.str_inv
    subst e1 e2
    exact .inl ⟨rfl, by rw [dec_vstr]; exact q _ _ (.bl _)⟩
  · exact .inr (v_ne F H x y _ _ d l1 l2 Q r1 r2 e q)
end
theorem fEqA_int (i j : Int) : fEqA (.int i) (.int j) = some (.bl (decide (i = j))) := fEq_int i j
theorem fNeA_int (i j : Int) : fNeA (.int i) (.int j) = some (.bl (!decide (i = j))) := fNe_int i j
theorem fEqA_str (i j : Str) : fEqA (.str i) (.str j) = some (.bl (decide (i = j))) := rfl
theorem fNeA_str (i j : Str) : fNeA (.str i) (.str j) = some (.bl (!decide (i = j))) := rfl
/-! ### looks at slots -/
theorem sl_zero (a : Option (Bool × D)) (r : Rho) : (a :: r)[0]? = some a := rfl
theorem sl_succ (a : Option (Bool × D)) (r : Rho) (i : Nat) : (a :: r)[i + 1]? = r[i]? := rfl
theorem fIx_lst (b : Bool) (xs : List D) (i : Int) : fIx (.lst b xs) (.int i) = L2.atI xs i := rfl
theorem fIx_tup (xs : List D) (i : Int) : fIx (.tup xs) (.int i) = L2.atI xs i := rfl
theorem at0 {α : Type} (a : α) (xs : List α) : L2.atI (a :: xs) 0 = some a := by
  unfold L2.atI L2.ixN
  rw [if_pos (by omega), if_pos (by rw [List.length_cons]; omega)]
  rfl
theorem ixN_ok {n : Nat} {i : Int} (h0 : 0 ≤ i) (h1 : i < n) : L2.ixN n i = some i.toNat := by
  unfold L2.ixN
  rw [if_pos h0, if_pos h1]
theorem atI_ok {α : Type} {xs : List α} {i : Int} {a : α} (h0 : 0 ≤ i) (h : xs[i.toNat]? = some a) : L2.atI xs i = some a := by
  have := (List.getElem?_eq_some_iff.mp h).1
  unfold L2.atI
  rw [ixN_ok h0 (by omega)]
  exact h
theorem fAdd_int (i j : Int) : fAdd (.int i) (.int j) = some (.int (i + j)) := rfl
theorem fSub_int (i j : Int) : fSub (.int i) (.int j) = some (.int (i - j)) := rfl
theorem fLt_int (i j : Int) : fLt (.int i) (.int j) = some (.bl (decide (i < j))) := rfl
theorem fLe_int (i j : Int) : fLe (.int i) (.int j) = some (.bl (decide (i ≤ j))) := rfl
theorem fGt_int (i j : Int) : fGt (.int i) (.int j) = some (.bl (decide (j < i))) := rfl
theorem fGe_int (i j : Int) : fGe (.int i) (.int j) = some (.bl (decide (j ≤ i))) := rfl
theorem fMod_int {i j : Int} (h : j ≠ 0) : fMod (.int i) (.int j) = some (.int (i.fmod j)) := by
  show (if decide (j ≠ 0) = true then some (D.int (i.fmod j)) else none) = _
  rw [if_pos (decide_eq_true h)]
theorem fFdiv_int {i j : Int} (h : j ≠ 0) (h2 : j.natAbs < 1073741824) : fFdiv (.int i) (.int j) = some (.int (i.fdiv j)) := by
  show (if cDiv j = true then some (D.int (i.fdiv j)) else none) = _
  rw [if_pos (by unfold cDiv; rw [decide_eq_true h, decide_eq_true h2]; rfl)]
theorem fNeg_int (i : Int) : fNeg (.int i) = some (.int (-i)) := rfl
theorem fInt_int (i : Int) : fInt [.int i] = some (.int i) := rfl
theorem fAbs_int (i : Int) : fAbs [.int i] = some (.int (if i < 0 then -i else i)) := rfl
theorem fPutL_at (xs : List D) (i : Int) (d : D) : fPutL (.lst true xs) [.int i, d] = (L2.ixN xs.length i).map fun j => (.lst true (xs.set j d), .non) := rfl
theorem fMul_int {i j : Int} (h : cMul i j = true) : fMul (.int i) (.int j) = some (.int (i * j)) := by
  unfold fMul
  dsimp only
  rw [if_pos h]
theorem log2_lt {n k : Nat} (h : n < 2 ^ k) (hk : 0 < k) : n.log2 < k := by
  by_cases h0 : n = 0
  · subst h0; simpa using hk
  · exact (Nat.log2_lt h0).mpr h
theorem cMul_of {i j : Int} {a b : Nat} (h1 : i.natAbs < 2 ^ a) (h2 : j.natAbs < 2 ^ b) (ha : 0 < a) (hb : 0 < b) (hab : a + b ≤ 1000000) : cMul i j = true := by
  unfold cMul
  have := log2_lt h1 ha
  have := log2_lt h2 hb
  exact decide_eq_true (by omega)
theorem kl_none : kl1 none = none := rfl
theorem kl_view (d : D) : kl1 (some (true, d)) = none := rfl
theorem kl_own (d : D) : kl1 (some (false, d)) = some (false, d) := rfl
end
end DL

set_option Elab.async false
set_option linter.all false
set_option maxRecDepth 100000
set_option maxHeartbeats 4000000
/-! DLR: what denotations give, as wishes: one rule per construct. -/
namespace DL
open PySem PySem.Spec PyProof.Rows L2
def Wd {α : Type} (o : Option α) (Q : α → Prop) : Prop := ∃ r, o = some r ∧ Q r
abbrev XW := Addr → List (Str × D) → Prop
abbrev RW := Addr → List (Str × D) → Rho → Prop
def Xs.h (Q : D → Prop) (X : XW) : Xs D → Prop
  | .ok d => Q d
  | .ex C fs => X C fs
def Wn (o : Option (Xs D)) (Q : D → Prop) (X : XW) : Prop := ∃ r, o = some r ∧ Xs.h Q X r
def Rs.h {α : Type} (Q : α → Rho → Prop) (X : RW) : Rs α → Prop
  | .ok d ρ => Q d ρ
  | .ex C fs ρ => X C fs ρ
def We {α : Type} (o : Option (Rs α)) (Q : α → Rho → Prop) (X : RW) : Prop := ∃ r, o = some r ∧ Rs.h Q X r
structure Po where
  nx : Rho → Prop
  ret : D → Rho → Prop
  ex : RW
  brk : Rho → Prop
  cnt : Rho → Prop
def Po.h (P : Po) : Out → Prop
  | .nx ρ => P.nx ρ
  | .ret d ρ => P.ret d ρ
  | .brk ρ => P.brk ρ
  | .cnt ρ => P.cnt ρ
  | .ex C fs ρ => P.ex C fs ρ
def Ws (o : Option Out) (P : Po) : Prop := ∃ r, o = some r ∧ P.h r
abbrev BX := Addr → List (Str × D) → List (Option D) → Prop
def Rd.h (Q : D → List (Option D) → Prop) (X : BX) : Rd → Prop
  | .ok d b => Q d b
  | .ex C fs b => X C fs b
def Wr (o : Option DL.Rd) (Q : D → List (Option D) → Prop) (X : BX) : Prop := ∃ r, o = some r ∧ Rd.h Q X r
abbrev noX : BX := fun _ _ _ => False
section
variable {α β : Type} {ρ : Rho} {P : Po} {X : RW} {Z : XW} {d : D}
theorem Wr.mono {o : Option DL.Rd} {Q Q' : D → List (Option D) → Prop} {X X' : BX} (h : Wr o Q X) (q : ∀ d b, Q d b → Q' d b) (x : ∀ C fs b, X C fs b → X' C fs b) : Wr o Q' X' := by
  obtain ⟨r, e, h⟩ := h
  refine ⟨r, e, ?_⟩
  cases r with
  | ok d b => exact q d b h
  | ex C fs b => exact x C fs b h
theorem Ws.mono {o : Option Out} {P P' : Po} (h : Ws o P) (q : ∀ r, P.h r → P'.h r) : Ws o P' := by
  obtain ⟨r, e, h⟩ := h
  exact ⟨r, e, q r h⟩
/-! #### looks -/
theorem wd_k {Q : D → Prop} (q : Q d) : Wd (gK d ρ) Q := ⟨d, rfl, q⟩
theorem wd_var {i : Nat} {b : Bool} {Q : D → Prop} (e : ρ[i]? = some (some (b, d))) (q : Q d) : Wd (gVar i ρ) Q := ⟨d, by unfold gVar; rw [e]; rfl, q⟩
theorem wd_op1 {f : D → Option D} {g : Rho → Option D} {Q : D → Prop} (h : Wd (g ρ) fun x => Wd (f x) Q) : Wd (gOp1 f g ρ) Q := by
  obtain ⟨x, e, y, e2, q⟩ := h
  exact ⟨y, by unfold gOp1; rw [e]; exact e2, q⟩
theorem wd_op2 {α : Type} {f : D → D → Option α} {ga gb : Rho → Option D} {Q : α → Prop} (h : Wd (ga ρ) fun x => Wd (gb ρ) fun y => Wd (f x y) Q) : Wd (gOp2 f ga gb ρ) Q := by
  obtain ⟨x, e, y, e2, z, e3, q⟩ := h
  exact ⟨z, by unfold gOp2; rw [e, Option.bind_some, e2]; exact e3, q⟩
theorem wd_nil {Q : List D → Prop} (q : Q []) : Wd (DL.gNil ρ) Q := ⟨[], rfl, q⟩
theorem wd_cons {g : Rho → Option D} {h : Rho → Option (List D)} {Q : List D → Prop} (w : Wd (g ρ) fun d => Wd (h ρ) fun ds => Q (d :: ds)) : Wd (DL.gCons g h ρ) Q := by
  obtain ⟨x, e, y, e2, q⟩ := w
  exact ⟨x :: y, by unfold DL.gCons; rw [e, Option.bind_some, e2]; rfl, q⟩
theorem wd_nV {g : Rho → Option (Xs D)} {Q : D → Prop} (h : Wn (g ρ) Q fun _ _ => False) : Wd (nV g ρ) Q := by
  obtain ⟨r, e, q⟩ := h
  cases r with
  | ok d => exact ⟨d, by unfold nV; rw [e]; rfl, q⟩
  | ex C fs => exact q.elim
theorem wd_if {t : Rho → Option Bool} {g h : Rho → Option D} {Q : D → Prop} (w : Wd (t ρ) fun b => if b = true then Wd (g ρ) Q else Wd (h ρ) Q) : Wd (gIf t g h ρ) Q := by
  obtain ⟨b, e, w⟩ := w
  cases b with
  | true =>
    obtain ⟨x, e2, q⟩ := (show Wd (g ρ) Q by simpa using w)
    exact ⟨x, by unfold gIf; rw [e]; simpa using e2, q⟩
  | false =>
    obtain ⟨x, e2, q⟩ := (show Wd (h ρ) Q by simpa using w)
    exact ⟨x, by unfold gIf; rw [e]; simpa using e2, q⟩
theorem wd_andV {g h : Rho → Option D} {Q : D → Prop} (w : Wd (gB g ρ) fun b => if b = true then Wd (h ρ) Q else Q (.bl false)) : Wd (gAndV g h ρ) Q := by
  obtain ⟨b, e, w⟩ := w
  cases b with
  | true =>
    obtain ⟨x, e2, q⟩ := (show Wd (h ρ) Q by simpa using w)
    exact ⟨x, by unfold gAndV; rw [e]; simpa using e2, q⟩
  | false => exact ⟨.bl false, by unfold gAndV; rw [e]; rfl, by simpa using w⟩
theorem wd_orV {g h : Rho → Option D} {Q : D → Prop} (w : Wd (gB g ρ) fun b => if b = true then Q (.bl true) else Wd (h ρ) Q) : Wd (gOrV g h ρ) Q := by
  obtain ⟨b, e, w⟩ := w
  cases b with
  | false =>
    obtain ⟨x, e2, q⟩ := (show Wd (h ρ) Q by simpa using w)
    exact ⟨x, by unfold gOrV; rw [e]; simpa using e2, q⟩
  | true => exact ⟨.bl true, by unfold gOrV; rw [e]; rfl, by simpa using w⟩
theorem wd_notV {g : Rho → Option D} {Q : D → Prop} (w : Wd (gB g ρ) fun b => Q (.bl (!b))) : Wd (gNotV g ρ) Q := by
  obtain ⟨b, e, w⟩ := w
  exact ⟨_, by unfold gNotV; rw [e]; rfl, w⟩
theorem wd_orO {g h : Rho → Option α} {Q : α → Prop} (w : Wd (g ρ) Q) : Wd (orO g h ρ) Q := by
  obtain ⟨r, e, q⟩ := w
  exact ⟨r, by unfold orO; rw [e], q⟩
theorem wd_orO2 {g h : Rho → Option α} {Q : α → Prop} (e0 : g ρ = none) (w : Wd (h ρ) Q) : Wd (orO g h ρ) Q := by
  obtain ⟨r, e, q⟩ := w
  exact ⟨r, by unfold orO; rw [e0, e], q⟩
/-! #### tests -/
theorem wd_gB {g : Rho → Option D} {Q : Bool → Prop} (w : Wd (g ρ) fun d => Wd (asB d) Q) : Wd (gB g ρ) Q := by
  obtain ⟨x, e, y, e2, q⟩ := w
  exact ⟨y, by unfold gB; rw [e]; exact e2, q⟩
theorem wd_asB {b : Bool} {Q : Bool → Prop} (q : Q b) : Wd (asB (.bl b)) Q := ⟨b, rfl, q⟩
theorem wd_not {g : Rho → Option Bool} {Q : Bool → Prop} (w : Wd (g ρ) fun b => Q (!b)) : Wd (gNot g ρ) Q := by
  obtain ⟨x, e, q⟩ := w
  exact ⟨_, by unfold gNot; rw [e]; rfl, q⟩
theorem wd_and {g h : Rho → Option Bool} {Q : Bool → Prop} (w : Wd (g ρ) fun b => if b = true then Wd (h ρ) Q else Q false) : Wd (gAnd g h ρ) Q := by
  obtain ⟨b, e, w⟩ := w
  cases b with
  | true =>
    obtain ⟨x, e2, q⟩ := (show Wd (h ρ) Q by simpa using w)
    exact ⟨x, by unfold gAnd; rw [e]; simpa using e2, q⟩
  | false => exact ⟨false, by unfold gAnd; rw [e]; rfl, by simpa using w⟩
theorem wd_or {g h : Rho → Option Bool} {Q : Bool → Prop} (w : Wd (g ρ) fun b => if b = true then Q true else Wd (h ρ) Q) : Wd (gOr g h ρ) Q := by
  obtain ⟨b, e, w⟩ := w
  cases b with
  | false =>
    obtain ⟨x, e2, q⟩ := (show Wd (h ρ) Q by simpa using w)
    exact ⟨x, by unfold gOr; rw [e]; simpa using e2, q⟩
  | true => exact ⟨true, by unfold gOr; rw [e]; rfl, by simpa using w⟩
theorem wd_gYes {Q : Bool → Prop} (q : Q true) : Wd (gYes ρ) Q := ⟨true, rfl, q⟩
/-! #### new values -/
theorem wn_op1 {f : D → Option D} {ga : Rho → Option D} {Q : D → Prop} (h : Wd (ga ρ) fun x => Wd (f x) Q) : Wn (nOp1 f ga ρ) Q Z := by
  obtain ⟨y, e, q⟩ := wd_op1 h
  exact ⟨.ok y, by unfold nOp1; rw [e]; rfl, q⟩
theorem wn_op2 {f : D → D → Option D} {ga gb : Rho → Option D} {Q : D → Prop} (h : Wd (ga ρ) fun x => Wd (gb ρ) fun y => Wd (f x y) Q) : Wn (nOp2 f ga gb ρ) Q Z := by
  obtain ⟨y, e, q⟩ := wd_op2 h
  exact ⟨.ok y, by unfold nOp2; rw [e]; rfl, q⟩
theorem wn_opN {f : List D → Option D} {g : Rho → Option (List D)} {Q : D → Prop} (h : Wd (g ρ) fun ds => Wd (f ds) Q) : Wn (nOpN f g ρ) Q Z := by
  obtain ⟨y, e, z, e2, q⟩ := h
  exact ⟨.ok z, by unfold nOpN; rw [e, Option.bind_some, e2]; rfl, q⟩
theorem wn_opM {kd : D → Bool} {f : D → List D → Option D} {go : Rho → Option D} {g : Rho → Option (List D)} {Q : D → Prop} (h : Wd (go ρ) fun x => kd x = true ∧ Wd (g ρ) fun ds => Wd (f x ds) Q) : Wn (nOpM kd f go g ρ) Q Z := by
  obtain ⟨x, e, hk, y, e2, z, e3, q⟩ := h
  exact ⟨.ok z, by unfold nOpM; rw [e, Option.bind_some]; unfold kdO; rw [if_pos hk, Option.bind_some, e2, Option.bind_some, e3]; rfl, q⟩
theorem wn_vN {g : Rho → Option D} {Q : D → Prop} (h : Wd (g ρ) fun d => isFz d = true ∧ Q d) : Wn (vN g ρ) Q Z := by
  obtain ⟨x, e, hk, q⟩ := h
  exact ⟨.ok x, by unfold vN; rw [e, Option.bind_some]; unfold fzO; rw [if_pos hk]; rfl, q⟩
theorem wn_tup {h : Rho → Option (List D)} {Q : D → Prop} (w : Wd (h ρ) fun ds => isFzs ds = true ∧ ds.length ≤ sizeLine ∧ Q (.tup ds)) : Wn (DL.gTup h ρ) Q Z := by
  obtain ⟨x, e, hk, hl, q⟩ := w
  exact ⟨.ok (.tup x), by unfold DL.gTup; rw [e, Option.bind_some]; unfold allFz; rw [if_pos hk, Option.bind_some]; unfold lineO; rw [if_pos hl]; rfl, q⟩
theorem wn_lst {h : Rho → Option (List D)} {Q : D → Prop} (w : Wd (h ρ) fun ds => isFzs ds = true ∧ ds.length ≤ sizeLine ∧ Q (.lst true ds)) : Wn (DL.gLst h ρ) Q Z := by
  obtain ⟨x, e, hk, hl, q⟩ := w
  exact ⟨.ok (.lst true x), by unfold DL.gLst; rw [e, Option.bind_some]; unfold allFz; rw [if_pos hk, Option.bind_some]; unfold lineO; rw [if_pos hl]; rfl, q⟩
theorem wn_sl {f : D → Option Int → Option Int → Option D} {g : Rho → Option D} {gl gh : Rho → Option (Option Int)} {Q : D → Prop} (w : Wd (g ρ) fun d => Wd (gl ρ) fun lo => Wd (gh ρ) fun hi => Wd (f d lo hi) Q) : Wn (nSl f g gl gh ρ) Q Z := by
  obtain ⟨x, e1, lo, e2, hi, e3, y, e4, q⟩ := w
  exact ⟨.ok y, by unfold nSl; rw [e1, Option.bind_some, e2, Option.bind_some, e3, Option.bind_some, e4]; rfl, q⟩
theorem wd_pNone {Q : Option Int → Prop} (q : Q none) : Wd (pNone ρ) Q := ⟨none, rfl, q⟩
theorem wd_pSome {g : Rho → Option D} {Q : Option Int → Prop} (w : Wd (g ρ) fun d => ∃ i, d = .int i ∧ Q (some i)) : Wd (pSome g ρ) Q := by
  obtain ⟨x, e1, i, rfl, q⟩ := w
  exact ⟨some i, by unfold pSome; rw [e1]; rfl, q⟩
theorem wn_callV {fn : List D → Option DL.Rd} {g : Rho → Option (List D)} {Q : D → Prop} (w : Wd (g ρ) fun ds => Wr (fn (fzs ds)) (fun d _ => flat d = true ∧ Q d) fun C fs _ => fs.all (fun p => flat p.2) = true ∧ Z C fs) : Wn (gCallV fn g ρ) Q Z := by
  obtain ⟨x, e1, r, e2, q⟩ := w
  cases r with
  | ok d b =>
    refine ⟨.ok d, ?_, q.2⟩
    unfold gCallV
    rw [e1, Option.bind_some, e2, Option.bind_some]
    exact (congrArg (Option.map Xs.ok) (if_pos q.1)).trans rfl
  | ex C fs b =>
    refine ⟨.ex C fs, ?_, q.2⟩
    unfold gCallV
    rw [e1, Option.bind_some, e2, Option.bind_some]
    exact if_pos q.1
theorem wn_call {fn : List D → Option DL.Rd} {g : Rho → Option (List D)} {Q : D → Prop} (w : Wd (g ρ) fun ds => isFzs ds = true ∧ Wr (fn ds) (fun d _ => Q d) fun C fs _ => Z C fs) : Wn (gCall fn g ρ) Q Z := by
  obtain ⟨x, e1, hz, r, e2, q⟩ := w
  have e : ∀ r', ((fn x).map fun
      | .ok d _ => Xs.ok d
      | .ex C fs _ => .ex C fs) = r' → gCall fn g ρ = r' := fun r' z => by
    unfold gCall
    rw [e1, Option.bind_some]
    unfold allFz
    rw [if_pos hz]
    exact z
  cases r with
  | ok d b => exact ⟨.ok d, e _ (by rw [e2]; rfl), q⟩
  | ex C fs b => exact ⟨.ex C fs, e _ (by rw [e2]; rfl), q⟩
theorem wn_orO {g h : Rho → Option (Xs D)} {Q : D → Prop} (w : Wn (g ρ) Q Z) : Wn (orO g h ρ) Q Z := by
  obtain ⟨r, e, q⟩ := w
  exact ⟨r, by unfold orO; rw [e], q⟩
theorem wn_orO2 {g h : Rho → Option (Xs D)} {Q : D → Prop} (e0 : g ρ = none) (w : Wn (h ρ) Q Z) : Wn (orO g h ρ) Q Z := by
  obtain ⟨r, e, q⟩ := w
  exact ⟨r, by unfold orO; rw [e0, e], q⟩
/-! #### expressions -/
theorem we_bind {a : Option (Rs α)} {f : α → Rho → Option (Rs β)} {Q : β → Rho → Prop} (w : We a (fun x ρ1 => We (f x ρ1) Q X) X) : We (rsB a f) Q X := by
  obtain ⟨r, e, q⟩ := w
  subst e
  cases r with
  | ok x ρ1 => exact q
  | ex C fs ρ1 => exact ⟨.ex C fs ρ1, rfl, q⟩
theorem we_ret {x : α} {Q : α → Rho → Prop} (q : Q x ρ) : We (some (.ok x ρ)) Q X := ⟨.ok x ρ, rfl, q⟩
theorem we_map {a : Option β} {f : β → Rs α} {Q : α → Rho → Prop} (w : Wd a fun x => Rs.h Q X (f x)) : We (a.map f) Q X := by
  obtain ⟨x, e, q⟩ := w
  exact ⟨f x, by rw [e]; rfl, q⟩
theorem we_nE {g : Rho → Option (Xs D)} {Q : D → Rho → Prop} (w : Wn (g ρ) (fun d => Q d ρ) fun C fs => X C fs ρ) : We (nE g ρ) Q X := by
  obtain ⟨r, e, q⟩ := w
  cases r with
  | ok d => exact ⟨.ok d ρ, by unfold nE; rw [e]; rfl, q⟩
  | ex C fs => exact ⟨.ex C fs ρ, by unfold nE; rw [e]; rfl, q⟩
theorem we_move {i : Nat} {Q : D → Rho → Prop} (e : ρ[i]? = some (some (false, d))) (q : Q d (ρ.set i none)) : We (gMove i ρ) Q X := ⟨.ok d (ρ.set i none), by unfold gMove; rw [e], q⟩
theorem we_frz {i : Nat} {Q : D → Rho → Prop} (e : ρ[i]? = some (some (false, d))) (q : Q (fz d) (ρ.set i (some (false, fz d)))) : We (gFrz i ρ) Q X := ⟨.ok (fz d) _, by unfold gFrz; rw [e], q⟩
theorem we_nil {Q : List D → Rho → Prop} (q : Q [] ρ) : We (eNil ρ) Q X := ⟨.ok [] ρ, rfl, q⟩
theorem we_cons {g : Rho → Option (Rs D)} {h : Rho → Option (Rs (List D))} {Q : List D → Rho → Prop} (w : We (g ρ) (fun d ρ1 => We (h ρ1) (fun ds ρ2 => Q (d :: ds) ρ2) X) X) : We (eCons g h ρ) Q X := by
  refine we_bind ?_
  obtain ⟨r, e, q⟩ := w
  refine ⟨r, e, ?_⟩
  cases r with
  | ok d ρ1 =>
    refine we_bind ?_
    obtain ⟨r2, e2, q2⟩ := q
    refine ⟨r2, e2, ?_⟩
    cases r2 with
    | ok ds ρ2 => exact we_ret q2
    | ex C fs ρ2 => exact q2
  | ex C fs ρ1 => exact q
theorem we_lend {i : Nat} {b : Bool} {h : Rho → Option (Rs (List D))} {Q : List D → Rho → Prop} (e : ρ[i]? = some (some (b, d))) (w : We (h ρ) Q X) : We (eLend i h ρ) Q X := by
  obtain ⟨r, e2, q⟩ := w
  refine ⟨r, ?_, q⟩
  unfold eLend gVar
  rw [e]
  exact e2
theorem We.mono {a : Option (Rs α)} {Q Q' : α → Rho → Prop} {X X' : RW} (w : We a Q X) (h : ∀ x ρ, Q x ρ → Q' x ρ) (h2 : ∀ C fs ρ, X C fs ρ → X' C fs ρ) : We a Q' X' := by
  obtain ⟨r, e, q⟩ := w
  refine ⟨r, e, ?_⟩
  cases r with
  | ok x ρ => exact h x ρ q
  | ex C fs ρ => exact h2 C fs ρ q
theorem we_tup {h : Rho → Option (Rs (List D))} {Q : D → Rho → Prop} (w : We (h ρ) (fun ds ρ1 => ds.length ≤ sizeLine ∧ Q (.tup ds) ρ1) X) : We (eTup h ρ) Q X := by
  refine we_bind (w.mono (fun ds ρ1 z => we_map ⟨ds, by unfold lineO; rw [if_pos z.1], z.2⟩) fun _ _ _ z => z)
theorem we_lst {h : Rho → Option (Rs (List D))} {Q : D → Rho → Prop} (w : We (h ρ) (fun ds ρ1 => ds.length ≤ sizeLine ∧ Q (.lst true ds) ρ1) X) : We (eLst h ρ) Q X := by
  refine we_bind (w.mono (fun ds ρ1 z => we_map ⟨ds, by unfold lineO; rw [if_pos z.1], z.2⟩) fun _ _ _ z => z)
theorem we_fz {g : Rho → Option (Rs D)} {Q : D → Rho → Prop} (w : We (g ρ) (fun d ρ1 => Q (fz d) ρ1) X) : We (eFz g ρ) Q X := by
  obtain ⟨r, e, q⟩ := w
  cases r with
  | ok d ρ1 => exact ⟨.ok (fz d) ρ1, by unfold eFz; rw [e]; rfl, q⟩
  | ex C fs ρ1 => exact ⟨.ex C fs ρ1, by unfold eFz; rw [e]; rfl, q⟩
theorem we_op2 {f : D → D → Option D} {ga gb : Rho → Option (Rs D)} {Q : D → Rho → Prop} (w : We (ga ρ) (fun x ρ1 => We (gb ρ1) (fun y ρ2 => Wd (f x y) fun d => isFz d = true ∧ Q d ρ2) X) X) : We (eOp2 f ga gb ρ) Q X := by
  refine we_bind (w.mono (fun x ρ1 z => we_bind (z.mono (fun y ρ2 z => ?_) fun _ _ _ z => z)) fun _ _ _ z => z)
  obtain ⟨d, e, hz, q⟩ := z
  exact ⟨.ok d ρ2, by rw [e, Option.bind_some]; unfold fzO; rw [if_pos hz]; rfl, q⟩
theorem we_xop2 {f : D → D → Option D} {ga gb : Rho → Option (Rs D)} {Q : D → Rho → Prop} (w : We (ga ρ) (fun x ρ1 => We (gb ρ1) (fun y ρ2 => Wd (f x y) fun d => Q d ρ2) X) X) : We (xOp2 f ga gb ρ) Q X :=
  we_bind (w.mono (fun x ρ1 z => we_bind (z.mono (fun y ρ2 z => we_map z) fun _ _ _ z => z)) fun _ _ _ z => z)
theorem we_xopN {f : List D → Option D} {g : Rho → Option (Rs (List D))} {Q : D → Rho → Prop} (w : We (g ρ) (fun ds ρ1 => Wd (f ds) fun d => Q d ρ1) X) : We (xOpN f g ρ) Q X :=
  we_bind (w.mono (fun x ρ1 z => we_map z) fun _ _ _ z => z)
theorem we_xopM {kd : D → Bool} {f : D → List D → Option D} {go : Rho → Option (Rs D)} {g : Rho → Option (Rs (List D))} {Q : D → Rho → Prop} (w : We (go ρ) (fun x ρ1 => kd x = true ∧ We (g ρ1) (fun ds ρ2 => Wd (f x ds) fun d => Q d ρ2) X) X) : We (xOpM kd f go g ρ) Q X := by
  refine we_bind (w.mono (fun x ρ1 z => ?_) fun _ _ _ z => z)
  have e : (kdO kd x) = some x := by unfold kdO; rw [if_pos z.1]
  rw [e, Option.bind_some]
  exact we_bind (z.2.mono (fun y ρ2 z => we_map z) fun _ _ _ z => z)
theorem we_ixN {i : Nat} {b0 : Bool} {d0 : D} {f : D → D → Option D} {gb : Rho → Option (Rs D)} {Q : D → Rho → Prop} (e : ρ[i]? = some (some (b0, d0))) (w : We (gb ρ) (fun y ρ1 => Wd (gVar i ρ1) fun x => Wd (f x y) fun d => isFz d = true ∧ Q d ρ1) X) : We (eIxN i f gb ρ) Q X := by
  unfold eIxN
  have e1 : gVar i ρ = some d0 := by unfold gVar; rw [e]; rfl
  rw [e1, Option.bind_some]
  refine we_bind (w.mono (fun y ρ1 z => ?_) fun _ _ _ z => z)
  obtain ⟨x, e2, d, e3, hz, q⟩ := z
  exact ⟨.ok d ρ1, by rw [e2, Option.bind_some, e3, Option.bind_some]; unfold fzO; rw [if_pos hz]; rfl, q⟩
theorem we_if {t : Rho → Option (Rs Bool)} {g h : Rho → Option (Rs D)} {Q : D → Rho → Prop} (w : We (t ρ) (fun b ρ1 => if b = true then We (g ρ1) Q X else We (h ρ1) Q X) X) : We (eIf t g h ρ) Q X := by
  refine we_bind (w.mono (fun b ρ1 z => ?_) fun _ _ _ z => z)
  cases b <;> simpa using z
theorem we_call {fn : List D → Option DL.Rd} {bk : List (Option Nat)} {g : Rho → Option (Rs (List D))} {Q : D → Rho → Prop} (w : We (g ρ) (fun ds ρ1 => Wd (mergeA bk ρ1 ds) fun a => Wr (fn a.1) (fun d b => b.length = bk.length ∧ Q d (restore bk b (DL.kill a.2))) fun C fs b => b.length = bk.length ∧ X C fs (restore bk b (DL.kill a.2))) X) : We (eCall fn bk g ρ) Q X := by
  refine we_bind (w.mono (fun ds ρ1 z => ?_) fun _ _ _ z => z)
  obtain ⟨a, e1, r, e2, q⟩ := z
  rw [e1, Option.bind_some, e2, Option.bind_some]
  cases r with
  | ok d b => exact ⟨.ok d _, if_pos q.1, q.2⟩
  | ex C fs b => exact ⟨.ex C fs _, if_pos q.1, q.2⟩
theorem we_mAt {i : Nat} {kd : D → Bool} {f : D → List D → Option (D × D)} {π : List Sg} {ds : List D} {D0 d0 : D} {Q : D → Rho → Prop} (e : ρ[i]? = some (some (false, D0))) (e2 : D.at π D0 = some d0) (hk : kd d0 = true) (w : Wd (f d0 ds) fun r => Q r.2 ((DL.kill ρ).set i (some (false, D.put r.1 π D0)))) : We (mAt i kd f π ds ρ) Q X := by
  obtain ⟨r, e3, q⟩ := w
  exact ⟨.ok r.2 _, by unfold mAt; rw [e]; dsimp only; rw [e2, Option.bind_some]; unfold kdO; rw [if_pos hk, Option.bind_some, e3]; rfl, q⟩
theorem we_mut {i : Nat} {kd : D → Bool} {f : D → List D → Option (D × D)} {p : Rho → Option (List Sg)} {g : Rho → Option (List D)} {Q : D → Rho → Prop} (w : Wd (p ρ) fun π => Wd (g ρ) fun ds => isFzs ds = true ∧ We (mAt i kd f π ds ρ) Q X) : We (eMut i kd f p g ρ) Q X := by
  obtain ⟨π, e1, ds, e2, hz, w⟩ := w
  unfold eMut
  rw [e1, Option.bind_some, e2, Option.bind_some]
  unfold allFz
  rw [if_pos hz, Option.bind_some]
  exact w
theorem we_mut0 {i : Nat} {kd : D → Bool} {f : D → List D → Option (D × D)} {g : Rho → Option (Rs (List D))} {D0 : D} {Q : D → Rho → Prop} (e : ρ[i]? = some (some (false, D0))) (hk : kd D0 = true) (w : We (g ρ) (fun ds ρ1 => We (mAt i kd f [] ds ρ1) Q X) X) : We (eMut0 i kd f g ρ) Q X := by
  unfold eMut0
  rw [e]
  dsimp only
  unfold kdO
  rw [if_pos hk, Option.bind_some]
  exact we_bind w
theorem wd_here {Q : List Sg → Prop} (q : Q []) : Wd (pHere ρ) Q := ⟨[], rfl, q⟩
theorem wd_pIxL {i n : Nat} {p : Rho → Option (List Sg)} {g : Rho → Option D} {D0 : D} {xs : List D} {Q : List Sg → Prop} (w : Wd (p ρ) fun π => ρ[i]? = some (some (false, D0)) ∧ D.at π D0 = some (.lst true xs) ∧ Wd (g ρ) fun d => ∃ j, d = .int j ∧ L2.ixN xs.length j = some n ∧ Q (π ++ [.ix n])) : Wd (pIx p i g ρ) Q := by
  obtain ⟨π, e1, e2, e3, d, e4, j, rfl, e5, q⟩ := w
  refine ⟨_, ?_, q⟩
  unfold pIx
  rw [e1, Option.bind_some, e2]
  dsimp only
  rw [e3]
  dsimp only
  rw [e4, Option.bind_some]
  show (some j).bind _ = _
  rw [Option.bind_some, e5]
  rfl
theorem wd_pIxT {i n : Nat} {p : Rho → Option (List Sg)} {g : Rho → Option D} {D0 : D} {xs : List D} {Q : List Sg → Prop} (w : Wd (p ρ) fun π => ρ[i]? = some (some (false, D0)) ∧ D.at π D0 = some (.tup xs) ∧ Wd (g ρ) fun d => ∃ j, d = .int j ∧ L2.ixN xs.length j = some n ∧ Q (π ++ [.ix n])) : Wd (pIx p i g ρ) Q := by
  obtain ⟨π, e1, e2, e3, d, e4, j, rfl, e5, q⟩ := w
  refine ⟨_, ?_, q⟩
  unfold pIx
  rw [e1, Option.bind_some, e2]
  dsimp only
  rw [e3]
  dsimp only
  rw [e4, Option.bind_some]
  show (some j).bind _ = _
  rw [Option.bind_some, e5]
  rfl
/-! #### tests with effects -/
theorem we_tE {g : Rho → Option Bool} {Q : Bool → Rho → Prop} (w : Wd (g ρ) fun b => Q b ρ) : We (tE g ρ) Q X := by
  obtain ⟨b, e, q⟩ := w
  exact ⟨.ok b ρ, by unfold tE; rw [e]; rfl, q⟩
theorem we_eB {g : Rho → Option (Rs D)} {Q : Bool → Rho → Prop} (w : We (g ρ) (fun d ρ1 => Wd (asB d) fun b => Q b ρ1) X) : We (eB g ρ) Q X :=
  we_bind (w.mono (fun x ρ1 z => we_map z) fun _ _ _ z => z)
theorem we_not {g : Rho → Option (Rs Bool)} {Q : Bool → Rho → Prop} (w : We (g ρ) (fun b ρ1 => Q (!b) ρ1) X) : We (eNot g ρ) Q X :=
  we_bind (w.mono (fun x ρ1 z => we_ret z) fun _ _ _ z => z)
theorem we_and {g h : Rho → Option (Rs Bool)} {Q : Bool → Rho → Prop} (w : We (g ρ) (fun b ρ1 => if b = true then We (h ρ1) Q X else Q false ρ1) X) : We (eAnd g h ρ) Q X := by
  refine we_bind (w.mono (fun b ρ1 z => ?_) fun _ _ _ z => z)
  cases b with
  | true => simpa using z
  | false => simpa using we_ret z
theorem we_or {g h : Rho → Option (Rs Bool)} {Q : Bool → Rho → Prop} (w : We (g ρ) (fun b ρ1 => if b = true then Q true ρ1 else We (h ρ1) Q X) X) : We (eOr g h ρ) Q X := by
  refine we_bind (w.mono (fun b ρ1 z => ?_) fun _ _ _ z => z)
  cases b with
  | false => simpa using z
  | true => simpa using we_ret z
/-! #### statements -/
theorem ws_bind {a : Option (Rs α)} {f : α → Rho → Option Out} (w : We a (fun x ρ1 => Ws (f x ρ1) P) P.ex) : Ws (oRs a f) P := by
  obtain ⟨r, e, q⟩ := w
  subst e
  cases r with
  | ok x ρ1 => exact q
  | ex C fs ρ1 => exact ⟨.ex C fs ρ1, rfl, q⟩
theorem ws_nx (q : P.nx ρ) : Ws (sNx ρ) P := ⟨.nx ρ, rfl, q⟩
theorem ws_brk (q : P.brk ρ) : Ws (sBrk ρ) P := ⟨.brk ρ, rfl, q⟩
theorem ws_cnt (q : P.cnt ρ) : Ws (sCnt ρ) P := ⟨.cnt ρ, rfl, q⟩
theorem ws_seq {g h : Rho → Option Out} (w : Ws (g ρ) ⟨fun ρ1 => Ws (h ρ1) P, P.ret, P.ex, P.brk, P.cnt⟩) : Ws (sSeq g h ρ) P := by
  obtain ⟨r, e, q⟩ := w
  unfold sSeq
  rw [e, Option.bind_some]
  cases r with
  | nx ρ1 => exact q
  | ret d ρ1 => exact ⟨.ret d ρ1, rfl, q⟩
  | brk ρ1 => exact ⟨.brk ρ1, rfl, q⟩
  | cnt ρ1 => exact ⟨.cnt ρ1, rfl, q⟩
  | ex C fs ρ1 => exact ⟨.ex C fs ρ1, rfl, q⟩
theorem ws_ret {g : Rho → Option (Rs D)} (w : We (g ρ) P.ret P.ex) : Ws (sRet g ρ) P := ws_bind (w.mono (fun d ρ1 z => ⟨.ret d ρ1, rfl, z⟩) fun _ _ _ z => z)
theorem ws_retN (q : P.ret .non ρ) : Ws (sRetN ρ) P := ⟨.ret .non ρ, rfl, q⟩
theorem ws_drop {g : Rho → Option (Rs D)} (w : We (g ρ) (fun _ ρ1 => P.nx ρ1) P.ex) : Ws (sDrop g ρ) P := ws_bind (w.mono (fun d ρ1 z => ⟨.nx ρ1, rfl, z⟩) fun _ _ _ z => z)
theorem ws_set {i : Nat} {g : Rho → Option (Rs D)} (w : We (g ρ) (fun d ρ1 => i < ρ1.length ∧ P.nx (ρ1.set i (some (false, d)))) P.ex) : Ws (sSet i g ρ) P := ws_bind (w.mono (fun d ρ1 z => ⟨.nx _, by unfold rSet; rw [if_pos z.1]; rfl, z.2⟩) fun _ _ _ z => z)
theorem ws_setV {i : Nat} {g : Rho → Option D} (w : Wd (g ρ) (fun d => i < ρ.length ∧ P.nx (ρ.set i (some (!isFz d, d))))) : Ws (sSetV i g ρ) P := by
  obtain ⟨d, e, hi, q⟩ := w
  exact ⟨.nx _, by unfold sSetV; rw [e, Option.bind_some]; unfold rSet; rw [if_pos hi]; rfl, q⟩
theorem ws_if {t : Rho → Option (Rs Bool)} {g h : Rho → Option Out} (w : We (t ρ) (fun b ρ1 => if b = true then Ws (g ρ1) P else Ws (h ρ1) P) P.ex) : Ws (sIf t g h ρ) P := by
  refine ws_bind (w.mono (fun b ρ1 z => ?_) fun _ _ _ z => z)
  cases b <;> simpa using z
theorem ws_put {i : Nat} {f : D → List D → Option (D × D)} {p : Rho → Option (List Sg)} {gi : Rho → Option D} {g : Rho → Option (Rs D)} (w : We (g ρ) (fun d ρ1 => Wd (p ρ1) fun π => Wd (gi ρ1) fun j => isFz j = true ∧ We (mAt i kdAll f π [j, d] ρ1) (fun _ ρ2 => P.nx ρ2) P.ex) P.ex) : Ws (sPut i f p gi g ρ) P := by
  refine ws_bind (w.mono (fun d ρ1 z => ?_) fun _ _ _ z => z)
  obtain ⟨π, e1, j, e2, hz, w⟩ := z
  rw [e1, Option.bind_some, e2, Option.bind_some]
  unfold fzO
  rw [if_pos hz, Option.bind_some]
  exact ws_bind (w.mono (fun d ρ1 z => ⟨.nx _, rfl, z⟩) fun _ _ _ z => z)
theorem ws_for {s : Rho → Option (Rs (List D))} {h : D → Rho → Option Rho} {g : Rho → Option Out} (w : We (s ρ) (fun ds ρ1 => Ws (forL h g ds ρ1) P) P.ex) : Ws (sFor s h g ρ) P := ws_bind w
/-- a loop, by what holds ahead of the i-th turn -/
theorem forL_inv {h : D → Rho → Option Rho} {g : Rho → Option Out} {ds : List D} (I : Nat → Rho → Prop) (h0 : I 0 ρ) (hs : ∀ i d ρ, ds[i]? = some d → I i ρ → Wd (h d ρ) fun ρ1 => Ws (g ρ1) ⟨I (i + 1), P.ret, P.ex, P.nx, I (i + 1)⟩) (hn : ∀ ρ, I ds.length ρ → P.nx ρ) : Ws (forL h g ds ρ) P := by
  have : ∀ (n i : Nat) (ρ : Rho), ds.length - i = n → i ≤ ds.length → I i ρ → Ws (forL h g (ds.drop i) ρ) P := by
    intro n
    induction n with
    | zero =>
      intro i ρ e hi q
      have e2 : i = ds.length := by omega
      subst e2
      rw [List.drop_of_length_le (Nat.le_refl _), forL]
      exact ⟨.nx ρ, rfl, hn ρ q⟩
    | succ n ih =>
      intro i ρ e hi q
      have hi2 : i < ds.length := by omega
      rw [List.drop_eq_getElem_cons hi2, forL]
      obtain ⟨ρ1, e1, r, e2, q2⟩ := hs i _ ρ (List.getElem?_eq_getElem hi2) q
      rw [e1, Option.bind_some, e2, Option.bind_some]
      cases r with
      | nx ρ2 => exact ih (i + 1) ρ2 (by omega) hi2 q2
      | cnt ρ2 => exact ih (i + 1) ρ2 (by omega) hi2 q2
      | brk ρ2 => exact ⟨.nx ρ2, rfl, q2⟩
      | ret d ρ2 => exact ⟨.ret d ρ2, rfl, q2⟩
      | ex C fs ρ2 => exact ⟨.ex C fs ρ2, rfl, q2⟩
  have := this ds.length 0 ρ (by omega) (by omega) h0
  rwa [List.drop_zero] at this
/-- a while loop: a measure goes down -/
theorem while_inv {t : Rho → Option (Rs Bool)} {g : Rho → Option Out} (I : Nat → Rho → Prop) (n : Nat) (h0 : I n ρ)
    (hs : ∀ n ρ, I n ρ → We (t ρ) (fun b ρ1 => if b = true then Ws (g ρ1) ⟨fun ρ2 => ∃ m, m < n ∧ I m ρ2, P.ret, P.ex, P.nx, fun ρ2 => ∃ m, m < n ∧ I m ρ2⟩ else P.nx ρ1) P.ex) : Ws (sWhile t g ρ) P := by
  have : ∀ n ρ, I n ρ → ∃ m r, whileN t g m ρ = some r ∧ P.h r := by
    intro n
    induction n using Nat.strongRecOn with
    | _ n ih =>
      intro ρ q
      obtain ⟨r, e, w⟩ := hs n ρ q
      cases r with
      | ex C fs ρ1 => exact ⟨1, .ex C fs ρ1, by rw [whileN, e]; rfl, w⟩
      | ok b ρ1 =>
        cases b with
        | false => exact ⟨1, .nx ρ1, by rw [whileN, e]; rfl, (show P.nx ρ1 by simpa [Rs.h] using w)⟩
        | true =>
          have w : Ws (g ρ1) ⟨fun ρ2 => ∃ m, m < n ∧ I m ρ2, P.ret, P.ex, P.nx, fun ρ2 => ∃ m, m < n ∧ I m ρ2⟩ := by simpa [Rs.h] using w
          obtain ⟨o, e2, w⟩ := w
          cases o with
          | nx ρ2 =>
            obtain ⟨m, hm, im⟩ := w
            obtain ⟨k, r, e3, q3⟩ := ih m hm ρ2 im
            exact ⟨k + 1, r, by rw [whileN, e, oRs_ok, if_pos rfl, e2, Option.bind_some]; exact e3, q3⟩
          | cnt ρ2 =>
            obtain ⟨m, hm, im⟩ := w
            obtain ⟨k, r, e3, q3⟩ := ih m hm ρ2 im
            exact ⟨k + 1, r, by rw [whileN, e, oRs_ok, if_pos rfl, e2, Option.bind_some]; exact e3, q3⟩
          | brk ρ2 => exact ⟨1, .nx ρ2, by rw [whileN, e, oRs_ok, if_pos rfl, e2]; rfl, w⟩
          | ret d ρ2 => exact ⟨1, .ret d ρ2, by rw [whileN, e, oRs_ok, if_pos rfl, e2]; rfl, w⟩
          | ex C fs ρ2 => exact ⟨1, .ex C fs ρ2, by rw [whileN, e, oRs_ok, if_pos rfl, e2]; rfl, w⟩
  obtain ⟨m, r, e, q⟩ := this n ρ h0
  exact ⟨r, sWhile_of e, q⟩
/-! #### sources, targets -/
theorem we_iSeq {g : Rho → Option (Rs D)} {Q : List D → Rho → Prop} (w : We (g ρ) (fun d ρ1 => (∃ o xs, d = .lst o xs ∧ Q xs ρ1) ∨ (∃ xs, d = .tup xs ∧ Q xs ρ1) ∨ ∃ x, d = .str x ∧ Q (signs x) ρ1) X) : We (iSeq g ρ) Q X := by
  refine we_bind (w.mono (fun d ρ1 z => ?_) fun _ _ _ z => z)
  rcases z with ⟨o, xs, rfl, q⟩ | ⟨xs, rfl, q⟩ | ⟨x, rfl, q⟩ <;> exact we_ret q
theorem wd_jSeq {g : Rho → Option D} {Q : List D → Prop} (w : Wd (g ρ) (fun d => (∃ o xs, d = .lst o xs ∧ Q xs) ∨ (∃ xs, d = .tup xs ∧ Q xs) ∨ ∃ x, d = .str x ∧ Q (signs x))) : Wd (jSeq g ρ) Q := by
  obtain ⟨d, e, z⟩ := w
  unfold jSeq
  rw [e, Option.bind_some]
  rcases z with ⟨o, xs, rfl, q⟩ | ⟨xs, rfl, q⟩ | ⟨x, rfl, q⟩ <;> exact ⟨_, rfl, q⟩
theorem we_iRng {f : List D → Option (List D)} {g : Rho → Option (Rs (List D))} {Q : List D → Rho → Prop} (w : We (g ρ) (fun ds ρ1 => Wd (f ds) fun xs => Q xs ρ1) X) : We (iRng f g ρ) Q X :=
  we_bind (w.mono (fun x ρ1 z => we_map z) fun _ _ _ z => z)
theorem wd_jRng {f : List D → Option (List D)} {g : Rho → Option (List D)} {Q : List D → Prop} (w : Wd (g ρ) fun ds => Wd (f ds) Q) : Wd (jRng f g ρ) Q := by
  obtain ⟨x, e, y, e2, q⟩ := w
  exact ⟨y, by unfold jRng; rw [e]; exact e2, q⟩
theorem okR_ok {j : Int} (h : -(2 ^ 62) ≤ j ∧ j < 2 ^ 62) : okR j = true := Bool.and_eq_true_iff.mpr ⟨decide_eq_true h.1, decide_eq_true h.2⟩
theorem wd_rng1 {j : Int} {Q : List D → Prop} (h : -(2 ^ 62) ≤ j ∧ j < 2 ^ 62) (q : Q (rng 0 j.toNat)) : Wd (rng1 [.int j]) Q := ⟨_, if_pos (okR_ok h), q⟩
theorem wd_rng2 {i j : Int} {Q : List D → Prop} (h0 : -(2 ^ 62) ≤ i ∧ i < 2 ^ 62) (h : -(2 ^ 62) ≤ j ∧ j < 2 ^ 62) (q : Q (rng i (j - i).toNat)) : Wd (rng2 [.int i, .int j]) Q := ⟨_, if_pos ⟨okR_ok h0, okR_ok h⟩, q⟩
theorem wd_hName {i : Nat} {Q : Rho → Prop} (h : i < ρ.length) (q : Q (ρ.set i (some (!isFz d, d)))) : Wd (hName i d ρ) Q := ⟨_, by unfold hName rSet; rw [if_pos h], q⟩
/-! #### comprehensions -/
theorem compN_inv {own : List Nat} {h : D → Rho → Option Rho} {t : Rho → Option Bool} {g : Rho → Option (Xs D)} {ds : List D} (f : Nat → D → D → Prop)
    (hs : ∀ i d, ds[i]? = some d → Wd (h d (wipeR ρ own)) fun ρ1 => Wd (t ρ1) fun b => b = true ∧ Wn (g ρ1) (f i d) fun _ _ => False) : ∃ ys, compN own h t g ρ ds = some ys ∧ ys.length = ds.length ∧ ∀ i d y, ds[i]? = some d → ys[i]? = some y → f i d y := by
  have : ∀ (n i : Nat), ds.length - i = n → i ≤ ds.length → ∃ ys, compN own h t g ρ (ds.drop i) = some ys ∧ ys.length = ds.length - i ∧ ∀ j d y, ds[i + j]? = some d → ys[j]? = some y → f (i + j) d y := by
    intro n
    induction n with
    | zero =>
      intro i e hi
      rw [List.drop_of_length_le (by omega)]
      exact ⟨[], rfl, by simp; omega, fun j d y e1 e2 => by simp at e2⟩
    | succ n ih =>
      intro i e hi
      have hi2 : i < ds.length := by omega
      obtain ⟨ys, e1, e2, e3⟩ := ih (i + 1) (by omega) hi2
      obtain ⟨ρ1, e4, b, e5, rfl, r, e6, q⟩ := hs i _ (List.getElem?_eq_getElem hi2)
      cases r with
      | ex C fs => exact q.elim
      | ok y =>
        refine ⟨y :: ys, ?_, by rw [List.length_cons, e2]; omega, fun j d z e7 e8 => ?_⟩
        · rw [List.drop_eq_getElem_cons hi2, compN, e4, Option.bind_some, e5, Option.bind_some, if_pos rfl, e6, e1]
          rfl
        · cases j with
          | zero =>
            rw [Nat.add_zero, List.getElem?_eq_getElem hi2] at e7
            cases e7
            cases e8
            exact q
          | succ j =>
            have := e3 j d z (by rw [show i + 1 + j = i + (j + 1) by omega]; exact e7) e8
            rwa [show i + 1 + j = i + (j + 1) by omega] at this
  obtain ⟨ys, e1, e2, e3⟩ := this ds.length 0 (by omega) (by omega)
  refine ⟨ys, by rwa [List.drop_zero] at e1, by rw [e2]; omega, fun i d y h1 h2 => ?_⟩
  have := e3 i d y (by rw [Nat.zero_add]; exact h1) h2
  rwa [Nat.zero_add] at this
theorem wn_comp {own : List Nat} {s : Rho → Option (List D)} {h : D → Rho → Option Rho} {t : Rho → Option Bool} {g : Rho → Option (Xs D)} {Q : D → Prop} (w : Wd (s ρ) fun ds => ds.length ≤ sizeLine ∧ ∃ f : Nat → D → D → Prop, (∀ i d, ds[i]? = some d → Wd (h d (wipeR ρ own)) fun ρ1 => Wd (t ρ1) fun b => b = true ∧ Wn (g ρ1) (f i d) fun _ _ => False) ∧
    ∀ ys : List D, ys.length = ds.length → (∀ i d y, ds[i]? = some d → ys[i]? = some y → f i d y) → Q (.lst true ys)) : Wn (gComp own s h t g ρ) Q Z := by
  obtain ⟨ds, e1, hl, f, h1, h2⟩ := w
  obtain ⟨ys, e2, e3, e4⟩ := compN_inv f h1
  refine ⟨.ok (.lst true ys), ?_, h2 ys e3 e4⟩
  unfold gComp
  rw [e1, Option.bind_some, e2, Option.bind_some]
  unfold lineO
  rw [if_pos (by omega)]
  rfl
/-- with changes: what holds ahead of the i-th turn, and of the items so far -/
theorem compE_inv {own : List Nat} {h : D → Rho → Option Rho} {t : Rho → Option (Rs Bool)} {g : Rho → Option (Rs D)} {ds : List D} (I : Nat → List D → Rho → Prop) (h0 : I 0 [] ρ)
    (hs : ∀ i d ys ρ, ds[i]? = some d → I i ys ρ → ys.length ≤ i → Wd (h d ρ) fun ρ1 => We (t ρ1) (fun b ρ2 => if b = true then We (g ρ2) (fun y ρ3 => I (i + 1) (ys ++ [y]) (wipeR (DL.kill ρ3) own)) (fun _ _ _ => False) else I (i + 1) ys (wipeR ρ2 own)) fun _ _ _ => False) :
    ∃ ys ρ', compE own h t g ds ρ = some (ys, ρ') ∧ ys.length ≤ ds.length ∧ I ds.length ys ρ' := by
  have : ∀ (n i : Nat) (ys : List D) (ρ : Rho), ds.length - i = n → i ≤ ds.length → ys.length ≤ i → I i ys ρ → ∃ zs ρ', compE own h t g (ds.drop i) ρ = some (zs, ρ') ∧ (ys ++ zs).length ≤ ds.length ∧ I ds.length (ys ++ zs) ρ' := by
    intro n
    induction n with
    | zero =>
      intro i ys ρ e hi hy q
      have e2 : i = ds.length := by omega
      subst e2
      rw [List.drop_of_length_le (Nat.le_refl _)]
      exact ⟨[], ρ, rfl, by rw [List.append_nil]; exact hy, by rw [List.append_nil]; exact q⟩
    | succ n ih =>
      intro i ys ρ e hi hy q
      have hi2 : i < ds.length := by omega
      obtain ⟨ρ1, e1, r, e2, w⟩ := hs i _ ys ρ (List.getElem?_eq_getElem hi2) q hy
      rw [List.drop_eq_getElem_cons hi2, compE, e1, Option.bind_some, e2]
      cases r with
      | ex C fs ρ2 => exact w.elim
      | ok b ρ2 =>
        cases b with
        | false =>
          have w : I (i + 1) ys (wipeR ρ2 own) := by simpa [Rs.h] using w
          exact ih (i + 1) ys _ (by omega) hi2 (by omega) w
        | true =>
          have w : We (g ρ2) (fun y ρ3 => I (i + 1) (ys ++ [y]) (wipeR (DL.kill ρ3) own)) (fun _ _ _ => False) := by simpa [Rs.h] using w
          obtain ⟨r, e3, w⟩ := w
          cases r with
          | ex C fs ρ3 => exact w.elim
          | ok y ρ3 =>
            obtain ⟨zs, ρ', e4, e5, e6⟩ := ih (i + 1) (ys ++ [y]) _ (by omega) hi2 (by rw [List.length_append, List.length_singleton]; omega) w
            rw [List.append_assoc] at e5 e6
            refine ⟨y :: zs, ρ', ?_, e5, e6⟩
            dsimp only
            rw [e3]
            dsimp only
            rw [e4]
            rfl
  obtain ⟨zs, ρ', e1, e2, e3⟩ := this ds.length 0 [] ρ (by omega) (by omega) (Nat.le_refl _) h0
  exact ⟨zs, ρ', by rwa [List.drop_zero] at e1, e2, e3⟩
theorem we_comp {own : List Nat} {s : Rho → Option (Rs (List D))} {h : D → Rho → Option Rho} {t : Rho → Option (Rs Bool)} {g : Rho → Option (Rs D)} {Q : D → Rho → Prop} (w : We (s ρ) (fun ds ρ1 => ds.length ≤ sizeLine ∧ ∃ I : Nat → List D → Rho → Prop, I 0 [] (wipeR ρ1 own) ∧
    (∀ i d ys ρ, ds[i]? = some d → I i ys ρ → ys.length ≤ i → Wd (h d ρ) fun ρ1 => We (t ρ1) (fun b ρ2 => if b = true then We (g ρ2) (fun y ρ3 => I (i + 1) (ys ++ [y]) (wipeR (DL.kill ρ3) own)) (fun _ _ _ => False) else I (i + 1) ys (wipeR ρ2 own)) fun _ _ _ => False) ∧
    ∀ ys ρ2, I ds.length ys ρ2 → Q (.lst true ys) ρ2) X) : We (eComp own s h t g ρ) Q X := by
  refine we_bind (w.mono (fun ds ρ1 z => ?_) fun _ _ _ z => z)
  obtain ⟨hl, I, i0, hs, q⟩ := z
  obtain ⟨ys, ρ2, e1, e2, e3⟩ := compE_inv I i0 hs
  rw [e1, Option.bind_some]
  exact ⟨.ok (.lst true ys) ρ2, by unfold lineO; rw [if_pos (show ys.length ≤ sizeLine by omega)]; rfl, q ys ρ2 e3⟩
/-! #### a def -/
theorem wr_runF {n m : Nat} {pin : List Nat} {g : Rho → Option Out} {ds : List D} {Q : D → List (Option D) → Prop} {X : BX} (hl : ds.length = n) (w : Ws (g (ds.map (fun d => some (false, d)) ++ List.replicate m none)) ⟨fun ρ => Q .non (bkOf n pin ρ), fun d ρ => Q d (bkOf n pin ρ), fun C fs ρ => X C fs (bkOf n pin ρ), fun _ => False, fun _ => False⟩) : Wr (runF n m pin g ds) Q X := by
  obtain ⟨r, e, q⟩ := w
  unfold runF
  rw [if_pos hl, e]
  cases r with
  | nx ρ1 => exact ⟨.ok .non _, rfl, q⟩
  | ret d ρ1 => exact ⟨.ok d _, rfl, q⟩
  | brk ρ1 => exact q.elim
  | cnt ρ1 => exact q.elim
  | ex C fs ρ1 => exact ⟨.ex C fs _, rfl, q⟩
/-! #### values -/
theorem wd_add {i j : Int} {Q : D → Prop} (q : Q (.int (i + j))) : Wd (fAdd (.int i) (.int j)) Q := ⟨_, rfl, q⟩
theorem wd_addS {a b : Str} {Q : D → Prop} (h : a.length + b.length ≤ sizeLine) (q : Q (.str (a ++ b))) : Wd (fAdd (.str a) (.str b)) Q := ⟨_, by unfold fAdd; dsimp only; rw [if_pos h], q⟩
theorem wd_sub {i j : Int} {Q : D → Prop} (q : Q (.int (i - j))) : Wd (fSub (.int i) (.int j)) Q := ⟨_, rfl, q⟩
theorem wd_mul {i j : Int} {Q : D → Prop} (h : cMul i j = true) (q : Q (.int (i * j))) : Wd (fMul (.int i) (.int j)) Q := ⟨_, fMul_int h, q⟩
theorem wd_mod {i j : Int} {Q : D → Prop} (h : j ≠ 0) (q : Q (.int (i.fmod j))) : Wd (fMod (.int i) (.int j)) Q := ⟨_, fMod_int h, q⟩
theorem wd_fdiv {i j : Int} {Q : D → Prop} (h : j ≠ 0 ∧ j.natAbs < 1073741824) (q : Q (.int (i.fdiv j))) : Wd (fFdiv (.int i) (.int j)) Q := ⟨_, fFdiv_int h.1 h.2, q⟩
theorem wd_neg {i : Int} {Q : D → Prop} (q : Q (.int (-i))) : Wd (fNeg (.int i)) Q := ⟨_, rfl, q⟩
theorem wd_lt {i j : Int} {Q : D → Prop} (q : Q (.bl (decide (i < j)))) : Wd (fLt (.int i) (.int j)) Q := ⟨_, rfl, q⟩
theorem wd_le {i j : Int} {Q : D → Prop} (q : Q (.bl (decide (i ≤ j)))) : Wd (fLe (.int i) (.int j)) Q := ⟨_, rfl, q⟩
theorem wd_gt {i j : Int} {Q : D → Prop} (q : Q (.bl (decide (j < i)))) : Wd (fGt (.int i) (.int j)) Q := ⟨_, rfl, q⟩
theorem wd_ge {i j : Int} {Q : D → Prop} (q : Q (.bl (decide (j ≤ i)))) : Wd (fGe (.int i) (.int j)) Q := ⟨_, rfl, q⟩
theorem wd_eqI {i j : Int} {Q : D → Prop} (q : Q (.bl (decide (i = j)))) : Wd (fEqA (.int i) (.int j)) Q := ⟨_, fEqA_int i j, q⟩
theorem wd_neI {i j : Int} {Q : D → Prop} (q : Q (.bl (!decide (i = j)))) : Wd (fNeA (.int i) (.int j)) Q := ⟨_, fNeA_int i j, q⟩
theorem wd_eqS {i j : Str} {Q : D → Prop} (q : Q (.bl (decide (i = j)))) : Wd (fEqA (.str i) (.str j)) Q := ⟨_, rfl, q⟩
theorem wd_neS {i j : Str} {Q : D → Prop} (q : Q (.bl (!decide (i = j)))) : Wd (fNeA (.str i) (.str j)) Q := ⟨_, rfl, q⟩
theorem wd_isN {Q : D → Prop} (q : Q (.bl (isNon d))) : Wd (fIsN d .non) Q := ⟨_, rfl, q⟩
theorem wd_notN {Q : D → Prop} (q : Q (.bl (!isNon d))) : Wd (fNotN d .non) Q := ⟨_, rfl, q⟩
theorem wd_int {i : Int} {Q : D → Prop} (q : Q (.int i)) : Wd (fInt [.int i]) Q := ⟨_, rfl, q⟩
theorem wd_abs {i : Int} {Q : D → Prop} (q : Q (.int (if i < 0 then -i else i))) : Wd (fAbs [.int i]) Q := ⟨_, rfl, q⟩
theorem wd_ixL {b : Bool} {xs : List D} {i : Int} {Q : D → Prop} (h0 : 0 ≤ i) (h : xs[i.toNat]? = some d) (q : Q d) : Wd (fIx (.lst b xs) (.int i)) Q := ⟨d, atI_ok h0 h, q⟩
theorem wd_ixT {xs : List D} {i : Int} {Q : D → Prop} (h0 : 0 ≤ i) (h : xs[i.toNat]? = some d) (q : Q d) : Wd (fIx (.tup xs) (.int i)) Q := ⟨d, atI_ok h0 h, q⟩
theorem wd_putL {xs : List D} {i : Int} {n : Nat} {Q : D × D → Prop} (h0 : 0 ≤ i) (hn : i.toNat = n) (h : i < xs.length) (q : Q (.lst true (xs.set n d), .non)) : Wd (fPutL (.lst true xs) [.int i, d]) Q := ⟨_, by rw [fPutL_at, ixN_ok h0 h, hn]; rfl, q⟩
theorem wd_append {xs : List D} {Q : D × D → Prop} (h : xs.length < sizeLine) (q : Q (.lst true (xs ++ [d]), .non)) : Wd (fAppend (.lst true xs) [d]) Q := ⟨_, by unfold fAppend; dsimp only; rw [if_pos h], q⟩
theorem wd_lenL {b : Bool} {xs : List D} {Q : D → Prop} (q : Q (.int xs.length)) : Wd (fLen [.lst b xs]) Q := ⟨_, rfl, q⟩
theorem wd_lenT {xs : List D} {Q : D → Prop} (q : Q (.int xs.length)) : Wd (fLen [.tup xs]) Q := ⟨_, rfl, q⟩
theorem wd_lenS {x : Str} {Q : D → Prop} (h : x.length ≤ sizeLine) (q : Q (.int x.length)) : Wd (fLen [.str x]) Q := ⟨_, by unfold fLen; dsimp only; rw [if_pos h], q⟩
theorem wd_pow {i j v : Int} {Q : D → Prop} (h : (decide (0 ≤ j) && decide (j ≤ 1000000) && decide (i.natAbs < 2 ^ 64)) = true) (e : i ^ j.toNat = v) (q : Q (.int v)) : Wd (fPow (.int i) (.int j)) Q := ⟨_, by
  show (if (decide (0 ≤ j) && decide (j ≤ 1000000) && decide (i.natAbs < 2 ^ 64)) = true then some (D.int (i ^ j.toNat)) else none) = _
  rw [if_pos h, e], q⟩
theorem ite_dec {p : Prop} [Decidable p] {i : Decidable (decide p = true)} {A B : Prop} (h : p → A) (k : ¬ p → B) : @ite Prop (decide p = true) i A B := by
  by_cases q : p
  · rw [if_pos (decide_eq_true q)]; exact h q
  · rw [if_neg (by simp [q])]; exact k q
theorem ite_ndec {p : Prop} [Decidable p] {i : Decidable ((!decide p) = true)} {A B : Prop} (h : ¬ p → A) (k : p → B) : @ite Prop ((!decide p) = true) i A B := by
  by_cases q : p
  · rw [if_neg (by simp [q])]; exact k q
  · rw [if_pos (by simp [q])]; exact h q
theorem ite_t {i : Decidable (true = true)} {A B : Prop} (h : A) : @ite Prop (true = true) i A B := by rw [if_pos rfl]; exact h
theorem ite_f {i : Decidable (false = true)} {A B : Prop} (h : B) : @ite Prop (false = true) i A B := by rw [if_neg Bool.false_ne_true]; exact h
theorem ite_nt {i : Decidable ((!true) = true)} {A B : Prop} (h : B) : @ite Prop ((!true) = true) i A B := by rw [if_neg (by simp)]; exact h
theorem ite_nf {i : Decidable ((!false) = true)} {A B : Prop} (h : A) : @ite Prop ((!false) = true) i A B := by rw [if_pos (by simp)]; exact h
theorem ite_b {b : Bool} {i : Decidable (b = true)} {A B : Prop} (h : b = true → A) (k : b = false → B) : @ite Prop (b = true) i A B := by
  cases b with
  | true => rw [if_pos rfl]; exact h rfl
  | false => rw [if_neg Bool.false_ne_true]; exact k rfl
theorem fIsi_ty {d : D} {m n : String} {b : Bool} (h : tyN d = some m) (e : kitB m n = some b) : fIsi [d, .ty n] = some (.bl b) := by
  unfold fIsi
  dsimp only
  rw [h, Option.bind_some, e]
  rfl
theorem wd_isi {d : D} {m n : String} (b : Bool) {Q : D → Prop} (h : tyN d = some m) (e : kitB m n = some b) (q : Q (.bl b)) : Wd (fIsi [d, .ty n]) Q := ⟨_, fIsi_ty h e, q⟩
theorem wd_isiI {i : Int} {n : String} (b : Bool) {Q : D → Prop} (e : kitB "int" n = some b) (q : Q (.bl b)) : Wd (fIsi [.int i, .ty n]) Q := wd_isi b rfl e q
theorem wd_isiS {i : Str} {n : String} (b : Bool) {Q : D → Prop} (e : kitB "str" n = some b) (q : Q (.bl b)) : Wd (fIsi [.str i, .ty n]) Q := wd_isi b rfl e q
theorem wd_isiB {i : Bool} {n : String} (b : Bool) {Q : D → Prop} (e : kitB "bool" n = some b) (q : Q (.bl b)) : Wd (fIsi [.bl i, .ty n]) Q := wd_isi b rfl e q
theorem wd_isiN  {n : String} (b : Bool) {Q : D → Prop} (e : kitB "NoneType" n = some b) (q : Q (.bl b)) : Wd (fIsi [.non, .ty n]) Q := wd_isi b rfl e q
theorem wd_isiL {o : Bool} {xs : List D} {n : String} (b : Bool) {Q : D → Prop} (e : kitB "list" n = some b) (q : Q (.bl b)) : Wd (fIsi [.lst o xs, .ty n]) Q := wd_isi b rfl e q
theorem wd_isiT {xs : List D} {n : String} (b : Bool) {Q : D → Prop} (e : kitB "tuple" n = some b) (q : Q (.bl b)) : Wd (fIsi [.tup xs, .ty n]) Q := wd_isi b rfl e q
theorem exI {i : Int} {Q : Int → Prop} (q : Q i) : ∃ j, D.int i = .int j ∧ Q j := ⟨i, rfl, q⟩
theorem wd_isNT {d : D} {Q : D → Prop} (h : isNon d = true) (q : Q (.bl true)) : Wd (fIsN d .non) Q := wd_isN (h ▸ q)
theorem wd_isNF {d : D} {Q : D → Prop} (h : isNon d = false) (q : Q (.bl false)) : Wd (fIsN d .non) Q := wd_isN (h ▸ q)
theorem wd_notNT {d : D} {Q : D → Prop} (h : isNon d = true) (q : Q (.bl false)) : Wd (fNotN d .non) Q := ⟨_, by show some (D.bl (!isNon d)) = _; rw [h]; rfl, q⟩
theorem wd_notNF {d : D} {Q : D → Prop} (h : isNon d = false) (q : Q (.bl true)) : Wd (fNotN d .non) Q := ⟨_, by show some (D.bl (!isNon d)) = _; rw [h]; rfl, q⟩
theorem fzs_nil : fzs [] = [] := by rw [fzs]
theorem fzs_cons (d : D) (ds : List D) : fzs (d :: ds) = fz d :: fzs ds := by rw [fzs]
theorem fz_andI {i : Int} {A : Prop} (h : A) : isFz (.int i) = true ∧ A := ⟨by rw [isFz] <;> intros <;> contradiction, h⟩
theorem fz_andS {i : Str} {A : Prop} (h : A) : isFz (.str i) = true ∧ A := ⟨by rw [isFz] <;> intros <;> contradiction, h⟩
theorem fz_andB {i : Bool} {A : Prop} (h : A) : isFz (.bl i) = true ∧ A := ⟨by rw [isFz] <;> intros <;> contradiction, h⟩
theorem fz_andN {A : Prop} (h : A) : isFz .non = true ∧ A := ⟨by rw [isFz] <;> intros <;> contradiction, h⟩
theorem flat_andI {i : Int} {A : Prop} (h : A) : flat (.int i) = true ∧ A := ⟨rfl, h⟩
theorem flat_andS {i : Str} {A : Prop} (h : A) : flat (.str i) = true ∧ A := ⟨rfl, h⟩
theorem flat_andB {i : Bool} {A : Prop} (h : A) : flat (.bl i) = true ∧ A := ⟨rfl, h⟩
theorem flat_andN {A : Prop} (h : A) : flat .non = true ∧ A := ⟨rfl, h⟩
theorem isFz_int (i : Int) : isFz (.int i) = true := by rw [isFz] <;> intros <;> contradiction
theorem isFz_str (i : Str) : isFz (.str i) = true := by rw [isFz] <;> intros <;> contradiction
theorem isFz_bl (i : Bool) : isFz (.bl i) = true := by rw [isFz] <;> intros <;> contradiction
theorem isFz_non : isFz .non = true := by rw [isFz] <;> intros <;> contradiction
theorem wd_mulB {i j : Int} {Q : D → Prop} (h : i.natAbs < 2 ^ 100 ∧ j.natAbs < 2 ^ 100) (q : Q (.int (i * j))) : Wd (fMul (.int i) (.int j)) Q := wd_mul (cMul_of h.1 h.2 (by decide) (by decide) (by decide)) q
theorem wd_modP {i j : Int} {Q : D → Prop} (h : 0 < j) (q : ∀ r, r = i.fmod j → 0 ≤ r → r < j → Q (.int r)) : Wd (fMod (.int i) (.int j)) Q := wd_mod (by omega) (q _ rfl (Int.fmod_nonneg_of_pos i h) (Int.fmod_lt_of_pos i h))
theorem fdiv_le {i j : Int} (h : 0 < j) (hi : 0 ≤ i) : 0 ≤ i.fdiv j ∧ i.fdiv j ≤ i := by
  rw [Int.fdiv_eq_ediv_of_nonneg _ (by omega)]
  exact ⟨Int.ediv_nonneg hi (by omega), Int.ediv_le_self j hi⟩
theorem wd_fdivP {i j : Int} {Q : D → Prop} (h : 0 < j ∧ j < 1073741824) (q : ∀ r, r = i.fdiv j → (0 ≤ i → 0 ≤ r ∧ r ≤ i) → Q (.int r)) : Wd (fFdiv (.int i) (.int j)) Q := wd_fdiv ⟨by omega, by omega⟩ (q _ rfl (fdiv_le h.1))
theorem wd_ixInts {b : Bool} {ns : List Int} {i : Int} {Q : D → Prop} (h : 0 ≤ i ∧ i < (ns.map D.int).length) (q : ∀ z, z ∈ ns → ns[i.toNat]? = some z → Q (.int z)) : Wd (fIx (.lst b (ns.map D.int)) (.int i)) Q := by
  have h2 : i.toNat < ns.length := by
    rw [List.length_map] at h
    omega
  exact wd_ixL h.1 (by rw [List.getElem?_map, List.getElem?_eq_getElem h2]; rfl) (q _ (List.getElem_mem h2) (List.getElem?_eq_getElem h2))
/-- a sign of a text -/
theorem wd_ixS {x : Str} {i : Int} {Q : D → Prop} (h : 0 ≤ i ∧ i < x.length ∧ x.length ≤ sizeLine) (q : ∀ c, c ∈ x.cps.toList → x.cps.toList[i.toNat]? = some c → Q (.str ⟨#[c]⟩)) : Wd (fIx (.str x) (.int i)) Q := by
  have hl : x.cps.toList.length = x.length := Array.length_toList
  have h2 : i.toNat < x.cps.toList.length := by omega
  refine ⟨_, ?_, q _ (List.getElem_mem h2) (List.getElem?_eq_getElem h2)⟩
  show (if x.length ≤ sizeLine then (L2.atI x.cps.toList i).map fun c => D.str ⟨#[c]⟩ else none) = _
  rw [if_pos h.2.2, atI_ok h.1 (List.getElem?_eq_getElem h2)]
  rfl
theorem wd_absP {i : Int} {Q : D → Prop} (q : ∀ r : Int, 0 ≤ r → r.natAbs = i.natAbs → Q (.int r)) : Wd (fAbs [.int i]) Q := wd_abs (q _ (by split <;> omega) (by split <;> omega))
theorem wd_notIn {c : Nat} {z : Str} {Q : D → Prop} (q : Q (.bl (!decide (c ∈ z.cps.toList)))) : Wd (fNotInS (.str ⟨#[c]⟩) (.str z)) Q := ⟨_, rfl, q⟩
theorem wd_inS {c : Nat} {z : Str} {Q : D → Prop} (q : Q (.bl (decide (c ∈ z.cps.toList)))) : Wd (fInS (.str ⟨#[c]⟩) (.str z)) Q := ⟨_, rfl, q⟩
theorem seqL {o : Bool} {xs : List D} {Q : List D → Prop} (q : Q xs) : (∃ o' xs', D.lst o xs = .lst o' xs' ∧ Q xs') ∨ (∃ xs', D.lst o xs = .tup xs' ∧ Q xs') ∨ ∃ x, D.lst o xs = .str x ∧ Q (DL.signs x) := .inl ⟨_, _, rfl, q⟩
theorem seqT {xs : List D} {Q : List D → Prop} (q : Q xs) : (∃ o' xs', D.tup xs = .lst o' xs' ∧ Q xs') ∨ (∃ xs', D.tup xs = .tup xs' ∧ Q xs') ∨ ∃ x, D.tup xs = .str x ∧ Q (DL.signs x) := .inr (.inl ⟨_, rfl, q⟩)
theorem seqS {x : Str} {Q : List D → Prop} (q : Q (DL.signs x)) : (∃ o' xs', D.str x = .lst o' xs' ∧ Q xs') ∨ (∃ xs', D.str x = .tup xs' ∧ Q xs') ∨ ∃ x', D.str x = .str x' ∧ Q (DL.signs x') := .inr (.inr ⟨_, rfl, q⟩)
/-- a cut between statements -/
theorem ws_seqI {g h : Rho → Option Out} (I : Rho → Prop) (w : Ws (g ρ) ⟨I, P.ret, P.ex, P.brk, P.cnt⟩) (k : ∀ ρ1, I ρ1 → Ws (h ρ1) P) : Ws (sSeq g h ρ) P := ws_seq (w.mono fun r z => by
  cases r with
  | nx ρ1 => exact k ρ1 z
  | _ => exact z)
theorem str_len (x : Str) : x.cps.toList.length = x.length := Array.length_toList
theorem str_ext {x y : Str} (h : x.cps.toList = y.cps.toList) : x = y := by
  cases x; cases y
  have := Array.toList_inj.mp h
  simp only at this
  rw [this]
theorem signs_get {x : Str} {i : Nat} {d : D} (h : (DL.signs x)[i]? = some d) : ∃ c, x.cps.toList[i]? = some c ∧ d = .str ⟨#[c]⟩ := by
  unfold DL.signs at h
  rw [List.getElem?_map] at h
  obtain ⟨c, e, rfl⟩ := map_some' h
  exact ⟨c, e, rfl⟩
theorem signs_len (x : Str) : (DL.signs x).length = x.length := by unfold DL.signs; rw [List.length_map, str_len]
theorem rng_get' {lo : Int} {n i : Nat} {d : D} (h : (rng lo n)[i]? = some d) : i < n ∧ d = .int (lo + i) := rng_get h
theorem asBools_true : ∀ {ys : List D}, (∀ y ∈ ys, y = .bl true) → asBools ys = some (List.replicate ys.length true)
  | [], _ => rfl
  | y :: ys, h => by
    rw [h y List.mem_cons_self, asBools, asBools_true fun z hz => h z (List.mem_cons_of_mem _ hz)]
    rfl
theorem wd_allT {o : Bool} {ys : List D} {Q : D → Prop} (h : ∀ y ∈ ys, y = .bl true) (q : Q (.bl true)) : Wd (fAll [.lst o ys]) Q := by
  refine ⟨.bl true, ?_, q⟩
  unfold fAll fOfL
  dsimp only
  rw [asBools_true h, Option.bind_some]
  simp
theorem mem_of_all {ys ds : List D} {P : D → Prop} (hl : ys.length = ds.length) (h : ∀ (i : Nat) (d y : D), ds[i]? = some d → ys[i]? = some y → P y) : ∀ y ∈ ys, P y := fun y hy => by
  obtain ⟨i, hi, e⟩ := List.getElem_of_mem hy
  exact h i _ y (List.getElem?_eq_getElem (by omega)) (by rw [List.getElem?_eq_getElem hi, e])
/-! #### texts joined, cut, repeated -/
theorem wd_join {o : Bool} {a : Str} {ys : List Str} {Q : D → Prop} (h : (ys.map (·.length)).sum + ys.length * a.length ≤ 16777216) (q : Q (.str (Txt.join a ys))) : Wd (fJoin (.str a) [.lst o (ys.map .str)]) Q := ⟨_, by
  unfold fJoin
  dsimp only
  rw [asStrs_map, Option.bind_some]
  unfold joinD
  rw [if_pos h], q⟩
theorem joinL_len (S : List Nat) : ∀ ps : List (List Nat), (TL.joinL S ps).length ≤ (ps.map (·.length)).sum + ps.length * S.length
  | [] => Nat.zero_le _
  | [p] => by
    show p.length ≤ (p.length + 0) + 1 * S.length
    omega
  | p :: q :: r => by
    have ih := joinL_len S (q :: r)
    have e : (TL.joinL S (p :: q :: r)).length = p.length + (S.length + (TL.joinL S (q :: r)).length) := by
      show (p ++ (S ++ TL.joinL S (q :: r))).length = _
      rw [List.length_append, List.length_append]
    rw [e]
    have e2 : ((p :: q :: r).map (·.length)).sum = p.length + ((q :: r).map (·.length)).sum := rfl
    have e3 : (p :: q :: r).length * S.length = S.length + (q :: r).length * S.length := by
      show ((q :: r).length + 1) * S.length = _
      rw [Nat.add_mul, Nat.one_mul, Nat.add_comm]
    rw [e2, e3]
    omega
theorem join_len (a : Str) (ys : List Str) : (Txt.join a ys).length ≤ (ys.map (·.length)).sum + ys.length * a.length := by
  have h := joinL_len a.cps.toList (ys.map TL.tl)
  rw [TL.join_eq, ← str_len]
  have e : (Str.join a ys).cps.toList = TL.joinL a.cps.toList (ys.map TL.tl) := TL.tl_join a ys
  rw [e]
  rw [List.map_map, List.length_map, str_len] at h
  have e2 : (ys.map ((fun x => x.length) ∘ TL.tl)) = ys.map (·.length) := List.map_congr_left fun y _ => str_len y
  rw [e2] at h
  exact h
theorem sum_le {ys : List Str} {B : Nat} (h : ∀ y ∈ ys, y.length ≤ B) : (ys.map (·.length)).sum ≤ ys.length * B := by
  induction ys with
  | nil => exact Nat.zero_le _
  | cons y ys ih =>
    have h1 := h y List.mem_cons_self
    have h2 := ih fun z hz => h z (List.mem_cons_of_mem _ hz)
    show y.length + (ys.map (·.length)).sum ≤ (ys.length + 1) * B
    rw [Nat.add_mul, Nat.one_mul]
    omega
theorem sum_ones {ys : List Str} (h : ∀ y ∈ ys, y.length = 1) : (ys.map (·.length)).sum = ys.length := by
  induction ys with
  | nil => rfl
  | cons y ys ih =>
    have h1 := h y List.mem_cons_self
    have h2 := ih fun z hz => h z (List.mem_cons_of_mem _ hz)
    show y.length + (ys.map (·.length)).sum = ys.length + 1
    omega
theorem cutS_len (z : Str) (lo hi : Option Int) : (cutS z lo hi).length ≤ z.length := by
  unfold cutS
  rw [← str_len]
  simp only [StrLaws.strSub_toList, List.length_take, List.length_drop, str_len]
  omega
theorem wd_slS {z : Str} {lo hi : Option Int} {Q : D → Prop} (h : z.length ≤ sizeLine) (q : ∀ y : Str, y = cutS z lo hi → y.length ≤ z.length → Q (.str y)) : Wd (fSl (.str z) lo hi) Q := ⟨_, by unfold fSl; dsimp only; rw [if_pos h], q _ rfl (cutS_len z lo hi)⟩
theorem wd_mulS {z : Str} {n : Int} {Q : D → Prop} (h : 1 ≤ n ∧ n < 2 ^ 24 ∧ z.length * n.toNat ≤ sizeLine) (q : Q (.str (repS z n.toNat))) : Wd (fMul (.str z) (.int n)) Q := ⟨_, by unfold fMul; dsimp only; rw [if_pos h], q⟩
theorem wd_cat {o o' : Bool} {xs ys : List D} {Q : D → Prop} (h : isFzs xs = true ∧ isFzs ys = true ∧ xs.length + ys.length ≤ sizeLine) (q : Q (.lst true (xs ++ ys))) : Wd (fAdd (.lst o xs) (.lst o' ys)) Q := ⟨_, by unfold fAdd; dsimp only; unfold fCat; rw [if_pos h]; rfl, q⟩
theorem wd_some {x : α} {Q : α → Prop} (q : Q x) : Wd (some x) Q := ⟨x, rfl, q⟩
end
end DL

set_option Elab.async false
set_option linter.all false
set_option maxRecDepth 100000
set_option maxHeartbeats 4000000
/-! DLS: the law's end. -/
namespace DL
open PySem PySem.Spec PyProof.Rows L2
theorem law_prom {K : PySem.W.Frag} {H : Hp} {a : Addr} {ns : List Int} {fn : List D → Option DL.Rd} (hO : Only H) (hS : SqL K H a (ns.map V.int)) (w : Wr (fn [.scr ns]) (fun d _ => d = .bl true) noX) : Prom K fn [.ref a] H (fun v _ => v = .bl true) (fun _ _ _ => False) := by
  obtain ⟨r, e, h⟩ := w
  have sa : ScrAt K (fun b => H b ≠ none) H a ns := by
    rcases hS with hS | hS
    · rcases hS with hS | ⟨o, hS⟩
      · rcases hO a with z | ⟨o, xs, z⟩
        · rw [hS] at z; cases z
        · rw [hS] at z; cases z
      · exact .inl ⟨show H a ≠ none by rw [hS]; exact fun z => (nomatch z), o, hS⟩
    · exact .inr hS
  refine ⟨fun b => H b ≠ none, [.scr ns], [], r, ⟨.one (.scr sa), List.nodup_nil, fun _ z => (nomatch z), fun _ z => z⟩, e, fun d bk z F' H' v B => ?_, fun C fs bk z F' H' q B x => ?_⟩
  · subst z
    have hd : d = .bl true := h
    subst hd
    obtain ⟨l, r, _⟩ := B.rep
    cases r with
    | cons r _ => exact r.bl_inv
  · subst z
    exact h
theorem no_let {P : Program} {w : World} {H : Hp} {s : Shared} {e : Value} {s' : Shared} (h : L2.CX P w [] H s (fun _ _ _ => False) e s') : False := by
  obtain ⟨_, _, _, _, _, _, _, _, _, _, _, _, z⟩ := h
  exact z
end DL

set_option Elab.async false
set_option linter.all false
set_option maxRecDepth 100000
set_option maxHeartbeats 4000000
namespace K00
open PySem PySem.Spec PyProof.Rows L2 DL
def topS (i : Nat) : Stmt := PySem.Challenge.pw_actsapart_k00_numerals_and_lines.main.body.getD i (.Pass ⟨0, 0, 0, 0⟩)
theorem passF {X : Cx} (σ : L2.St) : PassesAt (L2.CX X.prog X.w) X σ (WE W0 σ) := fun _ _ _ _ _ _ h => by
  obtain ⟨_, _, _, _, _, _, _, _, _, _, _, _, z⟩ := h
  exact z.elim
structure Bt (K : PySem.W.Frag) (mg : Str → Option Value) : Prop where
  m_abs : mg "abs" = none
  m_all : mg "all" = none
  m_bool : mg "bool" = none
  m_int : mg "int" = none
  m_isinstance : mg "isinstance" = none
  m_len : mg "len" = none
  m_list : mg "list" = none
  m_range : mg "range" = none
  m_str : mg "str" = none
  m_tuple : mg "tuple" = none
  c_DIGITS : ∃ u, mg "DIGITS" = some u ∧ RelV (V.str (PySem.Str.ofString "0123456789")) u
  c_MOST_DIGITS : ∃ u, mg "MOST_DIGITS" = some u ∧ RelV (V.int 2000) u
  digits : PySem.W.nsIn K cStatics digitsKey = some none
abbrev s_numeral : Stmt := topS 3
def N_numeral : List Str := ["text", "char"]
theorem sc_numeral : FnScope N_numeral ["text"] (defScope s_numeral) := ⟨rfl, rfl, rfl, by decide +kernel, rfl, by decide +kernel, by decide +kernel⟩
def b_numeral  : { g : Rho → Option Out // ∀ {P : Program} {w : World} {K : PySem.W.Frag} {mg : Str → Option Value} {base : Heap} {k : Nat} {f : Addr} (B : Bt K mg) (cdv : Value) (A : Around) (outer : List Env) (s : Shared) (H : Hp) (E : XK), Room k (A.deeper (envOfC "numeral" (defScope s_numeral) s.heap.objs.size f cdv)) → DSs (cxOf (L2.CX P w) P w K mg base N_numeral "numeral" (defScope s_numeral) f cdv A outer s H E) (Wf E) [0] (defBody s_numeral) g } :=
  ⟨_, fun {P w K mg base k f} B cdv A outer s H E hr =>
    have sc := sc_numeral
    have hu := hr.units
    have hpo : PassesOwn _ _ _ (cxOf (L2.CX P w) P w K mg base N_numeral "numeral" (defScope s_numeral) f cdv A outer s H E).xe := passes_of rfl
    have hx : ∀ σ, PassesAt (L2.CX P w) (cxOf (L2.CX P w) P w K mg base N_numeral "numeral" (defScope s_numeral) f cdv A outer s H E) σ (WE (Wf E) σ) := fun σ => passAt (takes_of rfl rfl rfl rfl) σ
    have hx0 : ∀ {X : Cx} σ, PassesAt (L2.CX X.prog X.w) X σ (WE W0 σ) := fun σ => passF σ
    (dss_cons (ds_if (DT.toE (DW.toT (dw_or (dt_cmp (op_eqA hu) v_eqA (dv_var 0) dv_str) (dw_or1 (dt_cmp op_gt v_gt (DN.toV (dn_callB call_len v_len (by rfl) B.m_len PySem.boot_len (dvs_cons (dv_var 0) dvs_nil))) (dv_glob (by rfl) B.c_MOST_DIGITS (fun _ _ => .int _))))))) (dss_one (ds_ret (DV.toE dv_non))) dss_nil)
    (dss_cons (ds_if (DT.toE (DW.toT (dw_and (dt_cmp (op_eqA hu) v_eqA (dv_ix ix_seq v_ix (dv_var 0) dv_int) dv_str) (dw_and1 (dt_cmp op_gt v_gt (DN.toV (dn_callB call_len v_len (by rfl) B.m_len PySem.boot_len (dvs_cons (dv_var 0) dvs_nil))) dv_int))))) (dss_one (ds_ret (DV.toE dv_non))) dss_nil)
    (dss_cons (ds_for hpo rfl (di_seq (DV.toE (dv_var 0))) (dg_name 1 sc.nd) (dss_one (ds_if (DT.toE (dt_cmp op_notIn_sign v_notInS (dv_var 1) (dv_glob (by rfl) B.c_DIGITS (fun _ _ => .str _)))) (dss_one (ds_ret (DV.toE dv_non))) dss_nil)))
    (dss_one (ds_ret (DN.toE (dn_callTy (cr_intText B.digits) v_intT (by rfl) B.m_int boot_int (dvs_cons (dv_var 0) dvs_nil))))))))⟩
theorem cl_numeral {P : Program} {w : World} {K : PySem.W.Frag} {mg : Str → Option Value} {base : Heap} {k : Nat} {f : Addr} {fd : FuncData}  (B : Bt K mg) (d : Df K mg "numeral" s_numeral ["text"] f fd) : Cl P w K mg base (k + 1) "numeral" (runF 1 1 [0] (b_numeral ).1) := cl_of d sc_numeral rfl rfl fun cdv A outer s H E hr => (b_numeral ).2 B cdv A outer s H E hr
abbrev s_whole_lines : Stmt := topS 4
def N_whole_lines : List Str := ["text", "parts"]
theorem sc_whole_lines : FnScope N_whole_lines ["text"] (defScope s_whole_lines) := ⟨rfl, rfl, rfl, by decide +kernel, rfl, by decide +kernel, by decide +kernel⟩
def b_whole_lines  : { g : Rho → Option Out // ∀ {P : Program} {w : World} {K : PySem.W.Frag} {mg : Str → Option Value} {base : Heap} {k : Nat} {f : Addr} (B : Bt K mg) (cdv : Value) (A : Around) (outer : List Env) (s : Shared) (H : Hp) (E : XK), Room k (A.deeper (envOfC "whole_lines" (defScope s_whole_lines) s.heap.objs.size f cdv)) → DSs (cxOf (L2.CX P w) P w K mg base N_whole_lines "whole_lines" (defScope s_whole_lines) f cdv A outer s H E) (Wf E) [0] (defBody s_whole_lines) g } :=
  ⟨_, fun {P w K mg base k f} B cdv A outer s H E hr =>
    have sc := sc_whole_lines
    have hu := hr.units
    have hpo : PassesOwn _ _ _ (cxOf (L2.CX P w) P w K mg base N_whole_lines "whole_lines" (defScope s_whole_lines) f cdv A outer s H E).xe := passes_of rfl
    have hx : ∀ σ, PassesAt (L2.CX P w) (cxOf (L2.CX P w) P w K mg base N_whole_lines "whole_lines" (defScope s_whole_lines) f cdv A outer s H E) σ (WE (Wf E) σ) := fun σ => passAt (takes_of rfl rfl rfl rfl) σ
    have hx0 : ∀ {X : Cx} σ, PassesAt (L2.CX X.prog X.w) X σ (WE W0 σ) := fun σ => passF σ
    (dss_cons (ds_set 1 (DE.fz (DN.toE (dn_bm PySem.F.plainAttrs_str PySem.F.slot_str_split PySem.F.type_str_split mt_splitD kdS_ok v_split (dv_var 0) (dvs_cons dv_str dvs_nil)))) sc.nd)
    (dss_one (ds_ret (de_tup (n := 2) (des_cons (DN.toE (dn_slice sl_all v_sl (dv_var 1) dpo_none (dpo_some (dv_op1 un_neg v_neg dv_int)))) (des_cons (DV.toE (dv_ix ix_seq v_ix (dv_var 1) (dv_op1 un_neg v_neg dv_int))) des_nil))))))⟩
theorem cl_whole_lines {P : Program} {w : World} {K : PySem.W.Frag} {mg : Str → Option Value} {base : Heap} {k : Nat} {f : Addr} {fd : FuncData}  (B : Bt K mg) (d : Df K mg "whole_lines" s_whole_lines ["text"] f fd) : Cl P w K mg base (k + 1) "whole_lines" (runF 1 1 [0] (b_whole_lines ).1) := cl_of d sc_whole_lines rfl rfl fun cdv A outer s H E hr => (b_whole_lines ).2 B cdv A outer s H E hr
abbrev s__law_mixed : Stmt := topS 6
def N__law_mixed : List Str := ["number", "k", "value"]
theorem sc__law_mixed : FnScope N__law_mixed ["number", "k"] (defScope s__law_mixed) := ⟨rfl, rfl, rfl, by decide +kernel, rfl, by decide +kernel, by decide +kernel⟩
def b__law_mixed  : { g : Rho → Option Out // ∀ {P : Program} {w : World} {K : PySem.W.Frag} {mg : Str → Option Value} {base : Heap} {k : Nat} {f : Addr} (B : Bt K mg) (cdv : Value) (A : Around) (outer : List Env) (s : Shared) (H : Hp) (E : XK), Room k (A.deeper (envOfC "_law_mixed" (defScope s__law_mixed) s.heap.objs.size f cdv)) → DSs (cxOf (L2.CX P w) P w K mg base N__law_mixed "_law_mixed" (defScope s__law_mixed) f cdv A outer s H E) (Wf E) [0, 1] (defBody s__law_mixed) g } :=
  ⟨_, fun {P w K mg base k f} B cdv A outer s H E hr =>
    have sc := sc__law_mixed
    have hu := hr.units
    have hpo : PassesOwn _ _ _ (cxOf (L2.CX P w) P w K mg base N__law_mixed "_law_mixed" (defScope s__law_mixed) f cdv A outer s H E).xe := passes_of rfl
    have hx : ∀ σ, PassesAt (L2.CX P w) (cxOf (L2.CX P w) P w K mg base N__law_mixed "_law_mixed" (defScope s__law_mixed) f cdv A outer s H E) σ (WE (Wf E) σ) := fun σ => passAt (takes_of rfl rfl rfl rfl) σ
    have hx0 : ∀ {X : Cx} σ, PassesAt (L2.CX X.prog X.w) X σ (WE W0 σ) := fun σ => passF σ
    (dss_cons (ds_set 2 (DN.toE (dn_op2 op_addA v_add (DN.toV (dn_op2 op_addA v_add (DN.toV (dn_op2 op_mulA v_mul (DN.toV (dn_callTy call_int1 v_int (by rfl) B.m_int boot_int (dvs_cons (dv_var 0) dvs_nil))) dv_int)) (DN.toV (dn_op2 op_mulA v_mul (dv_var 1) dv_int)))) dv_int)) sc.nd)
    (dss_cons (ds_set 2 (DN.toE (dn_op2 op_addA v_add (DN.toV (dn_op2 op_addA v_add (DN.toV (dn_op2 op_mulA v_mul (DN.toV (dn_callTy call_int1 v_int (by rfl) B.m_int boot_int (dvs_cons (dv_op2 op_modN v_mod (DN.toV (dn_callTy call_int1 v_int (by rfl) B.m_int boot_int (dvs_cons (dv_var 2) dvs_nil))) dv_int) dvs_nil))) dv_int)) (DN.toV (dn_op2 op_mulA v_mul (dv_var 1) dv_int)))) dv_int)) sc.nd)
    (dss_one (ds_ret (DV.toE (dv_op2 op_modN v_mod (DN.toV (dn_callTy call_int1 v_int (by rfl) B.m_int boot_int (dvs_cons (dv_var 2) dvs_nil))) dv_int))))))⟩
theorem cl__law_mixed {P : Program} {w : World} {K : PySem.W.Frag} {mg : Str → Option Value} {base : Heap} {k : Nat} {f : Addr} {fd : FuncData}  (B : Bt K mg) (d : Df K mg "_law_mixed" s__law_mixed ["number", "k"] f fd) : Cl P w K mg base (k + 1) "_law_mixed" (runF 2 1 [0, 1] (b__law_mixed ).1) := cl_of d sc__law_mixed rfl rfl fun cdv A outer s H E hr => (b__law_mixed ).2 B cdv A outer s H E hr
abbrev s__law_take : Stmt := topS 7
def N__law_take : List Str := ["tape", "limit", "cell"]
theorem sc__law_take : FnScope N__law_take ["tape", "limit"] (defScope s__law_take) := ⟨rfl, rfl, rfl, by decide +kernel, rfl, by decide +kernel, by decide +kernel⟩
def b__law_take (f__law_mixed : List D → Option Rd) : { g : Rho → Option Out // ∀ {P : Program} {w : World} {K : PySem.W.Frag} {mg : Str → Option Value} {base : Heap} {k : Nat} {f : Addr} (B : Bt K mg) (c__law_mixed : Cl P w K mg base k "_law_mixed" f__law_mixed) (cdv : Value) (A : Around) (outer : List Env) (s : Shared) (H : Hp) (E : XK), Room k (A.deeper (envOfC "_law_take" (defScope s__law_take) s.heap.objs.size f cdv)) → DSs (cxOf (L2.CX P w) P w K mg base N__law_take "_law_take" (defScope s__law_take) f cdv A outer s H E) (Wf E) [0, 1] (defBody s__law_take) g } :=
  ⟨_, fun {P w K mg base k f} B c__law_mixed cdv A outer s H E hr =>
    have sc := sc__law_take
    have hu := hr.units
    have hpo : PassesOwn _ _ _ (cxOf (L2.CX P w) P w K mg base N__law_take "_law_take" (defScope s__law_take) f cdv A outer s H E).xe := passes_of rfl
    have hx : ∀ σ, PassesAt (L2.CX P w) (cxOf (L2.CX P w) P w K mg base N__law_take "_law_take" (defScope s__law_take) f cdv A outer s H E) σ (WE (Wf E) σ) := fun σ => passAt (takes_of rfl rfl rfl rfl) σ
    have hx0 : ∀ {X : Cx} σ, PassesAt (L2.CX X.prog X.w) X σ (WE W0 σ) := fun σ => passF σ
    (dss_cons (ds_put set_list v_putL (DN.toE (dn_op2 op_addA v_add (dv_ix ix_seq v_ix (dv_var 0) dv_int) dv_int)) (dpl_var 0) dv_int)
    (dss_cons (ds_if (DT.toE (DW.toT (dw_and (dt_cmp (op_eqA hu) v_eqA (dv_ix ix_seq v_ix (dv_var 0) dv_int) dv_int) (dw_and1 (dt_cmp op_lt v_lt (dv_ix ix_seq v_ix (dv_var 0) dv_int) (DN.toV (dn_callB call_len v_len (by rfl) B.m_len PySem.boot_len (dvs_cons (dv_ix ix_seq v_ix (dv_var 0) dv_int) dvs_nil)))))))) (dss_cons (ds_set 2 (DN.toE (dn_callB call_abs v_abs (by rfl) B.m_abs boot_abs (dvs_cons (dv_ix ix_seq v_ix (dv_ix ix_seq v_ix (dv_var 0) dv_int) (dv_ix ix_seq v_ix (dv_var 0) dv_int)) dvs_nil))) sc.nd)
    (dss_cons (ds_put set_list v_putL (DN.toE (dn_op2 op_addA v_add (dv_ix ix_seq v_ix (dv_var 0) dv_int) dv_int)) (dpl_var 0) dv_int)
    (dss_cons (ds_if (DT.toE (dt_cmp op_lt v_lt (dv_var 2) (dv_op2 op_pow v_pow dv_int dv_int))) (dss_cons (ds_put set_list v_putL (DN.toE (dn_cV c__law_mixed hr hx (dvs_cons (DN.toV (dn_op2 op_addA v_add (dv_ix ix_seq v_ix (dv_var 0) dv_int) (dv_var 2))) (dvs_cons (dv_ix ix_seq v_ix (dv_var 0) dv_int) dvs_nil)))) (dpl_var 0) dv_int)
    (dss_one (ds_ret (DV.toE (dv_op2 op_modN v_mod (DN.toV (dn_callTy call_int1 v_int (by rfl) B.m_int boot_int (dvs_cons (dv_op2 op_fdivN v_fdiv (dv_ix ix_seq v_ix (dv_var 0) dv_int) dv_int) dvs_nil))) (dv_var 1)))))) dss_nil)
    (dss_one (ds_put set_list v_putL (DV.toE (dv_var 2)) (dpl_var 0) dv_int))))) dss_nil)
    (dss_cons (ds_if (DT.toE (dt_cmp op_gt v_gt (dv_ix ix_seq v_ix (dv_var 0) dv_int) dv_int)) (dss_cons (ds_setV 2 (dv_ix ix_seq v_ix (dv_var 0) dv_int) sc.nd)
    (dss_cons (ds_put set_list v_putL (DV.toE (dv_op2 op_fdivN v_fdiv (dv_var 2) (dv_var 1))) (dpl_var 0) dv_int)
    (dss_one (ds_ret (DV.toE (dv_op2 op_modN v_mod (DN.toV (dn_callTy call_int1 v_int (by rfl) B.m_int boot_int (dvs_cons (dv_var 2) dvs_nil))) (dv_var 1))))))) dss_nil)
    (dss_cons (ds_put set_list v_putL (DN.toE (dn_cV c__law_mixed hr hx (dvs_cons (dv_ix ix_seq v_ix (dv_var 0) dv_int) (dvs_cons (dv_ix ix_seq v_ix (dv_var 0) dv_int) dvs_nil)))) (dpl_var 0) dv_int)
    (dss_one (ds_ret (DV.toE (dv_op2 op_modN v_mod (DN.toV (dn_callTy call_int1 v_int (by rfl) B.m_int boot_int (dvs_cons (dv_op2 op_fdivN v_fdiv (dv_ix ix_seq v_ix (dv_var 0) dv_int) dv_int) dvs_nil))) (dv_var 1)))))))))⟩
theorem cl__law_take {P : Program} {w : World} {K : PySem.W.Frag} {mg : Str → Option Value} {base : Heap} {k : Nat} {f : Addr} {fd : FuncData} {f__law_mixed : List D → Option Rd} (B : Bt K mg) (d : Df K mg "_law_take" s__law_take ["tape", "limit"] f fd) (c__law_mixed : Cl P w K mg base k "_law_mixed" f__law_mixed) : Cl P w K mg base (k + 1) "_law_take" (runF 2 1 [0, 1] (b__law_take f__law_mixed).1) := cl_of d sc__law_take rfl rfl fun cdv A outer s H E hr => (b__law_take f__law_mixed).2 B c__law_mixed cdv A outer s H E hr
abbrev s__law_same : Stmt := topS 8
def N__law_same : List Str := ["told", "due", "k"]
theorem sc__law_same : FnScope N__law_same ["told", "due"] (defScope s__law_same) := ⟨rfl, rfl, rfl, by decide +kernel, rfl, by decide +kernel, by decide +kernel⟩
def b__law_same (f__law_same : List D → Option Rd) : { g : Rho → Option Out // ∀ {P : Program} {w : World} {K : PySem.W.Frag} {mg : Str → Option Value} {base : Heap} {k : Nat} {f : Addr} (B : Bt K mg) (c__law_same : Cl P w K mg base k "_law_same" f__law_same) (cdv : Value) (A : Around) (outer : List Env) (s : Shared) (H : Hp) (E : XK), Room k (A.deeper (envOfC "_law_same" (defScope s__law_same) s.heap.objs.size f cdv)) → DSs (cxOf (L2.CX P w) P w K mg base N__law_same "_law_same" (defScope s__law_same) f cdv A outer s H E) (Wf E) [0, 1] (defBody s__law_same) g } :=
  ⟨_, fun {P w K mg base k f} B c__law_same cdv A outer s H E hr =>
    have sc := sc__law_same
    have hu := hr.units
    have hpo : PassesOwn _ _ _ (cxOf (L2.CX P w) P w K mg base N__law_same "_law_same" (defScope s__law_same) f cdv A outer s H E).xe := passes_of rfl
    have hx : ∀ σ, PassesAt (L2.CX P w) (cxOf (L2.CX P w) P w K mg base N__law_same "_law_same" (defScope s__law_same) f cdv A outer s H E) σ (WE (Wf E) σ) := fun σ => passAt (takes_of rfl rfl rfl rfl) σ
    have hx0 : ∀ {X : Cx} σ, PassesAt (L2.CX X.prog X.w) X σ (WE W0 σ) := fun σ => passF σ
    (dss_cons (ds_if (DT.toE (dt_cmp op_isN v_isN (dv_var 1) dv_non)) (dss_one (ds_ret (DV.toE (dv_cmp op_isN v_isN (dv_var 0) dv_non)))) dss_nil)
    (dss_cons (ds_if (DT.toE (dt_val (DN.toV (dn_callB call_isi v_isi (by rfl) B.m_isinstance boot_isinstance (dvs_cons (dv_var 1) (dvs_cons (dv_ty (by rfl) B.m_bool boot_bool) dvs_nil)))))) (dss_one (ds_ret (DV.toE (dv_and (DN.toV (dn_callB call_isi v_isi (by rfl) B.m_isinstance boot_isinstance (dvs_cons (dv_var 0) (dvs_cons (dv_ty (by rfl) B.m_bool boot_bool) dvs_nil)))) (dv_one (dv_cmp (op_eqA hu) v_eqA (dv_var 0) (dv_var 1))))))) dss_nil)
    (dss_cons (ds_if (DT.toE (dt_val (DN.toV (dn_callB call_isi v_isi (by rfl) B.m_isinstance boot_isinstance (dvs_cons (dv_var 1) (dvs_cons (dv_ty (by rfl) B.m_int boot_int) dvs_nil)))))) (dss_one (ds_ret (DV.toE (dv_and (DN.toV (dn_callB call_isi v_isi (by rfl) B.m_isinstance boot_isinstance (dvs_cons (dv_var 0) (dvs_cons (dv_ty (by rfl) B.m_int boot_int) dvs_nil)))) (dv_and (dv_not (DN.toV (dn_callB call_isi v_isi (by rfl) B.m_isinstance boot_isinstance (dvs_cons (dv_var 0) (dvs_cons (dv_ty (by rfl) B.m_bool boot_bool) dvs_nil))))) (dv_one (dv_cmp (op_eqA hu) v_eqA (dv_var 0) (dv_var 1)))))))) dss_nil)
    (dss_cons (ds_if (DT.toE (dt_val (DN.toV (dn_callB call_isi v_isi (by rfl) B.m_isinstance boot_isinstance (dvs_cons (dv_var 1) (dvs_cons (dv_ty (by rfl) B.m_str boot_str) dvs_nil)))))) (dss_one (ds_ret (DV.toE (dv_and (DN.toV (dn_callB call_isi v_isi (by rfl) B.m_isinstance boot_isinstance (dvs_cons (dv_var 0) (dvs_cons (dv_ty (by rfl) B.m_str boot_str) dvs_nil)))) (dv_one (dv_cmp (op_eqA hu) v_eqA (dv_var 0) (dv_var 1))))))) dss_nil)
    (dss_cons (ds_if (DT.toE (DW.toT (dw_and (dt_val (DN.toV (dn_callB call_isi v_isi (by rfl) B.m_isinstance boot_isinstance (dvs_cons (dv_var 1) (dvs_cons (dv_ty (by rfl) B.m_tuple boot_tuple) dvs_nil))))) (dw_and1 (dt_not (dt_val (DN.toV (dn_callB call_isi v_isi (by rfl) B.m_isinstance boot_isinstance (dvs_cons (dv_var 0) (dvs_cons (dv_ty (by rfl) B.m_tuple boot_tuple) dvs_nil)))))))))) (dss_one (ds_ret (DV.toE dv_bl))) dss_nil)
    (dss_cons (ds_if (DT.toE (DW.toT (dw_and (dt_val (DN.toV (dn_callB call_isi v_isi (by rfl) B.m_isinstance boot_isinstance (dvs_cons (dv_var 1) (dvs_cons (dv_ty (by rfl) B.m_list boot_list) dvs_nil))))) (dw_and1 (dt_not (dt_val (DN.toV (dn_callB call_isi v_isi (by rfl) B.m_isinstance boot_isinstance (dvs_cons (dv_var 0) (dvs_cons (dv_ty (by rfl) B.m_list boot_list) dvs_nil)))))))))) (dss_one (ds_ret (DV.toE dv_bl))) dss_nil)
    (dss_cons (ds_if (DT.toE (dt_cmp (op_neA hu) v_neA (DN.toV (dn_callB call_len v_len (by rfl) B.m_len PySem.boot_len (dvs_cons (dv_var 0) dvs_nil))) (DN.toV (dn_callB call_len v_len (by rfl) B.m_len PySem.boot_len (dvs_cons (dv_var 1) dvs_nil))))) (dss_one (ds_ret (DV.toE dv_bl))) dss_nil)
    (dss_one (ds_ret (DN.toE (dn_callB (cr_all (by rfl)) v_all (by rfl) B.m_all boot_all (dvs_cons (DN.toV (dn_comp (own := [("k", 2)]) rfl sc.nd (div_range1 (by rfl) B.m_range (dvs_cons (DN.toV (dn_callB call_len v_len (by rfl) B.m_len PySem.boot_len (dvs_cons (dv_var 1) dvs_nil))) dvs_nil)) (blkOk_by (N := N__law_same) (sc := defScope s__law_same) (by decide +kernel)) (fun _ _ _ _ _ => (dg_name 2 sc.nd)) (fun _ _ _ _ _ => dts_nil) (fun _ _ _ _ _ => (dn_cV c__law_same hr hx0 (dvs_cons (dv_ix ix_seq v_ix (dv_var 0) (dv_var 2)) (dvs_cons (dv_ix ix_seq v_ix (dv_var 1) (dv_var 2)) dvs_nil)))))) dvs_nil))))))))))))⟩
theorem cl__law_same {P : Program} {w : World} {K : PySem.W.Frag} {mg : Str → Option Value} {base : Heap} {k : Nat} {f : Addr} {fd : FuncData} {f__law_same : List D → Option Rd} (B : Bt K mg) (d : Df K mg "_law_same" s__law_same ["told", "due"] f fd) (c__law_same : Cl P w K mg base k "_law_same" f__law_same) : Cl P w K mg base (k + 1) "_law_same" (runF 2 1 [0, 1] (b__law_same f__law_same).1) := cl_of d sc__law_same rfl rfl fun cdv A outer s H E hr => (b__law_same f__law_same).2 B c__law_same cdv A outer s H E hr
abbrev s__law_char : Stmt := topS 9
def N__law_char : List Str := ["tape", "signs"]
theorem sc__law_char : FnScope N__law_char ["tape"] (defScope s__law_char) := ⟨rfl, rfl, rfl, by decide +kernel, rfl, by decide +kernel, by decide +kernel⟩
def b__law_char (f__law_take : List D → Option Rd) : { g : Rho → Option Out // ∀ {P : Program} {w : World} {K : PySem.W.Frag} {mg : Str → Option Value} {base : Heap} {k : Nat} {f : Addr} (B : Bt K mg) (c__law_take : Cl P w K mg base k "_law_take" f__law_take) (cdv : Value) (A : Around) (outer : List Env) (s : Shared) (H : Hp) (E : XK), Room k (A.deeper (envOfC "_law_char" (defScope s__law_char) s.heap.objs.size f cdv)) → DSs (cxOf (L2.CX P w) P w K mg base N__law_char "_law_char" (defScope s__law_char) f cdv A outer s H E) (Wf E) [0] (defBody s__law_char) g } :=
  ⟨_, fun {P w K mg base k f} B c__law_take cdv A outer s H E hr =>
    have sc := sc__law_char
    have hu := hr.units
    have hpo : PassesOwn _ _ _ (cxOf (L2.CX P w) P w K mg base N__law_char "_law_char" (defScope s__law_char) f cdv A outer s H E).xe := passes_of rfl
    have hx : ∀ σ, PassesAt (L2.CX P w) (cxOf (L2.CX P w) P w K mg base N__law_char "_law_char" (defScope s__law_char) f cdv A outer s H E) σ (WE (Wf E) σ) := fun σ => passAt (takes_of rfl rfl rfl rfl) σ
    have hx0 : ∀ {X : Cx} σ, PassesAt (L2.CX X.prog X.w) X σ (WE W0 σ) := fun σ => passF σ
    (dss_cons (ds_set 1 (DV.toE dv_str) sc.nd)
    (dss_cons (ds_set 1 (DN.toE (dn_op2 op_addA v_add (dv_var 1) dv_str)) sc.nd)
    (dss_one (ds_ret (de_ixN 1 ix_seq v_ix (de_c c__law_take hr hx (des_slot 0 (des_cons (DN.toE (dn_callB call_len v_len (by rfl) B.m_len PySem.boot_len (dvs_cons (dv_var 1) dvs_nil))) des_nil))))))))⟩
theorem cl__law_char {P : Program} {w : World} {K : PySem.W.Frag} {mg : Str → Option Value} {base : Heap} {k : Nat} {f : Addr} {fd : FuncData} {f__law_take : List D → Option Rd} (B : Bt K mg) (d : Df K mg "_law_char" s__law_char ["tape"] f fd) (c__law_take : Cl P w K mg base k "_law_take" f__law_take) : Cl P w K mg base (k + 1) "_law_char" (runF 1 1 [0] (b__law_char f__law_take).1) := cl_of d sc__law_char rfl rfl fun cdv A outer s H E hr => (b__law_char f__law_take).2 B c__law_take cdv A outer s H E hr
abbrev s__law_digits : Stmt := topS 10
def N__law_digits : List Str := ["tape", "size", "digits", "k"]
theorem sc__law_digits : FnScope N__law_digits ["tape", "size"] (defScope s__law_digits) := ⟨rfl, rfl, rfl, by decide +kernel, rfl, by decide +kernel, by decide +kernel⟩
def b__law_digits (f__law_take : List D → Option Rd) : { g : Rho → Option Out // ∀ {P : Program} {w : World} {K : PySem.W.Frag} {mg : Str → Option Value} {base : Heap} {k : Nat} {f : Addr} (B : Bt K mg) (c__law_take : Cl P w K mg base k "_law_take" f__law_take) (cdv : Value) (A : Around) (outer : List Env) (s : Shared) (H : Hp) (E : XK), Room k (A.deeper (envOfC "_law_digits" (defScope s__law_digits) s.heap.objs.size f cdv)) → DSs (cxOf (L2.CX P w) P w K mg base N__law_digits "_law_digits" (defScope s__law_digits) f cdv A outer s H E) (Wf E) [0, 1] (defBody s__law_digits) g } :=
  ⟨_, fun {P w K mg base k f} B c__law_take cdv A outer s H E hr =>
    have sc := sc__law_digits
    have hu := hr.units
    have hpo : PassesOwn _ _ _ (cxOf (L2.CX P w) P w K mg base N__law_digits "_law_digits" (defScope s__law_digits) f cdv A outer s H E).xe := passes_of rfl
    have hx : ∀ σ, PassesAt (L2.CX P w) (cxOf (L2.CX P w) P w K mg base N__law_digits "_law_digits" (defScope s__law_digits) f cdv A outer s H E) σ (WE (Wf E) σ) := fun σ => passAt (takes_of rfl rfl rfl rfl) σ
    have hx0 : ∀ {X : Cx} σ, PassesAt (L2.CX X.prog X.w) X σ (WE W0 σ) := fun σ => passF σ
    (dss_cons (ds_set 2 (DV.toE dv_str) sc.nd)
    (dss_one (ds_ret (de_bm (n := 1) PySem.F.plainAttrs_str PySem.F.slot_str_join PySem.F.type_str_join mt_joinD kdS_ok v_join (DV.toE dv_str) (des_cons (de_comp (own := [("k", 3)]) rfl sc.nd (di_range1 (by rfl) B.m_range (des_cons (DV.toE (dv_var 1)) des_nil)) (blkOk_by (N := N__law_digits) (sc := defScope s__law_digits) (by decide +kernel)) (fun _ _ _ _ _ => (dg_name 3 sc.nd)) (fun _ _ _ _ _ => dtes_nil) (fun _ _ _ _ _ => (de_ixN 2 ix_seq v_ix (de_c c__law_take hr hx0 (des_slot 0 (des_cons (DV.toE dv_int) des_nil)))))) des_nil)))))⟩
theorem cl__law_digits {P : Program} {w : World} {K : PySem.W.Frag} {mg : Str → Option Value} {base : Heap} {k : Nat} {f : Addr} {fd : FuncData} {f__law_take : List D → Option Rd} (B : Bt K mg) (d : Df K mg "_law_digits" s__law_digits ["tape", "size"] f fd) (c__law_take : Cl P w K mg base k "_law_take" f__law_take) : Cl P w K mg base (k + 1) "_law_digits" (runF 2 2 [0, 1] (b__law_digits f__law_take).1) := cl_of d sc__law_digits rfl rfl fun cdv A outer s H E hr => (b__law_digits f__law_take).2 B c__law_take cdv A outer s H E hr
abbrev s__law_good : Stmt := topS 11
def N__law_good : List Str := ["tape", "size", "digits"]
theorem sc__law_good : FnScope N__law_good ["tape", "size"] (defScope s__law_good) := ⟨rfl, rfl, rfl, by decide +kernel, rfl, by decide +kernel, by decide +kernel⟩
def b__law_good (f__law_take : List D → Option Rd) (f__law_digits : List D → Option Rd) : { g : Rho → Option Out // ∀ {P : Program} {w : World} {K : PySem.W.Frag} {mg : Str → Option Value} {base : Heap} {k : Nat} {f : Addr} (B : Bt K mg) (c__law_take : Cl P w K mg base k "_law_take" f__law_take) (c__law_digits : Cl P w K mg base k "_law_digits" f__law_digits) (cdv : Value) (A : Around) (outer : List Env) (s : Shared) (H : Hp) (E : XK), Room k (A.deeper (envOfC "_law_good" (defScope s__law_good) s.heap.objs.size f cdv)) → DSs (cxOf (L2.CX P w) P w K mg base N__law_good "_law_good" (defScope s__law_good) f cdv A outer s H E) (Wf E) [0, 1] (defBody s__law_good) g } :=
  ⟨_, fun {P w K mg base k f} B c__law_take c__law_digits cdv A outer s H E hr =>
    have sc := sc__law_good
    have hu := hr.units
    have hpo : PassesOwn _ _ _ (cxOf (L2.CX P w) P w K mg base N__law_good "_law_good" (defScope s__law_good) f cdv A outer s H E).xe := passes_of rfl
    have hx : ∀ σ, PassesAt (L2.CX P w) (cxOf (L2.CX P w) P w K mg base N__law_good "_law_good" (defScope s__law_good) f cdv A outer s H E) σ (WE (Wf E) σ) := fun σ => passAt (takes_of rfl rfl rfl rfl) σ
    have hx0 : ∀ {X : Cx} σ, PassesAt (L2.CX X.prog X.w) X σ (WE W0 σ) := fun σ => passF σ
    (dss_cons (ds_set 2 (DV.toE dv_str) sc.nd)
    (dss_one (ds_ret (de_op2X op_addA v_add (de_ixN 2 ix_seq v_ix (de_c c__law_take hr hx (des_slot 0 (des_cons (DV.toE dv_int) des_nil)))) (de_c c__law_digits hr hx (des_slot 0 (des_cons (DV.toE (dv_op2 op_sub v_sub (dv_var 1) dv_int)) des_nil)))))))⟩
theorem cl__law_good {P : Program} {w : World} {K : PySem.W.Frag} {mg : Str → Option Value} {base : Heap} {k : Nat} {f : Addr} {fd : FuncData} {f__law_take : List D → Option Rd} {f__law_digits : List D → Option Rd} (B : Bt K mg) (d : Df K mg "_law_good" s__law_good ["tape", "size"] f fd) (c__law_take : Cl P w K mg base k "_law_take" f__law_take) (c__law_digits : Cl P w K mg base k "_law_digits" f__law_digits) : Cl P w K mg base (k + 1) "_law_good" (runF 2 1 [0, 1] (b__law_good f__law_take f__law_digits).1) := cl_of d sc__law_good rfl rfl fun cdv A outer s H E hr => (b__law_good f__law_take f__law_digits).2 B c__law_take c__law_digits cdv A outer s H E hr
abbrev s__law_sign : Stmt := topS 12
def N__law_sign : List Str := ["tape", "signs"]
theorem sc__law_sign : FnScope N__law_sign ["tape"] (defScope s__law_sign) := ⟨rfl, rfl, rfl, by decide +kernel, rfl, by decide +kernel, by decide +kernel⟩
def b__law_sign (f__law_take : List D → Option Rd) : { g : Rho → Option Out // ∀ {P : Program} {w : World} {K : PySem.W.Frag} {mg : Str → Option Value} {base : Heap} {k : Nat} {f : Addr} (B : Bt K mg) (c__law_take : Cl P w K mg base k "_law_take" f__law_take) (cdv : Value) (A : Around) (outer : List Env) (s : Shared) (H : Hp) (E : XK), Room k (A.deeper (envOfC "_law_sign" (defScope s__law_sign) s.heap.objs.size f cdv)) → DSs (cxOf (L2.CX P w) P w K mg base N__law_sign "_law_sign" (defScope s__law_sign) f cdv A outer s H E) (Wf E) [0] (defBody s__law_sign) g } :=
  ⟨_, fun {P w K mg base k f} B c__law_take cdv A outer s H E hr =>
    have sc := sc__law_sign
    have hu := hr.units
    have hpo : PassesOwn _ _ _ (cxOf (L2.CX P w) P w K mg base N__law_sign "_law_sign" (defScope s__law_sign) f cdv A outer s H E).xe := passes_of rfl
    have hx : ∀ σ, PassesAt (L2.CX P w) (cxOf (L2.CX P w) P w K mg base N__law_sign "_law_sign" (defScope s__law_sign) f cdv A outer s H E) σ (WE (Wf E) σ) := fun σ => passAt (takes_of rfl rfl rfl rfl) σ
    have hx0 : ∀ {X : Cx} σ, PassesAt (L2.CX X.prog X.w) X σ (WE W0 σ) := fun σ => passF σ
    (dss_cons (ds_set 1 (DE.fz (DN.toE (dn_lst (dvs_cons dv_str (dvs_cons dv_str (dvs_cons dv_str (dvs_cons dv_str (dvs_cons dv_str (dvs_cons dv_str (dvs_cons dv_str (dvs_cons dv_str (dvs_cons dv_str (dvs_cons dv_str (dvs_cons dv_str dvs_nil)))))))))))))) sc.nd)
    (dss_one (ds_ret (de_ixN 1 ix_seq v_ix (de_c c__law_take hr hx (des_slot 0 (des_cons (DV.toE dv_int) des_nil)))))))⟩
theorem cl__law_sign {P : Program} {w : World} {K : PySem.W.Frag} {mg : Str → Option Value} {base : Heap} {k : Nat} {f : Addr} {fd : FuncData} {f__law_take : List D → Option Rd} (B : Bt K mg) (d : Df K mg "_law_sign" s__law_sign ["tape"] f fd) (c__law_take : Cl P w K mg base k "_law_take" f__law_take) : Cl P w K mg base (k + 1) "_law_sign" (runF 1 1 [0] (b__law_sign f__law_take).1) := cl_of d sc__law_sign rfl rfl fun cdv A outer s H E hr => (b__law_sign f__law_take).2 B c__law_take cdv A outer s H E hr
abbrev s__law_piece : Stmt := topS 13
def N__law_piece : List Str := ["tape", "kind", "text", "k"]
theorem sc__law_piece : FnScope N__law_piece ["tape"] (defScope s__law_piece) := ⟨rfl, rfl, rfl, by decide +kernel, rfl, by decide +kernel, by decide +kernel⟩
def b__law_piece (f__law_take : List D → Option Rd) (f__law_char : List D → Option Rd) (f__law_digits : List D → Option Rd) (f__law_sign : List D → Option Rd) : { g : Rho → Option Out // ∀ {P : Program} {w : World} {K : PySem.W.Frag} {mg : Str → Option Value} {base : Heap} {k : Nat} {f : Addr} (B : Bt K mg) (c__law_take : Cl P w K mg base k "_law_take" f__law_take) (c__law_char : Cl P w K mg base k "_law_char" f__law_char) (c__law_digits : Cl P w K mg base k "_law_digits" f__law_digits) (c__law_sign : Cl P w K mg base k "_law_sign" f__law_sign) (cdv : Value) (A : Around) (outer : List Env) (s : Shared) (H : Hp) (E : XK), Room k (A.deeper (envOfC "_law_piece" (defScope s__law_piece) s.heap.objs.size f cdv)) → DSs (cxOf (L2.CX P w) P w K mg base N__law_piece "_law_piece" (defScope s__law_piece) f cdv A outer s H E) (Wf E) [0] (defBody s__law_piece) g } :=
  ⟨_, fun {P w K mg base k f} B c__law_take c__law_char c__law_digits c__law_sign cdv A outer s H E hr =>
    have sc := sc__law_piece
    have hu := hr.units
    have hpo : PassesOwn _ _ _ (cxOf (L2.CX P w) P w K mg base N__law_piece "_law_piece" (defScope s__law_piece) f cdv A outer s H E).xe := passes_of rfl
    have hx : ∀ σ, PassesAt (L2.CX P w) (cxOf (L2.CX P w) P w K mg base N__law_piece "_law_piece" (defScope s__law_piece) f cdv A outer s H E) σ (WE (Wf E) σ) := fun σ => passAt (takes_of rfl rfl rfl rfl) σ
    have hx0 : ∀ {X : Cx} σ, PassesAt (L2.CX X.prog X.w) X σ (WE W0 σ) := fun σ => passF σ
    (dss_cons (ds_set 1 (de_c c__law_take hr hx (des_slot 0 (des_cons (DV.toE dv_int) des_nil))) sc.nd)
    (dss_cons (ds_set 2 (de_c c__law_digits hr hx (des_slot 0 (des_cons (de_c c__law_take hr hx (des_slot 0 (des_cons (DV.toE dv_int) des_nil))) des_nil))) sc.nd)
    (dss_cons (ds_if (DT.toE (dt_cmp (op_eqA hu) v_eqA (dv_var 1) dv_int)) (dss_one (ds_ret (DN.toE (dn_op2 op_addA v_add dv_str (dv_var 2))))) dss_nil)
    (dss_cons (ds_if (DT.toE (dt_cmp (op_eqA hu) v_eqA (dv_var 1) dv_int)) (dss_one (ds_ret (de_op2X op_addA v_add (DV.toE (dv_var 2)) (de_c c__law_sign hr hx (des_slot 0 des_nil))))) dss_nil)
    (dss_cons (ds_if (DT.toE (dt_cmp (op_eqA hu) v_eqA (dv_var 1) dv_int)) (dss_one (ds_ret (de_op2X op_addA v_add (de_c c__law_sign hr hx (des_slot 0 des_nil)) (DV.toE (dv_var 2))))) dss_nil)
    (dss_cons (ds_if (DT.toE (dt_cmp (op_eqA hu) v_eqA (dv_var 1) dv_int)) (dss_one (ds_ret (de_bm (n := 1) PySem.F.plainAttrs_str PySem.F.slot_str_join PySem.F.type_str_join mt_joinD kdS_ok v_join (DV.toE dv_str) (des_cons (de_comp (own := [("k", 3)]) rfl sc.nd (di_range1 (by rfl) B.m_range (des_cons (de_c c__law_take hr hx (des_slot 0 (des_cons (DV.toE dv_int) des_nil))) des_nil)) (blkOk_by (N := N__law_piece) (sc := defScope s__law_piece) (by decide +kernel)) (fun _ _ _ _ _ => (dg_name 3 sc.nd)) (fun _ _ _ _ _ => dtes_nil) (fun _ _ _ _ _ => (de_c c__law_char hr hx0 (des_slot 0 des_nil)))) des_nil)))) dss_nil)
    (dss_one (ds_ret (DV.toE (dv_var 2))))))))))⟩
theorem cl__law_piece {P : Program} {w : World} {K : PySem.W.Frag} {mg : Str → Option Value} {base : Heap} {k : Nat} {f : Addr} {fd : FuncData} {f__law_take : List D → Option Rd} {f__law_char : List D → Option Rd} {f__law_digits : List D → Option Rd} {f__law_sign : List D → Option Rd} (B : Bt K mg) (d : Df K mg "_law_piece" s__law_piece ["tape"] f fd) (c__law_take : Cl P w K mg base k "_law_take" f__law_take) (c__law_char : Cl P w K mg base k "_law_char" f__law_char) (c__law_digits : Cl P w K mg base k "_law_digits" f__law_digits) (c__law_sign : Cl P w K mg base k "_law_sign" f__law_sign) : Cl P w K mg base (k + 1) "_law_piece" (runF 1 3 [0] (b__law_piece f__law_take f__law_char f__law_digits f__law_sign).1) := cl_of d sc__law_piece rfl rfl fun cdv A outer s H E hr => (b__law_piece f__law_take f__law_char f__law_digits f__law_sign).2 B c__law_take c__law_char c__law_digits c__law_sign cdv A outer s H E hr
abbrev s__law_text : Stmt := topS 14
def N__law_text : List Str := ["tape", "k", "text"]
theorem sc__law_text : FnScope N__law_text ["tape"] (defScope s__law_text) := ⟨rfl, rfl, rfl, by decide +kernel, rfl, by decide +kernel, by decide +kernel⟩
def b__law_text (f__law_take : List D → Option Rd) (f__law_char : List D → Option Rd) (f__law_piece : List D → Option Rd) : { g : Rho → Option Out // ∀ {P : Program} {w : World} {K : PySem.W.Frag} {mg : Str → Option Value} {base : Heap} {k : Nat} {f : Addr} (B : Bt K mg) (c__law_take : Cl P w K mg base k "_law_take" f__law_take) (c__law_char : Cl P w K mg base k "_law_char" f__law_char) (c__law_piece : Cl P w K mg base k "_law_piece" f__law_piece) (cdv : Value) (A : Around) (outer : List Env) (s : Shared) (H : Hp) (E : XK), Room k (A.deeper (envOfC "_law_text" (defScope s__law_text) s.heap.objs.size f cdv)) → DSs (cxOf (L2.CX P w) P w K mg base N__law_text "_law_text" (defScope s__law_text) f cdv A outer s H E) (Wf E) [0] (defBody s__law_text) g } :=
  ⟨_, fun {P w K mg base k f} B c__law_take c__law_char c__law_piece cdv A outer s H E hr =>
    have sc := sc__law_text
    have hu := hr.units
    have hpo : PassesOwn _ _ _ (cxOf (L2.CX P w) P w K mg base N__law_text "_law_text" (defScope s__law_text) f cdv A outer s H E).xe := passes_of rfl
    have hx : ∀ σ, PassesAt (L2.CX P w) (cxOf (L2.CX P w) P w K mg base N__law_text "_law_text" (defScope s__law_text) f cdv A outer s H E) σ (WE (Wf E) σ) := fun σ => passAt (takes_of rfl rfl rfl rfl) σ
    have hx0 : ∀ {X : Cx} σ, PassesAt (L2.CX X.prog X.w) X σ (WE W0 σ) := fun σ => passF σ
    (dss_cons (ds_if (dte_cmp (op_eqA hu) v_eqA (de_c c__law_take hr hx (des_slot 0 (des_cons (DV.toE dv_int) des_nil))) (DV.toE dv_int)) (dss_one (ds_ret (de_bm (n := 1) PySem.F.plainAttrs_str PySem.F.slot_str_join PySem.F.type_str_join mt_joinD kdS_ok v_join (DV.toE dv_str) (des_cons (de_comp (own := [("k", 1)]) rfl sc.nd (di_range1 (by rfl) B.m_range (des_cons (de_c c__law_take hr hx (des_slot 0 (des_cons (DV.toE dv_int) des_nil))) des_nil)) (blkOk_by (N := N__law_text) (sc := defScope s__law_text) (by decide +kernel)) (fun _ _ _ _ _ => (dg_name 1 sc.nd)) (fun _ _ _ _ _ => dtes_nil) (fun _ _ _ _ _ => (de_c c__law_char hr hx0 (des_slot 0 des_nil)))) des_nil)))) dss_nil)
    (dss_cons (ds_set 2 (de_bm (n := 1) PySem.F.plainAttrs_str PySem.F.slot_str_join PySem.F.type_str_join mt_joinD kdS_ok v_join (DV.toE dv_str) (des_cons (de_comp (own := [("k", 1)]) rfl sc.nd (di_range1 (by rfl) B.m_range (des_cons (de_c c__law_take hr hx (des_slot 0 (des_cons (DV.toE dv_int) des_nil))) des_nil)) (blkOk_by (N := N__law_text) (sc := defScope s__law_text) (by decide +kernel)) (fun _ _ _ _ _ => (dg_name 1 sc.nd)) (fun _ _ _ _ _ => dtes_nil) (fun _ _ _ _ _ => (de_c c__law_piece hr hx0 (des_slot 0 des_nil)))) des_nil)) sc.nd)
    (dss_cons (ds_if (dte_cmp (op_eqA hu) v_eqA (de_c c__law_take hr hx (des_slot 0 (des_cons (DV.toE dv_int) des_nil))) (DV.toE dv_int)) (dss_one (ds_ret (DN.toE (dn_op2 op_addA v_add (dv_var 2) dv_str)))) dss_nil)
    (dss_one (ds_ret (DV.toE (dv_var 2)))))))⟩
theorem cl__law_text {P : Program} {w : World} {K : PySem.W.Frag} {mg : Str → Option Value} {base : Heap} {k : Nat} {f : Addr} {fd : FuncData} {f__law_take : List D → Option Rd} {f__law_char : List D → Option Rd} {f__law_piece : List D → Option Rd} (B : Bt K mg) (d : Df K mg "_law_text" s__law_text ["tape"] f fd) (c__law_take : Cl P w K mg base k "_law_take" f__law_take) (c__law_char : Cl P w K mg base k "_law_char" f__law_char) (c__law_piece : Cl P w K mg base k "_law_piece" f__law_piece) : Cl P w K mg base (k + 1) "_law_text" (runF 1 2 [0] (b__law_text f__law_take f__law_char f__law_piece).1) := cl_of d sc__law_text rfl rfl fun cdv A outer s H E hr => (b__law_text f__law_take f__law_char f__law_piece).2 B c__law_take c__law_char c__law_piece cdv A outer s H E hr
abbrev s__law_near : Stmt := topS 15
def N__law_near : List Str := ["tape", "good", "at", "sign", "texts"]
theorem sc__law_near : FnScope N__law_near ["tape", "good"] (defScope s__law_near) := ⟨rfl, rfl, rfl, by decide +kernel, rfl, by decide +kernel, by decide +kernel⟩
def b__law_near (f__law_take : List D → Option Rd) (f__law_sign : List D → Option Rd) : { g : Rho → Option Out // ∀ {P : Program} {w : World} {K : PySem.W.Frag} {mg : Str → Option Value} {base : Heap} {k : Nat} {f : Addr} (B : Bt K mg) (c__law_take : Cl P w K mg base k "_law_take" f__law_take) (c__law_sign : Cl P w K mg base k "_law_sign" f__law_sign) (cdv : Value) (A : Around) (outer : List Env) (s : Shared) (H : Hp) (E : XK), Room k (A.deeper (envOfC "_law_near" (defScope s__law_near) s.heap.objs.size f cdv)) → DSs (cxOf (L2.CX P w) P w K mg base N__law_near "_law_near" (defScope s__law_near) f cdv A outer s H E) (Wf E) [0, 1] (defBody s__law_near) g } :=
  ⟨_, fun {P w K mg base k f} B c__law_take c__law_sign cdv A outer s H E hr =>
    have sc := sc__law_near
    have hu := hr.units
    have hpo : PassesOwn _ _ _ (cxOf (L2.CX P w) P w K mg base N__law_near "_law_near" (defScope s__law_near) f cdv A outer s H E).xe := passes_of rfl
    have hx : ∀ σ, PassesAt (L2.CX P w) (cxOf (L2.CX P w) P w K mg base N__law_near "_law_near" (defScope s__law_near) f cdv A outer s H E) σ (WE (Wf E) σ) := fun σ => passAt (takes_of rfl rfl rfl rfl) σ
    have hx0 : ∀ {X : Cx} σ, PassesAt (L2.CX X.prog X.w) X σ (WE W0 σ) := fun σ => passF σ
    (dss_cons (ds_set 2 (de_c c__law_take hr hx (des_slot 0 (des_cons (DN.toE (dn_callB call_len v_len (by rfl) B.m_len PySem.boot_len (dvs_cons (dv_var 1) dvs_nil))) des_nil))) sc.nd)
    (dss_cons (ds_set 3 (DE.fz (de_c c__law_sign hr hx (des_slot 0 des_nil))) sc.nd)
    (dss_cons (ds_set 4 (DE.fz (de_lst (n := 8) (des_cons (DV.toE dv_str) (des_cons (DV.toE dv_str) (des_cons (DV.toE dv_str) (des_cons (DN.toE (dn_op2 op_addA v_add dv_str (dv_var 1))) (des_cons (DN.toE (dn_op2 op_addA v_add (dv_var 1) dv_str)) (des_cons (DN.toE (dn_op2 op_addA v_add (dv_var 3) (dv_var 1))) (des_cons (DN.toE (dn_op2 op_addA v_add (dv_var 1) (dv_var 3))) (des_cons (DN.toE (dn_op2 op_addA v_add (DN.toV (dn_op2 op_addA v_add (DN.toV (dn_slice sl_all v_sl (dv_var 1) dpo_none (dpo_some (dv_var 2)))) (dv_var 3))) (DN.toV (dn_slice sl_all v_sl (dv_var 1) (dpo_some (dv_var 2)) dpo_none)))) des_nil)))))))))) sc.nd)
    (dss_cons (ds_set 4 (DE.fz (de_op2X op_addA v_add (DV.toE (dv_var 4)) (de_lst (n := 5) (des_cons (DN.toE (dn_op2 op_addA v_add (DN.toV (dn_op2 op_addA v_add (DN.toV (dn_slice sl_all v_sl (dv_var 1) dpo_none (dpo_some (dv_var 2)))) (dv_var 3))) (DN.toV (dn_slice sl_all v_sl (dv_var 1) (dpo_some (DN.toV (dn_op2 op_addA v_add (dv_var 2) dv_int))) dpo_none)))) (des_cons (DN.toE (dn_slice sl_all v_sl (dv_var 1) (dpo_some (dv_var 2)) dpo_none)) (des_cons (DN.toE (dn_slice sl_all v_sl (dv_var 1) dpo_none (dpo_some (dv_var 2)))) (des_cons (DN.toE (dn_op2 op_addA v_add dv_str (dv_var 1))) (des_cons (DN.toE (dn_op2 op_addA v_add (dv_var 1) dv_str)) des_nil)))))))) sc.nd)
    (dss_one (ds_ret (de_op2X op_addA v_add (DV.toE (dv_var 4)) (de_lst (n := 7) (des_cons (DN.toE (dn_op2 op_addA v_add dv_str (dv_var 1))) (des_cons (DN.toE (dn_op2 op_addA v_add (dv_var 1) dv_str)) (des_cons (DN.toE (dn_op2 op_addA v_add dv_str (dv_var 1))) (des_cons (DN.toE (dn_op2 op_addA v_add dv_str (dv_var 1))) (des_cons (DN.toE (dn_op2 op_addA v_add (dv_var 1) dv_str)) (des_cons (DN.toE (dn_op2 op_addA v_add dv_str (dv_var 1))) (des_cons (DV.toE dv_str) des_nil)))))))))))))))⟩
theorem cl__law_near {P : Program} {w : World} {K : PySem.W.Frag} {mg : Str → Option Value} {base : Heap} {k : Nat} {f : Addr} {fd : FuncData} {f__law_take : List D → Option Rd} {f__law_sign : List D → Option Rd} (B : Bt K mg) (d : Df K mg "_law_near" s__law_near ["tape", "good"] f fd) (c__law_take : Cl P w K mg base k "_law_take" f__law_take) (c__law_sign : Cl P w K mg base k "_law_sign" f__law_sign) : Cl P w K mg base (k + 1) "_law_near" (runF 2 3 [0, 1] (b__law_near f__law_take f__law_sign).1) := cl_of d sc__law_near rfl rfl fun cdv A outer s H E hr => (b__law_near f__law_take f__law_sign).2 B c__law_take c__law_sign cdv A outer s H E hr
abbrev s__law_long : Stmt := topS 16
def N__law_long : List Str := ["tape", "head", "digit", "tail", "text", "at", "texts"]
theorem sc__law_long : FnScope N__law_long ["tape"] (defScope s__law_long) := ⟨rfl, rfl, rfl, by decide +kernel, rfl, by decide +kernel, by decide +kernel⟩
def b__law_long (f__law_take : List D → Option Rd) (f__law_digits : List D → Option Rd) (f__law_good : List D → Option Rd) (f__law_sign : List D → Option Rd) : { g : Rho → Option Out // ∀ {P : Program} {w : World} {K : PySem.W.Frag} {mg : Str → Option Value} {base : Heap} {k : Nat} {f : Addr} (B : Bt K mg) (c__law_take : Cl P w K mg base k "_law_take" f__law_take) (c__law_digits : Cl P w K mg base k "_law_digits" f__law_digits) (c__law_good : Cl P w K mg base k "_law_good" f__law_good) (c__law_sign : Cl P w K mg base k "_law_sign" f__law_sign) (cdv : Value) (A : Around) (outer : List Env) (s : Shared) (H : Hp) (E : XK), Room k (A.deeper (envOfC "_law_long" (defScope s__law_long) s.heap.objs.size f cdv)) → DSs (cxOf (L2.CX P w) P w K mg base N__law_long "_law_long" (defScope s__law_long) f cdv A outer s H E) (Wf E) [0] (defBody s__law_long) g } :=
  ⟨_, fun {P w K mg base k f} B c__law_take c__law_digits c__law_good c__law_sign cdv A outer s H E hr =>
    have sc := sc__law_long
    have hu := hr.units
    have hpo : PassesOwn _ _ _ (cxOf (L2.CX P w) P w K mg base N__law_long "_law_long" (defScope s__law_long) f cdv A outer s H E).xe := passes_of rfl
    have hx : ∀ σ, PassesAt (L2.CX P w) (cxOf (L2.CX P w) P w K mg base N__law_long "_law_long" (defScope s__law_long) f cdv A outer s H E) σ (WE (Wf E) σ) := fun σ => passAt (takes_of rfl rfl rfl rfl) σ
    have hx0 : ∀ {X : Cx} σ, PassesAt (L2.CX X.prog X.w) X σ (WE W0 σ) := fun σ => passF σ
    (dss_cons (ds_set 1 (de_c c__law_good hr hx (des_slot 0 (des_cons (de_op2X op_addA v_add (DV.toE dv_int) (de_c c__law_take hr hx (des_slot 0 (des_cons (DV.toE dv_int) des_nil)))) des_nil))) sc.nd)
    (dss_cons (ds_set 2 (de_c c__law_digits hr hx (des_slot 0 (des_cons (DV.toE dv_int) des_nil))) sc.nd)
    (dss_cons (ds_set 3 (de_c c__law_digits hr hx (des_slot 0 (des_cons (de_c c__law_take hr hx (des_slot 0 (des_cons (DV.toE dv_int) des_nil))) des_nil))) sc.nd)
    (dss_cons (ds_set 4 (DN.toE (dn_op2 op_addA v_add (DN.toV (dn_op2 op_addA v_add (dv_var 1) (DN.toV (dn_op2 op_mulA v_mul (dv_var 2) (dv_op2 op_sub v_sub (dv_op2 op_sub v_sub dv_int (DN.toV (dn_callB call_len v_len (by rfl) B.m_len PySem.boot_len (dvs_cons (dv_var 1) dvs_nil)))) (DN.toV (dn_callB call_len v_len (by rfl) B.m_len PySem.boot_len (dvs_cons (dv_var 3) dvs_nil)))))))) (dv_var 3))) sc.nd)
    (dss_cons (ds_set 5 (de_op2X op_addA v_add (DV.toE dv_int) (de_c c__law_take hr hx (des_slot 0 (des_cons (DV.toE dv_int) des_nil)))) sc.nd)
    (dss_cons (ds_set 6 (DE.fz (de_lst (n := 5) (des_cons (DV.toE (dv_var 4)) (des_cons (DN.toE (dn_slice sl_all v_sl (dv_var 4) dpo_none (dpo_some dv_int))) (des_cons (DN.toE (dn_op2 op_addA v_add (dv_var 4) (dv_var 2))) (des_cons (DN.toE (dn_op2 op_addA v_add (dv_var 4) (DN.toV (dn_slice sl_all v_sl (dv_var 4) dpo_none (dpo_some dv_int))))) (des_cons (de_op2X op_addA v_add (de_op2X op_addA v_add (DN.toE (dn_slice sl_all v_sl (dv_var 4) dpo_none (dpo_some (dv_var 5)))) (de_c c__law_sign hr hx (des_slot 0 des_nil))) (DN.toE (dn_slice sl_all v_sl (dv_var 4) (dpo_some (DN.toV (dn_op2 op_addA v_add (dv_var 5) dv_int))) dpo_none))) des_nil))))))) sc.nd)
    (dss_one (ds_ret (de_op2X op_addA v_add (DV.toE (dv_var 6)) (de_lst (n := 3) (des_cons (DN.toE (dn_op2 op_addA v_add dv_str (DN.toV (dn_slice sl_all v_sl (dv_var 4) (dpo_some dv_int) dpo_none)))) (des_cons (DN.toE (dn_op2 op_addA v_add (dv_var 4) dv_str)) (des_cons (DN.toE (dn_op2 op_addA v_add (DN.toV (dn_slice sl_all v_sl (dv_var 4) dpo_none (dpo_some dv_int))) dv_str)) des_nil)))))))))))))⟩
theorem cl__law_long {P : Program} {w : World} {K : PySem.W.Frag} {mg : Str → Option Value} {base : Heap} {k : Nat} {f : Addr} {fd : FuncData} {f__law_take : List D → Option Rd} {f__law_digits : List D → Option Rd} {f__law_good : List D → Option Rd} {f__law_sign : List D → Option Rd} (B : Bt K mg) (d : Df K mg "_law_long" s__law_long ["tape"] f fd) (c__law_take : Cl P w K mg base k "_law_take" f__law_take) (c__law_digits : Cl P w K mg base k "_law_digits" f__law_digits) (c__law_good : Cl P w K mg base k "_law_good" f__law_good) (c__law_sign : Cl P w K mg base k "_law_sign" f__law_sign) : Cl P w K mg base (k + 1) "_law_long" (runF 1 6 [0] (b__law_long f__law_take f__law_digits f__law_good f__law_sign).1) := cl_of d sc__law_long rfl rfl fun cdv A outer s H E hr => (b__law_long f__law_take f__law_digits f__law_good f__law_sign).2 B c__law_take c__law_digits c__law_good c__law_sign cdv A outer s H E hr
abbrev s__law_number : Stmt := topS 17
def N__law_number : List Str := ["text", "digits", "value", "char"]
theorem sc__law_number : FnScope N__law_number ["text"] (defScope s__law_number) := ⟨rfl, rfl, rfl, by decide +kernel, rfl, by decide +kernel, by decide +kernel⟩
def b__law_number  : { g : Rho → Option Out // ∀ {P : Program} {w : World} {K : PySem.W.Frag} {mg : Str → Option Value} {base : Heap} {k : Nat} {f : Addr} (B : Bt K mg) (cdv : Value) (A : Around) (outer : List Env) (s : Shared) (H : Hp) (E : XK), Room k (A.deeper (envOfC "_law_number" (defScope s__law_number) s.heap.objs.size f cdv)) → DSs (cxOf (L2.CX P w) P w K mg base N__law_number "_law_number" (defScope s__law_number) f cdv A outer s H E) (Wf E) [0] (defBody s__law_number) g } :=
  ⟨_, fun {P w K mg base k f} B cdv A outer s H E hr =>
    have sc := sc__law_number
    have hu := hr.units
    have hpo : PassesOwn _ _ _ (cxOf (L2.CX P w) P w K mg base N__law_number "_law_number" (defScope s__law_number) f cdv A outer s H E).xe := passes_of rfl
    have hx : ∀ σ, PassesAt (L2.CX P w) (cxOf (L2.CX P w) P w K mg base N__law_number "_law_number" (defScope s__law_number) f cdv A outer s H E) σ (WE (Wf E) σ) := fun σ => passAt (takes_of rfl rfl rfl rfl) σ
    have hx0 : ∀ {X : Cx} σ, PassesAt (L2.CX X.prog X.w) X σ (WE W0 σ) := fun σ => passF σ
    (dss_cons (ds_set 1 (DV.toE dv_str) sc.nd)
    (dss_cons (ds_if (DT.toE (DW.toT (dw_or (dt_cmp (op_eqA hu) v_eqA (DN.toV (dn_callB call_len v_len (by rfl) B.m_len PySem.boot_len (dvs_cons (dv_var 0) dvs_nil))) dv_int) (dw_or (dt_cmp op_gt v_gt (DN.toV (dn_callB call_len v_len (by rfl) B.m_len PySem.boot_len (dvs_cons (dv_var 0) dvs_nil))) dv_int) (dw_or1 (DW.toT (dw_and (dt_cmp (op_eqA hu) v_eqA (dv_ix ix_seq v_ix (dv_var 0) dv_int) dv_str) (dw_and1 (dt_cmp op_gt v_gt (DN.toV (dn_callB call_len v_len (by rfl) B.m_len PySem.boot_len (dvs_cons (dv_var 0) dvs_nil))) dv_int))))))))) (dss_one (ds_ret (DV.toE dv_non))) dss_nil)
    (dss_cons (ds_set 2 (DV.toE dv_int) sc.nd)
    (dss_cons (ds_for hpo rfl (di_seq (DV.toE (dv_var 0))) (dg_name 3 sc.nd) (dss_cons (ds_if (DT.toE (dt_cmp op_notIn_sign v_notInS (dv_var 3) (dv_var 1))) (dss_one (ds_ret (DV.toE dv_non))) dss_nil)
    (dss_one (ds_set 2 (DN.toE (dn_op2 op_addA v_add (DN.toV (dn_op2 op_mulA v_mul (dv_var 2) dv_int)) (DN.toV (dn_bm PySem.F.plainAttrs_str PySem.F.slot_str_index PySem.F.type_str_index mt_indexS kdS_ok v_indexS (dv_var 1) (dvs_cons (dv_var 3) dvs_nil))))) sc.nd))))
    (dss_one (ds_ret (DV.toE (dv_var 2))))))))⟩
theorem cl__law_number {P : Program} {w : World} {K : PySem.W.Frag} {mg : Str → Option Value} {base : Heap} {k : Nat} {f : Addr} {fd : FuncData}  (B : Bt K mg) (d : Df K mg "_law_number" s__law_number ["text"] f fd) : Cl P w K mg base (k + 1) "_law_number" (runF 1 3 [0] (b__law_number ).1) := cl_of d sc__law_number rfl rfl fun cdv A outer s H E hr => (b__law_number ).2 B cdv A outer s H E hr
abbrev s__law_pieces : Stmt := topS 18
def N__law_pieces : List Str := ["text", "lines", "piece", "char"]
theorem sc__law_pieces : FnScope N__law_pieces ["text"] (defScope s__law_pieces) := ⟨rfl, rfl, rfl, by decide +kernel, rfl, by decide +kernel, by decide +kernel⟩
def b__law_pieces  : { g : Rho → Option Out // ∀ {P : Program} {w : World} {K : PySem.W.Frag} {mg : Str → Option Value} {base : Heap} {k : Nat} {f : Addr} (B : Bt K mg) (cdv : Value) (A : Around) (outer : List Env) (s : Shared) (H : Hp) (E : XK), Room k (A.deeper (envOfC "_law_pieces" (defScope s__law_pieces) s.heap.objs.size f cdv)) → DSs (cxOf (L2.CX P w) P w K mg base N__law_pieces "_law_pieces" (defScope s__law_pieces) f cdv A outer s H E) (Wf E) [0] (defBody s__law_pieces) g } :=
  ⟨_, fun {P w K mg base k f} B cdv A outer s H E hr =>
    have sc := sc__law_pieces
    have hu := hr.units
    have hpo : PassesOwn _ _ _ (cxOf (L2.CX P w) P w K mg base N__law_pieces "_law_pieces" (defScope s__law_pieces) f cdv A outer s H E).xe := passes_of rfl
    have hx : ∀ σ, PassesAt (L2.CX P w) (cxOf (L2.CX P w) P w K mg base N__law_pieces "_law_pieces" (defScope s__law_pieces) f cdv A outer s H E) σ (WE (Wf E) σ) := fun σ => passAt (takes_of rfl rfl rfl rfl) σ
    have hx0 : ∀ {X : Cx} σ, PassesAt (L2.CX X.prog X.w) X σ (WE W0 σ) := fun σ => passF σ
    (dss_cons (ds_set 1 (DN.toE (dn_lst dvs_nil)) sc.nd)
    (dss_cons (ds_set 2 (DV.toE dv_str) sc.nd)
    (dss_cons (ds_for hpo rfl (di_seq (DV.toE (dv_var 0))) (dg_name 3 sc.nd) (dss_one (ds_if (DT.toE (dt_cmp (op_eqA hu) v_eqA (dv_var 3) dv_str)) (dss_cons (ds_expr (de_mm0 (n := 1) 1 PySem.F.plainAttrs_list PySem.F.slot_list_append PySem.F.type_list_append mt_append kdL_ok v_append (des_cons (DV.toE (dv_var 2)) des_nil)))
    (dss_one (ds_set 2 (DV.toE dv_str) sc.nd))) (dss_one (ds_set 2 (DN.toE (dn_op2 op_addA v_add (dv_var 2) (dv_var 3))) sc.nd)))))
    (dss_one (ds_ret (de_tup (n := 2) (des_cons (de_move 1) (des_cons (DV.toE (dv_var 2)) des_nil))))))))⟩
theorem cl__law_pieces {P : Program} {w : World} {K : PySem.W.Frag} {mg : Str → Option Value} {base : Heap} {k : Nat} {f : Addr} {fd : FuncData}  (B : Bt K mg) (d : Df K mg "_law_pieces" s__law_pieces ["text"] f fd) : Cl P w K mg base (k + 1) "_law_pieces" (runF 1 3 [0] (b__law_pieces ).1) := cl_of d sc__law_pieces rfl rfl fun cdv A outer s H E hr => (b__law_pieces ).2 B cdv A outer s H E hr
abbrev s__law_read : Stmt := topS 19
def N__law_read : List Str := ["text", "told", "due"]
theorem sc__law_read : FnScope N__law_read ["text"] (defScope s__law_read) := ⟨rfl, rfl, rfl, by decide +kernel, rfl, by decide +kernel, by decide +kernel⟩
def b__law_read (f_numeral : List D → Option Rd) (f__law_number : List D → Option Rd) : { g : Rho → Option Out // ∀ {P : Program} {w : World} {K : PySem.W.Frag} {mg : Str → Option Value} {base : Heap} {k : Nat} {f : Addr} (B : Bt K mg) (c_numeral : Cl P w K mg base k "numeral" f_numeral) (c__law_number : Cl P w K mg base k "_law_number" f__law_number) (cdv : Value) (A : Around) (outer : List Env) (s : Shared) (H : Hp) (E : XK), Room k (A.deeper (envOfC "_law_read" (defScope s__law_read) s.heap.objs.size f cdv)) → DSs (cxOf (L2.CX P w) P w K mg base N__law_read "_law_read" (defScope s__law_read) f cdv A outer s H E) (Wf E) [0] (defBody s__law_read) g } :=
  ⟨_, fun {P w K mg base k f} B c_numeral c__law_number cdv A outer s H E hr =>
    have sc := sc__law_read
    have hu := hr.units
    have hpo : PassesOwn _ _ _ (cxOf (L2.CX P w) P w K mg base N__law_read "_law_read" (defScope s__law_read) f cdv A outer s H E).xe := passes_of rfl
    have hx : ∀ σ, PassesAt (L2.CX P w) (cxOf (L2.CX P w) P w K mg base N__law_read "_law_read" (defScope s__law_read) f cdv A outer s H E) σ (WE (Wf E) σ) := fun σ => passAt (takes_of rfl rfl rfl rfl) σ
    have hx0 : ∀ {X : Cx} σ, PassesAt (L2.CX X.prog X.w) X σ (WE W0 σ) := fun σ => passF σ
    (dss_cons (ds_set 1 (DN.toE (dn_cV c_numeral hr hx (dvs_cons (dv_var 0) dvs_nil))) sc.nd)
    (dss_cons (ds_set 2 (DN.toE (dn_cV c__law_number hr hx (dvs_cons (dv_var 0) dvs_nil))) sc.nd)
    (dss_cons (ds_if (DT.toE (dt_cmp op_isN v_isN (dv_var 2) dv_non)) (dss_one (ds_ret (DV.toE (dv_cmp op_isN v_isN (dv_var 1) dv_non)))) dss_nil)
    (dss_one (ds_ret (DV.toE (dv_and (DN.toV (dn_callB call_isi v_isi (by rfl) B.m_isinstance boot_isinstance (dvs_cons (dv_var 1) (dvs_cons (dv_ty (by rfl) B.m_int boot_int) dvs_nil)))) (dv_and (dv_not (DN.toV (dn_callB call_isi v_isi (by rfl) B.m_isinstance boot_isinstance (dvs_cons (dv_var 1) (dvs_cons (dv_ty (by rfl) B.m_bool boot_bool) dvs_nil))))) (dv_one (dv_cmp (op_eqA hu) v_eqA (dv_var 1) (dv_var 2)))))))))))⟩
theorem cl__law_read {P : Program} {w : World} {K : PySem.W.Frag} {mg : Str → Option Value} {base : Heap} {k : Nat} {f : Addr} {fd : FuncData} {f_numeral : List D → Option Rd} {f__law_number : List D → Option Rd} (B : Bt K mg) (d : Df K mg "_law_read" s__law_read ["text"] f fd) (c_numeral : Cl P w K mg base k "numeral" f_numeral) (c__law_number : Cl P w K mg base k "_law_number" f__law_number) : Cl P w K mg base (k + 1) "_law_read" (runF 1 2 [0] (b__law_read f_numeral f__law_number).1) := cl_of d sc__law_read rfl rfl fun cdv A outer s H E hr => (b__law_read f_numeral f__law_number).2 B c_numeral c__law_number cdv A outer s H E hr
abbrev s__law_split : Stmt := topS 20
def N__law_split : List Str := ["text", "due", "told"]
theorem sc__law_split : FnScope N__law_split ["text"] (defScope s__law_split) := ⟨rfl, rfl, rfl, by decide +kernel, rfl, by decide +kernel, by decide +kernel⟩
def b__law_split (f_whole_lines : List D → Option Rd) (f__law_same : List D → Option Rd) (f__law_pieces : List D → Option Rd) : { g : Rho → Option Out // ∀ {P : Program} {w : World} {K : PySem.W.Frag} {mg : Str → Option Value} {base : Heap} {k : Nat} {f : Addr} (B : Bt K mg) (c_whole_lines : Cl P w K mg base k "whole_lines" f_whole_lines) (c__law_same : Cl P w K mg base k "_law_same" f__law_same) (c__law_pieces : Cl P w K mg base k "_law_pieces" f__law_pieces) (cdv : Value) (A : Around) (outer : List Env) (s : Shared) (H : Hp) (E : XK), Room k (A.deeper (envOfC "_law_split" (defScope s__law_split) s.heap.objs.size f cdv)) → DSs (cxOf (L2.CX P w) P w K mg base N__law_split "_law_split" (defScope s__law_split) f cdv A outer s H E) (Wf E) [0] (defBody s__law_split) g } :=
  ⟨_, fun {P w K mg base k f} B c_whole_lines c__law_same c__law_pieces cdv A outer s H E hr =>
    have sc := sc__law_split
    have hu := hr.units
    have hpo : PassesOwn _ _ _ (cxOf (L2.CX P w) P w K mg base N__law_split "_law_split" (defScope s__law_split) f cdv A outer s H E).xe := passes_of rfl
    have hx : ∀ σ, PassesAt (L2.CX P w) (cxOf (L2.CX P w) P w K mg base N__law_split "_law_split" (defScope s__law_split) f cdv A outer s H E) σ (WE (Wf E) σ) := fun σ => passAt (takes_of rfl rfl rfl rfl) σ
    have hx0 : ∀ {X : Cx} σ, PassesAt (L2.CX X.prog X.w) X σ (WE W0 σ) := fun σ => passF σ
    (dss_cons (ds_set 1 (DE.fz (DN.toE (dn_c c__law_pieces hr hx (dvs_cons (dv_var 0) dvs_nil)))) sc.nd)
    (dss_cons (ds_set 2 (DN.toE (dn_c c_whole_lines hr hx (dvs_cons (dv_var 0) dvs_nil))) sc.nd)
    (dss_cons (ds_if (DT.toE (dt_not (dt_val (DN.toV (dn_cV c__law_same hr hx0 (dvs_cons (dv_var 2) (dvs_cons (dv_var 1) dvs_nil))))))) (dss_one (ds_ret (DV.toE dv_bl))) dss_nil)
    (dss_cons (ds_expr (de_mm PySem.F.plainAttrs_list PySem.F.slot_list_append PySem.F.type_list_append mt_append kdL_ok v_append (dpl_ix (dpl_var 2) dv_int (fun _ _ => rfl)) (dvs_cons dv_str dvs_nil)))
    (dss_one (ds_ret (DN.toE (dn_cV c__law_same hr hx (dvs_cons (DN.toV (dn_c c_whole_lines hr hx0 (dvs_cons (dv_var 0) dvs_nil))) (dvs_cons (dv_var 1) dvs_nil))))))))))⟩
theorem cl__law_split {P : Program} {w : World} {K : PySem.W.Frag} {mg : Str → Option Value} {base : Heap} {k : Nat} {f : Addr} {fd : FuncData} {f_whole_lines : List D → Option Rd} {f__law_same : List D → Option Rd} {f__law_pieces : List D → Option Rd} (B : Bt K mg) (d : Df K mg "_law_split" s__law_split ["text"] f fd) (c_whole_lines : Cl P w K mg base k "whole_lines" f_whole_lines) (c__law_same : Cl P w K mg base k "_law_same" f__law_same) (c__law_pieces : Cl P w K mg base k "_law_pieces" f__law_pieces) : Cl P w K mg base (k + 1) "_law_split" (runF 1 2 [0] (b__law_split f_whole_lines f__law_same f__law_pieces).1) := cl_of d sc__law_split rfl rfl fun cdv A outer s H E hr => (b__law_split f_whole_lines f__law_same f__law_pieces).2 B c_whole_lines c__law_same c__law_pieces cdv A outer s H E hr
abbrev s_law : Stmt := topS 21
def N_law : List Str := ["script", "tape", "good", "text", "pieces", "one"]
theorem sc_law : FnScope N_law ["script"] (defScope s_law) := ⟨rfl, rfl, rfl, by decide +kernel, rfl, by decide +kernel, by decide +kernel⟩
def b_law (f__law_take : List D → Option Rd) (f__law_good : List D → Option Rd) (f__law_text : List D → Option Rd) (f__law_near : List D → Option Rd) (f__law_long : List D → Option Rd) (f__law_pieces : List D → Option Rd) (f__law_read : List D → Option Rd) (f__law_split : List D → Option Rd) : { g : Rho → Option Out // ∀ {P : Program} {w : World} {K : PySem.W.Frag} {mg : Str → Option Value} {base : Heap} {k : Nat} {f : Addr} (B : Bt K mg) (c__law_take : Cl P w K mg base k "_law_take" f__law_take) (c__law_good : Cl P w K mg base k "_law_good" f__law_good) (c__law_text : Cl P w K mg base k "_law_text" f__law_text) (c__law_near : Cl P w K mg base k "_law_near" f__law_near) (c__law_long : Cl P w K mg base k "_law_long" f__law_long) (c__law_pieces : Cl P w K mg base k "_law_pieces" f__law_pieces) (c__law_read : Cl P w K mg base k "_law_read" f__law_read) (c__law_split : Cl P w K mg base k "_law_split" f__law_split) (cdv : Value) (A : Around) (outer : List Env) (s : Shared) (H : Hp) (E : XK), Room k (A.deeper (envOfC "law" (defScope s_law) s.heap.objs.size f cdv)) → DSs (cxOf (L2.CX P w) P w K mg base N_law "law" (defScope s_law) f cdv A outer s H E) (Wf E) [0] (defBody s_law) g } :=
  ⟨_, fun {P w K mg base k f} B c__law_take c__law_good c__law_text c__law_near c__law_long c__law_pieces c__law_read c__law_split cdv A outer s H E hr =>
    have sc := sc_law
    have hu := hr.units
    have hpo : PassesOwn _ _ _ (cxOf (L2.CX P w) P w K mg base N_law "law" (defScope s_law) f cdv A outer s H E).xe := passes_of rfl
    have hx : ∀ σ, PassesAt (L2.CX P w) (cxOf (L2.CX P w) P w K mg base N_law "law" (defScope s_law) f cdv A outer s H E) σ (WE (Wf E) σ) := fun σ => passAt (takes_of rfl rfl rfl rfl) σ
    have hx0 : ∀ {X : Cx} σ, PassesAt (L2.CX X.prog X.w) X σ (WE W0 σ) := fun σ => passF σ
    (dss_cons (ds_set 1 (de_lst (n := 5) (des_cons (DN.toE (dn_callTy call_list_of v_list (by rfl) B.m_list boot_list (dvs_cons (dv_var 0) dvs_nil))) (des_cons (DV.toE dv_int) (des_cons (DV.toE dv_int) (des_cons (DV.toE dv_int) (des_cons (DV.toE dv_int) des_nil)))))) sc.nd)
    (dss_cons (ds_set 2 (de_c c__law_good hr hx (des_slot 1 (des_cons (de_op2X op_addA v_add (DV.toE dv_int) (de_c c__law_take hr hx (des_slot 1 (des_cons (DV.toE dv_int) des_nil)))) des_nil))) sc.nd)
    (dss_cons (ds_set 3 (de_c c__law_text hr hx (des_slot 1 des_nil)) sc.nd)
    (dss_cons (ds_set 4 (DE.fz (DN.toE (dn_c c__law_pieces hr hx (dvs_cons (dv_var 3) dvs_nil)))) sc.nd)
    (dss_cons (ds_for hpo rfl (di_seq (de_op2X op_addA v_add (de_op2X op_addA v_add (DN.toE (dn_op2 op_addA v_add (DN.toV (dn_lst (dvs_cons (dv_var 2) (dvs_cons (dv_var 3) (dvs_cons (dv_ix ix_seq v_ix (dv_var 4) dv_int) dvs_nil))))) (dv_ix ix_seq v_ix (dv_var 4) dv_int))) (de_c c__law_near hr hx (des_slot 1 (des_cons (DV.toE (dv_var 2)) des_nil)))) (de_c c__law_long hr hx (des_slot 1 des_nil)))) (dg_name 5 sc.nd) (dss_one (ds_if (DT.toE (dt_not (dt_val (DN.toV (dn_cV c__law_read hr hx0 (dvs_cons (dv_var 5) dvs_nil)))))) (dss_one (ds_ret (DV.toE dv_bl))) dss_nil)))
    (dss_cons (ds_for hpo rfl (di_seq (de_lst (n := 9) (des_cons (DV.toE (dv_var 3)) (des_cons (DN.toE (dn_op2 op_addA v_add (dv_var 3) dv_str)) (des_cons (DN.toE (dn_op2 op_addA v_add dv_str (dv_var 3))) (des_cons (DV.toE (dv_var 2)) (des_cons (DN.toE (dn_op2 op_addA v_add (dv_var 2) dv_str)) (des_cons (DN.toE (dn_op2 op_addA v_add (DN.toV (dn_op2 op_addA v_add (dv_var 2) dv_str)) (dv_var 2))) (des_cons (DV.toE dv_str) (des_cons (DV.toE dv_str) (des_cons (DV.toE dv_str) des_nil))))))))))) (dg_name 5 sc.nd) (dss_one (ds_if (DT.toE (dt_not (dt_val (DN.toV (dn_cV c__law_split hr hx0 (dvs_cons (dv_var 5) dvs_nil)))))) (dss_one (ds_ret (DV.toE dv_bl))) dss_nil)))
    (dss_one (ds_ret (DN.toE (dn_cV c__law_read hr hx (dvs_cons (dv_var 2) dvs_nil)))))))))))⟩
theorem cl_law {P : Program} {w : World} {K : PySem.W.Frag} {mg : Str → Option Value} {base : Heap} {k : Nat} {f : Addr} {fd : FuncData} {f__law_take : List D → Option Rd} {f__law_good : List D → Option Rd} {f__law_text : List D → Option Rd} {f__law_near : List D → Option Rd} {f__law_long : List D → Option Rd} {f__law_pieces : List D → Option Rd} {f__law_read : List D → Option Rd} {f__law_split : List D → Option Rd} (B : Bt K mg) (d : Df K mg "law" s_law ["script"] f fd) (c__law_take : Cl P w K mg base k "_law_take" f__law_take) (c__law_good : Cl P w K mg base k "_law_good" f__law_good) (c__law_text : Cl P w K mg base k "_law_text" f__law_text) (c__law_near : Cl P w K mg base k "_law_near" f__law_near) (c__law_long : Cl P w K mg base k "_law_long" f__law_long) (c__law_pieces : Cl P w K mg base k "_law_pieces" f__law_pieces) (c__law_read : Cl P w K mg base k "_law_read" f__law_read) (c__law_split : Cl P w K mg base k "_law_split" f__law_split) : Cl P w K mg base (k + 1) "law" (runF 1 5 [0] (b_law f__law_take f__law_good f__law_text f__law_near f__law_long f__law_pieces f__law_read f__law_split).1) := cl_of d sc_law rfl rfl fun cdv A outer s H E hr => (b_law f__law_take f__law_good f__law_text f__law_near f__law_long f__law_pieces f__law_read f__law_split).2 B c__law_take c__law_good c__law_text c__law_near c__law_long c__law_pieces c__law_read c__law_split cdv A outer s H E hr
end K00

set_option Elab.async false
set_option linter.all false
set_option maxRecDepth 100000
set_option maxHeartbeats 4000000
namespace K00
open PySem PySem.Spec PyProof.Rows L2 DL
set_option hygiene false in
local macro_rules | `(tactic| walk_at "dl") => `(tactic| (first
      | with_reducible refine DL.ws_seq ?_
      | with_reducible refine DL.ws_ret ?_
      | with_reducible refine DL.ws_set ?_
      | with_reducible refine DL.ws_setV ?_
      | with_reducible refine DL.ws_if ?_
      | with_reducible refine DL.ws_put ?_
      | with_reducible refine DL.ws_drop ?_
      | with_reducible refine DL.ws_for ?_
      | with_reducible refine DL.we_tE ?_
      | with_reducible refine DL.we_nE ?_
      | with_reducible refine DL.we_cons ?_
      | with_reducible refine DL.we_tup ?_
      | with_reducible refine DL.we_lst ?_
      | with_reducible refine DL.we_fz ?_
      | with_reducible refine DL.we_op2 ?_
      | with_reducible refine DL.we_xop2 ?_
      | with_reducible refine DL.we_xopN ?_
      | with_reducible refine DL.we_xopM ?_
      | with_reducible refine DL.we_if ?_
      | with_reducible refine DL.we_call ?_
      | with_reducible refine DL.we_eB ?_
      | with_reducible refine DL.we_not ?_
      | with_reducible refine DL.we_and ?_
      | with_reducible refine DL.we_or ?_
      | with_reducible refine DL.we_iSeq ?_
      | with_reducible refine DL.we_iRng ?_
      | with_reducible refine DL.we_mut ?_
      | with_reducible refine DL.we_nil ?_
      | with_reducible refine DL.wn_vN ?_
      | with_reducible refine DL.wn_op1 ?_
      | with_reducible refine DL.wn_op2 ?_
      | with_reducible refine DL.wn_opN ?_
      | with_reducible refine DL.wn_opM ?_
      | with_reducible refine DL.wn_tup ?_
      | with_reducible refine DL.wn_lst ?_
      | with_reducible refine DL.wn_sl ?_
      | with_reducible refine DL.wn_callV ?_
      | with_reducible refine DL.wn_call ?_
      | with_reducible refine DL.wd_gB ?_
      | with_reducible refine DL.wd_op2 ?_
      | with_reducible refine DL.wd_op1 ?_
      | with_reducible refine DL.wd_cons ?_
      | with_reducible refine DL.wd_nil ?_
      | with_reducible refine DL.wd_nV ?_
      | with_reducible refine DL.wd_k ?_
      | with_reducible refine DL.wd_if ?_
      | with_reducible refine DL.wd_andV ?_
      | with_reducible refine DL.wd_orV ?_
      | with_reducible refine DL.wd_notV ?_
      | with_reducible refine DL.wd_not ?_
      | with_reducible refine DL.wd_and ?_
      | with_reducible refine DL.wd_or ?_
      | with_reducible refine DL.wd_asB ?_
      | with_reducible refine DL.wd_gYes ?_
      | with_reducible refine DL.wd_pNone ?_
      | with_reducible refine DL.wd_pSome ?_
      | with_reducible refine DL.wd_here ?_
      | with_reducible refine DL.wd_jSeq ?_
      | with_reducible refine DL.wd_jRng ?_
      | with_reducible refine DL.wd_add ?_
      | with_reducible refine DL.wd_sub ?_
      | with_reducible refine DL.wd_neg ?_
      | with_reducible refine DL.wd_lt ?_
      | with_reducible refine DL.wd_le ?_
      | with_reducible refine DL.wd_gt ?_
      | with_reducible refine DL.wd_ge ?_
      | with_reducible refine DL.wd_eqI ?_
      | with_reducible refine DL.wd_neI ?_
      | with_reducible refine DL.wd_eqS ?_
      | with_reducible refine DL.wd_neS ?_
      | with_reducible refine DL.wd_int ?_
      | with_reducible refine DL.wd_abs ?_
      | with_reducible refine DL.ws_nx ?_
      | with_reducible refine DL.ws_retN ?_
      | with_reducible refine DL.ws_brk ?_
      | with_reducible refine DL.ws_cnt ?_
      | with_reducible refine DL.wd_var rfl ?_
      | with_reducible refine DL.we_lend rfl ?_
      | with_reducible refine DL.we_move rfl ?_
      | with_reducible refine DL.we_frz rfl ?_
      | with_reducible refine DL.we_ixN rfl ?_
      | with_reducible refine DL.we_mut0 rfl rfl ?_
      | with_reducible refine DL.we_mAt rfl rfl rfl ?_
      | with_reducible refine DL.wd_ixL (by decide) rfl ?_
      | with_reducible refine DL.wd_ixT (by decide) rfl ?_
      | with_reducible refine DL.wd_putL (by decide) rfl (by simp only [List.length_cons, List.length_nil, List.length_set]; omega) ?_ <;> dsimp only [List.set_cons_zero, List.set_cons_succ, DL.kill, List.map_cons, List.map_nil, DL.kl1, D.put, Int.reduceToNat]
      | ((with_reducible refine DL.wd_isiI true ?hh ?_); case hh => decide +kernel)
      | ((with_reducible refine DL.wd_isiI false ?hh ?_); case hh => decide +kernel)
      | ((with_reducible refine DL.wd_isiS true ?hh ?_); case hh => decide +kernel)
      | ((with_reducible refine DL.wd_isiS false ?hh ?_); case hh => decide +kernel)
      | ((with_reducible refine DL.wd_isiB true ?hh ?_); case hh => decide +kernel)
      | ((with_reducible refine DL.wd_isiB false ?hh ?_); case hh => decide +kernel)
      | ((with_reducible refine DL.wd_isiN true ?hh ?_); case hh => decide +kernel)
      | ((with_reducible refine DL.wd_isiN false ?hh ?_); case hh => decide +kernel)
      | ((with_reducible refine DL.wd_isiL true ?hh ?_); case hh => decide +kernel)
      | ((with_reducible refine DL.wd_isiL false ?hh ?_); case hh => decide +kernel)
      | ((with_reducible refine DL.wd_isiT true ?hh ?_); case hh => decide +kernel)
      | ((with_reducible refine DL.wd_isiT false ?hh ?_); case hh => decide +kernel)
      | with_reducible refine DL.wd_some ?_
      | with_reducible refine DL.exI ?_
      | ((with_reducible refine DL.wd_slS ?hh (fun y hy hy2 => ?_)); case hh => omega)
      | ((with_reducible refine DL.wd_mulS ?hh ?_); case hh => omega)
      | with_reducible refine DL.wn_comp ?_
      | with_reducible refine DL.we_comp ?_
      | ((with_reducible refine DL.wd_rng1 ?hh ?_); case hh => omega)
      | ((with_reducible refine DL.wd_rng2 ?h1 ?h2 ?_); (case h1 => omega); (case h2 => omega))
      | with_reducible refine DL.wd_isNT rfl ?_
      | with_reducible refine DL.wd_isNF rfl ?_
      | with_reducible refine DL.wd_notNT rfl ?_
      | with_reducible refine DL.wd_notNF rfl ?_
      | with_reducible refine DL.wd_lenL ?_
      | with_reducible refine DL.wd_lenT ?_
      | with_reducible refine DL.wd_pow (by decide) (by simp only [Int.reduceToNat, Int.reducePow]; rfl) ?_
      | with_reducible refine DL.wd_absP (fun r hr0 hr1 => ?_)
      | ((with_reducible refine DL.wd_modP ?hh (fun r hr0 hr1 hr2 => ?_)); case hh => omega)
      | ((with_reducible refine DL.wd_fdivP ?hh (fun r hr0 hr1 => ?_)); case hh => omega)
      | ((with_reducible refine DL.wd_mulB ?hh ?_); case hh => omega)
      | ((with_reducible refine DL.wd_ixInts ?hh (fun z hz hz2 => ?_)); case hh => omega)
      | ((with_reducible refine DL.wd_ixS ?hh (fun z hz hz2 => ?_)); case hh => omega)
      | ((with_reducible refine DL.wd_lenS ?hh ?_); case hh => first | assumption | omega | decide +kernel)
      | ((with_reducible refine DL.wd_addS ?hh ?_); case hh => first | assumption | omega | (simp only [PySem.Str.length_append]; omega) | decide +kernel)
      | with_reducible refine DL.wd_notIn ?_
      | with_reducible refine DL.wd_inS ?_
      | with_reducible refine DL.seqL ?_
      | with_reducible refine DL.seqT ?_
      | with_reducible refine DL.seqS ?_
      | with_reducible refine DL.fz_andI ?_
      | with_reducible refine DL.fz_andS ?_
      | with_reducible refine DL.fz_andB ?_
      | with_reducible refine DL.fz_andN ?_
      | with_reducible refine DL.flat_andI ?_
      | with_reducible refine DL.flat_andS ?_
      | with_reducible refine DL.flat_andB ?_
      | with_reducible refine DL.flat_andN ?_
      | with_reducible refine DL.ite_t ?_
      | with_reducible refine DL.ite_f ?_
      | with_reducible refine DL.ite_nt ?_
      | with_reducible refine DL.ite_nf ?_
      | with_reducible refine DL.ite_dec (fun h => ?_) (fun h => ?_)
      | with_reducible refine DL.ite_ndec (fun h => ?_) (fun h => ?_)
      | with_reducible refine DL.wd_hName (by simp only [List.length_cons, List.length_nil, List.length_set]; omega) ?_
      | ((with_reducible refine And.intro ?hh ?_); case hh => first | rfl | (simp only [List.length_cons, List.length_nil, List.length_set]; omega))
      | (simp only [mergeA, Option.map_some, List.getElem?_cons_zero, List.getElem?_cons_succ, isFz_int, isFz_str, isFz_bl, isFz_non, Bool.not_true, fzs_cons, fzs_nil, fz_int, fz_str, fz_bl, fz_non, fz_lst, fz_tup, fzs_strs, fzs_ints])
      | (dsimp only [isNon, List.set_cons_zero, List.set_cons_succ, DL.kill, List.map_cons, List.map_nil, DL.kl1, D.put, restore, List.map, wipeR])))

/-! ### the tape -/
def Tape (ns : List Int) (i c n s : Int) : D := .lst true [.lst true (ns.map .int), .int i, .int c, .int n, .int s]
def TapeOk (b : Nat) (t : D) : Prop := ∃ ns i c n s, t = Tape ns i c n s ∧ 0 ≤ i ∧ ns.length ≤ sizeLine ∧ 0 ≤ c ∧ 0 ≤ n ∧ n ≤ b ∧ 0 ≤ s ∧ s < 2147483648
def MixedOk (f : List D → Option DL.Rd) : Prop := ∀ x k : Int, x.natAbs < 2 ^ 70 → 0 ≤ k → k < 2 ^ 70 → Wr (f [.int x, .int k]) (fun d _ => ∃ v, d = .int v ∧ 0 ≤ v ∧ v < 2147483399) noX
theorem mixed_ok : MixedOk (runF 2 1 [0, 1] b__law_mixed.1) := fun x k hx hk hk2 => by
  refine wr_runF rfl ?_
  show Ws (b__law_mixed.1 [some (false, .int x), some (false, .int k), none]) _
  unfold b__law_mixed
  dsimp only
  repeat' walk_at "dl"
  exact ⟨by assumption, by assumption⟩
def TakeOk (f : List D → Option DL.Rd) : Prop := ∀ (b : Nat) (t : D) (lim : Int), TapeOk b t → b < 2 ^ 60 → 0 < lim → lim < 2 ^ 30 →
  Wr (f [t, .int lim]) (fun d bk => ∃ v t', d = .int v ∧ 0 ≤ v ∧ v < lim ∧ TapeOk (b + 1) t' ∧ bk = [some t', some (.int lim)]) noX
theorem take_ok {f : List D → Option DL.Rd} (hf : MixedOk f) : TakeOk (runF 2 1 [0, 1] (b__law_take f).1) := fun b t lim ht hb h0 h1 => by
  obtain ⟨ns, i, c, n, s, rfl, t1, t2, t3, t4, t5, t6, t7⟩ := ht
  refine wr_runF rfl ?_
  show Ws ((b__law_take f).1 [some (false, .lst true [.lst true (ns.map .int), .int i, .int c, .int n, .int s]), some (false, .int lim), none]) _
  unfold b__law_take
  dsimp only
  have key : ∀ (d : D) (bk : List (Option D)) (ns : List Int) (i c n s v : Int), d = .int v → bk = [some (Tape ns i c n s), some (.int lim)] → 0 ≤ v → v < lim → 0 ≤ i → ns.length ≤ sizeLine → 0 ≤ c → 0 ≤ n → n ≤ b + 1 → 0 ≤ s → s < 2147483648 → ∃ v t', d = .int v ∧ 0 ≤ v ∧ v < lim ∧ TapeOk (b + 1) t' ∧ bk = [some t', some (.int lim)] :=
    fun d bk ns i c n s v e1 e2 a1 a2 a3 a4 a5 a6 a7 a8 a9 => ⟨v, _, e1, a1, a2, ⟨ns, i, c, n, s, rfl, a3, a4, a5, a6, by omega, a8, a9⟩, e2⟩
  repeat' walk_at "dl"
  all_goals first
    | (refine key _ _ ns _ _ _ _ _ rfl rfl ?_ ?_ ?_ ?_ ?_ ?_ ?_ ?_ ?_ <;> first | assumption | omega)
    | (refine (hf _ _ (by omega) (by omega) (by omega)).mono (fun d bk hd => ?_) (fun _ _ _ h => h.elim)
       obtain ⟨v, rfl, hv0, hv1⟩ := hd
       repeat' walk_at "dl"
       refine key _ _ ns _ _ _ _ _ rfl rfl ?_ ?_ ?_ ?_ ?_ ?_ ?_ ?_ ?_ <;> first | assumption | omega)
end K00

set_option Elab.async false
set_option linter.all false
set_option maxRecDepth 100000
set_option maxHeartbeats 4000000
namespace K00
open PySem PySem.Spec PyProof.Rows L2 DL PySem.NumText
set_option hygiene false in
local macro_rules | `(tactic| walk_at "dl") => `(tactic| (first
      | with_reducible refine DL.ws_seq ?_
      | with_reducible refine DL.ws_ret ?_
      | with_reducible refine DL.ws_set ?_
      | with_reducible refine DL.ws_setV ?_
      | with_reducible refine DL.ws_if ?_
      | with_reducible refine DL.ws_put ?_
      | with_reducible refine DL.ws_drop ?_
      | with_reducible refine DL.ws_for ?_
      | with_reducible refine DL.we_tE ?_
      | with_reducible refine DL.we_nE ?_
      | with_reducible refine DL.we_cons ?_
      | with_reducible refine DL.we_tup ?_
      | with_reducible refine DL.we_lst ?_
      | with_reducible refine DL.we_fz ?_
      | with_reducible refine DL.we_op2 ?_
      | with_reducible refine DL.we_xop2 ?_
      | with_reducible refine DL.we_xopN ?_
      | with_reducible refine DL.we_xopM ?_
      | with_reducible refine DL.we_if ?_
      | with_reducible refine DL.we_call ?_
      | with_reducible refine DL.we_eB ?_
      | with_reducible refine DL.we_not ?_
      | with_reducible refine DL.we_and ?_
      | with_reducible refine DL.we_or ?_
      | with_reducible refine DL.we_iSeq ?_
      | with_reducible refine DL.we_iRng ?_
      | with_reducible refine DL.we_mut ?_
      | with_reducible refine DL.we_nil ?_
      | with_reducible refine DL.wn_vN ?_
      | with_reducible refine DL.wn_op1 ?_
      | with_reducible refine DL.wn_op2 ?_
      | with_reducible refine DL.wn_opN ?_
      | with_reducible refine DL.wn_opM ?_
      | with_reducible refine DL.wn_tup ?_
      | with_reducible refine DL.wn_lst ?_
      | with_reducible refine DL.wn_sl ?_
      | with_reducible refine DL.wn_callV ?_
      | with_reducible refine DL.wn_call ?_
      | with_reducible refine DL.wd_gB ?_
      | with_reducible refine DL.wd_op2 ?_
      | with_reducible refine DL.wd_op1 ?_
      | with_reducible refine DL.wd_cons ?_
      | with_reducible refine DL.wd_nil ?_
      | with_reducible refine DL.wd_nV ?_
      | with_reducible refine DL.wd_k ?_
      | with_reducible refine DL.wd_if ?_
      | with_reducible refine DL.wd_andV ?_
      | with_reducible refine DL.wd_orV ?_
      | with_reducible refine DL.wd_notV ?_
      | with_reducible refine DL.wd_not ?_
      | with_reducible refine DL.wd_and ?_
      | with_reducible refine DL.wd_or ?_
      | with_reducible refine DL.wd_asB ?_
      | with_reducible refine DL.wd_gYes ?_
      | with_reducible refine DL.wd_pNone ?_
      | with_reducible refine DL.wd_pSome ?_
      | with_reducible refine DL.wd_here ?_
      | with_reducible refine DL.wd_jSeq ?_
      | with_reducible refine DL.wd_jRng ?_
      | with_reducible refine DL.wd_add ?_
      | with_reducible refine DL.wd_sub ?_
      | with_reducible refine DL.wd_neg ?_
      | with_reducible refine DL.wd_lt ?_
      | with_reducible refine DL.wd_le ?_
      | with_reducible refine DL.wd_gt ?_
      | with_reducible refine DL.wd_ge ?_
      | with_reducible refine DL.wd_eqI ?_
      | with_reducible refine DL.wd_neI ?_
      | with_reducible refine DL.wd_eqS ?_
      | with_reducible refine DL.wd_neS ?_
      | with_reducible refine DL.wd_int ?_
      | with_reducible refine DL.wd_abs ?_
      | with_reducible refine DL.ws_nx ?_
      | with_reducible refine DL.ws_retN ?_
      | with_reducible refine DL.ws_brk ?_
      | with_reducible refine DL.ws_cnt ?_
      | with_reducible refine DL.wd_var rfl ?_
      | with_reducible refine DL.we_lend rfl ?_
      | with_reducible refine DL.we_move rfl ?_
      | with_reducible refine DL.we_frz rfl ?_
      | with_reducible refine DL.we_ixN rfl ?_
      | with_reducible refine DL.we_mut0 rfl rfl ?_
      | with_reducible refine DL.we_mAt rfl rfl rfl ?_
      | with_reducible refine DL.wd_ixL (by decide) rfl ?_
      | with_reducible refine DL.wd_ixT (by decide) rfl ?_
      | with_reducible refine DL.wd_putL (by decide) rfl (by simp only [List.length_cons, List.length_nil, List.length_set]; omega) ?_ <;> dsimp only [List.set_cons_zero, List.set_cons_succ, DL.kill, List.map_cons, List.map_nil, DL.kl1, D.put, Int.reduceToNat]
      | ((with_reducible refine DL.wd_isiI true ?hh ?_); case hh => decide +kernel)
      | ((with_reducible refine DL.wd_isiI false ?hh ?_); case hh => decide +kernel)
      | ((with_reducible refine DL.wd_isiS true ?hh ?_); case hh => decide +kernel)
      | ((with_reducible refine DL.wd_isiS false ?hh ?_); case hh => decide +kernel)
      | ((with_reducible refine DL.wd_isiB true ?hh ?_); case hh => decide +kernel)
      | ((with_reducible refine DL.wd_isiB false ?hh ?_); case hh => decide +kernel)
      | ((with_reducible refine DL.wd_isiN true ?hh ?_); case hh => decide +kernel)
      | ((with_reducible refine DL.wd_isiN false ?hh ?_); case hh => decide +kernel)
      | ((with_reducible refine DL.wd_isiL true ?hh ?_); case hh => decide +kernel)
      | ((with_reducible refine DL.wd_isiL false ?hh ?_); case hh => decide +kernel)
      | ((with_reducible refine DL.wd_isiT true ?hh ?_); case hh => decide +kernel)
      | ((with_reducible refine DL.wd_isiT false ?hh ?_); case hh => decide +kernel)
      | with_reducible refine DL.wd_some ?_
      | with_reducible refine DL.exI ?_
      | ((with_reducible refine DL.wd_slS ?hh (fun y hy hy2 => ?_)); case hh => omega)
      | ((with_reducible refine DL.wd_mulS ?hh ?_); case hh => omega)
      | with_reducible refine DL.wn_comp ?_
      | with_reducible refine DL.we_comp ?_
      | ((with_reducible refine DL.wd_rng1 ?hh ?_); case hh => omega)
      | ((with_reducible refine DL.wd_rng2 ?h1 ?h2 ?_); (case h1 => omega); (case h2 => omega))
      | with_reducible refine DL.wd_isNT rfl ?_
      | with_reducible refine DL.wd_isNF rfl ?_
      | with_reducible refine DL.wd_notNT rfl ?_
      | with_reducible refine DL.wd_notNF rfl ?_
      | with_reducible refine DL.wd_lenL ?_
      | with_reducible refine DL.wd_lenT ?_
      | with_reducible refine DL.wd_pow (by decide) (by simp only [Int.reduceToNat, Int.reducePow]; rfl) ?_
      | with_reducible refine DL.wd_absP (fun r hr0 hr1 => ?_)
      | ((with_reducible refine DL.wd_modP ?hh (fun r hr0 hr1 hr2 => ?_)); case hh => omega)
      | ((with_reducible refine DL.wd_fdivP ?hh (fun r hr0 hr1 => ?_)); case hh => omega)
      | ((with_reducible refine DL.wd_mulB ?hh ?_); case hh => omega)
      | ((with_reducible refine DL.wd_ixInts ?hh (fun z hz hz2 => ?_)); case hh => omega)
      | ((with_reducible refine DL.wd_ixS ?hh (fun z hz hz2 => ?_)); case hh => omega)
      | ((with_reducible refine DL.wd_lenS ?hh ?_); case hh => first | assumption | omega | decide +kernel)
      | ((with_reducible refine DL.wd_addS ?hh ?_); case hh => first | assumption | omega | (simp only [PySem.Str.length_append]; omega) | decide +kernel)
      | with_reducible refine DL.wd_notIn ?_
      | with_reducible refine DL.wd_inS ?_
      | with_reducible refine DL.seqL ?_
      | with_reducible refine DL.seqT ?_
      | with_reducible refine DL.seqS ?_
      | with_reducible refine DL.fz_andI ?_
      | with_reducible refine DL.fz_andS ?_
      | with_reducible refine DL.fz_andB ?_
      | with_reducible refine DL.fz_andN ?_
      | with_reducible refine DL.flat_andI ?_
      | with_reducible refine DL.flat_andS ?_
      | with_reducible refine DL.flat_andB ?_
      | with_reducible refine DL.flat_andN ?_
      | with_reducible refine DL.ite_t ?_
      | with_reducible refine DL.ite_f ?_
      | with_reducible refine DL.ite_nt ?_
      | with_reducible refine DL.ite_nf ?_
      | with_reducible refine DL.ite_dec (fun h => ?_) (fun h => ?_)
      | with_reducible refine DL.ite_ndec (fun h => ?_) (fun h => ?_)
      | with_reducible refine DL.wd_hName (by simp only [List.length_cons, List.length_nil, List.length_set]; omega) ?_
      | ((with_reducible refine And.intro ?hh ?_); case hh => first | rfl | (simp only [List.length_cons, List.length_nil, List.length_set]; omega))
      | (simp only [mergeA, Option.map_some, List.getElem?_cons_zero, List.getElem?_cons_succ, isFz_int, isFz_str, isFz_bl, isFz_non, Bool.not_true, fzs_cons, fzs_nil, fz_int, fz_str, fz_bl, fz_non, fz_lst, fz_tup, fzs_strs, fzs_ints])
      | (dsimp only [isNon, List.set_cons_zero, List.set_cons_succ, DL.kill, List.map_cons, List.map_nil, DL.kl1, D.put, restore, List.map, wipeR])))

/-! ### numerals -/
theorem emp_iff (x : Str) : x = Str.ofString "" ↔ x.length = 0 := by
  constructor
  · intro h; subst h; rfl
  · intro h
    apply str_ext
    have e : (Str.ofString "").cps.toList = [] := rfl
    rw [e]
    exact List.eq_nil_of_length_eq_zero (by rw [str_len]; exact h)
theorem zero_iff (c : Nat) : (⟨#[c]⟩ : Str) = Str.ofString "0" ↔ c = 48 := by
  have e : Str.ofString "0" = ⟨#[48]⟩ := by decide
  rw [e]
  constructor
  · intro h; injection h with h; simpa using h
  · intro h; rw [h]
theorem dig_iff (c : Nat) : c ∈ (Str.ofString "0123456789").cps.toList ↔ 48 ≤ c ∧ c ≤ 57 := by
  have e : (Str.ofString "0123456789").cps.toList = [48, 49, 50, 51, 52, 53, 54, 55, 56, 57] := by decide
  rw [e]
  simp only [List.mem_cons, List.not_mem_nil, or_false]
  omega
def IsNum (x : Str) : Prop := 0 < x.length ∧ x.length ≤ 2000 ∧ (x.cps.toList[0]? = some 48 → x.length ≤ 1) ∧ AllDigits x.cps.toList
open Classical in
noncomputable def numD (x : Str) : D := if IsNum x then .int (digitsVal x.cps.toList : Nat) else .non
theorem numD_no {x : Str} (h : ¬ IsNum x) : numD x = .non := if_neg h
theorem numD_yes {x : Str} (h : IsNum x) : numD x = .int (digitsVal x.cps.toList : Nat) := if_pos h
def NumOk (f : List D → Option DL.Rd) : Prop := ∀ x : Str, x.length ≤ 100000 → Wr (f [.str x]) (fun d _ => d = numD x) noX
theorem numeral_ok : NumOk (runF 1 1 [0] b_numeral.1) := fun x hx => by
  have hz : x.length ≤ sizeLine := Nat.le_trans hx (by decide)
  refine wr_runF rfl ?_
  show Ws (b_numeral.1 [some (false, .str x), none]) _
  unfold b_numeral
  dsimp only
  refine ws_seqI (fun ρ => ρ = [some (false, .str x), none] ∧ 0 < x.length ∧ x.length ≤ 2000) ?_ (fun ρ z => ?_)
  · repeat' walk_at "dl"
    · exact (numD_no fun z => absurd z.1 (by have := (emp_iff x).mp (by assumption); omega)).symm
    · exact (numD_no fun z => absurd z.2.1 (by omega)).symm
    · have := mt (emp_iff x).mpr (by assumption)
      exact ⟨by omega, by omega⟩
  obtain ⟨rfl, l0, l1⟩ := z
  refine ws_seqI (fun ρ => ρ = [some (false, .str x), none] ∧ (x.cps.toList[0]? = some 48 → x.length ≤ 1)) ?_ (fun ρ z => ?_)
  · repeat' walk_at "dl"
    · refine (numD_no fun z => ?_).symm
      have e := (zero_iff _).mp (by assumption)
      subst e
      have := z.2.2.1 (by assumption)
      omega
    · exact fun _ => by omega
    · intro w
      have e : z = 48 := by
        have hc : x.cps.toList[0]? = some z := hz2
        rw [w] at hc
        exact (Option.some.inj hc).symm
      exact absurd ((zero_iff z).mpr e) h
  obtain ⟨rfl, l2⟩ := z
  refine ws_seqI (fun ρ => (∃ s, ρ = [some (false, .str x), s]) ∧ AllDigits x.cps.toList) ?_ (fun ρ z => ?_)
  · repeat' walk_at "dl"
    refine forL_inv (fun i ρ => (∃ s, ρ = [some (false, .str x), s]) ∧ ∀ j c, j < i → x.cps.toList[j]? = some c → 48 ≤ c ∧ c ≤ 57) ⟨⟨_, rfl⟩, fun j c h => absurd h (by omega)⟩ (fun i d ρ hd hI => ?_) (fun ρ hI => ?_)
    · obtain ⟨⟨s, rfl⟩, hI⟩ := hI
      obtain ⟨c, hc, rfl⟩ := signs_get hd
      repeat' walk_at "dl"
      · refine (numD_no fun z => h ((dig_iff c).mpr (z.2.2.2 c (List.mem_of_getElem? hc)))).symm
      · refine ⟨⟨_, rfl⟩, fun j c' hj hc' => ?_⟩
        by_cases e : j = i
        · subst e
          rw [hc] at hc'
          cases hc'
          exact (dig_iff c).mp h
        · exact hI j c' (by omega) hc'
    · obtain ⟨e, hI⟩ := hI
      refine ⟨e, fun c hc => ?_⟩
      obtain ⟨j, hj, e⟩ := List.getElem_of_mem hc
      refine hI j c (by rw [signs_len, ← str_len]; exact hj) (by rw [List.getElem?_eq_getElem hj, e])
  obtain ⟨⟨s, rfl⟩, l3⟩ := z
  repeat' walk_at "dl"
  refine ⟨.int (digitsVal x.cps.toList : Nat), ?_, (numD_yes ⟨l0, l1, l2, l3⟩).symm⟩
  have h8 : x.cps.all (· < 128) = true := by
    rw [← Array.all_toList, List.all_eq_true]
    intro c hc
    have := l3 c hc
    exact decide_eq_true (by omega)
  unfold fIntT
  dsimp only
  rw [if_pos ⟨h8, hz⟩, intText_digits l3 (fun e => by rw [← str_len, e] at l0; cases l0) (by omega)]
  rfl
end K00

set_option Elab.async false
set_option linter.all false
set_option maxRecDepth 100000
set_option maxHeartbeats 4000000
namespace K00
open PySem PySem.Spec PyProof.Rows L2 DL PySem.NumText
set_option hygiene false in
local macro_rules | `(tactic| walk_at "dl") => `(tactic| (first
      | with_reducible refine DL.ws_seq ?_
      | with_reducible refine DL.ws_ret ?_
      | with_reducible refine DL.ws_set ?_
      | with_reducible refine DL.ws_setV ?_
      | with_reducible refine DL.ws_if ?_
      | with_reducible refine DL.ws_put ?_
      | with_reducible refine DL.ws_drop ?_
      | with_reducible refine DL.ws_for ?_
      | with_reducible refine DL.we_tE ?_
      | with_reducible refine DL.we_nE ?_
      | with_reducible refine DL.we_cons ?_
      | with_reducible refine DL.we_tup ?_
      | with_reducible refine DL.we_lst ?_
      | with_reducible refine DL.we_fz ?_
      | with_reducible refine DL.we_op2 ?_
      | with_reducible refine DL.we_xop2 ?_
      | with_reducible refine DL.we_xopN ?_
      | with_reducible refine DL.we_xopM ?_
      | with_reducible refine DL.we_if ?_
      | with_reducible refine DL.we_call ?_
      | with_reducible refine DL.we_eB ?_
      | with_reducible refine DL.we_not ?_
      | with_reducible refine DL.we_and ?_
      | with_reducible refine DL.we_or ?_
      | with_reducible refine DL.we_iSeq ?_
      | with_reducible refine DL.we_iRng ?_
      | with_reducible refine DL.we_mut ?_
      | with_reducible refine DL.we_nil ?_
      | with_reducible refine DL.wn_vN ?_
      | with_reducible refine DL.wn_op1 ?_
      | with_reducible refine DL.wn_op2 ?_
      | with_reducible refine DL.wn_opN ?_
      | with_reducible refine DL.wn_opM ?_
      | with_reducible refine DL.wn_tup ?_
      | with_reducible refine DL.wn_lst ?_
      | with_reducible refine DL.wn_sl ?_
      | with_reducible refine DL.wn_callV ?_
      | with_reducible refine DL.wn_call ?_
      | with_reducible refine DL.wd_gB ?_
      | with_reducible refine DL.wd_op2 ?_
      | with_reducible refine DL.wd_op1 ?_
      | with_reducible refine DL.wd_cons ?_
      | with_reducible refine DL.wd_nil ?_
      | with_reducible refine DL.wd_nV ?_
      | with_reducible refine DL.wd_k ?_
      | with_reducible refine DL.wd_if ?_
      | with_reducible refine DL.wd_andV ?_
      | with_reducible refine DL.wd_orV ?_
      | with_reducible refine DL.wd_notV ?_
      | with_reducible refine DL.wd_not ?_
      | with_reducible refine DL.wd_and ?_
      | with_reducible refine DL.wd_or ?_
      | with_reducible refine DL.wd_asB ?_
      | with_reducible refine DL.wd_gYes ?_
      | with_reducible refine DL.wd_pNone ?_
      | with_reducible refine DL.wd_pSome ?_
      | with_reducible refine DL.wd_here ?_
      | with_reducible refine DL.wd_jSeq ?_
      | with_reducible refine DL.wd_jRng ?_
      | with_reducible refine DL.wd_add ?_
      | with_reducible refine DL.wd_sub ?_
      | with_reducible refine DL.wd_neg ?_
      | with_reducible refine DL.wd_lt ?_
      | with_reducible refine DL.wd_le ?_
      | with_reducible refine DL.wd_gt ?_
      | with_reducible refine DL.wd_ge ?_
      | with_reducible refine DL.wd_eqI ?_
      | with_reducible refine DL.wd_neI ?_
      | with_reducible refine DL.wd_eqS ?_
      | with_reducible refine DL.wd_neS ?_
      | with_reducible refine DL.wd_int ?_
      | with_reducible refine DL.wd_abs ?_
      | with_reducible refine DL.ws_nx ?_
      | with_reducible refine DL.ws_retN ?_
      | with_reducible refine DL.ws_brk ?_
      | with_reducible refine DL.ws_cnt ?_
      | with_reducible refine DL.wd_var rfl ?_
      | with_reducible refine DL.we_lend rfl ?_
      | with_reducible refine DL.we_move rfl ?_
      | with_reducible refine DL.we_frz rfl ?_
      | with_reducible refine DL.we_ixN rfl ?_
      | with_reducible refine DL.we_mut0 rfl rfl ?_
      | with_reducible refine DL.we_mAt rfl rfl rfl ?_
      | with_reducible refine DL.wd_ixL (by decide) rfl ?_
      | with_reducible refine DL.wd_ixT (by decide) rfl ?_
      | with_reducible refine DL.wd_putL (by decide) rfl (by simp only [List.length_cons, List.length_nil, List.length_set]; omega) ?_ <;> dsimp only [List.set_cons_zero, List.set_cons_succ, DL.kill, List.map_cons, List.map_nil, DL.kl1, D.put, Int.reduceToNat]
      | ((with_reducible refine DL.wd_isiI true ?hh ?_); case hh => decide +kernel)
      | ((with_reducible refine DL.wd_isiI false ?hh ?_); case hh => decide +kernel)
      | ((with_reducible refine DL.wd_isiS true ?hh ?_); case hh => decide +kernel)
      | ((with_reducible refine DL.wd_isiS false ?hh ?_); case hh => decide +kernel)
      | ((with_reducible refine DL.wd_isiB true ?hh ?_); case hh => decide +kernel)
      | ((with_reducible refine DL.wd_isiB false ?hh ?_); case hh => decide +kernel)
      | ((with_reducible refine DL.wd_isiN true ?hh ?_); case hh => decide +kernel)
      | ((with_reducible refine DL.wd_isiN false ?hh ?_); case hh => decide +kernel)
      | ((with_reducible refine DL.wd_isiL true ?hh ?_); case hh => decide +kernel)
      | ((with_reducible refine DL.wd_isiL false ?hh ?_); case hh => decide +kernel)
      | ((with_reducible refine DL.wd_isiT true ?hh ?_); case hh => decide +kernel)
      | ((with_reducible refine DL.wd_isiT false ?hh ?_); case hh => decide +kernel)
      | with_reducible refine DL.wd_some ?_
      | with_reducible refine DL.exI ?_
      | ((with_reducible refine DL.wd_slS ?hh (fun y hy hy2 => ?_)); case hh => omega)
      | ((with_reducible refine DL.wd_mulS ?hh ?_); case hh => omega)
      | with_reducible refine DL.wn_comp ?_
      | with_reducible refine DL.we_comp ?_
      | ((with_reducible refine DL.wd_rng1 ?hh ?_); case hh => omega)
      | ((with_reducible refine DL.wd_rng2 ?h1 ?h2 ?_); (case h1 => omega); (case h2 => omega))
      | with_reducible refine DL.wd_isNT rfl ?_
      | with_reducible refine DL.wd_isNF rfl ?_
      | with_reducible refine DL.wd_notNT rfl ?_
      | with_reducible refine DL.wd_notNF rfl ?_
      | with_reducible refine DL.wd_lenL ?_
      | with_reducible refine DL.wd_lenT ?_
      | with_reducible refine DL.wd_pow (by decide) (by simp only [Int.reduceToNat, Int.reducePow]; rfl) ?_
      | with_reducible refine DL.wd_absP (fun r hr0 hr1 => ?_)
      | ((with_reducible refine DL.wd_modP ?hh (fun r hr0 hr1 hr2 => ?_)); case hh => omega)
      | ((with_reducible refine DL.wd_fdivP ?hh (fun r hr0 hr1 => ?_)); case hh => omega)
      | ((with_reducible refine DL.wd_mulB ?hh ?_); case hh => omega)
      | ((with_reducible refine DL.wd_ixInts ?hh (fun z hz hz2 => ?_)); case hh => omega)
      | ((with_reducible refine DL.wd_ixS ?hh (fun z hz hz2 => ?_)); case hh => omega)
      | ((with_reducible refine DL.wd_lenS ?hh ?_); case hh => first | assumption | omega | decide +kernel)
      | ((with_reducible refine DL.wd_addS ?hh ?_); case hh => first | assumption | omega | (simp only [PySem.Str.length_append]; omega) | decide +kernel)
      | with_reducible refine DL.wd_notIn ?_
      | with_reducible refine DL.wd_inS ?_
      | with_reducible refine DL.seqL ?_
      | with_reducible refine DL.seqT ?_
      | with_reducible refine DL.seqS ?_
      | with_reducible refine DL.fz_andI ?_
      | with_reducible refine DL.fz_andS ?_
      | with_reducible refine DL.fz_andB ?_
      | with_reducible refine DL.fz_andN ?_
      | with_reducible refine DL.flat_andI ?_
      | with_reducible refine DL.flat_andS ?_
      | with_reducible refine DL.flat_andB ?_
      | with_reducible refine DL.flat_andN ?_
      | with_reducible refine DL.ite_t ?_
      | with_reducible refine DL.ite_f ?_
      | with_reducible refine DL.ite_nt ?_
      | with_reducible refine DL.ite_nf ?_
      | with_reducible refine DL.ite_dec (fun h => ?_) (fun h => ?_)
      | with_reducible refine DL.ite_ndec (fun h => ?_) (fun h => ?_)
      | with_reducible refine DL.wd_hName (by simp only [List.length_cons, List.length_nil, List.length_set]; omega) ?_
      | ((with_reducible refine And.intro ?hh ?_); case hh => first | rfl | (simp only [List.length_cons, List.length_nil, List.length_set]; omega))
      | (simp only [mergeA, Option.map_some, List.getElem?_cons_zero, List.getElem?_cons_succ, isFz_int, isFz_str, isFz_bl, isFz_non, Bool.not_true, fzs_cons, fzs_nil, fz_int, fz_str, fz_bl, fz_non, fz_lst, fz_tup, fzs_strs, fzs_ints])
      | (dsimp only [isNon, List.set_cons_zero, List.set_cons_succ, DL.kill, List.map_cons, List.map_nil, DL.kl1, D.put, restore, List.map, wipeR])))

theorem val_snoc (cs : List Nat) (c : Nat) : digitsVal (cs ++ [c]) = digitsVal cs * 10 + (c - 48) := by
  unfold digitsVal
  rw [List.foldl_append]
  rfl
theorem val_lt : ∀ (n : Nat) (cs : List Nat), cs.length = n → AllDigits cs → digitsVal cs < 10 ^ n
  | 0, cs, e, _ => by
    have : cs = [] := List.eq_nil_of_length_eq_zero e
    subst this
    decide
  | n + 1, cs, e, h => by
    have hne : cs ≠ [] := fun z => by rw [z] at e; cases e
    have e1 := List.dropLast_concat_getLast hne
    have e2 : cs.dropLast.length = n := by rw [List.length_dropLast]; omega
    have h2 := val_lt n cs.dropLast e2 fun c hc => h c ((List.dropLast_sublist _).subset hc)
    have h3 := h (cs.getLast hne) (List.getLast_mem hne)
    rw [← e1, val_snoc, Nat.pow_succ]
    omega
theorem index_dig {c : Nat} (h : 48 ≤ c ∧ c ≤ 57) : Txt.index0 (Str.ofString "0123456789") ⟨#[c]⟩ = some (c - 48) := by
  have : c = 48 ∨ c = 49 ∨ c = 50 ∨ c = 51 ∨ c = 52 ∨ c = 53 ∨ c = 54 ∨ c = 55 ∨ c = 56 ∨ c = 57 := by omega
  rcases this with rfl | rfl | rfl | rfl | rfl | rfl | rfl | rfl | rfl | rfl <;> decide +kernel
theorem pow_big {i : Nat} (h : i ≤ 2000) : 10 ^ i < 2 ^ 8000 := by
  have : (10 : Nat) ^ i ≤ 16 ^ 2000 := Nat.le_trans (Nat.pow_le_pow_left (by decide) i) (Nat.pow_le_pow_right (by decide) h)
  have e : (16 : Nat) ^ 2000 = 2 ^ (4 * 2000) := by rw [Nat.pow_mul]
  rw [e] at this
  have h2 : (10 : Nat) ^ i < 2 ^ (4 * 2000) ∨ (10 : Nat) ^ i = 2 ^ (4 * 2000) := by omega
  rcases h2 with h2 | h2
  · exact h2
  · exfalso
    have h3 : (10 : Nat) ^ i ≤ 15 ^ 2000 := Nat.le_trans (Nat.pow_le_pow_left (by decide) i) (Nat.pow_le_pow_right (by decide) h)
    have h4 : (15 : Nat) ^ 2000 < 16 ^ 2000 := Nat.pow_lt_pow_left (by decide) (by decide)
    rw [e] at h4
    omega
theorem number_ok : NumOk (runF 1 3 [0] b__law_number.1) := fun x hx => by
  have hz : x.length ≤ sizeLine := Nat.le_trans hx (by decide)
  refine wr_runF rfl ?_
  show Ws (b__law_number.1 [some (false, .str x), none, none, none]) _
  unfold b__law_number
  dsimp only
  refine ws_seqI (fun ρ => ρ = [some (false, .str x), some (false, .str (Str.ofString "0123456789")), none, none]) (by repeat' walk_at "dl") (fun ρ z => ?_)
  subst z
  refine ws_seqI (fun ρ => ρ = [some (false, .str x), some (false, .str (Str.ofString "0123456789")), none, none] ∧ 0 < x.length ∧ x.length ≤ 2000 ∧ (x.cps.toList[0]? = some 48 → x.length ≤ 1)) ?_ (fun ρ z => ?_)
  · repeat' walk_at "dl"
    · exact (numD_no fun z => absurd z.1 (by omega)).symm
    · exact (numD_no fun z => absurd z.2.1 (by omega)).symm
    · refine (numD_no fun y => ?_).symm
      have e := (zero_iff _).mp (by assumption)
      subst e
      have := y.2.2.1 (by assumption)
      omega
    · exact ⟨by omega, by omega, fun _ => by omega⟩
    · refine ⟨by omega, by omega, fun w => ?_⟩
      have e : z = 48 := by
        have hc : x.cps.toList[0]? = some z := hz2
        rw [w] at hc
        exact (Option.some.inj hc).symm
      exact absurd ((zero_iff z).mpr e) h
  obtain ⟨rfl, l0, l1, l2⟩ := z
  refine ws_seqI (fun ρ => ρ = [some (false, .str x), some (false, .str (Str.ofString "0123456789")), some (false, .int 0), none]) (by repeat' walk_at "dl") (fun ρ z => ?_)
  subst z
  refine ws_seqI (fun ρ => (∃ s, ρ = [some (false, .str x), some (false, .str (Str.ofString "0123456789")), some (false, .int (digitsVal x.cps.toList : Nat)), s]) ∧ AllDigits x.cps.toList) ?_ (fun ρ z => ?_)
  · repeat' walk_at "dl"
    refine forL_inv (fun i ρ => (∃ s, ρ = [some (false, .str x), some (false, .str (Str.ofString "0123456789")), some (false, .int (digitsVal (x.cps.toList.take i) : Nat)), s]) ∧ AllDigits (x.cps.toList.take i)) ⟨⟨_, rfl⟩, fun c hc => (nomatch hc)⟩ (fun i d ρ hd hI => ?_) (fun ρ hI => ?_)
    · obtain ⟨⟨s, rfl⟩, hI⟩ := hI
      obtain ⟨c, hc, rfl⟩ := signs_get hd
      have hi : i < x.length := by rw [← str_len]; exact (List.getElem?_eq_some_iff.mp hc).1
      have ht : x.cps.toList.take (i + 1) = x.cps.toList.take i ++ [c] := by rw [List.take_add_one, hc]; rfl
      repeat' walk_at "dl"
      · refine (numD_no fun z => h ((dig_iff c).mpr (z.2.2.2 c (List.mem_of_getElem? hc)))).symm
      · have hdc := (dig_iff c).mp h
        have hv := val_lt i (x.cps.toList.take i) (by rw [List.length_take, str_len]; omega) hI
        refine wd_mul (cMul_of (a := 8000) (b := 10) ?_ (by decide) (by decide) (by decide) (by decide)) ?_
        · rw [Int.natAbs_natCast]
          exact Nat.lt_trans hv (pow_big (by omega))
        repeat' walk_at "dl"
        refine ⟨_, show fIndexS _ _ = some _ by unfold fIndexS; dsimp only; rw [index_dig hdc]; rfl, ?_⟩
        repeat' walk_at "dl"
        refine ⟨⟨some (false, .str ⟨#[c]⟩), ?_⟩, ?_⟩
        · rw [ht, val_snoc]
          exact congrArg (fun z => [some (false, D.str x), some (false, .str (Str.ofString "0123456789")), some (false, .int z), some (false, .str ⟨#[c]⟩)]) (by push_cast; rfl)
        · rw [ht]
          intro c' hc'
          rcases List.mem_append.mp hc' with z | z
          · exact hI c' z
          · rw [List.mem_singleton.mp z]
            exact hdc
    · rw [signs_len, ← str_len, List.take_length] at hI
      exact hI
  obtain ⟨⟨s, rfl⟩, l3⟩ := z
  repeat' walk_at "dl"
  exact (numD_yes ⟨l0, l1, l2, l3⟩).symm
/-! ### lines -/
open TL in
theorem joinL_snoc (S q : List Nat) : ∀ ps : List (List Nat), ps ≠ [] → joinL S (ps ++ [q]) = joinL S ps ++ (S ++ q)
  | [], h => absurd rfl h
  | [p], _ => by
    show p ++ (S ++ joinL S [q]) = p ++ (S ++ q)
    rfl
  | p :: r :: ps, _ => by
    show p ++ (S ++ joinL S ((r :: ps) ++ [q])) = (p ++ (S ++ joinL S (r :: ps))) ++ (S ++ q)
    rw [joinL_snoc S q (r :: ps) (by simp)]
    simp only [List.append_assoc]
open TL in
theorem joinL_last (S p q : List Nat) : ∀ ps : List (List Nat), joinL S (ps ++ [p ++ q]) = joinL S (ps ++ [p]) ++ q
  | [] => rfl
  | [r] => by
    show r ++ (S ++ (p ++ q)) = (r ++ (S ++ p)) ++ q
    simp only [List.append_assoc]
  | r :: t :: ps => by
    show r ++ (S ++ joinL S ((t :: ps) ++ [p ++ q])) = (r ++ (S ++ joinL S ((t :: ps) ++ [p]))) ++ q
    rw [joinL_last S p q (t :: ps)]
    simp only [List.append_assoc]
abbrev nl : Str := Str.ofString "\n"
theorem nl_iff (c : Nat) : (⟨#[c]⟩ : Str) = Str.ofString "\n" ↔ c = 10 := by
  have e : Str.ofString "\n" = ⟨#[10]⟩ := by decide
  rw [e]
  constructor
  · intro h; injection h with h; simpa using h
  · intro h; rw [h]
theorem app_tl (x y : Str) : (x ++ y).cps.toList = x.cps.toList ++ y.cps.toList := TL.tl_append x y
def LinesD (x : Str) (d : D) : Prop := ∃ (o : Bool) (ls : List Str) (p : Str), d = .tup [.lst o (ls.map .str), .str p] ∧ Txt.split x nl = ls ++ [p]
def LinesOk (f : List D → Option DL.Rd) : Prop := ∀ x : Str, x.length ≤ 100000 → Wr (f [.str x]) (fun d _ => ∃ (ls : List Str) (p : Str), d = .tup [.lst true (ls.map .str), .str p] ∧ Txt.split x nl = ls ++ [p] ∧ p.length ≤ 100000 ∧ ls.length ≤ 100000 ∧ ∀ l ∈ ls, l.length ≤ 100000) noX
theorem pieces_ok : LinesOk (runF 1 3 [0] b__law_pieces.1) := fun x hx => by
  have hz : x.length ≤ sizeLine := Nat.le_trans hx (by decide)
  have hzz : 100000 < sizeLine := by decide
  refine wr_runF rfl ?_
  show Ws (b__law_pieces.1 [some (false, .str x), none, none, none]) _
  unfold b__law_pieces
  dsimp only
  refine ws_seqI (fun ρ => ρ = [some (false, .str x), some (false, .lst true []), none, none]) (by repeat' walk_at "dl") (fun ρ z => ?_)
  subst z
  refine ws_seqI (fun ρ => ρ = [some (false, .str x), some (false, .lst true []), some (false, .str (Str.ofString "")), none]) (by repeat' walk_at "dl") (fun ρ z => ?_)
  subst z
  refine ws_seqI (fun ρ => ∃ s ls p, ρ = [some (false, .str x), some (false, .lst true (List.map D.str ls)), some (false, .str p), s] ∧ Txt.split x nl = ls ++ [p] ∧ p.length ≤ 100000 ∧ ls.length ≤ 100000 ∧ ∀ l ∈ ls, l.length ≤ 100000) ?_ (fun ρ z => ?_)
  · repeat' walk_at "dl"
    refine forL_inv (fun i ρ => ∃ s ls p, ρ = [some (false, .str x), some (false, .lst true (List.map D.str ls)), some (false, .str p), s] ∧ (∀ q ∈ ls ++ [p], 10 ∉ q.cps.toList) ∧ TL.joinL [10] ((ls ++ [p]).map TL.tl) = x.cps.toList.take i ∧ ls.length ≤ i ∧ p.length ≤ i ∧ ∀ l ∈ ls, l.length ≤ i)
      ⟨_, [], Str.ofString "", rfl, fun q hq => ?_, rfl, Nat.le_refl _, Nat.le_refl _, fun l h => (nomatch h)⟩ (fun i d ρ hd hI => ?_) (fun ρ hI => ?_)
    · rw [List.nil_append, List.mem_singleton] at hq
      subst hq
      exact fun h => (nomatch h)
    · obtain ⟨s, ls, p, rfl, h1, h2, h3, h4, h5⟩ := hI
      obtain ⟨c, hc, rfl⟩ := signs_get hd
      have hi : i < x.length := by rw [← str_len]; exact (List.getElem?_eq_some_iff.mp hc).1
      have ht : x.cps.toList.take (i + 1) = x.cps.toList.take i ++ [c] := by rw [List.take_add_one, hc]; rfl
      repeat' walk_at "dl"
      · have e := (nl_iff c).mp h
        subst e
        refine wd_append (by rw [List.length_map]; omega) ?_
        repeat' walk_at "dl"
        refine ⟨_, ls ++ [p], Str.ofString "", by rw [List.map_append]; rfl, ?_, ?_, by rw [List.length_append, List.length_singleton]; omega, Nat.zero_le _, ?_⟩
        · intro q hq
          rcases List.mem_append.mp hq with z | z
          · exact h1 q z
          · rw [List.mem_singleton.mp z]
            exact fun h => (nomatch h)
        · rw [List.map_append]
          exact (joinL_snoc [10] [] ((ls ++ [p]).map TL.tl) (by simp)).trans (by rw [h2, ht]; rfl)
        · intro l hl
          rcases List.mem_append.mp hl with z | z
          · have := h5 l z; omega
          · rw [List.mem_singleton.mp z]; omega
      · have e := mt (nl_iff c).mpr h
        have hl1 : (⟨#[c]⟩ : Str).length = 1 := rfl
        repeat' walk_at "dl"
        refine ⟨_, ls, p ++ ⟨#[c]⟩, rfl, ?_, ?_, by omega, by rw [PySem.Str.length_append, hl1]; omega, fun l hl => by have := h5 l hl; omega⟩
        · intro q hq
          rcases List.mem_append.mp hq with z | z
          · exact h1 q (List.mem_append_left _ z)
          · rw [List.mem_singleton.mp z, app_tl]
            intro w
            rcases List.mem_append.mp w with w | w
            · exact h1 p (List.mem_append_right _ (List.mem_singleton.mpr rfl)) w
            · exact e (List.mem_singleton.mp w).symm
        · have e3 : (ls ++ [p ++ ⟨#[c]⟩]).map TL.tl = ls.map TL.tl ++ [TL.tl p ++ [c]] := by
            rw [List.map_append, List.map_singleton]
            exact congrArg (fun z => ls.map TL.tl ++ [z]) (app_tl p _)
          have e4 : (ls ++ [p]).map TL.tl = ls.map TL.tl ++ [TL.tl p] := by rw [List.map_append, List.map_singleton]
          rw [e3, joinL_last, ← e4, h2, ht]
    · obtain ⟨s, ls, p, rfl, h1, h2, h3, h4, h5⟩ := hI
      rw [signs_len] at h2 h3 h4 h5
      refine ⟨s, ls, p, rfl, ?_, by omega, by omega, fun l hl => by have := h5 l hl; omega⟩
      rw [← str_len, List.take_length] at h2
      have e : x = Txt.join nl (ls ++ [p]) := by
        apply str_ext
        rw [TL.join_eq]
        exact (h2.symm.trans (TL.tl_join nl (ls ++ [p])).symm)
      rw [e]
      exact TL.split_join (s := 10) (S := []) rfl (by decide +kernel) (by simp) h1
  obtain ⟨s, ls, p, rfl, h1, h2, h3, h4⟩ := z
  repeat' walk_at "dl"
  exact ⟨ls, p, rfl, h1, h2, h3, h4⟩
theorem split_parts (x : Str) (hx : x.length ≤ 100000) : ∃ ls p, Txt.split x nl = ls ++ [p] ∧ p.length ≤ 100000 ∧ ls.length ≤ 100000 ∧ ∀ l ∈ ls, l.length ≤ 100000 := by
  obtain ⟨r, _, h⟩ := pieces_ok x hx
  cases r with
  | ok d b =>
    obtain ⟨ls, p, _, h⟩ := h
    exact ⟨ls, p, h⟩
  | ex C fs b => exact h.elim
theorem cut_last (xs : List D) (y : D) : DL.cutD (xs ++ [y]) none (some (-1)) = xs := by
  unfold DL.cutD
  have e : HT.sIx (xs ++ [y]).length (xs ++ [y]).length (some (-1)) = xs.length := by
    show (if (-1 : Int) < 0 then ((-1 : Int) + ((xs ++ [y]).length : Nat)).toNat else min (-1 : Int).toNat (xs ++ [y]).length) = _
    rw [if_pos (by decide), List.length_append, List.length_singleton]
    omega
  rw [e, HT.sIx_none, List.drop_zero, Nat.sub_zero, List.take_left]
theorem lines_ok : LinesOk (runF 1 1 [0] b_whole_lines.1) := fun x hx => by
  have hz : x.length ≤ sizeLine := Nat.le_trans hx (by decide)
  have hz2 : x.length + 2 ≤ sizeLine := Nat.le_trans (Nat.add_le_add_right hx 2) (by decide)
  obtain ⟨ls, p, e, b1, b2, b3⟩ := split_parts x hx
  refine wr_runF rfl ?_
  show Ws (b_whole_lines.1 [some (false, .str x), none]) _
  unfold b_whole_lines
  dsimp only
  repeat' walk_at "dl"
  refine ⟨.lst true ((ls ++ [p]).map .str), ?_, ?_⟩
  · unfold fSplit
    dsimp only
    rw [if_pos ⟨by decide +kernel, hz2⟩]
    exact congrArg (fun z => some (D.lst true (List.map D.str z))) e
  dsimp only
  rw [fz_lst, fzs_strs]
  repeat' walk_at "dl"
  refine ⟨.lst true (ls.map .str), ?_, ?_⟩
  · unfold fSl
    dsimp only
    unfold allFz
    rw [if_pos (isFzs_strs _), Option.map_some, List.map_append]
    exact congrArg (fun z => some (D.lst true z)) (cut_last (ls.map .str) (.str p))
  repeat' walk_at "dl"
  refine ⟨.str p, by rw [fIx_lst, List.map_append]; exact L2.atI_last _ _, ?_⟩
  repeat' walk_at "dl"
  exact ⟨ls, p, rfl, e, b1, b2, b3⟩
/-! ### sameness -/
mutual
/-- plain data of this depth -/
def plain : Nat → D → Prop
  | 0, _ => False
  | n + 1, d => match d with
    | .non => True
    | .bl _ => True
    | .int _ => True
    | .str _ => True
    | .lst o xs => o = false ∧ xs.length ≤ 1000000 ∧ ∀ x ∈ xs, plain n x
    | .tup xs => xs.length ≤ 1000000 ∧ ∀ x ∈ xs, plain n x
    | _ => False
end
def SameOk (n : Nat) (f : List D → Option DL.Rd) : Prop := ∀ d, plain n d → isFz d = true → Wr (f [d, d]) (fun r _ => r = .bl true) noX
theorem same_ok {n : Nat} {f : List D → Option DL.Rd} (hf : SameOk n f) : SameOk (n + 1) (runF 2 1 [0, 1] (b__law_same f).1) := fun d hp hz => by
  refine wr_runF rfl ?_
  show Ws ((b__law_same f).1 [some (false, d), some (false, d), none]) _
  unfold b__law_same
  dsimp only
  cases d with
  | non => repeat' walk_at "dl"
  | bl b => 
    repeat' walk_at "dl"
    refine ⟨.bl true, by simp [fEqA, fEq, eqD, toP_bl, SeqAt.shaped, PyData.canLay0, PyData.depth, PyData.eqv], ?_⟩
    show isFz (D.bl true) = true ∧ D.bl true = D.bl true
    repeat' walk_at "dl"
  | int i =>
    repeat' walk_at "dl"
    all_goals simp
  | str s =>
    repeat' walk_at "dl"
    all_goals simp
  | lst o xs =>
    obtain ⟨rfl, hl, hx⟩ := hp
    have hzx : ∀ x ∈ xs, isFz x = true := fun x hx => by
      rw [isFz, isFzs_all, Bool.and_eq_true] at hz
      exact List.all_eq_true.mp hz.2 x hx
    repeat' walk_at "dl"
    · exact absurd rfl h
    refine ⟨by rw [rng_len, Int.toNat_natCast]; exact Nat.le_trans hl (by decide), fun _ _ y => y = .bl true, fun i d hd => ?_, fun ys hy h2 => ?_⟩
    · obtain ⟨hi, rfl⟩ := rng_get' hd
      rw [Int.toNat_natCast] at hi
      have hm := List.getElem_mem hi
      repeat' walk_at "dl"
      refine wd_ixL (d := xs[i]) (by omega) (by rw [show ((0 : Int) + (i : Int)).toNat = i by omega]; exact List.getElem?_eq_getElem hi) ?_
      repeat' walk_at "dl"
      refine wd_ixL (d := xs[i]) (by omega) (by rw [show ((0 : Int) + (i : Int)).toNat = i by omega]; exact List.getElem?_eq_getElem hi) ?_
      repeat' walk_at "dl"
      rw [fz_of (hzx _ hm)]
      refine (hf _ (hx _ hm) (hzx _ hm)).mono (fun d b e => ?_) (fun _ _ _ h => h.elim)
      subst e
      exact ⟨rfl, rfl⟩
    · repeat' walk_at "dl"
      refine wd_allT (mem_of_all hy h2) ?_
      repeat' walk_at "dl"
  | tup xs =>
    obtain ⟨hl, hx⟩ := hp
    have hzx : ∀ x ∈ xs, isFz x = true := fun x hx => by
      rw [isFz, isFzs_all] at hz
      exact List.all_eq_true.mp hz x hx
    repeat' walk_at "dl"
    · exact absurd rfl h
    refine ⟨by rw [rng_len, Int.toNat_natCast]; exact Nat.le_trans hl (by decide), fun _ _ y => y = .bl true, fun i d hd => ?_, fun ys hy h2 => ?_⟩
    · obtain ⟨hi, rfl⟩ := rng_get' hd
      rw [Int.toNat_natCast] at hi
      have hm := List.getElem_mem hi
      repeat' walk_at "dl"
      refine wd_ixT (d := xs[i]) (by omega) (by rw [show ((0 : Int) + (i : Int)).toNat = i by omega]; exact List.getElem?_eq_getElem hi) ?_
      repeat' walk_at "dl"
      refine wd_ixT (d := xs[i]) (by omega) (by rw [show ((0 : Int) + (i : Int)).toNat = i by omega]; exact List.getElem?_eq_getElem hi) ?_
      repeat' walk_at "dl"
      rw [fz_of (hzx _ hm)]
      refine (hf _ (hx _ hm) (hzx _ hm)).mono (fun d b e => ?_) (fun _ _ _ h => h.elim)
      subst e
      exact ⟨rfl, rfl⟩
    · repeat' walk_at "dl"
      refine wd_allT (mem_of_all hy h2) ?_
      repeat' walk_at "dl"
  | _ => exact hp.elim
end K00

set_option Elab.async false
set_option linter.all false
set_option maxRecDepth 100000
set_option maxHeartbeats 4000000
namespace K00
open PySem PySem.Spec PyProof.Rows L2 DL PySem.NumText
set_option hygiene false in
local macro_rules | `(tactic| walk_at "dl") => `(tactic| (first
      | with_reducible refine DL.ws_seq ?_
      | with_reducible refine DL.ws_ret ?_
      | with_reducible refine DL.ws_set ?_
      | with_reducible refine DL.ws_setV ?_
      | with_reducible refine DL.ws_if ?_
      | with_reducible refine DL.ws_put ?_
      | with_reducible refine DL.ws_drop ?_
      | with_reducible refine DL.ws_for ?_
      | with_reducible refine DL.we_tE ?_
      | with_reducible refine DL.we_nE ?_
      | with_reducible refine DL.we_cons ?_
      | with_reducible refine DL.we_tup ?_
      | with_reducible refine DL.we_lst ?_
      | with_reducible refine DL.we_fz ?_
      | with_reducible refine DL.we_op2 ?_
      | with_reducible refine DL.we_xop2 ?_
      | with_reducible refine DL.we_xopN ?_
      | with_reducible refine DL.we_xopM ?_
      | with_reducible refine DL.we_if ?_
      | with_reducible refine DL.we_call ?_
      | with_reducible refine DL.we_eB ?_
      | with_reducible refine DL.we_not ?_
      | with_reducible refine DL.we_and ?_
      | with_reducible refine DL.we_or ?_
      | with_reducible refine DL.we_iSeq ?_
      | with_reducible refine DL.we_iRng ?_
      | with_reducible refine DL.we_mut ?_
      | with_reducible refine DL.we_nil ?_
      | with_reducible refine DL.wn_vN ?_
      | with_reducible refine DL.wn_op1 ?_
      | with_reducible refine DL.wn_op2 ?_
      | with_reducible refine DL.wn_opN ?_
      | with_reducible refine DL.wn_opM ?_
      | with_reducible refine DL.wn_tup ?_
      | with_reducible refine DL.wn_lst ?_
      | with_reducible refine DL.wn_sl ?_
      | with_reducible refine DL.wn_callV ?_
      | with_reducible refine DL.wn_call ?_
      | with_reducible refine DL.wd_gB ?_
      | with_reducible refine DL.wd_op2 ?_
      | with_reducible refine DL.wd_op1 ?_
      | with_reducible refine DL.wd_cons ?_
      | with_reducible refine DL.wd_nil ?_
      | with_reducible refine DL.wd_nV ?_
      | with_reducible refine DL.wd_k ?_
      | with_reducible refine DL.wd_if ?_
      | with_reducible refine DL.wd_andV ?_
      | with_reducible refine DL.wd_orV ?_
      | with_reducible refine DL.wd_notV ?_
      | with_reducible refine DL.wd_not ?_
      | with_reducible refine DL.wd_and ?_
      | with_reducible refine DL.wd_or ?_
      | with_reducible refine DL.wd_asB ?_
      | with_reducible refine DL.wd_gYes ?_
      | with_reducible refine DL.wd_pNone ?_
      | with_reducible refine DL.wd_pSome ?_
      | with_reducible refine DL.wd_here ?_
      | with_reducible refine DL.wd_jSeq ?_
      | with_reducible refine DL.wd_jRng ?_
      | with_reducible refine DL.wd_add ?_
      | with_reducible refine DL.wd_sub ?_
      | with_reducible refine DL.wd_neg ?_
      | with_reducible refine DL.wd_lt ?_
      | with_reducible refine DL.wd_le ?_
      | with_reducible refine DL.wd_gt ?_
      | with_reducible refine DL.wd_ge ?_
      | with_reducible refine DL.wd_eqI ?_
      | with_reducible refine DL.wd_neI ?_
      | with_reducible refine DL.wd_eqS ?_
      | with_reducible refine DL.wd_neS ?_
      | with_reducible refine DL.wd_int ?_
      | with_reducible refine DL.wd_abs ?_
      | with_reducible refine DL.ws_nx ?_
      | with_reducible refine DL.ws_retN ?_
      | with_reducible refine DL.ws_brk ?_
      | with_reducible refine DL.ws_cnt ?_
      | with_reducible refine DL.wd_var rfl ?_
      | with_reducible refine DL.we_lend rfl ?_
      | with_reducible refine DL.we_move rfl ?_
      | with_reducible refine DL.we_frz rfl ?_
      | with_reducible refine DL.we_ixN rfl ?_
      | with_reducible refine DL.we_mut0 rfl rfl ?_
      | with_reducible refine DL.we_mAt rfl rfl rfl ?_
      | with_reducible refine DL.wd_ixL (by decide) rfl ?_
      | with_reducible refine DL.wd_ixT (by decide) rfl ?_
      | with_reducible refine DL.wd_putL (by decide) rfl (by simp only [List.length_cons, List.length_nil, List.length_set]; omega) ?_ <;> dsimp only [List.set_cons_zero, List.set_cons_succ, DL.kill, List.map_cons, List.map_nil, DL.kl1, D.put, Int.reduceToNat]
      | ((with_reducible refine DL.wd_isiI true ?hh ?_); case hh => decide +kernel)
      | ((with_reducible refine DL.wd_isiI false ?hh ?_); case hh => decide +kernel)
      | ((with_reducible refine DL.wd_isiS true ?hh ?_); case hh => decide +kernel)
      | ((with_reducible refine DL.wd_isiS false ?hh ?_); case hh => decide +kernel)
      | ((with_reducible refine DL.wd_isiB true ?hh ?_); case hh => decide +kernel)
      | ((with_reducible refine DL.wd_isiB false ?hh ?_); case hh => decide +kernel)
      | ((with_reducible refine DL.wd_isiN true ?hh ?_); case hh => decide +kernel)
      | ((with_reducible refine DL.wd_isiN false ?hh ?_); case hh => decide +kernel)
      | ((with_reducible refine DL.wd_isiL true ?hh ?_); case hh => decide +kernel)
      | ((with_reducible refine DL.wd_isiL false ?hh ?_); case hh => decide +kernel)
      | ((with_reducible refine DL.wd_isiT true ?hh ?_); case hh => decide +kernel)
      | ((with_reducible refine DL.wd_isiT false ?hh ?_); case hh => decide +kernel)
      | with_reducible refine DL.wd_some ?_
      | with_reducible refine DL.exI ?_
      | ((with_reducible refine DL.wd_slS ?hh (fun y hy hy2 => ?_)); case hh => omega)
      | ((with_reducible refine DL.wd_mulS ?hh ?_); case hh => omega)
      | with_reducible refine DL.wn_comp ?_
      | with_reducible refine DL.we_comp ?_
      | ((with_reducible refine DL.wd_rng1 ?hh ?_); case hh => omega)
      | ((with_reducible refine DL.wd_rng2 ?h1 ?h2 ?_); (case h1 => omega); (case h2 => omega))
      | with_reducible refine DL.wd_isNT rfl ?_
      | with_reducible refine DL.wd_isNF rfl ?_
      | with_reducible refine DL.wd_notNT rfl ?_
      | with_reducible refine DL.wd_notNF rfl ?_
      | with_reducible refine DL.wd_lenL ?_
      | with_reducible refine DL.wd_lenT ?_
      | with_reducible refine DL.wd_pow (by decide) (by simp only [Int.reduceToNat, Int.reducePow]; rfl) ?_
      | with_reducible refine DL.wd_absP (fun r hr0 hr1 => ?_)
      | ((with_reducible refine DL.wd_modP ?hh (fun r hr0 hr1 hr2 => ?_)); case hh => omega)
      | ((with_reducible refine DL.wd_fdivP ?hh (fun r hr0 hr1 => ?_)); case hh => omega)
      | ((with_reducible refine DL.wd_mulB ?hh ?_); case hh => omega)
      | ((with_reducible refine DL.wd_ixInts ?hh (fun z hz hz2 => ?_)); case hh => omega)
      | ((with_reducible refine DL.wd_ixS ?hh (fun z hz hz2 => ?_)); case hh => omega)
      | ((with_reducible refine DL.wd_lenS ?hh ?_); case hh => first | assumption | omega | decide +kernel)
      | ((with_reducible refine DL.wd_addS ?hh ?_); case hh => first | assumption | omega | (simp only [PySem.Str.length_append]; omega) | decide +kernel)
      | with_reducible refine DL.wd_notIn ?_
      | with_reducible refine DL.wd_inS ?_
      | with_reducible refine DL.seqL ?_
      | with_reducible refine DL.seqT ?_
      | with_reducible refine DL.seqS ?_
      | with_reducible refine DL.fz_andI ?_
      | with_reducible refine DL.fz_andS ?_
      | with_reducible refine DL.fz_andB ?_
      | with_reducible refine DL.fz_andN ?_
      | with_reducible refine DL.flat_andI ?_
      | with_reducible refine DL.flat_andS ?_
      | with_reducible refine DL.flat_andB ?_
      | with_reducible refine DL.flat_andN ?_
      | with_reducible refine DL.ite_t ?_
      | with_reducible refine DL.ite_f ?_
      | with_reducible refine DL.ite_nt ?_
      | with_reducible refine DL.ite_nf ?_
      | with_reducible refine DL.ite_dec (fun h => ?_) (fun h => ?_)
      | with_reducible refine DL.ite_ndec (fun h => ?_) (fun h => ?_)
      | with_reducible refine DL.wd_hName (by simp only [List.length_cons, List.length_nil, List.length_set]; omega) ?_
      | ((with_reducible refine And.intro ?hh ?_); case hh => first | rfl | (simp only [List.length_cons, List.length_nil, List.length_set]; omega))
      | (simp only [mergeA, Option.map_some, List.getElem?_cons_zero, List.getElem?_cons_succ, isFz_int, isFz_str, isFz_bl, isFz_non, Bool.not_true, fzs_cons, fzs_nil, fz_int, fz_str, fz_bl, fz_non, fz_lst, fz_tup, fzs_strs, fzs_ints])
      | (dsimp only [isNon, List.set_cons_zero, List.set_cons_succ, DL.kill, List.map_cons, List.map_nil, DL.kl1, D.put, restore, List.map, wipeR])))

def ReadOk (f : List D → Option DL.Rd) : Prop := ∀ x : Str, x.length ≤ 100000 → Wr (f [.str x]) (fun d _ => d = .bl true) noX
theorem numD_cases (x : Str) : numD x = .non ∨ ∃ i, numD x = .int i := by
  by_cases h : IsNum x
  · exact .inr ⟨_, numD_yes h⟩
  · exact .inl (numD_no h)
theorem read_ok {fn fl : List D → Option DL.Rd} (hn : NumOk fn) (hl : NumOk fl) : ReadOk (runF 1 2 [0] (b__law_read fn fl).1) := fun x hx => by
  refine wr_runF rfl ?_
  show Ws ((b__law_read fn fl).1 [some (false, .str x), none, none]) _
  unfold b__law_read
  dsimp only
  repeat' walk_at "dl"
  refine (hn x hx).mono (fun d _ e => ?_) (fun _ _ _ h => h.elim)
  subst e
  rcases numD_cases x with e | ⟨i, e⟩
  · rw [e]
    repeat' walk_at "dl"
    refine (hl x hx).mono (fun d _ e => ?_) (fun _ _ _ h => h.elim)
    subst e
    rw [e]
    repeat' walk_at "dl"
  · rw [e]
    repeat' walk_at "dl"
    refine (hl x hx).mono (fun d _ e => ?_) (fun _ _ _ h => h.elim)
    subst e
    rw [e]
    repeat' walk_at "dl"
    simp
def SplitOk (f : List D → Option DL.Rd) : Prop := ∀ x : Str, x.length ≤ 100000 → Wr (f [.str x]) (fun d _ => d = .bl true) noX
theorem split_ok {fw fs fp : List D → Option DL.Rd} (hw : LinesOk fw) (hs : SameOk 3 fs) (hp : LinesOk fp) : SplitOk (runF 1 2 [0] (b__law_split fw fs fp).1) := fun x hx => by
  refine wr_runF rfl ?_
  show Ws ((b__law_split fw fs fp).1 [some (false, .str x), none, none]) _
  unfold b__law_split
  dsimp only
  repeat' walk_at "dl"
  refine (hp x hx).mono (fun d _ e => ?_) (fun _ _ _ h => h.elim)
  obtain ⟨ls, p, rfl, hsp, b1, b2, b3⟩ := e
  have hpl : plain 3 (.tup [.lst false (ls.map .str), .str p]) := by
    refine ⟨by simp, fun z hz => ?_⟩
    rcases List.mem_cons.mp hz with rfl | hz
    · refine ⟨rfl, by rw [List.length_map]; omega, fun z hz => ?_⟩
      obtain ⟨y, _, rfl⟩ := List.mem_map.mp hz
      exact trivial
    · rw [List.mem_singleton.mp hz]
      exact trivial
  have hfz : isFz (.tup [.lst false (ls.map .str), .str p]) = true := by
    rw [isFz, isFzs, isFzs, isFzs, isFz, isFz_str, isFzs_strs]
    rfl
  repeat' walk_at "dl"
  refine (hw x hx).mono (fun d _ e => ?_) (fun _ _ _ h => h.elim)
  obtain ⟨ls', p', rfl, hsp', _⟩ := e
  rw [hsp] at hsp'
  obtain ⟨rfl, e2⟩ := List.append_inj' hsp' rfl
  cases e2
  repeat' walk_at "dl"
  refine (hs _ hpl hfz).mono (fun d _ e => ?_) (fun _ _ _ h => h.elim)
  subst e
  repeat' walk_at "dl"
  refine wd_pIxT (n := 0) (D0 := .tup [.lst true (ls.map .str), .str p]) (xs := [.lst true (ls.map .str), .str p]) ?_
  repeat' walk_at "dl"
  refine wd_append (by rw [List.length_map]; exact Nat.lt_of_le_of_lt b2 (by decide)) ?_
  repeat' walk_at "dl"
  refine (hw x hx).mono (fun d _ e => ?_) (fun _ _ _ h => h.elim)
  obtain ⟨ls', p', rfl, hsp', _⟩ := e
  rw [hsp] at hsp'
  obtain ⟨rfl, e2⟩ := List.append_inj' hsp' rfl
  cases e2
  repeat' walk_at "dl"
  refine (hs _ hpl hfz).mono (fun d _ e => ?_) (fun _ _ _ h => h.elim)
  subst e
  repeat' walk_at "dl"
end K00

set_option Elab.async false
set_option linter.all false
set_option maxRecDepth 100000
set_option maxHeartbeats 4000000
namespace K00
open PySem PySem.Spec PyProof.Rows L2 DL PySem.NumText
set_option hygiene false in
local macro_rules | `(tactic| walk_at "dl") => `(tactic| (first
      | with_reducible refine DL.ws_seq ?_
      | with_reducible refine DL.ws_ret ?_
      | with_reducible refine DL.ws_set ?_
      | with_reducible refine DL.ws_setV ?_
      | with_reducible refine DL.ws_if ?_
      | with_reducible refine DL.ws_put ?_
      | with_reducible refine DL.ws_drop ?_
      | with_reducible refine DL.ws_for ?_
      | with_reducible refine DL.we_tE ?_
      | with_reducible refine DL.we_nE ?_
      | with_reducible refine DL.we_cons ?_
      | with_reducible refine DL.we_tup ?_
      | with_reducible refine DL.we_lst ?_
      | with_reducible refine DL.we_fz ?_
      | with_reducible refine DL.we_op2 ?_
      | with_reducible refine DL.we_xop2 ?_
      | with_reducible refine DL.we_xopN ?_
      | with_reducible refine DL.we_xopM ?_
      | with_reducible refine DL.we_if ?_
      | with_reducible refine DL.we_call ?_
      | with_reducible refine DL.we_eB ?_
      | with_reducible refine DL.we_not ?_
      | with_reducible refine DL.we_and ?_
      | with_reducible refine DL.we_or ?_
      | with_reducible refine DL.we_iSeq ?_
      | with_reducible refine DL.we_iRng ?_
      | with_reducible refine DL.we_mut ?_
      | with_reducible refine DL.we_nil ?_
      | with_reducible refine DL.wn_vN ?_
      | with_reducible refine DL.wn_op1 ?_
      | with_reducible refine DL.wn_op2 ?_
      | with_reducible refine DL.wn_opN ?_
      | with_reducible refine DL.wn_opM ?_
      | with_reducible refine DL.wn_tup ?_
      | with_reducible refine DL.wn_lst ?_
      | with_reducible refine DL.wn_sl ?_
      | with_reducible refine DL.wn_callV ?_
      | with_reducible refine DL.wn_call ?_
      | with_reducible refine DL.wd_gB ?_
      | with_reducible refine DL.wd_op2 ?_
      | with_reducible refine DL.wd_op1 ?_
      | with_reducible refine DL.wd_cons ?_
      | with_reducible refine DL.wd_nil ?_
      | with_reducible refine DL.wd_nV ?_
      | with_reducible refine DL.wd_k ?_
      | with_reducible refine DL.wd_if ?_
      | with_reducible refine DL.wd_andV ?_
      | with_reducible refine DL.wd_orV ?_
      | with_reducible refine DL.wd_notV ?_
      | with_reducible refine DL.wd_not ?_
      | with_reducible refine DL.wd_and ?_
      | with_reducible refine DL.wd_or ?_
      | with_reducible refine DL.wd_asB ?_
      | with_reducible refine DL.wd_gYes ?_
      | with_reducible refine DL.wd_pNone ?_
      | with_reducible refine DL.wd_pSome ?_
      | with_reducible refine DL.wd_here ?_
      | with_reducible refine DL.wd_jSeq ?_
      | with_reducible refine DL.wd_jRng ?_
      | with_reducible refine DL.wd_add ?_
      | with_reducible refine DL.wd_sub ?_
      | with_reducible refine DL.wd_neg ?_
      | with_reducible refine DL.wd_lt ?_
      | with_reducible refine DL.wd_le ?_
      | with_reducible refine DL.wd_gt ?_
      | with_reducible refine DL.wd_ge ?_
      | with_reducible refine DL.wd_eqI ?_
      | with_reducible refine DL.wd_neI ?_
      | with_reducible refine DL.wd_eqS ?_
      | with_reducible refine DL.wd_neS ?_
      | with_reducible refine DL.wd_int ?_
      | with_reducible refine DL.wd_abs ?_
      | with_reducible refine DL.ws_nx ?_
      | with_reducible refine DL.ws_retN ?_
      | with_reducible refine DL.ws_brk ?_
      | with_reducible refine DL.ws_cnt ?_
      | with_reducible refine DL.wd_var rfl ?_
      | with_reducible refine DL.we_lend rfl ?_
      | with_reducible refine DL.we_move rfl ?_
      | with_reducible refine DL.we_frz rfl ?_
      | with_reducible refine DL.we_ixN rfl ?_
      | with_reducible refine DL.we_mut0 rfl rfl ?_
      | with_reducible refine DL.we_mAt rfl rfl rfl ?_
      | with_reducible refine DL.wd_ixL (by decide) rfl ?_
      | with_reducible refine DL.wd_ixT (by decide) rfl ?_
      | with_reducible refine DL.wd_putL (by decide) rfl (by simp only [List.length_cons, List.length_nil, List.length_set]; omega) ?_ <;> dsimp only [List.set_cons_zero, List.set_cons_succ, DL.kill, List.map_cons, List.map_nil, DL.kl1, D.put, Int.reduceToNat]
      | ((with_reducible refine DL.wd_isiI true ?hh ?_); case hh => decide +kernel)
      | ((with_reducible refine DL.wd_isiI false ?hh ?_); case hh => decide +kernel)
      | ((with_reducible refine DL.wd_isiS true ?hh ?_); case hh => decide +kernel)
      | ((with_reducible refine DL.wd_isiS false ?hh ?_); case hh => decide +kernel)
      | ((with_reducible refine DL.wd_isiB true ?hh ?_); case hh => decide +kernel)
      | ((with_reducible refine DL.wd_isiB false ?hh ?_); case hh => decide +kernel)
      | ((with_reducible refine DL.wd_isiN true ?hh ?_); case hh => decide +kernel)
      | ((with_reducible refine DL.wd_isiN false ?hh ?_); case hh => decide +kernel)
      | ((with_reducible refine DL.wd_isiL true ?hh ?_); case hh => decide +kernel)
      | ((with_reducible refine DL.wd_isiL false ?hh ?_); case hh => decide +kernel)
      | ((with_reducible refine DL.wd_isiT true ?hh ?_); case hh => decide +kernel)
      | ((with_reducible refine DL.wd_isiT false ?hh ?_); case hh => decide +kernel)
      | with_reducible refine DL.wd_some ?_
      | with_reducible refine DL.exI ?_
      | ((with_reducible refine DL.wd_slS ?hh (fun y hy hy2 => ?_)); case hh => omega)
      | ((with_reducible refine DL.wd_mulS ?hh ?_); case hh => omega)
      | with_reducible refine DL.wn_comp ?_
      | with_reducible refine DL.we_comp ?_
      | ((with_reducible refine DL.wd_rng1 ?hh ?_); case hh => omega)
      | ((with_reducible refine DL.wd_rng2 ?h1 ?h2 ?_); (case h1 => omega); (case h2 => omega))
      | with_reducible refine DL.wd_isNT rfl ?_
      | with_reducible refine DL.wd_isNF rfl ?_
      | with_reducible refine DL.wd_notNT rfl ?_
      | with_reducible refine DL.wd_notNF rfl ?_
      | with_reducible refine DL.wd_lenL ?_
      | with_reducible refine DL.wd_lenT ?_
      | with_reducible refine DL.wd_pow (by decide) (by simp only [Int.reduceToNat, Int.reducePow]; rfl) ?_
      | with_reducible refine DL.wd_absP (fun r hr0 hr1 => ?_)
      | ((with_reducible refine DL.wd_modP ?hh (fun r hr0 hr1 hr2 => ?_)); case hh => omega)
      | ((with_reducible refine DL.wd_fdivP ?hh (fun r hr0 hr1 => ?_)); case hh => omega)
      | ((with_reducible refine DL.wd_mulB ?hh ?_); case hh => omega)
      | ((with_reducible refine DL.wd_ixInts ?hh (fun z hz hz2 => ?_)); case hh => omega)
      | ((with_reducible refine DL.wd_ixS ?hh (fun z hz hz2 => ?_)); case hh => omega)
      | ((with_reducible refine DL.wd_lenS ?hh ?_); case hh => first | assumption | omega | decide +kernel)
      | ((with_reducible refine DL.wd_addS ?hh ?_); case hh => first | assumption | omega | (simp only [PySem.Str.length_append]; omega) | decide +kernel)
      | with_reducible refine DL.wd_notIn ?_
      | with_reducible refine DL.wd_inS ?_
      | with_reducible refine DL.seqL ?_
      | with_reducible refine DL.seqT ?_
      | with_reducible refine DL.seqS ?_
      | with_reducible refine DL.fz_andI ?_
      | with_reducible refine DL.fz_andS ?_
      | with_reducible refine DL.fz_andB ?_
      | with_reducible refine DL.fz_andN ?_
      | with_reducible refine DL.flat_andI ?_
      | with_reducible refine DL.flat_andS ?_
      | with_reducible refine DL.flat_andB ?_
      | with_reducible refine DL.flat_andN ?_
      | with_reducible refine DL.ite_t ?_
      | with_reducible refine DL.ite_f ?_
      | with_reducible refine DL.ite_nt ?_
      | with_reducible refine DL.ite_nf ?_
      | with_reducible refine DL.ite_dec (fun h => ?_) (fun h => ?_)
      | with_reducible refine DL.ite_ndec (fun h => ?_) (fun h => ?_)
      | with_reducible refine DL.wd_hName (by simp only [List.length_cons, List.length_nil, List.length_set]; omega) ?_
      | ((with_reducible refine And.intro ?hh ?_); case hh => first | rfl | (simp only [List.length_cons, List.length_nil, List.length_set]; omega))
      | (simp only [mergeA, Option.map_some, List.getElem?_cons_zero, List.getElem?_cons_succ, isFz_int, isFz_str, isFz_bl, isFz_non, Bool.not_true, fzs_cons, fzs_nil, fz_int, fz_str, fz_bl, fz_non, fz_lst, fz_tup, fzs_strs, fzs_ints])
      | (dsimp only [isNon, List.set_cons_zero, List.set_cons_succ, DL.kill, List.map_cons, List.map_nil, DL.kl1, D.put, restore, List.map, wipeR])))

theorem TapeOk.mono {b c : Nat} {t : D} (h : TapeOk b t) (hb : b ≤ c) : TapeOk c t := by
  obtain ⟨ns, i, c', n, s, e, h1, h2, h3, h4, h5, h6, h7⟩ := h
  exact ⟨ns, i, c', n, s, e, h1, h2, h3, h4, by omega, h6, h7⟩
/-- one sign of a text is drawn -/
def SignOk (f : List D → Option DL.Rd) : Prop := ∀ (b : Nat) (t : D), TapeOk b t → b < 2 ^ 58 → Wr (f [t]) (fun d bk => ∃ s t', d = .str s ∧ s.length = 1 ∧ TapeOk (b + 1) t' ∧ bk = [some t']) noX
def DigitsOk (f : List D → Option DL.Rd) : Prop := ∀ (b : Nat) (t : D) (n : Int), TapeOk b t → b < 2 ^ 57 → 0 ≤ n → n ≤ 1000000 → Wr (f [t, .int n]) (fun d bk => ∃ s t', d = .str s ∧ s.length = n.toNat ∧ TapeOk (b + 1000000) t' ∧ bk = [some t', some (.int n)]) noX
theorem char_ok {f : List D → Option DL.Rd} (hf : TakeOk f) : SignOk (runF 1 1 [0] (b__law_char f).1) := fun b t ht hb => by
  refine wr_runF rfl ?_
  show Ws ((b__law_char f).1 [some (false, t), none]) _
  unfold b__law_char
  dsimp only
  repeat' walk_at "dl"
  refine Wr.mono (hf b t _ ht ?h1 ?h2 ?h3) (fun d bk hd => ?_) (fun _ _ _ h => h.elim)
  case h1 => omega
  case h2 => decide +kernel
  case h3 => decide +kernel
  obtain ⟨v, t', rfl, v0, v1, ht', rfl⟩ := hd
  repeat' walk_at "dl"
  refine wd_ixS ⟨v0, v1, by decide +kernel⟩ fun c _ _ => ?_
  repeat' walk_at "dl"
  exact ⟨_, t', rfl, rfl, ht', rfl⟩
theorem digits_ok {f : List D → Option DL.Rd} (hf : TakeOk f) : DigitsOk (runF 2 2 [0, 1] (b__law_digits f).1) := fun b t n ht hb h0 h1 => by
  refine wr_runF rfl ?_
  show Ws ((b__law_digits f).1 [some (false, t), some (false, .int n), none, none]) _
  unfold b__law_digits
  dsimp only
  repeat' walk_at "dl"
  refine ⟨by rw [rng_len]; exact Nat.le_trans (by omega : n.toNat ≤ 1000000) (by decide), fun i ys ρ => ∃ t' ss, ρ = [some (false, t'), some (false, .int n), some (false, .str (Str.ofString "0123456789")), none] ∧ TapeOk (b + i) t' ∧ ys = ss.map D.str ∧ ss.length = i ∧ ∀ s ∈ ss, s.length = 1,
    ⟨t, [], rfl, ht, rfl, rfl, fun s h => (nomatch h)⟩, fun i d ys ρ hd hI hy => ?_, fun ys ρ2 hI => ?_⟩
  · obtain ⟨t', ss, rfl, ht', rfl, e2, e3⟩ := hI
    obtain ⟨hi, rfl⟩ := rng_get' hd
    repeat' walk_at "dl"
    refine (hf (b + i) t' 10 ht' (by omega) (by omega) (by omega)).mono (fun d bk hd => ?_) (fun _ _ _ h => h.elim)
    obtain ⟨v, t2, rfl, v0, v1, ht2, rfl⟩ := hd
    repeat' walk_at "dl"
    refine wd_ixS ⟨v0, Int.lt_of_lt_of_le v1 (by decide +kernel), by decide +kernel⟩ fun c _ _ => ?_
    repeat' walk_at "dl"
    refine ⟨t2, ss ++ [⟨#[c]⟩], rfl, ht2, by rw [List.map_append]; rfl, by rw [List.length_append, e2]; rfl, fun s hs => ?_⟩
    rcases List.mem_append.mp hs with z | z
    · exact e3 s z
    · rw [List.mem_singleton.mp z]; rfl
  · obtain ⟨t', ss, rfl, ht', rfl, e2, e3⟩ := hI
    rw [rng_len] at e2 ht'
    repeat' walk_at "dl"
    have e4 := sum_ones e3
    refine wd_join (by rw [e4, show (Str.ofString "").length = 0 from rfl]; omega) ?_
    refine ⟨_, t', rfl, ?_, ht'.mono (by omega), rfl⟩
    rw [PySem.W.KT.join_ones ss e3, e2]
theorem sign_ok {f : List D → Option DL.Rd} (hf : TakeOk f) : SignOk (runF 1 1 [0] (b__law_sign f).1) := fun b t ht hb => by
  refine wr_runF rfl ?_
  show Ws ((b__law_sign f).1 [some (false, t), none]) _
  unfold b__law_sign
  dsimp only
  repeat' walk_at "dl"
  refine ⟨by decide, ?_⟩
  repeat' walk_at "dl"
  refine (hf b t 11 ht (by omega) (by omega) (by omega)).mono (fun d bk hd => ?_) (fun _ _ _ h => h.elim)
  obtain ⟨v, t', rfl, v0, v1, ht', rfl⟩ := hd
  repeat' walk_at "dl"
  have hv : v = 0 ∨ v = 1 ∨ v = 2 ∨ v = 3 ∨ v = 4 ∨ v = 5 ∨ v = 6 ∨ v = 7 ∨ v = 8 ∨ v = 9 ∨ v = 10 := by omega
  rcases hv with rfl | rfl | rfl | rfl | rfl | rfl | rfl | rfl | rfl | rfl | rfl <;> (repeat' walk_at "dl") <;> exact ⟨_, t', rfl, rfl, ht', rfl⟩
end K00

set_option Elab.async false
set_option linter.all false
set_option maxRecDepth 100000
set_option maxHeartbeats 4000000
namespace K00
open PySem PySem.Spec PyProof.Rows L2 DL PySem.NumText
set_option hygiene false in
local macro_rules | `(tactic| walk_at "dl") => `(tactic| (first
      | with_reducible refine DL.ws_seq ?_
      | with_reducible refine DL.ws_ret ?_
      | with_reducible refine DL.ws_set ?_
      | with_reducible refine DL.ws_setV ?_
      | with_reducible refine DL.ws_if ?_
      | with_reducible refine DL.ws_put ?_
      | with_reducible refine DL.ws_drop ?_
      | with_reducible refine DL.ws_for ?_
      | with_reducible refine DL.we_tE ?_
      | with_reducible refine DL.we_nE ?_
      | with_reducible refine DL.we_cons ?_
      | with_reducible refine DL.we_tup ?_
      | with_reducible refine DL.we_lst ?_
      | with_reducible refine DL.we_fz ?_
      | with_reducible refine DL.we_op2 ?_
      | with_reducible refine DL.we_xop2 ?_
      | with_reducible refine DL.we_xopN ?_
      | with_reducible refine DL.we_xopM ?_
      | with_reducible refine DL.we_if ?_
      | with_reducible refine DL.we_call ?_
      | with_reducible refine DL.we_eB ?_
      | with_reducible refine DL.we_not ?_
      | with_reducible refine DL.we_and ?_
      | with_reducible refine DL.we_or ?_
      | with_reducible refine DL.we_iSeq ?_
      | with_reducible refine DL.we_iRng ?_
      | with_reducible refine DL.we_mut ?_
      | with_reducible refine DL.we_nil ?_
      | with_reducible refine DL.wn_vN ?_
      | with_reducible refine DL.wn_op1 ?_
      | with_reducible refine DL.wn_op2 ?_
      | with_reducible refine DL.wn_opN ?_
      | with_reducible refine DL.wn_opM ?_
      | with_reducible refine DL.wn_tup ?_
      | with_reducible refine DL.wn_lst ?_
      | with_reducible refine DL.wn_sl ?_
      | with_reducible refine DL.wn_callV ?_
      | with_reducible refine DL.wn_call ?_
      | with_reducible refine DL.wd_gB ?_
      | with_reducible refine DL.wd_op2 ?_
      | with_reducible refine DL.wd_op1 ?_
      | with_reducible refine DL.wd_cons ?_
      | with_reducible refine DL.wd_nil ?_
      | with_reducible refine DL.wd_nV ?_
      | with_reducible refine DL.wd_k ?_
      | with_reducible refine DL.wd_if ?_
      | with_reducible refine DL.wd_andV ?_
      | with_reducible refine DL.wd_orV ?_
      | with_reducible refine DL.wd_notV ?_
      | with_reducible refine DL.wd_not ?_
      | with_reducible refine DL.wd_and ?_
      | with_reducible refine DL.wd_or ?_
      | with_reducible refine DL.wd_asB ?_
      | with_reducible refine DL.wd_gYes ?_
      | with_reducible refine DL.wd_pNone ?_
      | with_reducible refine DL.wd_pSome ?_
      | with_reducible refine DL.wd_here ?_
      | with_reducible refine DL.wd_jSeq ?_
      | with_reducible refine DL.wd_jRng ?_
      | with_reducible refine DL.wd_add ?_
      | with_reducible refine DL.wd_sub ?_
      | with_reducible refine DL.wd_neg ?_
      | with_reducible refine DL.wd_lt ?_
      | with_reducible refine DL.wd_le ?_
      | with_reducible refine DL.wd_gt ?_
      | with_reducible refine DL.wd_ge ?_
      | with_reducible refine DL.wd_eqI ?_
      | with_reducible refine DL.wd_neI ?_
      | with_reducible refine DL.wd_eqS ?_
      | with_reducible refine DL.wd_neS ?_
      | with_reducible refine DL.wd_int ?_
      | with_reducible refine DL.wd_abs ?_
      | with_reducible refine DL.ws_nx ?_
      | with_reducible refine DL.ws_retN ?_
      | with_reducible refine DL.ws_brk ?_
      | with_reducible refine DL.ws_cnt ?_
      | with_reducible refine DL.wd_var rfl ?_
      | with_reducible refine DL.we_lend rfl ?_
      | with_reducible refine DL.we_move rfl ?_
      | with_reducible refine DL.we_frz rfl ?_
      | with_reducible refine DL.we_ixN rfl ?_
      | with_reducible refine DL.we_mut0 rfl rfl ?_
      | with_reducible refine DL.we_mAt rfl rfl rfl ?_
      | with_reducible refine DL.wd_ixL (by decide) rfl ?_
      | with_reducible refine DL.wd_ixT (by decide) rfl ?_
      | with_reducible refine DL.wd_putL (by decide) rfl (by simp only [List.length_cons, List.length_nil, List.length_set]; omega) ?_ <;> dsimp only [List.set_cons_zero, List.set_cons_succ, DL.kill, List.map_cons, List.map_nil, DL.kl1, D.put, Int.reduceToNat]
      | ((with_reducible refine DL.wd_isiI true ?hh ?_); case hh => decide +kernel)
      | ((with_reducible refine DL.wd_isiI false ?hh ?_); case hh => decide +kernel)
      | ((with_reducible refine DL.wd_isiS true ?hh ?_); case hh => decide +kernel)
      | ((with_reducible refine DL.wd_isiS false ?hh ?_); case hh => decide +kernel)
      | ((with_reducible refine DL.wd_isiB true ?hh ?_); case hh => decide +kernel)
      | ((with_reducible refine DL.wd_isiB false ?hh ?_); case hh => decide +kernel)
      | ((with_reducible refine DL.wd_isiN true ?hh ?_); case hh => decide +kernel)
      | ((with_reducible refine DL.wd_isiN false ?hh ?_); case hh => decide +kernel)
      | ((with_reducible refine DL.wd_isiL true ?hh ?_); case hh => decide +kernel)
      | ((with_reducible refine DL.wd_isiL false ?hh ?_); case hh => decide +kernel)
      | ((with_reducible refine DL.wd_isiT true ?hh ?_); case hh => decide +kernel)
      | ((with_reducible refine DL.wd_isiT false ?hh ?_); case hh => decide +kernel)
      | with_reducible refine DL.wd_some ?_
      | with_reducible refine DL.exI ?_
      | ((with_reducible refine DL.wd_slS ?hh (fun y hy hy2 => ?_)); case hh => omega)
      | ((with_reducible refine DL.wd_mulS ?hh ?_); case hh => omega)
      | with_reducible refine DL.wn_comp ?_
      | with_reducible refine DL.we_comp ?_
      | ((with_reducible refine DL.wd_rng1 ?hh ?_); case hh => omega)
      | ((with_reducible refine DL.wd_rng2 ?h1 ?h2 ?_); (case h1 => omega); (case h2 => omega))
      | with_reducible refine DL.wd_isNT rfl ?_
      | with_reducible refine DL.wd_isNF rfl ?_
      | with_reducible refine DL.wd_notNT rfl ?_
      | with_reducible refine DL.wd_notNF rfl ?_
      | with_reducible refine DL.wd_lenL ?_
      | with_reducible refine DL.wd_lenT ?_
      | with_reducible refine DL.wd_pow (by decide) (by simp only [Int.reduceToNat, Int.reducePow]; rfl) ?_
      | with_reducible refine DL.wd_absP (fun r hr0 hr1 => ?_)
      | ((with_reducible refine DL.wd_modP ?hh (fun r hr0 hr1 hr2 => ?_)); case hh => omega)
      | ((with_reducible refine DL.wd_fdivP ?hh (fun r hr0 hr1 => ?_)); case hh => omega)
      | ((with_reducible refine DL.wd_mulB ?hh ?_); case hh => omega)
      | ((with_reducible refine DL.wd_ixInts ?hh (fun z hz hz2 => ?_)); case hh => omega)
      | ((with_reducible refine DL.wd_ixS ?hh (fun z hz hz2 => ?_)); case hh => omega)
      | ((with_reducible refine DL.wd_lenS ?hh ?_); case hh => first | assumption | omega | decide +kernel)
      | ((with_reducible refine DL.wd_addS ?hh ?_); case hh => first | assumption | omega | (simp only [PySem.Str.length_append]; omega) | decide +kernel)
      | with_reducible refine DL.wd_notIn ?_
      | with_reducible refine DL.wd_inS ?_
      | with_reducible refine DL.seqL ?_
      | with_reducible refine DL.seqT ?_
      | with_reducible refine DL.seqS ?_
      | with_reducible refine DL.fz_andI ?_
      | with_reducible refine DL.fz_andS ?_
      | with_reducible refine DL.fz_andB ?_
      | with_reducible refine DL.fz_andN ?_
      | with_reducible refine DL.flat_andI ?_
      | with_reducible refine DL.flat_andS ?_
      | with_reducible refine DL.flat_andB ?_
      | with_reducible refine DL.flat_andN ?_
      | with_reducible refine DL.ite_t ?_
      | with_reducible refine DL.ite_f ?_
      | with_reducible refine DL.ite_nt ?_
      | with_reducible refine DL.ite_nf ?_
      | with_reducible refine DL.ite_dec (fun h => ?_) (fun h => ?_)
      | with_reducible refine DL.ite_ndec (fun h => ?_) (fun h => ?_)
      | with_reducible refine DL.wd_hName (by simp only [List.length_cons, List.length_nil, List.length_set]; omega) ?_
      | ((with_reducible refine And.intro ?hh ?_); case hh => first | rfl | (simp only [List.length_cons, List.length_nil, List.length_set]; omega))
      | (simp only [mergeA, Option.map_some, List.getElem?_cons_zero, List.getElem?_cons_succ, isFz_int, isFz_str, isFz_bl, isFz_non, Bool.not_true, fzs_cons, fzs_nil, fz_int, fz_str, fz_bl, fz_non, fz_lst, fz_tup, fzs_strs, fzs_ints])
      | (dsimp only [isNon, List.set_cons_zero, List.set_cons_succ, DL.kill, List.map_cons, List.map_nil, DL.kl1, D.put, restore, List.map, wipeR])))

def GoodOk (f : List D → Option DL.Rd) : Prop := ∀ (b : Nat) (t : D) (n : Int), TapeOk b t → b < 2 ^ 56 → 1 ≤ n → n ≤ 1000000 → Wr (f [t, .int n]) (fun d bk => ∃ s t', d = .str s ∧ s.length = n.toNat ∧ TapeOk (b + 2000000) t' ∧ bk = [some t', some (.int n)]) noX
theorem good_ok {f g : List D → Option DL.Rd} (hf : TakeOk f) (hg : DigitsOk g) : GoodOk (runF 2 1 [0, 1] (b__law_good f g).1) := fun b t n ht hb h0 h1 => by
  refine wr_runF rfl ?_
  show Ws ((b__law_good f g).1 [some (false, t), some (false, .int n), none]) _
  unfold b__law_good
  dsimp only
  repeat' walk_at "dl"
  refine (hf b t 9 ht (by omega) (by omega) (by omega)).mono (fun d bk hd => ?_) (fun _ _ _ h => h.elim)
  obtain ⟨v, t', rfl, v0, v1, ht', rfl⟩ := hd
  repeat' walk_at "dl"
  refine wd_ixS ⟨v0, Int.lt_of_lt_of_le v1 (by decide +kernel), by decide +kernel⟩ fun c _ _ => ?_
  repeat' walk_at "dl"
  refine (hg (b + 1) t' (n - 1) ht' (by omega) (by omega) (by omega)).mono (fun d bk hd => ?_) (fun _ _ _ h => h.elim)
  obtain ⟨s, t2, rfl, e, ht2, rfl⟩ := hd
  have hl1 : (⟨#[c]⟩ : Str).length = 1 := rfl
  have hsz : 16777216 ≤ sizeLine := by decide
  repeat' walk_at "dl"
  exact ⟨_, t2, rfl, by rw [PySem.Str.length_append, hl1]; omega, ht2.mono (by omega), rfl⟩
/-- a text of at most so many signs is drawn -/
def StrOk (L c B : Nat) (f : List D → Option DL.Rd) : Prop := ∀ (b : Nat) (t : D), TapeOk b t → b < B → Wr (f [t]) (fun d bk => ∃ s t', d = .str s ∧ s.length ≤ L ∧ TapeOk (b + c) t' ∧ bk = [some t']) noX
theorem piece_ok {f fc fd fs : List D → Option DL.Rd} (hf : TakeOk f) (hc : SignOk fc) (hd : DigitsOk fd) (hs : SignOk fs) : StrOk 20 10000000 (2 ^ 50) (runF 1 3 [0] (b__law_piece f fc fd fs).1) := fun b t ht hb => by
  have hsz : 16777216 ≤ sizeLine := by decide
  have h0 : (Str.ofString "0").length = 1 := rfl
  refine wr_runF rfl ?_
  show Ws ((b__law_piece f fc fd fs).1 [some (false, t), none, none, none]) _
  unfold b__law_piece
  dsimp only
  repeat' walk_at "dl"
  refine (hf b t 6 ht (by omega) (by omega) (by omega)).mono (fun d bk hd => ?_) (fun _ _ _ h => h.elim)
  obtain ⟨v, t', rfl, v0, v1, ht', rfl⟩ := hd
  repeat' walk_at "dl"
  refine (hf _ t' 6 ht' (by omega) (by omega) (by omega)).mono (fun d bk hd => ?_) (fun _ _ _ h => h.elim)
  obtain ⟨w, t2, rfl, w0, w1, ht2, rfl⟩ := hd
  repeat' walk_at "dl"
  refine (hd _ t2 w ht2 (by omega) (by omega) (by omega)).mono (fun d bk hd => ?_) (fun _ _ _ h => h.elim)
  obtain ⟨s, t3, rfl, e, ht3, rfl⟩ := hd
  repeat' walk_at "dl"
  · exact ⟨_, t3, rfl, by rw [PySem.Str.length_append]; omega, ht3.mono (by omega), rfl⟩
  · refine (hs _ t3 ht3 (by omega)).mono (fun d bk hd => ?_) (fun _ _ _ h => h.elim)
    obtain ⟨s2, t4, rfl, e2, ht4, rfl⟩ := hd
    repeat' walk_at "dl"
    exact ⟨_, t4, rfl, by rw [PySem.Str.length_append]; omega, ht4.mono (by omega), rfl⟩
  · refine (hs _ t3 ht3 (by omega)).mono (fun d bk hd => ?_) (fun _ _ _ h => h.elim)
    obtain ⟨s2, t4, rfl, e2, ht4, rfl⟩ := hd
    repeat' walk_at "dl"
    exact ⟨_, t4, rfl, by rw [PySem.Str.length_append]; omega, ht4.mono (by omega), rfl⟩
  · refine (hf _ t3 9 ht3 (by omega) (by omega) (by omega)).mono (fun d bk hd => ?_) (fun _ _ _ h => h.elim)
    obtain ⟨u, t4, rfl, u0, u1, ht4, rfl⟩ := hd
    repeat' walk_at "dl"
    refine ⟨by rw [rng_len]; exact Nat.le_trans (by omega : (u).toNat ≤ 1000) (by decide), fun i ys ρ => ∃ t' ss, ρ = [some (false, t'), some (false, .int v), some (false, .str s), none] ∧ TapeOk (b + 1 + 1 + 1000000 + 1 + 1 * i) t' ∧ ys = ss.map D.str ∧ ss.length = i ∧ ∀ s ∈ ss, s.length ≤ 1,
      ⟨_, [], rfl, ht4, rfl, rfl, fun s h => (nomatch h)⟩, fun i d ys ρ hd hI hy => ?_, fun ys ρ2 hI => ?_⟩
    · obtain ⟨t', ss, rfl, ht', rfl, e2, e3⟩ := hI
      obtain ⟨hi, rfl⟩ := rng_get' hd
      repeat' walk_at "dl"
      refine (hc _ t' ht' (by omega)).mono (fun d bk hd => ?_) (fun _ _ _ h => h.elim)
      obtain ⟨s, t2, rfl, e, ht2, rfl⟩ := hd
      repeat' walk_at "dl"
      refine ⟨t2, ss ++ [s], rfl, ht2.mono (by omega), by rw [List.map_append]; rfl, by rw [List.length_append, e2]; rfl, fun s hs => ?_⟩
      rcases List.mem_append.mp hs with z | z
      · exact e3 s z
      · rw [List.mem_singleton.mp z]; omega
    · obtain ⟨t', ss, rfl, ht', rfl, e2, e3⟩ := hI
      rw [rng_len] at e2 ht'
      repeat' walk_at "dl"
      have e4 := sum_le e3
      have e5 := join_len (Str.ofString "") ss
      rw [show (Str.ofString "").length = 0 from rfl] at e5
      refine wd_join (by rw [show (Str.ofString "").length = 0 from rfl]; omega) ?_
      exact ⟨_, t', rfl, by omega, ht'.mono (by omega), rfl⟩
  · exact ⟨s, t3, rfl, by omega, ht3.mono (by omega), rfl⟩
theorem text_ok {f fc fp : List D → Option DL.Rd} (hf : TakeOk f) (hc : SignOk fc) (hp : StrOk 20 10000000 (2 ^ 50) fp) : StrOk 1000 1000000000 (2 ^ 49) (runF 1 2 [0] (b__law_text f fc fp).1) := fun b t ht hb => by
  have hsz : 16777216 ≤ sizeLine := by decide
  have h0 : (Str.ofString "\n").length = 1 := rfl
  refine wr_runF rfl ?_
  show Ws ((b__law_text f fc fp).1 [some (false, t), none, none]) _
  unfold b__law_text
  dsimp only
  repeat' walk_at "dl"
  refine (hf b t 3 ht (by omega) (by omega) (by omega)).mono (fun d bk hd => ?_) (fun _ _ _ h => h.elim)
  obtain ⟨v, t', rfl, v0, v1, ht', rfl⟩ := hd
  repeat' walk_at "dl"
  · refine (hf _ t' 71 ht' (by omega) (by omega) (by omega)).mono (fun d bk hd => ?_) (fun _ _ _ h => h.elim)
    obtain ⟨u, t4, rfl, u0, u1, ht4, rfl⟩ := hd
    repeat' walk_at "dl"
    refine ⟨by rw [rng_len]; exact Nat.le_trans (by omega : (u).toNat ≤ 1000) (by decide), fun i ys ρ => ∃ t' ss, ρ = [some (false, t'), none, none] ∧ TapeOk (b + 1 + 1 + 1 * i) t' ∧ ys = ss.map D.str ∧ ss.length = i ∧ ∀ s ∈ ss, s.length ≤ 1,
      ⟨_, [], rfl, ht4, rfl, rfl, fun s h => (nomatch h)⟩, fun i d ys ρ hd hI hy => ?_, fun ys ρ2 hI => ?_⟩
    · obtain ⟨t', ss, rfl, ht', rfl, e2, e3⟩ := hI
      obtain ⟨hi, rfl⟩ := rng_get' hd
      repeat' walk_at "dl"
      refine (hc _ t' ht' (by omega)).mono (fun d bk hd => ?_) (fun _ _ _ h => h.elim)
      obtain ⟨s, t2, rfl, e, ht2, rfl⟩ := hd
      repeat' walk_at "dl"
      refine ⟨t2, ss ++ [s], rfl, ht2.mono (by omega), by rw [List.map_append]; rfl, by rw [List.length_append, e2]; rfl, fun s hs => ?_⟩
      rcases List.mem_append.mp hs with z | z
      · exact e3 s z
      · rw [List.mem_singleton.mp z]; omega
    · obtain ⟨t', ss, rfl, ht', rfl, e2, e3⟩ := hI
      rw [rng_len] at e2 ht'
      repeat' walk_at "dl"
      have e4 := sum_le e3
      have e5 := join_len (Str.ofString "") ss
      rw [show (Str.ofString "").length = 0 from rfl] at e5
      refine wd_join (by rw [show (Str.ofString "").length = 0 from rfl]; omega) ?_
      exact ⟨_, t', rfl, by omega, ht'.mono (by omega), rfl⟩
  · refine (hf _ t' 7 ht' (by omega) (by omega) (by omega)).mono (fun d bk hd => ?_) (fun _ _ _ h => h.elim)
    obtain ⟨u, t4, rfl, u0, u1, ht4, rfl⟩ := hd
    repeat' walk_at "dl"
    refine ⟨by rw [rng_len]; exact Nat.le_trans (by omega : (u).toNat ≤ 1000) (by decide), fun i ys ρ => ∃ t' ss, ρ = [some (false, t'), none, none] ∧ TapeOk (b + 1 + 1 + 10000000 * i) t' ∧ ys = ss.map D.str ∧ ss.length = i ∧ ∀ s ∈ ss, s.length ≤ 20,
      ⟨_, [], rfl, ht4, rfl, rfl, fun s h => (nomatch h)⟩, fun i d ys ρ hd hI hy => ?_, fun ys ρ2 hI => ?_⟩
    · obtain ⟨t', ss, rfl, ht', rfl, e2, e3⟩ := hI
      obtain ⟨hi, rfl⟩ := rng_get' hd
      repeat' walk_at "dl"
      refine (hp _ t' ht' (by omega)).mono (fun d bk hd => ?_) (fun _ _ _ h => h.elim)
      obtain ⟨s, t2, rfl, e, ht2, rfl⟩ := hd
      repeat' walk_at "dl"
      refine ⟨t2, ss ++ [s], rfl, ht2.mono (by omega), by rw [List.map_append]; rfl, by rw [List.length_append, e2]; rfl, fun s hs => ?_⟩
      rcases List.mem_append.mp hs with z | z
      · exact e3 s z
      · rw [List.mem_singleton.mp z]; omega
    · obtain ⟨t', ss, rfl, ht', rfl, e2, e3⟩ := hI
      rw [rng_len] at e2 ht'
      repeat' walk_at "dl"
      have e4 := sum_le e3
      have e5 := join_len (Str.ofString "\n") ss
      rw [h0] at e5
      refine wd_join (by rw [h0]; omega) ?_
      generalize Txt.join (Str.ofString "\n") ss = tx at e5
      repeat' walk_at "dl"
      refine (hf _ t' 2 ht' (by omega) (by omega) (by omega)).mono (fun d bk hd => ?_) (fun _ _ _ h => h.elim)
      obtain ⟨w, t6, rfl, w0, w1, ht6, rfl⟩ := hd
      repeat' walk_at "dl"
      · exact ⟨_, t6, rfl, by rw [PySem.Str.length_append]; omega, ht6.mono (by omega), rfl⟩
      · exact ⟨_, t6, rfl, by omega, ht6.mono (by omega), rfl⟩
/-! ### lists of texts -/
def Texts (xs : List D) : Prop := xs.length ≤ 1000000 ∧ ∀ x ∈ xs, ∃ s, x = .str s ∧ s.length ≤ 100000
theorem Texts.fz {xs : List D} (h : Texts xs) : isFzs xs = true := by
  rw [isFzs_all, List.all_eq_true]
  intro x hx
  obtain ⟨s, rfl, _⟩ := h.2 x hx
  exact isFz_str s
theorem Texts.fzs {xs : List D} (h : Texts xs) : fzs xs = xs := fzs_of h.fz
theorem texts_mem {xs : List D} : ∀ {ys : List D}, (∀ x ∈ xs, ∃ s, x = .str s ∧ s.length ≤ 100000) → (∀ x ∈ ys, ∃ s, x = .str s ∧ s.length ≤ 100000) → ∀ x ∈ xs ++ ys, ∃ s, x = .str s ∧ s.length ≤ 100000 := fun h h' x hx => (List.mem_append.mp hx).elim (h x) (h' x)
theorem tx_nil : ∀ x ∈ ([] : List D), ∃ s, x = .str s ∧ s.length ≤ 100000 := fun x h => (nomatch h)
theorem tx_cons {s : Str} {xs : List D} (h : s.length ≤ 100000) (k : ∀ x ∈ xs, ∃ s, x = .str s ∧ s.length ≤ 100000) : ∀ x ∈ D.str s :: xs, ∃ s, x = .str s ∧ s.length ≤ 100000 := fun x hx => by
  rcases List.mem_cons.mp hx with rfl | hx
  · exact ⟨s, rfl, h⟩
  · exact k x hx
theorem wd_catT {o o' : Bool} {xs ys : List D} {Q : D → Prop} (h1 : ∀ x ∈ xs, ∃ s, x = .str s ∧ s.length ≤ 100000) (h2 : ∀ x ∈ ys, ∃ s, x = .str s ∧ s.length ≤ 100000) (hl : xs.length + ys.length ≤ 1000000) (q : ∀ zs, Texts zs → zs.length = xs.length + ys.length → Q (.lst true zs)) : Wd (fAdd (.lst o xs) (.lst o' ys)) Q := by
  have t1 : Texts xs := ⟨by omega, h1⟩
  have t2 : Texts ys := ⟨by omega, h2⟩
  refine wd_cat ⟨t1.fz, t2.fz, Nat.le_trans hl (by decide)⟩ (q _ ⟨by rw [List.length_append]; exact hl, texts_mem h1 h2⟩ (List.length_append ..))
def NearOk (f : List D → Option DL.Rd) : Prop := ∀ (b : Nat) (t : D) (g : Str), TapeOk b t → b < 2 ^ 50 → 1 ≤ g.length → g.length ≤ 200 → Wr (f [t, .str g]) (fun d bk => ∃ xs t', d = .lst true xs ∧ xs.length ≤ 100 ∧ Texts xs ∧ TapeOk (b + 10) t' ∧ bk = [some t', some (.str g)]) noX
theorem near_ok {f fs : List D → Option DL.Rd} (hf : TakeOk f) (hs : SignOk fs) : NearOk (runF 2 3 [0, 1] (b__law_near f fs).1) := fun b t g ht hb h0 h1 => by
  have hsz : 16777216 ≤ sizeLine := by decide
  have l0 : (Str.ofString "0").length = 1 := rfl
  have l1 : (Str.ofString "").length = 0 := rfl
  have l2 : (Str.ofString "00").length = 2 := rfl
  have l3 : (Str.ofString "-").length = 1 := rfl
  have l4 : (Str.ofString "\n").length = 1 := rfl
  have l5 : (Str.ofString " ").length = 1 := rfl
  have l6 : (Str.ofString "+").length = 1 := rfl
  have l7 : (Str.ofString "1_").length = 2 := rfl
  have l8 : (Str.ofString ".0").length = 2 := rfl
  have l9 : (Str.ofString "0x").length = 2 := rfl
  have l10 : (Str.ofString "-0").length = 2 := rfl
  refine wr_runF rfl ?_
  show Ws ((b__law_near f fs).1 [some (false, t), some (false, .str g), none, none, none]) _
  unfold b__law_near
  dsimp only
  repeat' walk_at "dl"
  refine (hf b t g.length ht (by omega) (by omega) (by omega)).mono (fun d bk hd => ?_) (fun _ _ _ h => h.elim)
  obtain ⟨v, t', rfl, v0, v1, ht', rfl⟩ := hd
  repeat' walk_at "dl"
  refine (hs _ t' ht' (by omega)).mono (fun d bk hd => ?_) (fun _ _ _ h => h.elim)
  obtain ⟨s2, t4, rfl, e2, ht4, rfl⟩ := hd
  repeat' walk_at "dl"
  refine wd_catT (by (repeat' (first | exact tx_nil | refine tx_cons (by first | omega | (simp only [PySem.Str.length_append]; omega)) ?_))) (by (repeat' (first | exact tx_nil | refine tx_cons (by first | omega | (simp only [PySem.Str.length_append]; omega)) ?_))) (by simp only [List.length_cons, List.length_nil]; omega) fun zs hz hzl => ?_
  have hz5 : zs.length = 13 := hzl
  repeat' walk_at "dl"
  rw [hz.fzs]
  repeat' walk_at "dl"
  refine ⟨by rw [isFz, hz.fz]; rfl, ?_⟩
  repeat' walk_at "dl"
  refine wd_catT hz.2 (by (repeat' (first | exact tx_nil | refine tx_cons (by first | omega | (simp only [PySem.Str.length_append]; omega)) ?_))) (by rw [hz5]; simp only [List.length_cons, List.length_nil]; omega) fun zs2 hz2 hzl2 => ?_
  exact ⟨zs2, t4, rfl, by rw [hzl2, hz5]; simp only [List.length_cons, List.length_nil]; omega, hz2, ht4.mono (by omega), rfl⟩
def LongOk (f : List D → Option DL.Rd) : Prop := ∀ (b : Nat) (t : D), TapeOk b t → b < 2 ^ 50 → Wr (f [t]) (fun d bk => ∃ xs t', d = .lst true xs ∧ xs.length ≤ 100 ∧ Texts xs ∧ TapeOk (b + 10000000) t' ∧ bk = [some t']) noX
theorem long_ok {f fd fg fs : List D → Option DL.Rd} (hf : TakeOk f) (hd : DigitsOk fd) (hg : GoodOk fg) (hs : SignOk fs) : LongOk (runF 1 6 [0] (b__law_long f fd fg fs).1) := fun b t ht hb => by
  have hsz : 16777216 ≤ sizeLine := by decide
  have l0 : (Str.ofString "0").length = 1 := rfl
  have l4 : (Str.ofString "\n").length = 1 := rfl
  have l5 : (Str.ofString " ").length = 1 := rfl
  refine wr_runF rfl ?_
  show Ws ((b__law_long f fd fg fs).1 [some (false, t), none, none, none, none, none, none]) _
  unfold b__law_long
  dsimp only
  repeat' walk_at "dl"
  refine (hf b t 30 ht (by omega) (by omega) (by omega)).mono (fun d bk hd => ?_) (fun _ _ _ h => h.elim)
  obtain ⟨v, t', rfl, v0, v1, ht', rfl⟩ := hd
  repeat' walk_at "dl"
  refine (hg _ t' (1 + v) ht' (by omega) (by omega) (by omega)).mono (fun d bk hd => ?_) (fun _ _ _ h => h.elim)
  obtain ⟨s1, t2, rfl, e1, ht2, rfl⟩ := hd
  repeat' walk_at "dl"
  refine (hd _ t2 1 ht2 (by omega) (by omega) (by omega)).mono (fun d bk hd => ?_) (fun _ _ _ h => h.elim)
  obtain ⟨s2, t3, rfl, e2, ht3, rfl⟩ := hd
  repeat' walk_at "dl"
  refine (hf _ t3 30 ht3 (by omega) (by omega) (by omega)).mono (fun d bk hd => ?_) (fun _ _ _ h => h.elim)
  obtain ⟨w, t4, rfl, w0, w1, ht4, rfl⟩ := hd
  repeat' walk_at "dl"
  refine (hd _ t4 w ht4 (by omega) (by omega) (by omega)).mono (fun d bk hd => ?_) (fun _ _ _ h => h.elim)
  obtain ⟨s3, t5, rfl, e3, ht5, rfl⟩ := hd
  repeat' walk_at "dl"
  have e2' : s2.length = 1 := e2
  refine wd_mulS ⟨by omega, by omega, by rw [e2']; omega⟩ ?_
  have hr : (repS s2 (2000 - (s1.length : Int) - (s3.length : Int)).toNat).length = (2000 - (s1.length : Int) - (s3.length : Int)).toNat := by rw [repS_length, e2', Nat.mul_one]
  generalize repS s2 (2000 - (s1.length : Int) - (s3.length : Int)).toNat = r at hr
  repeat' walk_at "dl"
  have htl : (s1 ++ r ++ s3).length = 2000 := by simp only [PySem.Str.length_append]; omega
  generalize s1 ++ r ++ s3 = tx at htl
  repeat' walk_at "dl"
  refine (hf _ t5 1999 ht5 (by omega) (by omega) (by omega)).mono (fun d bk hd => ?_) (fun _ _ _ h => h.elim)
  obtain ⟨u, t6, rfl, u0, u1, ht6, rfl⟩ := hd
  repeat' walk_at "dl"
  refine (hs _ t6 ht6 (by omega)).mono (fun d bk hd => ?_) (fun _ _ _ h => h.elim)
  obtain ⟨s4, t7, rfl, e4, ht7, rfl⟩ := hd
  repeat' walk_at "dl"
  refine wd_catT (by (repeat' (first | exact tx_nil | refine tx_cons (by first | omega | (simp only [PySem.Str.length_append]; omega)) ?_))) (by (repeat' (first | exact tx_nil | refine tx_cons (by first | omega | (simp only [PySem.Str.length_append]; omega)) ?_))) (by simp only [List.length_cons, List.length_nil]; omega) fun zs hz hzl => ?_
  exact ⟨zs, t7, rfl, by rw [hzl]; simp only [List.length_cons, List.length_nil]; omega, hz, ht7.mono (by omega), rfl⟩
end K00

set_option Elab.async false
set_option linter.all false
set_option maxRecDepth 100000
set_option maxHeartbeats 4000000
namespace K00
open PySem PySem.Spec PyProof.Rows L2 DL PySem.NumText
set_option hygiene false in
local macro_rules | `(tactic| walk_at "dl") => `(tactic| (first
      | with_reducible refine DL.ws_seq ?_
      | with_reducible refine DL.ws_ret ?_
      | with_reducible refine DL.ws_set ?_
      | with_reducible refine DL.ws_setV ?_
      | with_reducible refine DL.ws_if ?_
      | with_reducible refine DL.ws_put ?_
      | with_reducible refine DL.ws_drop ?_
      | with_reducible refine DL.ws_for ?_
      | with_reducible refine DL.we_tE ?_
      | with_reducible refine DL.we_nE ?_
      | with_reducible refine DL.we_cons ?_
      | with_reducible refine DL.we_tup ?_
      | with_reducible refine DL.we_lst ?_
      | with_reducible refine DL.we_fz ?_
      | with_reducible refine DL.we_op2 ?_
      | with_reducible refine DL.we_xop2 ?_
      | with_reducible refine DL.we_xopN ?_
      | with_reducible refine DL.we_xopM ?_
      | with_reducible refine DL.we_if ?_
      | with_reducible refine DL.we_call ?_
      | with_reducible refine DL.we_eB ?_
      | with_reducible refine DL.we_not ?_
      | with_reducible refine DL.we_and ?_
      | with_reducible refine DL.we_or ?_
      | with_reducible refine DL.we_iSeq ?_
      | with_reducible refine DL.we_iRng ?_
      | with_reducible refine DL.we_mut ?_
      | with_reducible refine DL.we_nil ?_
      | with_reducible refine DL.wn_vN ?_
      | with_reducible refine DL.wn_op1 ?_
      | with_reducible refine DL.wn_op2 ?_
      | with_reducible refine DL.wn_opN ?_
      | with_reducible refine DL.wn_opM ?_
      | with_reducible refine DL.wn_tup ?_
      | with_reducible refine DL.wn_lst ?_
      | with_reducible refine DL.wn_sl ?_
      | with_reducible refine DL.wn_callV ?_
      | with_reducible refine DL.wn_call ?_
      | with_reducible refine DL.wd_gB ?_
      | with_reducible refine DL.wd_op2 ?_
      | with_reducible refine DL.wd_op1 ?_
      | with_reducible refine DL.wd_cons ?_
      | with_reducible refine DL.wd_nil ?_
      | with_reducible refine DL.wd_nV ?_
      | with_reducible refine DL.wd_k ?_
      | with_reducible refine DL.wd_if ?_
      | with_reducible refine DL.wd_andV ?_
      | with_reducible refine DL.wd_orV ?_
      | with_reducible refine DL.wd_notV ?_
      | with_reducible refine DL.wd_not ?_
      | with_reducible refine DL.wd_and ?_
      | with_reducible refine DL.wd_or ?_
      | with_reducible refine DL.wd_asB ?_
      | with_reducible refine DL.wd_gYes ?_
      | with_reducible refine DL.wd_pNone ?_
      | with_reducible refine DL.wd_pSome ?_
      | with_reducible refine DL.wd_here ?_
      | with_reducible refine DL.wd_jSeq ?_
      | with_reducible refine DL.wd_jRng ?_
      | with_reducible refine DL.wd_add ?_
      | with_reducible refine DL.wd_sub ?_
      | with_reducible refine DL.wd_neg ?_
      | with_reducible refine DL.wd_lt ?_
      | with_reducible refine DL.wd_le ?_
      | with_reducible refine DL.wd_gt ?_
      | with_reducible refine DL.wd_ge ?_
      | with_reducible refine DL.wd_eqI ?_
      | with_reducible refine DL.wd_neI ?_
      | with_reducible refine DL.wd_eqS ?_
      | with_reducible refine DL.wd_neS ?_
      | with_reducible refine DL.wd_int ?_
      | with_reducible refine DL.wd_abs ?_
      | with_reducible refine DL.ws_nx ?_
      | with_reducible refine DL.ws_retN ?_
      | with_reducible refine DL.ws_brk ?_
      | with_reducible refine DL.ws_cnt ?_
      | with_reducible refine DL.wd_var rfl ?_
      | with_reducible refine DL.we_lend rfl ?_
      | with_reducible refine DL.we_move rfl ?_
      | with_reducible refine DL.we_frz rfl ?_
      | with_reducible refine DL.we_ixN rfl ?_
      | with_reducible refine DL.we_mut0 rfl rfl ?_
      | with_reducible refine DL.we_mAt rfl rfl rfl ?_
      | with_reducible refine DL.wd_ixL (by decide) rfl ?_
      | with_reducible refine DL.wd_ixT (by decide) rfl ?_
      | with_reducible refine DL.wd_putL (by decide) rfl (by simp only [List.length_cons, List.length_nil, List.length_set]; omega) ?_ <;> dsimp only [List.set_cons_zero, List.set_cons_succ, DL.kill, List.map_cons, List.map_nil, DL.kl1, D.put, Int.reduceToNat]
      | ((with_reducible refine DL.wd_isiI true ?hh ?_); case hh => decide +kernel)
      | ((with_reducible refine DL.wd_isiI false ?hh ?_); case hh => decide +kernel)
      | ((with_reducible refine DL.wd_isiS true ?hh ?_); case hh => decide +kernel)
      | ((with_reducible refine DL.wd_isiS false ?hh ?_); case hh => decide +kernel)
      | ((with_reducible refine DL.wd_isiB true ?hh ?_); case hh => decide +kernel)
      | ((with_reducible refine DL.wd_isiB false ?hh ?_); case hh => decide +kernel)
      | ((with_reducible refine DL.wd_isiN true ?hh ?_); case hh => decide +kernel)
      | ((with_reducible refine DL.wd_isiN false ?hh ?_); case hh => decide +kernel)
      | ((with_reducible refine DL.wd_isiL true ?hh ?_); case hh => decide +kernel)
      | ((with_reducible refine DL.wd_isiL false ?hh ?_); case hh => decide +kernel)
      | ((with_reducible refine DL.wd_isiT true ?hh ?_); case hh => decide +kernel)
      | ((with_reducible refine DL.wd_isiT false ?hh ?_); case hh => decide +kernel)
      | with_reducible refine DL.wd_some ?_
      | with_reducible refine DL.exI ?_
      | ((with_reducible refine DL.wd_slS ?hh (fun y hy hy2 => ?_)); case hh => omega)
      | ((with_reducible refine DL.wd_mulS ?hh ?_); case hh => omega)
      | with_reducible refine DL.wn_comp ?_
      | with_reducible refine DL.we_comp ?_
      | ((with_reducible refine DL.wd_rng1 ?hh ?_); case hh => omega)
      | ((with_reducible refine DL.wd_rng2 ?h1 ?h2 ?_); (case h1 => omega); (case h2 => omega))
      | with_reducible refine DL.wd_isNT rfl ?_
      | with_reducible refine DL.wd_isNF rfl ?_
      | with_reducible refine DL.wd_notNT rfl ?_
      | with_reducible refine DL.wd_notNF rfl ?_
      | with_reducible refine DL.wd_lenL ?_
      | with_reducible refine DL.wd_lenT ?_
      | with_reducible refine DL.wd_pow (by decide) (by simp only [Int.reduceToNat, Int.reducePow]; rfl) ?_
      | with_reducible refine DL.wd_absP (fun r hr0 hr1 => ?_)
      | ((with_reducible refine DL.wd_modP ?hh (fun r hr0 hr1 hr2 => ?_)); case hh => omega)
      | ((with_reducible refine DL.wd_fdivP ?hh (fun r hr0 hr1 => ?_)); case hh => omega)
      | ((with_reducible refine DL.wd_mulB ?hh ?_); case hh => omega)
      | ((with_reducible refine DL.wd_ixInts ?hh (fun z hz hz2 => ?_)); case hh => omega)
      | ((with_reducible refine DL.wd_ixS ?hh (fun z hz hz2 => ?_)); case hh => omega)
      | ((with_reducible refine DL.wd_lenS ?hh ?_); case hh => first | assumption | omega | decide +kernel)
      | ((with_reducible refine DL.wd_addS ?hh ?_); case hh => first | assumption | omega | (simp only [PySem.Str.length_append]; omega) | decide +kernel)
      | with_reducible refine DL.wd_notIn ?_
      | with_reducible refine DL.wd_inS ?_
      | with_reducible refine DL.seqL ?_
      | with_reducible refine DL.seqT ?_
      | with_reducible refine DL.seqS ?_
      | with_reducible refine DL.fz_andI ?_
      | with_reducible refine DL.fz_andS ?_
      | with_reducible refine DL.fz_andB ?_
      | with_reducible refine DL.fz_andN ?_
      | with_reducible refine DL.flat_andI ?_
      | with_reducible refine DL.flat_andS ?_
      | with_reducible refine DL.flat_andB ?_
      | with_reducible refine DL.flat_andN ?_
      | with_reducible refine DL.ite_t ?_
      | with_reducible refine DL.ite_f ?_
      | with_reducible refine DL.ite_nt ?_
      | with_reducible refine DL.ite_nf ?_
      | with_reducible refine DL.ite_dec (fun h => ?_) (fun h => ?_)
      | with_reducible refine DL.ite_ndec (fun h => ?_) (fun h => ?_)
      | with_reducible refine DL.wd_hName (by simp only [List.length_cons, List.length_nil, List.length_set]; omega) ?_
      | ((with_reducible refine And.intro ?hh ?_); case hh => first | rfl | (simp only [List.length_cons, List.length_nil, List.length_set]; omega))
      | (simp only [mergeA, Option.map_some, List.getElem?_cons_zero, List.getElem?_cons_succ, isFz_int, isFz_str, isFz_bl, isFz_non, Bool.not_true, fzs_cons, fzs_nil, fz_int, fz_str, fz_bl, fz_non, fz_lst, fz_tup, fzs_strs, fzs_ints])
      | (dsimp only [isNon, List.set_cons_zero, List.set_cons_succ, DL.kill, List.map_cons, List.map_nil, DL.kl1, D.put, restore, List.map, wipeR])))

theorem law_ok {fk fg ft fn fl fp fr fs : List D → Option DL.Rd} (hk : TakeOk fk) (hg : GoodOk fg) (ht : StrOk 1000 1000000000 (2 ^ 49) ft) (hn : NearOk fn) (hl : LongOk fl) (hp : LinesOk fp) (hr : ReadOk fr) (hs : SplitOk fs) (ns : List Int) (h63 : ns.length ≤ 63) :
    Wr (runF 1 5 [0] (b_law fk fg ft fn fl fp fr fs).1 [.scr ns]) (fun d _ => d = .bl true) noX := by
  have hsz : 16777216 ≤ sizeLine := by decide
  have l1 : (Str.ofString "\n").length = 1 := rfl
  have l2 : (Str.ofString "").length = 0 := rfl
  have l3 : (Str.ofString "\n\n").length = 2 := rfl
  refine wr_runF rfl ?_
  show Ws ((b_law fk fg ft fn fl fp fr fs).1 [some (false, .scr ns), none, none, none, none, none]) _
  unfold b_law
  dsimp only
  repeat' walk_at "dl"
  refine ⟨.lst true (ns.map .int), rfl, ?_⟩
  repeat' walk_at "dl"
  have t0 : TapeOk 0 (.lst true [.lst true (ns.map .int), .int 0, .int 0, .int 0, .int 101]) := ⟨ns, 0, 0, 0, 101, rfl, by omega, by omega, by omega, by omega, by omega, by omega, by omega⟩
  refine (hk 0 _ 40 t0 (by omega) (by omega) (by omega)).mono (fun d bk hd => ?_) (fun _ _ _ h => h.elim)
  obtain ⟨v, t1, rfl, v0, v1, ht1, rfl⟩ := hd
  repeat' walk_at "dl"
  refine (hg _ t1 (1 + v) ht1 (by omega) (by omega) (by omega)).mono (fun d bk hd => ?_) (fun _ _ _ h => h.elim)
  obtain ⟨g, t2, rfl, eg, ht2, rfl⟩ := hd
  repeat' walk_at "dl"
  refine (ht _ t2 ht2 (by omega)).mono (fun d bk hd => ?_) (fun _ _ _ h => h.elim)
  obtain ⟨x, t3, rfl, ex, ht3, rfl⟩ := hd
  repeat' walk_at "dl"
  refine (hp x (by omega)).mono (fun d bk hd => ?_) (fun _ _ _ h => h.elim)
  obtain ⟨ls, p, rfl, _, b1, b2, b3⟩ := hd
  repeat' walk_at "dl"
  refine wd_catT (by (repeat' (first | exact tx_nil | refine tx_cons (by first | omega | (simp only [PySem.Str.length_append]; omega)) ?_))) (fun z hz => by obtain ⟨y, hy, rfl⟩ := List.mem_map.mp hz; exact ⟨y, rfl, b3 y hy⟩) (by rw [List.length_map]; simp only [List.length_cons, List.length_nil]; omega) fun zs hz hzl => ?_
  rw [List.length_map] at hzl
  have hzl : zs.length = 3 + ls.length := hzl
  repeat' walk_at "dl"
  refine (hn _ t3 g ht3 (by omega) (by omega) (by omega)).mono (fun d bk hd => ?_) (fun _ _ _ h => h.elim)
  obtain ⟨xs1, t4, rfl, m1, m2, ht4, rfl⟩ := hd
  repeat' walk_at "dl"
  refine wd_catT hz.2 m2.2 (by omega) fun zs2 hz2 hzl2 => ?_
  repeat' walk_at "dl"
  refine (hl _ t4 ht4 (by omega)).mono (fun d bk hd => ?_) (fun _ _ _ h => h.elim)
  obtain ⟨xs2, t5, rfl, m3, m4, ht5, rfl⟩ := hd
  repeat' walk_at "dl"
  refine wd_catT hz2.2 m4.2 (by omega) fun zs3 hz3 hzl3 => ?_
  repeat' walk_at "dl"
  refine forL_inv (fun _ ρ => ∃ s, ρ = [some (false, D.scr ns), some (false, t5), some (false, D.str g), some (false, D.str x), some (false, D.tup [D.lst false (List.map D.str ls), D.str p]), s]) ⟨_, rfl⟩ (fun i d ρ hd hI => ?_) (fun ρ hI => ?_)
  · obtain ⟨s, rfl⟩ := hI
    obtain ⟨y, rfl, hy⟩ := hz3.2 d (List.mem_of_getElem? hd)
    repeat' walk_at "dl"
    refine (hr y hy).mono (fun d bk hd => ?_) (fun _ _ _ h => h.elim)
    subst hd
    repeat' walk_at "dl"
    exact ⟨_, rfl⟩
  obtain ⟨s, rfl⟩ := hI
  repeat' walk_at "dl"
  have hz4 : ∀ z ∈ [D.str x, D.str (x ++ Str.ofString "\n"), D.str (Str.ofString "\n" ++ x), D.str g, D.str (g ++ Str.ofString "\n"), D.str (g ++ Str.ofString "\n" ++ g), D.str (Str.ofString ""), D.str (Str.ofString "\n"), D.str (Str.ofString "\n\n")], ∃ s, z = .str s ∧ s.length ≤ 100000 := by
    have l1 : (Str.ofString "\n").length = 1 := rfl
    have l2 : (Str.ofString "").length = 0 := rfl
    have l3 : (Str.ofString "\n\n").length = 2 := rfl
    (repeat' (first | exact tx_nil | refine tx_cons (by first | omega | (simp only [PySem.Str.length_append]; omega)) ?_))
  refine forL_inv (fun _ ρ => ∃ s, ρ = [some (false, D.scr ns), some (false, t5), some (false, D.str g), some (false, D.str x), some (false, D.tup [D.lst false (List.map D.str ls), D.str p]), s]) ⟨_, rfl⟩ (fun i d ρ hd hI => ?_) (fun ρ hI => ?_)
  · obtain ⟨s, rfl⟩ := hI
    obtain ⟨y, rfl, hy⟩ := hz4 d (List.mem_of_getElem? hd)
    repeat' walk_at "dl"
    refine (hs y hy).mono (fun d bk hd => ?_) (fun _ _ _ h => h.elim)
    subst hd
    repeat' walk_at "dl"
    exact ⟨_, rfl⟩
  obtain ⟨s, rfl⟩ := hI
  repeat' walk_at "dl"
  refine (hr g (by omega)).mono (fun d bk hd => ?_) (fun _ _ _ h => h.elim)
  subst hd
  repeat' walk_at "dl"
end K00

set_option Elab.async false
set_option linter.all false
set_option maxRecDepth 100000
set_option maxHeartbeats 4000000
namespace K00
open PySem PySem.Spec PyProof.Rows L2 DL PySem.NumText
def F_numeral : List D → Option DL.Rd := runF 1 1 [0] (b_numeral ).1
def F_whole_lines : List D → Option DL.Rd := runF 1 1 [0] (b_whole_lines ).1
def F__law_mixed : List D → Option DL.Rd := runF 2 1 [0, 1] (b__law_mixed ).1
def F__law_take : List D → Option DL.Rd := runF 2 1 [0, 1] (b__law_take F__law_mixed).1
def F__law_same_0 : List D → Option DL.Rd := fun _ => none
def F__law_same_1 : List D → Option DL.Rd := runF 2 1 [0, 1] (b__law_same F__law_same_0).1
def F__law_same_2 : List D → Option DL.Rd := runF 2 1 [0, 1] (b__law_same F__law_same_1).1
def F__law_same_3 : List D → Option DL.Rd := runF 2 1 [0, 1] (b__law_same F__law_same_2).1
abbrev F__law_same : List D → Option DL.Rd := F__law_same_3
def F__law_char : List D → Option DL.Rd := runF 1 1 [0] (b__law_char F__law_take).1
def F__law_digits : List D → Option DL.Rd := runF 2 2 [0, 1] (b__law_digits F__law_take).1
def F__law_good : List D → Option DL.Rd := runF 2 1 [0, 1] (b__law_good F__law_take F__law_digits).1
def F__law_sign : List D → Option DL.Rd := runF 1 1 [0] (b__law_sign F__law_take).1
def F__law_piece : List D → Option DL.Rd := runF 1 3 [0] (b__law_piece F__law_take F__law_char F__law_digits F__law_sign).1
def F__law_text : List D → Option DL.Rd := runF 1 2 [0] (b__law_text F__law_take F__law_char F__law_piece).1
def F__law_near : List D → Option DL.Rd := runF 2 3 [0, 1] (b__law_near F__law_take F__law_sign).1
def F__law_long : List D → Option DL.Rd := runF 1 6 [0] (b__law_long F__law_take F__law_digits F__law_good F__law_sign).1
def F__law_number : List D → Option DL.Rd := runF 1 3 [0] (b__law_number ).1
def F__law_pieces : List D → Option DL.Rd := runF 1 3 [0] (b__law_pieces ).1
def F__law_read : List D → Option DL.Rd := runF 1 2 [0] (b__law_read F_numeral F__law_number).1
def F__law_split : List D → Option DL.Rd := runF 1 2 [0] (b__law_split F_whole_lines F__law_same F__law_pieces).1
def F_law : List D → Option DL.Rd := runF 1 5 [0] (b_law F__law_take F__law_good F__law_text F__law_near F__law_long F__law_pieces F__law_read F__law_split).1
theorem same_0 : SameOk 0 F__law_same_0 := fun d h => h.elim
theorem same_3 : SameOk 3 F__law_same := same_ok (same_ok (same_ok same_0))
theorem take_F : TakeOk F__law_take := take_ok mixed_ok
theorem law_true (ns : List Int) (h : ns.length ≤ 63) : Wr (F_law [.scr ns]) (fun d _ => d = .bl true) noX := law_ok take_F (good_ok take_F (digits_ok take_F)) (text_ok take_F (char_ok take_F) (piece_ok take_F (char_ok take_F) (digits_ok take_F) (sign_ok take_F))) (near_ok take_F (sign_ok take_F)) (long_ok take_F (digits_ok take_F) (good_ok take_F (digits_ok take_F)) (sign_ok take_F)) pieces_ok (read_ok numeral_ok number_ok) (split_ok lines_ok same_3 pieces_ok) ns h
theorem all_mk {l : PySem.W.OpenLaw} {w : World} {K : PySem.W.Frag} {h : Heap} {mg : Str → Option Value} {fa : Addr} {oc_0 kV_0 dc_0 pm_0 cd_0 ct_0 : Value} {od_0 an_0 : Option Addr} {sl_0 : Array (Option Value)} {f_0 : Addr} {oc_1 kV_1 dc_1 pm_1 cd_1 ct_1 : Value} {od_1 an_1 : Option Addr} {sl_1 : Array (Option Value)} {f_1 : Addr} {oc_2 kV_2 dc_2 pm_2 cd_2 ct_2 : Value} {od_2 an_2 : Option Addr} {sl_2 : Array (Option Value)} {f_2 : Addr} {oc_3 kV_3 dc_3 pm_3 cd_3 ct_3 : Value} {od_3 an_3 : Option Addr} {sl_3 : Array (Option Value)} {f_3 : Addr} {oc_4 kV_4 dc_4 pm_4 cd_4 ct_4 : Value} {od_4 an_4 : Option Addr} {sl_4 : Array (Option Value)} {f_4 : Addr} {oc_5 kV_5 dc_5 pm_5 cd_5 ct_5 : Value} {od_5 an_5 : Option Addr} {sl_5 : Array (Option Value)} {f_5 : Addr} {oc_6 kV_6 dc_6 pm_6 cd_6 ct_6 : Value} {od_6 an_6 : Option Addr} {sl_6 : Array (Option Value)} {f_6 : Addr} {oc_7 kV_7 dc_7 pm_7 cd_7 ct_7 : Value} {od_7 an_7 : Option Addr} {sl_7 : Array (Option Value)} {f_7 : Addr} {oc_8 kV_8 dc_8 pm_8 cd_8 ct_8 : Value} {od_8 an_8 : Option Addr} {sl_8 : Array (Option Value)} {f_8 : Addr} {oc_9 kV_9 dc_9 pm_9 cd_9 ct_9 : Value} {od_9 an_9 : Option Addr} {sl_9 : Array (Option Value)} {f_9 : Addr} {oc_10 kV_10 dc_10 pm_10 cd_10 ct_10 : Value} {od_10 an_10 : Option Addr} {sl_10 : Array (Option Value)} {f_10 : Addr} {oc_11 kV_11 dc_11 pm_11 cd_11 ct_11 : Value} {od_11 an_11 : Option Addr} {sl_11 : Array (Option Value)} {f_11 : Addr} {oc_12 kV_12 dc_12 pm_12 cd_12 ct_12 : Value} {od_12 an_12 : Option Addr} {sl_12 : Array (Option Value)} {f_12 : Addr} {oc_13 kV_13 dc_13 pm_13 cd_13 ct_13 : Value} {od_13 an_13 : Option Addr} {sl_13 : Array (Option Value)} {f_13 : Addr} {oc_14 kV_14 dc_14 pm_14 cd_14 ct_14 : Value} {od_14 an_14 : Option Addr} {sl_14 : Array (Option Value)} {f_14 : Addr} {oc_15 kV_15 dc_15 pm_15 cd_15 ct_15 : Value} {od_15 an_15 : Option Addr} {sl_15 : Array (Option Value)} {f_15 : Addr} {oc_16 kV_16 dc_16 pm_16 cd_16 ct_16 : Value} {od_16 an_16 : Option Addr} {sl_16 : Array (Option Value)} {f_16 : Addr} {oc_17 kV_17 dc_17 pm_17 cd_17 ct_17 : Value} {od_17 an_17 : Option Addr} {sl_17 : Array (Option Value)} {f_17 : Addr} {u_DIGITS : Value} {u_MOST_DIGITS : Value}
    (X : K.In h)
    (G : h.Ns mainGlobals mg)
    (hfa : mg "law" = some (.ref fa))
    (a_0 : PySem.W.nsIn K mainGlobals "numeral" = some (some (.ref f_0))) (l_0 : K.lookup f_0 = some ⟨oc_0, od_0, .func (PySem.W.fnOf "numeral" "numeral" (defArgs s_numeral) (defBody s_numeral) (defScope s_numeral) .none kV_0 dc_0 pm_0 an_0 cd_0 ct_0), sl_0⟩) (c_0 : PySem.W.codeIn K cd_0 "numeral" = true) (k_0 : PySem.W.keepIn K (.ref f_0) = true)
    (a_1 : PySem.W.nsIn K mainGlobals "whole_lines" = some (some (.ref f_1))) (l_1 : K.lookup f_1 = some ⟨oc_1, od_1, .func (PySem.W.fnOf "whole_lines" "whole_lines" (defArgs s_whole_lines) (defBody s_whole_lines) (defScope s_whole_lines) .none kV_1 dc_1 pm_1 an_1 cd_1 ct_1), sl_1⟩) (c_1 : PySem.W.codeIn K cd_1 "whole_lines" = true) (k_1 : PySem.W.keepIn K (.ref f_1) = true)
    (a_2 : PySem.W.nsIn K mainGlobals "_law_mixed" = some (some (.ref f_2))) (l_2 : K.lookup f_2 = some ⟨oc_2, od_2, .func (PySem.W.fnOf "_law_mixed" "_law_mixed" (defArgs s__law_mixed) (defBody s__law_mixed) (defScope s__law_mixed) .none kV_2 dc_2 pm_2 an_2 cd_2 ct_2), sl_2⟩) (c_2 : PySem.W.codeIn K cd_2 "_law_mixed" = true) (k_2 : PySem.W.keepIn K (.ref f_2) = true)
    (a_3 : PySem.W.nsIn K mainGlobals "_law_take" = some (some (.ref f_3))) (l_3 : K.lookup f_3 = some ⟨oc_3, od_3, .func (PySem.W.fnOf "_law_take" "_law_take" (defArgs s__law_take) (defBody s__law_take) (defScope s__law_take) .none kV_3 dc_3 pm_3 an_3 cd_3 ct_3), sl_3⟩) (c_3 : PySem.W.codeIn K cd_3 "_law_take" = true) (k_3 : PySem.W.keepIn K (.ref f_3) = true)
    (a_4 : PySem.W.nsIn K mainGlobals "_law_same" = some (some (.ref f_4))) (l_4 : K.lookup f_4 = some ⟨oc_4, od_4, .func (PySem.W.fnOf "_law_same" "_law_same" (defArgs s__law_same) (defBody s__law_same) (defScope s__law_same) .none kV_4 dc_4 pm_4 an_4 cd_4 ct_4), sl_4⟩) (c_4 : PySem.W.codeIn K cd_4 "_law_same" = true) (k_4 : PySem.W.keepIn K (.ref f_4) = true)
    (a_5 : PySem.W.nsIn K mainGlobals "_law_char" = some (some (.ref f_5))) (l_5 : K.lookup f_5 = some ⟨oc_5, od_5, .func (PySem.W.fnOf "_law_char" "_law_char" (defArgs s__law_char) (defBody s__law_char) (defScope s__law_char) .none kV_5 dc_5 pm_5 an_5 cd_5 ct_5), sl_5⟩) (c_5 : PySem.W.codeIn K cd_5 "_law_char" = true) (k_5 : PySem.W.keepIn K (.ref f_5) = true)
    (a_6 : PySem.W.nsIn K mainGlobals "_law_digits" = some (some (.ref f_6))) (l_6 : K.lookup f_6 = some ⟨oc_6, od_6, .func (PySem.W.fnOf "_law_digits" "_law_digits" (defArgs s__law_digits) (defBody s__law_digits) (defScope s__law_digits) .none kV_6 dc_6 pm_6 an_6 cd_6 ct_6), sl_6⟩) (c_6 : PySem.W.codeIn K cd_6 "_law_digits" = true) (k_6 : PySem.W.keepIn K (.ref f_6) = true)
    (a_7 : PySem.W.nsIn K mainGlobals "_law_good" = some (some (.ref f_7))) (l_7 : K.lookup f_7 = some ⟨oc_7, od_7, .func (PySem.W.fnOf "_law_good" "_law_good" (defArgs s__law_good) (defBody s__law_good) (defScope s__law_good) .none kV_7 dc_7 pm_7 an_7 cd_7 ct_7), sl_7⟩) (c_7 : PySem.W.codeIn K cd_7 "_law_good" = true) (k_7 : PySem.W.keepIn K (.ref f_7) = true)
    (a_8 : PySem.W.nsIn K mainGlobals "_law_sign" = some (some (.ref f_8))) (l_8 : K.lookup f_8 = some ⟨oc_8, od_8, .func (PySem.W.fnOf "_law_sign" "_law_sign" (defArgs s__law_sign) (defBody s__law_sign) (defScope s__law_sign) .none kV_8 dc_8 pm_8 an_8 cd_8 ct_8), sl_8⟩) (c_8 : PySem.W.codeIn K cd_8 "_law_sign" = true) (k_8 : PySem.W.keepIn K (.ref f_8) = true)
    (a_9 : PySem.W.nsIn K mainGlobals "_law_piece" = some (some (.ref f_9))) (l_9 : K.lookup f_9 = some ⟨oc_9, od_9, .func (PySem.W.fnOf "_law_piece" "_law_piece" (defArgs s__law_piece) (defBody s__law_piece) (defScope s__law_piece) .none kV_9 dc_9 pm_9 an_9 cd_9 ct_9), sl_9⟩) (c_9 : PySem.W.codeIn K cd_9 "_law_piece" = true) (k_9 : PySem.W.keepIn K (.ref f_9) = true)
    (a_10 : PySem.W.nsIn K mainGlobals "_law_text" = some (some (.ref f_10))) (l_10 : K.lookup f_10 = some ⟨oc_10, od_10, .func (PySem.W.fnOf "_law_text" "_law_text" (defArgs s__law_text) (defBody s__law_text) (defScope s__law_text) .none kV_10 dc_10 pm_10 an_10 cd_10 ct_10), sl_10⟩) (c_10 : PySem.W.codeIn K cd_10 "_law_text" = true) (k_10 : PySem.W.keepIn K (.ref f_10) = true)
    (a_11 : PySem.W.nsIn K mainGlobals "_law_near" = some (some (.ref f_11))) (l_11 : K.lookup f_11 = some ⟨oc_11, od_11, .func (PySem.W.fnOf "_law_near" "_law_near" (defArgs s__law_near) (defBody s__law_near) (defScope s__law_near) .none kV_11 dc_11 pm_11 an_11 cd_11 ct_11), sl_11⟩) (c_11 : PySem.W.codeIn K cd_11 "_law_near" = true) (k_11 : PySem.W.keepIn K (.ref f_11) = true)
    (a_12 : PySem.W.nsIn K mainGlobals "_law_long" = some (some (.ref f_12))) (l_12 : K.lookup f_12 = some ⟨oc_12, od_12, .func (PySem.W.fnOf "_law_long" "_law_long" (defArgs s__law_long) (defBody s__law_long) (defScope s__law_long) .none kV_12 dc_12 pm_12 an_12 cd_12 ct_12), sl_12⟩) (c_12 : PySem.W.codeIn K cd_12 "_law_long" = true) (k_12 : PySem.W.keepIn K (.ref f_12) = true)
    (a_13 : PySem.W.nsIn K mainGlobals "_law_number" = some (some (.ref f_13))) (l_13 : K.lookup f_13 = some ⟨oc_13, od_13, .func (PySem.W.fnOf "_law_number" "_law_number" (defArgs s__law_number) (defBody s__law_number) (defScope s__law_number) .none kV_13 dc_13 pm_13 an_13 cd_13 ct_13), sl_13⟩) (c_13 : PySem.W.codeIn K cd_13 "_law_number" = true) (k_13 : PySem.W.keepIn K (.ref f_13) = true)
    (a_14 : PySem.W.nsIn K mainGlobals "_law_pieces" = some (some (.ref f_14))) (l_14 : K.lookup f_14 = some ⟨oc_14, od_14, .func (PySem.W.fnOf "_law_pieces" "_law_pieces" (defArgs s__law_pieces) (defBody s__law_pieces) (defScope s__law_pieces) .none kV_14 dc_14 pm_14 an_14 cd_14 ct_14), sl_14⟩) (c_14 : PySem.W.codeIn K cd_14 "_law_pieces" = true) (k_14 : PySem.W.keepIn K (.ref f_14) = true)
    (a_15 : PySem.W.nsIn K mainGlobals "_law_read" = some (some (.ref f_15))) (l_15 : K.lookup f_15 = some ⟨oc_15, od_15, .func (PySem.W.fnOf "_law_read" "_law_read" (defArgs s__law_read) (defBody s__law_read) (defScope s__law_read) .none kV_15 dc_15 pm_15 an_15 cd_15 ct_15), sl_15⟩) (c_15 : PySem.W.codeIn K cd_15 "_law_read" = true) (k_15 : PySem.W.keepIn K (.ref f_15) = true)
    (a_16 : PySem.W.nsIn K mainGlobals "_law_split" = some (some (.ref f_16))) (l_16 : K.lookup f_16 = some ⟨oc_16, od_16, .func (PySem.W.fnOf "_law_split" "_law_split" (defArgs s__law_split) (defBody s__law_split) (defScope s__law_split) .none kV_16 dc_16 pm_16 an_16 cd_16 ct_16), sl_16⟩) (c_16 : PySem.W.codeIn K cd_16 "_law_split" = true) (k_16 : PySem.W.keepIn K (.ref f_16) = true)
    (a_17 : PySem.W.nsIn K mainGlobals "law" = some (some (.ref f_17))) (l_17 : K.lookup f_17 = some ⟨oc_17, od_17, .func (PySem.W.fnOf "law" "law" (defArgs s_law) (defBody s_law) (defScope s_law) .none kV_17 dc_17 pm_17 an_17 cd_17 ct_17), sl_17⟩) (c_17 : PySem.W.codeIn K cd_17 "law" = true) (k_17 : PySem.W.keepIn K (.ref f_17) = true)
    (z_abs : PySem.W.nsIn K mainGlobals "abs" = some none)
    (z_all : PySem.W.nsIn K mainGlobals "all" = some none)
    (z_bool : PySem.W.nsIn K mainGlobals "bool" = some none)
    (z_int : PySem.W.nsIn K mainGlobals "int" = some none)
    (z_isinstance : PySem.W.nsIn K mainGlobals "isinstance" = some none)
    (z_len : PySem.W.nsIn K mainGlobals "len" = some none)
    (z_list : PySem.W.nsIn K mainGlobals "list" = some none)
    (z_range : PySem.W.nsIn K mainGlobals "range" = some none)
    (z_str : PySem.W.nsIn K mainGlobals "str" = some none)
    (z_tuple : PySem.W.nsIn K mainGlobals "tuple" = some none)
    (g_DIGITS : PySem.W.nsIn K mainGlobals "DIGITS" = some (some u_DIGITS)) (r_DIGITS : RelV (V.str (PySem.Str.ofString "0123456789")) u_DIGITS)
    (g_MOST_DIGITS : PySem.W.nsIn K mainGlobals "MOST_DIGITS" = some (some u_MOST_DIGITS)) (r_MOST_DIGITS : RelV (V.int 2000) u_MOST_DIGITS)
    (dg : PySem.W.nsIn K cStatics digitsKey = some none) :
    ∃ fd : FuncData, (∀ (s : Shared) (v : Value), BindsTo s fd ⟨[v], []⟩ [("script", v)]) ∧ ∀ base : Heap, K.In base → base.Ns mainGlobals mg → FnOk l.prog w K mg base (L2.CX l.prog w) 6 fa fd ["script"] (Prom K F_law) := by
  have e := hfa.symm.trans (PySem.W.mg_of X G a_17)
  cases e
  have B : Bt K mg := ⟨PySem.W.mg_none_of X G z_abs, PySem.W.mg_none_of X G z_all, PySem.W.mg_none_of X G z_bool, PySem.W.mg_none_of X G z_int, PySem.W.mg_none_of X G z_isinstance, PySem.W.mg_none_of X G z_len, PySem.W.mg_none_of X G z_list, PySem.W.mg_none_of X G z_range, PySem.W.mg_none_of X G z_str, PySem.W.mg_none_of X G z_tuple, ⟨_, PySem.W.mg_of X G g_DIGITS, r_DIGITS⟩, ⟨_, PySem.W.mg_of X G g_MOST_DIGITS, r_MOST_DIGITS⟩, dg⟩
  have d_0 := fun_mk (st := s_numeral) l_0 c_0 k_0
  have b_0 := d_0.binds (ps := ["text"]) fun _ _ _ _ _ _ us hl => match us, hl with | [_], _ => rfl
  have D_0 : Df K mg "numeral" s_numeral ["text"] _ _ := ⟨d_0, PySem.W.mg_of X G a_0, b_0⟩
  have d_1 := fun_mk (st := s_whole_lines) l_1 c_1 k_1
  have b_1 := d_1.binds (ps := ["text"]) fun _ _ _ _ _ _ us hl => match us, hl with | [_], _ => rfl
  have D_1 : Df K mg "whole_lines" s_whole_lines ["text"] _ _ := ⟨d_1, PySem.W.mg_of X G a_1, b_1⟩
  have d_2 := fun_mk (st := s__law_mixed) l_2 c_2 k_2
  have b_2 := d_2.binds (ps := ["number", "k"]) fun _ _ _ _ _ _ us hl => match us, hl with | [_, _], _ => rfl
  have D_2 : Df K mg "_law_mixed" s__law_mixed ["number", "k"] _ _ := ⟨d_2, PySem.W.mg_of X G a_2, b_2⟩
  have d_3 := fun_mk (st := s__law_take) l_3 c_3 k_3
  have b_3 := d_3.binds (ps := ["tape", "limit"]) fun _ _ _ _ _ _ us hl => match us, hl with | [_, _], _ => rfl
  have D_3 : Df K mg "_law_take" s__law_take ["tape", "limit"] _ _ := ⟨d_3, PySem.W.mg_of X G a_3, b_3⟩
  have d_4 := fun_mk (st := s__law_same) l_4 c_4 k_4
  have b_4 := d_4.binds (ps := ["told", "due"]) fun _ _ _ _ _ _ us hl => match us, hl with | [_, _], _ => rfl
  have D_4 : Df K mg "_law_same" s__law_same ["told", "due"] _ _ := ⟨d_4, PySem.W.mg_of X G a_4, b_4⟩
  have d_5 := fun_mk (st := s__law_char) l_5 c_5 k_5
  have b_5 := d_5.binds (ps := ["tape"]) fun _ _ _ _ _ _ us hl => match us, hl with | [_], _ => rfl
  have D_5 : Df K mg "_law_char" s__law_char ["tape"] _ _ := ⟨d_5, PySem.W.mg_of X G a_5, b_5⟩
  have d_6 := fun_mk (st := s__law_digits) l_6 c_6 k_6
  have b_6 := d_6.binds (ps := ["tape", "size"]) fun _ _ _ _ _ _ us hl => match us, hl with | [_, _], _ => rfl
  have D_6 : Df K mg "_law_digits" s__law_digits ["tape", "size"] _ _ := ⟨d_6, PySem.W.mg_of X G a_6, b_6⟩
  have d_7 := fun_mk (st := s__law_good) l_7 c_7 k_7
  have b_7 := d_7.binds (ps := ["tape", "size"]) fun _ _ _ _ _ _ us hl => match us, hl with | [_, _], _ => rfl
  have D_7 : Df K mg "_law_good" s__law_good ["tape", "size"] _ _ := ⟨d_7, PySem.W.mg_of X G a_7, b_7⟩
  have d_8 := fun_mk (st := s__law_sign) l_8 c_8 k_8
  have b_8 := d_8.binds (ps := ["tape"]) fun _ _ _ _ _ _ us hl => match us, hl with | [_], _ => rfl
  have D_8 : Df K mg "_law_sign" s__law_sign ["tape"] _ _ := ⟨d_8, PySem.W.mg_of X G a_8, b_8⟩
  have d_9 := fun_mk (st := s__law_piece) l_9 c_9 k_9
  have b_9 := d_9.binds (ps := ["tape"]) fun _ _ _ _ _ _ us hl => match us, hl with | [_], _ => rfl
  have D_9 : Df K mg "_law_piece" s__law_piece ["tape"] _ _ := ⟨d_9, PySem.W.mg_of X G a_9, b_9⟩
  have d_10 := fun_mk (st := s__law_text) l_10 c_10 k_10
  have b_10 := d_10.binds (ps := ["tape"]) fun _ _ _ _ _ _ us hl => match us, hl with | [_], _ => rfl
  have D_10 : Df K mg "_law_text" s__law_text ["tape"] _ _ := ⟨d_10, PySem.W.mg_of X G a_10, b_10⟩
  have d_11 := fun_mk (st := s__law_near) l_11 c_11 k_11
  have b_11 := d_11.binds (ps := ["tape", "good"]) fun _ _ _ _ _ _ us hl => match us, hl with | [_, _], _ => rfl
  have D_11 : Df K mg "_law_near" s__law_near ["tape", "good"] _ _ := ⟨d_11, PySem.W.mg_of X G a_11, b_11⟩
  have d_12 := fun_mk (st := s__law_long) l_12 c_12 k_12
  have b_12 := d_12.binds (ps := ["tape"]) fun _ _ _ _ _ _ us hl => match us, hl with | [_], _ => rfl
  have D_12 : Df K mg "_law_long" s__law_long ["tape"] _ _ := ⟨d_12, PySem.W.mg_of X G a_12, b_12⟩
  have d_13 := fun_mk (st := s__law_number) l_13 c_13 k_13
  have b_13 := d_13.binds (ps := ["text"]) fun _ _ _ _ _ _ us hl => match us, hl with | [_], _ => rfl
  have D_13 : Df K mg "_law_number" s__law_number ["text"] _ _ := ⟨d_13, PySem.W.mg_of X G a_13, b_13⟩
  have d_14 := fun_mk (st := s__law_pieces) l_14 c_14 k_14
  have b_14 := d_14.binds (ps := ["text"]) fun _ _ _ _ _ _ us hl => match us, hl with | [_], _ => rfl
  have D_14 : Df K mg "_law_pieces" s__law_pieces ["text"] _ _ := ⟨d_14, PySem.W.mg_of X G a_14, b_14⟩
  have d_15 := fun_mk (st := s__law_read) l_15 c_15 k_15
  have b_15 := d_15.binds (ps := ["text"]) fun _ _ _ _ _ _ us hl => match us, hl with | [_], _ => rfl
  have D_15 : Df K mg "_law_read" s__law_read ["text"] _ _ := ⟨d_15, PySem.W.mg_of X G a_15, b_15⟩
  have d_16 := fun_mk (st := s__law_split) l_16 c_16 k_16
  have b_16 := d_16.binds (ps := ["text"]) fun _ _ _ _ _ _ us hl => match us, hl with | [_], _ => rfl
  have D_16 : Df K mg "_law_split" s__law_split ["text"] _ _ := ⟨d_16, PySem.W.mg_of X G a_16, b_16⟩
  have d_17 := fun_mk (st := s_law) l_17 c_17 k_17
  have b_17 := d_17.binds (ps := ["script"]) fun _ _ _ _ _ _ us hl => match us, hl with | [_], _ => rfl
  have D_17 : Df K mg "law" s_law ["script"] _ _ := ⟨d_17, PySem.W.mg_of X G a_17, b_17⟩
  refine ⟨PySem.W.fnOf "law" "law" (defArgs s_law) (defBody s_law) (defScope s_law) .none kV_17 dc_17 pm_17 an_17 cd_17 ct_17, fun s v => .of_eq rfl, fun base hb1 hb2 => ?_⟩
  have C_0 : Cl l.prog w K mg base 1 "numeral" F_numeral := cl_numeral (k := 0) B D_0 
  have C_1 : Cl l.prog w K mg base 1 "whole_lines" F_whole_lines := cl_whole_lines (k := 0) B D_1 
  have C_2 : Cl l.prog w K mg base 1 "_law_mixed" F__law_mixed := cl__law_mixed (k := 0) B D_2 
  have C_3 : Cl l.prog w K mg base 2 "_law_take" F__law_take := cl__law_take (k := 1) B D_3 (C_2.mono (by decide))
  have C_4_0 : Cl l.prog w K mg base 1 "_law_same" F__law_same_0 := (cl_none D_4 sc__law_same rfl rfl).mono (by decide)
  have C_4_1 : Cl l.prog w K mg base 2 "_law_same" F__law_same_1 := cl__law_same (k := 1) B D_4 (C_4_0.mono (by decide))
  have C_4_2 : Cl l.prog w K mg base 3 "_law_same" F__law_same_2 := cl__law_same (k := 2) B D_4 (C_4_1.mono (by decide))
  have C_4_3 : Cl l.prog w K mg base 4 "_law_same" F__law_same_3 := cl__law_same (k := 3) B D_4 (C_4_2.mono (by decide))
  have C_4 := C_4_3
  have C_5 : Cl l.prog w K mg base 3 "_law_char" F__law_char := cl__law_char (k := 2) B D_5 (C_3.mono (by decide))
  have C_6 : Cl l.prog w K mg base 3 "_law_digits" F__law_digits := cl__law_digits (k := 2) B D_6 (C_3.mono (by decide))
  have C_7 : Cl l.prog w K mg base 4 "_law_good" F__law_good := cl__law_good (k := 3) B D_7 (C_3.mono (by decide)) (C_6.mono (by decide))
  have C_8 : Cl l.prog w K mg base 3 "_law_sign" F__law_sign := cl__law_sign (k := 2) B D_8 (C_3.mono (by decide))
  have C_9 : Cl l.prog w K mg base 4 "_law_piece" F__law_piece := cl__law_piece (k := 3) B D_9 (C_3.mono (by decide)) (C_5.mono (by decide)) (C_6.mono (by decide)) (C_8.mono (by decide))
  have C_10 : Cl l.prog w K mg base 5 "_law_text" F__law_text := cl__law_text (k := 4) B D_10 (C_3.mono (by decide)) (C_5.mono (by decide)) (C_9.mono (by decide))
  have C_11 : Cl l.prog w K mg base 4 "_law_near" F__law_near := cl__law_near (k := 3) B D_11 (C_3.mono (by decide)) (C_8.mono (by decide))
  have C_12 : Cl l.prog w K mg base 5 "_law_long" F__law_long := cl__law_long (k := 4) B D_12 (C_3.mono (by decide)) (C_6.mono (by decide)) (C_7.mono (by decide)) (C_8.mono (by decide))
  have C_13 : Cl l.prog w K mg base 1 "_law_number" F__law_number := cl__law_number (k := 0) B D_13 
  have C_14 : Cl l.prog w K mg base 1 "_law_pieces" F__law_pieces := cl__law_pieces (k := 0) B D_14 
  have C_15 : Cl l.prog w K mg base 2 "_law_read" F__law_read := cl__law_read (k := 1) B D_15 (C_0.mono (by decide)) (C_13.mono (by decide))
  have C_16 : Cl l.prog w K mg base 5 "_law_split" F__law_split := cl__law_split (k := 4) B D_16 (C_1.mono (by decide)) (C_4.mono (by decide)) (C_14.mono (by decide))
  exact fn_den (k := 5) D_17.fn sc_law rfl rfl fun cdv A outer s H E hr => (b_law F__law_take F__law_good F__law_text F__law_near F__law_long F__law_pieces F__law_read F__law_split).2 B (C_3.mono (by decide)) (C_7.mono (by decide)) (C_10.mono (by decide)) (C_11.mono (by decide)) (C_12.mono (by decide)) (C_14.mono (by decide)) (C_15.mono (by decide)) (C_16.mono (by decide)) cdv A outer s H E hr
end K00
open PySem PySem.W PyProof.Rows
set_option maxHeartbeats 0 in
theorem PySem.Challenge.cw_actsapart_k00_numerals_and_lines_holds : PySem.Challenge.rw_actsapart_k00_numerals_and_lines.Holds := by
  w_on; o_law; k_head; (case hw => w_witness2)
  k_fill
  refine L2.walk_of (l := PySem.Challenge.rw_actsapart_k00_numerals_and_lines) (n := 63) (k := 6) (x := "script") (CX := fun w => L2.CX PySem.Challenge.rw_actsapart_k00_numerals_and_lines.prog w) (sp := fun w => DL.Prom _ K00.F_law) rfl (by decide) rfl ⟨rfl, by decide, by decide⟩ (fun w h Y => PySem.W.kIn_of Y) ?F (fun w H a ns hl hO hS => DL.law_prom hO hS (K00.law_true ns hl)) (fun _ _ _ _ _ h => DL.no_let h)
  case F =>
    intro w mg fa h KX G hmg
    refine' K00.all_mk KX G hmg ?a_0 ?l_0 ?c_0 ?k_0 ?a_1 ?l_1 ?c_1 ?k_1 ?a_2 ?l_2 ?c_2 ?k_2 ?a_3 ?l_3 ?c_3 ?k_3 ?a_4 ?l_4 ?c_4 ?k_4 ?a_5 ?l_5 ?c_5 ?k_5 ?a_6 ?l_6 ?c_6 ?k_6 ?a_7 ?l_7 ?c_7 ?k_7 ?a_8 ?l_8 ?c_8 ?k_8 ?a_9 ?l_9 ?c_9 ?k_9 ?a_10 ?l_10 ?c_10 ?k_10 ?a_11 ?l_11 ?c_11 ?k_11 ?a_12 ?l_12 ?c_12 ?k_12 ?a_13 ?l_13 ?c_13 ?k_13 ?a_14 ?l_14 ?c_14 ?k_14 ?a_15 ?l_15 ?c_15 ?k_15 ?a_16 ?l_16 ?c_16 ?k_16 ?a_17 ?l_17 ?c_17 ?k_17 ?z_abs ?z_all ?z_bool ?z_int ?z_isinstance ?z_len ?z_list ?z_range ?z_str ?z_tuple ?g_DIGITS ?r_DIGITS ?g_MOST_DIGITS ?r_MOST_DIGITS ?dg
    (case a_0 => k_is)
    (case l_0 => k_is)
    (case c_0 => k_is)
    (case k_0 => k_is)
    (case a_1 => k_is)
    (case l_1 => k_is)
    (case c_1 => k_is)
    (case k_1 => k_is)
    (case a_2 => k_is)
    (case l_2 => k_is)
    (case c_2 => k_is)
    (case k_2 => k_is)
    (case a_3 => k_is)
    (case l_3 => k_is)
    (case c_3 => k_is)
    (case k_3 => k_is)
    (case a_4 => k_is)
    (case l_4 => k_is)
    (case c_4 => k_is)
    (case k_4 => k_is)
    (case a_5 => k_is)
    (case l_5 => k_is)
    (case c_5 => k_is)
    (case k_5 => k_is)
    (case a_6 => k_is)
    (case l_6 => k_is)
    (case c_6 => k_is)
    (case k_6 => k_is)
    (case a_7 => k_is)
    (case l_7 => k_is)
    (case c_7 => k_is)
    (case k_7 => k_is)
    (case a_8 => k_is)
    (case l_8 => k_is)
    (case c_8 => k_is)
    (case k_8 => k_is)
    (case a_9 => k_is)
    (case l_9 => k_is)
    (case c_9 => k_is)
    (case k_9 => k_is)
    (case a_10 => k_is)
    (case l_10 => k_is)
    (case c_10 => k_is)
    (case k_10 => k_is)
    (case a_11 => k_is)
    (case l_11 => k_is)
    (case c_11 => k_is)
    (case k_11 => k_is)
    (case a_12 => k_is)
    (case l_12 => k_is)
    (case c_12 => k_is)
    (case k_12 => k_is)
    (case a_13 => k_is)
    (case l_13 => k_is)
    (case c_13 => k_is)
    (case k_13 => k_is)
    (case a_14 => k_is)
    (case l_14 => k_is)
    (case c_14 => k_is)
    (case k_14 => k_is)
    (case a_15 => k_is)
    (case l_15 => k_is)
    (case c_15 => k_is)
    (case k_15 => k_is)
    (case a_16 => k_is)
    (case l_16 => k_is)
    (case c_16 => k_is)
    (case k_16 => k_is)
    (case a_17 => k_is)
    (case l_17 => k_is)
    (case c_17 => k_is)
    (case k_17 => k_is)
    (case z_abs => k_is)
    (case z_all => k_is)
    (case z_bool => k_is)
    (case z_int => k_is)
    (case z_isinstance => k_is)
    (case z_len => k_is)
    (case z_list => k_is)
    (case z_range => k_is)
    (case z_str => k_is)
    (case z_tuple => k_is)
    (case g_DIGITS => k_is)
    (case r_DIGITS => exact ⟨_, rfl⟩)
    (case g_MOST_DIGITS => k_is)
    (case r_MOST_DIGITS => exact ⟨_, rfl⟩)
    (case dg => k_is)

