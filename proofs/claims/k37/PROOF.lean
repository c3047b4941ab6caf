import PyProof.Rows.All
import Wide.All
import OpenK.AllK
import Wide.FinOn
import HandS.ForMost
import HandS.Wide
import HandS.IsInst
import HandS.Style
import HandS.TupAny
import HandS.Deep
import HandS.More
import HandS.Iter
import HandS.Rev
import HandS.Text
import HandS.StrMore
import PyProof.Rows.StrMul
import HandS.Dict
import PySem.Challenge.RW_oxhide_k37_whole_land_between_roads
set_option Elab.async false
set_option linter.all false
set_option maxRecDepth 100000
set_option maxHeartbeats 4000000
/-! VlA: data as trees, how values and heaps bear them. -/
namespace Vl
open PySem L2

/-- data that nobody changes any more -/
inductive D where
  | non | bl (b : Bool) | int (i : Int) | str (x : Str)
  | tup (l : List D) | lst (l : List D) | dct (l : List (D × D)) | fn (n : Str) | scr (l : List Int)
/-- what a slot holds: data, or an owned tree -/
inductive Sl where
  | d (x : D) | ol (l : List Sl) | ot (l : List Sl) | od (l : List (D × Sl)) | oi (c : Str) (fs : List (Str × Sl))

def kD : Key → D
  | .inl i => .int i
  | .inr x => .str x

/-- a dict -/
def isDic : HO → Prop
  | .dK _ => True
  | .dT _ => True
  | _ => False
/-- all of G stands in H; a dict may be locked there -/
def LeR (G H : Hp) : Prop := ∀ a o, G a = some o → H a = some o ∨ (isDic o ∧ ∃ od, H a = some (.frz od o))
theorem LeR.refl (G : Hp) : LeR G G := fun _ _ h => .inl h
theorem LeR.trans {G H I : Hp} (a : LeR G H) (b : LeR H I) : LeR G I := fun x o h => by
  rcases a x o h with h1 | ⟨d, od, h1⟩
  · exact b x o h1
  · rcases b x _ h1 with h2 | ⟨q, _⟩
    · exact .inr ⟨d, od, h2⟩
    · exact q.elim
theorem sameR {G H : Hp} (h : Same G H) : LeR G H := fun a o r => .inl (h a o r)
theorem LeR.rd {G H : Hp} (h : LeR G H) {a : Addr} {u : HO} (r : Rd G a u) : Rd H a u := by
  rcases r with r | ⟨o, r⟩
  · rcases h a u r with q | ⟨_, od, q⟩
    · exact .inl q
    · exact .inr ⟨od, q⟩
  · rcases h a _ r with q | ⟨z, _⟩
    · exact .inr ⟨o, q⟩
    · exact z.elim
theorem LeR.ls {G H : Hp} (h : LeR G H) {a : Addr} {xs : List V} (r : G a = some (.lst xs)) : H a = some (.lst xs) := by
  rcases h a _ r with q | ⟨z, _⟩
  · exact q
  · exact z.elim
theorem LeR.sq {K : PySem.W.Frag} {G H : Hp} (h : LeR G H) {a : Addr} {xs : List V} (s : SqL K G a xs) : SqL K H a xs := by
  rcases s with s | s
  · exact .inl (h.rd s)
  · exact .inr s
theorem LeR.st {K : PySem.W.Frag} {G H : Hp} (h : LeR G H) {a : Addr} {xs : List V} (s : SqT K G a xs) : SqT K H a xs := by
  rcases s with s | s
  · exact .inl (h.rd s)
  · exact .inr s

section
variable (K : PySem.W.Frag) (cl : Str → Addr)
mutual
inductive Rp (G : Hp) : V → D → Prop
  | non : Rp G .non .non
  | bl (b : Bool) : Rp G (.bl b) (.bl b)
  | int (i : Int) : Rp G (.int i) (.int i)
  | str (x : Str) : Rp G (.str x) (.str x)
  | lst {a : Addr} {xs : List V} {ds : List D} : G a = some (.lst xs) → RpL G xs ds → Rp G (.ref a) (.lst ds)
  | tup {a : Addr} {xs : List V} {ds : List D} : SqT K G a xs → RpL G xs ds → Rp G (.ref a) (.tup ds)
  | dk {a : Addr} {kvs : List (Key × V)} {ds : List (D × D)} : Rd G a (.dK kvs) → RpK G kvs ds → Rp G (.ref a) (.dct ds)
  | dt {a : Addr} {kvs : List (List Key × V)} {ds : List (D × D)} : Rd G a (.dT kvs) → RpT G kvs ds → Rp G (.ref a) (.dct ds)
  | fn (n : Str) : Rp G (.ref (cl n)) (.fn n)
  | scr {a : Addr} {l : List Int} : SqL K G a (l.map V.int) → Rp G (.ref a) (.scr l)
inductive RpL (G : Hp) : List V → List D → Prop
  | nil : RpL G [] []
  | cons {v : V} {vs : List V} {d : D} {ds : List D} : Rp G v d → RpL G vs ds → RpL G (v :: vs) (d :: ds)
inductive RpK (G : Hp) : List (Key × V) → List (D × D) → Prop
  | nil : RpK G [] []
  | cons {k : Key} {v : V} {kvs : List (Key × V)} {d : D} {ds : List (D × D)} : Rp G v d → RpK G kvs ds → RpK G ((k, v) :: kvs) ((kD k, d) :: ds)
inductive RpT (G : Hp) : List (List Key × V) → List (D × D) → Prop
  | nil : RpT G [] []
  | cons {k : List Key} {v : V} {kvs : List (List Key × V)} {d : D} {ds : List (D × D)} : Rp G v d → RpT G kvs ds → RpT G ((k, v) :: kvs) ((.tup (k.map kD), d) :: ds)
end
mutual
/-- v is the tree s in H; its own objects stand at fp -/
inductive Ow (G H : Hp) : V → Sl → List Addr → Prop
  | d {v : V} {x : D} : Rp K cl G v x → Ow G H v (.d x) []
  | ol {a : Addr} {xs : List V} {ss : List Sl} {fp : List Addr} : H a = some (.lst xs) → OwL G H xs ss fp → a ∉ fp → Ow G H (.ref a) (.ol ss) (a :: fp)
  | ot {a : Addr} {xs : List V} {ss : List Sl} {fp : List Addr} : H a = some (.tup xs) → OwL G H xs ss fp → a ∉ fp → Ow G H (.ref a) (.ot ss) (a :: fp)
  | odk {a : Addr} {kvs : List (Key × V)} {ss : List (D × Sl)} {fp : List Addr} : H a = some (.dK kvs) → OwK G H kvs ss fp → a ∉ fp → Ow G H (.ref a) (.od ss) (a :: fp)
  | odt {a : Addr} {kvs : List (List Key × V)} {ss : List (D × Sl)} {fp : List Addr} : H a = some (.dT kvs) → OwT G H kvs ss fp → a ∉ fp → Ow G H (.ref a) (.od ss) (a :: fp)
  | oi {a dx : Addr} {c : Str} {fs : List (Str × V)} {ss : List (Str × Sl)} {fp : List Addr} : H a = some (.ins (cl c) dx fs) → H dx = some (.own a) → OwF G H fs ss fp → a ∉ fp → dx ∉ fp → a ≠ dx → Ow G H (.ref a) (.oi c ss) (a :: dx :: fp)
inductive OwL (G H : Hp) : List V → List Sl → List Addr → Prop
  | nil : OwL G H [] [] []
  | cons {v : V} {vs : List V} {s : Sl} {ss : List Sl} {fp fq : List Addr} : Ow G H v s fp → OwL G H vs ss fq → (∀ a ∈ fp, a ∉ fq) → OwL G H (v :: vs) (s :: ss) (fp ++ fq)
inductive OwK (G H : Hp) : List (Key × V) → List (D × Sl) → List Addr → Prop
  | nil : OwK G H [] [] []
  | cons {k : Key} {v : V} {vs : List (Key × V)} {s : Sl} {ss : List (D × Sl)} {fp fq : List Addr} : Ow G H v s fp → OwK G H vs ss fq → (∀ a ∈ fp, a ∉ fq) → OwK G H ((k, v) :: vs) ((kD k, s) :: ss) (fp ++ fq)
inductive OwT (G H : Hp) : List (List Key × V) → List (D × Sl) → List Addr → Prop
  | nil : OwT G H [] [] []
  | cons {k : List Key} {v : V} {vs : List (List Key × V)} {s : Sl} {ss : List (D × Sl)} {fp fq : List Addr} : Ow G H v s fp → OwT G H vs ss fq → (∀ a ∈ fp, a ∉ fq) → OwT G H ((k, v) :: vs) ((.tup (k.map kD), s) :: ss) (fp ++ fq)
inductive OwF (G H : Hp) : List (Str × V) → List (Str × Sl) → List Addr → Prop
  | nil : OwF G H [] [] []
  | cons {k : Str} {v : V} {vs : List (Str × V)} {s : Sl} {ss : List (Str × Sl)} {fp fq : List Addr} : Ow G H v s fp → OwF G H vs ss fq → (∀ a ∈ fp, a ∉ fq) → OwF G H ((k, v) :: vs) ((k, s) :: ss) (fp ++ fq)
end
end

section
variable {K : PySem.W.Frag} {cl : Str → Addr} {G G' H H' : Hp}
mutual
theorem Rp.mono (h : LeR G G') : ∀ (v : V) (x : D), Rp K cl G v x → Rp K cl G' v x
  | _, _, .non => .non
  | _, _, .bl b => .bl b
  | _, _, .int i => .int i
  | _, _, .str x => .str x
  | _, _, .lst s r => .lst (h.ls s) (RpL.mono h _ _ r)
  | _, _, .tup s r => .tup (h.st s) (RpL.mono h _ _ r)
  | _, _, .dk s r => .dk (h.rd s) (RpK.mono h _ _ r)
  | _, _, .dt s r => .dt (h.rd s) (RpT.mono h _ _ r)
  | _, _, .fn n => .fn n
  | _, _, .scr s => .scr (h.sq s)
theorem RpL.mono (h : LeR G G') : ∀ (v : List V) (x : List D), RpL K cl G v x → RpL K cl G' v x
  | _, _, .nil => .nil
  | _, _, .cons a b => .cons (Rp.mono h _ _ a) (RpL.mono h _ _ b)
theorem RpK.mono (h : LeR G G') : ∀ (v : List (Key × V)) (x : List (D × D)), RpK K cl G v x → RpK K cl G' v x
  | _, _, .nil => .nil
  | _, _, .cons a b => .cons (Rp.mono h _ _ a) (RpK.mono h _ _ b)
theorem RpT.mono (h : LeR G G') : ∀ (v : List (List Key × V)) (x : List (D × D)), RpT K cl G v x → RpT K cl G' v x
  | _, _, .nil => .nil
  | _, _, .cons a b => .cons (Rp.mono h _ _ a) (RpT.mono h _ _ b)
end
mutual
/-- what an owned tree leans on: its own objects, G -/
theorem Ow.fr (h : LeR G G') : ∀ (v : V) (s : Sl) (fp : List Addr), Ow K cl G H v s fp → (∀ a ∈ fp, ∀ o, H a = some o → H' a = some o) → Ow K cl G' H' v s fp
  | _, _, _, .d r, _ => .d (Rp.mono h _ _ r)
  | _, _, _, .ol e r n, k => .ol (k _ (by simp) _ e) (OwL.fr h _ _ _ r fun a m => k a (by simp [m])) n
  | _, _, _, .ot e r n, k => .ot (k _ (by simp) _ e) (OwL.fr h _ _ _ r fun a m => k a (by simp [m])) n
  | _, _, _, .odk e r n, k => .odk (k _ (by simp) _ e) (OwK.fr h _ _ _ r fun a m => k a (by simp [m])) n
  | _, _, _, .odt e r n, k => .odt (k _ (by simp) _ e) (OwT.fr h _ _ _ r fun a m => k a (by simp [m])) n
  | _, _, _, .oi e e2 r n n2 n3, k => .oi (k _ (by simp) _ e) (k _ (by simp) _ e2) (OwF.fr h _ _ _ r fun a m => k a (by simp [m])) n n2 n3
theorem OwL.fr (h : LeR G G') : ∀ (v : List V) (s : List Sl) (fp : List Addr), OwL K cl G H v s fp → (∀ a ∈ fp, ∀ o, H a = some o → H' a = some o) → OwL K cl G' H' v s fp
  | _, _, _, .nil, _ => .nil
  | _, _, _, .cons a b n, k => .cons (Ow.fr h _ _ _ a fun x m => k x (by simp [m])) (OwL.fr h _ _ _ b fun x m => k x (by simp [m])) n
theorem OwK.fr (h : LeR G G') : ∀ (v : List (Key × V)) (s : List (D × Sl)) (fp : List Addr), OwK K cl G H v s fp → (∀ a ∈ fp, ∀ o, H a = some o → H' a = some o) → OwK K cl G' H' v s fp
  | _, _, _, .nil, _ => .nil
  | _, _, _, .cons a b n, k => .cons (Ow.fr h _ _ _ a fun x m => k x (by simp [m])) (OwK.fr h _ _ _ b fun x m => k x (by simp [m])) n
theorem OwT.fr (h : LeR G G') : ∀ (v : List (List Key × V)) (s : List (D × Sl)) (fp : List Addr), OwT K cl G H v s fp → (∀ a ∈ fp, ∀ o, H a = some o → H' a = some o) → OwT K cl G' H' v s fp
  | _, _, _, .nil, _ => .nil
  | _, _, _, .cons a b n, k => .cons (Ow.fr h _ _ _ a fun x m => k x (by simp [m])) (OwT.fr h _ _ _ b fun x m => k x (by simp [m])) n
theorem OwF.fr (h : LeR G G') : ∀ (v : List (Str × V)) (s : List (Str × Sl)) (fp : List Addr), OwF K cl G H v s fp → (∀ a ∈ fp, ∀ o, H a = some o → H' a = some o) → OwF K cl G' H' v s fp
  | _, _, _, .nil, _ => .nil
  | _, _, _, .cons a b n, k => .cons (Ow.fr h _ _ _ a fun x m => k x (by simp [m])) (OwF.fr h _ _ _ b fun x m => k x (by simp [m])) n
end
mutual
/-- its own objects stand in H -/
theorem Ow.dom : ∀ (v : V) (s : Sl) (fp : List Addr), Ow K cl G H v s fp → ∀ a ∈ fp, ∃ o, H a = some o
  | _, _, _, .d r => fun a m => nomatch m
  | _, _, _, .ol e r n => fun a m => by
    rcases List.mem_cons.mp m with q | q
    · exact ⟨_, q ▸ e⟩
    · exact OwL.dom _ _ _ r a q
  | _, _, _, .ot e r n => fun a m => by
    rcases List.mem_cons.mp m with q | q
    · exact ⟨_, q ▸ e⟩
    · exact OwL.dom _ _ _ r a q
  | _, _, _, .odk e r n => fun a m => by
    rcases List.mem_cons.mp m with q | q
    · exact ⟨_, q ▸ e⟩
    · exact OwK.dom _ _ _ r a q
  | _, _, _, .odt e r n => fun a m => by
    rcases List.mem_cons.mp m with q | q
    · exact ⟨_, q ▸ e⟩
    · exact OwT.dom _ _ _ r a q
  | _, _, _, .oi e e2 r n n2 n3 => fun a m => by
    rcases List.mem_cons.mp m with q | q
    · exact ⟨_, q ▸ e⟩
    · rcases List.mem_cons.mp q with q | q
      · exact ⟨_, q ▸ e2⟩
      · exact OwF.dom _ _ _ r a q
theorem OwL.dom : ∀ (v : List V) (s : List Sl) (fp : List Addr), OwL K cl G H v s fp → ∀ a ∈ fp, ∃ o, H a = some o
  | _, _, _, .nil => fun a m => nomatch m
  | _, _, _, .cons x y n => fun a m => (List.mem_append.mp m).elim (Ow.dom _ _ _ x a) (OwL.dom _ _ _ y a)
theorem OwK.dom : ∀ (v : List (Key × V)) (s : List (D × Sl)) (fp : List Addr), OwK K cl G H v s fp → ∀ a ∈ fp, ∃ o, H a = some o
  | _, _, _, .nil => fun a m => nomatch m
  | _, _, _, .cons x y n => fun a m => (List.mem_append.mp m).elim (Ow.dom _ _ _ x a) (OwK.dom _ _ _ y a)
theorem OwT.dom : ∀ (v : List (List Key × V)) (s : List (D × Sl)) (fp : List Addr), OwT K cl G H v s fp → ∀ a ∈ fp, ∃ o, H a = some o
  | _, _, _, .nil => fun a m => nomatch m
  | _, _, _, .cons x y n => fun a m => (List.mem_append.mp m).elim (Ow.dom _ _ _ x a) (OwT.dom _ _ _ y a)
theorem OwF.dom : ∀ (v : List (Str × V)) (s : List (Str × Sl)) (fp : List Addr), OwF K cl G H v s fp → ∀ a ∈ fp, ∃ o, H a = some o
  | _, _, _, .nil => fun a m => nomatch m
  | _, _, _, .cons x y n => fun a m => (List.mem_append.mp m).elim (Ow.dom _ _ _ x a) (OwF.dom _ _ _ y a)
end
end

/-! ### an owned tree becomes data -/
mutual
def Sl.frz : Sl → Option D
  | .d x => some x
  | .ol l => (frzL l).map .lst
  | .ot l => (frzL l).map .tup
  | .od l => (frzK l).map .dct
  | .oi _ _ => none
def frzL : List Sl → Option (List D)
  | [] => some []
  | s :: r => match s.frz, frzL r with
    | some x, some y => some (x :: y)
    | _, _ => none
def frzK : List (D × Sl) → Option (List (D × D))
  | [] => some []
  | (k, s) :: r => match s.frz, frzK r with
    | some x, some y => some ((k, x) :: y)
    | _, _ => none
end
theorem frzL_map : ∀ l : List D, frzL (l.map Sl.d) = some l
  | [] => rfl
  | x :: r => by simp only [List.map_cons, frzL, Sl.frz, frzL_map r]
theorem frz_ol (l : List D) : (Sl.ol (l.map Sl.d)).frz = some (.lst l) := by simp only [Sl.frz, frzL_map, Option.map_some]
section
variable {K : PySem.W.Frag} {cl : Str → Addr} {G G' H : Hp}
theorem rd1 {a : Addr} {u : HO} (h : H a = some u) : Rd H a u := .inl h
theorem frzL_cons {s : Sl} {ss : List Sl} {y : List D} (h : frzL (s :: ss) = some y) : ∃ x z, s.frz = some x ∧ frzL ss = some z ∧ y = x :: z := by
  simp only [frzL] at h
  split at h
  · rename_i x z h1 h2
    exact ⟨x, z, h1, h2, (Option.some.inj h).symm⟩
  · cases h
theorem frzK_cons {k : D} {s : Sl} {ss : List (D × Sl)} {y : List (D × D)} (h : frzK ((k, s) :: ss) = some y) : ∃ x z, s.frz = some x ∧ frzK ss = some z ∧ y = (k, x) :: z := by
  simp only [frzK] at h
  split at h
  · rename_i x z h1 h2
    exact ⟨x, z, h1, h2, (Option.some.inj h).symm⟩
  · cases h
mutual
theorem Ow.rp (h : LeR G G') : ∀ (v : V) (s : Sl) (fp : List Addr), Ow K cl G H v s fp → (∀ a ∈ fp, ∀ u, H a = some u → G' a = some u) → ∀ x, s.frz = some x → Rp K cl G' v x
  | _, _, _, .d r, _, x, e => by
    cases e
    exact Rp.mono h _ _ r
  | _, _, _, .ol e r n, k, x, q => by
    simp only [Sl.frz, Option.map_eq_some_iff] at q
    obtain ⟨y, q, rfl⟩ := q
    exact .lst (k _ (by simp) _ e) (OwL.rp h _ _ _ r (fun a m => k a (by simp [m])) y q)
  | _, _, _, .ot e r n, k, x, q => by
    simp only [Sl.frz, Option.map_eq_some_iff] at q
    obtain ⟨y, q, rfl⟩ := q
    exact .tup (.inl (.inl (k _ (by simp) _ e))) (OwL.rp h _ _ _ r (fun a m => k a (by simp [m])) y q)
  | _, _, _, .odk e r n, k, x, q => by
    simp only [Sl.frz, Option.map_eq_some_iff] at q
    obtain ⟨y, q, rfl⟩ := q
    exact .dk (.inl (k _ (by simp) _ e)) (OwK.rp h _ _ _ r (fun a m => k a (by simp [m])) y q)
  | _, _, _, .odt e r n, k, x, q => by
    simp only [Sl.frz, Option.map_eq_some_iff] at q
    obtain ⟨y, q, rfl⟩ := q
    exact .dt (.inl (k _ (by simp) _ e)) (OwT.rp h _ _ _ r (fun a m => k a (by simp [m])) y q)
  | _, _, _, .oi e e2 r n n2 n3, k, x, q => by cases q
theorem OwL.rp (h : LeR G G') : ∀ (v : List V) (s : List Sl) (fp : List Addr), OwL K cl G H v s fp → (∀ a ∈ fp, ∀ u, H a = some u → G' a = some u) → ∀ x, frzL s = some x → RpL K cl G' v x
  | _, _, _, .nil, _, x, e => by
    cases e
    exact .nil
  | _, _, _, .cons a b n, k, y, q => by
    obtain ⟨x, z, h1, h2, rfl⟩ := frzL_cons q
    exact .cons (Ow.rp h _ _ _ a (fun a m => k a (by simp [m])) x h1) (OwL.rp h _ _ _ b (fun a m => k a (by simp [m])) z h2)
theorem OwK.rp (h : LeR G G') : ∀ (v : List (Key × V)) (s : List (D × Sl)) (fp : List Addr), OwK K cl G H v s fp → (∀ a ∈ fp, ∀ u, H a = some u → G' a = some u) → ∀ x, frzK s = some x → RpK K cl G' v x
  | _, _, _, .nil, _, x, e => by
    cases e
    exact .nil
  | _, _, _, .cons a b n, k, y, q => by
    obtain ⟨x, z, h1, h2, rfl⟩ := frzK_cons q
    exact .cons (Ow.rp h _ _ _ a (fun a m => k a (by simp [m])) x h1) (OwK.rp h _ _ _ b (fun a m => k a (by simp [m])) z h2)
theorem OwT.rp (h : LeR G G') : ∀ (v : List (List Key × V)) (s : List (D × Sl)) (fp : List Addr), OwT K cl G H v s fp → (∀ a ∈ fp, ∀ u, H a = some u → G' a = some u) → ∀ x, frzK s = some x → RpT K cl G' v x
  | _, _, _, .nil, _, x, e => by
    cases e
    exact .nil
  | _, _, _, .cons a b n, k, y, q => by
    obtain ⟨x, z, h1, h2, rfl⟩ := frzK_cons q
    exact .cons (Ow.rp h _ _ _ a (fun a m => k a (by simp [m])) x h1) (OwT.rp h _ _ _ b (fun a m => k a (by simp [m])) z h2)
end
/-- as it stands in H -/
theorem Ow.here {v : V} {s : Sl} {fp : List Addr} {x : D} (r : Ow K cl G H v s fp) (h : LeR G H) (e : s.frz = some x) : Rp K cl H v x := Ow.rp h _ _ _ r (fun a _ u q => q) x e
theorem RpL.length : ∀ {v : List V} {x : List D}, RpL K cl G v x → v.length = x.length
  | _, _, .nil => rfl
  | _, _, .cons _ b => by rw [List.length_cons, List.length_cons, RpL.length b]
theorem OwL.length : ∀ {v : List V} {x : List Sl} {fp : List Addr}, OwL K cl G H v x fp → v.length = x.length
  | _, _, _, .nil => rfl
  | _, _, _, .cons _ b _ => by rw [List.length_cons, List.length_cons, OwL.length b]
theorem RpL.get : ∀ {v : List V} {x : List D} {i : Nat} {d : D}, RpL K cl G v x → x[i]? = some d → ∃ u, v[i]? = some u ∧ Rp K cl G u d
  | _, _, i, _, .nil, e => by simp at e
  | _, _, 0, _, .cons a b, e => by
    simp at e
    subst e
    exact ⟨_, rfl, a⟩
  | _, _, i + 1, d, .cons a b, e => by
    obtain ⟨u, h1, h2⟩ := RpL.get (i := i) (d := d) b (by simpa using e)
    exact ⟨u, by simpa using h1, h2⟩
theorem RpL.get' : ∀ {v : List V} {x : List D} {i : Nat} {u : V}, RpL K cl G v x → v[i]? = some u → ∃ d, x[i]? = some d ∧ Rp K cl G u d
  | _, _, i, _, .nil, e => by simp at e
  | _, _, 0, _, .cons a b, e => by
    simp at e
    subst e
    exact ⟨_, rfl, a⟩
  | _, _, i + 1, d, .cons a b, e => by
    obtain ⟨u, h1, h2⟩ := RpL.get' (i := i) (u := d) b (by simpa using e)
    exact ⟨u, by simpa using h1, h2⟩
theorem RpL.append : ∀ {v w : List V} {x y : List D}, RpL K cl G v x → RpL K cl G w y → RpL K cl G (v ++ w) (x ++ y)
  | _, _, _, _, .nil, b => b
  | _, _, _, _, .cons a r, b => .cons a (RpL.append r b)
theorem RpL.take : ∀ {v : List V} {x : List D} (n : Nat), RpL K cl G v x → RpL K cl G (v.take n) (x.take n)
  | _, _, 0, _ => .nil
  | _, _, _ + 1, .nil => .nil
  | _, _, n + 1, .cons a b => .cons a (RpL.take n b)
theorem RpL.drop : ∀ {v : List V} {x : List D} (n : Nat), RpL K cl G v x → RpL K cl G (v.drop n) (x.drop n)
  | _, _, 0, h => h
  | _, _, _ + 1, .nil => .nil
  | _, _, n + 1, .cons _ b => RpL.drop n b
theorem RpL.ol : ∀ {v : List V} {x : List D}, RpL K cl G v x → OwL K cl G H v (x.map Sl.d) []
  | _, _, .nil => .nil
  | _, _, .cons a b => OwL.cons (fp := []) (fq := []) (.d a) (RpL.ol b) (fun _ m => nomatch m)
end
end Vl

/-! VlB: slots, the state's relation, what a text's piece computes on data. -/
namespace Vl
open PySem L2

structure Exn where
  cls : Str
  arg : Option Int
inductive R (α : Type) where
  | st | ok (a : α) | ex (e : Exn)
def R.bind {α β : Type} : R α → (α → R β) → R β
  | .st, _ => .st
  | .ok a, f => f a
  | .ex e, _ => .ex e
instance : Monad R where
  pure := .ok
  bind := R.bind
@[simp] theorem R.ok_bind {α β : Type} (a : α) (f : α → R β) : (R.ok a >>= f) = f a := rfl
@[simp] theorem R.st_bind {α β : Type} (f : α → R β) : (R.st >>= f) = R.st := rfl
@[simp] theorem R.ex_bind {α β : Type} (e : Exn) (f : α → R β) : (R.ex e >>= f) = R.ex e := rfl
@[simp] theorem R.pure_eq {α : Type} (a : α) : (pure a : R α) = R.ok a := rfl
def R.of {α : Type} : Option α → R α
  | some a => .ok a
  | none => .st
@[simp] theorem R.of_some {α : Type} (a : α) : R.of (some a) = .ok a := rfl
@[simp] theorem R.of_none {α : Type} : R.of (none : Option α) = .st := rfl
def R.guard (b : Bool) : R Unit := if b then .ok () else .st
@[simp] theorem R.guard_true : R.guard true = .ok () := rfl
@[simp] theorem R.guard_false : R.guard false = .st := rfl

abbrev Env := List (Option Sl)

section
variable (K : PySem.W.Frag) (cl : Str → Addr)
inductive SlR (G H : Hp) : List (Option V) → Env → List Addr → Prop
  | nil : SlR G H [] [] []
  | no {v : Option V} {σ : List (Option V)} {ρ : Env} {fp : List Addr} : SlR G H σ ρ fp → SlR G H (v :: σ) (none :: ρ) fp
  | so {v : V} {s : Sl} {σ : List (Option V)} {ρ : Env} {fp fq : List Addr} : Ow K cl G H v s fp → SlR G H σ ρ fq → (∀ a ∈ fp, a ∉ fq) → SlR G H (some v :: σ) (some s :: ρ) (fp ++ fq)
end
section
variable {K : PySem.W.Frag} {cl : Str → Addr} {G G' H H' : Hp}
theorem SlR.length : ∀ {σ : List (Option V)} {ρ : Env} {fp : List Addr}, SlR K cl G H σ ρ fp → σ.length = ρ.length
  | _, _, _, .nil => rfl
  | _, _, _, .no b => by rw [List.length_cons, List.length_cons, SlR.length b]
  | _, _, _, .so _ b _ => by rw [List.length_cons, List.length_cons, SlR.length b]
theorem SlR.fr (h : LeR G G') : ∀ {σ : List (Option V)} {ρ : Env} {fp : List Addr}, SlR K cl G H σ ρ fp → (∀ a ∈ fp, ∀ o, H a = some o → H' a = some o) → SlR K cl G' H' σ ρ fp
  | _, _, _, .nil, _ => .nil
  | _, _, _, .no b, k => .no (SlR.fr h b k)
  | _, _, _, .so a b n, k => .so (Ow.fr h _ _ _ a fun x m => k x (by simp [m])) (SlR.fr h b fun x m => k x (by simp [m])) n
theorem SlR.dom : ∀ {σ : List (Option V)} {ρ : Env} {fp : List Addr}, SlR K cl G H σ ρ fp → ∀ a ∈ fp, ∃ o, H a = some o
  | _, _, _, .nil => fun a m => nomatch m
  | _, _, _, .no b => SlR.dom b
  | _, _, _, .so x b n => fun a m => (List.mem_append.mp m).elim (Ow.dom _ _ _ x a) (SlR.dom b a)
/-- slot i by itself, all others -/
theorem SlR.at : ∀ {σ : List (Option V)} {ρ : Env} {fps : List Addr} {i : Nat} {s : Sl}, SlR K cl G H σ ρ fps → ρ[i]? = some (some s) →
    ∃ v fp fr, σ[i]? = some (some v) ∧ Ow K cl G H v s fp ∧ (∀ a ∈ fp, a ∈ fps) ∧ (∀ a ∈ fr, a ∈ fps) ∧ (∀ a ∈ fp, a ∉ fr) ∧
      (∀ v' s' fp' G' H', LeR G G' → (∀ a ∈ fr, ∀ o, H a = some o → H' a = some o) → Ow K cl G' H' v' s' fp' → (∀ a ∈ fp', a ∉ fr) →
        ∃ fq, SlR K cl G' H' (σ.set i (some v')) (ρ.set i (some s')) fq ∧ ∀ a ∈ fq, a ∈ fp' ∨ a ∈ fr) ∧
      (∀ G' H', LeR G G' → (∀ a ∈ fr, ∀ o, H a = some o → H' a = some o) → SlR K cl G' H' σ (ρ.set i none) fr)
  | _, _, _, i, _, .nil, e => by simp at e
  | _, _, _, 0, _, .no b, e => by simp at e
  | _, _, _, 0, _, .so (fp := fp) (fq := fq) a b n, e => by
    simp at e
    subst e
    refine ⟨_, fp, fq, rfl, a, fun x m => by simp [m], fun x m => by simp [m], n, fun v' s' fp' G' H' hg hk ow hd => ?_, fun G' H' hg hk => .no (SlR.fr hg b hk)⟩
    exact ⟨fp' ++ fq, .so ow (SlR.fr hg b hk) hd, fun x m => List.mem_append.mp m⟩
  | _, _, _, i + 1, s, .no b, e => by
    obtain ⟨v, fp, fr, h1, h2, h3, h4, h5, h6, h7⟩ := SlR.at (i := i) (s := s) b (by simpa using e)
    refine ⟨v, fp, fr, by simpa using h1, h2, h3, h4, h5, fun v' s' fp' G' H' hg hk ow hd => ?_, fun G' H' hg hk => .no (h7 G' H' hg hk)⟩
    obtain ⟨fq, q1, q2⟩ := h6 v' s' fp' G' H' hg hk ow hd
    exact ⟨fq, .no q1, q2⟩
  | _, _, _, i + 1, s, .so (fp := fp0) (fq := fq0) a b n, e => by
    obtain ⟨v, fp, fr, h1, h2, h3, h4, h5, h6, h7⟩ := SlR.at (i := i) (s := s) b (by simpa using e)
    refine ⟨v, fp, fp0 ++ fr, by simpa using h1, h2, fun x m => by simp [h3 x m], fun x m => ?_, fun x m m' => ?_, fun v' s' fp' G' H' hg hk ow hd => ?_, fun G' H' hg hk => ?_⟩
    · rcases List.mem_append.mp m with m | m
      · simp [m]
      · simp [h4 x m]
    · rcases List.mem_append.mp m' with m' | m'
      · exact n x m' (h3 x m)
      · exact h5 x m m'
    · obtain ⟨fq, q1, q2⟩ := h6 v' s' fp' G' H' hg (fun x m => hk x (by simp [m])) ow (fun x m m' => hd x m (by simp [m']))
      refine ⟨fp0 ++ fq, .so (Ow.fr hg _ _ _ a fun x m => hk x (by simp [m])) q1 (fun x m m' => ?_), fun x m => ?_⟩
      · rcases q2 x m' with z | z
        · exact hd x z (by simp [m])
        · exact n x m (h4 x z)
      · rcases List.mem_append.mp m with m | m
        · exact .inr (by simp [m])
        · rcases q2 x m with z | z
          · exact .inl z
          · exact .inr (by simp [z])
    · exact .so (Ow.fr hg _ _ _ a fun x m => hk x (by simp [m])) (h7 G' H' hg fun x m => hk x (by simp [m])) fun x m m' => n x m (h4 x m')
/-- any slot is given a value -/
theorem SlR.put : ∀ {σ : List (Option V)} {ρ : Env} {fps : List Addr} {i : Nat} {v : V} {s : Sl} {fp : List Addr}, SlR K cl G H σ ρ fps → i < σ.length → Ow K cl G H v s fp → (∀ a ∈ fp, a ∉ fps) →
    ∃ fq, SlR K cl G H (σ.set i (some v)) (ρ.set i (some s)) fq ∧ ∀ a ∈ fq, a ∈ fp ∨ a ∈ fps
  | _, _, _, i, _, _, _, .nil, h, _, _ => by simp at h
  | _, _, _, 0, v, s, fp, .no (fp := f0) b, h, ow, n => ⟨fp ++ f0, .so ow b n, fun x m => List.mem_append.mp m⟩
  | _, _, _, 0, v, s, fp, .so (fp := f0) (fq := f1) a b n0, h, ow, n =>
    ⟨fp ++ f1, .so ow b (fun x m m' => n x m (by simp [m'])), fun x m => (List.mem_append.mp m).elim .inl fun z => .inr (by simp [z])⟩
  | _, _, _, i + 1, v, s, fp, .no (fp := f0) b, h, ow, n => by
    obtain ⟨fq, q1, q2⟩ := SlR.put (i := i) b (by simpa using h) ow n
    exact ⟨fq, .no q1, q2⟩
  | _, _, _, i + 1, v, s, fp, .so (fp := f0) (fq := f1) a b n0, h, ow, n => by
    obtain ⟨fq, q1, q2⟩ := SlR.put (i := i) b (by simpa using h) ow (fun x m m' => n x m (by simp [m']))
    refine ⟨f0 ++ fq, .so a q1 (fun x m m' => ?_), fun x m => ?_⟩
    · rcases q2 x m' with z | z
      · exact n x z (by simp [m])
      · exact n0 x m z
    · rcases List.mem_append.mp m with m | m
      · exact .inr (by simp [m])
      · rcases q2 x m with z | z
        · exact .inl z
        · exact .inr (by simp [z])
/-- a slot is let go -/
theorem SlR.cut : ∀ {σ : List (Option V)} {ρ : Env} {fps : List Addr} (i : Nat) (w : Option V), SlR K cl G H σ ρ fps → ∃ fq, SlR K cl G H (σ.set i w) (ρ.set i none) fq ∧ ∀ a ∈ fq, a ∈ fps
  | _, _, _, i, w, .nil => ⟨[], .nil, fun _ m => nomatch m⟩
  | _, _, _, 0, w, .no b => ⟨_, .no b, fun _ m => m⟩
  | _, _, _, 0, w, .so a b n => ⟨_, .no b, fun _ m => by simp [m]⟩
  | _, _, _, i + 1, w, .no b => by
    obtain ⟨fq, q1, q2⟩ := SlR.cut i w b
    exact ⟨fq, .no q1, q2⟩
  | _, _, _, i + 1, w, .so (fp := f0) a b n => by
    obtain ⟨fq, q1, q2⟩ := SlR.cut i w b
    exact ⟨f0 ++ fq, .so a q1 (fun x m m' => n x m (q2 x m')), fun x m => (List.mem_append.mp m).elim (fun z => by simp [z]) fun z => by simp [q2 x z]⟩
end

/-! ### the state -/
/-- what a def found: its heap, what of it is data, what is locked now -/
structure Base where
  H0 : Hp
  G0 : Hp
  L : List Addr
structure Rel (K : PySem.W.Frag) (cl : Str → Addr) (B : Base) (G : Hp) (ρ : Env) (σ : L2.St) (H : Hp) : Prop where
  gh : LeR G H
  h0 : ∀ a o, B.H0 a = some o → H a = some o ∨ (a ∈ B.L ∧ ∃ od, H a = some (.frz od o))
  g0 : Same B.G0 G
  gn : ∀ a o, G a = some o → B.G0 a = some o ∨ B.H0 a = none
  sl : ∃ fp, SlR K cl G H σ ρ fp ∧ ∀ a ∈ fp, G a = none ∧ B.H0 a = none
/-- the heap grows -/
structure Ext (G H G' H' : Hp) : Prop where
  hh : Same H H'
  gg : Same G G'
  gh : LeR G' H'
  nw : ∀ a o, G' a = some o → G a = some o ∨ H a = none
theorem Ext.refl {G H : Hp} (h : LeR G H) : Ext G H G H := ⟨Same.refl _, Same.refl _, h, fun _ _ e => .inl e⟩
theorem none_of_same {H H' : Hp} (h : Same H H') {a : Addr} (e : H' a = none) : H a = none := h.free e
theorem Ext.trans {G H G1 H1 G2 H2 : Hp} (a : Ext G H G1 H1) (b : Ext G1 H1 G2 H2) : Ext G H G2 H2 :=
  ⟨a.hh.trans b.hh, a.gg.trans b.gg, b.gh, fun x o e => (b.nw x o e).elim (fun z => a.nw x o z) fun z => .inr (none_of_same a.hh z)⟩
theorem Ext.g_none {G H G' H' : Hp} (x : Ext G H G' H') {a : Addr} (h1 : G a = none) (h2 : ∃ o, H a = some o) : G' a = none := by
  cases e : G' a with
  | none => rfl
  | some o =>
    obtain ⟨u, h2⟩ := h2
    rcases x.nw a o e with z | z
    · rw [h1] at z; cases z
    · rw [h2] at z; cases z
theorem Rel.h0n {K : PySem.W.Frag} {cl : Str → Addr} {B : Base} {G : Hp} {ρ : Env} {σ : L2.St} {H : Hp} (r : Rel K cl B G ρ σ H) {a : Addr} (h : H a = none) : B.H0 a = none := by
  cases e : B.H0 a with
  | none => rfl
  | some o =>
    rcases r.h0 a o e with z | ⟨_, od, z⟩
    · rw [h] at z; cases z
    · rw [h] at z; cases z
theorem Rel.ext {K : PySem.W.Frag} {cl : Str → Addr} {B : Base} {G G' : Hp} {ρ : Env} {σ : L2.St} {H H' : Hp} (r : Rel K cl B G ρ σ H) (x : Ext G H G' H') : Rel K cl B G' ρ σ H' := by
  obtain ⟨fp, s, n⟩ := r.sl
  refine ⟨x.gh, fun a o e => ?_, r.g0.trans x.gg, fun a o e => ?_, fp, s.fr (sameR x.gg) (fun a _ o e => x.hh a o e), fun a m => ⟨x.g_none (n a m).1 (s.dom a m), (n a m).2⟩⟩
  · rcases r.h0 a o e with z | ⟨l, od, z⟩
    · exact .inl (x.hh _ _ z)
    · exact .inr ⟨l, od, x.hh _ _ z⟩
  · rcases x.nw a o e with z | z
    · exact r.gn a o z
    · exact .inr (r.h0n z)

/-! ### values on the way -/
inductive Val where
  | d (x : D) | o (s : Sl) | b (s : Sl)
def Val.dat : Val → Option D
  | .d x => some x
  | .o s => s.frz
  | .b s => s.frz
/-- data, a new tree, a tree that some slot holds -/
def VR (K : PySem.W.Frag) (cl : Str → Addr) (G H : Hp) (v : V) (Hs : Hp) : Val → Prop
  | .d x => Rp K cl G v x
  | .o s => ∃ fp, Ow K cl G H v s fp ∧ ∀ a ∈ fp, Hs a = none ∧ G a = none
  | .b s => ∃ fp, Ow K cl G H v s fp ∧ ∀ a ∈ fp, G a = none
section
variable {K : PySem.W.Frag} {cl : Str → Addr} {G G' H H' Hs Ht : Hp} {v : V} {x : Val}
theorem VR.ext (r : VR K cl G H v Hs x) (e : Ext G H G' H') : VR K cl G' H' v Hs x := by
  cases x with
  | d y => exact Rp.mono (sameR e.gg) _ _ r
  | o s =>
    obtain ⟨fp, w, n⟩ := r
    exact ⟨fp, Ow.fr (sameR e.gg) _ _ _ w (fun a _ o q => e.hh a o q), fun a m => ⟨(n a m).1, e.g_none (n a m).2 (Ow.dom _ _ _ w a m)⟩⟩
  | b s =>
    obtain ⟨fp, w, n⟩ := r
    exact ⟨fp, Ow.fr (sameR e.gg) _ _ _ w (fun a _ o q => e.hh a o q), fun a m => e.g_none (n a m) (Ow.dom _ _ _ w a m)⟩
theorem VR.start (r : VR K cl G H v Hs x) (e : Same Ht Hs) : VR K cl G H v Ht x := by
  cases x with
  | d y => exact r
  | o s =>
    obtain ⟨fp, w, n⟩ := r
    exact ⟨fp, w, fun a m => ⟨none_of_same e (n a m).1, (n a m).2⟩⟩
  | b s => exact r
theorem VR.rp {y : D} (r : VR K cl G H v Hs x) (h : LeR G H) (e : x.dat = some y) : Rp K cl H v y := by
  cases x with
  | d z =>
    cases e
    exact Rp.mono h _ _ r
  | o s =>
    obtain ⟨fp, w, n⟩ := r
    exact w.here h e
  | b s =>
    obtain ⟨fp, w, n⟩ := r
    exact w.here h e
/-- a new tree is let go as data -/
theorem VR.freeze {G0 : Hp} {s : Sl} {y : D} (e : Ext G0 Hs G H) (r : VR K cl G H v Hs (.o s)) (q : s.frz = some y) : ∃ G', Ext G0 Hs G' H ∧ Same G G' ∧ Rp K cl G' v y := by
  obtain ⟨fp, w, n⟩ := r
  have sg : Same G (fun a => if a ∈ fp then H a else G a) := fun a o h => by
    show (if a ∈ fp then H a else G a) = some o
    by_cases m : a ∈ fp
    · rw [(n a m).2] at h
      cases h
    · rw [if_neg m]
      exact h
  refine ⟨fun a => if a ∈ fp then H a else G a, ⟨e.hh, e.gg.trans sg, fun a o h => ?_, fun a o h => ?_⟩, sg, ?_⟩
  · have h : (if a ∈ fp then H a else G a) = some o := h
    by_cases m : a ∈ fp
    · rw [if_pos m] at h
      exact .inl h
    · rw [if_neg m] at h
      exact e.gh a o h
  · have h : (if a ∈ fp then H a else G a) = some o := h
    by_cases m : a ∈ fp
    · exact .inr (n a m).1
    · rw [if_neg m] at h
      exact e.nw a o h
  · exact Ow.rp (sameR sg) _ _ _ w (fun a m u h => by show (if a ∈ fp then H a else G a) = some u; rw [if_pos m]; exact h) y q
end

/-! ### what a piece computes -/
/-- what is wanted of an exception: its class, its own dict, the slots, the heap -/
abbrev XW := Value → Option Addr → L2.St → Hp → Prop
def W0 : XW := fun _ _ _ _ => False
def exD (e : Exn) : List (Str × V) := match e.arg with
  | none => [("word", .str e.cls)]
  | some i => [("word", .str e.cls), ("at", .int i)]
def ExR (cl : Str → Addr) (e : Exn) (c : Value) (d : Option Addr) (H : Hp) : Prop := c = .ref (cl e.cls) ∧ ∃ a, d = some a ∧ H a = some (.xd (exD e))
def FinG {α : Type} (post : α → Prop) (bad : Exn → Prop) : R α → Prop
  | .st => False
  | .ok x => post x
  | .ex e => bad e
section
variable (K : PySem.W.Frag) (cl : Str → Addr) (W : XW)
def postE (G H : Hp) (Q : VK) : Val → Prop := fun x => ∀ v H' G', Ext G H G' H' → VR K cl G' H' v H x → Q v H'
def postT (G H : Hp) (Q : Bool → Hp → Prop) : Bool → Prop := fun b => ∀ H' G', Ext G H G' H' → Q b H'
def postA (G H : Hp) (Q : List V → Hp → Prop) : List D → Prop := fun xs => ∀ vs H' G', Ext G H G' H' → RpL K cl G' vs xs → Q vs H'
def bad (G H : Hp) (σ : L2.St) : Exn → Prop := fun e => ∀ c d H' G', Ext G H G' H' → ExR cl e c d H' → W c d σ H'
def tE (f : Env → R Val) : TE := fun σ H Q => ∃ ρ G B, Rel K cl B G ρ σ H ∧ FinG (postE K cl G H Q) (bad cl W G H σ) (f ρ)
def tT (f : Env → R Bool) : TT := fun σ H Q => ∃ ρ G B, Rel K cl B G ρ σ H ∧ FinG (postT G H Q) (bad cl W G H σ) (f ρ)
def tA (f : Env → R (List D)) : TA := fun σ H Q => ∃ ρ G B, Rel K cl B G ρ σ H ∧ FinG (postA K cl G H Q) (bad cl W G H σ) (f ρ)
end
theorem PE.imp {X : Cx} {e : Expr} {t t' : TE} (h : PE X e t) (hi : ∀ σ H Q, t' σ H Q → t σ H Q) : PE X e t' := ⟨fun pins s σ H Q I q => h.run pins s σ H Q I (hi σ H Q q)⟩
theorem PT.imp {X : Cx} {e : Expr} {t t' : TT} (h : PT X e t) (hi : ∀ σ H Q, t' σ H Q → t σ H Q) : PT X e t' := ⟨fun pins s σ H Q I q => h.run pins s σ H Q I (hi σ H Q q)⟩
theorem PA.imp {X : Cx} {e : List Expr} {t t' : TA} (h : PA X e t) (hi : ∀ σ H Q, t' σ H Q → t σ H Q) : PA X e t' := ⟨fun pos pins s σ H Q I q => h.run pos pins s σ H Q I (hi σ H Q q)⟩
theorem PS.imp {X : Cx} {e : Stmt} {t t' : TS} (h : PS X e t) (hi : ∀ D σ H, t' D σ H → t D σ H) : PS X e t' := ⟨fun pins s σ H D I q => h.run pins s σ H D I (hi D σ H q)⟩
theorem PSs.imp {X : Cx} {e : List Stmt} {t t' : TS} (h : PSs X e t) (hi : ∀ D σ H, t' D σ H → t D σ H) : PSs X e t' := ⟨fun pins s σ H D I q => h.run pins s σ H D I (hi D σ H q)⟩

section
variable {K : PySem.W.Frag} {cl : Str → Addr} {W : XW} {B : Base} {G0 G H0 H : Hp} {ρ : Env} {σ : L2.St}
theorem bad_mono {e : Exn} (x : Ext G0 H0 G H) (h : bad cl W G0 H0 σ e) : bad cl W G H σ e := fun c d H' G' y r => h c d H' G' (x.trans y) r
theorem tE_mono {f : Env → R Val} {Q Q' : VK} (h : tE K cl W f σ H Q) (hq : ∀ v H', Q v H' → Q' v H') : tE K cl W f σ H Q' := by
  obtain ⟨ρ, G, B, r, h⟩ := h
  refine ⟨ρ, G, B, r, ?_⟩
  cases e : f ρ with
  | st => rw [e] at h; exact h
  | ok x => rw [e] at h; exact fun v H' G' a b => hq _ _ (h v H' G' a b)
  | ex x => rw [e] at h; exact h
theorem tT_mono {f : Env → R Bool} {Q Q' : Bool → Hp → Prop} (h : tT K cl W f σ H Q) (hq : ∀ v H', Q v H' → Q' v H') : tT K cl W f σ H Q' := by
  obtain ⟨ρ, G, B, r, h⟩ := h
  refine ⟨ρ, G, B, r, ?_⟩
  cases e : f ρ with
  | st => rw [e] at h; exact h
  | ok x => rw [e] at h; exact fun H' G' a => hq _ _ (h H' G' a)
  | ex x => rw [e] at h; exact h
theorem tA_mono {f : Env → R (List D)} {Q Q' : List V → Hp → Prop} (h : tA K cl W f σ H Q) (hq : ∀ v H', Q v H' → Q' v H') : tA K cl W f σ H Q' := by
  obtain ⟨ρ, G, B, r, h⟩ := h
  refine ⟨ρ, G, B, r, ?_⟩
  cases e : f ρ with
  | st => rw [e] at h; exact h
  | ok x => rw [e] at h; exact fun v H' G' a b => hq _ _ (h v H' G' a b)
  | ex x => rw [e] at h; exact h
/-- from the middle of a piece: its next part, then the rest -/
theorem tE_run {β : Type} {g : Env → R Val} {k : Val → R β} {post : β → Prop} (r : Rel K cl B G0 ρ σ H0) (x : Ext G0 H0 G H) (h : FinG post (bad cl W G0 H0 σ) (g ρ >>= k)) :
    tE K cl W g σ H (fun w H2 => ∃ y G2, Ext G0 H0 G2 H2 ∧ Ext G H G2 H2 ∧ VR K cl G2 H2 w H y ∧ g ρ = .ok y ∧ FinG post (bad cl W G0 H0 σ) (k y)) := by
  refine ⟨ρ, G, B, r.ext x, ?_⟩
  cases e : g ρ with
  | st => rw [e] at h; exact h
  | ok y => rw [e] at h; exact fun v H' G' a b => ⟨y, G', x.trans a, a, b, rfl, h⟩
  | ex z => rw [e] at h; exact bad_mono x h
theorem tT_run {β : Type} {g : Env → R Bool} {k : Bool → R β} {post : β → Prop} (r : Rel K cl B G0 ρ σ H0) (x : Ext G0 H0 G H) (h : FinG post (bad cl W G0 H0 σ) (g ρ >>= k)) :
    tT K cl W g σ H (fun b H2 => ∃ G2, Ext G0 H0 G2 H2 ∧ Ext G H G2 H2 ∧ g ρ = .ok b ∧ FinG post (bad cl W G0 H0 σ) (k b)) := by
  refine ⟨ρ, G, B, r.ext x, ?_⟩
  cases e : g ρ with
  | st => rw [e] at h; exact h
  | ok y => rw [e] at h; exact fun H' G' a => ⟨G', x.trans a, a, rfl, h⟩
  | ex z => rw [e] at h; exact bad_mono x h
theorem tA_run {β : Type} {g : Env → R (List D)} {k : List D → R β} {post : β → Prop} (r : Rel K cl B G0 ρ σ H0) (x : Ext G0 H0 G H) (h : FinG post (bad cl W G0 H0 σ) (g ρ >>= k)) :
    tA K cl W g σ H (fun w H2 => ∃ y G2, Ext G0 H0 G2 H2 ∧ Ext G H G2 H2 ∧ RpL K cl G2 w y ∧ g ρ = .ok y ∧ FinG post (bad cl W G0 H0 σ) (k y)) := by
  refine ⟨ρ, G, B, r.ext x, ?_⟩
  cases e : g ρ with
  | st => rw [e] at h; exact h
  | ok y => rw [e] at h; exact fun v H' G' a b => ⟨y, G', x.trans a, a, b, rfl, h⟩
  | ex z => rw [e] at h; exact bad_mono x h
/-- .. with one answer more to give -/
theorem tE_runE {g : Env → R Val} {k : Val → R Val} {Q : VK} {G0' : Hp} {s : Hp} (r : Rel K cl B G0 ρ σ H0) (x : Ext G0 H0 G H) (h : FinG (postE K cl G0 H0 Q) (bad cl W G0 H0 σ) (g ρ >>= k)) :
    tE K cl W g σ H (fun w H2 => ∃ y G2, Ext G0 H0 G2 H2 ∧ Ext G H G2 H2 ∧ VR K cl G2 H2 w H y ∧ g ρ = .ok y ∧ FinG (postE K cl G0 H0 Q) (bad cl W G0 H0 σ) (k y)) := tE_run r x h
end
/-- a new tree at the end is let go as data -/
def Val.fz : Val → R D
  | .d x => .ok x
  | .o s => R.of s.frz
  | .b _ => .st

/-- e computes f -/
abbrev VE (X : Cx) (cl : Str → Addr) (W : XW) (e : Expr) (f : Env → R Val) : Prop := PE X e (tE X.K cl W f)
abbrev VT (X : Cx) (cl : Str → Addr) (W : XW) (e : Expr) (f : Env → R Bool) : Prop := PT X e (tT X.K cl W f)
abbrev VA (X : Cx) (cl : Str → Addr) (W : XW) (es : List Expr) (f : Env → R (List D)) : Prop := PA X es (tA X.K cl W f)
end Vl

/-! VlC: expressions on data. -/
namespace Vl
open PySem L2

section
variable {K : PySem.W.Frag} {cl : Str → Addr} {G G' H H' Hs : Hp} {v : V}
/-! ### reading a value -/
theorem Rp.int_ {i : Int} (h : Rp K cl G v (.int i)) : v = .int i := by cases h; rfl
theorem Rp.bl_ {b : Bool} (h : Rp K cl G v (.bl b)) : v = .bl b := by cases h; rfl
theorem Rp.str_ {x : Str} (h : Rp K cl G v (.str x)) : v = .str x := by cases h; rfl
theorem Rp.non_ (h : Rp K cl G v .non) : v = .non := by cases h; rfl
theorem Rp.lst_ {l : List D} (h : Rp K cl G v (.lst l)) : ∃ a xs, v = .ref a ∧ G a = some (.lst xs) ∧ RpL K cl G xs l := by
  cases h with
  | lst s r => exact ⟨_, _, rfl, s, r⟩
theorem Rp.tup_ {l : List D} (h : Rp K cl G v (.tup l)) : ∃ a xs, v = .ref a ∧ SqT K G a xs ∧ RpL K cl G xs l := by
  cases h with
  | tup s r => exact ⟨_, _, rfl, s, r⟩
def allD : List Sl → Option (List D)
  | [] => some []
  | .d x :: r => (allD r).map (x :: ·)
  | _ :: _ => none
theorem allD_map : ∀ l : List D, allD (l.map Sl.d) = some l
  | [] => rfl
  | x :: r => by
    show (allD (r.map Sl.d)).map (x :: ·) = some (x :: r)
    rw [allD_map r]
    rfl
theorem OwL.allD : ∀ {xs : List V} {ss : List Sl} {fp : List Addr} {l : List D}, OwL K cl G H xs ss fp → Vl.allD ss = some l → RpL K cl G xs l
  | _, _, _, l, .nil, e => by
    cases e
    exact .nil
  | _, _, _, l, .cons (s := s) a b n, e => by
    cases s with
    | d x =>
      have e' : (Vl.allD _).map (x :: ·) = some l := e
      rw [Option.map_eq_some_iff] at e'
      obtain ⟨y, e', rfl⟩ := e'
      cases a with
      | d r => exact .cons r (OwL.allD b e')
    | _ => cases e
theorem OwL.get : ∀ {xs : List V} {ss : List Sl} {fp : List Addr} {i : Nat} {s : Sl}, OwL K cl G H xs ss fp → ss[i]? = some s → ∃ v fq, xs[i]? = some v ∧ Ow K cl G H v s fq ∧ ∀ a ∈ fq, a ∈ fp
  | _, _, _, i, _, .nil, e => by simp at e
  | _, _, _, 0, _, .cons a b n, e => by
    simp at e
    subst e
    exact ⟨_, _, rfl, a, fun x m => by simp [m]⟩
  | _, _, _, i + 1, s, .cons a b n, e => by
    obtain ⟨v, fq, h1, h2, h3⟩ := OwL.get (i := i) (s := s) b (by simpa using e)
    exact ⟨v, fq, by simpa using h1, h2, fun x m => by simp [h3 x m]⟩
/-- a list's items, if all are data -/
def Val.items : Val → Option (List D)
  | .d (.lst l) => some l
  | .o (.ol ss) => allD ss
  | .b (.ol ss) => allD ss
  | _ => none
theorem VR.items {x : Val} {l : List D} (r : VR K cl G H v Hs x) (h : LeR G H) (e : x.items = some l) : ∃ a xs, v = .ref a ∧ H a = some (.lst xs) ∧ RpL K cl G xs l := by
  cases x with
  | d y =>
    cases y with
    | lst l' =>
      cases e
      obtain ⟨a, xs, e1, e2, e3⟩ := Rp.lst_ (show Rp K cl G v (.lst l) from r)
      exact ⟨a, xs, e1, h.ls e2, e3⟩
    | _ => cases e
  | o s =>
    cases s with
    | ol ss =>
      obtain ⟨fp, w, n⟩ := r
      cases w with
      | ol q r n => exact ⟨_, _, rfl, q, OwL.allD r e⟩
    | _ => cases e
  | b s =>
    cases s with
    | ol ss =>
      obtain ⟨fp, w, n⟩ := r
      cases w with
      | ol q r n => exact ⟨_, _, rfl, q, OwL.allD r e⟩
    | _ => cases e
end

/-! ### rules for pieces -/
section
variable {X : Cx} {cl : Str → Addr} {W : XW} {e a b c : Expr} {f g h : Env → R Val} {t u : Env → R Bool} {pos : Pos}
def eC (x : D) : Env → R Val := fun _ => .ok (.d x)
theorem ve_c {v : V} {x : D} (h : PE X e (tC v)) (hr : ∀ G, Rp X.K cl G v x) : VE X cl W e (eC x) := PE.imp h fun σ H Q ⟨ρ, G, B, r, q⟩ => q v H G (Ext.refl r.gh) (hr G)
theorem ve_int {i : Int} {j : Nat} {pos : Pos} : VE X cl W (.Constant (.int i) j pos) (eC (.int i)) := ve_c pe_int fun _ => .int i
theorem ve_bl {i : Bool} {j : Nat} {pos : Pos} : VE X cl W (.Constant (.bool i) j pos) (eC (.bl i)) := ve_c pe_bl fun _ => .bl i
theorem ve_non {j : Nat} {pos : Pos} : VE X cl W (.Constant .none j pos) (eC .non) := ve_c pe_non fun _ => .non
theorem ve_str {x : Str} {j : Nat} {pos : Pos} : VE X cl W (.Constant (.str x) j pos) (eC (.str x)) := ve_c pe_str fun _ => .str x
def eV (i : Nat) : Env → R Val := fun ρ => match ρ[i]? with
  | some (some (.d x)) => .ok (.d x)
  | some (some s) => .ok (.b s)
  | _ => .st
theorem ve_var {i : Nat} (h : PE X e (tVar i)) : VE X cl W e (eV i) := PE.imp h fun σ H Q ⟨ρ, G, B, r, q⟩ => by
  unfold eV at q
  cases q1 : ρ[i]? with
  | none => rw [q1] at q; exact q.elim
  | some o =>
    cases o with
    | none => rw [q1] at q; exact q.elim
    | some s =>
      obtain ⟨fp, sl, n⟩ := r.sl
      obtain ⟨v, f1, f2, hv, ow, m1, _⟩ := sl.at q1
      rw [q1] at q
      refine ⟨v, hv, ?_⟩
      cases s with
      | d x =>
        refine q v H G (Ext.refl r.gh) ?_
        cases ow with
        | d z => exact z
      | _ => exact q v H G (Ext.refl r.gh) ⟨_, ow, fun a m => (n a (m1 a m)).1⟩

/-- an operation on two values -/
def OpS (K : PySem.W.Frag) (cl : Str → Addr) (r : R2) (op : Val → Val → Option Val) : Prop := ∀ (x y z : Val) (v w : V) (Hx Hy G H : Hp) (Q : VK), op x y = some z → LeR G H → VR K cl G H v Hx x → VR K cl G H w Hy y →
  (∀ u H' G', Ext G H G' H' → VR K cl G' H' u H z → Q u H') → r v w H Q
def e2 (op : Val → Val → Option Val) (f g : Env → R Val) : Env → R Val := fun ρ => f ρ >>= fun x => g ρ >>= fun y => R.of (op x y)
theorem fin_of {α : Type} {p : α → Prop} {q : Exn → Prop} {o : Option α} (h : FinG p q (R.of o)) : ∃ z, o = some z ∧ p z := by
  cases o with
  | none => exact h.elim
  | some z => exact ⟨z, rfl, h⟩
theorem ve_op2 {r : R2} {op : Val → Val → Option Val} (h : PE X e (tOp r (tE X.K cl W f) (tE X.K cl W g))) (o : OpS X.K cl r op) : VE X cl W e (e2 op f g) := PE.imp h fun σ H Q ⟨ρ, G, B, rl, q⟩ =>
  tE_mono (tE_run rl (Ext.refl rl.gh) q) fun v H1 ⟨x, G1, x1, _, v1, _, q⟩ => tE_mono (tE_run rl x1 q) fun w H2 ⟨y, G2, x2, x12, v2, _, q⟩ => by
    obtain ⟨z, ez, q⟩ := fin_of q
    exact o x y z v w H H1 G2 H2 Q ez x2.gh (v1.ext x12) v2 fun u H' G' x' r' => q u H' G' (x2.trans x') (r'.start x2.hh)
def oI (c : Int → Int → Bool) (k : Int → Int → D) : Val → Val → Option Val := fun x y => match x.dat, y.dat with
  | some (.int i), some (.int j) => if c i j then some (.d (k i j)) else none
  | _, _ => none
theorem oI_some {c : Int → Int → Bool} {k : Int → Int → D} {x y z : Val} (h : oI c k x y = some z) : ∃ i j, x.dat = some (.int i) ∧ y.dat = some (.int j) ∧ c i j = true ∧ z = .d (k i j) := by
  unfold oI at h
  split at h
  · rename_i i j h1 h2
    split at h
    · exact ⟨i, j, h1, h2, by assumption, (Option.some.inj h).symm⟩
    · cases h
  · cases h
/-- ints in, an int or a bool out -/
theorem opS_int {K : PySem.W.Frag} {c : Int → Int → Bool} {k : Int → Int → D} {r : R2} {kv : Int → Int → V} (hk : ∀ G i j, Rp K cl G (kv i j) (k i j)) (hr : ∀ i j H Q, c i j = true → Q (kv i j) H → r (.int i) (.int j) H Q) : OpS K cl r (oI c k) :=
  fun x y z v w Hx Hy G H Q e l r1 r2 q => by
    obtain ⟨i, j, h1, h2, h3, rfl⟩ := oI_some e
    have e1 := Rp.int_ (r1.rp l h1)
    have e2 := Rp.int_ (r2.rp l h2)
    subst e1 e2
    exact hr i j H Q h3 (q _ H G (Ext.refl l) (hk G i j))
def cT : Int → Int → Bool := fun _ _ => true
def cMul : Int → Int → Bool := fun i j => decide (i.natAbs < 2 ^ 64) || decide (j.natAbs < 2 ^ 64) || decide (i.natAbs.log2 + j.natAbs.log2 < 1000000)
def cDiv : Int → Int → Bool := fun _ j => decide (0 < j) && (decide (j < 1073741824) || decide (j.natAbs.log2 < 9000))
def cMod : Int → Int → Bool := fun _ j => decide (0 < j)
def cPow : Int → Int → Bool := fun i j => decide (0 ≤ j) && decide (j ≤ 1000000) && decide (i.natAbs < 2 ^ 64)
def iAdd : Val → Val → Option Val := oI cT fun i j => .int (i + j)
def iSub : Val → Val → Option Val := oI cT fun i j => .int (i - j)
def iMul : Val → Val → Option Val := oI cMul fun i j => .int (i * j)
def iDiv : Val → Val → Option Val := oI cDiv fun i j => .int (i / j)
def iMod : Val → Val → Option Val := oI cMod fun i j => .int (i % j)
def iPow : Val → Val → Option Val := oI cPow fun i j => .int (i ^ j.toNat)
def iLt : Val → Val → Option Val := oI cT fun i j => .bl (decide (i < j))
def iLe : Val → Val → Option Val := oI cT fun i j => .bl (decide (i ≤ j))
def iGt : Val → Val → Option Val := oI cT fun i j => .bl (decide (j < i))
def iGe : Val → Val → Option Val := oI cT fun i j => .bl (decide (j ≤ i))
theorem ve_add (ha : VE X cl W a f) (hb : VE X cl W b g) : VE X cl W (.BinOp a .Add b pos) (e2 iAdd f g) := ve_op2 (pe_op op_add ha hb) (opS_int (kv := fun i j => .int (i + j)) (fun _ _ _ => .int _) fun i j H Q _ q => ⟨i, j, rfl, rfl, q⟩)
theorem ve_sub (ha : VE X cl W a f) (hb : VE X cl W b g) : VE X cl W (.BinOp a .Sub b pos) (e2 iSub f g) := ve_op2 (pe_op op_sub ha hb) (opS_int (kv := fun i j => .int (i - j)) (fun _ _ _ => .int _) fun i j H Q _ q => ⟨i, j, rfl, rfl, q⟩)
theorem ve_mod (ha : VE X cl W a f) (hb : VE X cl W b g) : VE X cl W (.BinOp a .Mod b pos) (e2 iMod f g) := ve_op2 (pe_op op_mod ha hb) (opS_int (kv := fun i j => .int (i % j)) (fun _ _ _ => .int _) fun i j H Q c q => ⟨i, j, rfl, rfl, of_decide_eq_true c, q⟩)
theorem ve_pow (ha : VE X cl W a f) (hb : VE X cl W b g) : VE X cl W (.BinOp a .Pow b pos) (e2 iPow f g) := ve_op2 (pe_op op_pow ha hb) (opS_int (kv := fun i j => .int (i ^ j.toNat)) (fun _ _ _ => .int _) fun i j H Q c q => by
  unfold cPow at c
  simp only [Bool.and_eq_true, decide_eq_true_eq] at c
  exact ⟨i, j, rfl, rfl, ⟨c.1.1, c.1.2, c.2⟩, q⟩)
theorem ve_mul (ha : VE X cl W a f) (hb : VE X cl W b g) : VE X cl W (.BinOp a .Mult b pos) (e2 iMul f g) := ve_op2 (pe_op (op_mul.or op_mulW) ha hb) (opS_int (kv := fun i j => .int (i * j)) (fun _ _ _ => .int _) fun i j H Q c q => by
  unfold cMul at c
  simp only [Bool.or_eq_true, decide_eq_true_eq] at c
  rcases c with (c | c) | c
  · exact .inl ⟨i, j, rfl, rfl, .inl ⟨by omega, by omega⟩, q⟩
  · exact .inl ⟨i, j, rfl, rfl, .inr ⟨by omega, by omega⟩, q⟩
  · exact .inr ⟨i, j, rfl, rfl, c, q⟩)
theorem ve_div (ha : VE X cl W a f) (hb : VE X cl W b g) : VE X cl W (.BinOp a .FloorDiv b pos) (e2 iDiv f g) := ve_op2 (pe_op (op_fdiv.or op_fdivW) ha hb) (opS_int (kv := fun i j => .int (i / j)) (fun _ _ _ => .int _) fun i j H Q c q => by
  unfold cDiv at c
  simp only [Bool.and_eq_true, Bool.or_eq_true, decide_eq_true_eq] at c
  rcases c with ⟨c, c2 | c2⟩
  · exact .inl ⟨i, j, rfl, rfl, ⟨c, c2⟩, q⟩
  · exact .inr ⟨i, j, rfl, rfl, ⟨c, c2⟩, q⟩)
end

/-! ### comparisons: rules by operator; as values, tests, chains -/
structure OpC (X : Cx) (cl : Str → Addr) (o : CmpOp) (op : Val → Val → Option Val) : Prop where
  ex : ∃ r, OpR X (compareOp o) r ∧ OpS X.K cl r op
section
variable {X : Cx} {cl : Str → Addr} {W : XW} {e a b c : Expr} {f g h : Env → R Val} {t u : Env → R Bool} {pos : Pos} {o o' : CmpOp} {op op' : Val → Val → Option Val}
theorem oc_lt : OpC X cl .Lt iLt := ⟨_, op_lt, opS_int (kv := fun i j => .bl (decide (i < j))) (fun _ _ _ => .bl _) fun i j H Q _ q => ⟨i, j, rfl, rfl, q⟩⟩
theorem oc_le : OpC X cl .LtE iLe := ⟨_, op_le, opS_int (kv := fun i j => .bl (decide (i ≤ j))) (fun _ _ _ => .bl _) fun i j H Q _ q => ⟨i, j, rfl, rfl, q⟩⟩
theorem oc_gt : OpC X cl .Gt iGt := ⟨_, op_gt, opS_int (kv := fun i j => .bl (decide (j < i))) (fun _ _ _ => .bl _) fun i j H Q _ q => ⟨i, j, rfl, rfl, q⟩⟩
theorem oc_ge : OpC X cl .GtE iGe := ⟨_, op_ge, opS_int (kv := fun i j => .bl (decide (j ≤ i))) (fun _ _ _ => .bl _) fun i j H Q _ q => ⟨i, j, rfl, rfl, q⟩⟩
theorem ve_cmp (hc : OpC X cl o op) (ha : VE X cl W a f) (hb : VE X cl W b g) (hm : behindInMarks o b = false) : VE X cl W (.Compare a [o] [b] pos) (e2 op f g) := by
  obtain ⟨r, h1, h2⟩ := hc.ex
  exact ve_op2 (pe_cmpR h1 ha hb hm) h2
/-- a value as a test -/
def isB : Val → Option Bool
  | .d (.bl b) => some b
  | _ => none
def tV (f : Env → R Val) : Env → R Bool := fun ρ => f ρ >>= fun x => R.of (isB x)
theorem isB_some {x : Val} {b : Bool} (h : isB x = some b) : x = .d (.bl b) := by
  unfold isB at h
  split at h
  · cases h
    rfl
  · cases h
theorem tTest_of {σ : L2.St} {H : Hp} {Q : Bool → Hp → Prop} (h : tT X.K cl W (tV f) σ H Q) : tTest (tE X.K cl W f) σ H Q := by
  obtain ⟨ρ, G, B, r, h⟩ := h
  refine tE_mono (tE_run r (Ext.refl r.gh) h) fun v H1 ⟨x, G1, x1, _, v1, _, q⟩ => ?_
  obtain ⟨z, ez, q⟩ := fin_of q
  have e := isB_some ez
  subst e
  exact ⟨z, Rp.bl_ v1, q H1 G1 x1⟩
theorem vt_cmp (hc : OpC X cl o op) (ha : VE X cl W a f) (hb : VE X cl W b g) (hm : behindInMarks o b = false) : VT X cl W (.Compare a [o] [b] pos) (tV (e2 op f g)) := by
  obtain ⟨r, h1, h2⟩ := hc.ex
  refine PT.imp (pt_cmpR h1 ha hb hm) fun σ H Q q => ?_
  obtain ⟨ρ, G, B, rl, q⟩ := q
  have q : FinG (postT G H Q) (bad cl W G H σ) ((f ρ >>= fun x => g ρ >>= fun y => R.of (op x y)) >>= fun x => R.of (isB x)) := q
  have q : FinG (postT G H Q) (bad cl W G H σ) (f ρ >>= fun x => (g ρ >>= fun y => R.of (op x y)) >>= fun x => R.of (isB x)) := by
    cases e : f ρ <;> rw [e] at q <;> exact q
  refine tE_mono (tE_run rl (Ext.refl rl.gh) q) fun v H1 ⟨x, G1, x1, _, v1, _, q⟩ => ?_
  have q : FinG (postT G H Q) (bad cl W G H σ) (g ρ >>= fun y => R.of (op x y) >>= fun x => R.of (isB x)) := by
    cases e : g ρ <;> rw [e] at q <;> exact q
  refine tE_mono (tE_run rl x1 q) fun w H2 ⟨y, G2, x2, x12, v2, _, q⟩ => ?_
  cases ez : op x y with
  | none => rw [ez] at q; exact q.elim
  | some z =>
    rw [ez] at q
    obtain ⟨k, ek, q⟩ := fin_of (o := isB z) q
    have e := isB_some ek
    subst e
    exact h2 x y _ v w H H1 G2 H2 _ ez x2.gh (v1.ext x12) v2 fun u H' G' x' r' => ⟨k, Rp.bl_ r', q H' G' (x2.trans x')⟩
/-- any expression as a test, by its truth -/
def truB : Val → Option Bool := fun x => match x.dat with
  | some (.bl b) => some b
  | some .non => some false
  | some (.int i) => some (i != 0)
  | some (.str s) => if s.length ≤ sizeLine then some ((s.length : Int) != 0) else none
  | some (.lst l) => some (!l.isEmpty)
  | some (.tup l) => some (!l.isEmpty)
  | _ => none
def tU (f : Env → R Val) : Env → R Bool := fun ρ => f ρ >>= fun x => R.of (truB x)
theorem isE_of {xs : List V} {l : List D} {K : PySem.W.Frag} {G : Hp} (r : RpL K cl G xs l) : xs.isEmpty = l.isEmpty := by cases r <;> rfl
theorem vt_truth (ha : VE X cl W a f) (he : ∀ whole, isTrue a X.env whole = (do let v ← whole; standAt a.pos; holding [v] (truthy v)) := by intro _; rfl) : VT X cl W a (tU f) := by
  refine PT.imp (pt_truth ha he) fun σ H Q q => ?_
  obtain ⟨ρ, G, B, rl, q⟩ := q
  refine tE_mono (tE_run rl (Ext.refl rl.gh) q) fun v H1 ⟨x, G1, x1, _, v1, _, q⟩ => ?_
  obtain ⟨k, ek, q⟩ := fin_of q
  refine ⟨k, ?_, q H1 G1 x1⟩
  unfold truB at ek
  split at ek
  · rename_i b hd
    cases ek
    rw [Rp.bl_ (v1.rp x1.gh hd)]
    rfl
  · rename_i hd
    cases ek
    rw [Rp.non_ (v1.rp x1.gh hd)]
    rfl
  · rename_i i hd
    cases ek
    rw [Rp.int_ (v1.rp x1.gh hd)]
    rfl
  · rename_i s hd
    rw [Rp.str_ (v1.rp x1.gh hd)]
    split at ek
    · cases ek
      exact ⟨by assumption, rfl⟩
    · cases ek
  · rename_i l hd
    cases ek
    obtain ⟨p, xs, rfl, h1, h2⟩ := Rp.lst_ (v1.rp x1.gh hd)
    exact .inl ⟨xs, .inl (.inl h1), by rw [isE_of h2]⟩
  · rename_i l hd
    cases ek
    obtain ⟨p, xs, rfl, h1, h2⟩ := Rp.tup_ (v1.rp x1.gh hd)
    exact .inr (.inl ⟨xs, h1, by rw [isE_of h2]⟩)
  · cases ek
/-! ### and, or, not, if -/
def tAn (t u : Env → R Bool) : Env → R Bool := fun ρ => t ρ >>= fun b => if b then u ρ else .ok false
def tOrr (t u : Env → R Bool) : Env → R Bool := fun ρ => t ρ >>= fun b => if b then .ok true else u ρ
def tNo (t : Env → R Bool) : Env → R Bool := fun ρ => t ρ >>= fun b => .ok (!b)
theorem PW.imp {X : Cx} {e : Expr} {t t' : TT} (h : PW X e t) (hi : ∀ σ H Q, t' σ H Q → t σ H Q) : PW X e t' := ⟨fun wh pins s σ H Q I q => h.run wh pins s σ H Q I (hi σ H Q q)⟩
abbrev VW (X : Cx) (cl : Str → Addr) (W : XW) (e : Expr) (f : Env → R Bool) : Prop := PW X e (tT X.K cl W f)
variable {rest : List Expr}
theorem vw_and1 (ha : VT X cl W a t) : VW X cl W (.BoolOp .And [a] pos) t := pw_and1 ha
theorem vw_or1 (ha : VT X cl W a t) : VW X cl W (.BoolOp .Or [a] pos) t := pw_or1 ha
theorem tT_at {ρ : Env} {G0 H0 G H : Hp} {B : Base} {K : PySem.W.Frag} {σ : L2.St} {Q : Bool → Hp → Prop} (r : Rel K cl B G0 ρ σ H0) (x : Ext G0 H0 G H) (h : FinG (postT G0 H0 Q) (bad cl W G0 H0 σ) (t ρ)) : tT K cl W t σ H Q := by
  refine ⟨ρ, G, B, r.ext x, ?_⟩
  cases e : t ρ with
  | st => rw [e] at h; exact h
  | ok b => rw [e] at h; exact fun H' G' y => h H' G' (x.trans y)
  | ex z => rw [e] at h; exact bad_mono x h
theorem tE_at {ρ : Env} {G0 H0 G H : Hp} {B : Base} {K : PySem.W.Frag} {σ : L2.St} {Q : VK} (r : Rel K cl B G0 ρ σ H0) (x : Ext G0 H0 G H) (h : FinG (postE K cl G0 H0 Q) (bad cl W G0 H0 σ) (f ρ)) : tE K cl W f σ H Q := by
  refine ⟨ρ, G, B, r.ext x, ?_⟩
  cases e : f ρ with
  | st => rw [e] at h; exact h
  | ok b => rw [e] at h; exact fun v H' G' y z => h v H' G' (x.trans y) (z.start x.hh)
  | ex z => rw [e] at h; exact bad_mono x h
theorem vw_and (ha : VT X cl W a t) (hb : VW X cl W (.BoolOp .And (b :: rest) pos) u) : VW X cl W (.BoolOp .And (a :: b :: rest) pos) (tAn t u) := PW.imp (pw_and ha hb) fun σ H Q q => by
  obtain ⟨ρ, G, B, rl, q⟩ := q
  refine tT_mono (tT_run rl (Ext.refl rl.gh) q) fun k H1 ⟨G1, x1, _, _, q⟩ => ?_
  cases k with
  | true => rw [if_pos rfl]; exact tT_at rl x1 q
  | false => rw [if_neg Bool.false_ne_true]; exact q H1 G1 x1
theorem vw_or (ha : VT X cl W a t) (hb : VW X cl W (.BoolOp .Or (b :: rest) pos) u) : VW X cl W (.BoolOp .Or (a :: b :: rest) pos) (tOrr t u) := PW.imp (pw_or ha hb) fun σ H Q q => by
  obtain ⟨ρ, G, B, rl, q⟩ := q
  refine tT_mono (tT_run rl (Ext.refl rl.gh) q) fun k H1 ⟨G1, x1, _, _, q⟩ => ?_
  cases k with
  | true => rw [if_pos rfl]; exact q H1 G1 x1
  | false => rw [if_neg Bool.false_ne_true]; exact tT_at rl x1 q
theorem vt_not (ha : VT X cl W a t) : VT X cl W (.UnaryOp .Not a pos) (tNo t) := PT.imp (pt_not ha) fun σ H Q q => by
  obtain ⟨ρ, G, B, rl, q⟩ := q
  exact tT_mono (tT_run rl (Ext.refl rl.gh) q) fun k H1 ⟨G1, x1, _, _, q⟩ => q H1 G1 x1
/-- .. as values -/
def eAn (f g : Env → R Val) : Env → R Val := fun ρ => f ρ >>= fun x => match isB x with
  | some true => g ρ
  | some false => .ok (.d (.bl false))
  | none => .st
def eOr (f g : Env → R Val) : Env → R Val := fun ρ => f ρ >>= fun x => match isB x with
  | some true => .ok (.d (.bl true))
  | some false => g ρ
  | none => .st
def eNo (f : Env → R Val) : Env → R Val := fun ρ => f ρ >>= fun x => R.of ((isB x).map fun b => .d (.bl (!b)))
theorem ve_one {op : BoolOp} (ha : VE X cl W a f) : VE X cl W (.BoolOp op [a] pos) f := pe_one ha
theorem ve_and (ha : VE X cl W a f) (hb : VE X cl W (.BoolOp .And (b :: rest) pos) g) : VE X cl W (.BoolOp .And (a :: b :: rest) pos) (eAn f g) := PE.imp (pe_and ha hb) fun σ H Q q => by
  obtain ⟨ρ, G, B, rl, q⟩ := q
  refine tE_mono (tE_run rl (Ext.refl rl.gh) q) fun v H1 ⟨x, G1, x1, _, v1, _, q⟩ => ?_
  cases ek : isB x with
  | none => rw [ek] at q; exact q.elim
  | some k =>
    have e := isB_some ek
    subst e
    refine ⟨k, Rp.bl_ v1, ?_⟩
    cases k with
    | true => rw [if_pos rfl]; exact tE_at rl x1 q
    | false => rw [if_neg Bool.false_ne_true]; exact q _ H1 G1 x1 (Rp.bl false)
theorem ve_or (ha : VE X cl W a f) (hb : VE X cl W (.BoolOp .Or (b :: rest) pos) g) : VE X cl W (.BoolOp .Or (a :: b :: rest) pos) (eOr f g) := PE.imp (pe_or ha hb) fun σ H Q q => by
  obtain ⟨ρ, G, B, rl, q⟩ := q
  refine tE_mono (tE_run rl (Ext.refl rl.gh) q) fun v H1 ⟨x, G1, x1, _, v1, _, q⟩ => ?_
  cases ek : isB x with
  | none => rw [ek] at q; exact q.elim
  | some k =>
    have e := isB_some ek
    subst e
    refine ⟨k, Rp.bl_ v1, ?_⟩
    cases k with
    | true => rw [if_pos rfl]; exact q _ H1 G1 x1 (Rp.bl true)
    | false => rw [if_neg Bool.false_ne_true]; exact tE_at rl x1 q
theorem ve_not (ha : VE X cl W a f) : VE X cl W (.UnaryOp .Not a pos) (eNo f) := PE.imp (pe_not ha) fun σ H Q q => by
  obtain ⟨ρ, G, B, rl, q⟩ := q
  refine tE_mono (tE_run rl (Ext.refl rl.gh) q) fun v H1 ⟨x, G1, x1, _, v1, _, q⟩ => ?_
  obtain ⟨z, ez, q⟩ := fin_of q
  rw [Option.map_eq_some_iff] at ez
  obtain ⟨k, ek, rfl⟩ := ez
  have e := isB_some ek
  subst e
  exact ⟨k, Rp.bl_ v1, q _ H1 G1 x1 (Rp.bl _)⟩
def eIf (t : Env → R Bool) (f g : Env → R Val) : Env → R Val := fun ρ => t ρ >>= fun b => if b then f ρ else g ρ
theorem ve_if (hc : VT X cl W c t) (ha : VE X cl W a f) (hb : VE X cl W b g) : VE X cl W (.IfExp c a b pos) (eIf t f g) := PE.imp (pe_ifExp hc ha hb) fun σ H Q q => by
  obtain ⟨ρ, G, B, rl, q⟩ := q
  refine tT_mono (tT_run rl (Ext.refl rl.gh) q) fun k H1 ⟨G1, x1, _, _, q⟩ => ?_
  cases k with
  | true => rw [if_pos rfl]; exact tE_at rl x1 q
  | false => rw [if_neg Bool.false_ne_true]; exact tE_at rl x1 q
/-- a op b op' c -/
def eCh (op op' : Val → Val → Option Val) (f g h : Env → R Val) : Env → R Val := fun ρ => f ρ >>= fun x => g ρ >>= fun y => R.of (op x y) >>= fun z => match isB z with
  | some true => h ρ >>= fun w => R.of (op' y w)
  | some false => .ok (.d (.bl false))
  | none => .st
theorem tChain_of {r r' : R2} (h1 : OpS X.K cl r op) (h2 : OpS X.K cl r' op') {σ : L2.St} {H : Hp} {Q : VK} (q : tE X.K cl W (eCh op op' f g h) σ H Q) : tChain r r' (tE X.K cl W f) (tE X.K cl W g) (tE X.K cl W h) σ H Q := by
  obtain ⟨ρ, G, B, rl, q⟩ := q
  refine tE_mono (tE_run rl (Ext.refl rl.gh) q) fun v H1 ⟨x, G1, x1, _, v1, _, q⟩ => tE_mono (tE_run rl x1 q) fun w H2 ⟨y, G2, x2, x12, v2, _, q⟩ => ?_
  cases ez : op x y with
  | none => rw [ez] at q; exact q.elim
  | some z =>
    rw [ez] at q
    have q : FinG (postE X.K cl G H Q) (bad cl W G H σ) (match isB z with | some true => h ρ >>= fun w => R.of (op' y w) | some false => .ok (.d (.bl false)) | none => .st) := q
    cases ek : isB z with
    | none => rw [ek] at q; exact q.elim
    | some k =>
      rw [ek] at q
      have e := isB_some ek
      subst e
      refine h1 x y _ v w H H1 G2 H2 _ ez x2.gh (v1.ext x12) v2 fun u H3 G3 x3 r3 => ⟨k, Rp.bl_ r3, ?_⟩
      cases k with
      | true =>
        rw [if_pos rfl]
        refine tE_mono (tE_run rl (x2.trans x3) q) fun s H4 ⟨y4, G4, x4, x34, v4, _, q⟩ => ?_
        obtain ⟨z4, ez4, q⟩ := fin_of q
        exact h2 y y4 z4 w s H1 H3 G4 H4 Q ez4 x4.gh ((v2.ext x3).ext x34) v4 fun u H' G' x' r' => q u H' G' (x4.trans x') (r'.start x4.hh)
      | false =>
        rw [if_neg Bool.false_ne_true]
        exact q _ H3 G3 (x2.trans x3) (Rp.bl false)
theorem ve_chain (hc : OpC X cl o op) (hc' : OpC X cl o' op') (ha : VE X cl W a f) (hb : VE X cl W b g) (hd : VE X cl W c h) (hm : lastMarks [o, o'] [b, c] = false := by with_unfolding_all rfl) : VE X cl W (.Compare a [o, o'] [b, c] pos) (eCh op op' f g h) := by
  obtain ⟨r, h1, h2⟩ := hc.ex
  obtain ⟨r', h3, h4⟩ := hc'.ex
  exact PE.imp (pe_chain h1 h3 ha hb hd hm) fun σ H Q q => tChain_of h2 h4 q
theorem vt_chain (hc : OpC X cl o op) (hc' : OpC X cl o' op') (ha : VE X cl W a f) (hb : VE X cl W b g) (hd : VE X cl W c h) (hm : lastMarks [o, o'] [b, c] = false := by with_unfolding_all rfl) : VT X cl W (.Compare a [o, o'] [b, c] pos) (tV (eCh op op' f g h)) := by
  obtain ⟨r, h1, h2⟩ := hc.ex
  obtain ⟨r', h3, h4⟩ := hc'.ex
  exact PT.imp (pt_chain h1 h3 ha hb hd hm) fun σ H Q q => tChain_of h2 h4 (tTest_of q)
end
end Vl

/-! VlD: displays, ==, in, places, slices, built-ins. -/
namespace Vl
open PySem L2 PySem.Spec

/-! ### data as the library's data -/
mutual
def D.py : D → PyData
  | .non => .none
  | .bl b => .bool b
  | .int i => .int i
  | .str x => .str x
  | .tup l => .tuple (pyL l)
  | .lst l => .list (pyL l)
  | .dct _ => .dict []
  | .fn _ => .dict []
  | .scr l => .list (l.map .int)
def pyL : List D → List PyData
  | [] => []
  | x :: r => x.py :: pyL r
end
mutual
/-- no bool, no dict within -/
def D.pl : D → Bool
  | .non => true
  | .int _ => true
  | .str x => x.cps.all (· < 0x110000)
  | .tup l => plL l
  | .lst l => plL l
  | _ => false
def plL : List D → Bool
  | [] => true
  | x :: r => x.pl && plL r
end
mutual
def D.dep : D → Nat
  | .tup l => depL l + 1
  | .lst l => depL l + 1
  | _ => 0
def depL : List D → Nat
  | [] => 0
  | x :: r => max x.dep (depL r)
end
mutual
/-- equal data -/
def D.same : D → D → Bool
  | .non, .non => true
  | .int i, .int j => decide (i = j)
  | .str x, .str y => decide (x = y)
  | .bl x, .bl y => decide (x = y)
  | .tup l, .tup k => sameL l k
  | .lst l, .lst k => sameL l k
  | _, _ => false
def sameL : List D → List D → Bool
  | [], [] => true
  | x :: r, y :: t => x.same y && sameL r t
  | _, _ => false
end
mutual
theorem same_iff : ∀ x y : D, x.pl = true → (x.same y = true ↔ x = y)
  | .non, y, _ => by cases y <;> simp [D.same]
  | .int i, y, _ => by cases y <;> simp [D.same]
  | .str i, y, _ => by cases y <;> simp [D.same]
  | .bl i, y, h => by cases h
  | .dct i, y, h => by cases h
  | .fn i, y, h => by cases h
  | .scr i, y, h => by cases h
  | .tup l, y, h => by
    have h : plL l = true := h
    cases y with
    | tup k =>
      show sameL l k = true ↔ _
      rw [sameL_iff l k h]
      exact ⟨fun e => by rw [e], fun e => by injection e⟩
    | _ => simp [D.same]
  | .lst l, y, h => by
    have h : plL l = true := h
    cases y with
    | lst k =>
      show sameL l k = true ↔ _
      rw [sameL_iff l k h]
      exact ⟨fun e => by rw [e], fun e => by injection e⟩
    | _ => simp [D.same]
theorem sameL_iff : ∀ x y : List D, plL x = true → (sameL x y = true ↔ x = y)
  | [], [], _ => by simp [sameL]
  | [], _ :: _, _ => by simp [sameL]
  | _ :: _, [], _ => by simp [sameL]
  | x :: r, y :: t, h => by
    have h : x.pl = true ∧ plL r = true := by simpa [plL] using h
    simp only [sameL, Bool.and_eq_true, same_iff x y h.1, sameL_iff r t h.2, List.cons.injEq]
end
theorem same_dec {x y : D} [Decidable (x = y)] (h : x.pl = true) : x.same y = decide (x = y) := by
  rw [Bool.eq_iff_iff, decide_eq_true_eq]
  exact same_iff x y h
mutual
theorem py_lay : ∀ x : D, x.pl = true → x.py.canLay0 = true
  | .non, _ => rfl
  | .int i, _ => rfl
  | .str i, h => h
  | .bl i, h => by cases h
  | .dct i, h => by cases h
  | .fn i, h => by cases h
  | .scr i, h => by cases h
  | .tup l, h => pyL_lay l h
  | .lst l, h => pyL_lay l h
theorem pyL_lay : ∀ x : List D, plL x = true → PyData.canLayAll0 (pyL x) = true
  | [], _ => rfl
  | x :: r, h => by
    have h : x.pl = true ∧ plL r = true := by simpa [plL] using h
    show (x.py.canLay0 && PyData.canLayAll0 (pyL r)) = true
    rw [py_lay x h.1, pyL_lay r h.2]
    rfl
end
mutual
theorem py_dep : ∀ x : D, x.pl = true → x.py.depth = x.dep
  | .non, _ => rfl
  | .int i, _ => rfl
  | .str i, h => rfl
  | .bl i, h => by cases h
  | .dct i, h => by cases h
  | .fn i, h => by cases h
  | .scr i, h => by cases h
  | .tup l, h => congrArg (· + 1) (pyL_dep l h)
  | .lst l, h => congrArg (· + 1) (pyL_dep l h)
theorem pyL_dep : ∀ x : List D, plL x = true → PyData.depthAll (pyL x) = depL x
  | [], _ => rfl
  | x :: r, h => by
    have h : x.pl = true ∧ plL r = true := by simpa [plL] using h
    show max x.py.depth (PyData.depthAll (pyL r)) = max x.dep (depL r)
    rw [py_dep x h.1, pyL_dep r h.2]
end
mutual
theorem py_eqv : ∀ x y : D, x.pl = true → y.pl = true → PyData.eqv x.py y.py = x.same y
  | .non, y, _, h => by cases y <;> first | rfl | cases h
  | .int i, y, _, h => by
    cases y <;> first | cases h; done | rfl | skip
  | .str i, y, _, h => by
    cases y <;> first | cases h; done | rfl | skip
  | .bl i, y, h, _ => by cases h
  | .dct i, y, h, _ => by cases h
  | .fn i, y, h, _ => by cases h
  | .scr i, y, h, _ => by cases h
  | .tup l, y, h, h2 => by
    cases y with
    | tup k => exact pyL_eqv l k h h2
    | bl _ => cases h2
    | dct _ => cases h2
    | fn _ => cases h2
    | scr _ => cases h2
    | _ => rfl
  | .lst l, y, h, h2 => by
    cases y with
    | lst k => exact pyL_eqv l k h h2
    | bl _ => cases h2
    | dct _ => cases h2
    | fn _ => cases h2
    | scr _ => cases h2
    | _ => rfl
theorem pyL_eqv : ∀ x y : List D, plL x = true → plL y = true → PyData.eqvAll (pyL x) (pyL y) = sameL x y
  | [], [], _, _ => rfl
  | [], _ :: _, _, _ => rfl
  | _ :: _, [], _, _ => rfl
  | x :: r, y :: t, h, h2 => by
    have h : x.pl = true ∧ plL r = true := by simpa [plL] using h
    have h2 : y.pl = true ∧ plL t = true := by simpa [plL] using h2
    show (PyData.eqv x.py y.py && PyData.eqvAll (pyL r) (pyL t)) = (x.same y && sameL r t)
    rw [py_eqv x y h.1 h2.1, pyL_eqv r t h.2 h2.2]
end
section
variable {K : PySem.W.Frag} {cl : Str → Addr} {G G' H H' Hs G0 H0 : Hp} {v : V}
mutual
theorem Rp.dp : ∀ (v : V) (x : D), Rp K cl H v x → x.pl = true → Dp K H v x.py
  | _, _, .non, _ => .non
  | _, _, .bl b, h => by cases h
  | _, _, .int i, _ => .int i
  | _, _, .str x, _ => .str x
  | _, _, .lst s r, h => .lst (.inl (.inl s)) (RpL.dp _ _ r h)
  | _, _, .tup s r, h => .tup s (RpL.dp _ _ r h)
  | _, _, .dk s r, h => by cases h
  | _, _, .dt s r, h => by cases h
  | _, _, .fn n, h => by cases h
  | _, _, .scr n, h => by cases h
theorem RpL.dp : ∀ (v : List V) (x : List D), RpL K cl H v x → plL x = true → DpAll K H v (pyL x)
  | _, _, .nil, _ => .nil
  | _, _, .cons (d := d) (ds := ds) a b, h => by
    have h : d.pl = true ∧ plL ds = true := by simpa [plL] using h
    exact .cons (Rp.dp _ _ a h.1) (RpL.dp _ _ b h.2)
end
theorem shaped_of {x : D} (h : x.pl = true) (hd : x.dep ≤ 64) : SeqAt.shaped x.py = true := by
  unfold SeqAt.shaped
  rw [py_lay x h, py_dep x h, decide_eq_true hd]
  rfl
/-- a value's end as data -/
theorem VR.fz {x : Val} {y : D} (e : Ext G0 Hs G H) (r : VR K cl G H v Hs x) (q : x.fz = .ok y) : ∃ G', Ext G0 Hs G' H ∧ Same G G' ∧ Rp K cl G' v y := by
  cases x with
  | d z =>
    cases q
    exact ⟨G, e, Same.refl _, r⟩
  | o s =>
    have q : R.of s.frz = .ok y := q
    cases es : s.frz with
    | none => rw [es] at q; cases q
    | some z =>
      rw [es] at q
      cases q
      exact r.freeze e es
  | b s => cases q
/-- a new object of data -/
theorem Ext.new {p : Addr} {o : HO} (e : Ext G0 H0 G H) (h : H p = none) : Ext G0 H0 (upd G p o) (upd H p o) := by
  have hg : G p = none := by
    cases q : G p with
    | none => rfl
    | some u =>
      rcases e.gh p u q with z | ⟨_, od, z⟩
      · rw [h] at z; cases z
      · rw [h] at z; cases z
  refine ⟨fun a u q => ?_, fun a u q => ?_, fun a u q => ?_, fun a u q => ?_⟩
  · have z := e.hh a u q
    rw [upd_ne (ne_of_none z h)]
    exact z
  · have z := e.gg a u q
    rw [upd_ne (ne_of_none z hg)]
    exact z
  · by_cases ha : a = p
    · subst ha
      rw [upd_same] at q ⊢
      exact .inl q
    · rw [upd_ne ha] at q ⊢
      exact e.gh a u q
  · by_cases ha : a = p
    · subst ha
      exact .inr (none_of_same e.hh h)
    · rw [upd_ne ha] at q
      exact e.nw a u q
/-- a new object of one's own -/
theorem Ext.own {p : Addr} {o : HO} (e : Ext G0 H0 G H) (h : H p = none) : Ext G0 H0 G (upd H p o) := by
  refine ⟨fun a u q => ?_, e.gg, fun a u q => ?_, e.nw⟩
  · have z := e.hh a u q
    rw [upd_ne (ne_of_none z h)]
    exact z
  · rcases e.gh a u q with z | ⟨k, od, z⟩
    · rw [upd_ne (ne_of_none z h)]
      exact .inl z
    · rw [upd_ne (ne_of_none z h)]
      exact .inr ⟨k, od, z⟩
theorem Ext.gnone (e : Ext G0 H0 G H) {a : Addr} (h : H a = none) : G a = none := by
  cases q : G a with
  | none => rfl
  | some u =>
    rcases e.gh a u q with z | ⟨_, od, z⟩
    · rw [h] at z; cases z
    · rw [h] at z; cases z
theorem sameUpd {p : Addr} {o : HO} (h : G p = none) : Same G (upd G p o) := fun a u q => by
  rw [upd_ne (ne_of_none q h)]
  exact q
/-- a new list as a new tree -/
theorem vr_new {p : Addr} {xs : List V} {l : List D} (e : Ext G0 H0 G H) (h : H p = none) (r : RpL K cl G xs l) : VR K cl G (upd H p (.lst xs)) (.ref p) H0 (.o (.ol (l.map Sl.d))) :=
  ⟨[p], .ol upd_same r.ol (fun m => nomatch m), fun a m => by
    have ea : a = p := by simpa using m
    subst ea
    exact ⟨none_of_same e.hh h, e.gnone h⟩⟩
theorem rp_tup {p : Addr} {xs : List V} {l : List D} (e : Ext G0 H0 G H) (h : H p = none) (r : RpL K cl G xs l) : Rp K cl (upd G p (.tup xs)) (.ref p) (.tup l) :=
  .tup (.inl (.inl upd_same)) (RpL.mono (sameR (sameUpd (e.gnone h))) _ _ r)
end

/-! ### lists of arguments, displays -/
section
variable {X : Cx} {cl : Str → Addr} {W : XW} {e a b c : Expr} {es : List Expr} {f g h : Env → R Val} {fs : Env → R (List D)} {pos : Pos}
def aN : Env → R (List D) := fun _ => .ok []
def aC (f : Env → R Val) (fs : Env → R (List D)) : Env → R (List D) := fun ρ => f ρ >>= fun x => x.fz >>= fun y => fs ρ >>= fun ys => .ok (y :: ys)
theorem va_nil : VA X cl W [] aN := PA.imp pa_nil fun σ H Q ⟨ρ, G, B, r, q⟩ => q [] H G (Ext.refl r.gh) .nil
theorem va_cons (ha : VE X cl W e f) (hr : VA X cl W es fs) (hs : starEach (e :: es) X.env = (false, eval e X.env) :: starEach es X.env := by rfl) : VA X cl W (e :: es) (aC f fs) := PA.imp (pa_cons ha hr hs) fun σ H Q ⟨ρ, G, B, rl, q⟩ =>
  tE_mono (tE_run rl (Ext.refl rl.gh) q) fun v H1 ⟨x, G1, _, x1, v1, _, q⟩ => by
    cases ex : x.fz with
    | st => rw [ex] at q; exact q.elim
    | ex z =>
      cases x with
      | d y => cases ex
      | b y => cases ex
      | o s =>
        have ex : R.of s.frz = .ex z := ex
        cases es : s.frz <;> rw [es] at ex <;> cases ex
    | ok y =>
      rw [ex] at q
      obtain ⟨G2, x2, _, rp⟩ := v1.fz x1 ex
      exact tA_mono (tA_run rl x2 q) fun vs H3 ⟨ys, G3, x3, x23, r3, _, q⟩ => q (v :: vs) H3 G3 x3 (.cons (Rp.mono (sameR x23.gg) _ _ rp) r3)
/-- arguments that are only read -/
def postB (K : PySem.W.Frag) (cl : Str → Addr) (G H : Hp) (Q : List V → Hp → Prop) : List D → Prop := fun xs => ∀ vs H' G', Ext G H G' H' → RpL K cl H' vs xs → Q vs H'
def tB (K : PySem.W.Frag) (cl : Str → Addr) (W : XW) (f : Env → R (List D)) : TA := fun σ H Q => ∃ ρ G B, Rel K cl B G ρ σ H ∧ FinG (postB K cl G H Q) (bad cl W G H σ) (f ρ)
abbrev VB (X : Cx) (cl : Str → Addr) (W : XW) (es : List Expr) (f : Env → R (List D)) : Prop := PA X es (tB X.K cl W f)
theorem tB_run {K : PySem.W.Frag} {B : Base} {G0 G H0 H : Hp} {ρ : Env} {σ : L2.St} {β : Type} {g : Env → R (List D)} {k : List D → R β} {post : β → Prop} (r : Rel K cl B G0 ρ σ H0) (x : Ext G0 H0 G H) (h : FinG post (bad cl W G0 H0 σ) (g ρ >>= k)) :
    tB K cl W g σ H (fun w H2 => ∃ y G2, Ext G0 H0 G2 H2 ∧ Ext G H G2 H2 ∧ RpL K cl H2 w y ∧ g ρ = .ok y ∧ FinG post (bad cl W G0 H0 σ) (k y)) := by
  refine ⟨ρ, G, B, r.ext x, ?_⟩
  cases e : g ρ with
  | st => rw [e] at h; exact h
  | ok y => rw [e] at h; exact fun v H' G' a b => ⟨y, G', x.trans a, a, b, rfl, h⟩
  | ex z => rw [e] at h; exact bad_mono x h
theorem tB_mono {K : PySem.W.Frag} {σ : L2.St} {H : Hp} {f : Env → R (List D)} {Q Q' : List V → Hp → Prop} (h : tB K cl W f σ H Q) (hq : ∀ v H', Q v H' → Q' v H') : tB K cl W f σ H Q' := by
  obtain ⟨ρ, G, B, r, h⟩ := h
  refine ⟨ρ, G, B, r, ?_⟩
  cases e : f ρ with
  | st => rw [e] at h; exact h
  | ok x => rw [e] at h; exact fun v H' G' a b => hq _ _ (h v H' G' a b)
  | ex x => rw [e] at h; exact h
def bC (f : Env → R Val) (fs : Env → R (List D)) : Env → R (List D) := fun ρ => f ρ >>= fun x => R.of x.dat >>= fun y => fs ρ >>= fun ys => .ok (y :: ys)
theorem vb_nil : VB X cl W [] aN := PA.imp pa_nil fun σ H Q ⟨ρ, G, B, r, q⟩ => q [] H G (Ext.refl r.gh) .nil
theorem vb_cons (ha : VE X cl W e f) (hr : VB X cl W es fs) (hs : starEach (e :: es) X.env = (false, eval e X.env) :: starEach es X.env := by rfl) : VB X cl W (e :: es) (bC f fs) := PA.imp (pa_cons ha hr hs) fun σ H Q ⟨ρ, G, B, rl, q⟩ =>
  tE_mono (tE_run rl (Ext.refl rl.gh) q) fun v H1 ⟨x, G1, x1, _, v1, _, q⟩ => by
    cases ex : x.dat with
    | none => rw [ex] at q; exact q.elim
    | some y =>
      rw [ex] at q
      have rp := v1.rp x1.gh ex
      exact tB_mono (tB_run rl x1 q) fun vs H3 ⟨ys, G3, x3, x23, r3, _, q⟩ => q (v :: vs) H3 G3 x3 (.cons (Rp.mono (sameR x23.hh) _ _ rp) r3)
/-- (a, b, ..) -/
def eTup (fs : Env → R (List D)) : Env → R Val := fun ρ => fs ρ >>= fun l => R.of (if l.length ≤ 16777216 then some (.d (.tup l)) else none)
def eLst (fs : Env → R (List D)) : Env → R Val := fun ρ => fs ρ >>= fun l => R.of (if l.length ≤ 16777216 then some (.o (.ol (l.map Sl.d))) else none)
theorem line_le {n : Nat} (h : n ≤ 16777216) : n ≤ sizeLine := by rw [sizeLine_eq]; exact h
theorem ve_tup {n : Nat} (ha : VA X cl W es fs) : VE X cl W (.Tuple es n pos) (eTup fs) := PE.imp (pe_tup ha) fun σ H Q ⟨ρ, G, B, rl, q⟩ =>
  tA_mono (tA_run rl (Ext.refl rl.gh) q) fun vs H1 ⟨l, G1, x1, _, r1, _, q⟩ => by
    obtain ⟨z, ez, q⟩ := fin_of q
    split at ez
    · rename_i hl
      cases ez
      exact ⟨by rw [r1.length]; exact line_le hl, fun p hp => q _ _ _ (x1.new hp) (rp_tup x1 hp r1)⟩
    · cases ez
theorem ve_lst (ha : VA X cl W es fs) : VE X cl W (.List es pos) (eLst fs) := PE.imp (pe_lst ha) fun σ H Q ⟨ρ, G, B, rl, q⟩ =>
  tA_mono (tA_run rl (Ext.refl rl.gh) q) fun vs H1 ⟨l, G1, x1, _, r1, _, q⟩ => by
    obtain ⟨z, ez, q⟩ := fin_of q
    split at ez
    · rename_i hl
      cases ez
      exact ⟨by rw [r1.length]; exact line_le hl, fun p hp => q _ _ _ (x1.own hp) (vr_new x1 hp r1)⟩
    · cases ez
/-! ### one value in -/
def O1S (K : PySem.W.Frag) (cl : Str → Addr) (r : V → Hp → VK → Prop) (op : Val → Option Val) : Prop := ∀ (x z : Val) (v : V) (Hx G H : Hp) (Q : VK), op x = some z → LeR G H → VR K cl G H v Hx x →
  (∀ u H' G', Ext G H G' H' → VR K cl G' H' u H z → Q u H') → r v H Q
def e1 (op : Val → Option Val) (f : Env → R Val) : Env → R Val := fun ρ => f ρ >>= fun x => R.of (op x)
theorem ve_op1 {r : V → Hp → VK → Prop} {op : Val → Option Val} (h : PE X e (fun σ H Q => tE X.K cl W f σ H fun v H1 => r v H1 Q)) (o : O1S X.K cl r op) : VE X cl W e (e1 op f) := PE.imp h fun σ H Q ⟨ρ, G, B, rl, q⟩ =>
  tE_mono (tE_run rl (Ext.refl rl.gh) q) fun v H1 ⟨x, G1, x1, _, v1, _, q⟩ => by
    obtain ⟨z, ez, q⟩ := fin_of q
    exact o x z v H G1 H1 Q ez x1.gh v1 fun u H' G' x' r' => q u H' G' (x1.trans x') (r'.start x1.hh)
def oNeg : Val → Option Val := fun x => match x.dat with
  | some (.int i) => some (.d (.int (-i)))
  | _ => none
theorem ve_neg (ha : VE X cl W a f) : VE X cl W (.UnaryOp .USub a pos) (e1 oNeg f) := ve_op1 (r := rU fun i => .int (-i)) (pe_un un_neg ha) fun x z v Hx G H Q e l r q => by
  unfold oNeg at e
  split at e
  · rename_i i hd
    cases e
    rw [Rp.int_ (r.rp l hd)]
    exact ⟨i, rfl, q _ H G (Ext.refl l) (Rp.int _)⟩
  · cases e
/-! ### is None -/
def Val.isN : Val → Bool
  | .d .non => true
  | .o (.d .non) => true
  | .b (.d .non) => true
  | _ => false
theorem Rp.nn {K : PySem.W.Frag} {G : Hp} {v : V} {x : D} (h : Rp K cl G v x) : decide (v = .non) = (match x with | .non => true | _ => false) := by cases h <;> rfl
theorem Ow.nn {K : PySem.W.Frag} {G H : Hp} {v : V} {s : Sl} {fp : List Addr} (h : Ow K cl G H v s fp) : decide (v = .non) = (match s with | .d .non => true | _ => false) := by
  cases h with
  | d r =>
    rw [Rp.nn r]
    rename_i x
    cases x <;> rfl
  | _ => rfl
theorem VR.isN {K : PySem.W.Frag} {G H Hs : Hp} {v : V} {x : Val} (r : VR K cl G H v Hs x) : decide (v = .non) = x.isN := by
  cases x with
  | d y =>
    rw [Rp.nn (show Rp K cl G v y from r)]
    cases y <;> rfl
  | o s =>
    obtain ⟨fp, w, _⟩ := r
    rw [w.nn]
    cases s with
    | d y => cases y <;> rfl
    | _ => rfl
  | b s =>
    obtain ⟨fp, w, _⟩ := r
    rw [w.nn]
    cases s with
    | d y => cases y <;> rfl
    | _ => rfl
def oIsN : Val → Option Val := fun x => some (.d (.bl x.isN))
def oNotN : Val → Option Val := fun x => some (.d (.bl (!x.isN)))
variable {j : Nat} {pos' : Pos}
theorem ve_isN (ha : VE X cl W a f) : VE X cl W (.Compare a [.Is] [.Constant .none j pos'] pos) (e1 oIsN f) := ve_op1 (r := fun v H Q => Q (.bl (decide (v = .non))) H) (pe_cmp (pc_isN ha) rfl) fun x z v Hx G H Q e l r q => by
  cases e
  rw [r.isN]
  exact q _ H G (Ext.refl l) (Rp.bl _)
theorem ve_notN (ha : VE X cl W a f) : VE X cl W (.Compare a [.IsNot] [.Constant .none j pos'] pos) (e1 oNotN f) := ve_op1 (r := fun v H Q => Q (.bl (!decide (v = .non))) H) (pe_cmp (pc_notN ha) rfl) fun x z v Hx G H Q e l r q => by
  cases e
  rw [r.isN]
  exact q _ H G (Ext.refl l) (Rp.bl _)
theorem vt_isN (ha : VE X cl W a f) : VT X cl W (.Compare a [.Is] [.Constant .none j pos'] pos) (tV (e1 oIsN f)) := PT.imp (pt_cmp (pc_isN ha) rfl) fun σ H Q ⟨ρ, G, B, rl, q⟩ => by
  have q : FinG (postT G H Q) (bad cl W G H σ) (f ρ >>= fun x => .ok x.isN) := by
    have q : FinG (postT G H Q) (bad cl W G H σ) ((f ρ >>= fun x => R.of (oIsN x)) >>= fun x => R.of (isB x)) := q
    cases e : f ρ <;> rw [e] at q <;> exact q
  exact tE_mono (tE_run rl (Ext.refl rl.gh) q) fun v H1 ⟨x, G1, x1, _, v1, _, q⟩ => ⟨_, rfl, by rw [v1.isN]; exact q H1 G1 x1⟩
theorem vt_notN (ha : VE X cl W a f) : VT X cl W (.Compare a [.IsNot] [.Constant .none j pos'] pos) (tV (e1 oNotN f)) := PT.imp (pt_cmp (pc_notN ha) rfl) fun σ H Q ⟨ρ, G, B, rl, q⟩ => by
  have q : FinG (postT G H Q) (bad cl W G H σ) (f ρ >>= fun x => .ok (!x.isN)) := by
    have q : FinG (postT G H Q) (bad cl W G H σ) ((f ρ >>= fun x => R.of (oNotN x)) >>= fun x => R.of (isB x)) := q
    cases e : f ρ <;> rw [e] at q <;> exact q
  exact tE_mono (tE_run rl (Ext.refl rl.gh) q) fun v H1 ⟨x, G1, x1, _, v1, _, q⟩ => ⟨_, rfl, by rw [v1.isN]; exact q H1 G1 x1⟩
end

/-! ### ==, != -/
def eqS : D → D → Option Bool
  | .non, .non => some true
  | .non, .int _ => some false
  | .int _, .non => some false
  | .non, .bl _ => some false
  | .bl _, .non => some false
  | .non, .str _ => some false
  | .str _, .non => some false
  | .int i, .int j => some (decide (i = j))
  | .bl i, .bl j => some (decide (i = j))
  | .str i, .str j => some (decide (i = j))
  | .int _, .str _ => some false
  | .str _, .int _ => some false
  | .bl _, .str _ => some false
  | .str _, .bl _ => some false
  | _, _ => none
def eqD (a b : D) : Option Bool := match eqS a b with
  | some k => some k
  | none => if a.pl && b.pl && decide (a.dep ≤ 64) && decide (b.dep ≤ 64) then some (a.same b) else none
def oEq : Val → Val → Option Val := fun x y => match x.dat, y.dat with
  | some a, some b => (eqD a b).map fun k => .d (.bl k)
  | _, _ => none
def oNe : Val → Val → Option Val := fun x y => match x.dat, y.dat with
  | some a, some b => (eqD a b).map fun k => .d (.bl (!k))
  | _, _ => none
section
variable {X : Cx} {cl : Str → Addr}
theorem eqS_v {K : PySem.W.Frag} {G : Hp} {v w : V} {a b : D} {k : Bool} (h1 : Rp K cl G v a) (h2 : Rp K cl G w b) (e : eqS a b = some k) : scal v w = true ∧ decide (v = w) = k := by
  unfold eqS at e
  split at e <;> cases e <;> cases h1 <;> cases h2 <;> first | exact ⟨rfl, rfl⟩ | exact ⟨rfl, by simp⟩
theorem oc_eq (hu : X.A.units + 64 < cLine) : OpC X cl .Eq oEq := ⟨_, op_eq.or (op_eqD hu), fun x y z v w Hx Hy G H Q e l r1 r2 q => by
  unfold oEq at e
  split at e
  · rename_i a b ha hb
    rw [Option.map_eq_some_iff] at e
    obtain ⟨k, e, rfl⟩ := e
    have p1 := r1.rp l ha
    have p2 := r2.rp l hb
    unfold eqD at e
    split at e
    · rename_i k' ek
      cases e
      obtain ⟨q1, q2⟩ := eqS_v p1 p2 ek
      exact .inl ⟨q1, by rw [q2]; exact q _ H G (Ext.refl l) (Rp.bl _)⟩
    · split at e
      · rename_i hc
        cases e
        simp only [Bool.and_eq_true, decide_eq_true_eq] at hc
        exact .inr ⟨a.py, b.py, p1.dp _ _ hc.1.1.1, p2.dp _ _ hc.1.1.2, shaped_of hc.1.1.1 hc.1.2, shaped_of hc.1.1.2 hc.2, by rw [py_eqv a b hc.1.1.1 hc.1.1.2]; exact q _ H G (Ext.refl l) (Rp.bl _)⟩
      · cases e
  · cases e⟩
theorem oc_ne (hu : X.A.units + 64 < cLine) : OpC X cl .NotEq oNe := ⟨_, op_ne.or (op_neD hu), fun x y z v w Hx Hy G H Q e l r1 r2 q => by
  unfold oNe at e
  split at e
  · rename_i a b ha hb
    rw [Option.map_eq_some_iff] at e
    obtain ⟨k, e, rfl⟩ := e
    have p1 := r1.rp l ha
    have p2 := r2.rp l hb
    unfold eqD at e
    split at e
    · rename_i k' ek
      cases e
      obtain ⟨q1, q2⟩ := eqS_v p1 p2 ek
      exact .inl ⟨q1, by rw [q2]; exact q _ H G (Ext.refl l) (Rp.bl _)⟩
    · split at e
      · rename_i hc
        cases e
        simp only [Bool.and_eq_true, decide_eq_true_eq] at hc
        exact .inr ⟨a.py, b.py, p1.dp _ _ hc.1.1.1, p2.dp _ _ hc.1.1.2, shaped_of hc.1.1.1 hc.1.2, shaped_of hc.1.1.2 hc.2, by rw [py_eqv a b hc.1.1.1 hc.1.1.2]; exact q _ H G (Ext.refl l) (Rp.bl _)⟩
      · cases e
  · cases e⟩
/-! ### in, not in -/
def flD : D → Bool
  | .non => true
  | .int _ => true
  | .str _ => true
  | _ => false
def inD (a b : D) : Option Bool := match b with
  | .tup l => if flD a && l.all flD then some (l.any fun y => y.same a) else none
  | .lst l => if flD a && l.all flD then some (l.any fun y => y.same a) else none
  | .str z => match a with
    | .str x => match x.cps.toList with
      | [c] => some (decide (c ∈ z.cps.toList))
      | _ => none
    | _ => none
  | _ => none
def oIn : Val → Val → Option Val := fun x y => match x.dat, y.dat with
  | some a, some b => (inD a b).map fun k => .d (.bl k)
  | _, _ => none
def oNotIn : Val → Val → Option Val := fun x y => match x.dat, y.dat with
  | some a, some b => (inD a b).map fun k => .d (.bl (!k))
  | _, _ => none
theorem flD_v {K : PySem.W.Frag} {G : Hp} {v : V} {a : D} (h : Rp K cl G v a) (e : flD a = true) : flatV v = true := by
  cases h <;> first | rfl | cases e
theorem flD_all {K : PySem.W.Frag} {G : Hp} : ∀ {vs : List V} {l : List D}, RpL K cl G vs l → l.all flD = true → vs.all flatV = true
  | _, _, .nil, _ => rfl
  | _, _, .cons a b, e => by
    simp only [List.all_cons, Bool.and_eq_true] at e ⊢
    exact ⟨flD_v a e.1, flD_all b e.2⟩
theorem eqV_same {K : PySem.W.Frag} {G : Hp} {v w : V} {a b : D} (h1 : Rp K cl G v a) (h2 : Rp K cl G w b) (e1 : flD a = true) (e2 : flD b = true) : eqV v w = a.same b := by
  cases h1 <;> first | cases e1; done | skip
  all_goals cases h2 <;> first | cases e2; done | rfl | skip
  all_goals simp only [eqV, D.same, Bool.beq_eq_decide_eq]
theorem inV_of {K : PySem.W.Frag} {G : Hp} {v : V} {a : D} (h1 : Rp K cl G v a) (e1 : flD a = true) : ∀ {vs : List V} {l : List D}, RpL K cl G vs l → l.all flD = true → inV v vs = l.any fun y => y.same a
  | _, _, .nil, _ => rfl
  | _, _, .cons x b, e => by
    simp only [List.all_cons, Bool.and_eq_true] at e
    show (eqV _ v || inV v _) = _
    rw [inV_of h1 e1 b e.2, eqV_same x h1 e.1 e1]
    rfl
theorem str_one {x : Str} {c : Nat} (h : x.cps.toList = [c]) : x = ⟨#[c]⟩ := by
  obtain ⟨⟨l⟩⟩ := x
  have h : l = [c] := h
  rw [h]
theorem in_cases {a b : D} {k : Bool} (e : inD a b = some k) : (∃ l, (b = .tup l ∨ b = .lst l) ∧ flD a = true ∧ l.all flD = true ∧ k = l.any fun y => y.same a) ∨ ∃ c z, a = .str ⟨#[c]⟩ ∧ b = .str z ∧ k = decide (c ∈ z.cps.toList) := by
  cases b with
  | tup l =>
    have e : (if (flD a && l.all flD) = true then some (l.any fun y => y.same a) else none) = some k := e
    split at e
    · rename_i hc
      cases e
      simp only [Bool.and_eq_true] at hc
      exact .inl ⟨l, .inl rfl, hc.1, hc.2, rfl⟩
    · cases e
  | lst l =>
    have e : (if (flD a && l.all flD) = true then some (l.any fun y => y.same a) else none) = some k := e
    split at e
    · rename_i hc
      cases e
      simp only [Bool.and_eq_true] at hc
      exact .inl ⟨l, .inr rfl, hc.1, hc.2, rfl⟩
    · cases e
  | str z =>
    cases a with
    | str x =>
      cases hx : x.cps.toList with
      | nil =>
        simp only [inD, hx] at e
        cases e
      | cons c r =>
        cases r with
        | nil =>
          simp only [inD, hx] at e
          exact .inr ⟨c, z, by rw [str_one hx], rfl, (Option.some.inj e).symm⟩
        | cons c2 r =>
          simp only [inD, hx] at e
          cases e
    | _ => cases e
  | _ => cases e
theorem rp_seq {K : PySem.W.Frag} {G : Hp} {w : V} {b : D} {l : List D} (h : Rp K cl G w b) (e : b = .tup l ∨ b = .lst l) : ∃ p xs, w = .ref p ∧ (SqL K G p xs ∨ SqT K G p xs) ∧ RpL K cl G xs l := by
  rcases e with rfl | rfl
  · obtain ⟨p, xs, e1, e2, e3⟩ := Rp.tup_ h
    exact ⟨p, xs, e1, .inr e2, e3⟩
  · obtain ⟨p, xs, e1, e2, e3⟩ := Rp.lst_ h
    exact ⟨p, xs, e1, .inl (.inl (.inl e2)), e3⟩
theorem oc_in : OpC X cl .In oIn := ⟨_, op_in_seq.or op_in_sign, fun x y z v w Hx Hy G H Q e l r1 r2 q => by
  unfold oIn at e
  split at e
  · rename_i a b ha hb
    rw [Option.map_eq_some_iff] at e
    obtain ⟨k, e, rfl⟩ := e
    have p1 := r1.rp l ha
    have p2 := r2.rp l hb
    rcases in_cases e with ⟨m, eb, f1, f2, rfl⟩ | ⟨c, zz, rfl, rfl, rfl⟩
    · obtain ⟨p, xs, rfl, s, r⟩ := rp_seq p2 eb
      refine .inl ⟨p, xs, rfl, s, flD_v p1 f1, flD_all r f2, ?_⟩
      rw [if_neg Bool.false_ne_true, inV_of p1 f1 r f2]
      exact q _ H G (Ext.refl l) (Rp.bl _)
    · rw [Rp.str_ p1, Rp.str_ p2]
      exact .inr ⟨c, zz, rfl, rfl, q _ H G (Ext.refl l) (Rp.bl _)⟩
  · cases e⟩
theorem oc_notIn : OpC X cl .NotIn oNotIn := ⟨_, op_notIn_seq.or op_notIn_sign, fun x y z v w Hx Hy G H Q e l r1 r2 q => by
  unfold oNotIn at e
  split at e
  · rename_i a b ha hb
    rw [Option.map_eq_some_iff] at e
    obtain ⟨k, e, rfl⟩ := e
    have p1 := r1.rp l ha
    have p2 := r2.rp l hb
    rcases in_cases e with ⟨m, eb, f1, f2, rfl⟩ | ⟨c, zz, rfl, rfl, rfl⟩
    · obtain ⟨p, xs, rfl, s, r⟩ := rp_seq p2 eb
      refine .inl ⟨p, xs, rfl, s, flD_v p1 f1, flD_all r f2, ?_⟩
      rw [if_pos rfl, inV_of p1 f1 r f2]
      exact q _ H G (Ext.refl l) (Rp.bl _)
    · rw [Rp.str_ p1, Rp.str_ p2]
      exact .inr ⟨c, zz, rfl, rfl, q _ H G (Ext.refl l) (Rp.bl _)⟩
  · cases e⟩
end
end Vl

/-! VlE: places, slices, built-ins, calls. -/
namespace Vl
open PySem L2 PySem.Spec

/-! ### x[i] -/
def Sl.bor : Sl → Val
  | .d x => .d x
  | s => .b s
def Val.ofSl : Sl → Val
  | .d x => .d x
  | s => .o s
def oIx : Val → Val → Option Val := fun x y => match y.dat with
  | some (.int i) => match x with
    | .d (.lst l) => (atI l i).map .d
    | .d (.tup l) => (atI l i).map .d
    | .d (.str s) => if s.length ≤ 16777216 then (atI s.cps.toList i).map fun c => .d (.str ⟨#[c]⟩) else none
    | .b (.ol ss) => (atI ss i).map Sl.bor
    | .b (.ot ss) => (atI ss i).map Sl.bor
    | .o (.ol ss) => match atI ss i with
      | some (.d z) => some (.d z)
      | _ => none
    | _ => none
  | _ => none
section
variable {K : PySem.W.Frag} {cl : Str → Addr} {G G' H H' Hs G0 H0 : Hp} {v : V}
theorem RpL.at_ {xs : List V} {l : List D} {i : Int} {d : D} (r : RpL K cl G xs l) (h : atI l i = some d) : ∃ u, atI xs i = some u ∧ Rp K cl G u d := by
  unfold atI at h ⊢
  rw [r.length]
  cases e : ixN l.length i with
  | none => rw [e] at h; cases h
  | some j =>
    rw [e] at h
    exact r.get h
theorem OwL.at_ {xs : List V} {l : List Sl} {fp : List Addr} {i : Int} {d : Sl} (r : OwL K cl G H xs l fp) (h : atI l i = some d) : ∃ u fq, atI xs i = some u ∧ Ow K cl G H u d fq ∧ ∀ a ∈ fq, a ∈ fp := by
  unfold atI at h ⊢
  rw [r.length]
  cases e : ixN l.length i with
  | none => rw [e] at h; cases h
  | some j =>
    rw [e] at h
    exact r.get h
theorem Ow.bor {s : Sl} {fp : List Addr} (w : Ow K cl G H v s fp) (n : ∀ a ∈ fp, G a = none) : VR K cl G H v Hs s.bor := by
  cases s with
  | d x =>
    cases w with
    | d r => exact r
  | _ => exact ⟨fp, w, n⟩
theorem Ow.vr {s : Sl} {fp : List Addr} (w : Ow K cl G H v s fp) (n : ∀ a ∈ fp, Hs a = none ∧ G a = none) : VR K cl G H v Hs (Val.ofSl s) := by
  cases s with
  | d x =>
    cases w with
    | d r => exact r
  | _ => exact ⟨fp, w, n⟩
theorem opS_ix {K : PySem.W.Frag} : OpS K cl (rIx K) oIx := fun x y z v w Hx Hy G H Q e l r1 r2 q => by
  unfold oIx at e
  split at e
  · rename_i i hy
    rw [Rp.int_ (r2.rp l hy)]
    split at e
    · rename_i l' 
      rw [Option.map_eq_some_iff] at e
      obtain ⟨d, e, rfl⟩ := e
      obtain ⟨a, xs, rfl, h1, h2⟩ := Rp.lst_ (show Rp K cl G v (.lst l') from r1)
      obtain ⟨u, h3, h4⟩ := h2.at_ e
      exact .inl ⟨a, xs, i, u, rfl, rfl, .inl (.inl (l.ls h1)), h3, q u H G (Ext.refl l) h4⟩
    · rename_i l'
      rw [Option.map_eq_some_iff] at e
      obtain ⟨d, e, rfl⟩ := e
      obtain ⟨a, xs, rfl, h1, h2⟩ := Rp.tup_ (show Rp K cl G v (.tup l') from r1)
      obtain ⟨u, h3, h4⟩ := h2.at_ e
      exact .inr (.inl ⟨a, xs, i, u, rfl, rfl, l.st h1, h3, q u H G (Ext.refl l) h4⟩)
    · rename_i s
      split at e
      · rename_i hl
        rw [Option.map_eq_some_iff] at e
        obtain ⟨c, e, rfl⟩ := e
        rw [Rp.str_ (show Rp K cl G v (.str s) from r1)]
        exact .inr (.inr ⟨s, i, c, rfl, rfl, line_le hl, e, q _ H G (Ext.refl l) (Rp.str _)⟩)
      · cases e
    · rename_i ss
      rw [Option.map_eq_some_iff] at e
      obtain ⟨s, e, rfl⟩ := e
      obtain ⟨fp, w1, n⟩ := r1
      cases w1 with
      | ol h1 h2 h3 =>
        obtain ⟨u, fq, h4, h5, h6⟩ := h2.at_ e
        exact .inl ⟨_, _, i, u, rfl, rfl, .inl (.inl h1), h4, q u H G (Ext.refl l) (h5.bor fun a m => n a (by simp [h6 a m]))⟩
    · rename_i ss
      rw [Option.map_eq_some_iff] at e
      obtain ⟨s, e, rfl⟩ := e
      obtain ⟨fp, w1, n⟩ := r1
      cases w1 with
      | ot h1 h2 h3 =>
        obtain ⟨u, fq, h4, h5, h6⟩ := h2.at_ e
        exact .inr (.inl ⟨_, _, i, u, rfl, rfl, .inl (.inl h1), h4, q u H G (Ext.refl l) (h5.bor fun a m => n a (by simp [h6 a m]))⟩)
    · rename_i ss
      split at e
      · rename_i d ed
        cases e
        obtain ⟨fp, w1, n⟩ := r1
        cases w1 with
        | ol h1 h2 h3 =>
          obtain ⟨u, fq, h4, h5, h6⟩ := h2.at_ ed
          cases h5 with
          | d r5 => exact .inl ⟨_, _, i, u, rfl, rfl, .inl (.inl h1), h4, q u H G (Ext.refl l) r5⟩
      · cases e
    · cases e
  · cases e

/-! ### slices -/
def cutD {α : Type} (xs : List α) (lo hi : Option Int) : List α := (xs.drop (HT.sIx xs.length 0 lo)).take (HT.sIx xs.length xs.length hi - HT.sIx xs.length 0 lo)
theorem RpL.cut {xs : List V} {l : List D} (r : RpL K cl G xs l) (lo hi : Option Int) : RpL K cl G (cutV xs lo hi) (cutD l lo hi) := by
  unfold cutV cutD
  rw [r.length]
  exact (r.drop _).take _
def oSl : Val → Option Int → Option Int → Option Val := fun x lo hi => match x with
  | .d (.str s) => if s.length ≤ 16777216 then some (.d (.str (cutS s lo hi))) else none
  | .d (.tup l) => if HT.sIx l.length 0 lo = 0 ∧ HT.sIx l.length l.length hi = l.length then some (.d (.tup l)) else some (.d (.tup (cutD l lo hi)))
  | .d (.scr l) => some (.o (.ol ((cutD (l.map D.int) lo hi).map .d)))
  | x => x.items.map fun l => .o (.ol ((cutD l lo hi).map .d))
def rSlAll (K : PySem.W.Frag) : V → Option Int → Option Int → Hp → VK → Prop := fun x lo hi H Q => rSlS x lo hi H Q ∨ rSlA K x lo hi H Q ∨ rSlL K x lo hi H Q
theorem sl_all {X : Cx} : L2.SlR X (rSlAll X.K) := sl_str.or (sl_tupA.or sl_list)
theorem rp_ints : ∀ l : List Int, RpL K cl G (l.map V.int) (l.map D.int)
  | [] => .nil
  | i :: r => .cons (.int i) (rp_ints r)
theorem slS {K : PySem.W.Frag} (x z : Val) (lo hi : Option Int) (v : V) (Hx G H : Hp) (Q : VK) (e : oSl x lo hi = some z) (l : LeR G H) (r1 : VR K cl G H v Hx x) (q : ∀ u H' G', Ext G H G' H' → VR K cl G' H' u H z → Q u H') : rSlAll K v lo hi H Q := by
  have lists : x.items.map (fun l => Val.o (.ol ((cutD l lo hi).map .d))) = some z → rSlAll K v lo hi H Q := fun e' => by
    rw [Option.map_eq_some_iff] at e'
    obtain ⟨m, e', rfl⟩ := e'
    obtain ⟨a, xs, rfl, h1, h2⟩ := r1.items l e'
    exact .inr (.inr ⟨a, xs, rfl, .inl (.inl h1), fun p hp => q _ _ G ((Ext.refl l).own hp) (vr_new (Ext.refl l) hp (h2.cut lo hi))⟩)
  unfold oSl at e
  split at e
  · rename_i s
    split at e
    · rename_i hl
      cases e
      rw [Rp.str_ (show Rp K cl G v (.str s) from r1)]
      exact .inl ⟨s, rfl, line_le hl, q _ H G (Ext.refl l) (Rp.str _)⟩
    · cases e
  · rename_i m
    obtain ⟨a, xs, rfl, h1, h2⟩ := Rp.tup_ (show Rp K cl G v (.tup m) from r1)
    refine .inr (.inl ⟨a, xs, rfl, l.st h1, fun hw => ?_, fun hw p hp => ?_⟩)
    · rw [h2.length] at hw
      rw [if_pos hw] at e
      cases e
      exact q _ H G (Ext.refl l) r1
    · rw [h2.length] at hw
      rw [if_neg hw] at e
      cases e
      exact q _ _ _ ((Ext.refl l).new hp) (rp_tup (Ext.refl l) hp (h2.cut lo hi))
  · rename_i m
    cases e
    cases (show Rp K cl G v (.scr m) from r1) with
    | scr s => exact .inr (.inr ⟨_, _, rfl, l.sq s, fun p hp => q _ _ G ((Ext.refl l).own hp) (vr_new (Ext.refl l) hp ((rp_ints m).cut lo hi))⟩)
  · exact lists e
end
section
variable {X : Cx} {cl : Str → Addr} {W : XW} {e a b c : Expr} {es : List Expr} {f g h : Env → R Val} {fs : Env → R (List D)} {pos p2 : Pos} {lo hi : Option Expr} {fl fh : Env → R (Option Int)}
theorem ve_ix (ha : VE X cl W a f) (hb : VE X cl W b g) (hs : PlainIx b := by exact fun _ _ => rfl) : VE X cl W (.Subscript a b pos) (e2 oIx f g) := ve_op2 (pe_ix ix_seq ha hb hs) opS_ix
def tO (K : PySem.W.Frag) (cl : Str → Addr) (W : XW) (f : Env → R (Option Int)) : TO := fun σ H Q => ∃ ρ G B, Rel K cl B G ρ σ H ∧ FinG (fun o => ∀ H' G', Ext G H G' H' → Q o H') (bad cl W G H σ) (f ρ)
abbrev VO (X : Cx) (cl : Str → Addr) (W : XW) (e : Option Expr) (f : Env → R (Option Int)) : Prop := PO X e (tO X.K cl W f)
theorem PO.imp {e : Option Expr} {t t' : TO} (h : PO X e t) (hi : ∀ σ H Q, t' σ H Q → t σ H Q) : PO X e t' := ⟨fun pins s σ H Q I q => h.run pins s σ H Q I (hi σ H Q q)⟩
def pN : Env → R (Option Int) := fun _ => .ok none
def pS (f : Env → R Val) : Env → R (Option Int) := fun ρ => f ρ >>= fun x => match x.dat with
  | some (.int i) => .ok (some i)
  | _ => .st
theorem vo_none : VO X cl W none pN := PO.imp po_none fun σ H Q ⟨ρ, G, B, r, q⟩ => q H G (Ext.refl r.gh)
theorem vo_some (ha : VE X cl W a f) : VO X cl W (some a) (pS f) := PO.imp (po_some ha) fun σ H Q ⟨ρ, G, B, rl, q⟩ =>
  tE_mono (tE_run rl (Ext.refl rl.gh) q) fun v H1 ⟨x, G1, x1, _, v1, _, q⟩ => by
    split at q
    · rename_i i hd
      rw [Rp.int_ (v1.rp x1.gh hd)]
      exact ⟨i, rfl, q H1 G1 x1⟩
    · exact q.elim
theorem tO_run {K : PySem.W.Frag} {B : Base} {G0 G H0 H : Hp} {ρ : Env} {σ : L2.St} {β : Type} {g : Env → R (Option Int)} {k : Option Int → R β} {post : β → Prop} (r : Rel K cl B G0 ρ σ H0) (x : Ext G0 H0 G H) (h : FinG post (bad cl W G0 H0 σ) (g ρ >>= k)) :
    tO K cl W g σ H (fun b H2 => ∃ G2, Ext G0 H0 G2 H2 ∧ Ext G H G2 H2 ∧ FinG post (bad cl W G0 H0 σ) (k b)) := by
  refine ⟨ρ, G, B, r.ext x, ?_⟩
  cases e : g ρ with
  | st => rw [e] at h; exact h
  | ok y => rw [e] at h; exact fun H' G' a => ⟨G', x.trans a, a, h⟩
  | ex z => rw [e] at h; exact bad_mono x h
theorem tO_mono {K : PySem.W.Frag} {σ : L2.St} {H : Hp} {f : Env → R (Option Int)} {Q Q' : Option Int → Hp → Prop} (h : tO K cl W f σ H Q) (hq : ∀ v H', Q v H' → Q' v H') : tO K cl W f σ H Q' := by
  obtain ⟨ρ, G, B, r, h⟩ := h
  refine ⟨ρ, G, B, r, ?_⟩
  cases e : f ρ with
  | st => rw [e] at h; exact h
  | ok x => rw [e] at h; exact fun H' G' a => hq _ _ (h H' G' a)
  | ex x => rw [e] at h; exact h
/-- a[lo:hi] -/
def eSl (f : Env → R Val) (fl fh : Env → R (Option Int)) : Env → R Val := fun ρ => f ρ >>= fun x => fl ρ >>= fun l => fh ρ >>= fun u => R.of (oSl x l u)
theorem ve_slice (ha : VE X cl W a f) (hl : VO X cl W lo fl) (hh : VO X cl W hi fh) : VE X cl W (.Subscript a (.Slice lo hi none p2) pos) (eSl f fl fh) := PE.imp (pe_slice sl_all ha hl hh) fun σ H Q ⟨ρ, G, B, rl, q⟩ =>
  tE_mono (tE_run rl (Ext.refl rl.gh) q) fun v H1 ⟨x, G1, x1, _, v1, _, q⟩ => tO_mono (tO_run rl x1 q) fun l H2 ⟨G2, x2, x12, q⟩ => tO_mono (tO_run rl x2 q) fun u H3 ⟨G3, x3, x23, q⟩ => by
    obtain ⟨z, ez, q⟩ := fin_of q
    exact slS x z l u v H G3 H3 Q ez x3.gh ((v1.ext x12).ext x23) fun u H' G' x' r' => q u H' G' (x3.trans x') (r'.start x3.hh)
/-- a[::-1] of a list -/
def oRev : Val → Option Val := fun x => x.items.map fun l => .o (.ol (l.reverse.map .d))
theorem RpL.rev {K : PySem.W.Frag} {G : Hp} : ∀ {v : List V} {x : List D}, RpL K cl G v x → RpL K cl G v.reverse x.reverse
  | _, _, .nil => .nil
  | _, _, .cons a b => by
    rw [List.reverse_cons, List.reverse_cons]
    exact (RpL.rev b).append (.cons a .nil)
theorem ve_rev {k : Nat} {p1 p3 p4 : Pos} (ha : VE X cl W a f) : VE X cl W (.Subscript a (.Slice none none (some (.UnaryOp .USub (.Constant (.int 1) k p1) p3)) p4) pos) (e1 oRev f) :=
  ve_op1 (r := fun v H Q => ∃ a xs, v = .ref a ∧ SqL X.K H a xs ∧ ∀ p, H p = none → Q (.ref p) (upd H p (.lst xs.reverse))) (pe_revL ha) fun x z v Hx G H Q e l r q => by
    unfold oRev at e
    rw [Option.map_eq_some_iff] at e
    obtain ⟨m, e, rfl⟩ := e
    obtain ⟨a, xs, rfl, h1, h2⟩ := r.items l e
    exact ⟨a, xs, rfl, .inl (.inl h1), fun p hp => q _ _ G ((Ext.refl l).own hp) (vr_new (Ext.refl l) hp h2.rev)⟩

/-! ### built-ins of one value -/
variable {x : Str} {p : Pos}
/-- name(e), a built-in -/
theorem ve_cb {id : String} {r : List V → Hp → VK → Prop} {op : Val → Option Val} (hc : CallR X (.builtin id) r) (o : O1S X.K cl (fun v H Q => r [v] H Q) op) (hg : Gl X x) (hm : X.mg x = none) (hv : bootBuiltins x = some (.builtin id)) (ha : VE X cl W e f) (hn : x ≠ "__name__" := by decide)
    (hdb : (x == ("__debug__" : Str)) = false := by decide) (he : starEach (e :: []) X.env = (false, eval e X.env) :: starEach [] X.env := by rfl) : VE X cl W (.Call (.Name x p) [e] [] pos) (e1 op f) :=
  ve_op1 (r := fun v H Q => r [v] H Q) (pe_callB hc hg hm hv (pa_cons ha pa_nil he) hn hdb he) o
theorem ve_cy {T : String} {r : List V → Hp → VK → Prop} {op : Val → Option Val} (hc : CallR X (.type T) r) (o : O1S X.K cl (fun v H Q => r [v] H Q) op) (hg : Gl X x) (hm : X.mg x = none) (hv : bootBuiltins x = some (.type T)) (ha : VE X cl W e f) (hn : x ≠ "__name__" := by decide)
    (hdb : (x == ("__debug__" : Str)) = false := by decide) (he : starEach (e :: []) X.env = (false, eval e X.env) :: starEach [] X.env := by rfl) : VE X cl W (.Call (.Name x p) [e] [] pos) (e1 op f) :=
  ve_op1 (r := fun v H Q => r [v] H Q) (pe_callTy hc hg hm hv (pa_cons ha pa_nil he) hn hdb he) o
theorem ve_cb2 {id : String} {r : List V → Hp → VK → Prop} {op : Val → Val → Option Val} (hc : CallR X (.builtin id) r) (o : OpS X.K cl (fun v w H Q => r [v, w] H Q) op) (hg : Gl X x) (hm : X.mg x = none) (hv : bootBuiltins x = some (.builtin id)) (ha : VE X cl W e f) (hb : VE X cl W b g) (hn : x ≠ "__name__" := by decide)
    (hdb : (x == ("__debug__" : Str)) = false := by decide) (he : starEach (e :: [b]) X.env = (false, eval e X.env) :: starEach [b] X.env := by rfl) (hb' : starEach (b :: []) X.env = (false, eval b X.env) :: starEach [] X.env := by rfl)
    (hpl : (backTo pos (starEach [b] X.env)).any (·.1) = false := by rfl) : VE X cl W (.Call (.Name x p) [e, b] [] pos) (e2 op f g) :=
  ve_op2 (r := fun v w H Q => r [v, w] H Q) (pe_callB hc hg hm hv (pa_cons ha (pa_cons hb pa_nil hb') he) hn hdb he hpl) o
def lenS : Val → Option Int := fun x => match x with
  | .d (.str s) => if s.length ≤ 16777216 then some (s.length : Int) else none
  | .d (.lst l) => some (l.length : Int)
  | .d (.tup l) => some (l.length : Int)
  | .o (.ol l) => some (l.length : Int)
  | .b (.ol l) => some (l.length : Int)
  | .b (.ot l) => some (l.length : Int)
  | _ => none
def oLen : Val → Option Val := fun x => (lenS x).map fun n => .d (.int n)
theorem o1_len {K : PySem.W.Frag} : O1S K cl (fun v H Q => ∃ x n, [v] = [x] ∧ LenV K x H n ∧ Q (.int (n : Nat)) H) oLen := fun x z v Hx G H Q e l r q => by
  unfold oLen at e
  rw [Option.map_eq_some_iff] at e
  obtain ⟨n, e, rfl⟩ := e
  unfold lenS at e
  split at e
  · rename_i s
    split at e
    · rename_i hl
      cases e
      refine ⟨v, s.length, rfl, ?_, q _ H G (Ext.refl l) (Rp.int _)⟩
      rw [Rp.str_ (show Rp K cl G v (.str s) from r)]
      exact ⟨line_le hl, rfl⟩
    · cases e
  · rename_i m
    cases e
    obtain ⟨a, xs, rfl, h1, h2⟩ := Rp.lst_ (show Rp K cl G v (.lst m) from r)
    exact ⟨_, m.length, rfl, .inl ⟨xs, .inl (.inl (l.ls h1)), h2.length.symm⟩, q _ H G (Ext.refl l) (Rp.int _)⟩
  · rename_i m
    cases e
    obtain ⟨a, xs, rfl, h1, h2⟩ := Rp.tup_ (show Rp K cl G v (.tup m) from r)
    exact ⟨_, m.length, rfl, .inr ⟨xs, l.st h1, h2.length.symm⟩, q _ H G (Ext.refl l) (Rp.int _)⟩
  · rename_i m
    cases e
    obtain ⟨fp, w, _⟩ := r
    cases w with
    | ol h1 h2 h3 => exact ⟨_, m.length, rfl, .inl ⟨_, .inl (.inl h1), h2.length.symm⟩, q _ H G (Ext.refl l) (Rp.int _)⟩
  · rename_i m
    cases e
    obtain ⟨fp, w, _⟩ := r
    cases w with
    | ol h1 h2 h3 => exact ⟨_, m.length, rfl, .inl ⟨_, .inl (.inl h1), h2.length.symm⟩, q _ H G (Ext.refl l) (Rp.int _)⟩
  · rename_i m
    cases e
    obtain ⟨fp, w, _⟩ := r
    cases w with
    | ot h1 h2 h3 => exact ⟨_, m.length, rfl, .inr ⟨_, .inl (.inl h1), h2.length.symm⟩, q _ H G (Ext.refl l) (Rp.int _)⟩
  · cases e
theorem ve_len (hg : Gl X "len") (hm : X.mg "len" = none) (ha : VE X cl W e f) (he : starEach (e :: []) X.env = (false, eval e X.env) :: starEach [] X.env := by rfl) : VE X cl W (.Call (.Name "len" p) [e] [] pos) (e1 oLen f) := ve_cb call_len o1_len hg hm PySem.boot_len ha (he := he)
def oAbs : Val → Option Val := fun x => match x.dat with
  | some (.int i) => some (.d (.int (if i < 0 then -i else i)))
  | _ => none
theorem ve_abs (hg : Gl X "abs") (hm : X.mg "abs" = none) (ha : VE X cl W e f) (he : starEach (e :: []) X.env = (false, eval e X.env) :: starEach [] X.env := by rfl) : VE X cl W (.Call (.Name "abs" p) [e] [] pos) (e1 oAbs f) :=
  ve_cb call_abs (fun x z v Hx G H Q e l r q => by
    unfold oAbs at e
    split at e
    · rename_i i hd
      cases e
      rw [Rp.int_ (r.rp l hd)]
      exact ⟨i, rfl, q _ H G (Ext.refl l) (Rp.int _)⟩
    · cases e) hg hm (by decide +kernel) ha (he := he)
def oMax : Val → Val → Option Val := oI cT fun i j => .int (if j > i then j else i)
def oMin : Val → Val → Option Val := oI cT fun i j => .int (if j < i then j else i)
theorem ve_max2 (hc : X.calm = true) (hg : Gl X "max") (hm : X.mg "max" = none) (ha : VE X cl W e f) (hb : VE X cl W b g) (he : starEach (e :: [b]) X.env = (false, eval e X.env) :: starEach [b] X.env := by rfl) (hb' : starEach (b :: []) X.env = (false, eval b X.env) :: starEach [] X.env := by rfl)
    (hpl : (backTo pos (starEach [b] X.env)).any (·.1) = false := by rfl) : VE X cl W (.Call (.Name "max" p) [e, b] [] pos) (e2 oMax f g) :=
  ve_cb2 (call_max2 hc) (opS_int (kv := fun i j => .int (if j > i then j else i)) (fun _ _ _ => .int _) fun i j H Q _ q => ⟨i, j, rfl, q⟩) hg hm (by decide +kernel) ha hb (he := he) (hb' := hb') (hpl := hpl)
theorem ve_min2 (hc : X.calm = true) (hg : Gl X "min") (hm : X.mg "min" = none) (ha : VE X cl W e f) (hb : VE X cl W b g) (he : starEach (e :: [b]) X.env = (false, eval e X.env) :: starEach [b] X.env := by rfl) (hb' : starEach (b :: []) X.env = (false, eval b X.env) :: starEach [] X.env := by rfl)
    (hpl : (backTo pos (starEach [b] X.env)).any (·.1) = false := by rfl) : VE X cl W (.Call (.Name "min" p) [e, b] [] pos) (e2 oMin f g) :=
  ve_cb2 (call_min2 hc) (opS_int (kv := fun i j => .int (if j < i then j else i)) (fun _ _ _ => .int _) fun i j H Q _ q => ⟨i, j, rfl, q⟩) hg hm (by decide +kernel) ha hb (he := he) (hb' := hb') (hpl := hpl)
def intsOf : List D → Option (List Int)
  | [] => some []
  | .int i :: r => (intsOf r).map (i :: ·)
  | _ :: _ => none
def blsOf : List D → Option (List Bool)
  | [] => some []
  | .bl i :: r => (blsOf r).map (i :: ·)
  | _ :: _ => none
theorem RpL.ints {K : PySem.W.Frag} {G : Hp} : ∀ {v : List V} {x : List D} {l : List Int}, RpL K cl G v x → intsOf x = some l → v = l.map V.int
  | _, _, _, .nil, e => by cases e; rfl
  | _, _, l, .cons (d := d) a b, e => by
    cases d with
    | int i =>
      have e' : (intsOf _).map (i :: ·) = some l := e
      rw [Option.map_eq_some_iff] at e'
      obtain ⟨y, e', rfl⟩ := e'
      rw [Rp.int_ a, RpL.ints b e']
      rfl
    | _ => cases e
theorem RpL.bls {K : PySem.W.Frag} {G : Hp} : ∀ {v : List V} {x : List D} {l : List Bool}, RpL K cl G v x → blsOf x = some l → v = l.map V.bl
  | _, _, _, .nil, e => by cases e; rfl
  | _, _, l, .cons (d := d) a b, e => by
    cases d with
    | bl i =>
      have e' : (blsOf _).map (i :: ·) = some l := e
      rw [Option.map_eq_some_iff] at e'
      obtain ⟨y, e', rfl⟩ := e'
      rw [Rp.bl_ a, RpL.bls b e']
      rfl
    | _ => cases e
theorem intsOf_map : ∀ l : List Int, intsOf (l.map D.int) = some l
  | [] => rfl
  | i :: r => by
    show (intsOf (r.map D.int)).map (i :: ·) = _
    rw [intsOf_map r]
    rfl
theorem blsOf_map : ∀ l : List Bool, blsOf (l.map D.bl) = some l
  | [] => rfl
  | i :: r => by
    show (blsOf (r.map D.bl)).map (i :: ·) = _
    rw [blsOf_map r]
    rfl
def oSum : Val → Option Val := fun x => (x.items.bind intsOf).map fun l => .d (.int l.sum)
def oAll : Val → Option Val := fun x => (x.items.bind blsOf).map fun l => .d (.bl (l.all id))
def oAny : Val → Option Val := fun x => (x.items.bind blsOf).map fun l => .d (.bl (l.any id))
theorem ve_sum (hc : X.calm = true) (hg : Gl X "sum") (hm : X.mg "sum" = none) (ha : VE X cl W e f) (he : starEach (e :: []) X.env = (false, eval e X.env) :: starEach [] X.env := by rfl) : VE X cl W (.Call (.Name "sum" p) [e] [] pos) (e1 oSum f) :=
  ve_cb (cr_sum hc) (fun x z v Hx G H Q e l r q => by
    unfold oSum at e
    rw [Option.map_eq_some_iff] at e
    obtain ⟨m, e, rfl⟩ := e
    rw [Option.bind_eq_some_iff] at e
    obtain ⟨k, e1, e2⟩ := e
    obtain ⟨a, xs, rfl, h1, h2⟩ := r.items l e1
    have e3 := h2.ints e2
    subst e3
    exact ⟨a, m, rfl, .inl (.inl h1), q _ H G (Ext.refl l) (Rp.int _)⟩) hg hm (by decide +kernel) ha (he := he)
theorem ve_all (hc : X.calm = true) (hg : Gl X "all") (hm : X.mg "all" = none) (ha : VE X cl W e f) (he : starEach (e :: []) X.env = (false, eval e X.env) :: starEach [] X.env := by rfl) : VE X cl W (.Call (.Name "all" p) [e] [] pos) (e1 oAll f) :=
  ve_cb (cr_all hc) (fun x z v Hx G H Q e l r q => by
    unfold oAll at e
    rw [Option.map_eq_some_iff] at e
    obtain ⟨m, e, rfl⟩ := e
    rw [Option.bind_eq_some_iff] at e
    obtain ⟨k, e1, e2⟩ := e
    obtain ⟨a, xs, rfl, h1, h2⟩ := r.items l e1
    have e3 := h2.bls e2
    subst e3
    exact ⟨a, m, rfl, .inl (.inl h1), q _ H G (Ext.refl l) (Rp.bl _)⟩) hg hm (by decide +kernel) ha (he := he)
theorem ve_any (hc : X.calm = true) (hg : Gl X "any") (hm : X.mg "any" = none) (ha : VE X cl W e f) (he : starEach (e :: []) X.env = (false, eval e X.env) :: starEach [] X.env := by rfl) : VE X cl W (.Call (.Name "any" p) [e] [] pos) (e1 oAny f) :=
  ve_cb (cr_any hc) (fun x z v Hx G H Q e l r q => by
    unfold oAny at e
    rw [Option.map_eq_some_iff] at e
    obtain ⟨m, e, rfl⟩ := e
    rw [Option.bind_eq_some_iff] at e
    obtain ⟨k, e1, e2⟩ := e
    obtain ⟨a, xs, rfl, h1, h2⟩ := r.items l e1
    have e3 := h2.bls e2
    subst e3
    exact ⟨a, m, rfl, .inl (.inl h1), q _ H G (Ext.refl l) (Rp.bl _)⟩) hg hm (by decide +kernel) ha (he := he)
def oList : Val → Option Val := fun x => match x with
  | .d (.tup l) => some (.o (.ol (l.map .d)))
  | x => x.items.map fun l => .o (.ol (l.map .d))
theorem ve_list (hg : Gl X "list") (hm : X.mg "list" = none) (ha : VE X cl W e f) (he : starEach (e :: []) X.env = (false, eval e X.env) :: starEach [] X.env := by rfl) : VE X cl W (.Call (.Name "list" p) [e] [] pos) (e1 oList f) :=
  ve_cy call_list_of (fun x z v Hx G H Q e l r q => by
    unfold oList at e
    split at e
    · rename_i m
      cases e
      obtain ⟨a, xs, rfl, h1, h2⟩ := Rp.tup_ (show Rp X.K cl G v (.tup m) from r)
      exact ⟨a, xs, rfl, .inr (l.st h1), fun p hp => q _ _ G ((Ext.refl l).own hp) (vr_new (Ext.refl l) hp h2)⟩
    · rw [Option.map_eq_some_iff] at e
      obtain ⟨m, e, rfl⟩ := e
      obtain ⟨a, xs, rfl, h1, h2⟩ := r.items l e
      exact ⟨a, xs, rfl, .inl (.inl (.inl h1)), fun p hp => q _ _ G ((Ext.refl l).own hp) (vr_new (Ext.refl l) hp h2)⟩) hg hm (by decide +kernel) ha (he := he)
def oTuple : Val → Option Val := fun x => match x with
  | .d (.tup l) => some (.d (.tup l))
  | x => x.items.map fun l => .d (.tup l)
theorem ve_tuple (hg : Gl X "tuple") (hm : X.mg "tuple" = none) (ha : VE X cl W e f) (he : starEach (e :: []) X.env = (false, eval e X.env) :: starEach [] X.env := by rfl) : VE X cl W (.Call (.Name "tuple" p) [e] [] pos) (e1 oTuple f) :=
  ve_cy call_tuple_of (fun x z v Hx G H Q e l r q => by
    unfold oTuple at e
    split at e
    · rename_i m
      cases e
      obtain ⟨a, xs, rfl, h1, h2⟩ := Rp.tup_ (show Rp X.K cl G v (.tup m) from r)
      exact ⟨a, xs, rfl, .inr ⟨l.st h1, q _ H G (Ext.refl l) r⟩⟩
    · rw [Option.map_eq_some_iff] at e
      obtain ⟨m, e, rfl⟩ := e
      obtain ⟨a, xs, rfl, h1, h2⟩ := r.items l e
      exact ⟨a, xs, rfl, .inl ⟨.inl (.inl h1), fun p hp => q _ _ _ ((Ext.refl l).new hp) (rp_tup (Ext.refl l) hp h2)⟩⟩) hg hm (by decide +kernel) ha (he := he)
def oInt : Val → Option Val := fun x => match x.dat with
  | some (.int i) => some (.d (.int i))
  | some (.bl b) => some (.d (.int (if b then 1 else 0)))
  | _ => none
theorem ve_int1 (hg : Gl X "int") (hm : X.mg "int" = none) (ha : VE X cl W e f) (he : starEach (e :: []) X.env = (false, eval e X.env) :: starEach [] X.env := by rfl) : VE X cl W (.Call (.Name "int" p) [e] [] pos) (e1 oInt f) :=
  ve_cy call_int1 (fun x z v Hx G H Q e l r q => by
    unfold oInt at e
    split at e
    · rename_i i hd
      cases e
      rw [Rp.int_ (r.rp l hd)]
      exact .inl ⟨i, rfl, q _ H G (Ext.refl l) (Rp.int _)⟩
    · rename_i i hd
      cases e
      rw [Rp.bl_ (r.rp l hd)]
      exact .inr ⟨i, rfl, q _ H G (Ext.refl l) (Rp.int _)⟩
    · cases e) hg hm (by decide +kernel) ha (he := he)
/-! ### isinstance -/
def D.kind : D → Option String
  | .non => some "NoneType"
  | .bl _ => some "bool"
  | .int _ => some "int"
  | .str _ => some "str"
  | .lst _ => some "list"
  | .tup _ => some "tuple"
  | .dct _ => some "dict"
  | _ => none
def rdTy {K : PySem.W.Frag} {H : Hp} {a : Addr} {kvs : List (Key × V)} (h : Rd H a (.dK kvs)) : TyX K H (.ref a) (.type "dict") := by
  rcases h with h | ⟨o, h⟩
  · exact .base (.dK h)
  · exact .fDict h
theorem Rp.ty {K : PySem.W.Frag} {H : Hp} {v : V} {x : D} {n : String} (h : Rp K cl H v x) (e : x.kind = some n) (hd : n ≠ "dict") : TyX K H v (.type n) := by
  cases h with
  | non => cases e; exact .base .non
  | bl b => cases e; exact .base (.bl b)
  | int i => cases e; exact .base (.int i)
  | str i => cases e; exact .base (.str i)
  | lst s r => cases e; exact .base (.lst s)
  | tup s r =>
    cases e
    rcases s with (s | ⟨o, s⟩) | ⟨o, its, n, h1, h2, _⟩
    · exact .base (.tup s)
    · exact .fTuple s
    · exact .kTuple h1 h2
  | dk s r => cases e; exact absurd rfl hd
  | dt s r => cases e; exact absurd rfl hd
  | fn n => cases e
  | scr s => cases e
def oIsi (c : String) : Val → Option Val := fun x => (x.dat.bind D.kind).bind fun n => if n = "dict" then none else (kitB n c).map fun b => .d (.bl b)
theorem ve_isi {y : Str} {c : String} {p3 : Pos} (hg : Gl X "isinstance") (hm : X.mg "isinstance" = none) (hgy : Gl X y) (hmy : X.mg y = none) (hvy : bootBuiltins y = some (.type c)) (ha : VE X cl W e f) (hny : y ≠ "__name__" := by decide) (hdy : (y == ("__debug__" : Str)) = false := by decide)
    (he : starEach (e :: [.Name y p3]) X.env = (false, eval e X.env) :: starEach [.Name y p3] X.env := by rfl) (hb' : starEach (.Name y p3 :: []) X.env = (false, eval (.Name y p3) X.env) :: starEach [] X.env := by rfl)
    (hpl : (backTo pos (starEach [.Name y p3] X.env)).any (·.1) = false := by rfl) : VE X cl W (.Call (.Name "isinstance" p) [e, .Name y p3] [] pos) (e1 (oIsi c) f) :=
  ve_op1 (r := fun v H Q => rIsi X.K [v, .ty c] H Q) (pe_callB call_isi hg hm (by decide +kernel) (pa_cons ha (pa_cons (pe_bltn hgy hmy hvy (v := .ty c) rfl hny hdy) pa_nil hb') he) (by decide) (by decide) he hpl) fun x z v Hx G H Q e l r q => by
    unfold oIsi at e
    rw [Option.bind_eq_some_iff] at e
    obtain ⟨n, e1, e2⟩ := e
    rw [Option.bind_eq_some_iff] at e1
    obtain ⟨d, e0, e1⟩ := e1
    by_cases hn : n = "dict"
    · rw [if_pos hn] at e2; cases e2
    · rw [if_neg hn, Option.map_eq_some_iff] at e2
      obtain ⟨k, e2, rfl⟩ := e2
      exact ⟨v, .ty c, .type n, .type c, k, rfl, .ty c, (r.rp l e0).ty e1 hn, kit_ty e2, q _ H G (Ext.refl l) (Rp.bl _)⟩
def kit2 (n c1 c2 : String) : Option Bool := (kitB n c1).bind fun a => if a then some true else kitB n c2
def oIsi2 (c1 c2 : String) : Val → Option Val := fun x => (x.dat.bind D.kind).bind fun n => if n = "dict" then none else (kit2 n c1 c2).map fun b => .d (.bl b)
theorem ve_isi2 {y1 y2 : Str} {c1 c2 : String} {p3 p4 p5 : Pos} {nt : Nat} (hg : Gl X "isinstance") (hm : X.mg "isinstance" = none) (hg1 : Gl X y1) (hm1 : X.mg y1 = none) (hv1 : bootBuiltins y1 = some (.type c1)) (hg2 : Gl X y2) (hm2 : X.mg y2 = none) (hv2 : bootBuiltins y2 = some (.type c2)) (ha : VE X cl W e f)
    (hn1 : y1 ≠ "__name__" := by decide) (hd1 : (y1 == ("__debug__" : Str)) = false := by decide) (hn2 : y2 ≠ "__name__" := by decide) (hd2 : (y2 == ("__debug__" : Str)) = false := by decide)
    (he : starEach (e :: [.Tuple [.Name y1 p3, .Name y2 p4] nt p5]) X.env = (false, eval e X.env) :: starEach [.Tuple [.Name y1 p3, .Name y2 p4] nt p5] X.env := by rfl)
    (hpl : (backTo pos (starEach [.Tuple [.Name y1 p3, .Name y2 p4] nt p5] X.env)).any (·.1) = false := by rfl)
    (hb1 : starEach (.Tuple [.Name y1 p3, .Name y2 p4] nt p5 :: []) X.env = (false, eval (.Tuple [.Name y1 p3, .Name y2 p4] nt p5) X.env) :: starEach [] X.env := by rfl)
    (hb2 : starEach [.Name y1 p3, .Name y2 p4] X.env = (false, eval (.Name y1 p3) X.env) :: starEach [.Name y2 p4] X.env := by rfl) (hb3 : starEach [.Name y2 p4] X.env = (false, eval (.Name y2 p4) X.env) :: starEach [] X.env := by rfl) :
    VE X cl W (.Call (.Name "isinstance" p) [e, .Tuple [.Name y1 p3, .Name y2 p4] nt p5] [] pos) (e1 (oIsi2 c1 c2) f) :=
  ve_op1 (r := fun v H Q => 2 ≤ sizeLine ∧ ∀ p, H p = none → rIsiT X.K [v, .ref p] (upd H p (.tup [.ty c1, .ty c2])) Q)
    (pe_callB call_isiT hg hm (by decide +kernel) (pa_cons ha (pa_cons (pe_tup (pa_cons (pe_bltn hg1 hm1 hv1 (v := .ty c1) rfl hn1 hd1) (pa_cons (pe_bltn hg2 hm2 hv2 (v := .ty c2) rfl hn2 hd2) pa_nil hb3) hb2)) pa_nil hb1) he) (by decide) (by decide) he hpl) fun x z v Hx G H Q e l r q => by
    unfold oIsi2 at e
    rw [Option.bind_eq_some_iff] at e
    obtain ⟨n, e1, e2⟩ := e
    rw [Option.bind_eq_some_iff] at e1
    obtain ⟨d, e0, e1⟩ := e1
    by_cases hn : n = "dict"
    · rw [if_pos hn] at e2; cases e2
    · rw [if_neg hn, Option.map_eq_some_iff] at e2
      obtain ⟨k, e2, rfl⟩ := e2
      refine ⟨by decide, fun p hp => ?_⟩
      have x1 := (Ext.refl l).own (o := .tup [.ty c1, .ty c2]) hp
      have ek : PySem.W.kitAny X.K (.type n) [.type c1, .type c2] = some k := by
        unfold kit2 at e2
        rw [Option.bind_eq_some_iff] at e2
        obtain ⟨a, e3, e4⟩ := e2
        cases a with
        | true =>
          cases e4
          exact kitAny_cons (kit_ty e3) (fun z => by cases z) fun _ => rfl
        | false =>
          refine kitAny_cons (kit_ty e3) (fun _ => ?_) (fun z => by cases z)
          refine kitAny_cons (r := k) (kit_ty (show kitB n c2 = some k from e4)) (fun z => ?_) fun z => z
          rw [z]
          exact kitAny_nil
      exact ⟨v, p, _, .type n, _, k, rfl, upd_same, .cons (.ty c1) (.cons (.ty c2) .nil), ((r.ext x1).rp x1.gh e0).ty e1 hn, ek, q _ _ G x1 (Rp.bl _)⟩
end

/-! ### what a def promises -/
def postF (K : PySem.W.Frag) (cl : Str → Addr) (G H : Hp) (Q : VK) : Sl → Prop := fun s => ∀ v H' G', Ext G H G' H' → VR K cl G' H' v H (.o s) → Q v H'
def badF (cl : Str → Addr) (G H : Hp) (E : XK) : Exn → Prop := fun e => ∀ c d H' G', Ext G H G' H' → ExR cl e c d H' → E c d H'
/-- data in, f's answer out -/
def spP (K : PySem.W.Frag) (cl : Str → Addr) (n : Nat) (f : List D → R Sl) : Sp := fun vs H Q E => ∃ G ds, LeR G H ∧ RpL K cl G vs ds ∧ ds.length = n ∧ FinG (postF K cl G H Q) (badF cl G H E) (f ds)
def nox {α : Type} : R α → R α
  | .ex _ => .st
  | r => r
section
variable {X : Cx} {cl : Str → Addr} {W : XW} {e a b c : Expr} {es : List Expr} {f g h : Env → R Val} {fs : Env → R (List D)} {pos p : Pos} {k n : Nat} {fa : Addr} {fd : FuncData} {ps : List Str} {x : Str} {F : List D → R Sl}
theorem aN_len : ∀ ρ ds, aN ρ = .ok ds → ds.length = 0 := fun ρ ds h => by
  cases h
  rfl
theorem aC_len {m : Nat} (hm : ∀ ρ ds, fs ρ = .ok ds → ds.length = m) : ∀ ρ ds, aC f fs ρ = .ok ds → ds.length = m + 1 := fun ρ ds h => by
  unfold aC at h
  cases e1 : f ρ with
  | st => rw [e1] at h; cases h
  | ex z => rw [e1] at h; cases h
  | ok x =>
    rw [e1, R.ok_bind] at h
    cases e2 : x.fz with
    | st => rw [e2] at h; cases h
    | ex z => rw [e2] at h; cases h
    | ok y =>
      rw [e2, R.ok_bind] at h
      cases e3 : fs ρ with
      | st => rw [e3] at h; cases h
      | ex z => rw [e3] at h; cases h
      | ok ys =>
        rw [e3, R.ok_bind] at h
        cases h
        rw [List.length_cons, hm ρ ys e3]
theorem bC_len {m : Nat} (hm : ∀ ρ ds, fs ρ = .ok ds → ds.length = m) : ∀ ρ ds, bC f fs ρ = .ok ds → ds.length = m + 1 := fun ρ ds h => by
  unfold bC at h
  cases e1 : f ρ with
  | st => rw [e1] at h; cases h
  | ex z => rw [e1] at h; cases h
  | ok x =>
    rw [e1, R.ok_bind] at h
    cases e2 : x.dat with
    | none => rw [e2] at h; cases h
    | some y =>
      rw [e2, R.of_some, R.ok_bind] at h
      cases e3 : fs ρ with
      | st => rw [e3] at h; cases h
      | ex z => rw [e3] at h; cases h
      | ok ys =>
        rw [e3, R.ok_bind] at h
        cases h
        rw [List.length_cons, hm ρ ys e3]
def eCl (F : List D → R Sl) (fs : Env → R (List D)) : Env → R Val := fun ρ => fs ρ >>= fun ds => nox (F ds) >>= fun s => .ok (Val.ofSl s)
theorem vr_of {K : PySem.W.Frag} {G H Hs : Hp} {v : V} {s : Sl} (r : VR K cl G H v Hs (.o s)) : VR K cl G H v Hs (Val.ofSl s) := by
  obtain ⟨fp, w, n⟩ := r
  exact w.vr n
/-- a call that lets no exception out -/
theorem ve_call (hF : FnOk X.prog X.w X.K X.mg X.base CX0 k fa fd ps (spP X.K cl n F)) (hr : Room k X.A) (hg : Gl X x) (hm : X.mg x = some (.ref fa)) (hk : PySem.W.keepIn X.K (.ref fa) = true) (hb : Binds X.K fd ps []) (ha : VA X cl W (e :: es) fs)
    (hdb : (x == ("__debug__" : Str)) = false := by decide) (he : starEach (e :: es) X.env = (false, eval e X.env) :: starEach es X.env := by rfl) (hpl : (backTo pos (starEach es X.env)).any (·.1) = false := by rfl)
    (hln : ∀ ρ ds, fs ρ = .ok ds → ds.length = n) : VE X cl W (.Call (.Name x p) (e :: es) [] pos) (eCl F fs) :=
  PE.imp (pe_call hF hr hg hm hk hb .nil pass0 ha hdb he hpl) fun σ H Q ⟨ρ, G, B, rl, q⟩ => tA_mono (tA_run rl (Ext.refl rl.gh) q) fun vs H1 ⟨ds, G1, x1, _, r1, e1, q⟩ => by
    refine ⟨G1, ds, x1.gh, by rw [List.append_nil]; exact r1, hln ρ ds e1, ?_⟩
    cases ef : F ds with
    | st => rw [ef] at q; exact q.elim
    | ex z => rw [ef] at q; exact q.elim
    | ok s =>
      rw [ef] at q
      exact fun v H' G' x' r' => q v H' G' (x1.trans x') ((vr_of r').start x1.hh)
/-- a scalar -/
def D.sc : D → Bool
  | .non => true
  | .bl _ => true
  | .int _ => true
  | .str _ => true
  | _ => false
theorem sc_rp {K : PySem.W.Frag} {G G' : Hp} {v : V} {x : D} (h : Rp K cl G v x) (e : x.sc = true) : Rp K cl G' v x := by
  cases h <;> first | (cases e; done) | constructor
def scOf : Sl → R Val
  | .d x => if x.sc then .ok (.d x) else .st
  | _ => .st
def eClB (F : List D → R Sl) (fs : Env → R (List D)) : Env → R Val := fun ρ => fs ρ >>= fun ds => nox (F ds) >>= scOf
/-- .. whose arguments are only read and whose answer is a scalar -/
theorem ve_callB (hF : FnOk X.prog X.w X.K X.mg X.base CX0 k fa fd ps (spP X.K cl n F)) (hr : Room k X.A) (hg : Gl X x) (hm : X.mg x = some (.ref fa)) (hk : PySem.W.keepIn X.K (.ref fa) = true) (hb : Binds X.K fd ps []) (ha : VB X cl W (e :: es) fs)
    (hdb : (x == ("__debug__" : Str)) = false := by decide) (he : starEach (e :: es) X.env = (false, eval e X.env) :: starEach es X.env := by rfl) (hpl : (backTo pos (starEach es X.env)).any (·.1) = false := by rfl)
    (hln : ∀ ρ ds, fs ρ = .ok ds → ds.length = n) : VE X cl W (.Call (.Name x p) (e :: es) [] pos) (eClB F fs) :=
  PE.imp (pe_call hF hr hg hm hk hb .nil pass0 ha hdb he hpl) fun σ H Q ⟨ρ, G, B, rl, q⟩ => tB_mono (tB_run rl (Ext.refl rl.gh) q) fun vs H1 ⟨ds, G1, x1, _, r1, e1, q⟩ => by
    refine ⟨H1, ds, LeR.refl _, by rw [List.append_nil]; exact r1, hln ρ ds e1, ?_⟩
    cases ef : F ds with
    | st => rw [ef] at q; exact q.elim
    | ex z => rw [ef] at q; exact q.elim
    | ok s =>
      rw [ef] at q
      have q : FinG (postE X.K cl G H Q) (bad cl W G H σ) (scOf s) := q
      cases s with
      | d y =>
        have q : FinG (postE X.K cl G H Q) (bad cl W G H σ) (if y.sc then .ok (.d y) else .st) := q
        by_cases hy : y.sc = true
        · rw [if_pos hy] at q
          intro v H' G' x' r'
          obtain ⟨fp, w, _⟩ := r'
          cases w with
          | d r2 => exact q v H' G1 (x1.trans ⟨x'.hh, Same.refl _, x1.gh.trans (sameR x'.hh), fun _ _ z => .inl z⟩) (sc_rp r2 hy)
        · rw [if_neg hy] at q; exact q.elim
      | _ => exact q.elim
end
end Vl

/-! VlF: statements, loops, comprehensions, defs. -/
namespace Vl
open PySem L2 PySem.Spec

inductive Fl where
  | nx (ρ : Env) | br (ρ : Env) | ct (ρ : Env) | rt (s : Sl) (ρ : Env) | rs (e : Exn) (ρ : Env)
abbrev SS := Env → Option Fl

section
variable (K : PySem.W.Frag) (cl : Str → Addr) (W : XW)
def FinS (B : Base) (D : Ends) : Option Fl → Prop
  | none => False
  | some (.nx ρ) => ∀ σ H G, Rel K cl B G ρ σ H → D.nx σ H
  | some (.br ρ) => ∀ σ H G, Rel K cl B G ρ σ H → D.bk σ H
  | some (.ct ρ) => ∀ σ H G, Rel K cl B G ρ σ H → D.ct σ H
  | some (.rt s ρ) => ∀ v σ H G, Rel K cl B G (some s :: ρ) (some v :: σ) H → D.rt v H
  | some (.rs e ρ) => ∀ c d σ H G, Rel K cl B G ρ σ H → ExR cl e c d H → W c d σ H
def tS (f : SS) : TS := fun D σ H => ∃ ρ G B, Rel K cl B G ρ σ H ∧ FinS K cl W B D (f ρ)
end
abbrev VS (X : Cx) (cl : Str → Addr) (W : XW) (st : Stmt) (f : SS) : Prop := PS X st (tS X.K cl W f)
abbrev VSs (X : Cx) (cl : Str → Addr) (W : XW) (st : List Stmt) (f : SS) : Prop := PSs X st (tS X.K cl W f)

/-! ### slots given -/
section
variable {K : PySem.W.Frag} {cl : Str → Addr} {W : XW} {B : Base} {G G0 G' H Hs H' : Hp} {ρ : Env} {σ : L2.St}
theorem Rel.put {i : Nat} {v : V} {s : Sl} {fp : List Addr} (r : Rel K cl B G0 ρ σ Hs) (x : Ext G0 Hs G H) (hi : i < ρ.length) (w : Ow K cl G H v s fp) (n : ∀ a ∈ fp, Hs a = none ∧ G a = none) : Rel K cl B G (ρ.set i (some s)) (σ.set i (some v)) H := by
  obtain ⟨fps, sl, hn⟩ := r.sl
  have r2 := r.ext x
  have sl2 : SlR K cl G H σ ρ fps := sl.fr (sameR x.gg) fun a _ o e => x.hh a o e
  have dis : ∀ a ∈ fp, a ∉ fps := fun a m m' => by
    obtain ⟨o, e⟩ := sl.dom a m'
    rw [(n a m).1] at e
    cases e
  obtain ⟨fq, q1, q2⟩ := sl2.put (by rw [sl.length]; exact hi) w dis
  refine ⟨r2.gh, r2.h0, r2.g0, r2.gn, fq, q1, fun a m => ?_⟩
  rcases q2 a m with z | z
  · exact ⟨(n a z).2, r.h0n (n a z).1⟩
  · exact ⟨x.g_none (hn a z).1 (sl.dom a z), (hn a z).2⟩
theorem Rel.putD {i : Nat} {v : V} {d : D} (r : Rel K cl B G ρ σ H) (hi : i < ρ.length) (w : Rp K cl G v d) : Rel K cl B G (ρ.set i (some (.d d))) (σ.set i (some v)) H :=
  r.put (Ext.refl r.gh) hi (.d w) fun _ m => nomatch m
theorem Rel.cut (i : Nat) (w : Option V) (r : Rel K cl B G ρ σ H) : Rel K cl B G (ρ.set i none) (σ.set i w) H := by
  obtain ⟨fps, sl, hn⟩ := r.sl
  obtain ⟨fq, q1, q2⟩ := sl.cut i w
  exact ⟨r.gh, r.h0, r.g0, r.gn, fq, q1, fun a m => hn a (q2 a m)⟩
theorem Rel.up {G1 : Hp} (r : Rel K cl B G ρ σ H) (s : Same B.G0 G1) (s1 : Same G1 G) : Rel K cl ⟨B.H0, G1, B.L⟩ G ρ σ H :=
  ⟨r.gh, r.h0, s1, fun a o e => (r.gn a o e).elim (fun z => .inl (s _ _ z)) .inr, r.sl⟩
theorem Rel.down {G1 : Hp} (r : Rel K cl ⟨B.H0, G1, B.L⟩ G ρ σ H) (s : Same B.G0 G1) (n : ∀ a o, G1 a = some o → B.G0 a = some o ∨ B.H0 a = none) : Rel K cl B G ρ σ H :=
  ⟨r.gh, r.h0, s.trans r.g0, fun a o e => (r.gn a o e).elim (fun z => n a o z) .inr, r.sl⟩
/-- a slot's tree is let go as data, for ever -/
def frzE (i : Nat) (ρ : Env) : Option Env := match ρ[i]? with
  | some (some s) => match s.frz with
    | some x => some (ρ.set i (some (.d x)))
    | none => none
  | _ => none
theorem set_self {α : Type} {l : List α} {i : Nat} {a : α} (h : l[i]? = some a) : l.set i a = l := by
  apply List.ext_getElem?
  intro j
  by_cases e : i = j
  · subst e
    rw [List.getElem?_set_self (List.getElem?_eq_some_iff.mp h).1, h]
  · rw [List.getElem?_set_ne e]
theorem Rel.frz {i : Nat} {ρ' : Env} (r : Rel K cl B G ρ σ H) (e : frzE i ρ = some ρ') : ∃ G', Rel K cl B G' ρ' σ H := by
  unfold frzE at e
  split at e
  · rename_i s hs
    split at e
    · rename_i x hx
      cases e
      obtain ⟨fps, sl, hn⟩ := r.sl
      obtain ⟨v, fp, fr, h1, h2, h3, h4, h5, h6, _⟩ := sl.at hs
      have sg : Same G (fun a => if a ∈ fp then H a else G a) := fun a o h => by
        show (if a ∈ fp then H a else G a) = some o
        by_cases m : a ∈ fp
        · rw [(hn a (h3 a m)).1] at h
          cases h
        · rw [if_neg m]
          exact h
      have rp : Rp K cl (fun a => if a ∈ fp then H a else G a) v x := Ow.rp (sameR sg) _ _ _ h2 (fun a m u h => by show (if a ∈ fp then H a else G a) = some u; rw [if_pos m]; exact h) x hx
      obtain ⟨fq, q1, q2⟩ := h6 v (.d x) [] (fun a => if a ∈ fp then H a else G a) H (sameR sg) (fun _ _ _ e => e) (.d rp) (fun _ m => nomatch m)
      rw [set_self h1] at q1
      refine ⟨_, fun a o h => ?_, r.h0, r.g0.trans sg, fun a o h => ?_, fq, q1, fun a m => ?_⟩
      · have h : (if a ∈ fp then H a else G a) = some o := h
        by_cases m : a ∈ fp
        · rw [if_pos m] at h
          exact .inl h
        · rw [if_neg m] at h
          exact r.gh a o h
      · have h : (if a ∈ fp then H a else G a) = some o := h
        by_cases m : a ∈ fp
        · exact .inr (hn a (h3 a m)).2
        · rw [if_neg m] at h
          exact r.gn a o h
      · rcases q2 a m with z | z
        · cases z
        · refine ⟨?_, (hn a (h4 a z)).2⟩
          show (if a ∈ fp then H a else G a) = none
          rw [if_neg fun m' => h5 a m' z]
          exact (hn a (h4 a z)).1
    · cases e
  · cases e
end

/-! ### statements -/
section
variable {X : Cx} {cl : Str → Addr} {W : XW} {e a b c : Expr} {es : List Expr} {f g h : Env → R Val} {fs : Env → R (List D)} {t : Env → R Bool} {pos pos' p : Pos} {s1 s2 : SS} {st : Stmt} {rest bd bd2 : List Stmt}
def sE (f : Env → R Val) (k : Val → Env → Option Fl) : SS := fun ρ => match f ρ with
  | .st => none
  | .ok x => k x ρ
  | .ex e => some (.rs e ρ)
theorem tE_st {K : PySem.W.Frag} {k : Val → Env → Option Fl} {D : Ends} {σ : L2.St} {H : Hp} (q : tS K cl W (sE f k) D σ H) :
    tE K cl W f σ H (fun v H1 => ∃ x ρ G0 G B, Rel K cl B G0 ρ σ H ∧ Ext G0 H G H1 ∧ VR K cl G H1 v H x ∧ FinS K cl W B D (k x ρ)) := by
  obtain ⟨ρ, G, B, r, q⟩ := q
  refine ⟨ρ, G, B, r, ?_⟩
  have q : FinS K cl W B D (match f ρ with | .st => none | .ok x => k x ρ | .ex e => some (.rs e ρ)) := q
  cases ef : f ρ with
  | st => rw [ef] at q; exact q
  | ok x => rw [ef] at q; exact fun v H' G' x' r' => ⟨x, ρ, G, G', B, r, x', r', q⟩
  | ex z => rw [ef] at q; exact fun c d H' G' x' er => q c d σ H' G' (r.ext x') er
def sSeq (s1 s2 : SS) : SS := fun ρ => match s1 ρ with
  | some (.nx ρ') => s2 ρ'
  | r => r
def sNil : SS := fun ρ => some (.nx ρ)
theorem vss_nil : VSs X cl W [] sNil := PSs.imp pss_nil fun D σ H ⟨ρ, G, B, r, q⟩ => q σ H G r
theorem tS_seq {K : PySem.W.Frag} {D : Ends} {σ : L2.St} {H : Hp} (q : tS K cl W (sSeq s1 s2) D σ H) : tSeq (tS K cl W s1) (tS K cl W s2) D σ H := by
  obtain ⟨ρ, G, B, r, q⟩ := q
  refine ⟨ρ, G, B, r, ?_⟩
  have q : FinS K cl W B D (match s1 ρ with | some (.nx ρ') => s2 ρ' | r => r) := q
  cases e1 : s1 ρ with
  | none => rw [e1] at q; exact q
  | some fl =>
    rw [e1] at q
    cases fl with
    | nx ρ' => exact fun σ' H' G' r' => ⟨ρ', G', B, r', q⟩
    | _ => exact q
theorem vss_cons (h1 : VS X cl W st s1) (h2 : VSs X cl W rest s2) : VSs X cl W (st :: rest) (sSeq s1 s2) := PSs.imp (pss_cons h1 h2) fun _ _ _ q => tS_seq q
theorem vss_one (h1 : VS X cl W st s1) : VSs X cl W [st] s1 := pss_one h1
/-- a slot's tree is frozen ahead of a statement -/
def sFrz (i : Nat) (s1 : SS) : SS := fun ρ => (frzE i ρ).bind s1
theorem vs_frz {i : Nat} (h1 : VS X cl W st s1) : VS X cl W st (sFrz i s1) := PS.imp h1 fun D σ H ⟨ρ, G, B, r, q⟩ => by
  have q : FinS X.K cl W B D ((frzE i ρ).bind s1) := q
  cases e : frzE i ρ with
  | none => rw [e] at q; exact q.elim
  | some ρ' =>
    rw [e] at q
    obtain ⟨G', r'⟩ := r.frz e
    exact ⟨ρ', G', B, r', q⟩
theorem vs_pass : VS X cl W (.Pass pos) sNil := PS.imp ps_pass fun D σ H ⟨ρ, G, B, r, q⟩ => q σ H G r
theorem vs_doc {x : Str} {j : Nat} : VS X cl W (.Expr (.Constant (.str x) j pos) pos') sNil := PS.imp ps_doc fun D σ H ⟨ρ, G, B, r, q⟩ => q σ H G r
theorem vs_break : VS X cl W (.Break pos) (fun ρ => some (.br ρ)) := PS.imp ps_break fun D σ H ⟨ρ, G, B, r, q⟩ => q σ H G r
theorem vs_cont : VS X cl W (.Continue pos) (fun ρ => some (.ct ρ)) := PS.imp ps_continue fun D σ H ⟨ρ, G, B, r, q⟩ => q σ H G r
def sNever : SS := fun _ => none
theorem vs_never : VS X cl W st sNever := PS.imp ps_never fun D σ H ⟨ρ, G, B, r, q⟩ => q
theorem vss_never : VSs X cl W rest sNever := PSs.imp pss_never fun D σ H ⟨ρ, G, B, r, q⟩ => q
def sEx (f : Env → R Val) : SS := sE f fun _ ρ => some (.nx ρ)
theorem vs_expr (ha : VE X cl W e f) (hs : swapsWith e none pos.line X.env = pure false := by rfl) : VS X cl W (.Expr e pos) (sEx f) := PS.imp (ps_expr ha hs) fun D σ H q =>
  tE_mono (tE_st q) fun v H1 ⟨x, ρ, G0, G, B, r, x1, _, q⟩ => q σ H1 G (r.ext x1)
def sRet (f : Env → R Val) : SS := sE f fun x ρ => match x with
  | .d y => some (.rt (.d y) ρ)
  | .o s => some (.rt s ρ)
  | .b _ => none
theorem Rel.ret {K : PySem.W.Frag} {B : Base} {G0 G H Hs : Hp} {ρ : Env} {σ : L2.St} {v : V} {s : Sl} (r : Rel K cl B G0 ρ σ Hs) (x : Ext G0 Hs G H) (w : VR K cl G H v Hs (.o s)) : Rel K cl B G (some s :: ρ) (some v :: σ) H := by
  obtain ⟨fps, sl, hn⟩ := r.sl
  obtain ⟨fp, ow, n⟩ := w
  have r2 := r.ext x
  refine ⟨r2.gh, r2.h0, r2.g0, r2.gn, fp ++ fps, .so ow (sl.fr (sameR x.gg) fun a _ o e => x.hh a o e) (fun a m m' => ?_), fun a m => ?_⟩
  · obtain ⟨o, e⟩ := sl.dom a m'
    rw [(n a m).1] at e
    cases e
  · rcases List.mem_append.mp m with z | z
    · exact ⟨(n a z).2, r.h0n (n a z).1⟩
    · exact ⟨x.g_none (hn a z).1 (sl.dom a z), (hn a z).2⟩
theorem vs_ret (ha : VE X cl W e f) : VS X cl W (.Return (some e) pos) (sRet f) := PS.imp (ps_ret ha) fun D σ H q =>
  tE_mono (tE_st q) fun v H1 ⟨x, ρ, G0, G, B, r, x1, v1, q⟩ => by
    cases x with
    | d y => exact q v σ H1 G (r.ret x1 ⟨[], .d v1, fun _ m => nomatch m⟩)
    | o s => exact q v σ H1 G (r.ret x1 v1)
    | b s => exact q.elim
theorem vs_retN : VS X cl W (.Return none pos) (fun ρ => some (.rt (.d .non) ρ)) := PS.imp ps_retN fun D σ H ⟨ρ, G, B, r, q⟩ =>
  q .non σ H G (r.ret (Ext.refl r.gh) ⟨[], .d .non, fun _ m => nomatch m⟩)
/-- return name: what the name holds is handed on -/
def sRetV (i : Nat) : SS := fun ρ => match ρ[i]? with
  | some (some s) => some (.rt s (ρ.set i none))
  | _ => none
theorem vs_retV {i : Nat} (h : PE X e (tVar i)) : VS X cl W (.Return (some e) pos) (sRetV i) := PS.imp (ps_ret h) fun D σ H ⟨ρ, G, B, r, q⟩ => by
  unfold sRetV at q
  split at q
  · rename_i s hs
    obtain ⟨fps, sl, hn⟩ := r.sl
    obtain ⟨v, fp, fr, h1, h2, h3, h4, h5, _, h7⟩ := sl.at hs
    refine ⟨v, h1, q v σ H G ⟨r.gh, r.h0, r.g0, r.gn, fp ++ fr, .so h2 (h7 G H (LeR.refl G) fun _ _ _ e => e) h5, fun a m => ?_⟩⟩
    rcases List.mem_append.mp m with z | z
    · exact hn a (h3 a z)
    · exact hn a (h4 a z)
  · exact q.elim
def sIf (t : Env → R Bool) (s1 s2 : SS) : SS := fun ρ => match t ρ with
  | .st => none
  | .ok true => s1 ρ
  | .ok false => s2 ρ
  | .ex e => some (.rs e ρ)
theorem vs_if (hc : VT X cl W c t) (ha : VSs X cl W bd s1) (hb : VSs X cl W bd2 s2) : VS X cl W (.If c bd bd2 pos) (sIf t s1 s2) := PS.imp (ps_if hc ha hb) fun D σ H ⟨ρ, G, B, r, q⟩ => by
  refine ⟨ρ, G, B, r, ?_⟩
  have q : FinS X.K cl W B D (match t ρ with | .st => none | .ok true => s1 ρ | .ok false => s2 ρ | .ex e => some (.rs e ρ)) := q
  cases et : t ρ with
  | st => rw [et] at q; exact q
  | ex z => rw [et] at q; exact fun c d H' G' x' er => q c d σ H' G' (r.ext x') er
  | ok k =>
    rw [et] at q
    cases k with
    | true => exact fun H' G' x' => (show tS X.K cl W s1 D σ H' from ⟨ρ, G', B, r.ext x', q⟩)
    | false => exact fun H' G' x' => (show tS X.K cl W s2 D σ H' from ⟨ρ, G', B, r.ext x', q⟩)

/-! ### targets -/
abbrev GS := D → Env → Option Env
def tG (K : PySem.W.Frag) (cl : Str → Addr) (gs : GS) (is : List Nat) : TG := fun v σ H Q => ∃ ρ G B d, Rel K cl B G ρ σ H ∧ Rp K cl G v d ∧ ∃ ρ', gs d ρ = some ρ' ∧ ∀ σ', (∀ j, j ∉ is → σ'[j]? = σ[j]?) → σ'.length = σ.length → Rel K cl B G ρ' σ' H → Q σ' H
def tGs (K : PySem.W.Frag) (cl : Str → Addr) (gs : List D → Env → Option Env) (is : List Nat) : TGs := fun v σ H Q => ∃ ρ G B d, Rel K cl B G ρ σ H ∧ RpL K cl G v d ∧ ∃ ρ', gs d ρ = some ρ' ∧ ∀ σ', (∀ j, j ∉ is → σ'[j]? = σ[j]?) → σ'.length = σ.length → Rel K cl B G ρ' σ' H → Q σ' H
abbrev VG (X : Cx) (cl : Str → Addr) (e : Expr) (gs : GS) (is : List Nat) : Prop := PG X e (tG X.K cl gs is)
abbrev VGs (X : Cx) (cl : Str → Addr) (e : List Expr) (gs : List D → Env → Option Env) (is : List Nat) : Prop := PGs X e (tGs X.K cl gs is)
theorem PG.imp {X : Cx} {e : Expr} {t t' : TG} (h : PG X e t) (hi : ∀ v σ H Q, t' v σ H Q → t v σ H Q) : PG X e t' := ⟨fun pins s σ H v u Q I r q => h.run pins s σ H v u Q I r (hi v σ H Q q)⟩
theorem PGs.imp {X : Cx} {e : List Expr} {t t' : TGs} (h : PGs X e t) (hi : ∀ v σ H Q, t' v σ H Q → t v σ H Q) : PGs X e t' := ⟨fun pins s σ H v u Q I r q => h.run pins s σ H v u Q I r (hi v σ H Q q)⟩
def gV (i : Nat) : GS := fun d ρ => if i < ρ.length then some (ρ.set i (some (.d d))) else none
theorem vg_name {i : Nat} {x : Str} (hN : X.N.Nodup) (hi : X.N[i]? = some x) (hx : Loc X.env.scope x) (hf : X.fn x = true ∨ X.env.scope.names.lookup x = some .local := by first | exact .inl rfl | exact .inr rfl | assumption) : VG X cl (.Name x pos) (gV i) [i] :=
  PG.imp (pg_name hN hi hx hf) fun v σ H Q ⟨ρ, G, B, d, r, rp, ρ', e, q⟩ => by
    unfold gV at e
    split at e
    · rename_i hl
      cases e
      exact q _ (fun j hj => List.getElem?_set_ne (fun z => hj (by simp [z]))) (List.length_set ..) (r.putD hl rp)
    · cases e
def gN : List D → Env → Option Env := fun ds ρ => match ds with
  | [] => some ρ
  | _ => none
def gC (g : GS) (gs : List D → Env → Option Env) : List D → Env → Option Env := fun ds ρ => match ds with
  | d :: r => (g d ρ).bind (gs r)
  | [] => none
theorem vgs_nil : VGs X cl [] gN [] := PGs.imp pgs_nil fun v σ H Q ⟨ρ, G, B, d, r, rp, ρ', e, q⟩ => by
  cases rp with
  | nil =>
    cases e
    exact ⟨rfl, q σ (fun _ _ => rfl) rfl r⟩
  | cons _ _ => cases e
theorem vgs_cons {g : GS} {gs : List D → Env → Option Env} {is js : List Nat} (h1 : VG X cl e g is) (h2 : VGs X cl es gs js) (hs : (assignEach (e :: es) X.env).map (·.2) = assign e X.env :: (assignEach es X.env).map (·.2) := by rfl) : VGs X cl (e :: es) (gC g gs) (is ++ js) :=
  PGs.imp (pgs_cons h1 h2 hs) fun v σ H Q ⟨ρ, G, B, d, r, rp, ρ', e, q⟩ => by
    cases rp with
    | nil => cases e
    | cons a b =>
      have e : (g _ ρ).bind (gs _) = some ρ' := e
      rw [Option.bind_eq_some_iff] at e
      obtain ⟨ρ1, e1, e2⟩ := e
      refine ⟨_, _, rfl, ρ, G, B, _, r, a, ρ1, e1, fun σ1 k1 l1 r1 => ?_⟩
      refine ⟨ρ1, G, B, _, r1, b, ρ', e2, fun σ2 k2 l2 r2 => q σ2 (fun j hj => ?_) (l2.trans l1) r2⟩
      rw [k2 j fun m => hj (by simp [m]), k1 j fun m => hj (by simp [m])]
def gT (gs : List D → Env → Option Env) : GS := fun d ρ => match d with
  | .tup l => gs l ρ
  | _ => none
theorem vg_tup {gs : List D → Env → Option Env} {is : List Nat} {k n : Nat} (hc : X.calm = true) (h1 : VGs X cl es gs is) (hln : ∀ ds ρ ρ', gs ds ρ = some ρ' → ds.length = n) (hn : (assignEach es X.env).length = n := by rfl) (hst : (assignEach es X.env).findIdx? (·.1) = none := by rfl) :
    VG X cl (.Tuple es k pos) (gT gs) is := PG.imp (pg_tup hc h1 hn hst) fun v σ H Q ⟨ρ, G, B, d, r, rp, ρ', e, q⟩ => by
  cases d with
  | tup l =>
    obtain ⟨a, xs, rfl, h2, h3⟩ := Rp.tup_ rp
    exact ⟨a, xs, rfl, r.gh.st h2, by rw [h3.length]; exact hln l ρ ρ' e, ρ, G, B, l, r, h3, ρ', e, q⟩
  | _ => cases e
theorem gN_len : ∀ ds ρ ρ', gN ds ρ = some ρ' → ds.length = 0 := fun ds ρ ρ' h => by
  cases ds with
  | nil => rfl
  | cons _ _ => cases h
theorem gC_len {g : GS} {gs : List D → Env → Option Env} {n : Nat} (h : ∀ ds ρ ρ', gs ds ρ = some ρ' → ds.length = n) : ∀ ds ρ ρ', gC g gs ds ρ = some ρ' → ds.length = n + 1 := fun ds ρ ρ' e => by
  cases ds with
  | nil => cases e
  | cons d r =>
    have e : (g d ρ).bind (gs r) = some ρ' := e
    rw [Option.bind_eq_some_iff] at e
    obtain ⟨ρ1, _, e2⟩ := e
    rw [List.length_cons, h r ρ1 ρ' e2]

/-! ### assignments -/
def kSet (i : Nat) : Val → Env → Option Fl := fun x ρ => match x.fz with
  | .ok y => if i < ρ.length then some (.nx (ρ.set i (some (.d y)))) else none
  | _ => none
def sSet (i : Nat) (f : Env → R Val) : SS := sE f (kSet i)
/-- a new tree stays one -/
def kSetO (i : Nat) : Val → Env → Option Fl := fun x ρ => match x with
  | .d y => if i < ρ.length then some (.nx (ρ.set i (some (.d y)))) else none
  | .o s => if i < ρ.length then some (.nx (ρ.set i (some s))) else none
  | .b _ => none
def sSetO (i : Nat) (f : Env → R Val) : SS := sE f (kSetO i)
theorem fin_set {K : PySem.W.Frag} {i : Nat} {B : Base} {D : Ends} {G0 G H Hs : Hp} {ρ : Env} {σ : L2.St} {v : V} {x : Val} (r : Rel K cl B G0 ρ σ Hs) (x1 : Ext G0 Hs G H) (v1 : VR K cl G H v Hs x) (q : FinS K cl W B D (kSet i x ρ)) : D.nx (σ.set i (some v)) H := by
  unfold kSet at q
  cases ex : x.fz with
  | st => rw [ex] at q; exact q.elim
  | ex z => rw [ex] at q; exact q.elim
  | ok y =>
    rw [ex] at q
    have q : FinS K cl W B D (if i < ρ.length then some (.nx (ρ.set i (some (.d y)))) else none) := q
    by_cases hl : i < ρ.length
    · rw [if_pos hl] at q
      obtain ⟨G', x2, _, rp⟩ := v1.fz x1 ex
      exact q _ H G' ((r.ext x2).putD hl rp)
    · rw [if_neg hl] at q; exact q.elim
theorem fin_setO {K : PySem.W.Frag} {i : Nat} {B : Base} {D : Ends} {G0 G H Hs : Hp} {ρ : Env} {σ : L2.St} {v : V} {x : Val} (r : Rel K cl B G0 ρ σ Hs) (x1 : Ext G0 Hs G H) (v1 : VR K cl G H v Hs x) (q : FinS K cl W B D (kSetO i x ρ)) : D.nx (σ.set i (some v)) H := by
  cases x with
  | d y =>
    have q : FinS K cl W B D (if i < ρ.length then some (.nx (ρ.set i (some (.d y)))) else none) := q
    by_cases hl : i < ρ.length
    · rw [if_pos hl] at q
      exact q _ H G ((r.ext x1).putD hl v1)
    · rw [if_neg hl] at q; exact q.elim
  | o s =>
    have q : FinS K cl W B D (if i < ρ.length then some (.nx (ρ.set i (some s))) else none) := q
    by_cases hl : i < ρ.length
    · rw [if_pos hl] at q
      obtain ⟨fp, w, n⟩ := v1
      exact q _ H G (r.put x1 hl w n)
    · rw [if_neg hl] at q; exact q.elim
  | b s => exact q.elim
theorem vs_set {i : Nat} {x : Str} (hN : X.N.Nodup) (hi : X.N[i]? = some x) (hx : Loc X.env.scope x) (ha : VE X cl W e f) (hs : swapsWith e (some (.Name x pos')) pos.line X.env = pure false := by rfl) (hf : X.fn x = true ∨ X.env.scope.names.lookup x = some .local := by first | exact .inl rfl | exact .inr rfl | assumption) :
    VS X cl W (.Assign [.Name x pos'] e pos) (sSet i f) := PS.imp (ps_set hN hi hx ha hs hf) fun D σ H q => tE_mono (tE_st q) fun v H1 ⟨x, ρ, G0, G, B, r, x1, v1, q⟩ => fin_set r x1 v1 q
theorem vs_setO {i : Nat} {x : Str} (hN : X.N.Nodup) (hi : X.N[i]? = some x) (hx : Loc X.env.scope x) (ha : VE X cl W e f) (hs : swapsWith e (some (.Name x pos')) pos.line X.env = pure false := by rfl) (hf : X.fn x = true ∨ X.env.scope.names.lookup x = some .local := by first | exact .inl rfl | exact .inr rfl | assumption) :
    VS X cl W (.Assign [.Name x pos'] e pos) (sSetO i f) := PS.imp (ps_set hN hi hx ha hs hf) fun D σ H q => tE_mono (tE_st q) fun v H1 ⟨x, ρ, G0, G, B, r, x1, v1, q⟩ => fin_setO r x1 v1 q
def kAsg (gs : GS) : Val → Env → Option Fl := fun x ρ => match x.fz with
  | .ok y => (gs y ρ).map Fl.nx
  | _ => none
def sAsg (gs : GS) (f : Env → R Val) : SS := sE f (kAsg gs)
theorem vs_asg {tg : Expr} {gs : GS} {is : List Nat} (ha : VE X cl W e f) (hg : VG X cl tg gs is) (hs : swapsWithSole [tg] e pos.line X.env = pure false := by rfl) (hw : swappedStores [tg] e X.env = pure none := by rfl)
    (h1 : (assignEach [tg] X.env).map (·.2) = [assign tg X.env] := by rfl) : VS X cl W (.Assign [tg] e pos) (sAsg gs f) := PS.imp (ps_asg ha hg hs hw h1) fun D σ H q =>
  tE_mono (tE_st q) fun v H1 ⟨x, ρ, G0, G, B, r, x1, v1, q⟩ => by
    unfold kAsg at q
    cases ex : x.fz with
    | st => rw [ex] at q; exact q.elim
    | ex z => rw [ex] at q; exact q.elim
    | ok y =>
      rw [ex] at q
      obtain ⟨G', x2, _, rp⟩ := v1.fz x1 ex
      have q : FinS X.K cl W B D ((gs y ρ).map Fl.nx) := q
      cases eg : gs y ρ with
      | none => rw [eg] at q; exact q.elim
      | some ρ' =>
        rw [eg] at q
        exact ⟨ρ, G', B, y, r.ext x2, rp, ρ', eg, fun σ' _ _ r' => q σ' H1 G' r'⟩
/-- a, b = e1, e2, both plain names -/
def sPar (i j : Nat) (fs : Env → R (List D)) : SS := fun ρ => match fs ρ with
  | .st => none
  | .ok [x, y] => if i < ρ.length ∧ j < ρ.length then some (.nx ((ρ.set i (some (.d x))).set j (some (.d y)))) else none
  | .ok _ => none
  | .ex e => some (.rs e ρ)
theorem vs_par {i j : Nat} {x y : Str} {px py pt pt2 : Pos} {kt k2 : Nat} (hc : X.calm = true) (hN : X.N.Nodup) (hi : X.N[i]? = some x) (hj : X.N[j]? = some y) (hij : i ≠ j)
    (hx : X.env.scope.names.lookup x = some .local) (hy : X.env.scope.names.lookup y = some .local) (ha : VA X cl W [a, b] fs)
    (hw : swappedStores [.Tuple [.Name x px, .Name y py] kt pt] (.Tuple [a, b] k2 pt2) X.env = pure (some [x, y]))
    (hs : swapsWithSole [.Tuple [.Name x px, .Name y py] kt pt] (.Tuple [a, b] k2 pt2) pos.line X.env = pure false := by rfl) :
    VS X cl W (.Assign [.Tuple [.Name x px, .Name y py] kt pt] (.Tuple [a, b] k2 pt2) pos) (sPar i j fs) := PS.imp (ps_par hc hN hi hj hij hx hy ha hw hs) fun D σ H ⟨ρ, G, B, r, q⟩ => by
  refine ⟨ρ, G, B, r, ?_⟩
  unfold sPar at q
  cases ef : fs ρ with
  | st => rw [ef] at q; exact q
  | ex z => rw [ef] at q; exact fun c d H' G' x' er => q c d σ H' G' (r.ext x') er
  | ok l =>
    rw [ef] at q
    intro vs H' G' x' rl
    cases rl with
    | nil => exact q.elim
    | cons r1 rl =>
      cases rl with
      | nil => exact q.elim
      | cons r2 rl =>
        cases rl with
        | cons _ _ => exact q.elim
        | nil =>
          have q : FinS X.K cl W B D (if i < ρ.length ∧ j < ρ.length then some (.nx ((ρ.set i (some (.d _))).set j (some (.d _)))) else none) := q
          by_cases hl : i < ρ.length ∧ j < ρ.length
          · rw [if_pos hl] at q
            exact ⟨_, _, rfl, q _ H' G' (((r.ext x').putD hl.1 r1).putD (by rw [List.length_set]; exact hl.2) r2)⟩
          · rw [if_neg hl] at q; exact q.elim
/-- name op= e -/
def sAug (i : Nat) (op : Val → Val → Option Val) (f : Env → R Val) : SS := sE (e2 op (eV i) f) (kSet i)
theorem vs_aug {i : Nat} {x : Str} {o : Operator} {r : R2} {op : Val → Val → Option Val} (hN : X.N.Nodup) (hi : X.N[i]? = some x) (hx : Loc X.env.scope x) (ha : VE X cl W e f) (ho : OpR X (inplaceOp o) r) (hop : OpS X.K cl r op)
    (hf : X.fn x = true ∨ X.env.scope.names.lookup x = some .local := by first | exact .inl rfl | exact .inr rfl | assumption) : VS X cl W (.AugAssign (.Name x pos') o e pos) (sAug i op f) :=
  PS.imp (ps_aug hN hi hx ha ho hf) fun D σ H ⟨ρ, G, B, rl, q⟩ => by
    have q : FinS X.K cl W B D (match e2 op (eV i) f ρ with | .st => none | .ok x => kSet i x ρ | .ex e => some (.rs e ρ)) := q
    unfold e2 eV at q
    cases q1 : ρ[i]? with
    | none => rw [q1] at q; exact q.elim
    | some ov =>
      cases ov with
      | none => rw [q1] at q; exact q.elim
      | some s =>
        obtain ⟨fps, sl, hn⟩ := rl.sl
        obtain ⟨v, f1, f2, hv, ow, m1, _⟩ := sl.at q1
        have q : FinS X.K cl W B D (match (R.ok s.bor >>= fun x => f ρ >>= fun y => R.of (op x y)) with | .st => none | .ok x => kSet i x ρ | .ex e => some (.rs e ρ)) := by
          rw [q1] at q
          cases s <;> exact q
        have v0 : VR X.K cl G H v H s.bor := ow.bor fun a m => (hn a (m1 a m)).1
        refine ⟨v, hv, ρ, G, B, rl, ?_⟩
        rw [R.ok_bind] at q
        cases ef : f ρ with
        | st => rw [ef] at q; exact q
        | ex z => rw [ef] at q; exact fun c d H' G' x' er => q c d σ H' G' (rl.ext x') er
        | ok y =>
          rw [ef, R.ok_bind] at q
          intro w H' G' x' r'
          cases ez : op s.bor y with
          | none => rw [ez] at q; exact q.elim
          | some z =>
            rw [ez] at q
            exact hop s.bor y z v w H H G' H' _ ez x'.gh (v0.ext x') r' fun u H2 G2 x2 r2 => fin_set rl (x'.trans x2) (r2.start x'.hh) q
theorem opS_iadd {K : PySem.W.Frag} : OpS K cl (rI0 fun i j => .int (i + j)) iAdd := opS_int (kv := fun i j => .int (i + j)) (fun _ _ _ => .int _) fun i j H Q _ q => ⟨i, j, rfl, rfl, q⟩
theorem opS_isub {K : PySem.W.Frag} : OpS K cl (rI0 fun i j => .int (i - j)) iSub := opS_int (kv := fun i j => .int (i - j)) (fun _ _ _ => .int _) fun i j H Q _ q => ⟨i, j, rfl, rfl, q⟩

/-! ### while -/
def whileL (t : Env → R Bool) (s : SS) : Nat → Env → Option Fl
  | 0, _ => none
  | n + 1, ρ => match t ρ with
    | .st => none
    | .ex e => some (.rs e ρ)
    | .ok false => some (.nx ρ)
    | .ok true => match s ρ with
      | some (.nx ρ') => whileL t s n ρ'
      | some (.ct ρ') => whileL t s n ρ'
      | some (.br ρ') => some (.nx ρ')
      | r => r
/-- n: turns at most, by the state ahead -/
def sWh (n : Env → Nat) (t : Env → R Bool) (s : SS) : SS := fun ρ => whileL t s (n ρ) ρ
theorem vs_while {n : Env → Nat} (hp : PassesOwn (model X.prog X.w) X.A X.env X.xe) (hc : VT X cl W c t) (hb : VSs X cl W bd s1) : VS X cl W (.While c bd [] pos) (sWh n t s1) := PS.imp (ps_while hp hc hb) fun D σ H ⟨ρ, G, B, r, q⟩ => by
  refine ⟨fun m σ H => ∃ ρ G, Rel X.K cl B G ρ σ H ∧ FinS X.K cl W B D (whileL t s1 m ρ), ⟨n ρ, ρ, G, r, q⟩, ?_⟩
  rintro m σ H ⟨ρ, G, r, q⟩
  refine ⟨ρ, G, B, r, ?_⟩
  cases m with
  | zero => exact q.elim
  | succ m =>
    unfold whileL at q
    cases et : t ρ with
    | st => rw [et] at q; exact q
    | ex z => rw [et] at q; exact fun c d H' G' x' er => q c d σ H' G' (r.ext x') er
    | ok k =>
      rw [et] at q
      cases k with
      | false => exact fun H' G' x' => (show D.nx σ H' from q σ H' G' (r.ext x'))
      | true =>
        intro H' G' x'
        refine ⟨fun σ' H' => ∃ ρ G, Rel X.K cl B G ρ σ' H' ∧ FinS X.K cl W B D (whileL t s1 m ρ), fun σ' H' h => ⟨m, Nat.lt_succ_self m, h⟩, ρ, G', B, r.ext x', ?_⟩
        have q : FinS X.K cl W B D (match s1 ρ with | some (.nx ρ') => whileL t s1 m ρ' | some (.ct ρ') => whileL t s1 m ρ' | some (.br ρ') => some (.nx ρ') | r => r) := q
        cases es : s1 ρ with
        | none => rw [es] at q; exact q
        | some fl =>
          rw [es] at q
          cases fl with
          | nx ρ' => exact fun σ2 H2 G2 r2 => ⟨ρ', G2, r2, q⟩
          | ct ρ' => exact fun σ2 H2 G2 r2 => ⟨ρ', G2, r2, q⟩
          | br ρ' => exact q
          | rt s ρ' => exact q
          | rs e ρ' => exact q

/-! ### what is walked -/
/-- J walks ds -/
structure Wk (K : PySem.W.Frag) (cl : Str → Addr) (G : Hp) (J : It) (ds : List D) : Prop where
  go : ∀ (i : Nat) (G' H : Hp), Same G G' → LeR G' H → i < ds.length → J.go i H
  stop : ∀ (G' H : Hp), Same G G' → LeR G' H → J.stop ds.length H
  yld : ∀ (i : Nat) (G' H H' : Hp) (x : V), Same G G' → LeR G' H → i < ds.length → J.yld i H x H' → ∃ d G2, ds[i]? = some d ∧ Ext G' H G2 H' ∧ Rp K cl G2 x d
def tI (K : PySem.W.Frag) (cl : Str → Addr) (W : XW) (f : Env → R (List D)) : TI := fun σ H Q => ∃ ρ G B, Rel K cl B G ρ σ H ∧ FinG (fun ds => ∀ J H' G', Ext G H G' H' → Wk K cl G' J ds → Q J H') (bad cl W G H σ) (f ρ)
abbrev VI (X : Cx) (cl : Str → Addr) (W : XW) (tg e : Expr) (f : Env → R (List D)) : Prop := PI X tg e (tI X.K cl W f)
theorem PI.imp {X : Cx} {tg e : Expr} {t t' : TI} (h : PI X tg e t) (hi : ∀ σ H Q, t' σ H Q → t σ H Q) : PI X tg e t' := ⟨fun pins s σ H Q I q => h.run pins s σ H Q I (hi σ H Q q)⟩
variable {tg : Expr}
theorem wk_list {K : PySem.W.Frag} {G : Hp} {a : Addr} {xs : List V} {ds : List D} (h : G a = some (.lst xs)) (r : RpL K cl G xs ds) : Wk K cl G (Itl K a) ds :=
  have at_ : ∀ {G' H : Hp}, Same G G' → LeR G' H → SqL K H a xs := fun s l => .inl (.inl (l.ls (s _ _ h)))
  { go := fun i G' H s l hi => ⟨xs, xs[i]'(by rw [r.length]; exact hi), at_ s l, by simp [r.length, hi]⟩
    stop := fun G' H s l => ⟨xs, at_ s l, by rw [r.length]; exact Nat.le_refl _⟩
    yld := fun i G' H H' x s l hi ⟨e, y⟩ => by
      subst e
      obtain ⟨d, h1, h2⟩ := r.get' (y xs (at_ s l))
      exact ⟨d, G', h1, Ext.refl l, Rp.mono (sameR s) _ _ h2⟩ }
theorem wk_tup {K : PySem.W.Frag} {G : Hp} {a : Addr} {xs : List V} {ds : List D} (h : SqT K G a xs) (r : RpL K cl G xs ds) : Wk K cl G (Itt K a) ds :=
  have at_ : ∀ {G' H : Hp}, Same G G' → LeR G' H → SqT K H a xs := fun s l => l.st ((sameR s).st h)
  { go := fun i G' H s l hi => ⟨xs, xs[i]'(by rw [r.length]; exact hi), at_ s l, by simp [r.length, hi]⟩
    stop := fun G' H s l => ⟨xs, at_ s l, by rw [r.length]; exact Nat.le_refl _⟩
    yld := fun i G' H H' x s l hi ⟨e, y⟩ => by
      subst e
      obtain ⟨d, h1, h2⟩ := r.get' (y xs (at_ s l))
      exact ⟨d, G', h1, Ext.refl l, Rp.mono (sameR s) _ _ h2⟩ }
/-- a list walked, as data -/
def iL (f : Env → R Val) : Env → R (List D) := fun ρ => f ρ >>= fun x => x.fz >>= fun d => match d with
  | .lst l => .ok l
  | _ => .st
def iT (f : Env → R Val) : Env → R (List D) := fun ρ => f ρ >>= fun x => x.fz >>= fun d => match d with
  | .tup l => .ok l
  | _ => .st
theorem fz_no {x : Val} {e : Exn} (h : x.fz = .ex e) : False := by
  cases x with
  | d y => cases h
  | b y => cases h
  | o s =>
    have h : R.of s.frz = .ex e := h
    cases es : s.frz <;> rw [es] at h <;> cases h
theorem vi_list (ha : VE X cl W e f) : VI X cl W tg e (iL f) := PI.imp (pi_list ha) fun σ H Q ⟨ρ, G, B, rl, q⟩ => tE_mono (tE_run rl (Ext.refl rl.gh) q) fun v H1 ⟨x, G1, _, x1, v1, _, q⟩ => by
  cases ex : x.fz with
  | st => rw [ex] at q; exact q.elim
  | ex z => exact (fz_no ex).elim
  | ok y =>
    rw [ex, R.ok_bind] at q
    obtain ⟨G2, x2, _, rp⟩ := v1.fz x1 ex
    cases y with
    | lst l =>
      obtain ⟨a, xs, rfl, h1, h2⟩ := Rp.lst_ rp
      exact ⟨a, rfl, ⟨xs, .inl (.inl (x2.gh.ls h1))⟩, q _ H1 G2 x2 (wk_list h1 h2)⟩
    | _ => exact q.elim
theorem vi_tup (ha : VE X cl W e f) : VI X cl W tg e (iT f) := PI.imp (pi_tup ha) fun σ H Q ⟨ρ, G, B, rl, q⟩ => tE_mono (tE_run rl (Ext.refl rl.gh) q) fun v H1 ⟨x, G1, _, x1, v1, _, q⟩ => by
  cases ex : x.fz with
  | st => rw [ex] at q; exact q.elim
  | ex z => exact (fz_no ex).elim
  | ok y =>
    rw [ex, R.ok_bind] at q
    obtain ⟨G2, x2, _, rp⟩ := v1.fz x1 ex
    cases y with
    | tup l =>
      obtain ⟨a, xs, rfl, h1, h2⟩ := Rp.tup_ rp
      exact ⟨a, rfl, ⟨xs, x2.gh.st h1⟩, q _ H1 G2 x2 (wk_tup h1 h2)⟩
    | _ => exact q.elim
/-- a range's ints -/
def rngD (lo : Int) (n : Nat) : List D := (List.range n).map fun i : Nat => D.int (lo + i)
theorem rngD_len (lo : Int) (n : Nat) : (rngD lo n).length = n := by unfold rngD; rw [List.length_map, List.length_range]
theorem wk_range {K : PySem.W.Frag} {G : Hp} (lo : Int) (n : Nat) : Wk K cl G (Itr lo n) (rngD lo n) where
  go := fun i G' H s l hi => by rw [rngD_len] at hi; exact hi
  stop := fun G' H s l => by rw [rngD_len]; exact Nat.le_refl n
  yld := fun i G' H H' x s l hi ⟨e, y⟩ => by
    subst e y
    rw [rngD_len] at hi
    refine ⟨.int (lo + i), G', ?_, Ext.refl l, .int _⟩
    unfold rngD
    rw [List.getElem?_map, List.getElem?_range hi]
    rfl
def iR1 (f : Env → R Val) : Env → R (List D) := fun ρ => f ρ >>= fun x => match x.dat with
  | some (.int j) => if -(2 ^ 62) ≤ j ∧ j < 2 ^ 62 then .ok (rngD 0 j.toNat) else .st
  | _ => .st
def iR2 (f g : Env → R Val) : Env → R (List D) := fun ρ => f ρ >>= fun x => g ρ >>= fun y => match x.dat, y.dat with
  | some (.int i), some (.int j) => if (-(2 ^ 62) ≤ i ∧ i < 2 ^ 62) ∧ -(2 ^ 62) ≤ j ∧ j < 2 ^ 62 then .ok (rngD i (j - i).toNat) else .st
  | _, _ => .st
theorem vi_range1 (hg : Gl X "range") (hm : X.mg "range" = none) (ha : VE X cl W a f) (hs : starEach [a] X.env = [(false, eval a X.env)] := by rfl) (he : starEach (a :: []) X.env = (false, eval a X.env) :: starEach [] X.env := by rfl) : VI X cl W tg (.Call (.Name "range" p) [a] [] pos) (iR1 f) :=
  PI.imp (pi_range1 hg hm (pa_cons ha pa_nil he) hs) fun σ H Q ⟨ρ, G, B, rl, q⟩ => tE_mono (tE_run rl (Ext.refl rl.gh) q) fun v H1 ⟨x, G1, x1, _, v1, _, q⟩ => by
    split at q
    · rename_i j hd
      split at q
      · rename_i hc
        rw [Rp.int_ (v1.rp x1.gh hd)]
        exact ⟨j, rfl, hc.1, hc.2, q _ H1 G1 x1 (wk_range 0 _)⟩
      · exact q.elim
    · exact q.elim
theorem vi_range2 (hg : Gl X "range") (hm : X.mg "range" = none) (ha : VE X cl W a f) (hb : VE X cl W b g) (hs : starEach [a, b] X.env = [(false, eval a X.env), (false, eval b X.env)] := by rfl) (hs2 : starEach [b] X.env = [(false, eval b X.env)] := by rfl)
    (he : starEach (a :: [b]) X.env = (false, eval a X.env) :: starEach [b] X.env := by rfl) (he2 : starEach (b :: []) X.env = (false, eval b X.env) :: starEach [] X.env := by rfl) : VI X cl W tg (.Call (.Name "range" p) [a, b] [] pos) (iR2 f g) :=
  PI.imp (pi_range2 hg hm (pa_cons ha (pa_cons hb pa_nil he2) he) hs hs2) fun σ H Q ⟨ρ, G, B, rl, q⟩ => tE_mono (tE_run rl (Ext.refl rl.gh) q) fun v H1 ⟨x, G1, x1, _, v1, _, q⟩ => tE_mono (tE_run rl x1 q) fun w H2 ⟨y, G2, x2, x12, v2, _, q⟩ => by
    split at q
    · rename_i i j hd hd2
      split at q
      · rename_i hc
        rw [Rp.int_ ((v1.ext x12).rp x2.gh hd), Rp.int_ (v2.rp x2.gh hd2)]
        exact ⟨i, j, rfl, ⟨hc.1.1, hc.1.2, hc.2.1, hc.2.2⟩, q _ H2 G2 x2 (wk_range i _)⟩
      · exact q.elim
    · exact q.elim
/-- a text's signs -/
def sgD (x : Str) : List D := x.cps.toList.map fun c => D.str ⟨#[c]⟩
theorem wk_str {K : PySem.W.Frag} {G : Hp} (x : Str) : Wk K cl G (Its x) (sgD x) where
  go := fun i G' H s l hi => by
    unfold sgD at hi
    rw [List.length_map, Array.length_toList] at hi
    exact hi
  stop := fun G' H s l => by
    unfold sgD
    rw [List.length_map, Array.length_toList]
    exact Nat.le_refl _
  yld := fun i G' H H' v s l hi ⟨e, c, y, ev⟩ => by
    subst e ev
    refine ⟨.str ⟨#[c]⟩, G', ?_, Ext.refl l, .str _⟩
    unfold sgD
    rw [List.getElem?_map, Array.getElem?_toList, y]
    rfl
def iS (f : Env → R Val) : Env → R (List D) := fun ρ => f ρ >>= fun x => match x.dat with
  | some (.str z) => .ok (sgD z)
  | _ => .st
theorem vi_str (ha : VE X cl W e f) : VI X cl W tg e (iS f) := PI.imp (pi_str ha) fun σ H Q ⟨ρ, G, B, rl, q⟩ => tE_mono (tE_run rl (Ext.refl rl.gh) q) fun v H1 ⟨x, G1, x1, _, v1, _, q⟩ => by
  split at q
  · rename_i z hd
    rw [Rp.str_ (v1.rp x1.gh hd)]
    exact ⟨z, rfl, q _ H1 G1 x1 (wk_str z)⟩
  · exact q.elim

/-! ### for -/
def forL (gs : GS) (s : SS) : List D → Env → Option Fl
  | [], ρ => some (.nx ρ)
  | d :: ds, ρ => match gs d ρ with
    | none => none
    | some ρ1 => match s ρ1 with
      | some (.nx ρ2) => forL gs s ds ρ2
      | some (.ct ρ2) => forL gs s ds ρ2
      | some (.br ρ2) => some (.nx ρ2)
      | r => r
def sFor (src : Env → R (List D)) (gs : GS) (s : SS) : SS := fun ρ => match src ρ with
  | .st => none
  | .ok ds => forL gs s ds ρ
  | .ex e => some (.rs e ρ)
theorem vs_for {gs : GS} {is : List Nat} {iter : Expr} (hp : PassesOwn (model X.prog X.w) X.A X.env X.xe) (hc : X.calm = true) (hi : VI X cl W tg iter fs) (hg : VG X cl tg gs is) (hb : VSs X cl W bd s1) (hs : ∀ x, foldedSetIterable iter X.env x = pure x := by intro _; rfl) :
    VS X cl W (.For tg iter bd [] pos) (sFor fs gs s1) := PS.imp (ps_for hp hc hi hg hb hs) fun D σ H ⟨ρ, G, B, r, q⟩ => by
  refine ⟨ρ, G, B, r, ?_⟩
  unfold sFor at q
  cases ef : fs ρ with
  | st => rw [ef] at q; exact q
  | ex z => rw [ef] at q; exact fun c d H' G' x' er => q c d σ H' G' (r.ext x') er
  | ok ds =>
    rw [ef] at q
    intro J H1 G1 x1 wk
    have r1 := r.ext x1
    have sb : Same B.G0 G1 := r1.g0
    refine ⟨fun i m σ H => m = ds.length - i ∧ i ≤ ds.length ∧ ∃ ρ G', Rel X.K cl ⟨B.H0, G1, B.L⟩ G' ρ σ H ∧ FinS X.K cl W B D (forL gs s1 (ds.drop i) ρ), ⟨ds.length, rfl, Nat.zero_le _, ρ, G1, r1.up sb (Same.refl _), q⟩, ?_⟩
    rintro i m σ H ⟨rfl, hi, ρ, G', r, q⟩
    have sg : Same G1 G' := r.g0
    by_cases hlt : i < ds.length
    · refine .inr ⟨wk.go i G' H sg r.gh hlt, fun σ' H' => ∃ ρ G', Rel X.K cl ⟨B.H0, G1, B.L⟩ G' ρ σ' H' ∧ FinS X.K cl W B D (forL gs s1 (ds.drop (i + 1)) ρ), fun σ' H' h => ⟨ds.length - (i + 1), by omega, rfl, hlt, h⟩, fun x H' y => ?_⟩
      obtain ⟨d, G2, hd, x2, rp⟩ := wk.yld i G' H H' x sg r.gh hlt y
      have hdr : ds.drop i = d :: ds.drop (i + 1) := by
        rw [List.drop_eq_getElem_cons hlt]
        rw [List.getElem?_eq_getElem hlt] at hd
        rw [Option.some.inj hd]
      rw [hdr] at q
      unfold forL at q
      cases eg : gs d ρ with
      | none => rw [eg] at q; exact q.elim
      | some ρ1 =>
        rw [eg] at q
        refine ⟨ρ, G2, _, d, r.ext x2, rp, ρ1, eg, fun σ2 _ _ r2 => ⟨ρ1, G2, _, r2, ?_⟩⟩
        have q : FinS X.K cl W B D (match s1 ρ1 with | some (.nx ρ2) => forL gs s1 (ds.drop (i + 1)) ρ2 | some (.ct ρ2) => forL gs s1 (ds.drop (i + 1)) ρ2 | some (.br ρ2) => some (.nx ρ2) | r => r) := q
        cases es : s1 ρ1 with
        | none => rw [es] at q; exact q
        | some fl =>
          rw [es] at q
          cases fl with
          | nx ρ' => exact fun σ3 H3 G3 r3 => ⟨ρ', G3, r3, q⟩
          | ct ρ' => exact fun σ3 H3 G3 r3 => ⟨ρ', G3, r3, q⟩
          | br ρ' => exact fun σ3 H3 G3 r3 => q σ3 H3 G3 (r3.down sb r1.gn)
          | rt s ρ' => exact fun v σ3 H3 G3 r3 => q v σ3 H3 G3 (r3.down sb r1.gn)
          | rs e ρ' => exact fun c d σ3 H3 G3 r3 er => q c d σ3 H3 G3 (r3.down sb r1.gn) er
    · have e : i = ds.length := by omega
      subst e
      refine .inl ⟨wk.stop G' H sg r.gh, ?_⟩
      rw [List.drop_length] at q
      exact q σ H G' (r.down sb r1.gn)
end
end Vl

/-! VlG: lists that change, comprehensions, defs. -/
namespace Vl
open PySem L2 PySem.Spec

theorem ne_mem {α : Type} {a p : α} {l : List α} (h : a ∈ l) (h2 : p ∉ l) : a ≠ p := fun z => h2 (by rw [← z]; exact h)
section
variable {K : PySem.W.Frag} {cl : Str → Addr} {G G' H H' Hs : Hp}
theorem OwL.snoc : ∀ {xs : List V} {ss : List Sl} {fp : List Addr} {v : V} {s : Sl} {fq : List Addr}, OwL K cl G H xs ss fp → Ow K cl G H v s fq → (∀ a ∈ fp, a ∉ fq) → ∃ fr, OwL K cl G H (xs ++ [v]) (ss ++ [s]) fr ∧ ∀ a ∈ fr, a ∈ fp ∨ a ∈ fq
  | _, _, _, v, s, fq, .nil, w, n => ⟨fq ++ [], .cons w .nil (fun _ _ m => nomatch m), fun a m => .inr (by simpa using m)⟩
  | _, _, _, v, s, fq, .cons (fp := f1) (fq := f2) a b n0, w, n => by
    obtain ⟨fr, q1, q2⟩ := OwL.snoc b w (fun x m => n x (by simp [m]))
    refine ⟨f1 ++ fr, .cons a q1 (fun x m m' => ?_), fun x m => ?_⟩
    · rcases q2 x m' with z | z
      · exact n0 x m z
      · exact n x (by simp [m]) z
    · rcases List.mem_append.mp m with z | z
      · exact .inl (by simp [z])
      · rcases q2 x z with z | z
        · exact .inl (by simp [z])
        · exact .inr z
theorem OwL.setD : ∀ {xs : List V} {ss : List Sl} {fp : List Addr} {v : V} {d : D} (i : Nat), OwL K cl G H xs ss fp → Rp K cl G v d → ∃ fr, OwL K cl G H (xs.set i v) (ss.set i (.d d)) fr ∧ ∀ a ∈ fr, a ∈ fp
  | _, _, _, v, d, i, .nil, w => ⟨[], .nil, fun _ m => m⟩
  | _, _, _, v, d, 0, .cons (fp := f1) (fq := f2) a b n0, w => ⟨[] ++ f2, .cons (.d w) b (fun _ m => nomatch m), fun x m => by
      have : x ∈ f2 := by simpa using m
      simp [this]⟩
  | _, _, _, v, d, i + 1, .cons (fp := f1) (fq := f2) a b n0, w => by
    obtain ⟨fr, q1, q2⟩ := OwL.setD i b w
    refine ⟨f1 ++ fr, .cons a q1 (fun x m m' => n0 x m (q2 x m')), fun x m => ?_⟩
    rcases List.mem_append.mp m with z | z
    · simp [z]
    · simp [q2 x z]
/-- an object of slot i's own tree is changed -/
theorem Rel.mut {B : Base} {ρ : Env} {σ : L2.St} {i : Nat} {s s' : Sl} {v : V} {p : Addr} {o : HO} (r : Rel K cl B G ρ σ H) (hs : ρ[i]? = some (some s)) (hv : σ[i]? = some (some v)) (hp : ∀ fp, Ow K cl G H v s fp → p ∈ fp)
    (w : ∀ fp, Ow K cl G H v s fp → ∃ fp', Ow K cl G (upd H p o) v s' fp' ∧ ∀ a ∈ fp', a ∈ fp) : Rel K cl B G (ρ.set i (some s')) σ (upd H p o) := by
  obtain ⟨fps, sl, hn⟩ := r.sl
  obtain ⟨v', fp, fr, h1, h2, h3, h4, h5, h6, _⟩ := sl.at hs
  rw [hv] at h1
  cases h1
  obtain ⟨fp', w1, w2⟩ := w fp h2
  have pm := hp fp h2
  have hp0 := hn p (h3 p pm)
  obtain ⟨fq, q1, q2⟩ := h6 v s' fp' G (upd H p o) (LeR.refl G) (fun a m u e => by rw [upd_ne (ne_mem m (h5 p pm))]; exact e) w1 (fun a m m' => h5 a (w2 a m) m')
  rw [set_self hv] at q1
  refine ⟨fun a u e => ?_, fun a u e => ?_, r.g0, r.gn, fq, q1, fun a m => ?_⟩
  · have ne : a ≠ p := fun z => by rw [z, hp0.1] at e; cases e
    rw [upd_ne ne]
    exact r.gh a u e
  · have ne : a ≠ p := fun z => by rw [z, hp0.2] at e; cases e
    rw [upd_ne ne]
    exact r.h0 a u e
  · rcases q2 a m with z | z
    · exact hn a (h3 a (w2 a z))
    · exact hn a (h4 a z)
end

section
variable {X : Cx} {cl : Str → Addr} {W : XW} {e a b c : Expr} {es : List Expr} {f g h : Env → R Val} {fs : Env → R (List D)} {t : Env → R Bool} {pos pos' p apos : Pos} {s1 s2 : SS} {st : Stmt} {rest bd bd2 : List Stmt}
/-- name.append(e), the name's list one's own -/
def kApp (i : Nat) (l : List Sl) : Val → Env → Option Fl := fun x ρ => match x.fz with
  | .ok y => if l.length < 16777216 then some (.nx (ρ.set i (some (.ol (l ++ [.d y]))))) else none
  | _ => none
def sApp (i : Nat) (f : Env → R Val) : SS := fun ρ => match ρ[i]? with
  | some (some (.ol l)) => sE f (kApp i l) ρ
  | _ => none
theorem line_lt {n : Nat} (h : n < 16777216) : n < sizeLine := by rw [sizeLine_eq]; exact h
theorem FinS.some_ {K : PySem.W.Frag} {B : Base} {D : Ends} {o : Option Fl} (h : FinS K cl W B D o) : ∃ fl, o = some fl := by
  cases o with
  | none => exact h.elim
  | some fl => exact ⟨fl, rfl⟩
/-- slot i: a list of one's own -/
theorem Rel.list {K : PySem.W.Frag} {B : Base} {G H : Hp} {ρ : Env} {σ : L2.St} {i : Nat} {l : List Sl} (r : Rel K cl B G ρ σ H) (hs : ρ[i]? = some (some (.ol l))) : ∃ p xs, σ[i]? = some (some (.ref p)) ∧ H p = some (.lst xs) ∧ xs.length = l.length := by
  obtain ⟨fps, sl, hn⟩ := r.sl
  obtain ⟨v, fp, fr, h1, h2, _⟩ := sl.at hs
  cases h2 with
  | ol q1 q2 q3 => exact ⟨_, _, h1, q1, q2.length⟩
theorem Rel.app {K : PySem.W.Frag} {B : Base} {G H : Hp} {ρ : Env} {σ : L2.St} {i : Nat} {l : List Sl} {p : Addr} {xs : List V} {v : V} {d : D} (r : Rel K cl B G ρ σ H) (hs : ρ[i]? = some (some (.ol l))) (hv : σ[i]? = some (some (.ref p))) (hx : H p = some (.lst xs)) (rp : Rp K cl G v d) :
    Rel K cl B G (ρ.set i (some (.ol (l ++ [.d d])))) σ (upd H p (.lst (xs ++ [v]))) := by
  refine r.mut hs hv (fun fp w => ?_) (fun fp w => ?_)
  · cases w with
    | ol q1 q2 q3 => simp
  · cases w with
    | ol q1 q2 q3 =>
      rename_i xs' fp'
      rw [q1] at hx
      cases hx
      obtain ⟨fr, z1, z2⟩ := OwL.snoc q2 (.d rp) (fun _ _ m => nomatch m)
      have z2' : ∀ a ∈ fr, a ∈ fp' := fun a m => (z2 a m).elim id fun m => nomatch m
      refine ⟨p :: fr, .ol upd_same (OwL.fr (LeR.refl G) _ _ _ z1 fun a m o e => by rw [upd_ne (ne_mem (z2' a m) q3)]; exact e) (fun m => q3 (z2' p m)), fun a m => ?_⟩
      rcases List.mem_cons.mp m with z | z
      · simp [z]
      · simp [z2' a z]
theorem tE_at_st {K : PySem.W.Frag} {B : Base} {G H : Hp} {ρ : Env} {σ : L2.St} {k : Val → Env → Option Fl} {D : Ends} (r : Rel K cl B G ρ σ H) (q : FinS K cl W B D (sE f k ρ)) :
    tE K cl W f σ H (fun v H1 => ∃ x G1, Ext G H G1 H1 ∧ VR K cl G1 H1 v H x ∧ FinS K cl W B D (k x ρ)) := by
  refine ⟨ρ, G, B, r, ?_⟩
  have q : FinS K cl W B D (match f ρ with | .st => none | .ok x => k x ρ | .ex e => some (.rs e ρ)) := q
  cases ef : f ρ with
  | st => rw [ef] at q; exact q
  | ok x => rw [ef] at q; exact fun v H' G' x' r' => ⟨x, G', x', r', q⟩
  | ex z => rw [ef] at q; exact fun c d H' G' x' er => q c d σ H' G' (r.ext x') er
theorem vs_app {i : Nat} (hv : PE X a (tVar i)) (ha : VE X cl W e f) (hbase : attributeBase a "append" X.env (eval a X.env) = eval a X.env := by rfl)
    (hfew : ((backTo pos (starEach (e :: []) X.env)).all (fun x => !x.1) && (backToKw pos (keywordEach [] X.env)).all (fun x => x.1.isSome) && decide ((e :: []).length + ([] : List Keyword).length + (if ([] : List Keyword).isEmpty then 0 else 1) < 30)) = true := by rfl)
    (hline : (apos.endLine == pos.line) = true := by rfl) (hs : starEach (e :: []) X.env = (false, eval e X.env) :: starEach [] X.env := by rfl) (hplain : (backTo pos (starEach [] X.env)).any (·.1) = false := by rfl)
    (hsw : swapsWith (.Call (.Attribute a "append" apos) [e] [] pos) none pos'.line X.env = pure false := by rfl) : VS X cl W (.Expr (.Call (.Attribute a "append" apos) [e] [] pos) pos') (sApp i f) :=
  PS.imp (ps_expr (pe_bm PySem.F.plainAttrs_list PySem.F.slot_list_append PySem.F.type_list_append mt_append hv (pa_cons ha pa_nil hs) hbase hfew hline hs hplain) hsw) fun D σ H ⟨ρ, G, B, r, q⟩ => by
    unfold sApp at q
    split at q
    · rename_i l hl
      obtain ⟨p, xs, h1, h2, h3⟩ := r.list hl
      refine ⟨.ref p, h1, .inl ⟨rfl, xs, .inl (.inl h2)⟩, ?_⟩
      refine tE_mono (tE_at_st r q) fun v H1 ⟨x, G1, x1, v1, q⟩ => ?_
      unfold kApp at q
      cases ex : x.fz with
      | st => rw [ex] at q; exact q.elim
      | ex z => rw [ex] at q; exact q.elim
      | ok y =>
        rw [ex] at q
        obtain ⟨G2, x2, _, rp⟩ := v1.fz x1 ex
        have q : FinS X.K cl W B D (if l.length < 16777216 then some (.nx (ρ.set i (some (.ol (l ++ [.d y]))))) else none) := q
        by_cases hlen : l.length < 16777216
        · rw [if_pos hlen] at q
          exact ⟨p, xs, v, rfl, rfl, x2.hh _ _ h2, by rw [h3]; exact line_lt hlen, q σ _ G2 ((r.ext x2).app hl h1 (x2.hh _ _ h2) rp)⟩
        · rw [if_neg hlen] at q; exact q.elim
    · exact q.elim
/-- name[i] = e, the name's list one's own, of data -/
def kSetI (i : Nat) (l : List Sl) (d : D) : Val → Env → Option Fl := fun y ρ => match y.dat with
  | some (.int j) => match ixN l.length j with
    | some m => some (.nx (ρ.set i (some (.ol (l.set m (.d d))))))
    | none => none
  | _ => none
def sSetI (i : Nat) (fi f : Env → R Val) : SS := fun ρ => match ρ[i]? with
  | some (some (.ol l)) => sE f (fun x ρ => match x.fz with
    | .ok d => sE fi (kSetI i l d) ρ
    | _ => none) ρ
  | _ => none
theorem Rel.setI {K : PySem.W.Frag} {B : Base} {G H : Hp} {ρ : Env} {σ : L2.St} {i m : Nat} {l : List Sl} {p : Addr} {xs : List V} {v : V} {d : D} (r : Rel K cl B G ρ σ H) (hs : ρ[i]? = some (some (.ol l))) (hv : σ[i]? = some (some (.ref p))) (hx : H p = some (.lst xs)) (rp : Rp K cl G v d) :
    Rel K cl B G (ρ.set i (some (.ol (l.set m (.d d))))) σ (upd H p (.lst (xs.set m v))) := by
  refine r.mut hs hv (fun fp w => ?_) (fun fp w => ?_)
  · cases w with
    | ol q1 q2 q3 => simp
  · cases w with
    | ol q1 q2 q3 =>
      rename_i xs' fp'
      rw [q1] at hx
      cases hx
      obtain ⟨fr, z1, z2⟩ := OwL.setD m q2 rp
      refine ⟨p :: fr, .ol upd_same (OwL.fr (LeR.refl G) _ _ _ z1 fun a m o e => by rw [upd_ne (ne_mem (z2 a m) q3)]; exact e) (fun m => q3 (z2 p m)), fun a m => ?_⟩
      rcases List.mem_cons.mp m with z | z
      · simp [z]
      · simp [z2 a z]
theorem vs_setI {i : Nat} {p2 : Pos} (hv : PE X a (tVar i)) (hb : VE X cl W b g) (ha : VE X cl W e f) (hs : swapsWithSole [.Subscript a b p2] e pos.line X.env = pure false := by rfl) (hw : swappedStores [.Subscript a b p2] e X.env = pure none := by rfl)
    (h1 : (assignEach [.Subscript a b p2] X.env).map (·.2) = [assign (.Subscript a b p2) X.env] := by rfl)
    (hsb : ∀ v, assign (.Subscript a b p2) X.env v = (do
      let ov ← holding [v] (eval a X.env)
      let iv ← holding [v, ov] (eval b X.env)
      standAt p2
      holding [v, ov, iv] (setItem ov iv v)
      release [v, ov, iv] []) := by intro _; rfl) : VS X cl W (.Assign [.Subscript a b p2] e pos) (sSetI i g f) :=
  PS.imp (ps_asg ha (pg_sub hv hb set_list hsb) hs hw h1) fun D σ H ⟨ρ, G, B, r, q⟩ => by
    unfold sSetI at q
    split at q
    · rename_i l hl
      obtain ⟨p, xs, h1, h2, h3⟩ := r.list hl
      refine tE_mono (tE_at_st r q) fun v H1 ⟨x, G1, x1, v1, q⟩ => ?_
      cases ex : x.fz with
      | st => rw [ex] at q; exact q.elim
      | ex z => rw [ex] at q; exact q.elim
      | ok d =>
        rw [ex] at q
        obtain ⟨G2, x2, _, rp⟩ := v1.fz x1 ex
        refine ⟨.ref p, h1, tE_mono (tE_at_st (r.ext x2) q) fun w H3 ⟨y, G3, x3, v3, q⟩ => ?_⟩
        unfold kSetI at q
        split at q
        · rename_i j hj
          split at q
          · rename_i m hm
            rw [Rp.int_ (v3.rp x3.gh hj)]
            have hp3 : H3 p = some (.lst xs) := x3.hh _ _ (x2.hh _ _ h2)
            exact ⟨p, xs, j, m, rfl, rfl, hp3, by rw [h3]; exact hm, q σ _ G3 (((r.ext x2).ext x3).setI hl h1 hp3 (Rp.mono (sameR x3.gg) _ _ rp))⟩
          · exact q.elim
        · exact q.elim
    · exact q.elim
end

/-! ### comprehensions -/
def wipeE (ρ : Env) : List Nat → Env
  | [] => ρ
  | i :: r => (wipeE ρ r).set i none
section
variable {K : PySem.W.Frag} {cl : Str → Addr} {B : Base} {G H : Hp} {ρ : Env} {σ : L2.St}
theorem Rel.wipe (r : Rel K cl B G ρ σ H) : ∀ is : List Nat, Rel K cl B G (wipeE ρ is) (L2.wipe σ is) H
  | [] => r
  | i :: is => (r.wipe is).cut i none
theorem wipe_eq {σ σ' : L2.St} (hl : σ'.length = σ.length) {is : List Nat} (h : ∀ j, j ∉ is → σ'[j]? = σ[j]?) : L2.wipe σ' is = L2.wipe σ is := by
  apply List.ext_getElem?
  intro j
  by_cases hj : j ∈ is
  · have at_ : ∀ (τ : L2.St) (ks : List Nat), j ∈ ks → j < τ.length → (L2.wipe τ ks)[j]? = some none := by
      intro τ ks
      induction ks with
      | nil => intro m; cases m
      | cons k ks ih =>
        intro m lt
        unfold L2.wipe
        by_cases e : k = j
        · subst e
          rw [List.getElem?_set_self (by rw [wipe_length]; exact lt)]
        · rw [List.getElem?_set_ne e]
          exact ih ((List.mem_cons.mp m).resolve_left fun z => e z.symm) lt
    by_cases lt : j < σ.length
    · rw [at_ σ is hj lt, at_ σ' is hj (by rw [hl]; exact lt)]
    · rw [List.getElem?_eq_none (by rw [wipe_length, hl]; omega), List.getElem?_eq_none (by rw [wipe_length]; omega)]
  · rw [wipe_out hj, wipe_out hj, h j hj]
theorem wipe_wipe (σ : L2.St) (is : List Nat) : L2.wipe (L2.wipe σ is) is = L2.wipe σ is :=
  wipe_eq (wipe_length σ is) fun j hj => wipe_out hj
end
def lcL (gs : GS) (tt : Env → R Bool) (te : Env → R Val) (ρ : Env) : List D → List D → R (List D)
  | [], acc => .ok acc
  | d :: ds, acc => match gs d ρ with
    | none => .st
    | some ρ2 => match tt ρ2 with
      | .ok true => match te ρ2 with
        | .ok y => match y.fz with
          | .ok z => if acc.length < 16777216 then lcL gs tt te ρ ds (acc ++ [z]) else .st
          | _ => .st
        | _ => .st
      | .ok false => lcL gs tt te ρ ds acc
      | _ => .st
def eLc (vs : List Nat) (src : Env → R (List D)) (gs : GS) (tt : Env → R Bool) (te : Env → R Val) : Env → R Val := fun ρ => src ρ >>= fun ds => lcL gs tt te (wipeE ρ vs) ds [] >>= fun acc => .ok (.o (.ol (acc.map .d)))
def tYs : Env → R Bool := fun _ => .ok true
section
variable {X : Cx} {cl : Str → Addr} {W : XW} {e a b c : Expr} {es : List Expr} {f g h : Env → R Val} {fs : Env → R (List D)} {t : Env → R Bool} {pos pos' p apos : Pos} {gs : GS} {is vs : List Nat}
theorem Ext.mut {G0 H0 G H : Hp} {q : Addr} {o : HO} (x : Ext G0 H0 G H) (h0 : H0 q = none) (hg : G q = none) : Ext G0 H0 G (upd H q o) :=
  ⟨fun a u e => by rw [upd_ne (ne_of_none e h0)]; exact x.hh a u e, x.gg, fun a u e => by rw [upd_ne (ne_of_none e hg)]; exact x.gh a u e, x.nw⟩
theorem lc_of {K : PySem.W.Frag} {σ : L2.St} {H : Hp} {Q : VK} (his : ∀ j ∈ is, j ∈ vs) (q : tE K cl W (eLc vs fs gs t f) σ H Q) : tLc (tI K cl W fs) (tG K cl gs is) (tT K cl W0 t) (tE K cl W0 f) vs σ H Q := by
  obtain ⟨ρ, G, B, r, q⟩ := q
  refine ⟨ρ, G, B, r, ?_⟩
  unfold eLc at q
  cases ef : fs ρ with
  | st => rw [ef] at q; exact q
  | ex z => rw [ef] at q; exact q
  | ok ds =>
    rw [ef, R.ok_bind] at q
    intro J H1 G1 x1 wk L hL
    have hL0 : H L = none := none_of_same x1.hh hL
    have hG1 : G1 L = none := x1.gnone hL
    have r1 := r.ext x1
    refine ⟨fun i m H2 => m = ds.length - i ∧ i ≤ ds.length ∧ ∃ G2 xs acc, Ext G H G2 H2 ∧ Rel K cl ⟨B.H0, G1, B.L⟩ G2 ρ σ H2 ∧ H2 L = some (.lst xs) ∧ G2 L = none ∧ RpL K cl G2 xs acc ∧
      FinG (postE K cl G H Q) (bad cl W G H σ) (lcL gs t f (wipeE ρ vs) (ds.drop i) acc >>= fun acc => .ok (.o (.ol (acc.map .d)))), ⟨ds.length, rfl, Nat.zero_le _, G1, [], [], x1.mut hL0 hG1, ?_, upd_same, hG1, .nil, q⟩, ?_⟩
    · exact (r1.up r1.g0 (Same.refl _)).ext ((Ext.refl x1.gh).own hL)
    rintro i m H2 ⟨rfl, hi, G2, xs, acc, x2, r2, hl2, hg2, rp2, q⟩
    by_cases hlt : i < ds.length
    · refine .inr ⟨wk.go i G2 H2 r2.g0 r2.gh hlt, fun H5 => ∃ G2 xs acc, Ext G H G2 H5 ∧ Rel K cl ⟨B.H0, G1, B.L⟩ G2 ρ σ H5 ∧ H5 L = some (.lst xs) ∧ G2 L = none ∧ RpL K cl G2 xs acc ∧
        FinG (postE K cl G H Q) (bad cl W G H σ) (lcL gs t f (wipeE ρ vs) (ds.drop (i + 1)) acc >>= fun acc => .ok (.o (.ol (acc.map .d)))), fun H5 h => ⟨ds.length - (i + 1), by omega, rfl, hlt, h⟩, fun x H3 y => ?_⟩
      obtain ⟨d, G3, hd, x3, rp⟩ := wk.yld i G2 H2 H3 x r2.g0 r2.gh hlt y
      have hdr : ds.drop i = d :: ds.drop (i + 1) := by
        rw [List.drop_eq_getElem_cons hlt]
        rw [List.getElem?_eq_getElem hlt] at hd
        rw [Option.some.inj hd]
      rw [hdr] at q
      unfold lcL at q
      cases eg : gs d (wipeE ρ vs) with
      | none => rw [eg] at q; exact q.elim
      | some ρ2 =>
        rw [eg] at q
        have r3 := r2.ext x3
        refine ⟨wipeE ρ vs, G3, _, d, r3.wipe vs, rp, ρ2, eg, fun σ2 k2 l2 rw2 => ⟨?_, ?_⟩⟩
        · rw [wipe_eq (σ := L2.wipe σ vs) l2 (fun j hj => k2 j fun m => hj (his j m)), wipe_wipe]
        · refine ⟨ρ2, G3, _, rw2, ?_⟩
          have q : FinG (postE K cl G H Q) (bad cl W G H σ) ((match t ρ2 with | .ok true => (match f ρ2 with | .ok y => (match y.fz with | .ok z => if acc.length < 16777216 then lcL gs t f (wipeE ρ vs) (ds.drop (i + 1)) (acc ++ [z]) else .st | _ => .st) | _ => .st) | .ok false => lcL gs t f (wipeE ρ vs) (ds.drop (i + 1)) acc | _ => .st) >>= fun acc => .ok (.o (.ol (acc.map .d)))) := q
          cases et : t ρ2 with
          | st => rw [et] at q; exact q.elim
          | ex z => rw [et] at q; exact q.elim
          | ok k =>
            rw [et] at q
            intro H4 G4 x4
            have x24 := x3.trans x4
            have g4 : G4 L = none := x24.g_none hg2 ⟨_, hl2⟩
            have l4 : H4 L = some (.lst xs) := x24.hh _ _ hl2
            cases k with
            | false =>
              show ∃ G2 xs acc, _
              exact ⟨G4, xs, acc, x2.trans x24, r2.ext x24, l4, g4, RpL.mono (sameR x24.gg) _ _ rp2, q⟩
            | true =>
              show tE K cl W0 f σ2 H4 _
              refine ⟨ρ2, G4, _, rw2.ext x4, ?_⟩
              have q : FinG (postE K cl G H Q) (bad cl W G H σ) ((match f ρ2 with | .ok y => (match y.fz with | .ok z => if acc.length < 16777216 then lcL gs t f (wipeE ρ vs) (ds.drop (i + 1)) (acc ++ [z]) else .st | _ => .st) | _ => .st) >>= fun acc => .ok (.o (.ol (acc.map .d)))) := q
              cases ee : f ρ2 with
              | st => rw [ee] at q; exact q.elim
              | ex z => rw [ee] at q; exact q.elim
              | ok yv =>
                rw [ee] at q
                intro u H5 G5 x5 v5
                have q : FinG (postE K cl G H Q) (bad cl W G H σ) ((match yv.fz with | .ok z => if acc.length < 16777216 then lcL gs t f (wipeE ρ vs) (ds.drop (i + 1)) (acc ++ [z]) else .st | _ => .st) >>= fun acc => .ok (.o (.ol (acc.map .d)))) := q
                cases ez : yv.fz with
                | st => rw [ez] at q; exact q.elim
                | ex z => rw [ez] at q; exact q.elim
                | ok z =>
                  rw [ez] at q
                  obtain ⟨G6, x6, _, rp6⟩ := v5.fz x5 ez
                  have q : FinG (postE K cl G H Q) (bad cl W G H σ) ((if acc.length < 16777216 then lcL gs t f (wipeE ρ vs) (ds.drop (i + 1)) (acc ++ [z]) else .st) >>= fun acc => .ok (.o (.ol (acc.map .d)))) := q
                  by_cases hlen : acc.length < 16777216
                  · rw [if_pos hlen] at q
                    have x26 := x24.trans x6
                    have g6 : G6 L = none := x26.g_none hg2 ⟨_, hl2⟩
                    refine ⟨xs, x6.hh _ _ l4, by rw [rp2.length]; exact line_lt hlen, G6, xs ++ [u], acc ++ [z], (x2.trans x26).mut hL0 g6, ?_, upd_same, g6, (RpL.mono (sameR x26.gg) _ _ rp2).append (.cons rp6 .nil), q⟩
                    have r6 := r2.ext x26
                    obtain ⟨fps, sl, hn⟩ := r.sl
                    obtain ⟨fpt, slt, hnt⟩ := r6.sl
                    have slx : SlR K cl G6 (upd H5 L (.lst (xs ++ [u]))) σ ρ fps := sl.fr (sameR (x2.trans x26).gg) fun a m o e => by
                      rw [upd_ne (ne_of_none e hL0)]
                      exact (x2.trans x26).hh _ _ e
                    exact ⟨((x2.trans x26).mut (o := .lst (xs ++ [u])) hL0 g6).gh, fun a o e => by
                      rcases r6.h0 a o e with z1 | ⟨z1, od, z2⟩
                      · by_cases ea : a = L
                        · subst ea
                          have := r.h0n hL0
                          rw [this] at e
                          cases e
                        · rw [upd_ne ea]
                          exact .inl z1
                      · by_cases ea : a = L
                        · subst ea
                          have := r.h0n hL0
                          rw [this] at e
                          cases e
                        · rw [upd_ne ea]
                          exact .inr ⟨z1, od, z2⟩, r6.g0, r6.gn, fps, slx, fun a m => ⟨(x2.trans x26).g_none (hn a m).1 (sl.dom a m), (hn a m).2⟩⟩
                  · rw [if_neg hlen] at q; exact q.elim
    · have e : i = ds.length := by omega
      subst e
      refine .inl ⟨wk.stop G2 H2 r2.g0 r2.gh, ?_⟩
      rw [List.drop_length] at q
      refine q _ H2 G2 x2 ⟨[L], .ol hl2 rp2.ol (fun m => nomatch m), fun a m => ?_⟩
      have ea : a = L := by simpa using m
      subst ea
      exact ⟨hL0, hg2⟩
variable {tg iter elt : Expr} {ifs : List Expr} {scope : Scope} {own : List (Str × Nat)}
abbrev VTs (X : Cx) (cl : Str → Addr) (ifs : List Expr) (t : Env → R Bool) : Prop := PTs X ifs (tT X.K cl W0 t)
theorem vts_nil : VTs X cl [] tYs := ⟨fun pins s σ H Q I ⟨ρ, G, B, r, q⟩ => pts_nil.run pins s σ H Q I (q H G (Ext.refl r.gh))⟩
theorem vts_one (h : VT X cl W0 c t) : VTs X cl [c] t := pts_one h
theorem ve_lc (hc : X.calm = true) (hN : X.N.Nodup) (hi : VI X cl W tg iter fs) (ok : BlkOk X.N X.env.scope scope own) (his : ∀ j ∈ is, j ∈ own.map (·.2))
    (hg : ∀ (s : Shared) (H : Hp) (C : Addr) (cs : List (Str × Addr)) (fp : List Addr), VG (X.blk s H scope (compEnvC scope cs C X.env) fp) cl tg gs is) (ht : ∀ (s : Shared) (H : Hp) (C : Addr) (cs : List (Str × Addr)) (fp : List Addr), VTs (X.blk s H scope (compEnvC scope cs C X.env) fp) cl ifs t)
    (he : ∀ (s : Shared) (H : Hp) (C : Addr) (cs : List (Str × Addr)) (fp : List Addr), VE (X.blk s H scope (compEnvC scope cs C X.env) fp) cl W0 elt f) (hs : ∀ x, foldedSetIterable iter X.env x = pure x := by intro _; rfl) :
    VE X cl W (.ListComp elt [⟨tg, iter, ifs, 0⟩] scope pos) (eLc (own.map (·.2)) fs gs t f) := PE.imp (pe_lc hc hN hi ok hg ht he hs) fun σ H Q q => lc_of his q
/-- name = [..] -/
theorem tE_nx {K : PySem.W.Frag} {σ : L2.St} {H : Hp} {i : Nat} {D : Ends} (q : tS K cl W (sSet i f) D σ H) : tE K cl W f σ H (fun v H1 => D.nx (σ.set i (some v)) H1) := tE_mono (tE_st q) fun v H1 ⟨x, ρ, G0, G, B, r, x1, v1, q⟩ => fin_set r x1 v1 q
theorem tE_nxO {K : PySem.W.Frag} {σ : L2.St} {H : Hp} {i : Nat} {D : Ends} (q : tS K cl W (sSetO i f) D σ H) : tE K cl W f σ H (fun v H1 => D.nx (σ.set i (some v)) H1) := tE_mono (tE_st q) fun v H1 ⟨x, ρ, G0, G, B, r, x1, v1, q⟩ => fin_setO r x1 v1 q
theorem vs_lc {i : Nat} {y : Str} {py spos : Pos} (hc : X.calm = true) (hN : X.N.Nodup) (hy : X.N[i]? = some y) (hyl : X.env.scope.names.lookup y = some .local) (hsw : swapsWith (.ListComp elt [⟨tg, iter, ifs, 0⟩] scope pos) (some (.Name y py)) spos.line X.env = pure true) (hi : VI X cl W tg iter fs) (ok : BlkOk X.N X.env.scope scope own) (his : ∀ j ∈ is, j ∈ own.map (·.2))
    (hg : ∀ (s : Shared) (H : Hp) (C : Addr) (cs : List (Str × Addr)) (fp : List Addr), VG (X.blk s H scope (compEnvC scope cs C X.env) fp) cl tg gs is) (ht : ∀ (s : Shared) (H : Hp) (C : Addr) (cs : List (Str × Addr)) (fp : List Addr), VTs (X.blk s H scope (compEnvC scope cs C X.env) fp) cl ifs t)
    (he : ∀ (s : Shared) (H : Hp) (C : Addr) (cs : List (Str × Addr)) (fp : List Addr), VE (X.blk s H scope (compEnvC scope cs C X.env) fp) cl W0 elt f) (hs : ∀ x, foldedSetIterable iter X.env x = pure x := by intro _; rfl) :
    VS X cl W (.Assign [.Name y py] (.ListComp elt [⟨tg, iter, ifs, 0⟩] scope pos) spos) (sSet i (eLc (own.map (·.2)) fs gs t f)) := PS.imp (ps_setLc hc hN hy hyl hsw hi ok hg ht he hs) fun D σ H q => lc_of his (tE_nx q)
theorem vs_lcO {i : Nat} {y : Str} {py spos : Pos} (hc : X.calm = true) (hN : X.N.Nodup) (hy : X.N[i]? = some y) (hyl : X.env.scope.names.lookup y = some .local) (hsw : swapsWith (.ListComp elt [⟨tg, iter, ifs, 0⟩] scope pos) (some (.Name y py)) spos.line X.env = pure true) (hi : VI X cl W tg iter fs) (ok : BlkOk X.N X.env.scope scope own) (his : ∀ j ∈ is, j ∈ own.map (·.2))
    (hg : ∀ (s : Shared) (H : Hp) (C : Addr) (cs : List (Str × Addr)) (fp : List Addr), VG (X.blk s H scope (compEnvC scope cs C X.env) fp) cl tg gs is) (ht : ∀ (s : Shared) (H : Hp) (C : Addr) (cs : List (Str × Addr)) (fp : List Addr), VTs (X.blk s H scope (compEnvC scope cs C X.env) fp) cl ifs t)
    (he : ∀ (s : Shared) (H : Hp) (C : Addr) (cs : List (Str × Addr)) (fp : List Addr), VE (X.blk s H scope (compEnvC scope cs C X.env) fp) cl W0 elt f) (hs : ∀ x, foldedSetIterable iter X.env x = pure x := by intro _; rfl) :
    VS X cl W (.Assign [.Name y py] (.ListComp elt [⟨tg, iter, ifs, 0⟩] scope pos) spos) (sSetO i (eLc (own.map (·.2)) fs gs t f)) := PS.imp (ps_setLc hc hN hy hyl hsw hi ok hg ht he hs) fun D σ H q => lc_of his (tE_nxO q)
end

/-! ### defs -/
def env0 (n : Nat) (ds : List D) : Env := ds.map (fun d => some (.d d)) ++ List.replicate (n - ds.length) none
def runF (n : Nat) (s : SS) : List D → R Sl := fun ds => match s (env0 n ds) with
  | some (.nx _) => .ok (.d .non)
  | some (.rt x _) => .ok x
  | some (.rs e _) => .ex e
  | _ => .st
theorem slr_none {K : PySem.W.Frag} {cl : Str → Addr} {G H : Hp} : ∀ m : Nat, SlR K cl G H (List.replicate m none) (List.replicate m none) []
  | 0 => .nil
  | m + 1 => .no (slr_none m)
theorem slr_data {K : PySem.W.Frag} {cl : Str → Addr} {G H : Hp} (m : Nat) : ∀ {vs : List V} {ds : List D}, RpL K cl G vs ds → SlR K cl G H (vs.map some ++ List.replicate m none) (ds.map (fun d => some (.d d)) ++ List.replicate m none) []
  | _, _, .nil => slr_none m
  | _, _, .cons a b => SlR.so (fp := []) (fq := []) (.d a) (slr_data m b) fun _ m => nomatch m
section
variable {P : Program} {w : World} {K : PySem.W.Frag} {mg : Str → Option Value} {base : Heap} {cl : Str → Addr}
theorem rel_start {G H : Hp} {vs : List V} {ds : List D} {N : List Str} (l : LeR G H) (r : RpL K cl G vs ds) : Rel K cl ⟨H, G, []⟩ G (env0 N.length ds) (L2.start N vs) H :=
  ⟨l, fun a o e => .inl e, Same.refl _, fun a o e => .inl e, [], by
    have := slr_data (H := H) (N.length - ds.length) r
    unfold env0 L2.start
    rw [r.length]
    exact ⟨this, fun _ m => nomatch m⟩⟩
theorem rel_end {G H G0 H0 : Hp} {ρ : Env} {σ : L2.St} {v : V} {s : Sl} (r : Rel K cl ⟨H0, G0, []⟩ G (some s :: ρ) (some v :: σ) H) : Ext G0 H0 G H ∧ VR K cl G H v H0 (.o s) := by
  have hh : Same H0 H := fun a o e => (r.h0 a o e).elim id fun ⟨m, _⟩ => nomatch m
  refine ⟨⟨hh, r.g0, r.gh, r.gn⟩, ?_⟩
  obtain ⟨fp, sl, n⟩ := r.sl
  cases sl with
  | so a b c => exact ⟨_, a, fun x m => ⟨(n x (by simp [m])).2, (n x (by simp [m])).1⟩⟩
theorem rel_nx {G H G0 H0 : Hp} {ρ : Env} {σ : L2.St} (r : Rel K cl ⟨H0, G0, []⟩ G ρ σ H) : Ext G0 H0 G H :=
  ⟨fun a o e => (r.h0 a o e).elim id (fun ⟨m, _⟩ => (nomatch m)), r.g0, r.gh, r.gn⟩
/-- a def that lets no exception out -/
theorem fn_pure {x qual : Str} {st : Stmt} {f : Addr} {fd : FuncData} {N ps : List Str} {k n : Nat} {sm : SS} (F : Fun K x qual st f fd) (S : FnScope N ps (defScope st)) (hn : ps.length = n)
    (hb : ∀ (cdv : Value) (A : Around) (outer : List PySem.Env) (s : Shared) (H : Hp) (E : XK), Room k (A.deeper (PyProof.Rows.envOfC qual (defScope st) s.heap.objs.size f cdv)) → VSs (cxOf CX0 P w K mg base N qual (defScope st) f cdv A outer s H E).nox cl W0 (defBody st) sm) :
    FnOk P w K mg base CX0 (k + 1) f fd ps (spP K cl n fun ds => nox (runF N.length sm ds)) := by
  refine F.ok S (fun vs H Q E h => ?_) (fun cdv A outer s H vs Q E hr h => ?_)
  · obtain ⟨G, ds, _, r, e, _⟩ := h
    rw [r.length, e, hn]
  · obtain ⟨G, ds, l, r, _, q⟩ := h
    refine ⟨_, hb cdv A outer s H E hr, env0 N.length ds, G, ⟨H, G, []⟩, rel_start l r, ?_⟩
    have q : FinG (postF K cl G H Q) (badF cl G H E) (nox (runF N.length sm ds)) := q
    unfold runF at q
    cases es : sm (env0 N.length ds) with
    | none => rw [es] at q; exact q.elim
    | some fl =>
      rw [es] at q
      cases fl with
      | nx ρ => exact fun σ H' G' r' => q _ H' G' (rel_nx r') ⟨[], .d .non, fun _ m => nomatch m⟩
      | br ρ => exact q.elim
      | ct ρ => exact q.elim
      | rt s ρ =>
        intro v σ H' G' r'
        obtain ⟨x1, v1⟩ := rel_end r'
        exact q v H' G' x1 v1
      | rs e ρ => exact q.elim
/-- a promise by another function -/
theorem fn_as {CX : CXT} {k f n : Nat} {fd : FuncData} {ps : List Str} {F F' : List D → R Sl} (h : FnOk P w K mg base CX k f fd ps (spP K cl n F)) (he : ∀ ds, ds.length = n → F' ds = .st ∨ F' ds = F ds) : FnOk P w K mg base CX k f fd ps (spP K cl n F') :=
  h.imp fun vs H Q E ⟨G, ds, l, r, e, q⟩ => ⟨G, ds, l, r, e, by
    rcases he ds e with z | z
    · rw [z] at q; exact q.elim
    · rw [z] at q; exact q⟩
theorem fn_st {CX : CXT} {k f n : Nat} {fd : FuncData} {ps : List Str} (hn : ps.length = n) : FnOk P w K mg base CX k f fd ps (spP K cl n fun _ => .st) :=
  ⟨fun vs H Q E ⟨G, ds, l, r, e, q⟩ => q.elim, fun A outer s H args us vs Q E hr e0 hb r ⟨G, ds, l, rr, e, q⟩ => q.elim⟩
end
/-- the law's own promise -/
def spLaw (K : PySem.W.Frag) : Sp := fun vs H Q _ => ∃ (a : Addr) (ns : List Int), vs = [.ref a] ∧ SqL K H a (ns.map V.int) ∧ ns.length ≤ 63 ∧ ∀ H', Q (.bl true) H'
theorem fn_law {P : Program} {w : World} {K : PySem.W.Frag} {mg : Str → Option Value} {base : Heap} {cl : Str → Addr} {CX : CXT} {k : Nat} {f : Addr} {fd : FuncData} {ps : List Str} {F : List D → R Sl} (h : FnOk P w K mg base CX k f fd ps (spP K cl 1 F)) (hl : ∀ ns : List Int, ns.length ≤ 63 → F [.scr ns] = .ok (.d (.bl true))) :
    FnOk P w K mg base CX k f fd ps (spLaw K) := h.imp fun vs H Q E ⟨a, ns, ev, hs, hn, k⟩ => by
  subst ev
  refine ⟨H, [.scr ns], LeR.refl H, .cons (.scr hs) .nil, rfl, ?_⟩
  rw [hl ns hn]
  intro v H' G' x r
  obtain ⟨fp, ow, _⟩ := r
  cases ow with
  | d z => rw [Rp.bl_ z]; exact k H'
end Vl

/-! VlH: the module's constants -/
namespace Vl
open PySem L2 PySem.Spec
theorem relV_of_abs {u : Value} {x : V} (h : absV u = some x) : RelV x u := by
  cases u <;> first | (cases h; done) | (cases h; rfl) | (cases h; exact ⟨_, rfl⟩)
theorem vals_of_abs : ∀ {us : List Value} {xs : List V}, us.map absV = xs.map some → Vals xs us
  | [], [], _ => .nil
  | [], _ :: _, h => by cases h
  | _ :: _, [], h => by cases h
  | u :: us, x :: xs, h => by
    rw [List.map_cons, List.map_cons] at h
    injection h with h1 h2
    exact .cons (relV_of_abs h1) (vals_of_abs h2)
theorem sqt_const {K : PySem.W.Frag} {a : Addr} {od : Option Addr} {y : Array Value} {n : Nat} {sl : Array (Option Value)} {xs : List V} (l : K.lookup a = some ⟨.type "tuple", od, .seq y n, sl⟩) (v : y.toList.map absV = xs.map some) (hs : xs.length ≤ sizeLine) (H : Hp) : SqT K H a xs := by
  refine .inr ⟨_, y, n, l, rfl, rfl, ?_, vals_of_abs v⟩
  have := congrArg List.length v
  simp only [List.length_map, Array.length_toList] at this
  omega
theorem pe_globx {X : Cx} {x : Str} {v : V} {pos : Pos} (hg : Gl X x) (h : ∃ u, X.mg x = some u ∧ RelV v u) (hd : (x == ("__debug__" : Str)) = false := by decide) : PE X (.Name x pos) (tC v) := by
  obtain ⟨u, h1, h2⟩ := h
  exact pe_glob hg h1 h2 hd
/-- data whose value is plain -/
def plnD : D → Bool
  | .non => true
  | .bl _ => true
  | .int _ => true
  | .str _ => true
  | _ => false
def dV : D → V
  | .bl b => .bl b
  | .int i => .int i
  | .str s => .str s
  | _ => .non
theorem rp_dV {K : PySem.W.Frag} {cl : Str → Addr} {G : Hp} {d : D} (h : plnD d = true) : Rp K cl G (dV d) d := by
  cases d <;> first | (cases h; done) | exact .non | exact .bl _ | exact .int _ | exact .str _
theorem rpL_dV {K : PySem.W.Frag} {cl : Str → Addr} {G : Hp} : ∀ {l : List D}, l.all plnD = true → RpL K cl G (l.map dV) l
  | [], _ => .nil
  | d :: r, h => by
    rw [List.all_cons, Bool.and_eq_true] at h
    exact .cons (rp_dV h.1) (rpL_dV h.2)
section
variable {X : Cx} {cl : Str → Addr} {W : XW} {e a b c : Expr} {f g h : Env → R Val} {pos : Pos}
/-- a constant of the module: a plain value -/
theorem ve_cs {x : Str} {d : D} (hg : Gl X x) (h : ∃ u, X.mg x = some u ∧ RelV (dV d) u) (hp : plnD d = true) (hd : (x == ("__debug__" : Str)) = false) : VE X cl W (.Name x pos) (eC d) := ve_c (pe_globx hg h hd) fun _ => rp_dV hp
/-- a tuple of plain values -/
theorem ve_ctup {x : Str} {a : Addr} {l : List D} (hg : Gl X x) (h : X.mg x = some (.ref a)) (hs : ∀ H, SqT X.K H a (l.map dV)) (hp : l.all plnD = true) (hd : (x == ("__debug__" : Str)) = false) : VE X cl W (.Name x pos) (eC (.tup l)) :=
  ve_c (pe_glob (v := .ref a) hg h rfl hd) fun G => .tup (hs G) (rpL_dV hp)
end
/-! dicts with text keys -/
def dlk : List (Str × D) → Str → Option D
  | [], _ => none
  | (k, d) :: r, z => if k = z then some d else dlk r z
structure KD (K : PySem.W.Frag) (w : World) (a : Addr) (kds : List (Str × D)) : Prop where
  at_ : ∃ es n, K.lookup a = some ⟨.type "dict", none, .dict es n, #[]⟩ ∧ PySem.W.KeysLit w.params es.toList
  get : ∀ z, match dlk kds z with
    | some d => ∃ u, PySem.W.nsIn K a z = some (some u) ∧ RelV (dV d) u
    | none => PySem.W.nsIn K a z = some none
  low : (a == sysModules) = false
  pl : (kds.map (·.2)).all plnD = true
theorem ns_of : ∀ (l : List DictEntry) (kds : List (Str × D)), l.map (fun e => (absV e.key, absV e.val)) = kds.map (fun p => (some (.str p.1), some (dV p.2))) → ∀ z, match dlk kds z with
    | some d => ∃ e, l.find? (·.key.isStr z) = some e ∧ RelV (dV d) e.val
    | none => l.find? (·.key.isStr z) = none ∧ l.any (·.refKey) = false
  | [], [], _, z => ⟨rfl, rfl⟩
  | [], _ :: _, h, _ => by cases h
  | _ :: _, [], h, _ => by cases h
  | e :: l, (k, d) :: kds, h, z => by
    rw [List.map_cons, List.map_cons] at h
    injection h with h1 h2
    injection h1 with h3 h4
    have ih := ns_of l kds h2 z
    obtain ⟨t, hk⟩ : ∃ t, e.key = .str k t := relV_of_abs h3
    have hs : e.key.isStr z = (k == z) := by rw [hk]; rfl
    have hr : e.refKey = false := by unfold DictEntry.refKey; rw [hk]
    unfold dlk
    by_cases q : k = z
    · rw [if_pos q]
      subst q
      refine ⟨e, ?_, relV_of_abs h4⟩
      rw [List.find?_cons, hs, beq_self_eq_true]
    · rw [if_neg q]
      have hq : (k == z) = false := by simpa using q
      rw [List.find?_cons, hs, hq, List.any_cons, hr]
      simp only [Bool.false_or]
      exact ih
theorem kd_const {K : PySem.W.Frag} {w : World} {a : Addr} {kds : List (Str × D)} {es : Array DictEntry} {n : Nat} (l : K.lookup a = some ⟨.type "dict", none, .dict es n, #[]⟩) (hk : PySem.W.KeysLit w.params es.toList)
    (v : es.toList.map (fun e => (absV e.key, absV e.val)) = kds.map (fun p => (some (.str p.1), some (dV p.2)))) (low : (a == sysModules) = false) (pl : (kds.map (·.2)).all plnD = true) : KD K w a kds where
  at_ := ⟨es, n, l, hk⟩
  low := low
  pl := pl
  get := fun z => by
    have := ns_of _ _ v z
    unfold PySem.W.nsIn
    rw [l]
    cases e : dlk kds z with
    | some d =>
      rw [e] at this
      obtain ⟨x, h1, h2⟩ := this
      exact ⟨x.val, by simp only [h1], h2⟩
    | none =>
      rw [e] at this
      simp only [this.1, this.2, Bool.false_eq_true, if_false]
theorem dlk_mem : ∀ {kds : List (Str × D)} {z : Str} {d : D}, dlk kds z = some d → d ∈ kds.map (·.2)
  | [], _, _, h => by cases h
  | (k, x) :: r, z, d, h => by
    unfold dlk at h
    split at h
    · cases h; exact List.mem_cons_self
    · exact List.mem_cons_of_mem _ (dlk_mem h)
theorem KD.dct {K : PySem.W.Frag} {w : World} {a : Addr} {kds : List (Str × D)} {z : Str} {d : D} (k : KD K w a kds) (h : dlk kds z = some d) : KDct K w a z (dV d) := by
  obtain ⟨es, n, h1, h2⟩ := k.at_
  have := k.get z
  rw [h] at this
  obtain ⟨u, h3, h4⟩ := this
  exact ⟨es, n, u, h1, h2, h3, h4⟩
def oKix (kds : List (Str × D)) : Val → Option Val := fun x => match x.dat with
  | some (.str z) => (dlk kds z).map .d
  | _ => none
def oKin (kds : List (Str × D)) : Val → Option Val := fun x => match x.dat with
  | some (.str z) => some (.d (.bl (dlk kds z).isSome))
  | _ => none
def oKni (kds : List (Str × D)) : Val → Option Val := fun x => match x.dat with
  | some (.str z) => some (.d (.bl (!(dlk kds z).isSome)))
  | _ => none
section
variable {X : Cx} {cl : Str → Addr} {W : XW} {e b c : Expr} {f g h : Env → R Val} {pos : Pos} {a : Addr} {kds : List (Str × D)}
theorem ve_kix {x : Str} {p : Pos} (hg : Gl X x) (hm : X.mg x = some (.ref a)) (D : KD X.K X.w a kds) (hb : VE X cl W b g) (hd : (x == ("__debug__" : Str)) = false) (hs : PlainIx b := by exact fun _ _ => rfl) : VE X cl W (.Subscript (.Name x p) b pos) (e1 (oKix kds) g) :=
  PE.imp (pe_ix ix_kdict (pe_glob (v := .ref a) hg hm rfl hd) hb hs) fun σ H Q ⟨ρ, G, B, rl, q⟩ => by
    show tE X.K cl W g σ H _
    refine tE_mono (tE_run rl (Ext.refl rl.gh) q) fun w H2 ⟨y, G2, x2, _, v2, _, q⟩ => ?_
    obtain ⟨z, ez, q⟩ := fin_of q
    unfold oKix at ez
    split at ez
    · rename_i s hy
      cases ed : dlk kds s with
      | none => rw [ed] at ez; cases ez
      | some d =>
        rw [ed] at ez
        cases ez
        have hp : plnD d = true := List.all_eq_true.mp D.pl d (dlk_mem ed)
        refine ⟨a, s, dV d, rfl, Rp.str_ (v2.rp x2.gh hy), D.dct ed, q _ H2 G2 x2 (rp_dV hp)⟩
    · cases ez
theorem ve_kin {x : Str} {p : Pos} (hg : Gl X x) (hm : X.mg x = some (.ref a)) (D : KD X.K X.w a kds) (ha : VE X cl W b g) (hd : (x == ("__debug__" : Str)) = false) : VE X cl W (.Compare b [.In] [.Name x p] pos) (e1 (oKin kds) g) := by
  obtain ⟨es, n, h1, h2⟩ := D.at_
  refine PE.imp (pe_cmpR (op_in_kd (X := X) (d := a) (es := es) (n := n) ⟨h1, h2, D.low⟩) ha (pe_glob (v := .ref a) hg hm rfl hd) rfl) fun σ H Q ⟨ρ, G, B, rl, q⟩ => ?_
  refine tE_mono (tE_run rl (Ext.refl rl.gh) q) fun w H2 ⟨y, G2, x2, _, v2, _, q⟩ => ?_
  obtain ⟨z, ez, q⟩ := fin_of q
  unfold oKin at ez
  split at ez
  · rename_i s hy
    cases ez
    have hg := D.get s
    cases ed : dlk kds s with
    | none =>
      rw [ed] at hg q
      exact ⟨s, none, Rp.str_ (v2.rp x2.gh hy), rfl, hg, q _ H2 G2 x2 (Rp.bl _)⟩
    | some d =>
      rw [ed] at hg q
      obtain ⟨u, h3, _⟩ := hg
      exact ⟨s, some u, Rp.str_ (v2.rp x2.gh hy), rfl, h3, q _ H2 G2 x2 (Rp.bl _)⟩
  · cases ez
theorem ve_kni {x : Str} {p : Pos} (hg : Gl X x) (hm : X.mg x = some (.ref a)) (D : KD X.K X.w a kds) (ha : VE X cl W b g) (hd : (x == ("__debug__" : Str)) = false) : VE X cl W (.Compare b [.NotIn] [.Name x p] pos) (e1 (oKni kds) g) := by
  obtain ⟨es, n, h1, h2⟩ := D.at_
  refine PE.imp (pe_cmpR (op_notIn_kd (X := X) (d := a) (es := es) (n := n) ⟨h1, h2, D.low⟩) ha (pe_glob (v := .ref a) hg hm rfl hd) rfl) fun σ H Q ⟨ρ, G, B, rl, q⟩ => ?_
  refine tE_mono (tE_run rl (Ext.refl rl.gh) q) fun w H2 ⟨y, G2, x2, _, v2, _, q⟩ => ?_
  obtain ⟨z, ez, q⟩ := fin_of q
  unfold oKni at ez
  split at ez
  · rename_i s hy
    cases ez
    have hg := D.get s
    cases ed : dlk kds s with
    | none =>
      rw [ed] at hg q
      exact ⟨s, none, Rp.str_ (v2.rp x2.gh hy), rfl, hg, q _ H2 G2 x2 (Rp.bl _)⟩
    | some d =>
      rw [ed] at hg q
      obtain ⟨u, h3, _⟩ := hg
      exact ⟨s, some u, Rp.str_ (v2.rp x2.gh hy), rfl, h3, q _ H2 G2 x2 (Rp.bl _)⟩
  · cases ez
end
end Vl

/-! VlI: enumerate, zip, reversed; texts; adding lists -/
namespace Vl
open PySem L2 PySem.Spec
def enumD : Nat → List D → List D
  | _, [] => []
  | n, d :: r => .tup [.int (n : Int), d] :: enumD (n + 1) r
theorem enumD_get : ∀ (l : List D) (n i : Nat), (enumD n l)[i]? = (l[i]?).map fun d => D.tup [.int ((n + i : Nat) : Int), d]
  | [], _, _ => by simp [enumD]
  | d :: r, n, 0 => by simp [enumD]
  | d :: r, n, i + 1 => by
    simp only [enumD, List.getElem?_cons_succ]
    rw [enumD_get r (n + 1) i, show n + 1 + i = n + (i + 1) by omega]
theorem enumD_len : ∀ (l : List D) (n : Nat), (enumD n l).length = l.length
  | [], _ => rfl
  | d :: r, n => by simp only [enumD, List.length_cons, enumD_len r (n + 1)]
def zipD : List D → List D → List D
  | a :: r, b :: t => .tup [a, b] :: zipD r t
  | _, _ => []
theorem zipD_len : ∀ (l m : List D), (zipD l m).length = min l.length m.length
  | [], m => by simp [zipD]
  | _ :: _, [] => by simp [zipD]
  | a :: r, b :: t => by simp only [zipD, List.length_cons, zipD_len r t]; omega
theorem zipD_get : ∀ (l m : List D) (i : Nat) (a b : D), l[i]? = some a → m[i]? = some b → (zipD l m)[i]? = some (.tup [a, b])
  | [], _, i, _, _, h, _ => by simp at h
  | _ :: _, [], i, _, _, _, h => by simp at h
  | x :: r, y :: t, 0, a, b, h1, h2 => by
    simp at h1 h2
    subst h1 h2
    rfl
  | x :: r, y :: t, i + 1, a, b, h1, h2 => by
    rw [List.getElem?_cons_succ] at h1 h2
    exact zipD_get r t i a b h1 h2
section
variable {K : PySem.W.Frag} {cl : Str → Addr} {G : Hp} {a b : Addr} {xs ys : List V} {ds es : List D}
theorem wk_enum (h : G a = some (.lst xs)) (r : RpL K cl G xs ds) : Wk K cl G (Ite K a) (enumD 0 ds) :=
  have at_ : ∀ {G' H : Hp}, Same G G' → LeR G' H → SqL K H a xs := fun s l => .inl (.inl (l.ls (s _ _ h)))
  { go := fun i G' H s l hi => by
      rw [enumD_len] at hi
      exact ⟨xs, xs[i]'(by rw [r.length]; exact hi), at_ s l, by simp [r.length, hi]⟩
    stop := fun G' H s l => ⟨xs, at_ s l, by rw [r.length, enumD_len]; exact Nat.le_refl _⟩
    yld := fun i G' H H' v s l hi ⟨T, x, e1, e2, e3, y⟩ => by
      subst e1 e3
      obtain ⟨d, h1, h2⟩ := r.get' (y xs (at_ s l))
      refine ⟨.tup [.int ((0 + i : Nat) : Int), d], upd G' T (.tup [.int (i : Nat), x]), by rw [enumD_get, h1]; rfl, (Ext.refl l).new e2, rp_tup (Ext.refl l) e2 ?_⟩
      rw [Nat.zero_add]
      exact .cons (.int _) (.cons (Rp.mono (sameR s) _ _ h2) .nil) }
theorem wk_zip (h : G a = some (.lst xs)) (r : RpL K cl G xs ds) (h' : G b = some (.lst ys)) (r' : RpL K cl G ys es) : Wk K cl G (Itz K a b) (zipD ds es) :=
  have at_ : ∀ {G' H : Hp}, Same G G' → LeR G' H → SqL K H a xs := fun s l => .inl (.inl (l.ls (s _ _ h)))
  have at2 : ∀ {G' H : Hp}, Same G G' → LeR G' H → SqL K H b ys := fun s l => .inl (.inl (l.ls (s _ _ h')))
  { go := fun i G' H s l hi => by
      rw [zipD_len] at hi
      have l1 := r.length
      have l2 := r'.length
      exact ⟨xs, ys, xs[i]'(by omega), ys[i]'(by omega), at_ s l, at2 s l, by simp, by simp⟩
    stop := fun G' H s l => ⟨xs, ys, at_ s l, at2 s l, by rw [zipD_len, r.length, r'.length]; omega⟩
    yld := fun i G' H H' v s l hi ⟨T, x, z, e1, e2, e3, y, y'⟩ => by
      subst e1 e3
      obtain ⟨d, h1, h2⟩ := r.get' (y xs (at_ s l))
      obtain ⟨d', h1', h2'⟩ := r'.get' (y' ys (at2 s l))
      exact ⟨.tup [d, d'], upd G' T (.tup [x, z]), zipD_get _ _ _ _ _ h1 h1', (Ext.refl l).new e2, rp_tup (Ext.refl l) e2 (.cons (Rp.mono (sameR s) _ _ h2) (.cons (Rp.mono (sameR s) _ _ h2') .nil))⟩ }
theorem wk_rev (h : G a = some (.lst xs)) (r : RpL K cl G xs ds) : Wk K cl G (Itv K a xs.length) ds.reverse :=
  have at_ : ∀ {G' H : Hp}, Same G G' → LeR G' H → SqL K H a xs := fun s l => .inl (.inl (l.ls (s _ _ h)))
  { go := fun i G' H s l hi => by
      rw [List.length_reverse, ← r.length] at hi
      exact ⟨hi, xs, xs[xs.length - 1 - i]'(by omega), at_ s l, by simp⟩
    stop := fun G' H s l => by
      rw [List.length_reverse, ← r.length]
      exact Nat.le_refl _
    yld := fun i G' H H' x s l hi ⟨e, y⟩ => by
      subst e
      obtain ⟨d, h1, h2⟩ := r.get' (y xs (at_ s l))
      rw [List.length_reverse, ← r.length] at hi
      refine ⟨d, G', ?_, Ext.refl l, Rp.mono (sameR s) _ _ h2⟩
      rw [List.getElem?_reverse (by rw [← r.length]; exact hi), ← r.length, h1] }
end
def iEn (fs : Env → R (List D)) : Env → R (List D) := fun ρ => fs ρ >>= fun ds => match ds with
  | [.lst l] => .ok (enumD 0 l)
  | _ => .st
def iZp (fs : Env → R (List D)) : Env → R (List D) := fun ρ => fs ρ >>= fun ds => match ds with
  | [.lst l, .lst m] => .ok (zipD l m)
  | _ => .st
def iRv (fs : Env → R (List D)) : Env → R (List D) := fun ρ => fs ρ >>= fun ds => match ds with
  | [.lst l] => .ok l.reverse
  | _ => .st
section
variable {X : Cx} {cl : Str → Addr} {W : XW} {e e2 : Expr} {fs : Env → R (List D)} {elts : List Expr} {kk : Nat} {p pos tpos : Pos} {tg : Expr}
theorem vi_enum (hg : Gl X "enumerate") (hm : X.mg "enumerate" = none) (ha : VA X cl W [e] fs) (hs : starEach [e] X.env = [(false, eval e X.env)] := by rfl) : VI X cl W (.Tuple elts kk tpos) (.Call (.Name "enumerate" p) [e] [] pos) (iEn fs) :=
  PI.imp (pi_enum hg hm ha hs) fun σ H Q ⟨ρ, G, B, rl, q⟩ => tA_mono (tA_run rl (Ext.refl rl.gh) q) fun vs H1 ⟨l, G1, x1, _, r1, _, q⟩ => by
    revert q
    split
    · intro q
      cases r1 with
      | cons r1 rr =>
        cases rr
        cases r1 with
        | lst h1 h2 => exact ⟨_, _, rfl, .inl (.inl (x1.gh.ls h1)), q _ H1 G1 x1 (wk_enum h1 h2)⟩
    · intro q
      exact q.elim
theorem vi_zip (hg : Gl X "zip") (hm : X.mg "zip" = none) (ha : VA X cl W [e, e2] fs) (hs : starEach [e, e2] X.env = (false, eval e X.env) :: starEach [e2] X.env := by rfl) (hpl : (backTo pos (starEach [e2] X.env)).any (·.1) = false := by rfl) : VI X cl W (.Tuple elts kk tpos) (.Call (.Name "zip" p) [e, e2] [] pos) (iZp fs) :=
  PI.imp (pi_zip hg hm ha hs hpl) fun σ H Q ⟨ρ, G, B, rl, q⟩ => tA_mono (tA_run rl (Ext.refl rl.gh) q) fun vs H1 ⟨l, G1, x1, _, r1, _, q⟩ => by
    revert q
    split
    · intro q
      cases r1 with
      | cons r1 rr =>
        cases rr with
        | cons r2 rr =>
          cases rr
          cases r1 with
          | lst h1 h2 =>
            cases r2 with
            | lst h3 h4 => exact ⟨_, _, _, _, rfl, .inl (.inl (x1.gh.ls h1)), .inl (.inl (x1.gh.ls h3)), q _ H1 G1 x1 (wk_zip h1 h2 h3 h4)⟩
    · intro q
      exact q.elim
theorem vi_rev (hg : Gl X "reversed") (hm : X.mg "reversed" = none) (ha : VA X cl W [e] fs) (hs : starEach [e] X.env = [(false, eval e X.env)] := by rfl) : VI X cl W tg (.Call (.Name "reversed" p) [e] [] pos) (iRv fs) :=
  PI.imp (pi_reversed hg hm ha hs) fun σ H Q ⟨ρ, G, B, rl, q⟩ => tA_mono (tA_run rl (Ext.refl rl.gh) q) fun vs H1 ⟨l, G1, x1, _, r1, _, q⟩ => by
    revert q
    split
    · intro q
      cases r1 with
      | cons r1 rr =>
        cases rr
        cases r1 with
        | lst h1 h2 => exact ⟨_, _, rfl, .inl (.inl (x1.gh.ls h1)), q _ H1 G1 x1 (wk_rev h1 h2)⟩
    · intro q
      exact q.elim
end
/-! texts -/
def sAdd : Val → Val → Option Val := fun x y => match x.dat, y.dat with
  | some (.str a), some (.str b) => if a.length + b.length ≤ 16777216 then some (.d (.str (a ++ b))) else none
  | _, _ => none
def sMul : Val → Val → Option Val := fun x y => match x.dat, y.dat with
  | some (.str a), some (.int n) => if -(2 ^ 63 : Int) ≤ n ∧ n ≤ 16777216 ∧ a.length * n.toNat ≤ 16777216 then some (.d (.str (Txt.mul a n))) else none
  | _, _ => none
def sFind : Val → Val → Option Val := fun x y => match x.dat, y.dat with
  | some (.str a), some (.str b) => some (.d (.int (Txt.find a b)))
  | _, _ => none
/-- a text's method with one argument -/
def e2m (op : Val → Val → Option Val) (f g : Env → R Val) : Env → R Val := fun ρ => f ρ >>= fun x => match x.dat with
  | some (.str _) => g ρ >>= fun y => R.of (op x y)
  | _ => .st
def strsOf : List D → Option (List Str)
  | [] => some []
  | .str s :: r => (strsOf r).map fun l => s :: l
  | _ :: _ => none
def sJoin : Val → Val → Option Val := fun x y => match x.dat, y.items with
  | some (.str a), some l => match strsOf l with
    | some ys => if (ys.map (·.length)).sum + ys.length * a.length ≤ 16777216 then some (.d (.str (Txt.join a ys))) else none
    | none => none
  | _, _ => none
def lAdd : Val → Val → Option Val := fun x y => match x.items, y.items with
  | some a, some b => if a.length + b.length ≤ 16777216 then some (.o (.ol ((a ++ b).map .d))) else none
  | _, _ => none
def lMul : Val → Val → Option Val := fun x y => match x.items, y.dat with
  | some a, some (.int n) => if -(2 ^ 63 : Int) ≤ n ∧ n < 2 ^ 63 ∧ a.length * n.toNat ≤ 16777216 then some (.o (.ol ((List.replicate n.toNat a).flatten.map .d))) else none
  | _, _ => none
def tAdd2 : Val → Val → Option Val := fun x y => match x, y with
  | .d (.tup a), .d (.tup b) => if a.length + b.length ≤ 16777216 then some (.d (.tup (a ++ b))) else none
  | _, _ => none
theorem strsOf_rp {K : PySem.W.Frag} {cl : Str → Addr} {G : Hp} : ∀ {l : List D} {ys : List Str} {xs : List V}, strsOf l = some ys → RpL K cl G xs l → xs = ys.map V.str
  | [], ys, xs, h, r => by cases h; cases r; rfl
  | d :: l, ys, xs, h, r => by
    cases d with
    | str s =>
      simp only [strsOf, Option.map_eq_some_iff] at h
      obtain ⟨m, h, rfl⟩ := h
      cases r with
      | cons a b =>
        rw [Rp.str_ a, strsOf_rp h b]
        rfl
    | _ => simp [strsOf] at h
theorem op_mul_str {X : Cx} : OpR X (binaryOp .Mult) (fun x y H Q => ∃ i j, x = .str i ∧ y = .int j ∧ MulOk i j ∧ Q (.str (Txt.mul i j)) H) := by
  intro pins s σ H x y v u Q I rx ry h
  obtain ⟨i, j, rfl, rfl, hz, q⟩ := h
  obtain ⟨t, rfl⟩ := rx
  obtain ⟨t', rfl⟩ := ry
  exact SB.mul hz (fun t' tk => ⟨.str (Txt.mul i j), H, I.tok _, ⟨_, rfl⟩, q⟩)
theorem rp_items {K : PySem.W.Frag} {cl : Str → Addr} {G H Hx : Hp} {v : V} {x : Val} {l : List D} (r : VR K cl G H v Hx x) (hl : LeR G H) (e : x.items = some l) : ∃ a xs, v = .ref a ∧ H a = some (.lst xs) ∧ RpL K cl G xs l := r.items hl e
theorem flat_rep {K : PySem.W.Frag} {cl : Str → Addr} {G : Hp} {xs : List V} {l : List D} (r : RpL K cl G xs l) : ∀ n : Nat, RpL K cl G (List.replicate n xs).flatten (List.replicate n l).flatten
  | 0 => .nil
  | n + 1 => by
    rw [List.replicate_succ, List.replicate_succ, List.flatten_cons, List.flatten_cons]
    exact r.append (flat_rep r n)
section
variable {X : Cx} {cl : Str → Addr} {W : XW} {e a b c : Expr} {f g h : Env → R Val} {pos apos : Pos}
theorem ve_sadd (ha : VE X cl W a f) (hb : VE X cl W b g) : VE X cl W (.BinOp a .Add b pos) (e2 sAdd f g) := ve_op2 (pe_op op_add_str ha hb) fun x y z v w Hx Hy G H Q e l r1 r2 q => by
  unfold sAdd at e
  split at e
  · rename_i i j h1 h2
    split at e
    · rename_i hc
      cases e
      exact ⟨i, j, Rp.str_ (r1.rp l h1), Rp.str_ (r2.rp l h2), line_le hc, q _ H G (Ext.refl l) (Rp.str _)⟩
    · cases e
  · cases e
theorem ve_smul (ha : VE X cl W a f) (hb : VE X cl W b g) : VE X cl W (.BinOp a .Mult b pos) (e2 sMul f g) := ve_op2 (pe_op op_mul_str ha hb) fun x y z v w Hx Hy G H Q e l r1 r2 q => by
  unfold sMul at e
  split at e
  · rename_i i j h1 h2
    split at e
    · rename_i hc
      cases e
      exact ⟨i, j, Rp.str_ (r1.rp l h1), Rp.int_ (r2.rp l h2), PyProof.Rows.mulOk_of i.length j.toNat (Nat.le_refl _) (by omega) hc.1 (by omega) hc.2.2, q _ H G (Ext.refl l) (Rp.str _)⟩
    · cases e
  · cases e
theorem ve_sm1 {op : Val → Val → Option Val} {id : String} {name : Str} {r : V → List V → Hp → VK → Prop} (slot : Slot "str" name id) (ty : typeOf (.builtin id) = pure (.type "method_descriptor")) (rule : MtR X id r) (o : OpS X.K cl (fun v w H Q => r v [w] H Q) op)
    (ha : VE X cl W a f) (hb : VE X cl W b g) (hs : starEach [b] X.env = [(false, eval b X.env)] := by rfl) (hbase : attributeBase a name X.env (eval a X.env) = eval a X.env := by rfl) (hline : (apos.endLine == pos.line) = true := by rfl) :
    VE X cl W (.Call (.Attribute a name apos) [b] [] pos) (e2m op f g) := PE.imp (pe_m1 slot ty rule ha hb hs hbase hline) fun σ H Q ⟨ρ, G, B, rl, q⟩ =>
  tE_mono (tE_run rl (Ext.refl rl.gh) q) fun v H1 ⟨x, G1, x1, _, v1, ef, q⟩ => by
    cases hx : x.dat with
    | none => rw [hx] at q; exact q.elim
    | some d =>
      cases d with
      | str z0 =>
        rw [hx] at q
        refine ⟨⟨z0, Rp.str_ (v1.rp x1.gh hx)⟩, ?_⟩
        refine tE_mono (tE_run rl x1 q) fun w H2 ⟨y, G2, x2, x12, v2, _, q⟩ => ?_
        obtain ⟨z, ez, q⟩ := fin_of q
        exact o x y z v w H H1 G2 H2 Q ez x2.gh (v1.ext x12) v2 fun u H' G' x' r' => q u H' G' (x2.trans x') (r'.start x2.hh)
      | _ => rw [hx] at q; exact q.elim
theorem ve_sfind (ha : VE X cl W a f) (hb : VE X cl W b g) (hs : starEach [b] X.env = [(false, eval b X.env)] := by rfl) (hbase : attributeBase a "find" X.env (eval a X.env) = eval a X.env := by rfl) (hline : (apos.endLine == pos.line) = true := by rfl) :
    VE X cl W (.Call (.Attribute a "find" apos) [b] [] pos) (e2m sFind f g) := ve_sm1 F.slot_str_find F.type_str_find mt_find (fun x y z v w Hx Hy G H Q e l r1 r2 q => by
    unfold sFind at e
    split at e
    · rename_i i j h1 h2
      cases e
      exact ⟨i, j, Rp.str_ (r1.rp l h1), by rw [Rp.str_ (r2.rp l h2)], q _ H G (Ext.refl l) (Rp.int _)⟩
    · cases e) ha hb hs hbase hline
theorem ve_sjoin {s : Str} {jj : Nat} {p0 : Pos} (hb : VE X cl W b g) (hs : starEach [b] X.env = [(false, eval b X.env)] := by rfl) (hbase : attributeBase (.Constant (.str s) jj p0) "join" X.env (eval (.Constant (.str s) jj p0) X.env) = eval (.Constant (.str s) jj p0) X.env := by rfl) (hline : (apos.endLine == pos.line) = true := by rfl) :
    VE X cl W (.Call (.Attribute (.Constant (.str s) jj p0) "join" apos) [b] [] pos) (e2 sJoin (eC (.str s)) g) := PE.imp (pe_join (pe_str (X := X) (x := s)) hb hs hbase hline) fun σ H Q ⟨ρ, G, B, rl, q⟩ => by
  refine ⟨⟨s, rfl⟩, ?_⟩
  have q : FinG (postE X.K cl G H Q) (bad cl W G H σ) (g ρ >>= fun y => R.of (sJoin (.d (.str s)) y)) := q
  refine tE_mono (tE_run rl (Ext.refl rl.gh) q) fun w H2 ⟨y, G2, x2, _, v2, _, q⟩ => ?_
  obtain ⟨z, ez, q⟩ := fin_of q
  unfold sJoin at ez
  split at ez
  · rename_i i l h1 h2
    cases h1
    split at ez
    · rename_i ys h3
      split at ez
      · rename_i hc
        cases ez
        obtain ⟨p, xs, rfl, h4, h5⟩ := rp_items v2 x2.gh h2
        rw [strsOf_rp h3 h5] at h4
        exact ⟨s, p, ys, rfl, rfl, .inl (.inl (.inl h4)), hc, q _ H2 G2 x2 (Rp.str _)⟩
      · cases ez
    · cases ez
  · cases ez
theorem ve_ladd (ha : VE X cl W a f) (hb : VE X cl W b g) : VE X cl W (.BinOp a .Add b pos) (e2 lAdd f g) := ve_op2 (pe_op op_cat ha hb) fun x y z v w Hx Hy G H Q e l r1 r2 q => by
  unfold lAdd at e
  split at e
  · rename_i i j h1 h2
    split at e
    · rename_i hc
      cases e
      obtain ⟨p1, xs1, rfl, k1, k2⟩ := rp_items r1 l h1
      obtain ⟨p2, xs2, rfl, k3, k4⟩ := rp_items r2 l h2
      exact ⟨p1, p2, xs1, xs2, rfl, rfl, k1, k3, by rw [k2.length, k4.length]; exact line_le hc, fun p hp => q _ _ G ((Ext.refl l).own hp) (vr_new (Ext.refl l) hp (k2.append k4))⟩
    · cases e
  · cases e
theorem ve_lmul (ha : VE X cl W a f) (hb : VE X cl W b g) : VE X cl W (.BinOp a .Mult b pos) (e2 lMul f g) := ve_op2 (pe_op op_rep ha hb) fun x y z v w Hx Hy G H Q e l r1 r2 q => by
  unfold lMul at e
  split at e
  · rename_i i j h1 h2
    split at e
    · rename_i hc
      cases e
      obtain ⟨p1, xs1, rfl, k1, k2⟩ := rp_items r1 l h1
      exact ⟨p1, j, xs1, rfl, Rp.int_ (r2.rp l h2), k1, hc.1, hc.2.1, by rw [k2.length]; exact line_le hc.2.2, fun p hp => q _ _ G ((Ext.refl l).own hp) (vr_new (Ext.refl l) hp (flat_rep k2 _))⟩
    · cases e
  · cases e
theorem ve_tadd (ha : VE X cl W a f) (hb : VE X cl W b g) : VE X cl W (.BinOp a .Add b pos) (e2 tAdd2 f g) := ve_op2 (pe_op op_catA ha hb) fun x y z v w Hx Hy G H Q e l r1 r2 q => by
  unfold tAdd2 at e
  split at e
  · rename_i i j
    split at e
    · rename_i hc
      cases e
      have r1 : Rp X.K cl G v (.tup i) := r1
      have r2 : Rp X.K cl G w (.tup j) := r2
      obtain ⟨p1, xs1, rfl, k1, k2⟩ := Rp.tup_ r1
      obtain ⟨p2, xs2, rfl, k3, k4⟩ := Rp.tup_ r2
      refine ⟨p1, p2, xs1, xs2, rfl, rfl, l.st k1, l.st k3, by rw [k2.length, k4.length]; exact line_le hc, fun h0 => ?_, fun h0 h00 => ?_, fun _ _ p hp => q _ _ _ ((Ext.refl l).new hp) (rp_tup (Ext.refl l) hp (k2.append k4))⟩
      · subst h0
        cases k2
        exact q _ H G (Ext.refl l) r2
      · subst h00
        cases k4
        rw [List.append_nil] at q
        exact q _ H G (Ext.refl l) r1
    · cases e
  · cases e
end
end Vl

/-! VlJ: {k1: a, k2: b}.get(k, d) -/
namespace Vl
open PySem L2 PySem.Spec
def dgO (k1 k2 : Str) : Val → Val → Val → Val → Option Val
  | .d a, .d b, .d (.str s), .d c => some (.d (if s = k1 then a else if s = k2 then b else c))
  | _, _, _, _ => none
theorem dgO_some {k1 k2 : Str} {x1 x2 y z w : Val} (h : dgO k1 k2 x1 x2 y z = some w) : ∃ a b s c, x1 = .d a ∧ x2 = .d b ∧ y = .d (.str s) ∧ z = .d c ∧ w = .d (if s = k1 then a else if s = k2 then b else c) := by
  unfold dgO at h
  split at h
  · cases h
    exact ⟨_, _, _, _, rfl, rfl, rfl, rfl, rfl⟩
  · cases h
def eDg (k1 k2 : Str) (f1 f2 fk fd : Env → R Val) : Env → R Val := fun ρ => f1 ρ >>= fun x1 => f2 ρ >>= fun x2 => fk ρ >>= fun y => fd ρ >>= fun z => R.of (dgO k1 k2 x1 x2 y z)
theorem Ext.turn {G H G2 H2 : Hp} {p : Addr} {o : HO} (x : Ext G H G2 H2) (hp : H p = none) (hg : G2 p = none) : Ext G H G2 (upd H2 p o) where
  hh := fun a u h => by
    rw [upd_ne (ne_of_none h hp)]
    exact x.hh a u h
  gg := x.gg
  gh := fun a u h => by
    have e : (upd H2 p o) a = H2 a := upd_ne (ne_of_none h hg)
    rcases x.gh a u h with q | ⟨d, od, q⟩
    · exact .inl (by rw [e]; exact q)
    · exact .inr ⟨d, od, by rw [e]; exact q⟩
  nw := x.nw
section
variable {X : Cx} {cl : Str → Addr} {W : XW} {e1x e2x ek ed : Expr} {f1 f2 fk fd : Env → R Val} {k1 k2 : Str}
theorem merge2 {k1 k2 : Str} (hk : k1 ≠ k2) (v1 v2 : V) : mergeK [] [((.inr k1 : Key), v1), ((.inr k2 : Key), v2)] = [((.inr k1 : Key), v1), ((.inr k2 : Key), v2)] := by
  have h1 : ¬ ((Sum.inr k1 : Key) = Sum.inr k2) := fun h => hk (Sum.inr.inj h)
  simp [mergeK, putK, h1]
theorem ve_dg {pos apos cpos : Pos} {j1 j2 : Nat} {p1 p2 : Pos} (hu : X.A.units + 64 < cLine) (hk : k1 ≠ k2) (h1 : VE X cl W e1x f1) (h2 : VE X cl W e2x f2) (h3 : VE X cl W ek fk) (h4 : VE X cl W ed fd)
    (m : M2 X (.Dict [some (.Constant (.str k1) j1 p1), some (.Constant (.str k2) j2 p2)] [e1x, e2x] pos) "get" apos ek ed cpos) :
    VE X cl W (.Call (.Attribute (.Dict [some (.Constant (.str k1) j1 p1), some (.Constant (.str k2) j2 p2)] [e1x, e2x] pos) "get" apos) [ek, ed] [] cpos) (eDg k1 k2 f1 f2 fk fd) :=
  PE.imp (pe_dget2 (by omega) (pe_disp (pps_cons pe_str h1 (pps_cons pe_str h2 pps_nil)) rfl rfl (fun h => by cases h) (by show 2 ≤ 15; decide)) h3 h4 m) fun σ H Q ⟨ρ, G, B, rl, q⟩ => by
    intro p hp
    have x0 : Ext G H G (upd H p (.dK [])) := (Ext.refl rl.gh).own hp
    have g0 : G p = none := (Ext.refl rl.gh).gnone hp
    show tE X.K cl W f1 σ (upd H p (.dK [])) _
    refine tE_mono (tE_run rl x0 q) fun v1 H1 ⟨y1, G1, x1, x01, r1, _, q⟩ => ?_
    show tE X.K cl W f2 σ H1 _
    refine tE_mono (tE_run rl x1 q) fun v2 H2 ⟨y2, G2, x2, x12, r2, _, q⟩ => ?_
    have x02 := x01.trans x12
    have hH2 : H2 p = some (.dK []) := x02.hh _ _ upd_same
    have hG2 : G2 p = none := x02.g_none g0 ⟨_, upd_same⟩
    refine ⟨hH2, [((.inr k1 : Key), v1), ((.inr k2 : Key), v2)], rfl, (by show 2 ≤ 15; decide), p, rfl, .inl ⟨_, .inl upd_same⟩, ?_⟩
    have x3 : Ext G H G2 (upd H2 p (.dK (mergeK [] [((.inr k1 : Key), v1), ((.inr k2 : Key), v2)]))) := x2.turn hp hG2
    refine tE_mono (tE_run rl x3 q) fun w H3 ⟨y3, G3, x4, x34, r3, _, q⟩ => ?_
    refine tE_mono (tE_run rl x4 q) fun u H4 ⟨y4, G4, x5, x45, r4, _, q⟩ => ?_
    obtain ⟨z, ez, q⟩ := fin_of q
    have hd : H4 p = some (.dK (mergeK [] [((.inr k1 : Key), v1), ((.inr k2 : Key), v2)])) := (x34.trans x45).hh _ _ upd_same
    rw [merge2 hk] at hd
    have g24 : Same G2 G4 := (x34.trans x45).gg
    obtain ⟨a, b, s, c, rfl, rfl, rfl, rfl, rfl⟩ := dgO_some ez
    · have r1 : Rp X.K cl G1 v1 a := r1
      have r2 : Rp X.K cl G2 v2 b := r2
      have r3 : Rp X.K cl G3 w (.str s) := r3
      have r4 : Rp X.K cl G4 u c := r4
      have ew := Rp.str_ r3
      subst ew
      refine ⟨_, .inl ⟨_, .inr s, .inl hd, rfl, rfl⟩, ?_⟩
      have ra : Rp X.K cl G4 v1 a := Rp.mono (sameR (x12.gg.trans g24)) _ _ r1
      have rb : Rp X.K cl G4 v2 b := Rp.mono (sameR g24) _ _ r2
      by_cases q1 : s = k1
      · subst q1
        rw [if_pos rfl] at q
        have : valV [((.inr s : Key), v1), ((.inr k2 : Key), v2)] (.inr s) = some v1 := by simp [valV]
        rw [this]
        exact q _ H4 G4 x5 ra
      · rw [if_neg q1] at q
        have n1 : ¬ ((Sum.inr k1 : Key) = Sum.inr s) := fun h => q1 (Sum.inr.inj h).symm
        by_cases q2 : s = k2
        · subst q2
          rw [if_pos rfl] at q
          have : valV [((.inr k1 : Key), v1), ((.inr s : Key), v2)] (.inr s) = some v2 := by simp [valV, n1]
          rw [this]
          exact q _ H4 G4 x5 rb
        · rw [if_neg q2] at q
          have n2 : ¬ ((Sum.inr k2 : Key) = Sum.inr s) := fun h => q2 (Sum.inr.inj h).symm
          have : valV [((.inr k1 : Key), v1), ((.inr k2 : Key), v2)] (.inr s) = none := by simp [valV, n1, n2]
          rw [this]
          exact q _ H4 G4 x5 r4
end
end Vl

/-! VlS: how pieces are reckoned, by rewriting. -/
namespace Vl
open PySem L2 PySem.Spec

def e2K (op : Val → Val → Option Val) : R Val → R Val → R Val
  | .ok x, .ok y => R.of (op x y)
  | .ok _, .st => .st
  | .ok _, .ex e => .ex e
  | .st, _ => .st
  | .ex e, _ => .ex e
def e1K (op : Val → Option Val) : R Val → R Val
  | .ok x => R.of (op x)
  | .st => .st
  | .ex e => .ex e
def vK : Option (Option Sl) → R Val
  | some (some s) => .ok s.bor
  | _ => .st
theorem R.st_b {α β : Type} (f : α → R β) : (R.st >>= f) = R.st := rfl
theorem e2_ap {op : Val → Val → Option Val} {f g : Env → R Val} {ρ : Env} : e2 op f g ρ = e2K op (f ρ) (g ρ) := by
  unfold e2
  cases f ρ <;> cases g ρ <;> rfl
theorem e2K_ok {op : Val → Val → Option Val} {x y : Val} : e2K op (.ok x) (.ok y) = R.of (op x y) := rfl
theorem e1_ap {op : Val → Option Val} {f : Env → R Val} {ρ : Env} : e1 op f ρ = e1K op (f ρ) := by
  unfold e1
  cases f ρ <;> rfl
theorem e1K_ok {op : Val → Option Val} {x : Val} : e1K op (.ok x) = R.of (op x) := rfl
theorem eC_ap {x : D} {ρ : Env} : eC x ρ = .ok (.d x) := rfl
theorem eV_ap {i : Nat} {ρ : Env} : eV i ρ = vK ρ[i]? := by
  unfold eV vK
  cases ρ[i]? with
  | none => rfl
  | some o =>
    cases o with
    | none => rfl
    | some s => cases s <;> rfl
theorem vK_d {x : D} : vK (some (some (.d x))) = .ok (.d x) := rfl
theorem vK_ol {x : List Sl} : vK (some (some (.ol x))) = .ok (.b (.ol x)) := rfl
theorem vK_ot {x : List Sl} : vK (some (some (.ot x))) = .ok (.b (.ot x)) := rfl
theorem vK_od {x : List (D × Sl)} : vK (some (some (.od x))) = .ok (.b (.od x)) := rfl
/-! argument lists, displays -/
def consK : R D → R (List D) → R (List D)
  | .ok y, .ok ys => .ok (y :: ys)
  | .ok _, .st => .st
  | .ok _, .ex e => .ex e
  | .st, _ => .st
  | .ex e, _ => .ex e
def aCK : R Val → R (List D) → R (List D)
  | .ok x, r => consK x.fz r
  | .st, _ => .st
  | .ex e, _ => .ex e
theorem aN_ap {ρ : Env} : aN ρ = .ok [] := rfl
theorem aC_ap {f : Env → R Val} {fs : Env → R (List D)} {ρ : Env} : aC f fs ρ = aCK (f ρ) (fs ρ) := by
  unfold aC
  cases f ρ with
  | ok x =>
    rw [R.ok_bind]
    show _ = consK x.fz (fs ρ)
    cases x.fz <;> cases fs ρ <;> rfl
  | _ => rfl
theorem aCK_ok {x : D} {ys : List D} : aCK (.ok (.d x)) (.ok ys) = .ok (x :: ys) := rfl
theorem aCK_ol {x : List D} {ys : List D} : aCK (.ok (.o (.ol (x.map Sl.d)))) (.ok ys) = .ok (.lst x :: ys) := by
  show consK (R.of (Sl.ol (x.map Sl.d)).frz) (.ok ys) = _
  rw [frz_ol]
  rfl
def bCK : R Val → R (List D) → R (List D)
  | .ok x, r => consK (R.of x.dat) r
  | .st, _ => .st
  | .ex e, _ => .ex e
theorem bC_ap {f : Env → R Val} {fs : Env → R (List D)} {ρ : Env} : bC f fs ρ = bCK (f ρ) (fs ρ) := by
  unfold bC
  cases f ρ with
  | ok x =>
    rw [R.ok_bind]
    show _ = consK (R.of x.dat) (fs ρ)
    cases x.dat <;> cases fs ρ <;> rfl
  | _ => rfl
theorem bCK_ok {x : D} {ys : List D} : bCK (.ok (.d x)) (.ok ys) = .ok (x :: ys) := rfl
theorem bCK_ol {x : List D} {ys : List D} : bCK (.ok (.o (.ol (x.map Sl.d)))) (.ok ys) = .ok (.lst x :: ys) := by
  show consK (R.of (Sl.ol (x.map Sl.d)).frz) (.ok ys) = _
  rw [frz_ol]
  rfl
theorem bCK_bl {x : List D} {ys : List D} : bCK (.ok (.b (.ol (x.map Sl.d)))) (.ok ys) = .ok (.lst x :: ys) := bCK_ol
def tupK : R (List D) → R Val
  | .ok l => R.of (if l.length ≤ 16777216 then some (.d (.tup l)) else none)
  | .st => .st
  | .ex e => .ex e
def lstK : R (List D) → R Val
  | .ok l => R.of (if l.length ≤ 16777216 then some (.o (.ol (l.map Sl.d))) else none)
  | .st => .st
  | .ex e => .ex e
theorem eTup_ap {fs : Env → R (List D)} {ρ : Env} : eTup fs ρ = tupK (fs ρ) := by
  unfold eTup
  cases fs ρ <;> rfl
theorem eLst_ap {fs : Env → R (List D)} {ρ : Env} : eLst fs ρ = lstK (fs ρ) := by
  unfold eLst
  cases fs ρ <;> rfl
theorem tupK_ok {l : List D} (h : l.length ≤ 16777216) : tupK (.ok l) = .ok (.d (.tup l)) := by
  show R.of (if l.length ≤ 16777216 then _ else _) = _
  rw [if_pos h]
  rfl
theorem lstK_ok {l : List D} (h : l.length ≤ 16777216) : lstK (.ok l) = .ok (.o (.ol (l.map Sl.d))) := by
  show R.of (if l.length ≤ 16777216 then _ else _) = _
  rw [if_pos h]
  rfl
/-! tests -/
def tVK : R Val → R Bool
  | .ok x => R.of (isB x)
  | .st => .st
  | .ex e => .ex e
def tUK : R Val → R Bool
  | .ok x => R.of (truB x)
  | .st => .st
  | .ex e => .ex e
theorem tV_ap {f : Env → R Val} {ρ : Env} : tV f ρ = tVK (f ρ) := by
  unfold tV
  cases f ρ <;> rfl
theorem tU_ap {f : Env → R Val} {ρ : Env} : tU f ρ = tUK (f ρ) := by
  unfold tU
  cases f ρ <;> rfl
theorem tVK_bl {b : Bool} : tVK (.ok (.d (.bl b))) = .ok b := rfl
theorem tUK_bl {b : Bool} : tUK (.ok (.d (.bl b))) = .ok b := rfl
theorem tUK_int {i : Int} : tUK (.ok (.d (.int i))) = .ok (i != 0) := rfl
def anK (t : R Bool) (u : Env → R Bool) (ρ : Env) : R Bool := match t with
  | .ok true => u ρ
  | .ok false => .ok false
  | .st => .st
  | .ex e => .ex e
def orK (t : R Bool) (u : Env → R Bool) (ρ : Env) : R Bool := match t with
  | .ok true => .ok true
  | .ok false => u ρ
  | .st => .st
  | .ex e => .ex e
def noK : R Bool → R Bool
  | .ok b => .ok (!b)
  | .st => .st
  | .ex e => .ex e
theorem tAn_ap {t u : Env → R Bool} {ρ : Env} : tAn t u ρ = anK (t ρ) u ρ := by
  unfold tAn anK
  cases h : t ρ with
  | ok b => cases b <;> rfl
  | _ => rfl
theorem tOrr_ap {t u : Env → R Bool} {ρ : Env} : tOrr t u ρ = orK (t ρ) u ρ := by
  unfold tOrr orK
  cases h : t ρ with
  | ok b => cases b <;> rfl
  | _ => rfl
theorem tNo_ap {t : Env → R Bool} {ρ : Env} : tNo t ρ = noK (t ρ) := by
  unfold tNo
  cases t ρ <;> rfl
theorem anK_t {u : Env → R Bool} {ρ : Env} : anK (.ok true) u ρ = u ρ := rfl
theorem anK_f {u : Env → R Bool} {ρ : Env} : anK (.ok false) u ρ = .ok false := rfl
theorem orK_t {u : Env → R Bool} {ρ : Env} : orK (.ok true) u ρ = .ok true := rfl
theorem orK_f {u : Env → R Bool} {ρ : Env} : orK (.ok false) u ρ = u ρ := rfl
theorem noK_ok {b : Bool} : noK (.ok b) = .ok (!b) := rfl
def eAnK (x : R Val) (g : Env → R Val) (ρ : Env) : R Val := match x with
  | .ok (.d (.bl true)) => g ρ
  | .ok (.d (.bl false)) => .ok (.d (.bl false))
  | .ok _ => .st
  | .st => .st
  | .ex e => .ex e
def eOrK (x : R Val) (g : Env → R Val) (ρ : Env) : R Val := match x with
  | .ok (.d (.bl true)) => .ok (.d (.bl true))
  | .ok (.d (.bl false)) => g ρ
  | .ok _ => .st
  | .st => .st
  | .ex e => .ex e
theorem isB_cases (x : Val) : (∃ b, x = .d (.bl b)) ∨ isB x = none := by
  cases x with
  | d y => cases y <;> first | exact .inl ⟨_, rfl⟩ | exact .inr rfl
  | _ => exact .inr rfl
theorem eAn_ap {f g : Env → R Val} {ρ : Env} : eAn f g ρ = eAnK (f ρ) g ρ := by
  unfold eAn
  cases f ρ with
  | ok x =>
    rw [R.ok_bind]
    cases x with
    | d y => cases y <;> first | rfl | (rename_i b; cases b <;> rfl)
    | _ => rfl
  | _ => rfl
theorem eOr_ap {f g : Env → R Val} {ρ : Env} : eOr f g ρ = eOrK (f ρ) g ρ := by
  unfold eOr
  cases f ρ with
  | ok x =>
    rw [R.ok_bind]
    cases x with
    | d y => cases y <;> first | rfl | (rename_i b; cases b <;> rfl)
    | _ => rfl
  | _ => rfl
theorem eAnK_t {g : Env → R Val} {ρ : Env} : eAnK (.ok (.d (.bl true))) g ρ = g ρ := rfl
theorem eAnK_f {g : Env → R Val} {ρ : Env} : eAnK (.ok (.d (.bl false))) g ρ = .ok (.d (.bl false)) := rfl
theorem eOrK_t {g : Env → R Val} {ρ : Env} : eOrK (.ok (.d (.bl true))) g ρ = .ok (.d (.bl true)) := rfl
theorem eOrK_f {g : Env → R Val} {ρ : Env} : eOrK (.ok (.d (.bl false))) g ρ = g ρ := rfl
def eNoK : R Val → R Val
  | .ok x => R.of ((isB x).map fun b => .d (.bl (!b)))
  | .st => .st
  | .ex e => .ex e
theorem eNo_ap {f : Env → R Val} {ρ : Env} : eNo f ρ = eNoK (f ρ) := by
  unfold eNo
  cases f ρ <;> rfl
theorem eNoK_ok {b : Bool} : eNoK (.ok (.d (.bl b))) = .ok (.d (.bl (!b))) := rfl
def eIfK (t : R Bool) (f g : Env → R Val) (ρ : Env) : R Val := match t with
  | .ok true => f ρ
  | .ok false => g ρ
  | .st => .st
  | .ex e => .ex e
theorem eIf_ap {t : Env → R Bool} {f g : Env → R Val} {ρ : Env} : eIf t f g ρ = eIfK (t ρ) f g ρ := by
  unfold eIf eIfK
  cases h : t ρ with
  | ok b => cases b <;> rfl
  | _ => rfl
theorem eIfK_t {f g : Env → R Val} {ρ : Env} : eIfK (.ok true) f g ρ = f ρ := rfl
theorem eIfK_f {f g : Env → R Val} {ρ : Env} : eIfK (.ok false) f g ρ = g ρ := rfl
def chK (op op' : Val → Val → Option Val) (x y : R Val) (h : Env → R Val) (ρ : Env) : R Val := match x, y with
  | .ok x, .ok y => match op x y with
    | some (.d (.bl true)) => match h ρ with
      | .ok z => R.of (op' y z)
      | .st => .st
      | .ex e => .ex e
    | some (.d (.bl false)) => .ok (.d (.bl false))
    | _ => .st
  | .ok _, .st => .st
  | .ok _, .ex e => .ex e
  | .st, _ => .st
  | .ex e, _ => .ex e
theorem eCh_ap {op op' : Val → Val → Option Val} {f g h : Env → R Val} {ρ : Env} : eCh op op' f g h ρ = chK op op' (f ρ) (g ρ) h ρ := by
  unfold eCh chK
  cases f ρ with
  | ok x =>
    cases g ρ with
    | ok y =>
      simp only [R.ok_bind]
      cases op x y with
      | none => rfl
      | some z =>
        rw [R.of_some, R.ok_bind]
        cases z with
        | d w =>
          cases w with
          | bl b =>
            cases b with
            | true =>
              show (h ρ >>= fun w => R.of (op' y w)) = _
              cases h ρ <;> rfl
            | false => rfl
          | _ => rfl
        | _ => rfl
    | _ => rfl
  | _ => rfl
def ch2 (op' : Val → Val → Option Val) (b : Bool) (y : Val) (h : Env → R Val) (ρ : Env) : R Val := match b with
  | true => e2K op' (.ok y) (h ρ)
  | false => .ok (.d (.bl false))
theorem chK_ok {op op' : Val → Val → Option Val} {x y : Val} {h : Env → R Val} {ρ : Env} {b : Bool} (e : op x y = some (.d (.bl b))) : chK op op' (.ok x) (.ok y) h ρ = ch2 op' b y h ρ := by
  unfold chK
  simp only [e]
  cases b with
  | true => show (match h ρ with | .ok z => _ | .st => _ | .ex e => _) = e2K op' (.ok y) (h ρ); cases h ρ <;> rfl
  | false => rfl
theorem ch2_t {op' : Val → Val → Option Val} {y : Val} {h : Env → R Val} {ρ : Env} : ch2 op' true y h ρ = e2K op' (.ok y) (h ρ) := rfl
theorem ch2_f {op' : Val → Val → Option Val} {y : Val} {h : Env → R Val} {ρ : Env} : ch2 op' false y h ρ = .ok (.d (.bl false)) := rfl
/-! statements -/
def seqK (o : Option Fl) (s : SS) : Option Fl := match o with
  | some (.nx ρ) => s ρ
  | r => r
theorem sSeq_ap {a b : SS} {ρ : Env} : sSeq a b ρ = seqK (a ρ) b := rfl
theorem seqK_nx {s : SS} {ρ : Env} : seqK (some (.nx ρ)) s = s ρ := rfl
theorem seqK_rt {s : SS} {ρ : Env} {x : Sl} : seqK (some (.rt x ρ)) s = some (.rt x ρ) := rfl
theorem seqK_br {s : SS} {ρ : Env} : seqK (some (.br ρ)) s = some (.br ρ) := rfl
theorem seqK_ct {s : SS} {ρ : Env} : seqK (some (.ct ρ)) s = some (.ct ρ) := rfl
theorem sNil_ap {ρ : Env} : sNil ρ = some (.nx ρ) := rfl
def setK (i : Nat) (ρ : Env) : R Val → Option Fl
  | .ok x => kSet i x ρ
  | .st => none
  | .ex e => some (.rs e ρ)
def setOK (i : Nat) (ρ : Env) : R Val → Option Fl
  | .ok x => kSetO i x ρ
  | .st => none
  | .ex e => some (.rs e ρ)
theorem sSet_ap {i : Nat} {f : Env → R Val} {ρ : Env} : sSet i f ρ = setK i ρ (f ρ) := by
  unfold sSet sE
  cases f ρ <;> rfl
theorem sSetO_ap {i : Nat} {f : Env → R Val} {ρ : Env} : sSetO i f ρ = setOK i ρ (f ρ) := by
  unfold sSetO sE
  cases f ρ <;> rfl
theorem setK_d {i : Nat} {ρ : Env} {x : D} (h : i < ρ.length) : setK i ρ (.ok (.d x)) = some (.nx (ρ.set i (some (.d x)))) := by
  show (if i < ρ.length then _ else _) = _
  rw [if_pos h]
theorem setK_ol {i : Nat} {ρ : Env} {x : List D} (h : i < ρ.length) : setK i ρ (.ok (.o (.ol (x.map Sl.d)))) = some (.nx (ρ.set i (some (.d (.lst x))))) := by
  show kSet i (.o (.ol (x.map Sl.d))) ρ = _
  unfold kSet
  show (match R.of (Sl.ol (x.map Sl.d)).frz with | .ok y => if i < ρ.length then some (Fl.nx (ρ.set i (some (.d y)))) else none | _ => none) = _
  rw [frz_ol]
  show (if i < ρ.length then _ else _) = _
  rw [if_pos h]
theorem setOK_d {i : Nat} {ρ : Env} {x : D} (h : i < ρ.length) : setOK i ρ (.ok (.d x)) = some (.nx (ρ.set i (some (.d x)))) := by
  show (if i < ρ.length then _ else _) = _
  rw [if_pos h]
theorem setOK_o {i : Nat} {ρ : Env} {x : Sl} (h : i < ρ.length) : setOK i ρ (.ok (.o x)) = some (.nx (ρ.set i (some x))) := by
  show (if i < ρ.length then _ else _) = _
  rw [if_pos h]
def asgK (gs : GS) (ρ : Env) : R Val → Option Fl
  | .ok x => kAsg gs x ρ
  | .st => none
  | .ex e => some (.rs e ρ)
theorem sAsg_ap {gs : GS} {f : Env → R Val} {ρ : Env} : sAsg gs f ρ = asgK gs ρ (f ρ) := by
  unfold sAsg sE
  cases f ρ <;> rfl
theorem asgK_d {gs : GS} {ρ : Env} {x : D} : asgK gs ρ (.ok (.d x)) = (gs x ρ).map Fl.nx := rfl
theorem gT_tup {gs : List D → Env → Option Env} {l : List D} {ρ : Env} : gT gs (.tup l) ρ = gs l ρ := rfl
def bindK (o : Option Env) (gs : List D → Env → Option Env) (l : List D) : Option Env := match o with
  | some ρ => gs l ρ
  | none => none
theorem gC_ap {g : GS} {gs : List D → Env → Option Env} {d : D} {r : List D} {ρ : Env} : gC g gs (d :: r) ρ = bindK (g d ρ) gs r := by
  show (g d ρ).bind (gs r) = _
  cases g d ρ <;> rfl
theorem bindK_some {gs : List D → Env → Option Env} {r : List D} {ρ : Env} : bindK (some ρ) gs r = gs r ρ := rfl
theorem gN_ap {ρ : Env} : gN [] ρ = some ρ := rfl
theorem gV_ap {i : Nat} {d : D} {ρ : Env} (h : i < ρ.length) : gV i d ρ = some (ρ.set i (some (.d d))) := by
  unfold gV
  rw [if_pos h]
def retK (ρ : Env) : R Val → Option Fl
  | .ok (.d y) => some (.rt (.d y) ρ)
  | .ok (.o s) => some (.rt s ρ)
  | .ok (.b _) => none
  | .st => none
  | .ex e => some (.rs e ρ)
theorem sRet_ap {f : Env → R Val} {ρ : Env} : sRet f ρ = retK ρ (f ρ) := by
  unfold sRet sE
  cases f ρ with
  | ok x => cases x <;> rfl
  | _ => rfl
theorem retK_d {ρ : Env} {x : D} : retK ρ (.ok (.d x)) = some (.rt (.d x) ρ) := rfl
theorem retK_o {ρ : Env} {x : Sl} : retK ρ (.ok (.o x)) = some (.rt x ρ) := rfl
def retVK (i : Nat) (ρ : Env) : Option (Option Sl) → Option Fl
  | some (some s) => some (.rt s (ρ.set i none))
  | _ => none
theorem sRetV_ap {i : Nat} {ρ : Env} : sRetV i ρ = retVK i ρ ρ[i]? := by
  unfold sRetV retVK
  cases ρ[i]? with
  | none => rfl
  | some o => cases o <;> rfl
theorem retVK_some {i : Nat} {ρ : Env} {s : Sl} : retVK i ρ (some (some s)) = some (.rt s (ρ.set i none)) := rfl
def ifK (t : R Bool) (a b : SS) (ρ : Env) : Option Fl := match t with
  | .ok true => a ρ
  | .ok false => b ρ
  | .st => none
  | .ex e => some (.rs e ρ)
theorem sIf_ap {t : Env → R Bool} {a b : SS} {ρ : Env} : sIf t a b ρ = ifK (t ρ) a b ρ := by
  unfold sIf ifK
  cases h : t ρ with
  | ok k => cases k <;> rfl
  | _ => rfl
theorem ifK_t {a b : SS} {ρ : Env} : ifK (.ok true) a b ρ = a ρ := rfl
theorem ifK_f {a b : SS} {ρ : Env} : ifK (.ok false) a b ρ = b ρ := rfl
theorem ifK_d {a b : SS} {ρ : Env} {k : Bool} : ifK (.ok k) a b ρ = if k = true then a ρ else b ρ := by cases k <;> rfl
def exK (ρ : Env) : R Val → Option Fl
  | .ok _ => some (.nx ρ)
  | .st => none
  | .ex e => some (.rs e ρ)
theorem sEx_ap {f : Env → R Val} {ρ : Env} : sEx f ρ = exK ρ (f ρ) := by
  unfold sEx sE
  cases f ρ <;> rfl
theorem exK_ok {ρ : Env} {x : Val} : exK ρ (.ok x) = some (.nx ρ) := rfl
def parK (i j : Nat) (ρ : Env) : R (List D) → Option Fl
  | .ok [x, y] => if i < ρ.length ∧ j < ρ.length then some (.nx ((ρ.set i (some (.d x))).set j (some (.d y)))) else none
  | .ok _ => none
  | .st => none
  | .ex e => some (.rs e ρ)
theorem sPar_ap {i j : Nat} {fs : Env → R (List D)} {ρ : Env} : sPar i j fs ρ = parK i j ρ (fs ρ) := by
  unfold sPar
  cases fs ρ with
  | ok l => rcases l with _ | ⟨x, _ | ⟨y, _ | ⟨z, l⟩⟩⟩ <;> rfl
  | _ => rfl
theorem parK_ok {i j : Nat} {ρ : Env} {x y : D} (h : i < ρ.length ∧ j < ρ.length) : parK i j ρ (.ok [x, y]) = some (.nx ((ρ.set i (some (.d x))).set j (some (.d y)))) := by
  show (if _ then _ else _) = _
  rw [if_pos h]
theorem sAug_ap {i : Nat} {op : Val → Val → Option Val} {f : Env → R Val} {ρ : Env} : sAug i op f ρ = setK i ρ (e2 op (eV i) f ρ) := by
  unfold sAug sE
  cases e2 op (eV i) f ρ <;> rfl
/-- append -/
def appK (i : Nat) (ρ : Env) : Option (Option Sl) → R Val → Option Fl
  | some (some (.ol l)), .ok x => kApp i l x ρ
  | some (some (.ol _)), .ex e => some (.rs e ρ)
  | _, _ => none
theorem sApp_ap {i : Nat} {f : Env → R Val} {ρ : Env} : sApp i f ρ = appK i ρ ρ[i]? (f ρ) := by
  unfold sApp
  cases ρ[i]? with
  | none => rfl
  | some o =>
    cases o with
    | none => rfl
    | some s =>
      cases s with
      | ol l =>
        show sE f (kApp i l) ρ = _
        unfold sE
        cases f ρ <;> rfl
      | _ => rfl
theorem appK_d {i : Nat} {ρ : Env} {l : List D} {x : D} (h : l.length < 16777216) : appK i ρ (some (some (.ol (l.map Sl.d)))) (.ok (.d x)) = some (.nx (ρ.set i (some (.ol ((l ++ [x]).map Sl.d))))) := by
  show (if (l.map Sl.d).length < 16777216 then some (Fl.nx (ρ.set i (some (.ol (l.map Sl.d ++ [.d x]))))) else none) = _
  rw [List.length_map, if_pos h, List.map_append]
  rfl
/-- the def's end -/
def endK : Option Fl → R Sl
  | some (.nx _) => .ok (.d .non)
  | some (.rt x _) => .ok x
  | _ => .st
theorem nox_run {n : Nat} {s : SS} {ds : List D} : nox (runF n s ds) = endK (s (env0 n ds)) := by
  unfold runF
  cases s (env0 n ds) with
  | none => rfl
  | some fl => cases fl <;> rfl
theorem endK_rt {x : Sl} {ρ : Env} : endK (some (.rt x ρ)) = .ok x := rfl
theorem endK_nx {ρ : Env} : endK (some (.nx ρ)) = .ok (.d .non) := rfl
/-- a call -/
def clK (F : List D → R Sl) : R (List D) → R Val
  | .ok ds => match nox (F ds) with
    | .ok s => .ok (Val.ofSl s)
    | _ => .st
  | .st => .st
  | .ex e => .ex e
theorem eCl_ap {F : List D → R Sl} {fs : Env → R (List D)} {ρ : Env} : eCl F fs ρ = clK F (fs ρ) := by
  unfold eCl
  cases fs ρ with
  | ok ds =>
    rw [R.ok_bind]
    show _ = (match nox (F ds) with | .ok s => R.ok (Val.ofSl s) | _ => .st)
    cases F ds <;> rfl
  | _ => rfl
theorem clK_ok {F : List D → R Sl} {ds : List D} {s : Sl} (h : F ds = .ok s) : clK F (.ok ds) = .ok (Val.ofSl s) := by
  show (match nox (F ds) with | .ok s => R.ok (Val.ofSl s) | _ => .st) = _
  rw [h]
  rfl
theorem ofSl_d {x : D} : Val.ofSl (.d x) = .d x := rfl
theorem ofSl_ol {x : List Sl} : Val.ofSl (.ol x) = .o (.ol x) := rfl
def clBK (F : List D → R Sl) : R (List D) → R Val
  | .ok ds => match nox (F ds) with
    | .ok s => scOf s
    | _ => .st
  | .st => .st
  | .ex e => .ex e
theorem eClB_ap {F : List D → R Sl} {fs : Env → R (List D)} {ρ : Env} : eClB F fs ρ = clBK F (fs ρ) := by
  unfold eClB
  cases fs ρ with
  | ok ds =>
    rw [R.ok_bind]
    show _ = (match nox (F ds) with | .ok s => scOf s | _ => .st)
    cases F ds <;> rfl
  | _ => rfl
theorem clBK_bl {F : List D → R Sl} {ds : List D} {b : Bool} (h : F ds = .ok (.d (.bl b))) : clBK F (.ok ds) = .ok (.d (.bl b)) := by
  show (match nox (F ds) with | .ok s => scOf s | _ => .st) = _
  rw [h]
  rfl
theorem clBK_int {F : List D → R Sl} {ds : List D} {b : Int} (h : F ds = .ok (.d (.int b))) : clBK F (.ok ds) = .ok (.d (.int b)) := by
  show (match nox (F ds) with | .ok s => scOf s | _ => .st) = _
  rw [h]
  rfl
theorem clBK_str {F : List D → R Sl} {ds : List D} {b : Str} (h : F ds = .ok (.d (.str b))) : clBK F (.ok ds) = .ok (.d (.str b)) := by
  show (match nox (F ds) with | .ok s => scOf s | _ => .st) = _
  rw [h]
  rfl
theorem clBK_non {F : List D → R Sl} {ds : List D} (h : F ds = .ok (.d .non)) : clBK F (.ok ds) = .ok (.d .non) := by
  show (match nox (F ds) with | .ok s => scOf s | _ => .st) = _
  rw [h]
  rfl
/-! operations -/
theorem iAdd_ii {i j : Int} : iAdd (.d (.int i)) (.d (.int j)) = some (.d (.int (i + j))) := rfl
theorem iSub_ii {i j : Int} : iSub (.d (.int i)) (.d (.int j)) = some (.d (.int (i - j))) := rfl
theorem iMul_ii {i j : Int} (h : cMul i j = true) : iMul (.d (.int i)) (.d (.int j)) = some (.d (.int (i * j))) := by
  show (if cMul i j then _ else _) = _
  rw [h]
  rfl
theorem iDiv_ii {i j : Int} (h : cDiv i j = true) : iDiv (.d (.int i)) (.d (.int j)) = some (.d (.int (i / j))) := by
  show (if cDiv i j then _ else _) = _
  rw [h]
  rfl
theorem iMod_ii {i j : Int} (h : cMod i j = true) : iMod (.d (.int i)) (.d (.int j)) = some (.d (.int (i % j))) := by
  show (if cMod i j then _ else _) = _
  rw [h]
  rfl
theorem iPow_ii {i j : Int} (h : cPow i j = true) : iPow (.d (.int i)) (.d (.int j)) = some (.d (.int (i ^ j.toNat))) := by
  show (if cPow i j then _ else _) = _
  rw [h]
  rfl
theorem iLt_ii {i j : Int} : iLt (.d (.int i)) (.d (.int j)) = some (.d (.bl (decide (i < j)))) := rfl
theorem iLe_ii {i j : Int} : iLe (.d (.int i)) (.d (.int j)) = some (.d (.bl (decide (i ≤ j)))) := rfl
theorem iGt_ii {i j : Int} : iGt (.d (.int i)) (.d (.int j)) = some (.d (.bl (decide (j < i)))) := rfl
theorem iGe_ii {i j : Int} : iGe (.d (.int i)) (.d (.int j)) = some (.d (.bl (decide (j ≤ i)))) := rfl
theorem oNeg_i {i : Int} : oNeg (.d (.int i)) = some (.d (.int (-i))) := rfl
theorem oAbs_i {i : Int} : oAbs (.d (.int i)) = some (.d (.int (if i < 0 then -i else i))) := rfl
theorem oMax_ii {i j : Int} : oMax (.d (.int i)) (.d (.int j)) = some (.d (.int (if j > i then j else i))) := rfl
theorem oMin_ii {i j : Int} : oMin (.d (.int i)) (.d (.int j)) = some (.d (.int (if j < i then j else i))) := rfl
theorem oLen_ol {l : List Sl} : oLen (.b (.ol l)) = some (.d (.int (l.length : Int))) := rfl
theorem oLen_o {l : List Sl} : oLen (.o (.ol l)) = some (.d (.int (l.length : Int))) := rfl
theorem oLen_l {l : List D} : oLen (.d (.lst l)) = some (.d (.int (l.length : Int))) := rfl
theorem oLen_t {l : List D} : oLen (.d (.tup l)) = some (.d (.int (l.length : Int))) := rfl
theorem oEq_ii {i j : Int} : oEq (.d (.int i)) (.d (.int j)) = some (.d (.bl (decide (i = j)))) := rfl
theorem oNe_ii {i j : Int} : oNe (.d (.int i)) (.d (.int j)) = some (.d (.bl (!decide (i = j)))) := rfl
theorem oEq_bb {i j : Bool} : oEq (.d (.bl i)) (.d (.bl j)) = some (.d (.bl (decide (i = j)))) := rfl
theorem oNe_bb {i j : Bool} : oNe (.d (.bl i)) (.d (.bl j)) = some (.d (.bl (!decide (i = j)))) := rfl
theorem oEq_ss {i j : Str} : oEq (.d (.str i)) (.d (.str j)) = some (.d (.bl (decide (i = j)))) := rfl
theorem oNe_ss {i j : Str} : oNe (.d (.str i)) (.d (.str j)) = some (.d (.bl (!decide (i = j)))) := rfl
theorem oIx_l {l : List D} {i : Int} : oIx (.d (.lst l)) (.d (.int i)) = (atI l i).map Val.d := rfl
theorem oIx_t {l : List D} {i : Int} : oIx (.d (.tup l)) (.d (.int i)) = (atI l i).map Val.d := rfl
theorem oIx_b {l : List Sl} {i : Int} : oIx (.b (.ol l)) (.d (.int i)) = (atI l i).map Sl.bor := rfl
theorem atI_map {α β : Type} (f : α → β) (l : List α) (i : Int) : atI (l.map f) i = (atI l i).map f := by
  unfold atI
  rw [List.length_map]
  cases ixN l.length i with
  | none => rfl
  | some j => simp
theorem oIx_bd {l : List D} {i : Int} : oIx (.b (.ol (l.map Sl.d))) (.d (.int i)) = (atI l i).map Val.d := by
  rw [oIx_b, atI_map, Option.map_map]
  rfl
theorem oIx_od {l : List D} {i : Int} : oIx (.o (.ol (l.map Sl.d))) (.d (.int i)) = (atI l i).map Val.d := by
  show (match atI (l.map Sl.d) i with | some (.d z) => some (Val.d z) | _ => none) = _
  rw [atI_map]
  cases atI l i <;> rfl
def slK : R Val → R (Option Int) → R (Option Int) → R Val
  | .ok x, .ok l, .ok u => R.of (oSl x l u)
  | _, _, _ => .st
def pSK : R Val → R (Option Int)
  | .ok x => match x.dat with
    | some (.int i) => .ok (some i)
    | _ => .st
  | .st => .st
  | .ex e => .ex e
theorem pN_ap {ρ : Env} : pN ρ = .ok none := rfl
theorem pS_ap {f : Env → R Val} {ρ : Env} : pS f ρ = pSK (f ρ) := by
  unfold pS
  cases f ρ <;> rfl
theorem pSK_i {i : Int} : pSK (.ok (.d (.int i))) = .ok (some i) := rfl
theorem eSl_ok {f : Env → R Val} {fl fh : Env → R (Option Int)} {ρ : Env} {x : Val} {l u : Option Int} (h1 : f ρ = .ok x) (h2 : fl ρ = .ok l) (h3 : fh ρ = .ok u) : eSl f fl fh ρ = R.of (oSl x l u) := by
  unfold eSl
  rw [h1, R.ok_bind, h2, R.ok_bind, h3, R.ok_bind]
theorem oSl_l {l : List D} {lo hi : Option Int} : oSl (.d (.lst l)) lo hi = some (.o (.ol ((cutD l lo hi).map Sl.d))) := rfl
theorem oSl_b {l : List D} {lo hi : Option Int} : oSl (.b (.ol (l.map Sl.d))) lo hi = some (.o (.ol ((cutD l lo hi).map Sl.d))) := by
  show ((allD (l.map Sl.d)).map fun l => Val.o (.ol ((cutD l lo hi).map Sl.d))) = _
  rw [allD_map]
  rfl
theorem oSl_s {l : List Int} {lo hi : Option Int} : oSl (.d (.scr l)) lo hi = some (.o (.ol ((cutD (l.map D.int) lo hi).map Sl.d))) := rfl
theorem cutD_drop {α : Type} {l : List α} {k : Nat} : cutD l (some (k : Int)) none = l.drop k := by
  unfold cutD
  rw [HT.sIx_nat, HT.sIx_none]
  by_cases h : k ≤ l.length
  · rw [Nat.min_eq_left h, List.take_of_length_le]
    rw [List.length_drop]
    exact Nat.le_refl _
  · rw [Nat.min_eq_right (by omega), Nat.sub_self, List.take_zero, List.drop_eq_nil_of_le (by omega)]
theorem cutD_take {α : Type} {l : List α} {k : Nat} : cutD l none (some (k : Int)) = l.take k := by
  unfold cutD
  rw [HT.sIx_nat, HT.sIx_none, List.drop_zero, Nat.sub_zero]
  by_cases h : k ≤ l.length
  · rw [Nat.min_eq_left h]
  · rw [Nat.min_eq_right (by omega), List.take_of_length_le (Nat.le_refl _), List.take_of_length_le (by omega)]
theorem iL_ap {f : Env → R Val} {ρ : Env} {l : List D} (h : f ρ = .ok (.d (.lst l))) : iL f ρ = .ok l := by
  unfold iL
  rw [h]
  rfl
theorem iL_o {f : Env → R Val} {ρ : Env} {l : List D} (h : f ρ = .ok (.o (.ol (l.map Sl.d)))) : iL f ρ = .ok l := by
  unfold iL
  rw [h, R.ok_bind]
  show (R.of (Sl.ol (l.map Sl.d)).frz >>= fun d => _) = _
  rw [frz_ol]
  rfl
theorem iT_ap {f : Env → R Val} {ρ : Env} {l : List D} (h : f ρ = .ok (.d (.tup l))) : iT f ρ = .ok l := by
  unfold iT
  rw [h]
  rfl
theorem iS_ap {f : Env → R Val} {ρ : Env} {z : Str} (h : f ρ = .ok (.d (.str z))) : iS f ρ = .ok (sgD z) := by
  unfold iS
  rw [h]
  rfl
theorem iR1_ap {f : Env → R Val} {ρ : Env} {j : Int} (h : f ρ = .ok (.d (.int j))) (h1 : -(2 ^ 62) ≤ j) (h2 : j < 2 ^ 62) : iR1 f ρ = .ok (rngD 0 j.toNat) := by
  unfold iR1
  rw [h, R.ok_bind]
  show (if -(2 ^ 62) ≤ j ∧ j < 2 ^ 62 then _ else _) = _
  rw [if_pos ⟨h1, h2⟩]
theorem iR2_ap {f g : Env → R Val} {ρ : Env} {i j : Int} (h : f ρ = .ok (.d (.int i))) (h' : g ρ = .ok (.d (.int j))) (h1 : -(2 ^ 62) ≤ i) (h2 : i < 2 ^ 62) (h3 : -(2 ^ 62) ≤ j) (h4 : j < 2 ^ 62) : iR2 f g ρ = .ok (rngD i (j - i).toNat) := by
  unfold iR2
  rw [h, R.ok_bind, h', R.ok_bind]
  show (if (-(2 ^ 62) ≤ i ∧ i < 2 ^ 62) ∧ -(2 ^ 62) ≤ j ∧ j < 2 ^ 62 then _ else _) = _
  rw [if_pos ⟨⟨h1, h2⟩, h3, h4⟩]
/-! loops -/
theorem sFor_ap {src : Env → R (List D)} {gs : GS} {s : SS} {ρ : Env} {ds : List D} (h : src ρ = .ok ds) : sFor src gs s ρ = forL gs s ds ρ := by
  unfold sFor
  rw [h]
theorem forL_nil {gs : GS} {s : SS} {ρ : Env} : forL gs s [] ρ = some (.nx ρ) := rfl
theorem forL_nx {gs : GS} {s : SS} {d : D} {ds : List D} {ρ ρ1 ρ2 : Env} (h1 : gs d ρ = some ρ1) (h2 : s ρ1 = some (.nx ρ2)) : forL gs s (d :: ds) ρ = forL gs s ds ρ2 := by
  simp only [forL, h1, h2]
theorem forL_ct {gs : GS} {s : SS} {d : D} {ds : List D} {ρ ρ1 ρ2 : Env} (h1 : gs d ρ = some ρ1) (h2 : s ρ1 = some (.ct ρ2)) : forL gs s (d :: ds) ρ = forL gs s ds ρ2 := by
  simp only [forL, h1, h2]
theorem forL_br {gs : GS} {s : SS} {d : D} {ds : List D} {ρ ρ1 ρ2 : Env} (h1 : gs d ρ = some ρ1) (h2 : s ρ1 = some (.br ρ2)) : forL gs s (d :: ds) ρ = some (.nx ρ2) := by
  simp only [forL, h1, h2]
theorem forL_rt {gs : GS} {s : SS} {d : D} {ds : List D} {ρ ρ1 ρ2 : Env} {x : Sl} (h1 : gs d ρ = some ρ1) (h2 : s ρ1 = some (.rt x ρ2)) : forL gs s (d :: ds) ρ = some (.rt x ρ2) := by
  simp only [forL, h1, h2]
theorem forL_go {gs : GS} {s : SS} (all : List D) (P : List D → Env → Prop) (hs : ∀ pre d post ρ, all = pre ++ d :: post → P pre ρ → ∃ ρ1 ρ2, gs d ρ = some ρ1 ∧ (s ρ1 = some (.nx ρ2) ∨ s ρ1 = some (.ct ρ2)) ∧ P (pre ++ [d]) ρ2) :
    ∀ (ds pre : List D) (ρ : Env), all = pre ++ ds → P pre ρ → ∃ ρ', forL gs s ds ρ = some (.nx ρ') ∧ P all ρ'
  | [], pre, ρ, e, h0 => ⟨ρ, rfl, by rw [e, List.append_nil]; exact h0⟩
  | d :: ds, pre, ρ, e, h0 => by
    obtain ⟨ρ1, ρ2, h1, h2, h3⟩ := hs pre d ds ρ e h0
    obtain ⟨ρ', h4, h5⟩ := forL_go all P hs ds (pre ++ [d]) ρ2 (by rw [e, List.append_assoc]; rfl) h3
    refine ⟨ρ', ?_, h5⟩
    rcases h2 with h2 | h2
    · rw [forL_nx h1 h2, h4]
    · rw [forL_ct h1 h2, h4]
/-- a loop by what holds: P of what is taken, the state -/
theorem forL_inv {gs : GS} {s : SS} {ds : List D} {ρ : Env} (P : List D → Env → Prop) (h0 : P [] ρ) (hs : ∀ pre d post ρ, ds = pre ++ d :: post → P pre ρ → ∃ ρ1 ρ2, gs d ρ = some ρ1 ∧ (s ρ1 = some (.nx ρ2) ∨ s ρ1 = some (.ct ρ2)) ∧ P (pre ++ [d]) ρ2) :
    ∃ ρ', forL gs s ds ρ = some (.nx ρ') ∧ P ds ρ' := forL_go ds P hs ds [] ρ rfl h0
/-- a comprehension by a function of the items -/
theorem lcL_map {gs : GS} {te : Env → R Val} {ρ : Env} (k : D → D) : ∀ (ds acc : List D), (∀ d ∈ ds, ∃ ρ2 y, gs d ρ = some ρ2 ∧ te ρ2 = .ok y ∧ y.fz = .ok (k d)) → acc.length + ds.length ≤ 16777216 → lcL gs tYs te ρ ds acc = .ok (acc ++ ds.map k)
  | [], acc, _, _ => by simp [lcL]
  | d :: ds, acc, h, hl => by
    obtain ⟨ρ2, y, h1, h2, h3⟩ := h d (by simp)
    have hl' : acc.length + (ds.length + 1) ≤ 16777216 := hl
    have ha : acc.length < 16777216 := by omega
    have ih := lcL_map (gs := gs) (te := te) (ρ := ρ) k ds (acc ++ [k d]) (fun x hx => h x (by simp [hx])) (by rw [List.length_append]; simp only [List.length_cons, List.length_nil]; omega)
    have e : lcL gs tYs te ρ (d :: ds) acc = lcL gs tYs te ρ ds (acc ++ [k d]) := by
      show (match gs d ρ with | none => _ | some ρ2 => _) = _
      rw [h1]
      show (match te ρ2 with | .ok y => _ | _ => _) = _
      rw [h2]
      show (match y.fz with | .ok z => _ | _ => _) = _
      rw [h3]
      show (if acc.length < 16777216 then _ else _) = _
      rw [if_pos ha]
    rw [e, ih]
    simp
theorem eLc_map {vs : List Nat} {src : Env → R (List D)} {gs : GS} {te : Env → R Val} {ρ : Env} {ds : List D} (k : D → D) (h0 : src ρ = .ok ds) (h : ∀ d ∈ ds, ∃ ρ2 y, gs d (wipeE ρ vs) = some ρ2 ∧ te ρ2 = .ok y ∧ y.fz = .ok (k d)) (hl : ds.length ≤ 16777216) :
    eLc vs src gs tYs te ρ = .ok (.o (.ol ((ds.map k).map Sl.d))) := by
  unfold eLc
  rw [h0, R.ok_bind, lcL_map k ds [] h (by simpa using hl)]
  rfl
theorem whileL_eq {t : Env → R Bool} {s : SS} {n : Nat} {ρ ρ' : Env} (h1 : t ρ = .ok true) (h2 : s ρ = some (.nx ρ')) : whileL t s (n + 1) ρ = whileL t s n ρ' := by
  simp only [whileL, h1, h2]
theorem whileL_end {t : Env → R Bool} {s : SS} {n : Nat} {ρ : Env} (h1 : t ρ = .ok false) : whileL t s (n + 1) ρ = some (.nx ρ) := by
  simp only [whileL, h1]
/-- a while by a measure -/
theorem whileL_inv {t : Env → R Bool} {s : SS} (P : Env → Prop) (m : Env → Nat) (hs : ∀ ρ, P ρ → t ρ = .ok false ∨ (t ρ = .ok true ∧ ∃ ρ', s ρ = some (.nx ρ') ∧ P ρ' ∧ m ρ' < m ρ)) : ∀ (n : Nat) (ρ : Env), P ρ → m ρ < n → ∃ ρ', whileL t s n ρ = some (.nx ρ') ∧ P ρ' ∧ t ρ' = .ok false
  | 0, ρ, _, h => absurd h (Nat.not_lt_zero _)
  | n + 1, ρ, hp, h => by
    rcases hs ρ hp with ht | ⟨ht, ρ', h1, h2, h3⟩
    · exact ⟨ρ, whileL_end ht, hp, ht⟩
    · obtain ⟨ρ2, q1, q2, q3⟩ := whileL_inv P m hs n ρ' h2 (by omega)
      exact ⟨ρ2, by rw [whileL_eq ht h1, q1], q2, q3⟩
theorem sWh_inv {k : Env → Nat} {t : Env → R Bool} {s : SS} (P : Env → Prop) (m : Env → Nat) {ρ : Env} (h0 : P ρ) (hs : ∀ ρ, P ρ → t ρ = .ok false ∨ (t ρ = .ok true ∧ ∃ ρ', s ρ = some (.nx ρ') ∧ P ρ' ∧ m ρ' < m ρ)) (hm : m ρ < k ρ) : ∃ ρ', sWh k t s ρ = some (.nx ρ') ∧ P ρ' ∧ t ρ' = .ok false :=
  whileL_inv P m hs (k ρ) ρ h0 hm

/-! ### sizes -/
def bsz (i : Int) : Nat := i.natAbs.log2 + 1
theorem bsz_lt (i : Int) : i.natAbs < 2 ^ bsz i := Nat.lt_log2_self
theorem bsz_le {i : Int} {n : Nat} (hn : 0 < n) (h : i.natAbs < 2 ^ n) : bsz i ≤ n := by
  have := PySem.Flt.log2_lt_of hn h
  unfold bsz
  omega
theorem bsz_mul {i j : Int} {a b : Nat} (h1 : bsz i ≤ a) (h2 : bsz j ≤ b) : bsz (i * j) ≤ a + b := by
  have q1 := bsz_lt i
  have q2 := bsz_lt j
  have hp : 0 < bsz i := Nat.succ_pos _
  refine Nat.le_trans (bsz_le (n := bsz i + bsz j) (by omega) ?_) (by omega)
  rw [Int.natAbs_mul, Nat.pow_add]
  exact Nat.mul_lt_mul'' q1 q2
theorem pow_mono2 {a b : Nat} (h : a ≤ b) : 2 ^ a ≤ 2 ^ b := Nat.pow_le_pow_right (by decide) h
theorem bsz_add {i j : Int} {a b : Nat} (h1 : bsz i ≤ a) (h2 : bsz j ≤ b) : bsz (i + j) ≤ a + b + 1 := by
  refine bsz_le (by omega) ?_
  have q1 := Nat.lt_of_lt_of_le (bsz_lt i) (pow_mono2 (show bsz i ≤ a + b by omega))
  have q2 := Nat.lt_of_lt_of_le (bsz_lt j) (pow_mono2 (show bsz j ≤ a + b by omega))
  rw [Nat.pow_succ]
  omega
theorem bsz_max {i j : Int} {a : Nat} (h1 : bsz i ≤ a) (h2 : bsz j ≤ a) : bsz (i + j) ≤ a + 1 := by
  refine bsz_le (by omega) ?_
  have q1 := Nat.lt_of_lt_of_le (bsz_lt i) (pow_mono2 h1)
  have q2 := Nat.lt_of_lt_of_le (bsz_lt j) (pow_mono2 h2)
  rw [Nat.pow_succ]
  omega
theorem bsz_neg (i : Int) : bsz (-i) = bsz i := by unfold bsz; rw [Int.natAbs_neg]
theorem bsz_sub {i j : Int} {a b : Nat} (h1 : bsz i ≤ a) (h2 : bsz j ≤ b) : bsz (i - j) ≤ a + b + 1 := by
  rw [Int.sub_eq_add_neg]
  exact bsz_add h1 (by rw [bsz_neg]; exact h2)
theorem cMul_bsz {i j : Int} {a b : Nat} (h1 : bsz i ≤ a) (h2 : bsz j ≤ b) (h : a + b ≤ 1000000) : cMul i j = true := by
  unfold cMul
  have : i.natAbs.log2 + j.natAbs.log2 < 1000000 := by unfold bsz at h1 h2; omega
  rw [decide_eq_true this, Bool.or_true]
theorem cMul_l {i j : Int} (h : i.natAbs < 2 ^ 64) : cMul i j = true := by
  unfold cMul
  rw [decide_eq_true h]
  rfl
theorem cMul_r {i j : Int} (h : j.natAbs < 2 ^ 64) : cMul i j = true := by
  unfold cMul
  rw [decide_eq_true h, Bool.or_true]
  rfl
theorem cMod_p {i j : Int} (h : 0 < j) : cMod i j = true := decide_eq_true h
theorem cDiv_p {i j : Int} (h : 0 < j) (h2 : j < 1073741824) : cDiv i j = true := by
  unfold cDiv
  rw [decide_eq_true h, decide_eq_true h2]
  rfl
/-! owned things in explicit form -/
theorem aCK_o {s : Sl} {ys : R (List D)} : aCK (.ok (.o s)) ys = consK (R.of s.frz) ys := rfl
theorem bCK_o {s : Sl} {ys : R (List D)} : bCK (.ok (.o s)) ys = consK (R.of s.frz) ys := rfl
theorem bCK_b {s : Sl} {ys : R (List D)} : bCK (.ok (.b s)) ys = consK (R.of s.frz) ys := rfl
theorem consK_ok {x : D} {ys : List D} : consK (.ok x) (.ok ys) = .ok (x :: ys) := rfl
theorem frz_ol' {l : List Sl} : (Sl.ol l).frz = (frzL l).map .lst := by simp only [Sl.frz]
theorem frz_ot' {l : List Sl} : (Sl.ot l).frz = (frzL l).map .tup := by simp only [Sl.frz]
theorem frz_d' {x : D} : (Sl.d x).frz = some x := by simp only [Sl.frz]
theorem frzL_nil : frzL [] = some [] := by simp only [frzL]
theorem frzL_d {x : D} {r : List Sl} : frzL (.d x :: r) = (frzL r).map fun y => x :: y := by
  simp only [frzL, Sl.frz]
  cases frzL r <;> rfl
def setFK (i : Nat) (ρ : Env) : Option D → Option Fl
  | some y => if i < ρ.length then some (.nx (ρ.set i (some (.d y)))) else none
  | none => none
theorem setK_o {i : Nat} {ρ : Env} {s : Sl} : setK i ρ (.ok (.o s)) = setFK i ρ s.frz := by
  show kSet i (.o s) ρ = _
  unfold kSet
  show (match R.of s.frz with | .ok y => if i < ρ.length then some (Fl.nx (ρ.set i (some (.d y)))) else none | _ => none) = _
  cases s.frz <;> rfl
theorem setFK_some {i : Nat} {ρ : Env} {y : D} (h : i < ρ.length) : setFK i ρ (some y) = some (.nx (ρ.set i (some (.d y)))) := if_pos h
theorem chK_le {op' : Val → Val → Option Val} {i j : Int} {h : Env → R Val} {ρ : Env} : chK iLe op' (.ok (.d (.int i))) (.ok (.d (.int j))) h ρ = ch2 op' (decide (i ≤ j)) (.d (.int j)) h ρ := chK_ok iLe_ii
theorem chK_lt {op' : Val → Val → Option Val} {i j : Int} {h : Env → R Val} {ρ : Env} : chK iLt op' (.ok (.d (.int i))) (.ok (.d (.int j))) h ρ = ch2 op' (decide (i < j)) (.d (.int j)) h ρ := chK_ok iLt_ii
end Vl

namespace Pf
open PySem L2 Vl
abbrev c_EAST_STEPS : List (Str × D) := [("e", .int 1), ("n", .int 0), ("w", .int (-1)), ("s", .int 0)]
abbrev c_MOST_RUNS : D := .int 200
abbrev c_MOST_STEPS : D := .int 1000000000000000000000000000000
abbrev c_NORTH_STEPS : List (Str × D) := [("e", .int 0), ("n", .int 1), ("w", .int 0), ("s", .int (-1))]
abbrev c_NOUGHT : List D := [.int 0, .int 0, .int 0, .int 0, .int 0]
abbrev c_WAYS : List D := [.str "e", .str "n", .str "w", .str "s"]
abbrev N_l_draws : List Str := ["_law_script", "_law_many", "_law_found", "_law_seed", "_law_cell", "_law_left", "_law_turn"]
def sm_l_draws : SS :=
  sSeq (sSetO 2 (eLst (aN))) (sSeq (sSet 3 (eC (.int 977))) (sSeq (sFor (iL (eSl (eV 0) (pN) (pS (eC (.int 63))))) (gV 4) (sSeq (sSet 3 (e2 iMod (e2 iAdd (e2 iAdd (e2 iMul (eV 3) (eC (.int 69069))) (e2 iMod (eV 4) (eC (.int 1000003)))) (eC (.int 17))) (eC (.int 2147483629)))) (sSeq (sSet 5 (e1 oAbs (eV 4))) (sIf (tV (e2 iLt (eV 5) (e2 iPow (eC (.int 10)) (eC (.int 18))))) (sApp 2 (e2 iMod (eV 4) (eC (.int 1009)))) (sFor (iR1 (eC (.int 60))) (gV 6) (sIf (tV (e2 iGt (eV 5) (eC (.int 0)))) (sSeq (sApp 2 (e2 iMod (eV 5) (eC (.int 1009)))) (sSet 5 (e2 iDiv (eV 5) (eC (.int 1009))))) (sNil))))))) (sSeq (sWh (fun _ => 1000000000) (tV (e2 iLt (e1 oLen (eV 2)) (eV 1))) (sSeq (sSet 3 (e2 iMod (e2 iAdd (e2 iAdd (e2 iAdd (e2 iMul (eV 3) (eV 3)) (e2 iMul (eC (.int 48271)) (eV 3))) (e2 iMul (eC (.int 31)) (e1 oLen (eV 2)))) (eC (.int 11))) (eC (.int 2147483629)))) (sApp 2 (e2 iMod (e2 iDiv (eV 3) (eC (.int 1009))) (eC (.int 1009)))))) (sRet (eSl (eV 2) (pN) (pS (eV 1)))))))
def F_l_draws : List D → R Sl := fun ds => nox (runF N_l_draws.length sm_l_draws ds)
abbrev N_l_gone_back : List Str := ["_law_walk", "_law_way", "_law_many"]
def sm_l_gone_back : SS :=
  sRet (eLc [1, 2] (iL (e1 oRev (eV 0))) (gT (gC (gV 1) (gC (gV 2) (gN)))) (tYs) (eTup (aC (e2 oIx (eC (.str "wsen")) (e2m sFind (eC (.str "enws")) (eV 1))) (aC (eV 2) (aN)))))
def F_l_gone_back : List D → R Sl := fun ds => nox (runF N_l_gone_back.length sm_l_gone_back ds)
abbrev N_l_same : List Str := ["_law_found", "_law_due", "_law_k"]
def sm_l_same (F_l_same : List D → R Sl) : SS :=
  sSeq (sIf (tU (e1 (oIsi2 "list" "tuple") (eV 1))) (sSeq (sIf (tOrr (tV (e2 oNe (e1 (oIsi "list") (eV 0)) (e1 (oIsi "list") (eV 1)))) (tV (e2 oNe (e1 (oIsi "tuple") (eV 0)) (e1 (oIsi "tuple") (eV 1))))) (sRet (eC (.bl false))) (sNil)) (sRet (eAn (e2 oEq (e1 oLen (eV 0)) (e1 oLen (eV 1))) (e1 oAll (eLc [2] (iR1 (e1 oLen (eV 1))) (gV 2) (tYs) (eClB F_l_same (bC (e2 oIx (eV 0) (eV 2)) (bC (e2 oIx (eV 1) (eV 2)) (aN))))))))) (sNil)) (sSeq (sIf (tV (e1 oIsN (eV 1))) (sRet (e1 oIsN (eV 0))) (sNil)) (sSeq (sIf (tOrr (tV (e2 oNe (e1 (oIsi "bool") (eV 0)) (e1 (oIsi "bool") (eV 1)))) (tV (e2 oNe (e1 (oIsi "str") (eV 0)) (e1 (oIsi "str") (eV 1))))) (sRet (eC (.bl false))) (sNil)) (sRet (eAn (e2 oEq (e1 (oIsi "int") (eV 0)) (e1 (oIsi "int") (eV 1))) (e2 oEq (eV 0) (eV 1))))))
def Fk_l_same : Nat → List D → R Sl
  | 0 => fun _ => .st
  | k + 1 => fun ds => nox (runF N_l_same.length (sm_l_same (Fk_l_same k)) ds)
def F_l_same : List D → R Sl := Fk_l_same 8
abbrev N_l_ten : List Str := ["_law_many", "_law_found", "_law_step"]
def sm_l_ten : SS :=
  sSeq (sSet 1 (eC (.int 1))) (sSeq (sFor (iR1 (eV 0)) (gV 2) (sSet 1 (e2 iMul (eV 1) (eC (.int 10))))) (sRetV 1))
def F_l_ten : List D → R Sl := fun ds => nox (runF N_l_ten.length sm_l_ten ds)
abbrev N_l_some_walk : List Str := ["_law_d", "_law_most", "_law_walk", "_law_k", "_law_lot", "_law_size", "_law_many"]
def sm_l_some_walk : SS :=
  sSeq (sSetO 2 (eLst (aN))) (sSeq (sFor (iR1 (e2 iMod (e2 oIx (eV 0) (eC (.int 0))) (e2 iAdd (eV 1) (eC (.int 1))))) (gV 3) (sSeq (sSet 4 (e2 oIx (eV 0) (e2 iAdd (eC (.int 3)) (e2 iMul (eC (.int 3)) (eV 3))))) (sSeq (sSet 5 (e2 oIx (eV 0) (e2 iAdd (eC (.int 4)) (e2 iMul (eC (.int 3)) (eV 3))))) (sSeq (sSet 6 (e2 iAdd (eC (.int 1)) (e2 iMod (eV 4) (e2 oIx (eLst (aC (eC (.int 1)) (aC (eC (.int 3)) (aC (eC (.int 9)) (aC (eC (.int 40)) (aN)))))) (e2 iMod (e2 oIx (eV 0) (eC (.int 1))) (eC (.int 4))))))) (sSeq (sIf (tV (e2 oEq (e2 iMod (e2 iDiv (e2 oIx (eV 0) (eC (.int 1))) (eC (.int 4))) (eC (.int 4))) (eC (.int 3)))) (sSet 6 (e2 iAdd (e2 iMul (e2 iAdd (eC (.int 1)) (e2 iMod (eV 4) (eC (.int 9)))) (eCl F_l_ten (aC (e2 iMod (eV 5) (eC (.int 30))) (aN)))) (e2 iDiv (eV 4) (eC (.int 9))))) (sNil)) (sSeq (sIf (tV (e2 oEq (e2 iMod (eV 5) (eC (.int 50))) (eC (.int 49)))) (sSet 6 (e2 iPow (eC (.int 10)) (eC (.int 30)))) (sNil)) (sApp 2 (eTup (aC (e2 oIx (eC (.str "enws")) (e2 iMod (e2 oIx (eV 0) (e2 iAdd (eC (.int 2)) (e2 iMul (eC (.int 3)) (eV 3)))) (eC (.int 4)))) (aC (eV 6) (aN))))))))))) (sRetV 2))
def F_l_some_walk : List D → R Sl := fun ds => nox (runF N_l_some_walk.length sm_l_some_walk ds)
abbrev N_l_joined : List Str := ["_law_one", "_law_other", "_law_x", "_law_y", "_law_land", "_law_lean", "_law_lift", "_law_u", "_law_v", "_law_a", "_law_b", "_law_c", "_law_more"]
def sm_l_joined : SS :=
  sSeq (sAsg (gT (gC (gV 2) (gC (gV 3) (gC (gV 4) (gC (gV 5) (gC (gV 6) (gN))))))) (eV 0)) (sSeq (sAsg (gT (gC (gV 7) (gC (gV 8) (gC (gV 9) (gC (gV 10) (gC (gV 11) (gN))))))) (eV 1)) (sSeq (sSet 12 (e2 iMul (e2 iMul (eV 2) (eV 8)) (e2 iAdd (eV 8) (e2 iMul (eC (.int 2)) (eV 3))))) (sRet (eTup (aC (e2 iAdd (eV 2) (eV 7)) (aC (e2 iAdd (eV 3) (eV 8)) (aC (e2 iAdd (e2 iAdd (eV 4) (eV 9)) (e2 iMul (eV 2) (eV 8))) (aC (e2 iAdd (e2 iAdd (eV 5) (eV 10)) (e2 iMul (eV 2) (e2 iAdd (e2 iMul (eC (.int 2)) (eV 9)) (e2 iMul (eV 2) (eV 8))))) (aC (e2 iAdd (e2 iAdd (e2 iAdd (eV 6) (eV 11)) (e2 iMul (e2 iMul (eC (.int 2)) (eV 3)) (eV 9))) (eV 12)) (aN))))))))))
def F_l_joined : List D → R Sl := fun ds => nox (runF N_l_joined.length sm_l_joined ds)
abbrev N_l_run_tally : List Str := ["_law_way", "_law_many", "_law_east"]
def sm_l_run_tally : SS :=
  sSeq (sSet 2 (eDg "e" "w" (eV 1) (e1 oNeg (eV 1)) (eV 0) (eC (.int 0)))) (sRet (eTup (aC (eV 2) (aC (eDg "n" "s" (eV 1) (e1 oNeg (eV 1)) (eV 0) (eC (.int 0))) (aC (eC (.int 0)) (aC (eC (.int 0)) (aC (eC (.int 0)) (aN))))))))
def F_l_run_tally : List D → R Sl := fun ds => nox (runF N_l_run_tally.length sm_l_run_tally ds)
abbrev N_l_tally : List Str := ["_law_walk", "_law_found", "_law_way", "_law_many"]
def sm_l_tally : SS :=
  sSeq (sSet 1 (eTup (aC (eC (.int 0)) (aC (eC (.int 0)) (aC (eC (.int 0)) (aC (eC (.int 0)) (aC (eC (.int 0)) (aN)))))))) (sSeq (sFor (iL (eV 0)) (gT (gC (gV 2) (gC (gV 3) (gN)))) (sSet 1 (eCl F_l_joined (aC (eV 1) (aC (eCl F_l_run_tally (aC (eV 2) (aC (eV 3) (aN)))) (aN)))))) (sRetV 1))
def F_l_tally : List D → R Sl := fun ds => nox (runF N_l_tally.length sm_l_tally ds)
abbrev N_land_between : List Str := ["one", "other"]
def sm_land_between : SS :=
  sSeq (sIf (tV (e2 oNe (eSl (eV 0) (pN) (pS (eC (.int 2)))) (eSl (eV 1) (pN) (pS (eC (.int 2)))))) (sNever) (sNil)) (sRet (e2 iSub (e2 oIx (eV 0) (eC (.int 2))) (e2 oIx (eV 1) (eC (.int 2)))))
def F_land_between : List D → R Sl := fun ds => nox (runF N_land_between.length sm_land_between ds)
abbrev N_is_run : List Str := ["way", "many"]
def sm_is_run : SS :=
  sRet (eAn (e2 oIn (eV 0) (eC (.tup c_WAYS))) (eCh iLe iLe (eC (.int 1)) (eV 1) (eC c_MOST_STEPS)))
def F_is_run : List D → R Sl := fun ds => nox (runF N_is_run.length sm_is_run ds)
abbrev N_look_walk : List Str := ["walk", "at", "way", "many"]
def sm_look_walk : SS :=
  sSeq (sIf (tV (e2 iGt (e1 oLen (eV 0)) (eC c_MOST_RUNS))) (sNever) (sNil)) (sFor (iEn (aC (eV 0) (aN))) (gT (gC (gV 1) (gC (gT (gC (gV 2) (gC (gV 3) (gN)))) (gN)))) (sIf (tNo (tU (eCl F_is_run (aC (eV 2) (aC (eV 3) (aN)))))) (sNever) (sNil)))
def F_look_walk : List D → R Sl := fun ds => nox (runF N_look_walk.length sm_look_walk ds)
abbrev N_joined : List Str := ["one", "other", "x", "y", "land", "lean", "lift", "u", "v", "a", "b", "c"]
def sm_joined : SS :=
  sSeq (sAsg (gT (gC (gV 2) (gC (gV 3) (gC (gV 4) (gC (gV 5) (gC (gV 6) (gN))))))) (eV 0)) (sSeq (sAsg (gT (gC (gV 7) (gC (gV 8) (gC (gV 9) (gC (gV 10) (gC (gV 11) (gN))))))) (eV 1)) (sRet (eTup (aC (e2 iAdd (eV 2) (eV 7)) (aC (e2 iAdd (eV 3) (eV 8)) (aC (e2 iAdd (e2 iAdd (eV 4) (eV 9)) (e2 iMul (eV 2) (eV 8))) (aC (e2 iAdd (e2 iAdd (e2 iAdd (eV 5) (eV 10)) (e2 iMul (e2 iMul (eC (.int 2)) (eV 2)) (eV 9))) (e2 iMul (e2 iMul (eV 2) (eV 2)) (eV 8))) (aC (e2 iAdd (e2 iAdd (e2 iAdd (eV 6) (eV 11)) (e2 iMul (e2 iMul (eC (.int 2)) (eV 3)) (eV 9))) (e2 iMul (eV 2) (e2 iAdd (e2 iMul (eV 8) (eV 8)) (e2 iMul (e2 iMul (eC (.int 2)) (eV 3)) (eV 8))))) (aN)))))))))
def F_joined : List D → R Sl := fun ds => nox (runF N_joined.length sm_joined ds)
abbrev N_run_tally : List Str := ["way", "many"]
def sm_run_tally : SS :=
  sRet (eTup (aC (e2 iMul (e1 (oKix c_EAST_STEPS) (eV 0)) (eV 1)) (aC (e2 iMul (e1 (oKix c_NORTH_STEPS) (eV 0)) (eV 1)) (aC (eC (.int 0)) (aC (eC (.int 0)) (aC (eC (.int 0)) (aN)))))))
def F_run_tally : List D → R Sl := fun ds => nox (runF N_run_tally.length sm_run_tally ds)
abbrev N_tally_of : List Str := ["walk", "found", "way", "many"]
def sm_tally_of : SS :=
  sSeq (sSet 1 (eC (.tup c_NOUGHT))) (sSeq (sFor (iL (eV 0)) (gT (gC (gV 2) (gC (gV 3) (gN)))) (sSet 1 (eCl F_joined (aC (eV 1) (aC (eCl F_run_tally (aC (eV 2) (aC (eV 3) (aN)))) (aN)))))) (sRetV 1))
def F_tally_of : List D → R Sl := fun ds => nox (runF N_tally_of.length sm_tally_of ds)
abbrev N_between : List Str := ["one", "other"]
def sm_between : SS :=
  sSeq (sEx (eCl F_look_walk (aC (eV 0) (aN)))) (sSeq (sEx (eCl F_look_walk (aC (eV 1) (aN)))) (sRet (eCl F_land_between (aC (eCl F_tally_of (aC (eV 0) (aN))) (aC (eCl F_tally_of (aC (eV 1) (aN))) (aN))))))
def F_between : List D → R Sl := fun ds => nox (runF N_between.length sm_between ds)
abbrev N_tally : List Str := ["walk"]
def sm_tally : SS :=
  sSeq (sEx (eCl F_look_walk (aC (eV 0) (aN)))) (sRet (eCl F_tally_of (aC (eV 0) (aN))))
def F_tally : List D → R Sl := fun ds => nox (runF N_tally.length sm_tally ds)
abbrev N_law : List Str := ["_law_script", "_law_numbers", "_law_roads", "_law_k", "_law_goal", "_law_here", "_law_gap", "_law_some", "_law_more", "_law_found", "_law_ahead", "_law_behind"]
def sm_law : SS :=
  sSeq (sSet 1 (eCl F_l_draws (aC (eV 0) (aC (eC (.int 100)) (aN))))) (sSeq (sSetO 2 (eLc [3] (iR1 (eC (.int 3))) (gV 3) (tYs) (eCl F_l_some_walk (aC (eSl (eV 1) (pS (e2 iAdd (eC (.int 2)) (e2 iMul (eC (.int 22)) (eV 3)))) (pN)) (aC (eC (.int 6)) (aN)))))) (sSeq (sSet 4 (eCl F_l_tally (aC (e2 oIx (eV 2) (eC (.int 0))) (aN)))) (sSeq (sFor (iR2 (eC (.int 1)) (eC (.int 3))) (gV 3) (sSeq (sSet 5 (eCl F_l_tally (aC (e2 oIx (eV 2) (eV 3)) (aN)))) (sSeq (sSet 6 (eLst (aC (e2 iSub (e2 oIx (eV 4) (eC (.int 0))) (e2 oIx (eV 5) (eC (.int 0)))) (aC (e2 iSub (e2 oIx (eV 4) (eC (.int 1))) (e2 oIx (eV 5) (eC (.int 1)))) (aN))))) (sWh (fun _ => 1000000000) (tV (e2 oNe (eV 6) (eLst (aC (eC (.int 0)) (aC (eC (.int 0)) (aN)))))) (sSeq (sSet 7 (eLst (aC (e2 oMax (e1 oNeg (e2 iPow (eC (.int 10)) (eC (.int 30)))) (e2 oMin (e2 iPow (eC (.int 10)) (eC (.int 30))) (e2 oIx (eV 6) (eC (.int 0))))) (aC (e2 oMax (e1 oNeg (e2 iPow (eC (.int 10)) (eC (.int 30)))) (e2 oMin (e2 iPow (eC (.int 10)) (eC (.int 30))) (e2 oIx (eV 6) (eC (.int 1))))) (aN))))) (sSeq (sSetI 2 (eV 3) (e2 lAdd (e2 oIx (eV 2) (eV 3)) (e2 lMul (eLst (aC (eTup (aC (eIf (tV (e2 iGt (e2 oIx (eV 7) (eC (.int 0))) (eC (.int 0)))) (eC (.str "e")) (eC (.str "w"))) (aC (e1 oAbs (e2 oIx (eV 7) (eC (.int 0)))) (aN)))) (aN))) (e1 oInt (e2 oNe (e2 oIx (eV 7) (eC (.int 0))) (eC (.int 0))))))) (sSeq (sSetI 2 (eV 3) (e2 lAdd (e2 oIx (eV 2) (eV 3)) (e2 lMul (eLst (aC (eTup (aC (eIf (tV (e2 iGt (e2 oIx (eV 7) (eC (.int 1))) (eC (.int 0)))) (eC (.str "n")) (eC (.str "s"))) (aC (e1 oAbs (e2 oIx (eV 7) (eC (.int 1)))) (aN)))) (aN))) (e1 oInt (e2 oNe (e2 oIx (eV 7) (eC (.int 1))) (eC (.int 0))))))) (sSet 6 (eLst (aC (e2 iSub (e2 oIx (eV 6) (eC (.int 0))) (e2 oIx (eV 7) (eC (.int 0)))) (aC (e2 iSub (e2 oIx (eV 6) (eC (.int 1))) (e2 oIx (eV 7) (eC (.int 1)))) (aN)))))))))))) (sSeq (sSet 8 (eCl F_l_some_walk (aC (eSl (eV 1) (pS (eC (.int 72))) (pN)) (aC (eC (.int 6)) (aN))))) (sSeq (sSet 9 (eLc [3] (iR1 (eC (.int 3))) (gV 3) (tYs) (eCl F_between (aC (e1 oList (e2 oIx (eV 2) (eV 3))) (aC (e1 oList (e2 oIx (eV 2) (e2 iMod (e2 iAdd (eV 3) (eC (.int 1))) (eC (.int 3))))) (aN)))))) (sSeq (sIf (tOrr (tV (e2 oNe (e1 oSum (eV 9)) (eC (.int 0)))) (tV (e2 oNe (eCl F_between (aC (e1 oList (e2 oIx (eV 2) (eC (.int 1)))) (aC (e1 oList (e2 oIx (eV 2) (eC (.int 0)))) (aN)))) (e1 oNeg (e2 oIx (eV 9) (eC (.int 0))))))) (sRet (eC (.bl false))) (sNil)) (sSeq (sIf (tV (e2 oNe (eSl (eCl F_tally (aC (e2 lAdd (e2 oIx (eV 2) (eC (.int 0))) (eCl F_l_gone_back (aC (e2 oIx (eV 2) (eC (.int 1))) (aN)))) (aN))) (pN) (pS (eC (.int 3)))) (eTup (aC (eC (.int 0)) (aC (eC (.int 0)) (aC (e2 oIx (eV 9) (eC (.int 0))) (aN))))))) (sRet (eC (.bl false))) (sNil)) (sSeq (sSet 10 (eCl F_between (aC (e2 lAdd (eV 8) (e2 oIx (eV 2) (eC (.int 0)))) (aC (e2 lAdd (eV 8) (e2 oIx (eV 2) (eC (.int 1)))) (aN))))) (sSeq (sSet 11 (eCl F_between (aC (e2 lAdd (e2 oIx (eV 2) (eC (.int 0))) (eV 8)) (aC (e2 lAdd (e2 oIx (eV 2) (eC (.int 1))) (eV 8)) (aN))))) (sRet (eClB F_l_same (bC (eLst (aC (eV 10) (aC (eV 11) (aN)))) (bC (eLst (aC (e2 oIx (eV 9) (eC (.int 0))) (aC (e2 oIx (eV 9) (eC (.int 0))) (aN)))) (aN))))))))))))))
def F_law : List D → R Sl := fun ds => nox (runF N_law.length sm_law ds)
end Pf

namespace Pf
open PySem L2 Vl
local macro_rules | `(tactic| walk_at "ev") => `(tactic| simp only [nox_run, env0, endK_rt, endK_nx, sSeq_ap, seqK_nx, seqK_rt, seqK_br, seqK_ct, sNil_ap, sSet_ap, sSetO_ap, setK_d, setOK_d, setOK_o, sAsg_ap, asgK_d, gT_tup, gC_ap, bindK_some, gN_ap, gV_ap, sRet_ap, retK_d, retK_o, sRetV_ap, retVK_some, sIf_ap, ifK_t, ifK_f, sEx_ap, exK_ok, sPar_ap, parK_ok, sAug_ap, sApp_ap, appK_d, e2_ap, e2K_ok, e1_ap, e1K_ok, eC_ap, eV_ap, vK_d, vK_ol, vK_ot, vK_od, aN_ap, aC_ap, aCK_ok, aCK_o, bCK_o, bCK_b, consK_ok, frz_ol', frz_ot', frz_d', frzL_nil, frzL_d, frzL_map, setK_o, setFK_some,  bC_ap, bCK_ok, eTup_ap, eLst_ap, tupK_ok, lstK_ok, tV_ap, tU_ap, tVK_bl, tUK_bl, tUK_int, tAn_ap, tOrr_ap, tNo_ap, anK_t, anK_f, orK_t, orK_f, noK_ok, eAn_ap, eOr_ap, eAnK_t, eAnK_f, eOrK_t, eOrK_f, eNo_ap, eNoK_ok, eIf_ap, eIfK_t, eIfK_f, eCh_ap, chK_le, chK_lt, ch2_t, ch2_f, eCl_ap, eClB_ap, ofSl_d, ofSl_ol, R.of_some, iAdd_ii, iSub_ii, iMul_ii, iDiv_ii, iMod_ii, iPow_ii, iLt_ii, iLe_ii, iGt_ii, iGe_ii, oNeg_i, oAbs_i, oMax_ii, oMin_ii, oLen_ol, oLen_o, oLen_l, oLen_t, oEq_ii, oNe_ii, oEq_bb, oNe_bb, oEq_ss, oNe_ss, oIx_l, oIx_t, oIx_bd, oIx_od, pN_ap, pS_ap, pSK_i, oSl_l, oSl_b, oSl_s, List.map_cons, List.map_nil, Option.map_some, List.length_cons, List.length_nil, List.length_set, List.set_cons_zero, List.set_cons_succ, List.getElem?_cons_zero, List.getElem?_cons_succ, List.replicate_succ, List.replicate_zero, List.cons_append, List.nil_append, Nat.reduceAdd, Nat.reduceSub, Nat.reduceLT, Nat.reduceLeDiff, Nat.zero_add, Nat.zero_lt_succ, Nat.lt_add_left_iff_pos, Nat.le_refl, and_self, Nat.succ_lt_succ_iff, decide_true, decide_false, Bool.not_true, Bool.not_false, Bool.false_eq_true, if_true, if_false, reduceIte, *])

/-! the draws -/
def DIn (l : List Int) : Prop := ∀ d ∈ l, 0 ≤ d ∧ d < 1009
theorem DIn.snoc {l : List Int} {x : Int} (h : DIn l) (h1 : 0 ≤ x ∧ x < 1009) : DIn (l ++ [x]) := fun d m => by
  rcases List.mem_append.mp m with m | m
  · exact h d m
  · have : d = x := by simpa using m
    subst this
    exact h1
def mapI (l : List Int) : List Sl := (l.map D.int).map Sl.d
theorem mapI_snoc (l : List Int) (x : Int) : (((l.map D.int) ++ [D.int x]).map Sl.d) = mapI (l ++ [x]) := by
  unfold mapI
  rw [List.map_append (f := D.int)]
  rfl
theorem mapI_len (l : List Int) : (mapI l).length = l.length := by unfold mapI; rw [List.length_map, List.length_map]
theorem appK_m {i : Nat} {ρ : Vl.Env} {l : List Int} {x : Int} (h : l.length < 16777216) : appK i ρ (some (some (.ol (mapI l)))) (.ok (.d (.int x))) = some (.nx (ρ.set i (some (.ol (mapI (l ++ [x])))))) := by
  unfold mapI
  rw [appK_d (by rw [List.length_map]; exact h), mapI_snoc]
  rfl
def DrS (ns : List Int) (m : Nat) (n : Nat) (ρ : Vl.Env) : Prop := ∃ (found : List Int) (seed : Int) (c l t : Option Sl), ρ = [some (.d (.scr ns)), some (.d (.int m)), some (.ol (mapI found)), some (.d (.int seed)), c, l, t] ∧ DIn found ∧ found.length ≤ n ∧ 0 ≤ seed ∧ seed < 2147483629
theorem seed_ok (a : Int) : 0 ≤ a % 2147483629 ∧ a % 2147483629 < 2147483629 := ⟨Int.emod_nonneg _ (by decide), Int.emod_lt_of_pos _ (by decide)⟩
theorem m1009 (a : Int) : 0 ≤ a % 1009 ∧ a % 1009 < 1009 := ⟨Int.emod_nonneg _ (by decide), Int.emod_lt_of_pos _ (by decide)⟩
def dr_in : SS := sIf (tV (e2 iGt (eV 5) (eC (.int 0)))) (sSeq (sApp 2 (e2 iMod (eV 5) (eC (.int 1009)))) (sSet 5 (e2 iDiv (eV 5) (eC (.int 1009))))) sNil
def dr_body : SS := sSeq (sSet 3 (e2 iMod (e2 iAdd (e2 iAdd (e2 iMul (eV 3) (eC (.int 69069))) (e2 iMod (eV 4) (eC (.int 1000003)))) (eC (.int 17))) (eC (.int 2147483629)))) (sSeq (sSet 5 (e1 oAbs (eV 4))) (sIf (tV (e2 iLt (eV 5) (e2 iPow (eC (.int 10)) (eC (.int 18))))) (sApp 2 (e2 iMod (eV 4) (eC (.int 1009)))) (sFor (iR1 (eC (.int 60))) (gV 6) dr_in)))
theorem dr_inner (ns : List Int) (m : Nat) (found : List Int) (seed n l : Int) (t : Option Sl) (hf : DIn found) (hl : found.length ≤ 8000) :
    ∃ (f2 : List Int) (l2 : Int), dr_in [some (.d (.scr ns)), some (.d (.int m)), some (.ol (mapI found)), some (.d (.int seed)), some (.d (.int n)), some (.d (.int l)), t] = some (.nx [some (.d (.scr ns)), some (.d (.int m)), some (.ol (mapI f2)), some (.d (.int seed)), some (.d (.int n)), some (.d (.int l2)), t]) ∧ DIn f2 ∧ f2.length ≤ found.length + 1 := by
  have c5 : cMod l 1009 = true := cMod_p (by decide)
  have c6 : cDiv l 1009 = true := cDiv_p (by decide) (by decide)
  have c7 : found.length < 16777216 := by omega
  unfold dr_in
  by_cases h : 0 < l
  · refine ⟨found ++ [l % 1009], l / 1009, ?_, hf.snoc (m1009 l), by simp⟩
    walk_at "ev"
    rw [appK_m c7]
    walk_at "ev"
  · refine ⟨found, l, ?_, hf, by omega⟩
    walk_at "ev"
theorem dr_turn (ns : List Int) (m : Nat) (found : List Int) (seed n : Int) (l t : Option Sl) (hf : DIn found) (hl : found.length ≤ 4000) (s0 : 0 ≤ seed) (s1 : seed < 2147483629) :
    ∃ ρ2, dr_body [some (.d (.scr ns)), some (.d (.int m)), some (.ol (mapI found)), some (.d (.int seed)), some (.d (.int n)), l, t] = some (.nx ρ2) ∧ DrS ns m (found.length + 60) ρ2 := by
  have c1 : cMul seed 69069 = true := cMul_r (by decide)
  have c2 : cMod n 1000003 = true := cMod_p (by decide)
  have c3 : cMod (seed * 69069 + n % 1000003 + 17) 2147483629 = true := cMod_p (by decide)
  have c4 : cPow 10 18 = true := by decide
  have c5 : cMod n 1009 = true := cMod_p (by decide)
  have c7 : found.length < 16777216 := by omega
  obtain ⟨z0, z1⟩ := seed_ok (seed * 69069 + n % 1000003 + 17)
  generalize hs : (seed * 69069 + n % 1000003 + 17) % 2147483629 = sd at *
  generalize ha : (if n < 0 then -n else n) = an
  unfold dr_body
  by_cases hb : an < 10 ^ (18 : Int).toNat
  · refine ⟨[some (.d (.scr ns)), some (.d (.int m)), some (.ol (mapI (found ++ [n % 1009]))), some (.d (.int sd)), some (.d (.int n)), some (.d (.int an)), t], ?_, found ++ [n % 1009], sd, _, _, _, rfl, hf.snoc (m1009 n), by simp, z0, z1⟩
    walk_at "ev"
    rw [appK_m c7]
    walk_at "ev"
  · have src : iR1 (eC (.int 60)) [some (.d (.scr ns)), some (.d (.int m)), some (.ol (mapI found)), some (.d (.int sd)), some (.d (.int n)), some (.d (.int an)), t] = .ok (rngD 0 60) := rfl
    obtain ⟨ρ', e4, f2, l2, t2, rfl, q1, q2⟩ := forL_inv (gs := gV 6) (s := dr_in) (ds := rngD 0 60) (ρ := [some (.d (.scr ns)), some (.d (.int m)), some (.ol (mapI found)), some (.d (.int sd)), some (.d (.int n)), some (.d (.int an)), t])
      (fun pre ρ => ∃ (f2 : List Int) (l2 : Int) (t2 : Option Sl), ρ = [some (.d (.scr ns)), some (.d (.int m)), some (.ol (mapI f2)), some (.d (.int sd)), some (.d (.int n)), some (.d (.int l2)), t2] ∧ DIn f2 ∧ f2.length ≤ found.length + pre.length)
      ⟨found, an, t, rfl, hf, Nat.le_refl _⟩ (by
        rintro pre d post ρ e ⟨f2, l2, t2, rfl, q1, q2⟩
        have hpl : pre.length < 60 := by
          have := congrArg List.length e
          rw [rngD_len, List.length_append, List.length_cons] at this
          omega
        obtain ⟨f3, l3, w1, w2, w3⟩ := dr_inner ns m f2 sd n l2 (some (.d d)) q1 (by omega)
        exact ⟨_, _, rfl, .inl w1, f3, l3, _, rfl, w2, by rw [List.length_append, List.length_singleton]; omega⟩)
    refine ⟨[some (.d (.scr ns)), some (.d (.int m)), some (.ol (mapI f2)), some (.d (.int sd)), some (.d (.int n)), some (.d (.int l2)), t2], ?_, f2, sd, some (.d (.int n)), some (.d (.int l2)), t2, rfl, q1, by rw [rngD_len] at q2; exact q2, z0, z1⟩
    walk_at "ev"
    rw [sFor_ap src, e4]
def dr_more : SS := sSeq (sSet 3 (e2 iMod (e2 iAdd (e2 iAdd (e2 iAdd (e2 iMul (eV 3) (eV 3)) (e2 iMul (eC (.int 48271)) (eV 3))) (e2 iMul (eC (.int 31)) (e1 oLen (eV 2)))) (eC (.int 11))) (eC (.int 2147483629)))) (sApp 2 (e2 iMod (e2 iDiv (eV 3) (eC (.int 1009))) (eC (.int 1009))))
def DrE (ns : List Int) (m : Nat) (ρ : Vl.Env) : Prop := ∃ (found : List Int) (seed : Int) (c l t : Option Sl), ρ = [some (.d (.scr ns)), some (.d (.int m)), some (.ol (mapI found)), some (.d (.int seed)), c, l, t] ∧ DIn found ∧ found.length ≤ 4000 + m ∧ 0 ≤ seed ∧ seed < 2147483629
def drLen (ρ : List (Option Sl)) : Nat := match (ρ[2]? : Option (Option Sl)) with
  | some (some (.ol l)) => l.length
  | _ => 0
theorem draws_ok (ns : List Int) (hn : ns.length ≤ 63) (m : Nat) (hm : m ≤ 100000) : ∃ ds : List Int, F_l_draws [.scr ns, .int m] = .ok (.ol (mapI ds)) ∧ ds.length = m ∧ DIn ds := by
  unfold F_l_draws
  rw [nox_run]
  unfold sm_l_draws
  simp only [sSeq_ap]
  -- the two first rows
  have hr1 : sSetO 2 (eLst aN) (env0 N_l_draws.length [.scr ns, .int m]) = some (.nx [some (.d (.scr ns)), some (.d (.int m)), some (.ol (mapI [])), none, none, none, none]) := rfl
  rw [hr1, seqK_nx]
  have hr2 : sSet 3 (eC (.int 977)) [some (.d (.scr ns)), some (.d (.int m)), some (.ol (mapI [])), none, none, none, none] = some (.nx [some (.d (.scr ns)), some (.d (.int m)), some (.ol (mapI [])), some (.d (.int 977)), none, none, none]) := rfl
  rw [sSeq_ap, hr2, seqK_nx, sSeq_ap]
  have hr3 : iL (eSl (eV 0) pN (pS (eC (.int 63)))) [some (.d (.scr ns)), some (.d (.int m)), some (.ol (mapI [])), some (.d (.int 977)), none, none, none] = .ok (ns.map D.int) := by
    refine iL_o ?_
    rw [eSl_ok (x := .d (.scr ns)) (l := none) (u := some 63) rfl rfl rfl]
    show R.of (some (Val.o (.ol ((cutD (ns.map D.int) none (some ((63 : Nat) : Int))).map Sl.d)))) = _
    rw [cutD_take, List.take_of_length_le (by rw [List.length_map]; exact hn)]
    rfl
  rw [sFor_ap hr3]
  obtain ⟨ρ', e4, found, seed, c, l, t, rfl, q1, q2, q3, q4⟩ := forL_inv (gs := gV 4) (s := dr_body) (ds := ns.map D.int) (ρ := [some (.d (.scr ns)), some (.d (.int m)), some (.ol (mapI [])), some (.d (.int 977)), none, none, none]) (fun pre ρ => DrS ns m (60 * pre.length) ρ)
    ⟨[], 977, none, none, none, rfl, (fun _ m => (nomatch m)), Nat.zero_le _, by decide, by decide⟩ (by
      rintro pre d post ρ e ⟨found, seed, c, l, t, rfl, hf, hl, s0, s1⟩
      have hmem : d ∈ ns.map D.int := by rw [e]; simp
      have hpl : pre.length < 63 := by
        have := congrArg List.length e
        rw [List.length_map, List.length_append, List.length_cons] at this
        omega
      rw [List.mem_map] at hmem
      obtain ⟨n, _, rfl⟩ := hmem
      obtain ⟨ρ2, h1, f2, sd, c2, l2, t2, ex2, q1, q2, q3, q4⟩ := dr_turn ns m found seed n l t hf (by omega) s0 s1
      refine ⟨_, ρ2, rfl, .inl h1, f2, sd, c2, l2, t2, ex2, q1, ?_, q3, q4⟩
      rw [List.length_append, List.length_singleton]
      omega)
  have e4' := e4
  unfold dr_body dr_in at e4'
  rw [e4', seqK_nx, sSeq_ap]
  rw [List.length_map] at q2
  obtain ⟨ρ2, e5, ⟨f2, sd, c2, l2, t2, rfl, w1, w2, w3, w4⟩, w5⟩ := sWh_inv (k := fun _ => 1000000000) (t := tV (e2 iLt (e1 oLen (eV 2)) (eV 1))) (s := dr_more) (DrE ns m) (fun ρ => m - drLen ρ) (ρ := [some (.d (.scr ns)), some (.d (.int m)), some (.ol (mapI found)), some (.d (.int seed)), c, l, t])
    ⟨found, seed, c, l, t, rfl, q1, by omega, q3, q4⟩ (by
      rintro ρ ⟨found, seed, c, l, t, rfl, hf, hl, s0, s1⟩
      have tt : tV (e2 iLt (e1 oLen (eV 2)) (eV 1)) [some (.d (.scr ns)), some (.d (.int m)), some (.ol (mapI found)), some (.d (.int seed)), c, l, t] = .ok (decide ((found.length : Int) < m)) := by
        walk_at "ev"
        rw [mapI_len]
      rw [tt]
      by_cases h : (found.length : Int) < m
      · refine .inr ⟨by rw [decide_eq_true h], ?_⟩
        have c1 : cMul seed seed = true := cMul_l (by omega)
        have c2 : cMul 48271 seed = true := cMul_l (by decide)
        have c3 : cMul 31 (found.length : Int) = true := cMul_l (by decide)
        have c4 : cMod (seed * seed + 48271 * seed + 31 * (found.length : Int) + 11) 2147483629 = true := cMod_p (by decide)
        obtain ⟨z0, z1⟩ := seed_ok (seed * seed + 48271 * seed + 31 * (found.length : Int) + 11)
        generalize hs : (seed * seed + 48271 * seed + 31 * (found.length : Int) + 11) % 2147483629 = sd at *
        have c5 : cDiv sd 1009 = true := cDiv_p (by decide) (by decide)
        have c6 : cMod (sd / 1009) 1009 = true := cMod_p (by decide)
        have c7 : found.length < 16777216 := by omega
        have c8 := mapI_len found
        refine ⟨_, ?_, ⟨found ++ [sd / 1009 % 1009], sd, c, l, t, rfl, hf.snoc (m1009 _), by rw [List.length_append, List.length_singleton]; omega, z0, z1⟩, ?_⟩
        · unfold dr_more
          walk_at "ev"
          rw [appK_m c7]
          walk_at "ev"
        · show m - (mapI (found ++ [sd / 1009 % 1009])).length < m - (mapI found).length
          rw [mapI_len, mapI_len, List.length_append, List.length_singleton]
          omega
      · exact .inl (by rw [decide_eq_false h])) (by show m - (mapI found).length < 1000000000; omega)
  have e5' := e5
  unfold dr_more at e5'
  rw [e5', seqK_nx]
  have tt : tV (e2 iLt (e1 oLen (eV 2)) (eV 1)) [some (.d (.scr ns)), some (.d (.int m)), some (.ol (mapI f2)), some (.d (.int sd)), c2, l2, t2] = .ok (decide ((f2.length : Int) < m)) := by
    walk_at "ev"
    rw [mapI_len]
  rw [tt] at w5
  have hle : m ≤ f2.length := by
    have := of_decide_eq_false (R.ok.inj w5)
    omega
  refine ⟨f2.take m, ?_, by rw [List.length_take]; omega, fun d hd => w1 d (List.mem_of_mem_take hd)⟩
  rw [sRet_ap, eSl_ok (x := .b (.ol (mapI f2))) (l := none) (u := some ((m : Nat) : Int)) rfl rfl rfl]
  show endK (retK _ (R.of (oSl (.b (.ol ((f2.map D.int).map Sl.d))) none (some ((m : Nat) : Int))))) = _
  rw [oSl_b, cutD_take, R.of_some, retK_o, endK_rt]
  have ht : ((f2.map D.int).map Sl.d).take m = mapI (f2.take m) := by
    unfold mapI
    rw [List.map_take, List.map_take]
  rw [List.map_take, ht]

/-! _law_same -/
mutual
def D.nice : D → Bool
  | .non => true
  | .bl _ => true
  | .int _ => true
  | .str _ => true
  | .tup l => D.niceL l && decide (l.length ≤ 1000000)
  | .lst l => D.niceL l && decide (l.length ≤ 1000000)
  | _ => false
def D.niceL : List D → Bool
  | [] => true
  | x :: r => D.nice x && D.niceL r
end
def D.isL : D → Bool
  | .lst _ => true
  | _ => false
def D.isT : D → Bool
  | .tup _ => true
  | _ => false
def D.isI : D → Bool
  | .int _ => true
  | .bl _ => true
  | _ => false
def D.isBo : D → Bool
  | .bl _ => true
  | _ => false
def D.isSt : D → Bool
  | .str _ => true
  | _ => false
theorem isi_list {x : D} (h : D.nice x = true) : oIsi "list" (.d x) = some (.d (.bl (D.isL x))) := by
  cases x <;> first | (cases h; done) | rfl | decide +kernel
theorem isi_tuple {x : D} (h : D.nice x = true) : oIsi "tuple" (.d x) = some (.d (.bl (D.isT x))) := by
  cases x <;> first | (cases h; done) | rfl | decide +kernel
theorem isi_int {x : D} (h : D.nice x = true) : oIsi "int" (.d x) = some (.d (.bl (D.isI x))) := by
  cases x <;> first | (cases h; done) | rfl | decide +kernel
theorem isi_bool {x : D} (h : D.nice x = true) : oIsi "bool" (.d x) = some (.d (.bl (D.isBo x))) := by
  cases x <;> first | (cases h; done) | rfl | decide +kernel
theorem isi_str {x : D} (h : D.nice x = true) : oIsi "str" (.d x) = some (.d (.bl (D.isSt x))) := by
  cases x <;> first | (cases h; done) | rfl | decide +kernel
theorem isi_two {x : D} (h : D.nice x = true) : oIsi2 "list" "tuple" (.d x) = some (.d (.bl (D.isL x || D.isT x))) := by
  cases x <;> first | (cases h; done) | rfl | decide +kernel
theorem niceL_get : ∀ {l : List D} {i : Nat} {x : D}, D.niceL l = true → l[i]? = some x → D.nice x = true
  | [], i, x, _, e => by simp at e
  | a :: l, 0, x, h, e => by
    simp at e
    subst e
    have h : (D.nice a && D.niceL l) = true := h
    rw [Bool.and_eq_true] at h
    exact h.1
  | a :: l, i + 1, x, h, e => by
    have h : (D.nice a && D.niceL l) = true := h
    rw [Bool.and_eq_true] at h
    exact niceL_get (i := i) h.2 (by simpa using e)
theorem depL_get : ∀ {l : List D} {i : Nat} {x : D}, l[i]? = some x → x.dep ≤ depL l
  | [], i, x, e => by simp at e
  | a :: l, 0, x, e => by
    simp at e
    subst e
    exact Nat.le_max_left _ _
  | a :: l, i + 1, x, e => Nat.le_trans (depL_get (i := i) (by simpa using e)) (Nat.le_max_right _ _)
/-- place by place -/
theorem sameL_at : ∀ (l m : List D), l.length = m.length → ((List.range m.length).all fun i => match l[i]?, m[i]? with | some x, some y => x.same y | _, _ => false) = sameL l m
  | [], [], _ => rfl
  | [], _ :: _, h => by cases h
  | _ :: _, [], h => by cases h
  | x :: l, y :: m, h => by
    rw [List.length_cons, List.range_succ_eq_map, List.all_cons, List.all_map]
    show (x.same y && _) = (x.same y && sameL l m)
    rw [← sameL_at l m (by simpa using h)]
    rfl
theorem sameL_len : ∀ (l m : List D), sameL l m = true → l.length = m.length
  | [], [], _ => rfl
  | [], _ :: _, h => by cases h
  | _ :: _, [], h => by cases h
  | x :: l, y :: m, h => by
    have h : (x.same y && sameL l m) = true := h
    rw [Bool.and_eq_true] at h
    rw [List.length_cons, List.length_cons, sameL_len l m h.2]
def same_items (F : List D → R Sl) : Vl.Env → R Val := eLc [2] (iR1 (e1 oLen (eV 1))) (gV 2) tYs (eClB F (bC (e2 oIx (eV 0) (eV 2)) (bC (e2 oIx (eV 1) (eV 2)) aN)))
theorem atI_nat_ {l : List D} {i : Nat} : atI l ((0 : Int) + (i : Nat)) = l[i]? := by
  rw [Int.zero_add]
  cases e : l[i]? with
  | some x => exact atI_nat e
  | none =>
    unfold atI ixN
    rw [if_pos (by omega), if_neg (by have := List.getElem?_eq_none_iff.mp e; omega)]
    rfl
def seqOf : D → List D
  | .lst l => l
  | .tup l => l
  | _ => []
theorem same_items_ok {F : List D → R Sl} {x y : D} (hx : (D.isL x || D.isT x) = true) (hy : (D.isL y || D.isT y) = true) (hl : (seqOf x).length = (seqOf y).length) (hy2 : (seqOf y).length ≤ 1000000) (t : Option Sl)
    (hF : ∀ (i : Nat) (a b : D), (seqOf x)[i]? = some a → (seqOf y)[i]? = some b → F [a, b] = .ok (.d (.bl (a.same b)))) :
    e1 oAll (same_items F) [some (.d x), some (.d y), t] = .ok (.d (.bl (sameL (seqOf x) (seqOf y)))) := by
  have ix : ∀ (z : D) (i : Nat), (D.isL z || D.isT z) = true → oIx (.d z) (.d (.int ((0 : Int) + (i : Nat)))) = ((seqOf z)[i]?).map Val.d := fun z i hz => by
    cases z with
    | lst l => rw [oIx_l, atI_nat_]; rfl
    | tup l => rw [oIx_t, atI_nat_]; rfl
    | _ => cases hz
  have ln : oLen (.d y) = some (.d (.int ((seqOf y).length : Int))) := by
    cases y with
    | lst l => rfl
    | tup l => rfl
    | _ => cases hy
  have src : iR1 (e1 oLen (eV 1)) [some (.d x), some (.d y), t] = .ok (rngD 0 (seqOf y).length) := by
    have h0 : (e1 oLen (eV 1)) [some (.d x), some (.d y), t] = .ok (.d (.int ((seqOf y).length : Int))) := by
      rw [e1_ap, eV_ap]
      show e1K oLen (.ok (.d y)) = _
      rw [e1K_ok, ln, R.of_some]
    rw [iR1_ap h0 (by omega) (by omega)]
    rfl
  have ev := eLc_map (vs := [2]) (src := iR1 (e1 oLen (eV 1))) (gs := gV 2) (te := eClB F (bC (e2 oIx (eV 0) (eV 2)) (bC (e2 oIx (eV 1) (eV 2)) aN))) (ρ := [some (.d x), some (.d y), t])
    (fun d => match d with | .int j => .bl (match (seqOf x)[j.toNat]?, (seqOf y)[j.toNat]? with | some a, some b => a.same b | _, _ => false) | _ => .non) src (by
      intro d hd
      unfold rngD at hd
      rw [List.mem_map] at hd
      obtain ⟨i, hi, rfl⟩ := hd
      rw [List.mem_range] at hi
      obtain ⟨a, ha⟩ : ∃ a, (seqOf x)[i]? = some a := ⟨_, List.getElem?_eq_getElem (by omega)⟩
      obtain ⟨b, hb⟩ : ∃ b, (seqOf y)[i]? = some b := ⟨_, List.getElem?_eq_getElem hi⟩
      refine ⟨[some (.d x), some (.d y), some (.d (.int ((0 : Int) + (i : Nat))))], .d (.bl (a.same b)), rfl, ?_, ?_⟩
      · rw [eClB_ap, bC_ap, bC_ap, e2_ap, e2_ap, eV_ap, eV_ap, eV_ap, aN_ap]
        show clBK F (bCK (e2K oIx (.ok (.d x)) (.ok (.d (.int _)))) (bCK (e2K oIx (.ok (.d y)) (.ok (.d (.int _)))) (.ok []))) = _
        rw [e2K_ok, e2K_ok, ix x i hx, ix y i hy, ha, hb]
        exact clBK_bl (hF i a b ha hb)
      · have e : ((0 : Int) + (i : Nat)).toNat = i := by omega
        show R.ok (D.bl (a.same b)) = .ok (D.bl (match (seqOf x)[((0 : Int) + (i : Nat)).toNat]?, (seqOf y)[((0 : Int) + (i : Nat)).toNat]? with | some a, some b => a.same b | _, _ => false))
        rw [e, ha, hb]) (by rw [rngD_len]; omega)
  rw [e1_ap]
  unfold same_items
  rw [ev, e1K_ok]
  unfold oAll
  show R.of (((allD ((List.map _ (rngD 0 (seqOf y).length)).map Sl.d)).bind blsOf).map fun l => Val.d (.bl (l.all id))) = _
  rw [allD_map]
  have hm : (List.map (fun d => match d with | D.int j => D.bl (match (seqOf x)[j.toNat]?, (seqOf y)[j.toNat]? with | some a, some b => a.same b | _, _ => false) | _ => .non) (rngD 0 (seqOf y).length)) = ((List.range (seqOf y).length).map fun i => match (seqOf x)[i]?, (seqOf y)[i]? with | some a, some b => a.same b | _, _ => false).map D.bl := by
    unfold rngD
    rw [List.map_map, List.map_map]
    refine List.map_congr_left fun i _ => ?_
    have e : ((0 : Int) + (i : Nat)).toNat = i := by omega
    show D.bl (match (seqOf x)[((0 : Int) + (i : Nat)).toNat]?, (seqOf y)[((0 : Int) + (i : Nat)).toNat]? with | some a, some b => a.same b | _, _ => false) = _
    rw [e]
    rfl
  rw [hm]
  show R.of ((blsOf _).map fun l => Val.d (.bl (l.all id))) = _
  rw [blsOf_map]
  show R.ok (Val.d (.bl ((List.map _ (List.range (seqOf y).length)).all id))) = _
  rw [List.all_map]
  have := sameL_at (seqOf x) (seqOf y) hl
  rw [← this]
  rfl
theorem same_lt {x y : D} (hx : D.nice x = true) (hy : D.nice y = true) (h : (D.isL y || D.isT y) = true) : x.same y = (decide (D.isL x = D.isL y) && (decide (D.isT x = D.isT y) && (decide ((seqOf x).length = (seqOf y).length) && sameL (seqOf x) (seqOf y)))) := by
  have key : ∀ l m : List D, sameL l m = (decide (l.length = m.length) && sameL l m) := fun l m => by
    by_cases h : l.length = m.length
    · rw [decide_eq_true h, Bool.true_and]
    · rw [decide_eq_false h, Bool.false_and]
      cases e : sameL l m with
      | false => rfl
      | true => exact absurd (sameL_len l m e) h
  cases y with
  | lst m => cases x <;> first | rfl | exact key _ _
  | tup m => cases x <;> first | rfl | exact key _ _
  | _ => cases h
theorem same_ok : ∀ (k : Nat) (x y : D), D.nice x = true → D.nice y = true → y.dep < k → Fk_l_same k [x, y] = .ok (.d (.bl (x.same y)))
  | 0, _, _, _, _, h => absurd h (Nat.not_lt_zero _)
  | k + 1, x, y, hx, hy, hd => by
    have i1 := isi_two hy
    have i2 := isi_list hx
    have i3 := isi_list hy
    have i4 := isi_tuple hx
    have i5 := isi_tuple hy
    have i6 := isi_bool hx
    have i7 := isi_bool hy
    have i8 := isi_str hx
    have i9 := isi_str hy
    have i10 := isi_int hx
    have i11 := isi_int hy
    show nox (runF N_l_same.length (sm_l_same (Fk_l_same k)) [x, y]) = _
    rw [nox_run]
    unfold sm_l_same
    by_cases hs : (D.isL y || D.isT y) = true
    · rw [same_lt hx hy hs]
      by_cases h1 : D.isL x = D.isL y
      · by_cases h2 : D.isT x = D.isT y
        · have hsx : (D.isL x || D.isT x) = true := by rw [h1, h2]; exact hs
          have len : ∀ z : D, (D.isL z || D.isT z) = true → oLen (.d z) = some (.d (.int ((seqOf z).length : Int))) := fun z hz => by
            cases z with
            | lst l => rfl
            | tup l => rfl
            | _ => cases hz
          have l1 := len x hsx
          have l2 := len y hs
          have lim : (seqOf y).length ≤ 1000000 := by
            cases y with
            | lst l =>
              have hy : (D.niceL l && decide (l.length ≤ 1000000)) = true := hy
              simp only [Bool.and_eq_true, decide_eq_true_eq] at hy
              exact hy.2
            | tup l =>
              have hy : (D.niceL l && decide (l.length ≤ 1000000)) = true := hy
              simp only [Bool.and_eq_true, decide_eq_true_eq] at hy
              exact hy.2
            | _ => cases hs
          rw [decide_eq_true h1, decide_eq_true h2, Bool.true_and, Bool.true_and]
          by_cases h3 : (seqOf x).length = (seqOf y).length
          · have recF : ∀ (i : Nat) (a b : D), (seqOf x)[i]? = some a → (seqOf y)[i]? = some b → Fk_l_same k [a, b] = .ok (.d (.bl (a.same b))) := fun i a b ha hb => by
              refine same_ok k a b ?_ ?_ ?_
              · cases x with
                | lst l =>
                  have hx : (D.niceL l && decide (l.length ≤ 1000000)) = true := hx
                  simp only [Bool.and_eq_true] at hx
                  exact niceL_get hx.1 ha
                | tup l =>
                  have hx : (D.niceL l && decide (l.length ≤ 1000000)) = true := hx
                  simp only [Bool.and_eq_true] at hx
                  exact niceL_get hx.1 ha
                | _ => cases hsx
              · cases y with
                | lst l =>
                  have hy : (D.niceL l && decide (l.length ≤ 1000000)) = true := hy
                  simp only [Bool.and_eq_true] at hy
                  exact niceL_get hy.1 hb
                | tup l =>
                  have hy : (D.niceL l && decide (l.length ≤ 1000000)) = true := hy
                  simp only [Bool.and_eq_true] at hy
                  exact niceL_get hy.1 hb
                | _ => cases hs
              · cases y with
                | lst l =>
                  have hd : depL l + 1 < k + 1 := hd
                  have := depL_get (l := l) hb
                  omega
                | tup l =>
                  have hd : depL l + 1 < k + 1 := hd
                  have := depL_get (l := l) hb
                  omega
                | _ => cases hs
            have it := same_items_ok hsx hs h3 lim none recF
            unfold same_items at it
            have h3' : ((seqOf x).length : Int) = (seqOf y).length := by omega
            rw [decide_eq_true h3, Bool.true_and]
            have i1' : oIsi2 "list" "tuple" (.d y) = some (.d (.bl true)) := by rw [i1, hs]
            clear i1 hs hsx
            rw [e1_ap] at it
            walk_at "ev"
          · have h3' : ¬ ((seqOf x).length : Int) = (seqOf y).length := by omega
            rw [decide_eq_false h3, Bool.false_and]
            have i1' : oIsi2 "list" "tuple" (.d y) = some (.d (.bl true)) := by rw [i1, hs]
            clear i1 hs hsx
            walk_at "ev"
        · have i1' : oIsi2 "list" "tuple" (.d y) = some (.d (.bl true)) := by rw [i1, hs]
          clear i1 hs
          rw [decide_eq_false h2, Bool.false_and, Bool.and_false]
          walk_at "ev"
      · have i1' : oIsi2 "list" "tuple" (.d y) = some (.d (.bl true)) := by rw [i1, hs]
        clear i1 hs
        rw [decide_eq_false h1, Bool.false_and]
        walk_at "ev"
    · have hs' : (D.isL y || D.isT y) = false := by simpa using hs
      have i1' : oIsi2 "list" "tuple" (.d y) = some (.d (.bl false)) := by rw [i1, hs']
      clear i1 hs
      cases y with
      | lst l => cases hs'
      | tup l => cases hs'
      | dct l => cases hy
      | fn l => cases hy
      | scr l => cases hy
      | non => cases x <;> first | (cases hx; done) | (walk_at "ev"; rfl)
      | bl b => cases x <;> first | (cases hx; done) | (walk_at "ev"; rfl)
      | int b => cases x <;> first | (cases hx; done) | (walk_at "ev"; rfl)
      | str b => cases x <;> first | (cases hx; done) | (walk_at "ev"; rfl)

/-! choice in comprehensions -/
theorem eLc_ex {vs : List Nat} {src : Vl.Env → R (List D)} {gs : GS} {te : Vl.Env → R Val} {ρ : Vl.Env} {ds : List D} (Q : D → D → Prop) (h0 : src ρ = .ok ds) (h : ∀ d ∈ ds, ∃ ρ2 y x, gs d (wipeE ρ vs) = some ρ2 ∧ te ρ2 = .ok y ∧ y.fz = .ok x ∧ Q d x) (hl : ds.length ≤ 16777216) :
    ∃ k : D → D, (∀ d ∈ ds, Q d (k d)) ∧ eLc vs src gs tYs te ρ = .ok (.o (.ol ((ds.map k).map Sl.d))) := by
  classical
  have h' : ∀ d, ∃ x, d ∈ ds → ∃ ρ2 y, gs d (wipeE ρ vs) = some ρ2 ∧ te ρ2 = .ok y ∧ y.fz = .ok x ∧ Q d x := fun d => by
    by_cases m : d ∈ ds
    · obtain ⟨ρ2, y, x, q⟩ := h d m
      exact ⟨x, fun _ => ⟨ρ2, y, q⟩⟩
    · exact ⟨.non, fun m' => absurd m' m⟩
  refine ⟨fun d => (h' d).choose, fun d m => ?_, eLc_map _ h0 (fun d m => ?_) hl⟩
  · obtain ⟨ρ2, y, q1, q2, q3, q4⟩ := (h' d).choose_spec m
    exact q4
  · obtain ⟨ρ2, y, q1, q2, q3, q4⟩ := (h' d).choose_spec m
    exact ⟨ρ2, y, q1, q2, q3⟩
theorem rngD_mem {lo : Int} {n : Nat} {d : D} (m : d ∈ rngD lo n) : ∃ i : Nat, d = .int (lo + i) ∧ i < n := by
  unfold rngD at m
  obtain ⟨i, h, rfl⟩ := List.mem_map.mp m
  exact ⟨i, rfl, List.mem_range.mp h⟩
theorem atI_nat {l : List D} {d : D} (k : Nat) (h : l[k]? = some d) : atI l (k : Int) = some d := by
  have hk : k < l.length := by
    rcases Nat.lt_or_ge k l.length with q | q
    · exact q
    · rw [List.getElem?_eq_none q] at h; cases h
  unfold atI ixN
  rw [if_pos (by omega), if_pos (by omega)]
  simpa using h
theorem rngD_split {lo : Int} {n : Nat} {pre post : List D} {d : D} (e : rngD lo n = pre ++ d :: post) : d = .int (lo + pre.length) ∧ pre.length < n := by
  have h1 := congrArg (fun l => l[pre.length]?) e
  have h2 := congrArg List.length e
  rw [rngD_len, List.length_append, List.length_cons] at h2
  have h3 : pre.length < n := by omega
  refine ⟨?_, h3⟩
  simp only [rngD, List.getElem?_map, List.getElem?_range h3, List.getElem?_append_right (Nat.le_refl _), Nat.sub_self, List.getElem?_cons_zero, Option.map_some] at h1
  exact (Option.some.inj h1).symm

/-! walks -/
abbrev Run := Str × Int
def rD (r : Run) : D := .tup [.str r.1, .int r.2]
def wD (w : List Run) : List D := w.map rD
def tstep (f : List Run) (r : Run) : List Run := match f.getLast? with
  | some u => if u.1 = r.1 then f.dropLast ++ [(r.1, u.2 + r.2)] else f ++ [r]
  | none => f ++ [r]
def tidyW (w : List Run) : List Run := w.foldl tstep []
def WayOk (z : Str) : Prop := z = "e" ∨ z = "n" ∨ z = "w" ∨ z = "s"
def RunOk (r : Run) : Prop := WayOk r.1 ∧ 1 ≤ r.2 ∧ r.2 ≤ 10 ^ 30
def WayW (w : List Run) : Prop := ∀ r ∈ w, WayOk r.1
theorem way_pl {z : Str} (h : WayOk z) : D.pl (.str z) = true := by
  rcases h with rfl | rfl | rfl | rfl <;> decide +kernel
theorem wD_pl : ∀ w : List Run, WayW w → plL (wD w) = true
  | [], _ => rfl
  | r :: w, h => by
    show (D.pl (rD r) && plL (wD w)) = true
    rw [wD_pl w (fun r m => h r (List.mem_cons_of_mem _ m))]
    have := way_pl (h r (List.mem_cons_self))
    simp only [rD, D.pl, plL, Bool.and_true] at this ⊢
    exact this
theorem tstep_way {f : List Run} {r : Run} (hf : WayW f) (hr : WayOk r.1) : WayW (tstep f r) := fun x m => by
  unfold tstep at m
  split at m
  · split at m
    · rcases List.mem_append.mp m with m | m
      · exact hf x (List.dropLast_subset _ m)
      · have : x.1 = r.1 := by
          have := List.mem_singleton.mp m
          rw [this]
        rw [this]
        exact hr
    · rcases List.mem_append.mp m with m | m
      · exact hf x m
      · have : x = r := by simpa using m
        rw [this]
        exact hr
  · rcases List.mem_append.mp m with m | m
    · exact hf x m
    · have : x = r := by simpa using m
      rw [this]
      exact hr
theorem foldl_way : ∀ (w f : List Run), WayW f → WayW w → WayW (w.foldl tstep f)
  | [], f, hf, _ => hf
  | r :: w, f, hf, hw => foldl_way w (tstep f r) (tstep_way hf (hw r List.mem_cons_self)) fun x m => hw x (List.mem_cons_of_mem _ m)
theorem wD_dep : ∀ w : List Run, depL (wD w) ≤ 2
  | [] => by show 0 ≤ 2; decide
  | r :: w => by
    have : depL (wD (r :: w)) = max (D.dep (rD r)) (depL (wD w)) := rfl
    rw [this]
    have h2 : D.dep (rD r) ≤ 2 := by simp [rD, D.dep, depL]
    have := wD_dep w
    omega
theorem wD_nice : ∀ w : List Run, D.niceL (wD w) = true
  | [] => rfl
  | r :: w => by
    show (D.nice (rD r) && D.niceL (wD w)) = true
    rw [wD_nice w]
    simp [rD, D.nice, D.niceL]
theorem wD_same : ∀ w : List Run, sameL (wD w) (wD w) = true
  | [] => rfl
  | r :: w => by
    show ((rD r).same (rD r) && sameL (wD w) (wD w)) = true
    rw [wD_same w]
    simp [rD, D.same, sameL]
theorem same_w (w : List Run) (h : w.length ≤ 1000000) : clBK F_l_same (.ok [.lst (wD w), .lst (wD w)]) = .ok (.d (.bl true)) := by
  have hn : D.nice (.lst (wD w)) = true := by
    show (D.niceL (wD w) && decide ((wD w).length ≤ 1000000)) = true
    rw [wD_nice, wD, List.length_map, decide_eq_true h]
    rfl
  refine clBK_bl ?_
  rw [show F_l_same = Fk_l_same 8 from rfl, same_ok 8 _ _ hn hn (show depL (wD w) + 1 < 8 by have := wD_dep w; omega)]
  show R.ok (Sl.d (.bl (sameL (wD w) (wD w)))) = _
  rw [wD_same]
theorem oNe_nil {l : List D} (h : plL l = true) (h2 : depL l ≤ 60) : oNe (.b (.ol (l.map Sl.d))) (.o (.ol [])) = some (.d (.bl (!l.isEmpty))) := by
  have e : ((Val.b (.ol (l.map Sl.d))).dat) = some (.lst l) := frz_ol l
  have e' : ((Val.o (.ol [])).dat) = some (.lst []) := frz_ol []
  unfold oNe
  rw [e, e']
  show (eqD (.lst l) (.lst [])).map _ = _
  have : eqD (.lst l) (.lst []) = some (sameL l []) := by
    show (if ((plL l && plL []) && decide (depL l + 1 ≤ 64) && decide (depL [] + 1 ≤ 64)) = true then some (sameL l []) else none) = _
    rw [h, decide_eq_true (by omega), decide_eq_true (by show depL [] + 1 ≤ 64; decide)]
    rfl
  rw [this]
  cases l with
  | nil => rfl
  | cons a b => rfl
theorem atI_last {l : List D} {d : D} : atI (l ++ [d]) (-1) = some d := by
  unfold atI ixN
  rw [if_neg (by decide), if_pos (by rw [List.length_append]; simp only [List.length_cons, List.length_nil]; omega)]
  have : ((-1 : Int) + ((l ++ [d]).length : Int)).toNat = l.length := by rw [List.length_append]; simp only [List.length_cons, List.length_nil]; omega
  simp only [Option.bind_some, this]
  simp
theorem sSetI_d {i : Nat} {fi f : Vl.Env → R Val} {ρ : Vl.Env} {l : List Sl} {d : D} {j : Int} {m : Nat} (h1 : ρ[i]? = some (some (.ol l))) (h2 : f ρ = .ok (.d d)) (h3 : fi ρ = .ok (.d (.int j))) (h4 : ixN l.length j = some m) : sSetI i fi f ρ = some (.nx (ρ.set i (some (.ol (l.set m (.d d)))))) := by
  unfold sSetI
  rw [h1]
  show sE f _ ρ = _
  unfold sE
  rw [h2]
  show sE fi (kSetI i l d) ρ = _
  unfold sE
  rw [h3]
  show (match ixN l.length j with | some m => _ | none => _) = _
  rw [h4]
def td_body : SS := sIf (tAn (tV (e2 oNe (eV 1) (eLst (aN)))) (tV (e2 oEq (e2 oIx (e2 oIx (eV 1) (e1 oNeg (eC (.int 1)))) (eC (.int 0))) (eV 2)))) (sSetI 1 (e1 oNeg (eC (.int 1))) (eTup (aC (eV 2) (aC (e2 iAdd (e2 oIx (e2 oIx (eV 1) (e1 oNeg (eC (.int 1)))) (eC (.int 1))) (eV 3)) (aN))))) (sApp 1 (eTup (aC (eV 2) (aC (eV 3) (aN)))))
def tdE (w : D) (f : List Run) (a b : Option Sl) : Vl.Env := [some (.d w), some (.ol ((wD f).map Sl.d)), a, b]
theorem td_turn (w : D) (f : List Run) (r : Run) (hl : f.length ≤ 100000) (hf : WayW f) : td_body (tdE w f (some (.d (.str r.1))) (some (.d (.int r.2)))) = some (.nx (tdE w (tstep f r) (some (.d (.str r.1))) (some (.d (.int r.2))))) := by
  obtain ⟨y, n⟩ := r
  have hne0 := oNe_nil (wD_pl f hf) (by have := wD_dep f; omega)
  have hl2 : (wD f).length < 16777216 := by unfold wD; rw [List.length_map]; omega
  have app : ∀ ρ : Vl.Env, appK 1 ρ (some (some (.ol ((wD f).map Sl.d)))) (.ok (.d (.tup [.str y, .int n]))) = some (.nx (ρ.set 1 (some (.ol ((wD (f ++ [(y, n)])).map Sl.d))))) := fun ρ => by
    rw [appK_d hl2]
    have : wD (f ++ [(y, n)]) = wD f ++ [D.tup [.str y, .int n]] := by unfold wD; rw [List.map_append]; rfl
    rw [this]
  rcases List.eq_nil_or_concat f with rfl | ⟨g, u, rfl⟩
  · have hne : oNe (.b (.ol [])) (.o (.ol [])) = some (.d (.bl false)) := hne0
    have app0 : ∀ ρ : Vl.Env, appK 1 ρ (some (some (.ol []))) (.ok (.d (.tup [.str y, .int n]))) = some (.nx (ρ.set 1 (some (.ol ((wD [(y, n)]).map Sl.d))))) := app
    clear hne0 app
    unfold td_body tdE tstep
    rw [show ([] : List Run).getLast? = none from rfl]
    rw [show wD ([] : List Run) = [] from rfl] at *
    walk_at "ev"
  · obtain ⟨z, k⟩ := u
    have hsplit : wD (g.concat (z, k)) = wD g ++ [D.tup [.str z, .int k]] := by unfold wD; rw [List.concat_eq_append, List.map_append]; rfl
    have hne : oNe (.b (.ol ((wD (g.concat (z, k))).map Sl.d))) (.o (.ol [])) = some (.d (.bl true)) := by
      rw [hne0, hsplit]
      cases wD g <;> rfl
    clear hne0
    have hat : oIx (.b (.ol ((wD (g.concat (z, k))).map Sl.d))) (.d (.int (-1))) = some (.d (.tup [.str z, .int k])) := by
      rw [oIx_bd, hsplit, atI_last]
      rfl
    have a0 : atI [D.str z, .int k] 0 = some (.str z) := rfl
    have a1 : atI [D.str z, .int k] 1 = some (.int k) := rfl
    have hstep : tstep (g.concat (z, k)) (y, n) = if z = y then g ++ [(y, k + n)] else g.concat (z, k) ++ [(y, n)] := by
      unfold tstep
      rw [List.concat_eq_append, List.getLast?_append]
      simp
    rw [hstep]
    have hcond : ∀ (b c : SS), sIf (tAn (tV (e2 oNe (eV 1) (eLst (aN)))) (tV (e2 oEq (e2 oIx (e2 oIx (eV 1) (e1 oNeg (eC (.int 1)))) (eC (.int 0))) (eV 2)))) b c (tdE w (g.concat (z, k)) (some (.d (.str y))) (some (.d (.int n)))) = if z = y then b (tdE w (g.concat (z, k)) (some (.d (.str y))) (some (.d (.int n)))) else c (tdE w (g.concat (z, k)) (some (.d (.str y))) (some (.d (.int n)))) := fun b c => by
      unfold tdE
      generalize hF : wD (g.concat (z, k)) = F at *
      clear app hstep hsplit
      by_cases hz : z = y
      · subst hz
        rw [if_pos rfl]
        walk_at "ev"
      · rw [if_neg hz]
        walk_at "ev"
    unfold td_body
    rw [hcond]
    by_cases hz : z = y
    · subst hz
      rw [if_pos rfl, if_pos rfl]
      rw [sSetI_d (l := (wD (g.concat (z, k))).map Sl.d) (d := .tup [.str z, .int (k + n)]) (j := -1) (m := g.length) rfl (by
        unfold tdE
        generalize hF : wD (g.concat (z, k)) = F at *
        clear app hstep hcond hsplit
        walk_at "ev") (by walk_at "ev") (by
        rw [hsplit]
        unfold ixN
        simp only [List.length_map, List.length_append, List.length_cons, List.length_nil, wD]
        rw [if_neg (by decide), if_pos (by omega)]
        congr 1
        omega)]
      unfold tdE
      have e : ((wD (g.concat (z, k))).map Sl.d).set g.length (.d (.tup [.str z, .int (k + n)])) = (wD (g ++ [(z, k + n)])).map Sl.d := by
        rw [hsplit]
        unfold wD
        rw [List.map_append, List.map_append, List.map_append, List.set_append]
        simp [rD]
      rw [e]
      rfl
    · rw [if_neg hz, if_neg hz]
      unfold tdE
      generalize hF : wD (g.concat (z, k)) = F at *
      clear hsplit hcond hstep
      walk_at "ev"
theorem tstep_len (f : List Run) (r : Run) : (tstep f r).length ≤ f.length + 1 := by
  unfold tstep
  split
  · split
    · rw [List.length_append, List.length_dropLast]; simp only [List.length_cons, List.length_nil]; omega
    · simp
  · simp
theorem foldl_tstep_len (w f : List Run) : (w.foldl tstep f).length ≤ f.length + w.length := by
  induction w generalizing f with
  | nil => simp
  | cons r w ih =>
    have h1 := ih (tstep f r)
    have h2 := tstep_len f r
    rw [List.foldl_cons, List.length_cons]
    omega
theorem tidyW_len (w : List Run) : (tidyW w).length ≤ w.length := by
  have := foldl_tstep_len w []
  simpa [tidyW] using this
def td_gs : GS := gT (gC (gV 2) (gC (gV 3) gN))
theorem td_loop (x : D) (w : List Run) (hw : w.length ≤ 10000) (hy : WayW w) : ∃ a b, forL td_gs td_body (wD w) (tdE x [] none none) = some (.nx (tdE x (tidyW w) a b)) := by
  obtain ⟨ρ', e4, a, b, rfl⟩ := forL_inv (gs := td_gs) (s := td_body) (ds := wD w) (ρ := tdE x [] none none)
    (fun pre ρ => ∃ a b, ρ = tdE x ((w.take pre.length).foldl tstep []) a b) ⟨none, none, by simp⟩ (by
      rintro pre d post ρ e ⟨a, b, rfl⟩
      have hi : (wD w)[pre.length]? = some d := by rw [e]; simp
      unfold wD at hi
      rw [List.getElem?_map, Option.map_eq_some_iff] at hi
      obtain ⟨r, hr, rfl⟩ := hi
      have hlt : pre.length < w.length := by
        rcases Nat.lt_or_ge pre.length w.length with q | q
        · exact q
        · rw [List.getElem?_eq_none q] at hr; cases hr
      have ht : w.take (pre.length + 1) = w.take pre.length ++ [r] := by
        rw [List.take_add_one, hr]
        rfl
      have hlen := foldl_tstep_len (w.take pre.length) []
      have hlen2 : (w.take pre.length).length ≤ w.length := by rw [List.length_take]; omega
      refine ⟨tdE x ((w.take pre.length).foldl tstep []) (some (.d (.str r.1))) (some (.d (.int r.2))), _, rfl, Or.inl (td_turn x _ r (by simp at hlen; omega) (foldl_way _ _ (fun _ m => nomatch m) fun r m => hy r (List.mem_of_mem_take m))), some (.d (.str r.1)), some (.d (.int r.2)), ?_⟩
      rw [List.length_append, show [rD r].length = 1 from rfl, ht, List.foldl_append]
      rfl)
  refine ⟨a, b, ?_⟩
  rw [e4, show (wD w).length = w.length by unfold wD; rw [List.length_map], List.take_length]
  rfl

theorem way_in {z : Str} (h : WayOk z) : inD (.str z) (.tup c_WAYS) = some true := by
  rcases h with rfl | rfl | rfl | rfl <;> rfl
theorem is_run_ok {r : Run} (h : RunOk r) : clK F_is_run (.ok [.str r.1, .int r.2]) = .ok (.d (.bl true)) := by
  obtain ⟨h1, h2, h3⟩ := h
  obtain ⟨y, n⟩ := r
  have i1 : oIn (.d (.str y)) (.d (.tup c_WAYS)) = some (.d (.bl true)) := by
    have e : oIn (.d (.str y)) (.d (.tup c_WAYS)) = (inD (.str y) (.tup c_WAYS)).map fun k => .d (.bl k) := rfl
    rw [e, way_in h1]
    rfl
  have h3 : n ≤ 1000000000000000000000000000000 := h3
  have h2 : 1 ≤ n := h2
  have : F_is_run [.str y, .int n] = .ok (.d (.bl true)) := by
    unfold F_is_run sm_is_run
    rw [show c_MOST_STEPS = D.int 1000000000000000000000000000000 from rfl]
    clear h1
    walk_at "ev"
  rw [clK_ok this]
  rfl
theorem enumD_split : ∀ {l : List D} {n : Nat} {pre post : List D} {d : D}, enumD n l = pre ++ d :: post → ∃ x, x ∈ l ∧ d = .tup [.int ((n + pre.length : Nat) : Int), x] := fun {l n pre post d} e => by
  have h := congrArg (fun m => m[pre.length]?) e
  simp only [List.getElem?_append_right (Nat.le_refl _), Nat.sub_self, List.getElem?_cons_zero, enumD_get] at h
  rw [Option.map_eq_some_iff] at h
  obtain ⟨x, h1, h2⟩ := h
  exact ⟨x, List.mem_of_getElem? h1, h2.symm⟩
theorem look_ok (w : List Run) (hw : w.length ≤ 200) (hg : ∀ r ∈ w, RunOk r) : F_look_walk [.lst (wD w)] = .ok (.d .non) := by
  have src : iEn (aC (eV 0) aN) [some (.d (.lst (wD w))), none, none, none] = .ok (enumD 0 (wD w)) := rfl
  obtain ⟨ρ', e4, -⟩ := forL_inv (gs := gT (gC (gV 1) (gC (gT (gC (gV 2) (gC (gV 3) (gN)))) (gN)))) (s := sIf (tNo (tU (eCl F_is_run (aC (eV 2) (aC (eV 3) (aN)))))) (sNever) (sNil)) (ds := enumD 0 (wD w)) (ρ := [some (.d (.lst (wD w))), none, none, none])
    (fun pre ρ => ∃ a b c, ρ = [some (.d (.lst (wD w))), a, b, c]) ⟨none, none, none, rfl⟩ (by
      rintro pre d post ρ e ⟨a, b, c, rfl⟩
      obtain ⟨x, hx, rfl⟩ := enumD_split e
      obtain ⟨r, hr, rfl⟩ := List.mem_map.mp hx
      have hi := is_run_ok (hg r hr)
      refine ⟨[some (.d (.lst (wD w))), some (.d (.int ((0 + pre.length : Nat) : Int))), some (.d (.str r.1)), some (.d (.int r.2))], [some (.d (.lst (wD w))), some (.d (.int ((0 + pre.length : Nat) : Int))), some (.d (.str r.1)), some (.d (.int r.2))], rfl, Or.inl (by walk_at "ev"), _, _, _, rfl⟩)
  have e5 := sFor_ap (gs := gT (gC (gV 1) (gC (gT (gC (gV 2) (gC (gV 3) (gN)))) (gN)))) (s := sIf (tNo (tU (eCl F_is_run (aC (eV 2) (aC (eV 3) (aN)))))) (sNever) (sNil)) src
  rw [e4] at e5
  have hl : (wD w).length ≤ 200 := by unfold wD; rw [List.length_map]; exact hw
  have hc : sIf (tV (e2 iGt (e1 oLen (eV 0)) (eC c_MOST_RUNS))) (sNever) (sNil) [some (.d (.lst (wD w))), none, none, none] = some (.nx [some (.d (.lst (wD w))), none, none, none]) := by
    have : ¬ (200 : Int) < ((wD w).length : Int) := by omega
    clear hl e5 e4 src hg hw
    walk_at "ev"
  unfold F_look_walk sm_look_walk
  rw [nox_run, sSeq_ap, show env0 N_look_walk.length [.lst (wD w)] = [some (.d (.lst (wD w))), none, none, none] from rfl, hc, seqK_nx, e5]
  rfl

theorem enws_ix (i : Int) (h0 : 0 ≤ i) (h1 : i < 4) : ∃ z, oIx (.d (.str "enws")) (.d (.int i)) = some (.d (.str z)) ∧ WayOk z := by
  have : i = 0 ∨ i = 1 ∨ i = 2 ∨ i = 3 := by omega
  rcases this with rfl | rfl | rfl | rfl
  · exact ⟨"e", rfl, .inl rfl⟩
  · exact ⟨"n", rfl, .inr (.inl rfl)⟩
  · exact ⟨"w", rfl, .inr (.inr (.inl rfl))⟩
  · exact ⟨"s", rfl, .inr (.inr (.inr rfl))⟩
theorem app_w {i : Nat} {ρ : Vl.Env} {w : List Run} {y : Str} {n : Int} (h : w.length ≤ 100000) : appK i ρ (some (some (.ol ((wD w).map Sl.d)))) (.ok (.d (.tup [.str y, .int n]))) = some (.nx (ρ.set i (some (.ol ((wD (w ++ [(y, n)])).map Sl.d))))) := by
  have hl2 : (wD w).length < 16777216 := by unfold wD; rw [List.length_map]; omega
  rw [appK_d hl2]
  have : wD (w ++ [(y, n)]) = wD w ++ [D.tup [.str y, .int n]] := by unfold wD; rw [List.map_append]; rfl
  rw [this]
theorem at_int {L : List Int} (hd : DIn L) (k : Nat) (h : k < L.length) : ∃ v : Int, atI (L.map D.int) (k : Int) = some (.int v) ∧ 0 ≤ v ∧ v < 1009 :=
  ⟨L[k], atI_nat _ (by rw [List.getElem?_map, List.getElem?_eq_getElem h]; rfl), hd _ (List.getElem_mem h)⟩

theorem ten_eq (n : Nat) (hn : n ≤ 100) : clK F_l_ten (.ok [.int (n : Int)]) = .ok (.d (.int ((10 : Int) ^ n))) := by
  have src : iR1 (eV 0) [some (.d (.int n)), some (.d (.int 1)), none] = .ok (rngD 0 n) := by
    have : iR1 (eV 0) [some (.d (.int n)), some (.d (.int 1)), none] = .ok (rngD 0 ((n : Int)).toNat) := iR1_ap (by walk_at "ev") (by omega) (by omega)
    rw [this, Int.toNat_natCast]
  obtain ⟨ρ', e4, t, rfl⟩ := forL_inv (gs := gV 2) (s := sSet 1 (e2 iMul (eV 1) (eC (.int 10)))) (ds := rngD 0 n) (ρ := [some (.d (.int n)), some (.d (.int 1)), none])
    (fun pre ρ => ∃ (t : Option Sl), ρ = [some (.d (.int n)), some (.d (.int ((10 : Int) ^ pre.length))), t]) ⟨none, rfl⟩ (by
      rintro pre d post ρ e ⟨t, rfl⟩
      have c : cMul ((10 : Int) ^ pre.length) 10 = true := cMul_r (by decide)
      refine ⟨[some (.d (.int n)), some (.d (.int ((10 : Int) ^ pre.length))), some (.d d)], [some (.d (.int n)), some (.d (.int ((10 : Int) ^ pre.length * 10))), some (.d d)], rfl, Or.inl (by walk_at "ev"), some (.d d), ?_⟩
      rw [List.length_append]
      rfl)
  rw [rngD_len] at e4
  have e5 := sFor_ap (gs := gV 2) (s := sSet 1 (e2 iMul (eV 1) (eC (.int 10)))) src
  rw [e4] at e5
  have : F_l_ten [.int (n : Int)] = .ok (.d (.int ((10 : Int) ^ n))) := by
    unfold F_l_ten sm_l_ten
    rw [nox_run, sSeq_ap]
    rw [show sSet 1 (eC (.int 1)) (env0 N_l_ten.length [.int n]) = some (.nx [some (.d (.int n)), some (.d (.int 1)), none]) from rfl, seqK_nx, sSeq_ap, e5, seqK_nx]
    rfl
  rw [clK_ok this]
  rfl
def sw_body : SS := sSeq (sSet 4 (e2 oIx (eV 0) (e2 iAdd (eC (.int 3)) (e2 iMul (eC (.int 3)) (eV 3))))) (sSeq (sSet 5 (e2 oIx (eV 0) (e2 iAdd (eC (.int 4)) (e2 iMul (eC (.int 3)) (eV 3))))) (sSeq (sSet 6 (e2 iAdd (eC (.int 1)) (e2 iMod (eV 4) (e2 oIx (eLst (aC (eC (.int 1)) (aC (eC (.int 3)) (aC (eC (.int 9)) (aC (eC (.int 40)) (aN)))))) (e2 iMod (e2 oIx (eV 0) (eC (.int 1))) (eC (.int 4))))))) (sSeq (sIf (tV (e2 oEq (e2 iMod (e2 iDiv (e2 oIx (eV 0) (eC (.int 1))) (eC (.int 4))) (eC (.int 4))) (eC (.int 3)))) (sSet 6 (e2 iAdd (e2 iMul (e2 iAdd (eC (.int 1)) (e2 iMod (eV 4) (eC (.int 9)))) (eCl F_l_ten (aC (e2 iMod (eV 5) (eC (.int 30))) (aN)))) (e2 iDiv (eV 4) (eC (.int 9))))) (sNil)) (sSeq (sIf (tV (e2 oEq (e2 iMod (eV 5) (eC (.int 50))) (eC (.int 49)))) (sSet 6 (e2 iPow (eC (.int 10)) (eC (.int 30)))) (sNil)) (sApp 2 (eTup (aC (e2 oIx (eC (.str "enws")) (e2 iMod (e2 oIx (eV 0) (e2 iAdd (eC (.int 2)) (e2 iMul (eC (.int 3)) (eV 3)))) (eC (.int 4)))) (aC (eV 6) (aN)))))))))
def swE (L : List Int) (most : Int) (w : List Run) (k a b c : Option Sl) : Vl.Env := [some (.d (.lst (L.map D.int))), some (.d (.int most)), some (.ol ((wD w).map Sl.d)), k, a, b, c]
theorem sw_turn (L : List Int) (most : Int) (w : List Run) (k : Nat) (a b c : Option Sl) (hd : DIn L) (hk : 4 + 3 * k < L.length) (hw : w.length ≤ 1000) (hg : ∀ r ∈ w, RunOk r) :
    ∃ r a2 b2 c2, sw_body (swE L most w (some (.d (.int (k : Int)))) a b c) = some (.nx (swE L most (w ++ [r]) (some (.d (.int (k : Int)))) a2 b2 c2)) ∧ RunOk r := by
  obtain ⟨lot, i1, l0, l1⟩ := at_int hd (3 + 3 * k) (by omega)
  obtain ⟨size, i2, s0, s1⟩ := at_int hd (4 + 3 * k) hk
  obtain ⟨way, i3, w0, w1⟩ := at_int hd (2 + 3 * k) (by omega)
  obtain ⟨d1, i4, p0, p1⟩ := at_int hd 1 (by omega)
  rw [show ((3 + 3 * k : Nat) : Int) = 3 + 3 * (k : Int) by omega] at i1
  rw [show ((4 + 3 * k : Nat) : Int) = 4 + 3 * (k : Int) by omega] at i2
  rw [show ((2 + 3 * k : Nat) : Int) = 2 + 3 * (k : Int) by omega] at i3
  have i4 : atI (L.map D.int) 1 = some (.int d1) := i4
  have c1 : cMul 3 (k : Int) = true := cMul_l (by decide)
  have c2 : cMod d1 4 = true := cMod_p (by decide)
  have c3 : cDiv d1 4 = true := cDiv_p (by decide) (by decide)
  have c4 : cMod (d1 / 4) 4 = true := cMod_p (by decide)
  have c5 : cMod lot 9 = true := cMod_p (by decide)
  have c6 : cMod size 30 = true := cMod_p (by decide)
  have c7 : cDiv lot 9 = true := cDiv_p (by decide) (by decide)
  have c8 : cMod size 50 = true := cMod_p (by decide)
  have c9 : cMod way 4 = true := cMod_p (by decide)
  have c10 : cPow 10 30 = true := by decide
  obtain ⟨lim, e1', lim0, lim1⟩ : ∃ lim : Int, oIx (.o (.ol [Sl.d (D.int 1), .d (.int 3), .d (.int 9), .d (.int 40)])) (.d (.int (d1 % 4))) = some (.d (.int lim)) ∧ 0 < lim ∧ lim ≤ 40 := by
    have : d1 % 4 = 0 ∨ d1 % 4 = 1 ∨ d1 % 4 = 2 ∨ d1 % 4 = 3 := by omega
    rcases this with h | h | h | h <;> rw [h]
    · exact ⟨1, rfl, by decide, by decide⟩
    · exact ⟨3, rfl, by decide, by decide⟩
    · exact ⟨9, rfl, by decide, by decide⟩
    · exact ⟨40, rfl, by decide, by decide⟩
  have c11 : cMod lot lim = true := cMod_p lim0
  have m0 := Int.emod_nonneg lot (Int.ne_of_gt lim0)
  have m1 := Int.emod_lt_of_pos lot lim0
  obtain ⟨z, e2', hz⟩ := enws_ix (way % 4) (by omega) (by omega)
  have t0 := ten_eq (size % 30).toNat (by omega)
  have tn : (((size % 30).toNat : Nat) : Int) = size % 30 := by omega
  rw [tn] at t0
  have tv : (10 : Int) ^ (size % 30).toNat = ((10 ^ (size % 30).toNat : Nat) : Int) := by rw [Int.natCast_pow]; rfl
  have tb : 10 ^ (size % 30).toNat ≤ 10 ^ 29 := Nat.pow_le_pow_right (by decide) (by omega)
  have tp : 0 < 10 ^ (size % 30).toNat := Nat.pow_pos (by decide)
  rw [tv] at t0
  generalize hT : 10 ^ (size % 30).toNat = T at *
  clear hT tv tn
  have big : (10 : Nat) ^ 29 = 100000000000000000000000000000 := by decide
  rw [big] at tb
  have c12 : cMul (1 + lot % 9) (T : Int) = true := cMul_l (by omega)
  have ap := fun (ρ : Vl.Env) (y : Str) (n : Int) => app_w (i := 2) (ρ := ρ) (y := y) (n := n) (w := w) (by omega)
  have pb : 0 ≤ (1 + lot % 9) * (T : Int) ∧ (T : Int) ≤ (1 + lot % 9) * (T : Int) ∧ (1 + lot % 9) * (T : Int) ≤ 9 * (T : Int) := by
    have h1 : 1 ≤ 1 + lot % 9 := by omega
    have h2 : 1 + lot % 9 ≤ 9 := by omega
    have h3 : (0 : Int) ≤ T := by omega
    have h4 := Int.mul_le_mul_of_nonneg_right h1 h3
    have h5 := Int.mul_le_mul_of_nonneg_right h2 h3
    omega
  generalize hP : (1 + lot % 9) * (T : Int) = Pr at *
  have g30 : (10 : Int) ^ (30 : Int).toNat = 1000000000000000000000000000000 := by decide
  have fin : ∀ m : Int, 1 ≤ m → m ≤ 1000000000000000000000000000000 → RunOk (z, m) := fun m h1 h2 => ⟨hz, h1, h2⟩
  by_cases h1 : d1 / 4 % 4 = 3
  · by_cases h2 : size % 50 = 49
    · refine ⟨(z, 1000000000000000000000000000000), some (.d (.int lot)), some (.d (.int size)), some (.d (.int 1000000000000000000000000000000)), ?_, fin _ (by decide) (by decide)⟩
      unfold sw_body swE
      clear fin hg hd
      walk_at "ev"
    · refine ⟨(z, Pr + lot / 9), some (.d (.int lot)), some (.d (.int size)), some (.d (.int (Pr + lot / 9))), ?_, fin _ (by omega) (by omega)⟩
      unfold sw_body swE
      clear fin hg hd
      walk_at "ev"
  · by_cases h2 : size % 50 = 49
    · refine ⟨(z, 1000000000000000000000000000000), some (.d (.int lot)), some (.d (.int size)), some (.d (.int 1000000000000000000000000000000)), ?_, fin _ (by decide) (by decide)⟩
      unfold sw_body swE
      clear fin hg hd
      walk_at "ev"
    · refine ⟨(z, 1 + lot % lim), some (.d (.int lot)), some (.d (.int size)), some (.d (.int (1 + lot % lim))), ?_, fin _ (by omega) (by omega)⟩
      unfold sw_body swE
      clear fin hg hd
      walk_at "ev"
theorem some_walk_ok (L : List Int) (most : Nat) (hm : most ≤ 30) (hd : DIn L) (hl : 5 + 3 * most ≤ L.length) : ∃ w : List Run, F_l_some_walk [.lst (L.map D.int), .int (most : Int)] = .ok (.ol ((wD w).map Sl.d)) ∧ w.length ≤ most ∧ ∀ r ∈ w, RunOk r := by
  obtain ⟨d0, i1, l0, l1⟩ := at_int hd 0 (by omega)
  have i1 : atI (L.map D.int) 0 = some (.int d0) := i1
  have hp : (0 : Int) < (most : Int) + 1 := by omega
  have c1 : cMod d0 ((most : Int) + 1) = true := cMod_p hp
  have k0 := Int.emod_nonneg d0 (Int.ne_of_gt hp)
  have k1 := Int.emod_lt_of_pos d0 hp
  have s1 : e2 iMod (e2 oIx (eV 0) (eC (.int 0))) (e2 iAdd (eV 1) (eC (.int 1))) (swE L most [] none none none none) = .ok (.d (.int (d0 % ((most : Int) + 1)))) := by
    unfold swE
    walk_at "ev"
  have src := iR1_ap s1 (by omega) (by omega)
  obtain ⟨ρ', e4, w, k, a, b, c, rfl, q1, q2⟩ := forL_inv (gs := gV 3) (s := sw_body) (ds := rngD 0 (d0 % ((most : Int) + 1)).toNat) (ρ := swE L most [] none none none none)
    (fun pre ρ => ∃ w k a b c, ρ = swE L most w k a b c ∧ w.length = pre.length ∧ ∀ r ∈ w, RunOk r) ⟨[], none, none, none, none, rfl, rfl, fun _ m => nomatch m⟩ (by
      rintro pre d post ρ e ⟨w, k, a, b, c, rfl, q1, q2⟩
      obtain ⟨rfl, h⟩ := rngD_split e
      rw [Int.zero_add]
      obtain ⟨r, a2, b2, c2, h2, h3⟩ := sw_turn L most w pre.length a b c hd (by omega) (by omega) q2
      refine ⟨swE L most w (some (.d (.int (pre.length : Int)))) a b c, _, rfl, Or.inl h2, w ++ [r], _, _, _, _, rfl, by rw [List.length_append, List.length_append, q1]; rfl, fun x m => ?_⟩
      rcases List.mem_append.mp m with m | m
      · exact q2 x m
      · rw [List.mem_singleton.mp m]; exact h3)
  rw [rngD_len] at q1
  refine ⟨w, ?_, by omega, q2⟩
  have e5 := sFor_ap (gs := gV 3) (s := sw_body) src
  rw [e4] at e5
  unfold F_l_some_walk sm_l_some_walk
  rw [nox_run, sSeq_ap, show sSetO 2 (eLst aN) (env0 N_l_some_walk.length [.lst (L.map D.int), .int (most : Int)]) = some (.nx (swE L most [] none none none none)) from rfl, seqK_nx, sSeq_ap]
  show endK (seqK (sFor _ (gV 3) sw_body (swE L most [] none none none none)) _) = _
  rw [e5]
  rfl

theorem forL_ret {gs : GS} {s : SS} {all : List D} {ρ : Vl.Env} (P : List D → Vl.Env → Prop) (R : List D → D → Sl → Prop) (h0 : P [] ρ)
    (hs : ∀ pre d post ρ, all = pre ++ d :: post → P pre ρ → (∃ ρ1 ρ2, gs d ρ = some ρ1 ∧ (s ρ1 = some (.nx ρ2) ∨ s ρ1 = some (.ct ρ2)) ∧ P (pre ++ [d]) ρ2) ∨ (∃ ρ1 ρ2 x, gs d ρ = some ρ1 ∧ s ρ1 = some (.rt x ρ2) ∧ R pre d x)) :
    (∃ ρ', forL gs s all ρ = some (.nx ρ') ∧ P all ρ') ∨ (∃ pre d post x ρ2, all = pre ++ d :: post ∧ forL gs s all ρ = some (.rt x ρ2) ∧ R pre d x ∧ ∃ ρ3, P pre ρ3) := by
  have go : ∀ (ds pre : List D) (ρ : Vl.Env), all = pre ++ ds → P pre ρ → (∃ ρ', forL gs s ds ρ = some (.nx ρ') ∧ P all ρ') ∨ (∃ pre d post x ρ2, all = pre ++ d :: post ∧ forL gs s ds ρ = some (.rt x ρ2) ∧ R pre d x ∧ ∃ ρ3, P pre ρ3) := by
    intro ds
    induction ds with
    | nil =>
      intro pre ρ e hp
      rw [List.append_nil] at e
      subst e
      exact .inl ⟨ρ, forL_nil, hp⟩
    | cons d ds ih =>
      intro pre ρ e hp
      rcases hs pre d ds ρ e hp with ⟨ρ1, ρ2, h1, h2 | h2, h3⟩ | ⟨ρ1, ρ2, x, h1, h2, h3⟩
      · rw [forL_nx h1 h2]
        exact ih (pre ++ [d]) ρ2 (by rw [e]; simp) h3
      · rw [forL_ct h1 h2]
        exact ih (pre ++ [d]) ρ2 (by rw [e]; simp) h3
      · exact .inr ⟨pre, d, ds, x, ρ2, e, forL_rt h1 h2, h3, ρ, hp⟩
  exact go all [] ρ rfl h0

def Adj : List Run → Prop
  | [] => True
  | [_] => True
  | a :: b :: r => a.1 ≠ b.1 ∧ Adj (b :: r)
theorem Adj.snoc : ∀ {g : List Run} {u r : Run}, Adj (g ++ [u]) → u.1 ≠ r.1 → Adj (g ++ [u] ++ [r])
  | [], u, r, _, h => ⟨h, trivial⟩
  | [a], u, r, h, h' => ⟨h.1, h', trivial⟩
  | a :: b :: g, u, r, h, h' => ⟨h.1, Adj.snoc (g := b :: g) h.2 h'⟩
theorem Adj.swap : ∀ {g : List Run} {u v : Run}, Adj (g ++ [u]) → u.1 = v.1 → Adj (g ++ [v])
  | [], u, v, _, _ => trivial
  | [a], u, v, h, e => ⟨by rw [← e]; exact h.1, trivial⟩
  | a :: b :: g, u, v, h, e => ⟨h.1, Adj.swap (g := b :: g) h.2 e⟩
theorem Adj.mid : ∀ {g v : List Run} {u r : Run}, Adj (g ++ [u] ++ r :: v) → u.1 ≠ r.1
  | [], v, u, r, h => h.1
  | [a], v, u, r, h => h.2.1
  | a :: b :: g, v, u, r, h => Adj.mid (g := b :: g) h.2
theorem tstep_concat {g : List Run} {u r : Run} : tstep (g ++ [u]) r = if u.1 = r.1 then g ++ [(r.1, u.2 + r.2)] else g ++ [u] ++ [r] := by
  unfold tstep
  rw [List.getLast?_append]
  simp
theorem tstep_adj {f : List Run} {r : Run} (h : Adj f) : Adj (tstep f r) := by
  rcases List.eq_nil_or_concat f with rfl | ⟨g, u, rfl⟩
  · exact trivial
  · rw [List.concat_eq_append] at h ⊢
    rw [tstep_concat]
    split
    · rename_i e
      exact h.swap e
    · rename_i e
      exact h.snoc e
theorem foldl_adj : ∀ (w f : List Run), Adj f → Adj (w.foldl tstep f)
  | [], _, h => h
  | r :: w, f, h => foldl_adj w (tstep f r) (tstep_adj h)
theorem foldl_same : ∀ (v f : List Run), Adj (f ++ v) → v.foldl tstep f = f ++ v
  | [], f, _ => by simp
  | r :: v, f, h => by
    have : tstep f r = f ++ [r] := by
      rcases List.eq_nil_or_concat f with rfl | ⟨g, u, rfl⟩
      · rfl
      · rw [List.concat_eq_append] at h ⊢
        rw [tstep_concat, if_neg h.mid]
    rw [List.foldl_cons, this, foldl_same v (f ++ [r]) (by simpa using h)]
    simp
theorem tidy_tidy (w : List Run) : tidyW (tidyW w) = tidyW w := by
  have h : Adj (tidyW w) := foldl_adj w [] trivial
  have := foldl_same (tidyW w) [] h
  simpa [tidyW] using this
def PosW (w : List Run) : Prop := ∀ r ∈ w, WayOk r.1 ∧ 1 ≤ r.2
theorem tstep_pos {f : List Run} {r : Run} (hf : PosW f) (hr : WayOk r.1 ∧ 1 ≤ r.2) : PosW (tstep f r) := by
  rcases List.eq_nil_or_concat f with rfl | ⟨g, u, rfl⟩
  · intro x m
    have : x = r := by simpa [tstep] using m
    rw [this]; exact hr
  · rw [List.concat_eq_append] at hf ⊢
    rw [tstep_concat]
    have hu := hf u (by simp)
    have hg : ∀ x ∈ g, WayOk x.1 ∧ 1 ≤ x.2 := fun x m => hf x (by simp [m])
    intro x m
    split at m
    · rcases List.mem_append.mp m with m | m
      · exact hg x m
      · rw [List.mem_singleton.mp m]
        exact ⟨hr.1, by show 1 ≤ u.2 + r.2; have := hr.2; have := hu.2; omega⟩
    · rcases List.mem_append.mp m with m | m
      · exact hf x m
      · rw [List.mem_singleton.mp m]; exact hr
theorem foldl_pos : ∀ (w f : List Run), PosW f → PosW w → PosW (w.foldl tstep f)
  | [], _, hf, _ => hf
  | r :: w, f, hf, hw => foldl_pos w (tstep f r) (tstep_pos hf (hw r List.mem_cons_self)) fun x m => hw x (List.mem_cons_of_mem _ m)
theorem tidyW_pos {w : List Run} (h : PosW w) : PosW (tidyW w) := foldl_pos w [] (fun _ m => nomatch m) h
theorem PosW.way {w : List Run} (h : PosW w) : WayW w := fun r m => (h r m).1
theorem pos_of {w : List Run} (h : ∀ r ∈ w, RunOk r) : PosW w := fun r m => ⟨(h r m).1, (h r m).2.1⟩

structure T5 where
  x : Int
  y : Int
  a : Int
  b : Int
  c : Int
def t5 (s : T5) : D := .tup [.int s.x, .int s.y, .int s.a, .int s.b, .int s.c]
def T5.le (s : T5) (n : Nat) : Prop := bsz s.x ≤ n ∧ bsz s.y ≤ n ∧ bsz s.a ≤ n ∧ bsz s.b ≤ n ∧ bsz s.c ≤ n
/-! put together -/
def J (s t : T5) : T5 := ⟨s.x + t.x, s.y + t.y, s.a + t.a + s.x * t.y, s.b + t.b + 2 * s.x * t.a + s.x * s.x * t.y, s.c + t.c + 2 * s.y * t.a + s.x * (t.y * t.y + 2 * s.y * t.y)⟩
def O5 : T5 := ⟨0, 0, 0, 0, 0⟩
theorem t5_eq {s t : T5} (h1 : s.x = t.x) (h2 : s.y = t.y) (h3 : s.a = t.a) (h4 : s.b = t.b) (h5 : s.c = t.c) : s = t := by
  cases s; cases t; simp_all
theorem J_assoc (s t u : T5) : J (J s t) u = J s (J t u) := by
  apply t5_eq <;> simp only [J] <;> grind
theorem J_O (s : T5) : J s O5 = s := by
  apply t5_eq <;> simp only [J, O5] <;> grind
theorem O_J (s : T5) : J O5 s = s := by
  apply t5_eq <;> simp only [J, O5] <;> grind
theorem O5_le : O5.le 300 := by unfold T5.le O5; decide
theorem T5.le.mono {s : T5} {n m : Nat} (h : s.le n) (hm : n ≤ m) : s.le m := ⟨by have := h.1; omega, by have := h.2.1; omega, by have := h.2.2.1; omega, by have := h.2.2.2.1; omega, by have := h.2.2.2.2; omega⟩
theorem J_le {s t : T5} {n : Nat} (hs : s.le n) (ht : t.le n) : (J s t).le (10 * n + 20) := by
  obtain ⟨h1, h2, h3, h4, h5⟩ := hs
  obtain ⟨h6, h7, h8, h9, h10⟩ := ht
  have b2 : bsz 2 ≤ 2 := by decide
  refine ⟨?_, ?_, ?_, ?_, ?_⟩
  · exact Nat.le_trans (bsz_add h1 h6) (by omega)
  · exact Nat.le_trans (bsz_add h2 h7) (by omega)
  · exact Nat.le_trans (bsz_add (bsz_add h3 h8) (bsz_mul h1 h7)) (by omega)
  · exact Nat.le_trans (bsz_add (bsz_add (bsz_add h4 h9) (bsz_mul (bsz_mul b2 h1) h8)) (bsz_mul (bsz_mul h1 h1) h7)) (by omega)
  · exact Nat.le_trans (bsz_add (bsz_add (bsz_add h5 h10) (bsz_mul (bsz_mul b2 h2) h8)) (bsz_mul h1 (bsz_add (bsz_mul h7 h7) (bsz_mul (bsz_mul b2 h2) h7)))) (by omega)

theorem joined_ok (s t : T5) (n : Nat) (hn : n ≤ 100000) (hs : s.le n) (ht : t.le n) : clK F_joined (.ok [t5 s, t5 t]) = .ok (.d (t5 (J s t))) := by
  obtain ⟨x, y, a, b, c⟩ := s
  obtain ⟨u, v, d, e, f⟩ := t
  obtain ⟨h1, h2, h3, h4, h5⟩ := hs
  obtain ⟨h6, h7, h8, h9, h10⟩ := ht
  have b2 : bsz 2 ≤ 2 := by decide
  have m1 : cMul x v = true := cMul_bsz h1 h7 (by omega)
  have m2 : cMul 2 x = true := cMul_bsz b2 h1 (by omega)
  have m3 : cMul (2 * x) d = true := cMul_bsz (bsz_mul b2 h1) h8 (by omega)
  have m4 : cMul x x = true := cMul_bsz h1 h1 (by omega)
  have m5 : cMul (x * x) v = true := cMul_bsz (bsz_mul h1 h1) h7 (by omega)
  have m6 : cMul 2 y = true := cMul_bsz b2 h2 (by omega)
  have m7 : cMul (2 * y) d = true := cMul_bsz (bsz_mul b2 h2) h8 (by omega)
  have m8 : cMul v v = true := cMul_bsz h7 h7 (by omega)
  have m9 : cMul (2 * y) v = true := cMul_bsz (bsz_mul b2 h2) h7 (by omega)
  have m10 : cMul x (v * v + 2 * y * v) = true := cMul_bsz h1 (bsz_add (bsz_mul h7 h7) (bsz_mul (bsz_mul b2 h2) h7)) (by omega)
  clear h1 h2 h3 h4 h5 h6 h7 h8 h9 h10 b2 hn
  have : F_joined [t5 ⟨x, y, a, b, c⟩, t5 ⟨u, v, d, e, f⟩] = .ok (.d (t5 (J ⟨x, y, a, b, c⟩ ⟨u, v, d, e, f⟩))) := by
    unfold F_joined sm_joined t5 J
    walk_at "ev"
  rw [clK_ok this]
  rfl

theorem l_joined_ok (s t : T5) (n : Nat) (hn : n ≤ 100000) (hs : s.le n) (ht : t.le n) : clK F_l_joined (.ok [t5 s, t5 t]) = .ok (.d (t5 (J s t))) := by
  obtain ⟨x, y, a, b, c⟩ := s
  obtain ⟨u, v, d, e, f⟩ := t
  obtain ⟨h1, h2, h3, h4, h5⟩ := hs
  obtain ⟨h6, h7, h8, h9, h10⟩ := ht
  have b2 : bsz 2 ≤ 2 := by decide
  have m1 : cMul x v = true := cMul_bsz h1 h7 (by omega)
  have m2 : cMul 2 y = true := cMul_bsz b2 h2 (by omega)
  have m3 : cMul (x * v) (v + 2 * y) = true := cMul_bsz (bsz_mul h1 h7) (bsz_add h7 (bsz_mul b2 h2)) (by omega)
  have m4 : cMul 2 d = true := cMul_bsz b2 h8 (by omega)
  have m5 : cMul x (2 * d + x * v) = true := cMul_bsz h1 (bsz_add (bsz_mul b2 h8) (bsz_mul h1 h7)) (by omega)
  have m6 : cMul (2 * y) d = true := cMul_bsz (bsz_mul b2 h2) h8 (by omega)
  clear h1 h2 h3 h4 h5 h6 h7 h8 h9 h10 b2 hn
  have q : J ⟨x, y, a, b, c⟩ ⟨u, v, d, e, f⟩ = ⟨x + u, y + v, a + d + x * v, b + e + x * (2 * d + x * v), c + f + 2 * y * d + x * v * (v + 2 * y)⟩ := by
    apply t5_eq <;> simp only [J] <;> grind
  have : F_l_joined [t5 ⟨x, y, a, b, c⟩, t5 ⟨u, v, d, e, f⟩] = .ok (.d (t5 (J ⟨x, y, a, b, c⟩ ⟨u, v, d, e, f⟩))) := by
    rw [q]
    clear q
    unfold F_l_joined sm_l_joined t5
    walk_at "ev"
  rw [clK_ok this]
  rfl

theorem t5_same (s : T5) : (t5 s).same (t5 s) = true := by simp [t5, D.same, sameL]
theorem same_t5 (s : T5) : clBK F_l_same (.ok [t5 s, t5 s]) = .ok (.d (.bl true)) := by
  refine clBK_bl ?_
  rw [show F_l_same = Fk_l_same 8 from rfl, same_ok 8 (t5 s) (t5 s) rfl rfl (show D.dep (t5 s) < 8 by simp [t5, D.dep, depL]), t5_same]
theorem same_t52 (s t : T5) : clBK F_l_same (.ok [.lst [t5 s, t5 t], .lst [t5 s, t5 t]]) = .ok (.d (.bl true)) := by
  refine clBK_bl ?_
  rw [show F_l_same = Fk_l_same 8 from rfl, same_ok 8 (.lst [t5 s, t5 t]) (.lst [t5 s, t5 t]) rfl rfl (show D.dep (.lst [t5 s, t5 t]) < 8 by simp [t5, D.dep, depL])]
  simp [D.same, sameL, t5_same]

/-! how great they grow -/
def Lv (i : Nat) (s : T5) : Prop := bsz s.x ≤ 400 + i ∧ bsz s.y ≤ 400 + i ∧ bsz s.a ≤ 1000 + 2 * i ∧ bsz s.b ≤ 2000 + 3 * i ∧ bsz s.c ≤ 2000 + 3 * i
theorem bsz_m {i j : Int} {a : Nat} (n : Nat) (h1 : bsz i ≤ n) (h2 : bsz j ≤ n) (h : n + 1 ≤ a) : bsz (i + j) ≤ a := Nat.le_trans (bsz_max h1 h2) h
theorem J_lv {i : Nat} {s t : T5} (hs : Lv i s) (ht : Lv i t) : Lv (i + 1) (J s t) := by
  obtain ⟨h1, h2, h3, h4, h5⟩ := hs
  obtain ⟨k1, k2, k3, k4, k5⟩ := ht
  have b2 : bsz 2 ≤ 2 := by decide
  refine ⟨bsz_m (400 + i) h1 k1 (by omega), bsz_m (400 + i) h2 k2 (by omega), ?_, ?_, ?_⟩
  · exact bsz_m (1001 + 2 * i) (bsz_m (1000 + 2 * i) h3 k3 (by omega)) (Nat.le_trans (bsz_mul h1 k2) (by omega)) (by omega)
  · exact bsz_m (2002 + 3 * i) (bsz_m (2001 + 3 * i) (bsz_m (2000 + 3 * i) h4 k4 (by omega)) (Nat.le_trans (bsz_mul (bsz_mul b2 h1) k3) (by omega)) (by omega)) (Nat.le_trans (bsz_mul (bsz_mul h1 h1) k2) (by omega)) (by omega)
  · refine bsz_m (2002 + 3 * i) (bsz_m (2001 + 3 * i) (bsz_m (2000 + 3 * i) h5 k5 (by omega)) (Nat.le_trans (bsz_mul (bsz_mul b2 h2) k3) (by omega)) (by omega)) (Nat.le_trans (bsz_mul h1 (bsz_m (802 + 2 * i) (Nat.le_trans (bsz_mul k2 k2) (by omega)) (Nat.le_trans (bsz_mul (bsz_mul b2 h2) k2) (by omega)) (Nat.le_refl _))) (by omega)) (by omega)
theorem Lv.le {i : Nat} {s : T5} (h : Lv i s) : s.le (2000 + 3 * i) := by
  obtain ⟨h1, h2, h3, h4, h5⟩ := h
  exact ⟨by omega, by omega, by omega, h4, h5⟩
theorem Lv.mono {i j : Nat} {s : T5} (h : Lv i s) (hi : i ≤ j) : Lv j s := by
  obtain ⟨h1, h2, h3, h4, h5⟩ := h
  exact ⟨by omega, by omega, by omega, by omega, by omega⟩
theorem lv_le {s : T5} (h : s.le 300) : Lv 0 s := by
  obtain ⟨h1, h2, h3, h4, h5⟩ := h
  exact ⟨by omega, by omega, by omega, by omega, by omega⟩
theorem O5_lv (i : Nat) : Lv i O5 := (lv_le O5_le).mono (Nat.zero_le _)

theorem take_snoc {α : Type} {l : List α} {k : Nat} {a : α} (h : l[k]? = some a) : l.take (k + 1) = l.take k ++ [a] := by
  rw [List.take_add_one, h]
  rfl
def rT (r : Run) : T5 := if r.1 = "e" then ⟨r.2, 0, 0, 0, 0⟩ else if r.1 = "w" then ⟨-r.2, 0, 0, 0, 0⟩ else if r.1 = "n" then ⟨0, r.2, 0, 0, 0⟩ else ⟨0, -r.2, 0, 0, 0⟩
def tlW (w : List Run) : T5 := w.foldl (fun s r => J s (rT r)) O5
theorem rT_add (z : Str) (m n : Int) (h : WayOk z) : J (rT (z, m)) (rT (z, n)) = rT (z, m + n) := by
  rcases h with rfl | rfl | rfl | rfl
  · show J ⟨m, 0, 0, 0, 0⟩ ⟨n, 0, 0, 0, 0⟩ = ⟨m + n, 0, 0, 0, 0⟩
    apply t5_eq <;> simp only [J] <;> grind
  · show J ⟨0, m, 0, 0, 0⟩ ⟨0, n, 0, 0, 0⟩ = ⟨0, m + n, 0, 0, 0⟩
    apply t5_eq <;> simp only [J] <;> grind
  · show J ⟨-m, 0, 0, 0, 0⟩ ⟨-n, 0, 0, 0, 0⟩ = ⟨-(m + n), 0, 0, 0, 0⟩
    apply t5_eq <;> simp only [J] <;> grind
  · show J ⟨0, -m, 0, 0, 0⟩ ⟨0, -n, 0, 0, 0⟩ = ⟨0, -(m + n), 0, 0, 0⟩
    apply t5_eq <;> simp only [J] <;> grind
theorem rT_zero (z : Str) (h : WayOk z) : rT (z, 0) = O5 := by
  rcases h with rfl | rfl | rfl | rfl <;> rfl
theorem rT_lv {r : Run} (h : r.2.natAbs < 2 ^ 300) : Lv 0 (rT r) := by
  have h0 : bsz r.2 ≤ 400 := Nat.le_trans (bsz_le (by decide) h) (by decide)
  have hn : bsz (-r.2) ≤ 400 := by rw [bsz_neg]; exact h0
  have z4 : bsz 0 ≤ 400 := by decide
  have z5 : bsz 0 ≤ 1000 := by decide
  have z6 : bsz 0 ≤ 2000 := by decide
  unfold rT
  split
  · exact ⟨h0, z4, z5, z6, z6⟩
  · split
    · exact ⟨hn, z4, z5, z6, z6⟩
    · split
      · exact ⟨z4, h0, z5, z6, z6⟩
      · exact ⟨z4, hn, z5, z6, z6⟩
theorem tl_lv (w : List Run) (h : ∀ r ∈ w, r.2.natAbs < 2 ^ 300) : Lv w.length (tlW w) := by
  have go : ∀ (w : List Run) (s : T5) (i : Nat), (∀ r ∈ w, r.2.natAbs < 2 ^ 300) → Lv i s → Lv (i + w.length) (w.foldl (fun s r => J s (rT r)) s) := by
    intro w
    induction w with
    | nil => intro s i _ hs; exact hs
    | cons r w ih =>
      intro s i h hs
      have := ih (J s (rT r)) (i + 1) (fun x m => h x (List.mem_cons_of_mem _ m)) (J_lv hs ((rT_lv (h r List.mem_cons_self)).mono (Nat.zero_le _)))
      rw [List.foldl_cons, List.length_cons, show i + (w.length + 1) = i + 1 + w.length by omega]
      exact this
  have := go w O5 0 h (O5_lv 0)
  rwa [Nat.zero_add] at this
theorem run_tally_ok {r : Run} (h : WayOk r.1) : clK F_run_tally (.ok [.str r.1, .int r.2]) = .ok (.d (t5 (rT r))) := by
  obtain ⟨y, n⟩ := r
  have c0 : cMul 0 n = true := cMul_l (by decide)
  have c1 : cMul 1 n = true := cMul_l (by decide)
  have c2 : cMul (-1) n = true := cMul_l (by decide)
  have h0 : (0 : Int) * n = 0 := Int.zero_mul n
  have h1 : (1 : Int) * n = n := Int.one_mul n
  have h2 : (-1 : Int) * n = -n := by omega
  have go : ∀ a b : Int, oKix c_EAST_STEPS (.d (.str y)) = some (.d (.int a)) → oKix c_NORTH_STEPS (.d (.str y)) = some (.d (.int b)) → cMul a n = true → cMul b n = true → F_run_tally [.str y, .int n] = .ok (.d (.tup [.int (a * n), .int (b * n), .int 0, .int 0, .int 0])) := fun a b e1' e2' k1 k2 => by
    clear h c0 c1 c2 h0 h1 h2
    unfold F_run_tally sm_run_tally
    walk_at "ev"
  rcases h with h | h | h | h <;> (have h : y = _ := h; subst h)
  · rw [clK_ok (go 1 0 rfl rfl c1 c0), h1, h0]; rfl
  · rw [clK_ok (go 0 1 rfl rfl c0 c1), h1, h0]; rfl
  · rw [clK_ok (go (-1) 0 rfl rfl c2 c0), h2, h0]; rfl
  · rw [clK_ok (go 0 (-1) rfl rfl c0 c2), h2, h0]; rfl
def tl_body : SS := sSet 1 (eCl F_joined (aC (eV 1) (aC (eCl F_run_tally (aC (eV 2) (aC (eV 3) (aN)))) (aN))))
theorem tally_of_ok (w : List Run) (hy : WayW w) (hb : ∀ r ∈ w, r.2.natAbs < 2 ^ 300) (hl : w.length ≤ 1000) : F_tally_of [.lst (wD w)] = .ok (.d (t5 (tlW w))) := by
  have src : iL (eV 0) [some (.d (.lst (wD w))), some (.d (t5 O5)), none, none] = .ok (wD w) := iL_ap rfl
  obtain ⟨ρ', e4, a, b, rfl, -⟩ := forL_inv (gs := gT (gC (gV 2) (gC (gV 3) (gN)))) (s := tl_body) (ds := wD w) (ρ := [some (.d (.lst (wD w))), some (.d (t5 O5)), none, none])
    (fun pre ρ => ∃ a b, ρ = [some (.d (.lst (wD w))), some (.d (t5 (tlW (w.take pre.length)))), a, b] ∧ Lv pre.length (tlW (w.take pre.length))) ⟨none, none, rfl, O5_lv 0⟩ (by
      rintro pre d post ρ e ⟨a, b, rfl, q⟩
      have hi : (wD w)[pre.length]? = some d := by rw [e]; simp
      unfold wD at hi
      rw [List.getElem?_map, Option.map_eq_some_iff] at hi
      obtain ⟨r, hr, rfl⟩ := hi
      have hlt : pre.length < w.length := by
        rcases Nat.lt_or_ge pre.length w.length with q | q
        · exact q
        · rw [List.getElem?_eq_none q] at hr; cases hr
      have hm := List.mem_of_getElem? hr
      have hst : tlW (w.take (pre.length + 1)) = J (tlW (w.take pre.length)) (rT r) := by
        rw [take_snoc hr]
        unfold tlW
        rw [List.foldl_append]
        rfl
      have rl := (rT_lv (hb r hm)).mono (Nat.zero_le pre.length)
      have j1 := run_tally_ok (hy r hm)
      have j2 := joined_ok (tlW (w.take pre.length)) (rT r) _ (by omega) q.le rl.le
      have q2 := J_lv q rl
      refine ⟨[some (.d (.lst (wD w))), some (.d (t5 (tlW (w.take pre.length)))), some (.d (.str r.1)), some (.d (.int r.2))], [some (.d (.lst (wD w))), some (.d (t5 (J (tlW (w.take pre.length)) (rT r)))), some (.d (.str r.1)), some (.d (.int r.2))], rfl, Or.inl ?_, some (.d (.str r.1)), some (.d (.int r.2)), ?_⟩
      · unfold tl_body
        clear q q2 rl hst hm hlt hr src
        walk_at "ev"
      · rw [List.length_append, show [rD r].length = 1 from rfl, hst]
        exact ⟨rfl, q2⟩)
  have e5 := sFor_ap (gs := gT (gC (gV 2) (gC (gV 3) (gN)))) (s := tl_body) src
  rw [e4, show (wD w).length = w.length by unfold wD; rw [List.length_map], List.take_length] at e5
  unfold F_tally_of sm_tally_of
  rw [nox_run, sSeq_ap, show sSet 1 (eC (.tup c_NOUGHT)) (env0 N_tally_of.length [.lst (wD w)]) = some (.nx [some (.d (.lst (wD w))), some (.d (t5 O5)), none, none]) from rfl, seqK_nx, sSeq_ap]
  show endK (seqK (sFor _ _ tl_body _) _) = _
  rw [e5]
  rfl
theorem tally_ok (w : List Run) (hw : w.length ≤ 200) (hg : ∀ r ∈ w, RunOk r) : clK F_tally (.ok [.lst (wD w)]) = .ok (.d (t5 (tlW w))) := by
  have h1 := clK_ok (look_ok w hw hg)
  have h2 := clK_ok (tally_of_ok w (pos_of hg).way (fun r m => by
    obtain ⟨_, a, b⟩ := hg r m
    have h3 : (10 : Int) ^ 30 = 1000000000000000000000000000000 := by decide
    rw [h3] at b
    have h4 : (1000000000000000000000000000000 : Nat) < 2 ^ 300 := by decide
    omega) (by omega))
  rw [show Val.ofSl (.d (t5 (tlW w))) = .d (t5 (tlW w)) from rfl] at h2
  clear hw hg
  have : F_tally [.lst (wD w)] = .ok (.d (t5 (tlW w))) := by
    unfold F_tally sm_tally
    walk_at "ev"
  exact clK_ok this

theorem eDg_ok {k1 k2 : Str} {f1 f2 fk fd : Vl.Env → R Val} {ρ : Vl.Env} {a b c : D} {s : Str} (h1 : f1 ρ = .ok (.d a)) (h2 : f2 ρ = .ok (.d b)) (h3 : fk ρ = .ok (.d (.str s))) (h4 : fd ρ = .ok (.d c)) : eDg k1 k2 f1 f2 fk fd ρ = .ok (.d (if s = k1 then a else if s = k2 then b else c)) := by
  unfold eDg
  rw [h1, R.ok_bind, h2, R.ok_bind, h3, R.ok_bind, h4, R.ok_bind]
  rfl
theorem l_run_tally_ok {r : Run} (h : WayOk r.1) : clK F_l_run_tally (.ok [.str r.1, .int r.2]) = .ok (.d (t5 (rT r))) := by
  obtain ⟨y, n⟩ := r
  have e1' : eDg "e" "w" (eV 1) (e1 oNeg (eV 1)) (eV 0) (eC (.int 0)) [some (.d (.str y)), some (.d (.int n)), none] = .ok (.d (if y = "e" then .int n else if y = "w" then .int (-n) else .int 0)) := eDg_ok rfl rfl rfl rfl
  have e2' : ∀ x, eDg "n" "s" (eV 1) (e1 oNeg (eV 1)) (eV 0) (eC (.int 0)) [some (.d (.str y)), some (.d (.int n)), some (.d x)] = .ok (.d (if y = "n" then .int n else if y = "s" then .int (-n) else .int 0)) := fun x => eDg_ok rfl rfl rfl rfl
  have : F_l_run_tally [.str y, .int n] = .ok (.d (.tup [if y = "e" then .int n else if y = "w" then .int (-n) else .int 0, if y = "n" then .int n else if y = "s" then .int (-n) else .int 0, .int 0, .int 0, .int 0])) := by
    unfold F_l_run_tally sm_l_run_tally
    generalize (if y = "e" then D.int n else if y = "w" then .int (-n) else .int 0) = A at *
    generalize (if y = "n" then D.int n else if y = "s" then .int (-n) else .int 0) = B at *
    clear h
    walk_at "ev"
  rw [clK_ok this]
  rcases h with h | h | h | h <;> (have h : y = _ := h; subst h; rfl)
def ll_body : SS := sSet 1 (eCl F_l_joined (aC (eV 1) (aC (eCl F_l_run_tally (aC (eV 2) (aC (eV 3) (aN)))) (aN))))
theorem l_tally_ok (w : List Run) (hy : WayW w) (hb : ∀ r ∈ w, r.2.natAbs < 2 ^ 300) (hl : w.length ≤ 20000) : clK F_l_tally (.ok [.lst (wD w)]) = .ok (.d (t5 (tlW w))) := by
  have src : iL (eV 0) [some (.d (.lst (wD w))), some (.d (t5 O5)), none, none] = .ok (wD w) := iL_ap rfl
  obtain ⟨ρ', e4, a, b, rfl, -⟩ := forL_inv (gs := gT (gC (gV 2) (gC (gV 3) (gN)))) (s := ll_body) (ds := wD w) (ρ := [some (.d (.lst (wD w))), some (.d (t5 O5)), none, none])
    (fun pre ρ => ∃ a b, ρ = [some (.d (.lst (wD w))), some (.d (t5 (tlW (w.take pre.length)))), a, b] ∧ Lv pre.length (tlW (w.take pre.length))) ⟨none, none, rfl, O5_lv 0⟩ (by
      rintro pre d post ρ e ⟨a, b, rfl, q⟩
      have hi : (wD w)[pre.length]? = some d := by rw [e]; simp
      unfold wD at hi
      rw [List.getElem?_map, Option.map_eq_some_iff] at hi
      obtain ⟨r, hr, rfl⟩ := hi
      have hlt : pre.length < w.length := by
        rcases Nat.lt_or_ge pre.length w.length with q | q
        · exact q
        · rw [List.getElem?_eq_none q] at hr; cases hr
      have hm := List.mem_of_getElem? hr
      have hst : tlW (w.take (pre.length + 1)) = J (tlW (w.take pre.length)) (rT r) := by
        rw [take_snoc hr]
        unfold tlW
        rw [List.foldl_append]
        rfl
      have rl := (rT_lv (hb r hm)).mono (Nat.zero_le pre.length)
      have j1 := l_run_tally_ok (hy r hm)
      have j2 := l_joined_ok (tlW (w.take pre.length)) (rT r) _ (by omega) q.le rl.le
      have q2 := J_lv q rl
      refine ⟨[some (.d (.lst (wD w))), some (.d (t5 (tlW (w.take pre.length)))), some (.d (.str r.1)), some (.d (.int r.2))], [some (.d (.lst (wD w))), some (.d (t5 (J (tlW (w.take pre.length)) (rT r)))), some (.d (.str r.1)), some (.d (.int r.2))], rfl, Or.inl ?_, some (.d (.str r.1)), some (.d (.int r.2)), ?_⟩
      · unfold ll_body
        clear q q2 rl hst hm hlt hr src
        walk_at "ev"
      · rw [List.length_append, show [rD r].length = 1 from rfl, hst]
        exact ⟨rfl, q2⟩)
  have e5 := sFor_ap (gs := gT (gC (gV 2) (gC (gV 3) (gN)))) (s := ll_body) src
  rw [e4, show (wD w).length = w.length by unfold wD; rw [List.length_map], List.take_length] at e5
  have : F_l_tally [.lst (wD w)] = .ok (.d (t5 (tlW w))) := by
    unfold F_l_tally sm_l_tally
    rw [nox_run, sSeq_ap, show sSet 1 (eTup (aC (eC (.int 0)) (aC (eC (.int 0)) (aC (eC (.int 0)) (aC (eC (.int 0)) (aC (eC (.int 0)) (aN))))))) (env0 N_l_tally.length [.lst (wD w)]) = some (.nx [some (.d (.lst (wD w))), some (.d (t5 O5)), none, none]) from rfl, seqK_nx, sSeq_ap]
    show endK (seqK (sFor _ _ ll_body _) _) = _
    rw [e5]
    rfl
  rw [clK_ok this]
  rfl

theorem ne_self (w : List Run) (h : WayW w) : oNe (.d (.lst (wD w))) (.d (.lst (wD w))) = some (.d (.bl false)) := by
  have e : oNe (.d (.lst (wD w))) (.d (.lst (wD w))) = (eqD (.lst (wD w)) (.lst (wD w))).map fun k => .d (.bl (!k)) := rfl
  have e2' : eqD (.lst (wD w)) (.lst (wD w)) = some (sameL (wD w) (wD w)) := by
    show (if ((plL (wD w) && plL (wD w)) && decide (depL (wD w) + 1 ≤ 64) && decide (depL (wD w) + 1 ≤ 64)) = true then some (sameL (wD w) (wD w)) else none) = _
    have := wD_dep w
    rw [wD_pl w h, decide_eq_true (by omega)]
    rfl
  rw [e, e2', wD_same]
  rfl

/-! roads made to meet -/
theorem sSetI_o {i : Nat} {fi f : Vl.Env → R Val} {ρ : Vl.Env} {l : List Sl} {x : List D} {j : Int} {m : Nat} (h1 : ρ[i]? = some (some (.ol l))) (h2 : f ρ = .ok (.o (.ol (x.map Sl.d)))) (h3 : fi ρ = .ok (.d (.int j))) (h4 : ixN l.length j = some m) : sSetI i fi f ρ = some (.nx (ρ.set i (some (.ol (l.set m (.d (.lst x))))))) := by
  unfold sSetI
  rw [h1]
  show sE f _ ρ = _
  unfold sE
  rw [h2]
  show (match (R.of (Sl.ol (x.map Sl.d)).frz) with | .ok d => sE fi (kSetI i l d) ρ | _ => none) = _
  rw [frz_ol]
  show sE fi (kSetI i l (.lst x)) ρ = _
  unfold sE
  rw [h3]
  show (match ixN l.length j with | some m => _ | none => _) = _
  rw [h4]
def rsD (rs : List (List Run)) : List D := rs.map fun w => D.lst (wD w)
def leg (a b : Str) (s : Int) : List Run := if s = 0 then [] else [(if 0 < s then a else b, if s < 0 then -s else s)]
def clB (g : Int) : Int := if (if g < 1000000000000000000000000000000 then g else 1000000000000000000000000000000) > -1000000000000000000000000000000 then (if g < 1000000000000000000000000000000 then g else 1000000000000000000000000000000) else -1000000000000000000000000000000
def E37 (ns ds : List Int) (rs : List (List Run)) (k : Nat) (x4 x5 : Option Sl) (g0 g1 : Int) (x7 : Option Sl) : Vl.Env := [some (.d (.scr ns)), some (.d (.lst (ds.map D.int))), some (.ol ((rsD rs).map Sl.d)), some (.d (.int (k : Int))), x4, x5, some (.d (.lst [.int g0, .int g1])), x7, none, none, none, none]
def legX (j : Int) (a b : Str) : Vl.Env → R Val := e2 lAdd (e2 oIx (eV 2) (eV 3)) (e2 lMul (eLst (aC (eTup (aC (eIf (tV (e2 iGt (e2 oIx (eV 7) (eC (.int j))) (eC (.int 0)))) (eC (.str a)) (eC (.str b))) (aC (e1 oAbs (e2 oIx (eV 7) (eC (.int j)))) (aN)))) (aN))) (e1 oInt (e2 oNe (e2 oIx (eV 7) (eC (.int j))) (eC (.int 0)))))
theorem wD_app (a b : List Run) : wD (a ++ b) = wD a ++ wD b := by unfold wD; rw [List.map_append]
theorem rs_at {rs : List (List Run)} {k : Nat} {r : List Run} (h : rs[k]? = some r) : oIx (.b (.ol ((rsD rs).map Sl.d))) (.d (.int (k : Int))) = some (.d (.lst (wD r))) := by
  rw [oIx_bd, atI_nat k (d := .lst (wD r)) (by unfold rsD; rw [List.getElem?_map, h]; rfl)]
  rfl
theorem legX_ok (ns ds : List Int) (rs : List (List Run)) (k : Nat) (x4 x5 : Option Sl) (g0 g1 s0 s1 s j : Int) (a b : Str) (r : List Run) (hk : rs[k]? = some r) (hr : r.length ≤ 1000) (hj : atI [D.int s0, .int s1] j = some (.int s)) :
    legX j a b (E37 ns ds rs k x4 x5 g0 g1 (some (.d (.lst [.int s0, .int s1])))) = .ok (.o (.ol ((wD (r ++ leg a b s)).map Sl.d))) := by
  have h1 := rs_at hk
  have hlen : (wD r).length = r.length := by unfold wD; rw [List.length_map]
  have o : ∀ q : Bool, oInt (.d (.bl q)) = some (.d (.int (if q then 1 else 0))) := fun q => rfl
  have la : ∀ l : List Run, l.length ≤ 1 → lAdd (.d (.lst (wD r))) (.o (.ol ((wD l).map Sl.d))) = some (.o (.ol ((wD (r ++ l)).map Sl.d))) := fun l hl => by
    have hi : (Val.o (.ol ((wD l).map Sl.d))).items = some (wD l) := allD_map _
    unfold lAdd
    rw [hi]
    show (if (wD r).length + (wD l).length ≤ 16777216 then some (Val.o (.ol ((wD r ++ wD l).map Sl.d))) else none) = _
    rw [if_pos (by rw [hlen]; unfold wD; rw [List.length_map]; omega)]
    rw [wD_app]
  by_cases h0 : s = 0
  · have e : leg a b s = [] := if_pos h0
    rw [e]
    have la0 := la [] (by decide)
    have lm : ∀ d : D, lMul (.o (.ol [Sl.d d])) (.d (.int 0)) = some (.o (.ol [])) := fun d => rfl
    have hd : decide (s = 0) = true := decide_eq_true h0
    have hp : ¬ 0 < s := by omega
    rw [show (wD ([] : List Run)).map Sl.d = [] from rfl] at la0
    clear la h0 hr hk hlen e
    unfold legX E37
    walk_at "ev"
  · have e : leg a b s = [(if 0 < s then a else b, if s < 0 then -s else s)] := if_neg h0
    rw [e]
    have la1 := la [(if 0 < s then a else b, if s < 0 then -s else s)] (by show 1 ≤ 1; decide)
    have lm : ∀ d : D, lMul (.o (.ol [Sl.d d])) (.d (.int 1)) = some (.o (.ol [Sl.d d])) := fun d => rfl
    have hd : decide (s = 0) = false := decide_eq_false h0
    rw [show (wD [(if 0 < s then a else b, if s < 0 then -s else s)]).map Sl.d = [Sl.d (.tup [.str (if 0 < s then a else b), .int (if s < 0 then -s else s)])] from rfl] at la1
    by_cases hp : 0 < s
    · rw [if_pos hp] at la1 e ⊢
      clear la h0 hr hk hlen e
      unfold legX E37
      walk_at "ev"
    · rw [if_neg hp] at la1 e ⊢
      clear la h0 hr hk hlen e
      unfold legX E37
      walk_at "ev"

theorem clB_ge (g : Int) : -1000000000000000000000000000000 ≤ clB g ∧ clB g ≤ 1000000000000000000000000000000 ∧ (0 < g → 0 < clB g ∧ clB g ≤ g) ∧ (g < 0 → clB g < 0 ∧ g ≤ clB g) ∧ (g = 0 → clB g = 0) ∧ (clB g ≠ g → (clB g = 1000000000000000000000000000000 ∨ clB g = -1000000000000000000000000000000)) := by
  unfold clB
  by_cases h1 : g < 1000000000000000000000000000000
  · rw [if_pos h1]
    by_cases h2 : g > -1000000000000000000000000000000
    · rw [if_pos h2]; omega
    · rw [if_neg h2]; omega
  · rw [if_neg h1]
    rw [if_pos (by decide)]; omega
def wl_t : Vl.Env → R Bool := tV (e2 oNe (eV 6) (eLst (aC (eC (.int 0)) (aC (eC (.int 0)) (aN)))))
def wl_body : SS := sSeq (sSet 7 (eLst (aC (e2 oMax (e1 oNeg (e2 iPow (eC (.int 10)) (eC (.int 30)))) (e2 oMin (e2 iPow (eC (.int 10)) (eC (.int 30))) (e2 oIx (eV 6) (eC (.int 0))))) (aC (e2 oMax (e1 oNeg (e2 iPow (eC (.int 10)) (eC (.int 30)))) (e2 oMin (e2 iPow (eC (.int 10)) (eC (.int 30))) (e2 oIx (eV 6) (eC (.int 1))))) (aN))))) (sSeq (sSetI 2 (eV 3) (legX 0 "e" "w")) (sSeq (sSetI 2 (eV 3) (legX 1 "n" "s")) (sSet 6 (eLst (aC (e2 iSub (e2 oIx (eV 6) (eC (.int 0))) (e2 oIx (eV 7) (eC (.int 0)))) (aC (e2 iSub (e2 oIx (eV 6) (eC (.int 1))) (e2 oIx (eV 7) (eC (.int 1)))) (aN)))))))
theorem rs_set {rs : List (List Run)} {k : Nat} {r : List Run} : ((rsD rs).map Sl.d).set k (.d (.lst (wD r))) = (rsD (rs.set k r)).map Sl.d := by
  unfold rsD
  rw [List.map_set, List.map_set]
theorem wl_turn (ns ds : List Int) (rs : List (List Run)) (k : Nat) (x4 x5 : Option Sl) (g0 g1 : Int) (x7 : Option Sl) (r : List Run) (hk : rs[k]? = some r) (hr : r.length ≤ 900) :
    wl_body (E37 ns ds rs k x4 x5 g0 g1 x7) = some (.nx (E37 ns ds (rs.set k (r ++ leg "e" "w" (clB g0) ++ leg "n" "s" (clB g1))) k x4 x5 (g0 - clB g0) (g1 - clB g1) (some (.d (.lst [.int (clB g0), .int (clB g1)]))))) := by
  have cp : cPow 10 30 = true := by decide
  have p30 : (10 : Int) ^ (30 : Int).toNat = 1000000000000000000000000000000 := by decide
  have a0 : ∀ x y : Int, atI [D.int x, .int y] 0 = some (.int x) := fun _ _ => rfl
  have a1 : ∀ x y : Int, atI [D.int x, .int y] 1 = some (.int y) := fun _ _ => rfl
  have hlt : k < rs.length := by
    rcases Nat.lt_or_ge k rs.length with q | q
    · exact q
    · rw [List.getElem?_eq_none q] at hk; cases hk
  have hx : ∀ q : List (List Run), q.length = rs.length → ixN ((rsD q).map Sl.d).length (k : Int) = some k := fun q hq => by
    unfold ixN rsD
    rw [List.length_map, List.length_map, hq, if_pos (by omega), if_pos (by omega)]
    rfl
  have l0 : (leg "e" "w" (clB g0)).length ≤ 1 := by
    unfold leg
    split
    · exact Nat.zero_le _
    · exact Nat.le_refl _
  have h1 := legX_ok ns ds rs k x4 x5 g0 g1 (clB g0) (clB g1) (clB g0) 0 "e" "w" r hk (by omega) (a0 _ _)
  have hk2 : (rs.set k (r ++ leg "e" "w" (clB g0)))[k]? = some (r ++ leg "e" "w" (clB g0)) := by
    rw [List.getElem?_set_self hlt]
  have h2 := legX_ok ns ds (rs.set k (r ++ leg "e" "w" (clB g0))) k x4 x5 g0 g1 (clB g0) (clB g1) (clB g1) 1 "n" "s" _ hk2 (by rw [List.length_append]; omega) (a1 _ _)
  have s1 := sSetI_o (i := 2) (fi := eV 3) (m := k) (l := (rsD rs).map Sl.d) rfl h1 rfl (hx rs rfl)
  have s2 := sSetI_o (i := 2) (fi := eV 3) (m := k) (l := (rsD (rs.set k (r ++ leg "e" "w" (clB g0)))).map Sl.d) rfl h2 rfl (hx _ (by rw [List.length_set]))
  rw [rs_set] at s1 s2
  rw [List.set_set] at s2
  have m0 : sSet 7 (eLst (aC (e2 oMax (e1 oNeg (e2 iPow (eC (.int 10)) (eC (.int 30)))) (e2 oMin (e2 iPow (eC (.int 10)) (eC (.int 30))) (e2 oIx (eV 6) (eC (.int 0))))) (aC (e2 oMax (e1 oNeg (e2 iPow (eC (.int 10)) (eC (.int 30)))) (e2 oMin (e2 iPow (eC (.int 10)) (eC (.int 30))) (e2 oIx (eV 6) (eC (.int 1))))) (aN)))) (E37 ns ds rs k x4 x5 g0 g1 x7) = some (.nx (E37 ns ds rs k x4 x5 g0 g1 (some (.d (.lst [.int (clB g0), .int (clB g1)]))))) := by
    clear s1 s2 h1 h2 hk hk2 hx hr hlt l0
    unfold E37 clB
    walk_at "ev"
  have m1 : sSet 6 (eLst (aC (e2 iSub (e2 oIx (eV 6) (eC (.int 0))) (e2 oIx (eV 7) (eC (.int 0)))) (aC (e2 iSub (e2 oIx (eV 6) (eC (.int 1))) (e2 oIx (eV 7) (eC (.int 1)))) (aN)))) (E37 ns ds (rs.set k (r ++ leg "e" "w" (clB g0) ++ leg "n" "s" (clB g1))) k x4 x5 g0 g1 (some (.d (.lst [.int (clB g0), .int (clB g1)])))) = some (.nx (E37 ns ds (rs.set k (r ++ leg "e" "w" (clB g0) ++ leg "n" "s" (clB g1))) k x4 x5 (g0 - clB g0) (g1 - clB g1) (some (.d (.lst [.int (clB g0), .int (clB g1)]))))) := by
    clear s1 s2 h1 h2 hk hk2 hx hr hlt l0 m0
    generalize clB g0 = c0
    generalize clB g1 = c1
    unfold E37
    walk_at "ev"
  unfold wl_body
  rw [sSeq_ap, m0, seqK_nx, sSeq_ap, s1, seqK_nx, sSeq_ap]
  show seqK (sSetI 2 (eV 3) (legX 1 "n" "s") (E37 ns ds (rs.set k (r ++ leg "e" "w" (clB g0))) k x4 x5 g0 g1 (some (.d (.lst [.int (clB g0), .int (clB g1)]))))) _ = _
  rw [s2, seqK_nx]
  exact m1

def MB (g : Int) : Nat := (g.natAbs + 999999999999999999999999999999) / 1000000000000000000000000000000
theorem MB_step (g : Int) : MB (g - clB g) ≤ MB g ∧ (g ≠ 0 → MB (g - clB g) + 1 ≤ MB g) := by
  obtain ⟨h1, h2, h3, h4, h5, h6⟩ := clB_ge g
  unfold MB
  generalize clB g = c at *
  by_cases hg : g = 0
  · have := h5 hg
    refine ⟨by omega, fun q => absurd hg q⟩
  · by_cases hc : c = g
    · subst hc
      refine ⟨by omega, fun _ => by omega⟩
    · have := h6 hc
      by_cases hp : 0 < g
      · have := h3 hp
        refine ⟨by omega, fun _ => by omega⟩
      · have := h4 (by omega)
        refine ⟨by omega, fun _ => by omega⟩
theorem leg_ok {a b : Str} {s : Int} (ha : WayOk a) (hb : WayOk b) (h1 : -1000000000000000000000000000000 ≤ s) (h2 : s ≤ 1000000000000000000000000000000) : ∀ r ∈ leg a b s, RunOk r := by
  have h3 : (10 : Int) ^ 30 = 1000000000000000000000000000000 := by decide
  intro r m
  unfold leg at m
  by_cases h0 : s = 0
  · rw [if_pos h0] at m; cases m
  · rw [if_neg h0] at m
    rw [List.mem_singleton.mp m]
    by_cases hp : 0 < s
    · rw [if_pos hp, if_neg (by omega)]
      exact ⟨ha, by show 1 ≤ s; omega, by rw [h3]; exact h2⟩
    · rw [if_neg hp, if_pos (by omega)]
      exact ⟨hb, by show 1 ≤ -s; omega, by rw [h3]; show -s ≤ _; omega⟩
theorem tl_ap (a b : List Run) : tlW (a ++ b) = J (tlW a) (tlW b) := by
  have fold_from : ∀ (w : List Run) (s : T5), w.foldl (fun s r => J s (rT r)) s = J s (tlW w) := by
    intro w
    induction w with
    | nil => intro s; exact (J_O s).symm
    | cons r w ih =>
      intro s
      rw [List.foldl_cons, ih]
      show _ = J s (w.foldl (fun s r => J s (rT r)) (J O5 (rT r)))
      rw [ih (J O5 (rT r)), O_J, J_assoc]
  unfold tlW
  rw [List.foldl_append, fold_from b]
  rfl
theorem leg_x (s : Int) : (tlW (leg "e" "w" s)).x = s ∧ (tlW (leg "e" "w" s)).y = 0 := by
  unfold leg
  by_cases h0 : s = 0
  · rw [if_pos h0]; exact ⟨h0.symm, rfl⟩
  · rw [if_neg h0]
    by_cases hp : 0 < s
    · rw [if_pos hp, if_neg (by omega)]
      exact ⟨by show 0 + s = s; omega, rfl⟩
    · rw [if_neg hp, if_pos (by omega)]
      exact ⟨by show 0 + -(-s) = s; omega, rfl⟩
theorem leg_y (s : Int) : (tlW (leg "n" "s" s)).y = s ∧ (tlW (leg "n" "s" s)).x = 0 := by
  unfold leg
  by_cases h0 : s = 0
  · rw [if_pos h0]; exact ⟨h0.symm, rfl⟩
  · rw [if_neg h0]
    by_cases hp : 0 < s
    · rw [if_pos hp, if_neg (by omega)]
      exact ⟨by show 0 + s = s; omega, rfl⟩
    · rw [if_neg hp, if_pos (by omega)]
      exact ⟨by show 0 + -(-s) = s; omega, rfl⟩
theorem leg_len (a b : Str) (s : Int) : (leg a b s).length ≤ 1 := by
  unfold leg
  split
  · exact Nat.zero_le _
  · exact Nat.le_refl _
theorem wl_t_ok (ns ds : List Int) (rs : List (List Run)) (k : Nat) (x4 x5 : Option Sl) (g0 g1 : Int) (x7 : Option Sl) : wl_t (E37 ns ds rs k x4 x5 g0 g1 x7) = .ok (!(decide (g0 = 0) && decide (g1 = 0))) := by
  have e : oNe (.d (.lst [.int g0, .int g1])) (.o (.ol [Sl.d (.int 0), .d (.int 0)])) = some (.d (.bl (!(decide (g0 = 0) && (decide (g1 = 0) && true))))) := rfl
  rw [Bool.and_true] at e
  unfold wl_t E37
  walk_at "ev"
def wlM (ρ : Vl.Env) : Nat := match ρ with
  | [_, _, _, _, _, _, some (.d (.lst [.int g0, .int g1])), _, _, _, _, _] => MB g0 + MB g1
  | _ => 0
def WlP (ns ds : List Int) (rs : List (List Run)) (k : Nat) (x4 x5 : Option Sl) (X Y : Int) (L : Nat) (ρ : Vl.Env) : Prop :=
  ∃ r g0 g1 x7, ρ = E37 ns ds (rs.set k r) k x4 x5 g0 g1 x7 ∧ (∀ q ∈ r, RunOk q) ∧ (tlW r).x + g0 = X ∧ (tlW r).y + g1 = Y ∧ r.length + 2 * (MB g0 + MB g1) ≤ L
theorem wl_step (ns ds : List Int) (rs : List (List Run)) (k : Nat) (hk : k < rs.length) (x4 x5 : Option Sl) (X Y : Int) (L : Nat) (hL : L ≤ 900) (ρ : Vl.Env) (h : WlP ns ds rs k x4 x5 X Y L ρ) : wl_t ρ = .ok false ∨ (wl_t ρ = .ok true ∧ ∃ ρ', wl_body ρ = some (.nx ρ') ∧ WlP ns ds rs k x4 x5 X Y L ρ' ∧ wlM ρ' < wlM ρ) := by
  obtain ⟨r, g0, g1, x7, rfl, hg, hx, hy, hl⟩ := h
  rw [wl_t_ok]
  by_cases hz : g0 = 0 ∧ g1 = 0
  · left
    rw [decide_eq_true hz.1, decide_eq_true hz.2]
    rfl
  · right
    refine ⟨?_, _, wl_turn ns ds (rs.set k r) k x4 x5 g0 g1 x7 r (by rw [List.getElem?_set_self hk]) (by omega), ?_, ?_⟩
    · have : (decide (g0 = 0) && decide (g1 = 0)) = false := by
        by_cases q : g0 = 0
        · rw [decide_eq_false (fun z => hz ⟨q, z⟩), Bool.and_false]
        · rw [decide_eq_false q, Bool.false_and]
      rw [this]
      rfl
    · have m0 := MB_step g0
      have m1 := MB_step g1
      have c0 := clB_ge g0
      have c1 := clB_ge g1
      rw [List.set_set]
      refine ⟨r ++ leg "e" "w" (clB g0) ++ leg "n" "s" (clB g1), _, _, _, rfl, ?_, ?_, ?_, ?_⟩
      · intro q m
        rcases List.mem_append.mp m with m | m
        · rcases List.mem_append.mp m with m | m
          · exact hg q m
          · exact leg_ok (.inl rfl) (.inr (.inr (.inl rfl))) c0.1 c0.2.1 q m
        · exact leg_ok (.inr (.inl rfl)) (.inr (.inr (.inr rfl))) c1.1 c1.2.1 q m
      · rw [tl_ap, tl_ap]
        show (tlW r).x + (tlW (leg "e" "w" (clB g0))).x + (tlW (leg "n" "s" (clB g1))).x + _ = _
        rw [(leg_x _).1, (leg_y _).2]
        omega
      · rw [tl_ap, tl_ap]
        show (tlW r).y + (tlW (leg "e" "w" (clB g0))).y + (tlW (leg "n" "s" (clB g1))).y + _ = _
        rw [(leg_x _).2, (leg_y _).1]
        omega
      · have l0 := leg_len "e" "w" (clB g0)
        have l1 := leg_len "n" "s" (clB g1)
        rw [List.length_append, List.length_append]
        by_cases q0 : g0 = 0
        · have q1 : g1 ≠ 0 := fun z => hz ⟨q0, z⟩
          have e0 : (leg "e" "w" (clB g0)).length = 0 := by
            rw [c0.2.2.2.2.1 q0]
            rfl
          have := m1.2 q1
          have := m0.1
          omega
        · have := m0.2 q0
          have := m1.1
          omega
    · have m0 := MB_step g0
      have m1 := MB_step g1
      show MB (g0 - clB g0) + MB (g1 - clB g1) < MB g0 + MB g1
      by_cases q0 : g0 = 0
      · have := m1.2 fun z => hz ⟨q0, z⟩
        have := m0.1
        omega
      · have := m0.2 q0
        have := m1.1
        omega
theorem wl_all (ns ds : List Int) (rs : List (List Run)) (k : Nat) (x4 x5 : Option Sl) (g0 g1 : Int) (x7 : Option Sl) (r : List Run) (hk : rs[k]? = some r) (hg : ∀ q ∈ r, RunOk q) (h0 : g0.natAbs ≤ 12000000000000000000000000000000) (h1 : g1.natAbs ≤ 12000000000000000000000000000000) (hl : r.length ≤ 6) :
    ∃ r2 x7', sWh (fun _ => 1000000000) wl_t wl_body (E37 ns ds rs k x4 x5 g0 g1 x7) = some (.nx (E37 ns ds (rs.set k r2) k x4 x5 0 0 x7')) ∧ (∀ q ∈ r2, RunOk q) ∧ (tlW r2).x = (tlW r).x + g0 ∧ (tlW r2).y = (tlW r).y + g1 ∧ r2.length ≤ 60 := by
  have hlt : k < rs.length := by
    rcases Nat.lt_or_ge k rs.length with q | q
    · exact q
    · rw [List.getElem?_eq_none q] at hk; cases hk
  have hrs : rs.set k r = rs := set_self hk
  have b0 : MB g0 ≤ 13 := by unfold MB; omega
  have b1 : MB g1 ≤ 13 := by unfold MB; omega
  obtain ⟨ρ', e4, ⟨r2, a, b, y7, rfl, q1, q2, q3, q4⟩, ht⟩ := sWh_inv (k := fun _ => 1000000000) (t := wl_t) (s := wl_body) (ρ := E37 ns ds rs k x4 x5 g0 g1 x7) (WlP ns ds rs k x4 x5 ((tlW r).x + g0) ((tlW r).y + g1) 60) wlM
    ⟨r, g0, g1, x7, by rw [hrs], hg, rfl, rfl, by omega⟩ (fun ρ h => wl_step ns ds rs k hlt x4 x5 _ _ 60 (by decide) ρ h) (by show MB g0 + MB g1 < 1000000000; omega)
  rw [wl_t_ok] at ht
  have hz : (decide (a = 0) && decide (b = 0)) = true := by
    have := R.ok.inj ht
    simpa using this
  rw [Bool.and_eq_true, decide_eq_true_eq, decide_eq_true_eq] at hz
  obtain ⟨rfl, rfl⟩ := hz
  exact ⟨r2, y7, e4, q1, by omega, by omega, by omega⟩

theorem xy_bound : ∀ (w : List Run), (∀ r ∈ w, RunOk r) → (tlW w).x.natAbs ≤ 1000000000000000000000000000000 * w.length ∧ (tlW w).y.natAbs ≤ 1000000000000000000000000000000 * w.length := by
  intro w hg
  have go : ∀ (w : List Run) (s : T5), (∀ r ∈ w, RunOk r) → (w.foldl (fun s r => J s (rT r)) s).x.natAbs ≤ s.x.natAbs + 1000000000000000000000000000000 * w.length ∧ (w.foldl (fun s r => J s (rT r)) s).y.natAbs ≤ s.y.natAbs + 1000000000000000000000000000000 * w.length := by
    intro w
    induction w with
    | nil => intro s _; exact ⟨by simp, by simp⟩
    | cons r w ih =>
      intro s hg
      have h1 := ih (J s (rT r)) fun x m => hg x (List.mem_cons_of_mem _ m)
      obtain ⟨ha, hb, hc⟩ := hg r List.mem_cons_self
      have h3 : (10 : Int) ^ 30 = 1000000000000000000000000000000 := by decide
      rw [h3] at hc
      have hr : (rT r).x.natAbs ≤ 1000000000000000000000000000000 ∧ (rT r).y.natAbs ≤ 1000000000000000000000000000000 := by
        unfold rT
        split
        · exact ⟨by show r.2.natAbs ≤ _; omega, Nat.zero_le _⟩
        · split
          · exact ⟨by show (-r.2).natAbs ≤ _; omega, Nat.zero_le _⟩
          · split
            · exact ⟨Nat.zero_le _, by show r.2.natAbs ≤ _; omega⟩
            · exact ⟨Nat.zero_le _, by show (-r.2).natAbs ≤ _; omega⟩
      have hx : (J s (rT r)).x = s.x + (rT r).x := rfl
      have hy : (J s (rT r)).y = s.y + (rT r).y := rfl
      rw [hx, hy] at h1
      rw [List.foldl_cons, List.length_cons]
      omega
  have := go w O5 hg
  have z : O5.x.natAbs = 0 ∧ O5.y.natAbs = 0 := ⟨rfl, rfl⟩
  rw [z.1, z.2, Nat.zero_add] at this
  exact this
def rd_body : SS := sSeq (sSet 5 (eCl F_l_tally (aC (e2 oIx (eV 2) (eV 3)) (aN)))) (sSeq (sSet 6 (eLst (aC (e2 iSub (e2 oIx (eV 4) (eC (.int 0))) (e2 oIx (eV 5) (eC (.int 0)))) (aC (e2 iSub (e2 oIx (eV 4) (eC (.int 1))) (e2 oIx (eV 5) (eC (.int 1)))) (aN))))) (sWh (fun _ => 1000000000) wl_t wl_body))
def F37 (ns ds : List Int) (rs : List (List Run)) (x3 : Option Sl) (s : T5) (x5 x6 x7 : Option Sl) : Vl.Env := [some (.d (.scr ns)), some (.d (.lst (ds.map D.int))), some (.ol ((rsD rs).map Sl.d)), x3, some (.d (t5 s)), x5, x6, x7, none, none, none, none]
theorem rd_turn (ns ds : List Int) (rs : List (List Run)) (k : Nat) (s : T5) (x5 x6 x7 : Option Sl) (r : List Run) (hk : rs[k]? = some r) (hg : ∀ q ∈ r, RunOk q) (hl : r.length ≤ 6) (hx : s.x.natAbs ≤ 6000000000000000000000000000000) (hy : s.y.natAbs ≤ 6000000000000000000000000000000) :
    ∃ r2 y5 y6 y7, rd_body (F37 ns ds rs (some (.d (.int (k : Int)))) s x5 x6 x7) = some (.nx (F37 ns ds (rs.set k r2) (some (.d (.int (k : Int)))) s y5 y6 y7)) ∧ (∀ q ∈ r2, RunOk q) ∧ (tlW r2).x = s.x ∧ (tlW r2).y = s.y ∧ r2.length ≤ 60 := by
  have hp := pos_of hg
  have j1 := l_tally_ok r hp.way (fun q m => by
    obtain ⟨_, a, b⟩ := hg q m
    have h3 : (10 : Int) ^ 30 = 1000000000000000000000000000000 := by decide
    rw [h3] at b
    have h4 : (1000000000000000000000000000000 : Nat) < 2 ^ 300 := by decide
    omega) (by omega)
  have bb := xy_bound r hg
  have b1 : (tlW r).x.natAbs ≤ 6000000000000000000000000000000 := by have := bb.1; omega
  have b2 : (tlW r).y.natAbs ≤ 6000000000000000000000000000000 := by have := bb.2; omega
  obtain ⟨r2, y7, hw, q1, q2, q3, q4⟩ := wl_all ns ds rs k (some (.d (t5 s))) (some (.d (t5 (tlW r)))) (s.x - (tlW r).x) (s.y - (tlW r).y) x7 r hk hg (by omega) (by omega) hl
  refine ⟨r2, some (.d (t5 (tlW r))), some (.d (.lst [.int 0, .int 0])), y7, ?_, q1, by omega, by omega, q4⟩
  have h1 := rs_at hk
  have a0 : ∀ t : T5, oIx (.d (t5 t)) (.d (.int 0)) = some (.d (.int t.x)) := fun t => rfl
  have a1 : ∀ t : T5, oIx (.d (t5 t)) (.d (.int 1)) = some (.d (.int t.y)) := fun t => rfl
  unfold E37 at hw
  clear q1 q2 q3 q4 b1 b2 bb hx hy hl hg hp hk
  unfold rd_body F37
  walk_at "ev"

/-! tidying from the other end -/
def cstep (r : Run) : List Run → List Run
  | [] => [r]
  | u :: g => if r.1 = u.1 then (r.1, r.2 + u.2) :: g else r :: u :: g
theorem cstep_pos {r u : Run} {g : List Run} (h : r.1 = u.1) : cstep r (u :: g) = (r.1, r.2 + u.2) :: g := if_pos h
theorem cstep_neg {r u : Run} {g : List Run} (h : ¬ r.1 = u.1) : cstep r (u :: g) = r :: u :: g := if_neg h
theorem tstep_cons {u v : Run} {g : List Run} {s : Run} : tstep (u :: v :: g) s = u :: tstep (v :: g) s := by
  unfold tstep
  rw [List.getLast?_cons_cons]
  cases e : (v :: g).getLast? with
  | none => simp
  | some x =>
    simp only
    split <;> simp
theorem cstep_tstep (r s : Run) : ∀ f : List Run, cstep r (tstep f s) = tstep (cstep r f) s
  | [] => by
    show cstep r [s] = tstep [r] s
    unfold cstep tstep
    simp only [List.getLast?_singleton]
    by_cases h : r.1 = s.1
    · rw [if_pos h, if_pos h, h]; rfl
    · rw [if_neg h, if_neg h]; rfl
  | [u] => by
    have e1' : tstep [u] s = if u.1 = s.1 then [(s.1, u.2 + s.2)] else [u, s] := by
      unfold tstep; simp
    rw [e1']
    by_cases h : u.1 = s.1
    · rw [if_pos h]
      by_cases h2 : r.1 = u.1
      · have h3 : r.1 = s.1 := h2.trans h
        simp only [cstep, if_pos h2, if_pos h3]
        unfold tstep
        simp [h3, Int.add_assoc]
      · have h3 : ¬ r.1 = s.1 := fun q => h2 (q.trans h.symm)
        simp only [cstep, if_neg h2, if_neg h3]
        rw [tstep_cons, e1', if_pos h]
    · rw [if_neg h]
      by_cases h2 : r.1 = u.1
      · have h3 : ¬ r.1 = s.1 := fun q => h (h2.symm.trans q)
        simp only [cstep, if_pos h2]
        unfold tstep
        simp [h3]
      · simp only [cstep, if_neg h2]
        rw [tstep_cons, e1', if_neg h]
  | u :: v :: g => by
    rw [tstep_cons]
    by_cases h2 : r.1 = u.1
    · simp only [cstep, if_pos h2]
      rw [tstep_cons]
    · simp only [cstep, if_neg h2]
      rw [tstep_cons, tstep_cons]
theorem foldl_cstep (r : Run) : ∀ (w f : List Run), w.foldl tstep (cstep r f) = cstep r (w.foldl tstep f)
  | [], _ => rfl
  | s :: w, f => by rw [List.foldl_cons, List.foldl_cons, ← cstep_tstep, foldl_cstep r w]
theorem tidy_cons (r : Run) (w : List Run) : tidyW (r :: w) = cstep r (tidyW w) := by
  show w.foldl tstep (tstep [] r) = _
  rw [show tstep [] r = cstep r [] from rfl, foldl_cstep]
  rfl
theorem tstep_rev (f : List Run) (r : Run) : (tstep f r).reverse = cstep r f.reverse := by
  rcases List.eq_nil_or_concat f with rfl | ⟨g, u, rfl⟩
  · rfl
  · rw [List.concat_eq_append, tstep_concat, List.reverse_append]
    show _ = cstep r (u :: g.reverse)
    by_cases h : u.1 = r.1
    · rw [if_pos h, cstep_pos h.symm, Int.add_comm]
      simp
    · rw [if_neg h, cstep_neg fun q => h q.symm]
      simp
theorem tidy_rev : ∀ w : List Run, tidyW w.reverse = (tidyW w).reverse
  | [] => rfl
  | r :: w => by
    rw [tidy_cons, List.reverse_cons]
    show (w.reverse ++ [r]).foldl tstep [] = _
    rw [List.foldl_append]
    show tstep (tidyW w.reverse) r = _
    rw [tidy_rev w, ← List.reverse_reverse (tstep (tidyW w).reverse r), tstep_rev, List.reverse_reverse]
/-! other names for the ways -/
def relW (p : Str → Str) (w : List Run) : List Run := w.map fun r => (p r.1, r.2)
theorem relW_len (p : Str → Str) (w : List Run) : (relW p w).length = w.length := by unfold relW; rw [List.length_map]
theorem tidy_rel {p : Str → Str} (hp : ∀ a b, WayOk a → WayOk b → p a = p b → a = b) : ∀ w : List Run, WayW w → tidyW (relW p w) = relW p (tidyW w)
  | [], _ => rfl
  | r :: w, h => by
    have hw : WayW w := fun x m => h x (List.mem_cons_of_mem _ m)
    have ht : WayW (tidyW w) := foldl_way w [] (fun _ m => nomatch m) hw
    show tidyW ((p r.1, r.2) :: relW p w) = _
    rw [tidy_cons, tidy_cons, tidy_rel hp w hw]
    cases e : tidyW w with
    | nil => rfl
    | cons u g =>
      have hu : WayOk u.1 := ht u (by rw [e]; exact List.mem_cons_self)
      have hr : WayOk r.1 := h r List.mem_cons_self
      show cstep (p r.1, r.2) ((p u.1, u.2) :: relW p g) = relW p (cstep r (u :: g))
      by_cases q : r.1 = u.1
      · rw [cstep_pos q, cstep_pos (show p r.1 = p u.1 by rw [q])]
        rfl
      · rw [cstep_neg q, cstep_neg (r := (p r.1, r.2)) (u := (p u.1, u.2)) (fun z => q (hp _ _ hr hu z))]
        rfl
theorem relW_rev (p : Str → Str) (w : List Run) : relW p w.reverse = (relW p w).reverse := by unfold relW; rw [List.map_reverse]
theorem relW_way {p : Str → Str} (hp : ∀ a, WayOk a → WayOk (p a)) {w : List Run} (h : WayW w) : WayW (relW p w) := fun x mx => by
  obtain ⟨r, m, rfl⟩ := List.mem_map.mp mx
  exact hp _ (h r m)
theorem relW_ok {p : Str → Str} (hp : ∀ a, WayOk a → WayOk (p a)) {w : List Run} (h : ∀ r ∈ w, RunOk r) : ∀ r ∈ relW p w, RunOk r := fun x mx => by
  obtain ⟨r, m, rfl⟩ := List.mem_map.mp mx
  exact ⟨hp _ (h r m).1, (h r m).2⟩
theorem wD_rel (p : Str → Str) (w : List Run) : wD (relW p w) = w.map fun r => D.tup [.str (p r.1), .int r.2] := by
  unfold wD relW
  rw [List.map_map]
  rfl
/-- a comprehension that names the ways anew -/
theorem eLc_rel {src : Vl.Env → R (List D)} {te : Vl.Env → R Val} {ρ : Vl.Env} {w : List Run} (p : Str → Str) (h0 : src ρ = .ok (wD w)) (h3 : ρ.length = 3) (hw : w.length ≤ 10000) (hy : WayW w)
    (h : ∀ (r : Run) (x : Option Sl), WayOk r.1 → te [x, some (.d (.str r.1)), some (.d (.int r.2))] = .ok (.d (.tup [.str (p r.1), .int r.2]))) :
    eLc [1, 2] src (gT (gC (gV 1) (gC (gV 2) (gN)))) tYs te ρ = .ok (.o (.ol ((wD (relW p w)).map Sl.d))) := by
  obtain ⟨a, b, c, rfl⟩ : ∃ a b c, ρ = [a, b, c] := by
    match ρ, h3 with
    | [a, b, c], _ => exact ⟨a, b, c, rfl⟩
  have := eLc_map (vs := [1, 2]) (src := src) (gs := gT (gC (gV 1) (gC (gV 2) (gN)))) (te := te) (ρ := [a, b, c]) (ds := wD w)
    (fun d => match d with | .tup [.str y, n] => .tup [.str (p y), n] | _ => .non) h0 (fun d mx => by
      obtain ⟨r, m, rfl⟩ := List.mem_map.mp mx
      exact ⟨[a, some (.d (.str r.1)), some (.d (.int r.2))], .d (.tup [.str (p r.1), .int r.2]), rfl, h r a (hy r m), rfl⟩) (by unfold wD; rw [List.length_map]; omega)
  rw [this]
  have e : (wD w).map (fun d => match d with | .tup [.str y, n] => D.tup [.str (p y), n] | _ => .non) = wD (relW p w) := by
    unfold wD relW
    rw [List.map_map, List.map_map]
    rfl
  rw [← e]
theorem find_ok {f g : Vl.Env → R Val} {ρ : Vl.Env} {a b : Str} {i : Int} (h1 : f ρ = .ok (.d (.str a))) (h2 : g ρ = .ok (.d (.str b))) (h3 : Txt.find a b = i) : e2m sFind f g ρ = .ok (.d (.int i)) := by
  unfold e2m
  rw [h1]
  show (g ρ >>= fun y => R.of (sFind (.d (.str a)) y)) = _
  rw [h2, ← h3]
  rfl
def wayN (z : Str) : Int := if z = "e" then 0 else if z = "n" then 1 else if z = "w" then 2 else 3
theorem find_way {z : Str} (h : WayOk z) : Txt.find "enws" z = wayN z := by
  rcases h with rfl | rfl | rfl | rfl <;> decide +kernel

def con (z : Str) : Str := if z = "e" then "w" else if z = "w" then "e" else if z = "n" then "s" else if z = "s" then "n" else z
theorem con_way (z : Str) (h : WayOk z) : WayOk (con z) := by
  rcases h with rfl | rfl | rfl | rfl
  · exact .inr (.inr (.inl rfl))
  · exact .inr (.inr (.inr rfl))
  · exact .inl rfl
  · exact .inr (.inl rfl)
theorem con_con (z : Str) (h : WayOk z) : con (con z) = z := by
  rcases h with rfl | rfl | rfl | rfl <;> rfl
theorem con_inj (a b : Str) (ha : WayOk a) (hb : WayOk b) (h : con a = con b) : a = b := by
  rw [← con_con a ha, ← con_con b hb, h]
def backW (w : List Run) : List Run := relW con w.reverse
theorem rev_way {w : List Run} (h : WayW w) : WayW w.reverse := fun r m => h r (List.mem_reverse.mp m)
theorem backW_way {w : List Run} (h : WayW w) : WayW (backW w) := relW_way con_way (rev_way h)
theorem backW_ok {w : List Run} (h : ∀ r ∈ w, RunOk r) : ∀ r ∈ backW w, RunOk r := relW_ok con_way fun r m => h r (List.mem_reverse.mp m)
theorem backW_len (w : List Run) : (backW w).length = w.length := by unfold backW; rw [relW_len, List.length_reverse]
theorem tidy_back {w : List Run} (h : WayW w) : tidyW (backW w) = backW (tidyW w) := by
  unfold backW
  rw [tidy_rel con_inj _ (rev_way h), tidy_rev]
theorem back_back {w : List Run} (h : WayW w) : backW (backW w) = w := by
  unfold backW
  rw [← relW_rev, List.reverse_reverse]
  unfold relW
  rw [List.map_map]
  conv => rhs; rw [← List.map_id w]
  apply List.map_congr_left
  intro r m
  show (con (con r.1), r.2) = r
  rw [con_con _ (h r m)]
theorem rev_wD (w : List Run) : (wD w).reverse = wD w.reverse := by unfold wD; rw [List.map_reverse]
theorem l_gone_back_ok (w : List Run) (hw : w.length ≤ 10000) (hy : WayW w) : clK F_l_gone_back (.ok [.lst (wD w)]) = .ok (.o (.ol ((wD (backW w)).map Sl.d))) := by
  have src : iL (e1 oRev (eV 0)) [some (.d (.lst (wD w))), none, none] = .ok (wD w.reverse) := by
    have := iL_o (f := e1 oRev (eV 0)) (ρ := [some (.d (.lst (wD w))), none, none]) (l := (wD w).reverse) rfl
    rw [this, rev_wD]
  have e := eLc_rel (te := eTup (aC (e2 oIx (eC (.str "wsen")) (e2m sFind (eC (.str "enws")) (eV 1))) (aC (eV 2) (aN)))) con src rfl (by rw [List.length_reverse]; exact hw) (rev_way hy) (fun r x h => by
    obtain ⟨y, n⟩ := r
    have hf := find_ok (f := eC (.str "enws")) (g := eV 1) (ρ := [x, some (.d (.str y)), some (.d (.int n))]) rfl rfl (find_way h)
    have hi : oIx (.d (.str "wsen")) (.d (.int (wayN y))) = some (.d (.str (con y))) := by
      rcases h with h | h | h | h <;> (have h : y = _ := h; subst h; rfl)
    walk_at "ev")
  have : F_l_gone_back [.lst (wD w)] = .ok (.ol ((wD (backW w)).map Sl.d)) := by
    unfold F_l_gone_back sm_l_gone_back
    rw [nox_run, sRet_ap, show env0 N_l_gone_back.length [.lst (wD w)] = [some (.d (.lst (wD w))), none, none] from rfl, e]
    rfl
  exact clK_ok this
def U (s : T5) : T5 := ⟨0 - s.x, 0 - s.y, s.x * s.y - s.a, 2 * s.x * s.a - s.x * s.x * s.y - s.b, 2 * s.y * s.a - s.x * s.y * s.y - s.c⟩
theorem U_Ju (s t : T5) : U (J s t) = J (U t) (U s) := by apply t5_eq <;> simp only [J, U] <;> grind
theorem tlW_snoc (w : List Run) (r : Run) : tlW (w ++ [r]) = J (tlW w) (rT r) := by unfold tlW; rw [List.foldl_append]; rfl
theorem tl_cons (r : Run) (w : List Run) : tlW (r :: w) = J (rT r) (tlW w) := by
  have := tl_ap [r] w
  rw [show tlW [r] = J O5 (rT r) from rfl, O_J] at this
  exact this
theorem U_rT (r : Run) (h : WayOk r.1) : U (rT r) = rT (con r.1, r.2) := by
  obtain ⟨y, n⟩ := r
  rcases h with h | h | h | h <;> (have h : y = _ := h; subst h)
  · show U ⟨n, 0, 0, 0, 0⟩ = ⟨-n, 0, 0, 0, 0⟩
    apply t5_eq <;> simp only [U] <;> grind
  · show U ⟨0, n, 0, 0, 0⟩ = ⟨0, -n, 0, 0, 0⟩
    apply t5_eq <;> simp only [U] <;> grind
  · show U ⟨-n, 0, 0, 0, 0⟩ = ⟨n, 0, 0, 0, 0⟩
    apply t5_eq <;> simp only [U] <;> grind
  · show U ⟨0, -n, 0, 0, 0⟩ = ⟨0, n, 0, 0, 0⟩
    apply t5_eq <;> simp only [U] <;> grind
theorem tl_back : ∀ {w : List Run}, WayW w → tlW (backW w) = U (tlW w)
  | [], _ => by
    show O5 = U O5
    apply t5_eq <;> simp only [U, O5] <;> grind
  | r :: w, h => by
    have ih := tl_back (w := w) fun x m => h x (List.mem_cons_of_mem _ m)
    have e : backW (r :: w) = backW w ++ [(con r.1, r.2)] := by
      unfold backW relW
      rw [List.reverse_cons, List.map_append]
      rfl
    rw [e, tlW_snoc, tl_cons, U_Ju, ih, ← U_rT r (h r List.mem_cons_self)]

theorem land_ok (s t : T5) (hx : s.x = t.x) (hy : s.y = t.y) : clK F_land_between (.ok [t5 s, t5 t]) = .ok (.d (.int (s.a - t.a))) := by
  have e1' : eSl (eV 0) pN (pS (eC (.int 2))) [some (.d (t5 s)), some (.d (t5 t))] = .ok (.d (.tup [.int s.x, .int s.y])) := rfl
  have e2' : eSl (eV 1) pN (pS (eC (.int 2))) [some (.d (t5 s)), some (.d (t5 t))] = .ok (.d (.tup [.int t.x, .int t.y])) := rfl
  have ne : oNe (.d (.tup [.int s.x, .int s.y])) (.d (.tup [.int t.x, .int t.y])) = some (.d (.bl false)) := by
    rw [hx, hy]
    have e : oNe (.d (.tup [.int t.x, .int t.y])) (.d (.tup [.int t.x, .int t.y])) = some (.d (.bl (!(decide (t.x = t.x) && (decide (t.y = t.y) && true))))) := rfl
    rw [e, decide_eq_true rfl, decide_eq_true rfl]
    rfl
  have a2 : ∀ u : T5, oIx (.d (t5 u)) (.d (.int 2)) = some (.d (.int u.a)) := fun u => rfl
  have : F_land_between [t5 s, t5 t] = .ok (.d (.int (s.a - t.a))) := by
    clear hx hy
    unfold F_land_between sm_land_between
    walk_at "ev"
  rw [clK_ok this]
  rfl
theorem between_ok (w v : List Run) (hw : w.length ≤ 200) (hv : v.length ≤ 200) (gw : ∀ r ∈ w, RunOk r) (gv : ∀ r ∈ v, RunOk r) (hx : (tlW w).x = (tlW v).x) (hy : (tlW w).y = (tlW v).y) : clK F_between (.ok [.lst (wD w), .lst (wD v)]) = .ok (.d (.int ((tlW w).a - (tlW v).a))) := by
  have nb : ∀ u : List Run, (∀ r ∈ u, RunOk r) → ∀ r ∈ u, r.2.natAbs < 2 ^ 300 := fun u h q m => by
    obtain ⟨_, a, b⟩ := h q m
    have h3 : (10 : Int) ^ 30 = 1000000000000000000000000000000 := by decide
    rw [h3] at b
    have h4 : (1000000000000000000000000000000 : Nat) < 2 ^ 300 := by decide
    omega
  have j1 := clK_ok (look_ok w hw gw)
  have j2 := clK_ok (look_ok v hv gv)
  have j3 : clK F_tally_of (.ok [.lst (wD w)]) = .ok (.d (t5 (tlW w))) := clK_ok (tally_of_ok w (pos_of gw).way (nb w gw) (by omega))
  have j4 : clK F_tally_of (.ok [.lst (wD v)]) = .ok (.d (t5 (tlW v))) := clK_ok (tally_of_ok v (pos_of gv).way (nb v gv) (by omega))
  have j5 := land_ok _ _ hx hy
  have : F_between [.lst (wD w), .lst (wD v)] = .ok (.d (.int ((tlW w).a - (tlW v).a))) := by
    clear hx hy hw hv gw gv nb
    unfold F_between sm_between
    walk_at "ev"
  rw [clK_ok this]
  rfl
theorem lcat (a b : List Run) (ha : a.length ≤ 1000) (hb : b.length ≤ 1000) : lAdd (.d (.lst (wD a))) (.o (.ol ((wD b).map Sl.d))) = some (.o (.ol ((wD (a ++ b)).map Sl.d))) ∧ lAdd (.d (.lst (wD a))) (.d (.lst (wD b))) = some (.o (.ol ((wD (a ++ b)).map Sl.d))) := by
  have l1 : (wD a).length = a.length := by unfold wD; rw [List.length_map]
  have l2 : (wD b).length = b.length := by unfold wD; rw [List.length_map]
  have hi : (Val.o (.ol ((wD b).map Sl.d))).items = some (wD b) := allD_map _
  constructor
  · unfold lAdd
    rw [hi]
    show (if (wD a).length + (wD b).length ≤ 16777216 then some (Val.o (.ol ((wD a ++ wD b).map Sl.d))) else none) = _
    rw [if_pos (by omega), wD_app]
  · show (if (wD a).length + (wD b).length ≤ 16777216 then some (Val.o (.ol ((wD a ++ wD b).map Sl.d))) else none) = _
    rw [if_pos (by omega), wD_app]

theorem law_true : ∀ ns : List Int, ns.length ≤ 63 → F_law [.scr ns] = .ok (.d (.bl true)) := by
  intro ns hn
  obtain ⟨ds, e, hl, hd⟩ := draws_ok ns hn 100 (by decide)
  have q1 : clK F_l_draws (.ok [.scr ns, .int 100]) = .ok (.o (.ol ((ds.map D.int).map Sl.d))) := clK_ok e
  have sw : ∀ k : Nat, k ≤ 76 → ∃ w : List Run, clK F_l_some_walk (.ok [.lst ((ds.drop k).map D.int), .int 6]) = .ok (.o (.ol ((wD w).map Sl.d))) ∧ w.length ≤ 6 ∧ ∀ r ∈ w, RunOk r := fun k hk => by
    obtain ⟨w, ew, hw, gw⟩ := some_walk_ok (ds.drop k) 6 (by decide) (fun d m => hd d (List.mem_of_mem_drop m)) (by rw [List.length_drop]; omega)
    exact ⟨w, clK_ok ew, hw, gw⟩
  have sl : ∀ (k : Nat) (ρ : Vl.Env) (f : Vl.Env → R Val), eV 1 ρ = .ok (.d (.lst (ds.map D.int))) → f ρ = .ok (.d (.int (k : Int))) → eSl (eV 1) (pS f) pN ρ = .ok (.o (.ol (((ds.drop k).map D.int).map Sl.d))) := fun k ρ f h h2 => by
    have hp : pS f ρ = .ok (some (k : Int)) := by rw [pS_ap, h2, pSK_i]
    rw [eSl_ok (x := .d (.lst (ds.map D.int))) (l := some (k : Int)) (u := none) h hp rfl, oSl_l, cutD_drop, ← List.map_drop]
    rfl
  have hc : ∃ r0 r1 r2 : List Run, eLc [3] (iR1 (eC (.int 3))) (gV 3) tYs (eCl F_l_some_walk (aC (eSl (eV 1) (pS (e2 iAdd (eC (.int 2)) (e2 iMul (eC (.int 22)) (eV 3)))) (pN)) (aC (eC (.int 6)) (aN)))) [some (.d (.scr ns)), some (.d (.lst (ds.map D.int))), none, none, none, none, none, none, none, none, none, none] = .ok (.o (.ol ((rsD [r0, r1, r2]).map Sl.d))) ∧ (r0.length ≤ 6 ∧ ∀ r ∈ r0, RunOk r) ∧ (r1.length ≤ 6 ∧ ∀ r ∈ r1, RunOk r) ∧ (r2.length ≤ 6 ∧ ∀ r ∈ r2, RunOk r) := by
    obtain ⟨k, hk, he⟩ := eLc_ex (vs := [3]) (src := iR1 (eC (.int 3))) (gs := gV 3) (te := eCl F_l_some_walk (aC (eSl (eV 1) (pS (e2 iAdd (eC (.int 2)) (e2 iMul (eC (.int 22)) (eV 3)))) (pN)) (aC (eC (.int 6)) (aN)))) (ρ := [some (.d (.scr ns)), some (.d (.lst (ds.map D.int))), none, none, none, none, none, none, none, none, none, none]) (ds := rngD 0 3)
      (fun _ x => ∃ w : List Run, x = .lst (wD w) ∧ w.length ≤ 6 ∧ ∀ r ∈ w, RunOk r) rfl (by
        intro d m
        obtain ⟨i, rfl, h1⟩ := rngD_mem m
        obtain ⟨w, ew, hw, gw⟩ := sw (2 + 22 * i) (by omega)
        have c1 : cMul 22 (i : Int) = true := cMul_l (by decide)
        have mi : ((2 + 22 * i : Nat) : Int) = 2 + 22 * (i : Int) := by omega
        have s1 := sl (2 + 22 * i) [some (.d (.scr ns)), some (.d (.lst (ds.map D.int))), none, some (.d (.int (i : Int))), none, none, none, none, none, none, none, none] (e2 iAdd (eC (.int 2)) (e2 iMul (eC (.int 22)) (eV 3))) rfl (by
          rw [mi]
          clear sl sw hd hl e q1 hn ew gw hw
          walk_at "ev")
        refine ⟨[some (.d (.scr ns)), some (.d (.lst (ds.map D.int))), none, some (.d (.int (0 + (i : Int)))), none, none, none, none, none, none, none, none], .o (.ol ((wD w).map Sl.d)), .lst (wD w), rfl, ?_, (by show R.of (Sl.ol ((wD w).map Sl.d)).frz = _; rw [frz_ol]; rfl), w, rfl, hw, gw⟩
        rw [Int.zero_add]
        clear sl sw hd hl e q1 hn gw hw mi
        walk_at "ev") (by decide)
    rw [show rngD 0 3 = [.int 0, .int 1, .int 2] from rfl] at hk he
    obtain ⟨r0, hx, h0⟩ := hk (.int 0) (by simp)
    obtain ⟨r1, hy, h1⟩ := hk (.int 1) (by simp)
    obtain ⟨r2, ha, h2⟩ := hk (.int 2) (by simp)
    rw [show ([D.int 0, .int 1, .int 2].map k) = [k (.int 0), k (.int 1), k (.int 2)] from rfl, hx, hy, ha] at he
    exact ⟨r0, r1, r2, he, h0, h1, h2⟩
  obtain ⟨r0, r1, r2, hc, ⟨n0, g0⟩, ⟨n1, g1⟩, ⟨n2, g2⟩⟩ := hc
  have nb : ∀ u : List Run, (∀ r ∈ u, RunOk r) → ∀ r ∈ u, r.2.natAbs < 2 ^ 300 := fun u h q m => by
    obtain ⟨_, a, b⟩ := h q m
    have h3 : (10 : Int) ^ 30 = 1000000000000000000000000000000 := by decide
    rw [h3] at b
    have h4 : (1000000000000000000000000000000 : Nat) < 2 ^ 300 := by decide
    omega
  have j1 := l_tally_ok r0 (pos_of g0).way (nb r0 g0) (by omega)
  have xb := xy_bound r0 g0
  have bx : (tlW r0).x.natAbs ≤ 6000000000000000000000000000000 := by have := xb.1; omega
  have bY : (tlW r0).y.natAbs ≤ 6000000000000000000000000000000 := by have := xb.2; omega
  obtain ⟨A, y5, y6, y7, t1, gA, xA, yA, nA⟩ := rd_turn ns ds [r0, r1, r2] 1 (tlW r0) none none none r1 rfl g1 n1 bx bY
  obtain ⟨B, z5, z6, z7, t2, gB, xB, yB, nB⟩ := rd_turn ns ds [r0, A, r2] 2 (tlW r0) y5 y6 y7 r2 rfl g2 n2 bx bY
  have f1 : sFor (iR2 (eC (.int 1)) (eC (.int 3))) (gV 3) rd_body (F37 ns ds [r0, r1, r2] none (tlW r0) none none none) = some (.nx (F37 ns ds [r0, A, B] (some (.d (.int 2))) (tlW r0) z5 z6 z7)) := by
    rw [sFor_ap (ds := [.int 1, .int 2]) rfl]
    rw [forL_nx (ρ1 := F37 ns ds [r0, r1, r2] (some (.d (.int 1))) (tlW r0) none none none) (ρ2 := F37 ns ds [r0, A, r2] (some (.d (.int 1))) (tlW r0) y5 y6 y7) rfl t1]
    rw [forL_nx (ρ1 := F37 ns ds [r0, A, r2] (some (.d (.int 2))) (tlW r0) y5 y6 y7) (ρ2 := F37 ns ds [r0, A, B] (some (.d (.int 2))) (tlW r0) z5 z6 z7) rfl t2]
    exact forL_nil
  obtain ⟨mo, em, nm, gm⟩ := sw 72 (by decide)
  have s72 : eSl (eV 1) (pS (eC (.int 72))) pN [some (.d (.scr ns)), some (.d (.lst (ds.map D.int))), some (.ol ((rsD [r0, A, B]).map Sl.d)), some (.d (.int 2)), some (.d (t5 (tlW r0))), z5, z6, z7, none, none, none, none] = .ok (.o (.ol (((ds.drop 72).map D.int).map Sl.d))) := sl 72 _ _ rfl rfl
  have b01 := between_ok r0 A (by omega) (by omega) g0 gA xA.symm yA.symm
  have b12 := between_ok A B (by omega) (by omega) gA gB (by rw [xA, xB]) (by rw [yA, yB])
  have b20 := between_ok B r0 (by omega) (by omega) gB g0 xB yB
  have b10 := between_ok A r0 (by omega) (by omega) gA g0 xA yA
  have ol : ∀ w, oList (.d (.lst (wD w))) = some (.o (.ol ((wD w).map Sl.d))) := fun w => rfl
  have at0 : oIx (.b (.ol ((rsD [r0, A, B]).map Sl.d))) (.d (.int 0)) = some (.d (.lst (wD r0))) := rs_at (k := 0) rfl
  have at1 : oIx (.b (.ol ((rsD [r0, A, B]).map Sl.d))) (.d (.int 1)) = some (.d (.lst (wD A))) := rs_at (k := 1) rfl
  have at2 : oIx (.b (.ol ((rsD [r0, A, B]).map Sl.d))) (.d (.int 2)) = some (.d (.lst (wD B))) := rs_at (k := 2) rfl
  have hF : eLc [3] (iR1 (eC (.int 3))) (gV 3) tYs (eCl F_between (aC (e1 oList (e2 oIx (eV 2) (eV 3))) (aC (e1 oList (e2 oIx (eV 2) (e2 iMod (e2 iAdd (eV 3) (eC (.int 1))) (eC (.int 3))))) (aN)))) [some (.d (.scr ns)), some (.d (.lst (ds.map D.int))), some (.ol ((rsD [r0, A, B]).map Sl.d)), some (.d (.int 2)), some (.d (t5 (tlW r0))), z5, z6, z7, some (.d (.lst (wD mo))), none, none, none] = .ok (.o (.ol ([D.int ((tlW r0).a - (tlW A).a), .int ((tlW A).a - (tlW B).a), .int ((tlW B).a - (tlW r0).a)].map Sl.d))) := by
    have := eLc_map (vs := [3]) (src := iR1 (eC (.int 3))) (gs := gV 3) (te := eCl F_between (aC (e1 oList (e2 oIx (eV 2) (eV 3))) (aC (e1 oList (e2 oIx (eV 2) (e2 iMod (e2 iAdd (eV 3) (eC (.int 1))) (eC (.int 3))))) (aN)))) (ρ := [some (.d (.scr ns)), some (.d (.lst (ds.map D.int))), some (.ol ((rsD [r0, A, B]).map Sl.d)), some (.d (.int 2)), some (.d (t5 (tlW r0))), z5, z6, z7, some (.d (.lst (wD mo))), none, none, none]) (ds := [.int 0, .int 1, .int 2])
      (fun d => match d with | .int 0 => .int ((tlW r0).a - (tlW A).a) | .int 1 => .int ((tlW A).a - (tlW B).a) | _ => .int ((tlW B).a - (tlW r0).a)) rfl (by
        intro d m
        have c1 : ∀ i : Int, cMod i 3 = true := fun i => cMod_p (by decide)
        have i1 : (0 + 1 : Int) % 3 = 1 := by decide
        have i2 : (1 + 1 : Int) % 3 = 2 := by decide
        have i3 : (2 + 1 : Int) % 3 = 0 := by decide
        rcases List.mem_cons.mp m with rfl | m
        · refine ⟨[some (.d (.scr ns)), some (.d (.lst (ds.map D.int))), some (.ol ((rsD [r0, A, B]).map Sl.d)), some (.d (.int 0)), some (.d (t5 (tlW r0))), z5, z6, z7, some (.d (.lst (wD mo))), none, none, none], .d (.int ((tlW r0).a - (tlW A).a)), rfl, ?_, rfl⟩
          generalize rsD [r0, A, B] = RS at *
          clear f1 t1 t2 hc sl sw nb gA gB g0 g1 g2 gm xA xB yA yB
          walk_at "ev"
        rcases List.mem_cons.mp m with rfl | m
        · refine ⟨[some (.d (.scr ns)), some (.d (.lst (ds.map D.int))), some (.ol ((rsD [r0, A, B]).map Sl.d)), some (.d (.int 1)), some (.d (t5 (tlW r0))), z5, z6, z7, some (.d (.lst (wD mo))), none, none, none], .d (.int ((tlW A).a - (tlW B).a)), rfl, ?_, rfl⟩
          generalize rsD [r0, A, B] = RS at *
          clear f1 t1 t2 hc sl sw nb gA gB g0 g1 g2 gm xA xB yA yB
          walk_at "ev"
        · rw [List.mem_singleton.mp m]
          refine ⟨[some (.d (.scr ns)), some (.d (.lst (ds.map D.int))), some (.ol ((rsD [r0, A, B]).map Sl.d)), some (.d (.int 2)), some (.d (t5 (tlW r0))), z5, z6, z7, some (.d (.lst (wD mo))), none, none, none], .d (.int ((tlW B).a - (tlW r0).a)), rfl, ?_, rfl⟩
          generalize rsD [r0, A, B] = RS at *
          clear f1 t1 t2 hc sl sw nb gA gB g0 g1 g2 gm xA xB yA yB
          walk_at "ev") (by show 3 ≤ 16777216; decide)
    exact this
  have sm : oSum (.d (.lst [.int ((tlW r0).a - (tlW A).a), .int ((tlW A).a - (tlW B).a), .int ((tlW B).a - (tlW r0).a)])) = some (.d (.int 0)) := by
    have e : oSum (.d (.lst [.int ((tlW r0).a - (tlW A).a), .int ((tlW A).a - (tlW B).a), .int ((tlW B).a - (tlW r0).a)])) = some (.d (.int ([(tlW r0).a - (tlW A).a, (tlW A).a - (tlW B).a, (tlW B).a - (tlW r0).a].sum))) := rfl
    rw [e]
    have : [(tlW r0).a - (tlW A).a, (tlW A).a - (tlW B).a, (tlW B).a - (tlW r0).a].sum = 0 := by
      simp only [List.sum_cons, List.sum_nil]
      omega
    rw [this]
  have ng : ¬ ((tlW A).a - (tlW r0).a ≠ -((tlW r0).a - (tlW A).a)) := by omega
  have ng2 : (tlW A).a - (tlW r0).a = -((tlW r0).a - (tlW A).a) := by omega
  have fx : ∀ a b c : Int, atI [D.int a, .int b, .int c] 0 = some (.int a) := fun _ _ _ => rfl
  have jb := l_gone_back_ok A (by omega) (pos_of gA).way
  have gBk := backW_ok gA
  have nBk := backW_len A
  have lc1 := (lcat r0 (backW A) (by omega) (by omega)).1
  have gAll : ∀ r ∈ r0 ++ backW A, RunOk r := fun r m => (List.mem_append.mp m).elim (g0 r) (gBk r)
  have jt := tally_ok (r0 ++ backW A) (by rw [List.length_append]; omega) gAll
  have tt : tlW (r0 ++ backW A) = J (tlW r0) (U (tlW A)) := by rw [tl_ap, tl_back (pos_of gA).way]
  have ts : eSl (eCl F_tally (aC (e2 lAdd (e2 oIx (eV 2) (eC (.int 0))) (eCl F_l_gone_back (aC (e2 oIx (eV 2) (eC (.int 1))) (aN)))) (aN))) pN (pS (eC (.int 3))) [some (.d (.scr ns)), some (.d (.lst (ds.map D.int))), some (.ol ((rsD [r0, A, B]).map Sl.d)), some (.d (.int 2)), some (.d (t5 (tlW r0))), z5, z6, z7, some (.d (.lst (wD mo))), some (.d (.lst [.int ((tlW r0).a - (tlW A).a), .int ((tlW A).a - (tlW B).a), .int ((tlW B).a - (tlW r0).a)])), none, none] = .ok (.d (.tup [.int 0, .int 0, .int ((tlW r0).a - (tlW A).a)])) := by
    have x0 : (tlW (r0 ++ backW A)).x = 0 := by rw [tt]; show (tlW r0).x + (0 - (tlW A).x) = 0; omega
    have y0 : (tlW (r0 ++ backW A)).y = 0 := by rw [tt]; show (tlW r0).y + (0 - (tlW A).y) = 0; omega
    have a0 : (tlW (r0 ++ backW A)).a = (tlW r0).a - (tlW A).a := by
      rw [tt]
      show (tlW r0).a + ((tlW A).x * (tlW A).y - (tlW A).a) + (tlW r0).x * (0 - (tlW A).y) = _
      rw [xA, Int.mul_sub, Int.mul_zero]
      omega
    have ev : eCl F_tally (aC (e2 lAdd (e2 oIx (eV 2) (eC (.int 0))) (eCl F_l_gone_back (aC (e2 oIx (eV 2) (eC (.int 1))) (aN)))) (aN)) [some (.d (.scr ns)), some (.d (.lst (ds.map D.int))), some (.ol ((rsD [r0, A, B]).map Sl.d)), some (.d (.int 2)), some (.d (t5 (tlW r0))), z5, z6, z7, some (.d (.lst (wD mo))), some (.d (.lst [.int ((tlW r0).a - (tlW A).a), .int ((tlW A).a - (tlW B).a), .int ((tlW B).a - (tlW r0).a)])), none, none] = .ok (.d (t5 (tlW (r0 ++ backW A)))) := by
      generalize rsD [r0, A, B] = RS at *
      clear f1 t1 t2 hc hF sl sw nb gA gB g0 g1 g2 gm xA xB yA yB gAll gBk tt ng
      walk_at "ev"
    rw [eSl_ok (x := .d (t5 (tlW (r0 ++ backW A)))) (l := none) (u := some 3) ev rfl rfl]
    show R.ok (Val.d (.tup [.int (tlW (r0 ++ backW A)).x, .int (tlW (r0 ++ backW A)).y, .int (tlW (r0 ++ backW A)).a])) = _
    rw [x0, y0, a0]
  have ne3 : ∀ x : Int, oNe (.d (.tup [.int 0, .int 0, .int x])) (.d (.tup [.int 0, .int 0, .int x])) = some (.d (.bl false)) := fun x => by
    have e : oNe (.d (.tup [.int 0, .int 0, .int x])) (.d (.tup [.int 0, .int 0, .int x])) = some (.d (.bl (!(decide ((0 : Int) = 0) && (decide ((0 : Int) = 0) && (decide (x = x) && true)))))) := rfl
    rw [e, decide_eq_true (rfl : x = x)]
    rfl
  have lm0 := (lcat mo r0 (by omega) (by omega)).2
  have lmA := (lcat mo A (by omega) (by omega)).2
  have l0m := (lcat r0 mo (by omega) (by omega)).2
  have lAm := (lcat A mo (by omega) (by omega)).2
  have gap : ∀ u v : List Run, (∀ r ∈ u, RunOk r) → (∀ r ∈ v, RunOk r) → ∀ r ∈ u ++ v, RunOk r := fun u v a b r m => (List.mem_append.mp m).elim (a r) (b r)
  have k1 := between_ok (mo ++ r0) (mo ++ A) (by rw [List.length_append]; omega) (by rw [List.length_append]; omega) (gap _ _ gm g0) (gap _ _ gm gA) (by rw [tl_ap, tl_ap]; show (tlW mo).x + (tlW r0).x = (tlW mo).x + (tlW A).x; omega) (by rw [tl_ap, tl_ap]; show (tlW mo).y + (tlW r0).y = (tlW mo).y + (tlW A).y; omega)
  have k2 := between_ok (r0 ++ mo) (A ++ mo) (by rw [List.length_append]; omega) (by rw [List.length_append]; omega) (gap _ _ g0 gm) (gap _ _ gA gm) (by rw [tl_ap, tl_ap]; show (tlW r0).x + (tlW mo).x = (tlW A).x + (tlW mo).x; omega) (by rw [tl_ap, tl_ap]; show (tlW r0).y + (tlW mo).y = (tlW A).y + (tlW mo).y; omega)
  have e1' : (tlW (mo ++ r0)).a - (tlW (mo ++ A)).a = (tlW r0).a - (tlW A).a := by
    rw [tl_ap, tl_ap]
    show (tlW mo).a + (tlW r0).a + (tlW mo).x * (tlW r0).y - ((tlW mo).a + (tlW A).a + (tlW mo).x * (tlW A).y) = _
    rw [yA]
    omega
  have e2' : (tlW (r0 ++ mo)).a - (tlW (A ++ mo)).a = (tlW r0).a - (tlW A).a := by
    rw [tl_ap, tl_ap]
    show (tlW r0).a + (tlW mo).a + (tlW r0).x * (tlW mo).y - ((tlW A).a + (tlW mo).a + (tlW A).x * (tlW mo).y) = _
    rw [xA]
    omega
  rw [e1'] at k1
  rw [e2'] at k2
  have sf : ∀ x : Int, clBK F_l_same (.ok [.lst [.int x, .int x], .lst [.int x, .int x]]) = .ok (.d (.bl true)) := fun x => by
    refine clBK_bl ?_
    rw [show F_l_same = Fk_l_same 8 from rfl, same_ok 8 (.lst [.int x, .int x]) (.lst [.int x, .int x]) rfl rfl (show D.dep (.lst [.int x, .int x]) < 8 by simp [D.dep, depL])]
    simp [D.same, sameL]
  have sfd := sf ((tlW r0).a - (tlW A).a)
  have atr : oIx (.b (.ol ((rsD [r0, r1, r2]).map Sl.d))) (.d (.int 0)) = some (.d (.lst (wD r0))) := rs_at (k := 0) rfl
  unfold rd_body wl_t wl_body legX F37 at f1
  generalize rsD [r0, A, B] = RS at *
  generalize rsD [r0, r1, r2] = RT at *
  clear sf e1' e2' gap gAll gBk nBk tt ng jt lc1 jb t1 t2 xb bx bY nb sl sw gA gB g0 g1 g2 gm xA xB yA yB nA nB n0 n1 n2 nm hd hl e hn b12 b20 b01
  unfold F_law sm_law
  walk_at "ev"

end Pf

namespace Pf
open PySem L2 Vl
def top (i : Nat) : Stmt := PySem.Challenge.pw_oxhide_k37_whole_land_between_roads.main.body.getD i (.Pass ⟨0, 0, 0, 0⟩)
abbrev s_l_draws : Stmt := top 23
theorem sc_l_draws : FnScope N_l_draws ["_law_script", "_law_many"] (defScope s_l_draws) := ⟨rfl, rfl, rfl, by decide +kernel, rfl, by decide +kernel, by decide +kernel⟩
abbrev s_l_gone_back : Stmt := top 29
theorem sc_l_gone_back : FnScope N_l_gone_back ["_law_walk"] (defScope s_l_gone_back) := ⟨rfl, rfl, rfl, by decide +kernel, rfl, by decide +kernel, by decide +kernel⟩
abbrev s_l_same : Stmt := top 30
theorem sc_l_same : FnScope N_l_same ["_law_found", "_law_due"] (defScope s_l_same) := ⟨rfl, rfl, rfl, by decide +kernel, rfl, by decide +kernel, by decide +kernel⟩
abbrev s_l_ten : Stmt := top 24
theorem sc_l_ten : FnScope N_l_ten ["_law_many"] (defScope s_l_ten) := ⟨rfl, rfl, rfl, by decide +kernel, rfl, by decide +kernel, by decide +kernel⟩
abbrev s_l_some_walk : Stmt := top 25
theorem sc_l_some_walk : FnScope N_l_some_walk ["_law_d", "_law_most"] (defScope s_l_some_walk) := ⟨rfl, rfl, rfl, by decide +kernel, rfl, by decide +kernel, by decide +kernel⟩
abbrev s_l_joined : Stmt := top 26
theorem sc_l_joined : FnScope N_l_joined ["_law_one", "_law_other"] (defScope s_l_joined) := ⟨rfl, rfl, rfl, by decide +kernel, rfl, by decide +kernel, by decide +kernel⟩
abbrev s_l_run_tally : Stmt := top 27
theorem sc_l_run_tally : FnScope N_l_run_tally ["_law_way", "_law_many"] (defScope s_l_run_tally) := ⟨rfl, rfl, rfl, by decide +kernel, rfl, by decide +kernel, by decide +kernel⟩
abbrev s_l_tally : Stmt := top 28
theorem sc_l_tally : FnScope N_l_tally ["_law_walk"] (defScope s_l_tally) := ⟨rfl, rfl, rfl, by decide +kernel, rfl, by decide +kernel, by decide +kernel⟩
abbrev s_land_between : Stmt := top 20
theorem sc_land_between : FnScope N_land_between ["one", "other"] (defScope s_land_between) := ⟨rfl, rfl, rfl, by decide +kernel, rfl, by decide +kernel, by decide +kernel⟩
abbrev s_is_run : Stmt := top 9
theorem sc_is_run : FnScope N_is_run ["way", "many"] (defScope s_is_run) := ⟨rfl, rfl, rfl, by decide +kernel, rfl, by decide +kernel, by decide +kernel⟩
abbrev s_look_walk : Stmt := top 10
theorem sc_look_walk : FnScope N_look_walk ["walk"] (defScope s_look_walk) := ⟨rfl, rfl, rfl, by decide +kernel, rfl, by decide +kernel, by decide +kernel⟩
abbrev s_joined : Stmt := top 15
theorem sc_joined : FnScope N_joined ["one", "other"] (defScope s_joined) := ⟨rfl, rfl, rfl, by decide +kernel, rfl, by decide +kernel, by decide +kernel⟩
abbrev s_run_tally : Stmt := top 16
theorem sc_run_tally : FnScope N_run_tally ["way", "many"] (defScope s_run_tally) := ⟨rfl, rfl, rfl, by decide +kernel, rfl, by decide +kernel, by decide +kernel⟩
abbrev s_tally_of : Stmt := top 17
theorem sc_tally_of : FnScope N_tally_of ["walk"] (defScope s_tally_of) := ⟨rfl, rfl, rfl, by decide +kernel, rfl, by decide +kernel, by decide +kernel⟩
abbrev s_between : Stmt := top 21
theorem sc_between : FnScope N_between ["one", "other"] (defScope s_between) := ⟨rfl, rfl, rfl, by decide +kernel, rfl, by decide +kernel, by decide +kernel⟩
abbrev s_tally : Stmt := top 18
theorem sc_tally : FnScope N_tally ["walk"] (defScope s_tally) := ⟨rfl, rfl, rfl, by decide +kernel, rfl, by decide +kernel, by decide +kernel⟩
abbrev s_law : Stmt := top 31
theorem sc_law : FnScope N_law ["_law_script"] (defScope s_law) := ⟨rfl, rfl, rfl, by decide +kernel, rfl, by decide +kernel, by decide +kernel⟩
structure Ad where
  a_l_draws : Addr
  d_l_draws : FuncData
  a_l_gone_back : Addr
  d_l_gone_back : FuncData
  a_l_same : Addr
  d_l_same : FuncData
  a_l_ten : Addr
  d_l_ten : FuncData
  a_l_some_walk : Addr
  d_l_some_walk : FuncData
  a_l_joined : Addr
  d_l_joined : FuncData
  a_l_run_tally : Addr
  d_l_run_tally : FuncData
  a_l_tally : Addr
  d_l_tally : FuncData
  a_land_between : Addr
  d_land_between : FuncData
  a_is_run : Addr
  d_is_run : FuncData
  a_look_walk : Addr
  d_look_walk : FuncData
  a_joined : Addr
  d_joined : FuncData
  a_run_tally : Addr
  d_run_tally : FuncData
  a_tally_of : Addr
  d_tally_of : FuncData
  a_between : Addr
  d_between : FuncData
  a_tally : Addr
  d_tally : FuncData
  a_law : Addr
  d_law : FuncData
  a_EAST_STEPS : Addr
  a_NORTH_STEPS : Addr
  a_NOUGHT : Addr
  a_WAYS : Addr
structure Txt (w : World) (K : PySem.W.Frag) (mg : Str → Option Value) (cl : Str → Addr) (L : Ad) : Prop where
  n_abs : mg "abs" = none
  n_all : mg "all" = none
  n_bool : mg "bool" = none
  n_enumerate : mg "enumerate" = none
  n_int : mg "int" = none
  n_isinstance : mg "isinstance" = none
  n_len : mg "len" = none
  n_list : mg "list" = none
  n_max : mg "max" = none
  n_min : mg "min" = none
  n_range : mg "range" = none
  n_str : mg "str" = none
  n_sum : mg "sum" = none
  n_tuple : mg "tuple" = none
  f_l_draws : Fun K "_law_draws" "_law_draws" s_l_draws L.a_l_draws L.d_l_draws
  m_l_draws : mg "_law_draws" = some (.ref L.a_l_draws)
  k_l_draws : PySem.W.keepIn K (.ref L.a_l_draws) = true
  b_l_draws : Binds K L.d_l_draws ["_law_script", "_law_many"] []
  f_l_gone_back : Fun K "_law_gone_back" "_law_gone_back" s_l_gone_back L.a_l_gone_back L.d_l_gone_back
  m_l_gone_back : mg "_law_gone_back" = some (.ref L.a_l_gone_back)
  k_l_gone_back : PySem.W.keepIn K (.ref L.a_l_gone_back) = true
  b_l_gone_back : Binds K L.d_l_gone_back ["_law_walk"] []
  f_l_same : Fun K "_law_same" "_law_same" s_l_same L.a_l_same L.d_l_same
  m_l_same : mg "_law_same" = some (.ref L.a_l_same)
  k_l_same : PySem.W.keepIn K (.ref L.a_l_same) = true
  b_l_same : Binds K L.d_l_same ["_law_found", "_law_due"] []
  f_l_ten : Fun K "_law_ten" "_law_ten" s_l_ten L.a_l_ten L.d_l_ten
  m_l_ten : mg "_law_ten" = some (.ref L.a_l_ten)
  k_l_ten : PySem.W.keepIn K (.ref L.a_l_ten) = true
  b_l_ten : Binds K L.d_l_ten ["_law_many"] []
  f_l_some_walk : Fun K "_law_some_walk" "_law_some_walk" s_l_some_walk L.a_l_some_walk L.d_l_some_walk
  m_l_some_walk : mg "_law_some_walk" = some (.ref L.a_l_some_walk)
  k_l_some_walk : PySem.W.keepIn K (.ref L.a_l_some_walk) = true
  b_l_some_walk : Binds K L.d_l_some_walk ["_law_d", "_law_most"] []
  f_l_joined : Fun K "_law_joined" "_law_joined" s_l_joined L.a_l_joined L.d_l_joined
  m_l_joined : mg "_law_joined" = some (.ref L.a_l_joined)
  k_l_joined : PySem.W.keepIn K (.ref L.a_l_joined) = true
  b_l_joined : Binds K L.d_l_joined ["_law_one", "_law_other"] []
  f_l_run_tally : Fun K "_law_run_tally" "_law_run_tally" s_l_run_tally L.a_l_run_tally L.d_l_run_tally
  m_l_run_tally : mg "_law_run_tally" = some (.ref L.a_l_run_tally)
  k_l_run_tally : PySem.W.keepIn K (.ref L.a_l_run_tally) = true
  b_l_run_tally : Binds K L.d_l_run_tally ["_law_way", "_law_many"] []
  f_l_tally : Fun K "_law_tally" "_law_tally" s_l_tally L.a_l_tally L.d_l_tally
  m_l_tally : mg "_law_tally" = some (.ref L.a_l_tally)
  k_l_tally : PySem.W.keepIn K (.ref L.a_l_tally) = true
  b_l_tally : Binds K L.d_l_tally ["_law_walk"] []
  f_land_between : Fun K "land_between" "land_between" s_land_between L.a_land_between L.d_land_between
  m_land_between : mg "land_between" = some (.ref L.a_land_between)
  k_land_between : PySem.W.keepIn K (.ref L.a_land_between) = true
  b_land_between : Binds K L.d_land_between ["one", "other"] []
  f_is_run : Fun K "is_run" "is_run" s_is_run L.a_is_run L.d_is_run
  m_is_run : mg "is_run" = some (.ref L.a_is_run)
  k_is_run : PySem.W.keepIn K (.ref L.a_is_run) = true
  b_is_run : Binds K L.d_is_run ["way", "many"] []
  f_look_walk : Fun K "look_walk" "look_walk" s_look_walk L.a_look_walk L.d_look_walk
  m_look_walk : mg "look_walk" = some (.ref L.a_look_walk)
  k_look_walk : PySem.W.keepIn K (.ref L.a_look_walk) = true
  b_look_walk : Binds K L.d_look_walk ["walk"] []
  f_joined : Fun K "joined" "joined" s_joined L.a_joined L.d_joined
  m_joined : mg "joined" = some (.ref L.a_joined)
  k_joined : PySem.W.keepIn K (.ref L.a_joined) = true
  b_joined : Binds K L.d_joined ["one", "other"] []
  f_run_tally : Fun K "run_tally" "run_tally" s_run_tally L.a_run_tally L.d_run_tally
  m_run_tally : mg "run_tally" = some (.ref L.a_run_tally)
  k_run_tally : PySem.W.keepIn K (.ref L.a_run_tally) = true
  b_run_tally : Binds K L.d_run_tally ["way", "many"] []
  f_tally_of : Fun K "tally_of" "tally_of" s_tally_of L.a_tally_of L.d_tally_of
  m_tally_of : mg "tally_of" = some (.ref L.a_tally_of)
  k_tally_of : PySem.W.keepIn K (.ref L.a_tally_of) = true
  b_tally_of : Binds K L.d_tally_of ["walk"] []
  f_between : Fun K "between" "between" s_between L.a_between L.d_between
  m_between : mg "between" = some (.ref L.a_between)
  k_between : PySem.W.keepIn K (.ref L.a_between) = true
  b_between : Binds K L.d_between ["one", "other"] []
  f_tally : Fun K "tally" "tally" s_tally L.a_tally L.d_tally
  m_tally : mg "tally" = some (.ref L.a_tally)
  k_tally : PySem.W.keepIn K (.ref L.a_tally) = true
  b_tally : Binds K L.d_tally ["walk"] []
  f_law : Fun K "law" "law" s_law L.a_law L.d_law
  m_law : mg "law" = some (.ref L.a_law)
  k_law : PySem.W.keepIn K (.ref L.a_law) = true
  b_law : Binds K L.d_law ["_law_script"] []
  g_EAST_STEPS : mg "EAST_STEPS" = some (.ref L.a_EAST_STEPS)
  r_EAST_STEPS : KD K w L.a_EAST_STEPS c_EAST_STEPS
  g_MOST_RUNS : ∃ u, mg "MOST_RUNS" = some u ∧ RelV (dV c_MOST_RUNS) u
  g_MOST_STEPS : ∃ u, mg "MOST_STEPS" = some u ∧ RelV (dV c_MOST_STEPS) u
  g_NORTH_STEPS : mg "NORTH_STEPS" = some (.ref L.a_NORTH_STEPS)
  r_NORTH_STEPS : KD K w L.a_NORTH_STEPS c_NORTH_STEPS
  g_NOUGHT : mg "NOUGHT" = some (.ref L.a_NOUGHT)
  r_NOUGHT : ∀ H, SqT K H L.a_NOUGHT (c_NOUGHT.map dV)
  g_WAYS : mg "WAYS" = some (.ref L.a_WAYS)
  r_WAYS : ∀ H, SqT K H L.a_WAYS (c_WAYS.map dV)
section
variable {P : Program} {w : World} {K : PySem.W.Frag} {mg : Str → Option Value} {base : Heap} {cl : Str → Addr} {L : Ad}
theorem ok_l_draws (T : Txt w K mg cl L)  : FnOk P w K mg base CX0 1 L.a_l_draws L.d_l_draws ["_law_script", "_law_many"] (spP K cl 2 F_l_draws) := by
  refine fn_pure T.f_l_draws sc_l_draws rfl fun cdv A outer s H E hr => ?_
  have hu := hr.units
  exact (vss_cons (vs_setO (i := 2) sc_l_draws.nd rfl (by first | exact Or.inl rfl | exact Or.inr rfl) (ve_lst va_nil))
    (vss_cons (vs_set (i := 3) sc_l_draws.nd rfl (by first | exact Or.inl rfl | exact Or.inr rfl) ve_int)
    (vss_cons (vs_for PassesOwn.never rfl (vi_list (ve_slice (ve_var (pv 0)) vo_none (vo_some ve_int))) (vg_name (i := 4) sc_l_draws.nd rfl (by first | exact Or.inl rfl | exact Or.inr rfl)) (vss_cons (vs_set (i := 3) sc_l_draws.nd rfl (by first | exact Or.inl rfl | exact Or.inr rfl) (ve_mod (ve_add (ve_add (ve_mul (ve_var (pv 3)) ve_int) (ve_mod (ve_var (pv 4)) ve_int)) ve_int) ve_int))
    (vss_cons (vs_set (i := 5) sc_l_draws.nd rfl (by first | exact Or.inl rfl | exact Or.inr rfl) (ve_abs rfl T.n_abs (ve_var (pv 4))))
    (vss_one (vs_if (vt_cmp oc_lt (ve_var (pv 5)) (ve_pow ve_int ve_int) (nomark _)) (vss_one (vs_app (i := 2) (pv 2) (ve_mod (ve_var (pv 4)) ve_int))) (vss_one (vs_for PassesOwn.never rfl (vi_range1 rfl T.n_range ve_int) (vg_name (i := 6) sc_l_draws.nd rfl (by first | exact Or.inl rfl | exact Or.inr rfl)) (vss_one (vs_if (vt_cmp oc_gt (ve_var (pv 5)) ve_int (nomark _)) (vss_cons (vs_app (i := 2) (pv 2) (ve_mod (ve_var (pv 5)) ve_int))
    (vss_one (vs_set (i := 5) sc_l_draws.nd rfl (by first | exact Or.inl rfl | exact Or.inr rfl) (ve_div (ve_var (pv 5)) ve_int)))) vss_nil)))))))))
    (vss_cons (vs_while PassesOwn.never (vt_cmp oc_lt (ve_len rfl T.n_len (ve_var (pv 2))) (ve_var (pv 1)) (nomark _)) (vss_cons (vs_set (i := 3) sc_l_draws.nd rfl (by first | exact Or.inl rfl | exact Or.inr rfl) (ve_mod (ve_add (ve_add (ve_add (ve_mul (ve_var (pv 3)) (ve_var (pv 3))) (ve_mul ve_int (ve_var (pv 3)))) (ve_mul ve_int (ve_len rfl T.n_len (ve_var (pv 2))))) ve_int) ve_int))
    (vss_one (vs_app (i := 2) (pv 2) (ve_mod (ve_div (ve_var (pv 3)) ve_int) ve_int)))))
    (vss_one (vs_ret (ve_slice (ve_var (pv 2)) vo_none (vo_some (ve_var (pv 1))))))))))
theorem ok_l_gone_back (T : Txt w K mg cl L)  : FnOk P w K mg base CX0 1 L.a_l_gone_back L.d_l_gone_back ["_law_walk"] (spP K cl 1 F_l_gone_back) := by
  refine fn_pure T.f_l_gone_back sc_l_gone_back rfl fun cdv A outer s H E hr => ?_
  have hu := hr.units
  exact (vss_one (vs_ret (ve_lc (own := [("_law_way", 1), ("_law_many", 2)]) rfl sc_l_gone_back.nd (vi_list (ve_rev (ve_var (pv 0)))) (blkOk_by (own := [("_law_way", 1), ("_law_many", 2)]) (N := N_l_gone_back) (sc := defScope s_l_gone_back) (by decide +kernel)) (by decide) (fun _ _ _ _ _ => (vg_tup rfl (vgs_cons (vg_name (i := 1) sc_l_gone_back.nd rfl (by first | exact Or.inl rfl | exact Or.inr rfl)) (vgs_cons (vg_name (i := 2) sc_l_gone_back.nd rfl (by first | exact Or.inl rfl | exact Or.inr rfl)) vgs_nil)) (gC_len (gC_len gN_len)))) (fun _ _ _ _ _ => vts_nil) (fun _ _ _ _ _ => (ve_tup (va_cons (ve_ix ve_str (ve_sfind ve_str (ve_var (pv 1)))) (va_cons (ve_var (pv 2)) va_nil)))))))
theorem okk_l_same (T : Txt w K mg cl L)  : ∀ k : Nat, FnOk P w K mg base CX0 (1 + k) L.a_l_same L.d_l_same ["_law_found", "_law_due"] (spP K cl 2 (Fk_l_same k))
  | 0 => fn_st rfl
  | k + 1 => by
    have G_l_same := okk_l_same T  k
    refine fn_pure (k := 1 + k) T.f_l_same sc_l_same rfl fun cdv A outer s H E hr => ?_
    have hu := hr.units
    exact (vss_cons (vs_if (vt_truth (ve_isi2 rfl T.n_isinstance rfl T.n_list (by decide +kernel) rfl T.n_tuple (by decide +kernel) (ve_var (pv 1)))) (vss_cons (vs_if (PW.pt (vw_or (vt_cmp (oc_ne hu) (ve_isi rfl T.n_isinstance rfl T.n_list (by decide +kernel) (ve_var (pv 0))) (ve_isi rfl T.n_isinstance rfl T.n_list (by decide +kernel) (ve_var (pv 1))) (nomark _)) (vw_or1 (vt_cmp (oc_ne hu) (ve_isi rfl T.n_isinstance rfl T.n_tuple (by decide +kernel) (ve_var (pv 0))) (ve_isi rfl T.n_isinstance rfl T.n_tuple (by decide +kernel) (ve_var (pv 1))) (nomark _))))) (vss_one (vs_ret ve_bl)) vss_nil)
    (vss_one (vs_ret (ve_and (ve_cmp (oc_eq hu) (ve_len rfl T.n_len (ve_var (pv 0))) (ve_len rfl T.n_len (ve_var (pv 1))) (nomark _)) (ve_one (ve_all rfl rfl T.n_all (ve_lc (own := [("_law_k", 2)]) rfl sc_l_same.nd (vi_range1 rfl T.n_range (ve_len rfl T.n_len (ve_var (pv 1)))) (blkOk_by (own := [("_law_k", 2)]) (N := N_l_same) (sc := defScope s_l_same) (by decide +kernel)) (by decide) (fun _ _ _ _ _ => (vg_name (i := 2) sc_l_same.nd rfl (by first | exact Or.inl rfl | exact Or.inr rfl))) (fun _ _ _ _ _ => vts_nil) (fun _ _ _ _ _ => (ve_callB G_l_same (hr.mono (by omega)) rfl T.m_l_same T.k_l_same T.b_l_same (vb_cons (ve_ix (ve_var (pv 0)) (ve_var (pv 2))) (vb_cons (ve_ix (ve_var (pv 1)) (ve_var (pv 2))) vb_nil)) (hln := (bC_len (bC_len aN_len)))))))))))) vss_nil)
    (vss_cons (vs_if (vt_isN (ve_var (pv 1))) (vss_one (vs_ret (ve_isN (ve_var (pv 0))))) vss_nil)
    (vss_cons (vs_if (PW.pt (vw_or (vt_cmp (oc_ne hu) (ve_isi rfl T.n_isinstance rfl T.n_bool (by decide +kernel) (ve_var (pv 0))) (ve_isi rfl T.n_isinstance rfl T.n_bool (by decide +kernel) (ve_var (pv 1))) (nomark _)) (vw_or1 (vt_cmp (oc_ne hu) (ve_isi rfl T.n_isinstance rfl T.n_str (by decide +kernel) (ve_var (pv 0))) (ve_isi rfl T.n_isinstance rfl T.n_str (by decide +kernel) (ve_var (pv 1))) (nomark _))))) (vss_one (vs_ret ve_bl)) vss_nil)
    (vss_one (vs_ret (ve_and (ve_cmp (oc_eq hu) (ve_isi rfl T.n_isinstance rfl T.n_int (by decide +kernel) (ve_var (pv 0))) (ve_isi rfl T.n_isinstance rfl T.n_int (by decide +kernel) (ve_var (pv 1))) (nomark _)) (ve_one (ve_cmp (oc_eq hu) (ve_var (pv 0)) (ve_var (pv 1)) (nomark _)))))))))
theorem ok_l_same (T : Txt w K mg cl L)  : FnOk P w K mg base CX0 9 L.a_l_same L.d_l_same ["_law_found", "_law_due"] (spP K cl 2 F_l_same) := okk_l_same T  8
theorem ok_l_ten (T : Txt w K mg cl L)  : FnOk P w K mg base CX0 1 L.a_l_ten L.d_l_ten ["_law_many"] (spP K cl 1 F_l_ten) := by
  refine fn_pure T.f_l_ten sc_l_ten rfl fun cdv A outer s H E hr => ?_
  have hu := hr.units
  exact (vss_cons (vs_set (i := 1) sc_l_ten.nd rfl (by first | exact Or.inl rfl | exact Or.inr rfl) ve_int)
    (vss_cons (vs_for PassesOwn.never rfl (vi_range1 rfl T.n_range (ve_var (pv 0))) (vg_name (i := 2) sc_l_ten.nd rfl (by first | exact Or.inl rfl | exact Or.inr rfl)) (vss_one (vs_set (i := 1) sc_l_ten.nd rfl (by first | exact Or.inl rfl | exact Or.inr rfl) (ve_mul (ve_var (pv 1)) ve_int))))
    (vss_one (vs_retV (pv 1)))))
theorem ok_l_some_walk (T : Txt w K mg cl L) (G_l_ten : FnOk P w K mg base CX0 1 L.a_l_ten L.d_l_ten ["_law_many"] (spP K cl 1 F_l_ten)) : FnOk P w K mg base CX0 2 L.a_l_some_walk L.d_l_some_walk ["_law_d", "_law_most"] (spP K cl 2 F_l_some_walk) := by
  refine fn_pure T.f_l_some_walk sc_l_some_walk rfl fun cdv A outer s H E hr => ?_
  have hu := hr.units
  exact (vss_cons (vs_setO (i := 2) sc_l_some_walk.nd rfl (by first | exact Or.inl rfl | exact Or.inr rfl) (ve_lst va_nil))
    (vss_cons (vs_for PassesOwn.never rfl (vi_range1 rfl T.n_range (ve_mod (ve_ix (ve_var (pv 0)) ve_int) (ve_add (ve_var (pv 1)) ve_int))) (vg_name (i := 3) sc_l_some_walk.nd rfl (by first | exact Or.inl rfl | exact Or.inr rfl)) (vss_cons (vs_set (i := 4) sc_l_some_walk.nd rfl (by first | exact Or.inl rfl | exact Or.inr rfl) (ve_ix (ve_var (pv 0)) (ve_add ve_int (ve_mul ve_int (ve_var (pv 3))))))
    (vss_cons (vs_set (i := 5) sc_l_some_walk.nd rfl (by first | exact Or.inl rfl | exact Or.inr rfl) (ve_ix (ve_var (pv 0)) (ve_add ve_int (ve_mul ve_int (ve_var (pv 3))))))
    (vss_cons (vs_set (i := 6) sc_l_some_walk.nd rfl (by first | exact Or.inl rfl | exact Or.inr rfl) (ve_add ve_int (ve_mod (ve_var (pv 4)) (ve_ix (ve_lst (va_cons ve_int (va_cons ve_int (va_cons ve_int (va_cons ve_int va_nil))))) (ve_mod (ve_ix (ve_var (pv 0)) ve_int) ve_int)))))
    (vss_cons (vs_if (vt_cmp (oc_eq hu) (ve_mod (ve_div (ve_ix (ve_var (pv 0)) ve_int) ve_int) ve_int) ve_int (nomark _)) (vss_one (vs_set (i := 6) sc_l_some_walk.nd rfl (by first | exact Or.inl rfl | exact Or.inr rfl) (ve_add (ve_mul (ve_add ve_int (ve_mod (ve_var (pv 4)) ve_int)) (ve_call G_l_ten (hr.mono (by decide)) rfl T.m_l_ten T.k_l_ten T.b_l_ten (va_cons (ve_mod (ve_var (pv 5)) ve_int) va_nil) (hln := (aC_len aN_len)))) (ve_div (ve_var (pv 4)) ve_int)))) vss_nil)
    (vss_cons (vs_if (vt_cmp (oc_eq hu) (ve_mod (ve_var (pv 5)) ve_int) ve_int (nomark _)) (vss_one (vs_set (i := 6) sc_l_some_walk.nd rfl (by first | exact Or.inl rfl | exact Or.inr rfl) (ve_pow ve_int ve_int))) vss_nil)
    (vss_one (vs_app (i := 2) (pv 2) (ve_tup (va_cons (ve_ix ve_str (ve_mod (ve_ix (ve_var (pv 0)) (ve_add ve_int (ve_mul ve_int (ve_var (pv 3))))) ve_int)) (va_cons (ve_var (pv 6)) va_nil)))))))))))
    (vss_one (vs_retV (pv 2)))))
theorem ok_l_joined (T : Txt w K mg cl L)  : FnOk P w K mg base CX0 1 L.a_l_joined L.d_l_joined ["_law_one", "_law_other"] (spP K cl 2 F_l_joined) := by
  refine fn_pure T.f_l_joined sc_l_joined rfl fun cdv A outer s H E hr => ?_
  have hu := hr.units
  exact (vss_cons (vs_asg (ve_var (pv 0)) (vg_tup rfl (vgs_cons (vg_name (i := 2) sc_l_joined.nd rfl (by first | exact Or.inl rfl | exact Or.inr rfl)) (vgs_cons (vg_name (i := 3) sc_l_joined.nd rfl (by first | exact Or.inl rfl | exact Or.inr rfl)) (vgs_cons (vg_name (i := 4) sc_l_joined.nd rfl (by first | exact Or.inl rfl | exact Or.inr rfl)) (vgs_cons (vg_name (i := 5) sc_l_joined.nd rfl (by first | exact Or.inl rfl | exact Or.inr rfl)) (vgs_cons (vg_name (i := 6) sc_l_joined.nd rfl (by first | exact Or.inl rfl | exact Or.inr rfl)) vgs_nil))))) (gC_len (gC_len (gC_len (gC_len (gC_len gN_len)))))))
    (vss_cons (vs_asg (ve_var (pv 1)) (vg_tup rfl (vgs_cons (vg_name (i := 7) sc_l_joined.nd rfl (by first | exact Or.inl rfl | exact Or.inr rfl)) (vgs_cons (vg_name (i := 8) sc_l_joined.nd rfl (by first | exact Or.inl rfl | exact Or.inr rfl)) (vgs_cons (vg_name (i := 9) sc_l_joined.nd rfl (by first | exact Or.inl rfl | exact Or.inr rfl)) (vgs_cons (vg_name (i := 10) sc_l_joined.nd rfl (by first | exact Or.inl rfl | exact Or.inr rfl)) (vgs_cons (vg_name (i := 11) sc_l_joined.nd rfl (by first | exact Or.inl rfl | exact Or.inr rfl)) vgs_nil))))) (gC_len (gC_len (gC_len (gC_len (gC_len gN_len)))))))
    (vss_cons (vs_set (i := 12) sc_l_joined.nd rfl (by first | exact Or.inl rfl | exact Or.inr rfl) (ve_mul (ve_mul (ve_var (pv 2)) (ve_var (pv 8))) (ve_add (ve_var (pv 8)) (ve_mul ve_int (ve_var (pv 3))))))
    (vss_one (vs_ret (ve_tup (va_cons (ve_add (ve_var (pv 2)) (ve_var (pv 7))) (va_cons (ve_add (ve_var (pv 3)) (ve_var (pv 8))) (va_cons (ve_add (ve_add (ve_var (pv 4)) (ve_var (pv 9))) (ve_mul (ve_var (pv 2)) (ve_var (pv 8)))) (va_cons (ve_add (ve_add (ve_var (pv 5)) (ve_var (pv 10))) (ve_mul (ve_var (pv 2)) (ve_add (ve_mul ve_int (ve_var (pv 9))) (ve_mul (ve_var (pv 2)) (ve_var (pv 8)))))) (va_cons (ve_add (ve_add (ve_add (ve_var (pv 6)) (ve_var (pv 11))) (ve_mul (ve_mul ve_int (ve_var (pv 3))) (ve_var (pv 9)))) (ve_var (pv 12))) va_nil)))))))))))
theorem ok_l_run_tally (T : Txt w K mg cl L)  : FnOk P w K mg base CX0 1 L.a_l_run_tally L.d_l_run_tally ["_law_way", "_law_many"] (spP K cl 2 F_l_run_tally) := by
  refine fn_pure T.f_l_run_tally sc_l_run_tally rfl fun cdv A outer s H E hr => ?_
  have hu := hr.units
  exact (vss_cons (vs_set (i := 2) sc_l_run_tally.nd rfl (by first | exact Or.inl rfl | exact Or.inr rfl) (ve_dg hu (by decide +kernel) (ve_var (pv 1)) (ve_neg (ve_var (pv 1))) (ve_var (pv 0)) ve_int ⟨rfl, rfl, rfl, rfl⟩))
    (vss_one (vs_ret (ve_tup (va_cons (ve_var (pv 2)) (va_cons (ve_dg hu (by decide +kernel) (ve_var (pv 1)) (ve_neg (ve_var (pv 1))) (ve_var (pv 0)) ve_int ⟨rfl, rfl, rfl, rfl⟩) (va_cons ve_int (va_cons ve_int (va_cons ve_int va_nil)))))))))
theorem ok_l_tally (T : Txt w K mg cl L) (G_l_joined : FnOk P w K mg base CX0 1 L.a_l_joined L.d_l_joined ["_law_one", "_law_other"] (spP K cl 2 F_l_joined)) (G_l_run_tally : FnOk P w K mg base CX0 1 L.a_l_run_tally L.d_l_run_tally ["_law_way", "_law_many"] (spP K cl 2 F_l_run_tally)) : FnOk P w K mg base CX0 2 L.a_l_tally L.d_l_tally ["_law_walk"] (spP K cl 1 F_l_tally) := by
  refine fn_pure T.f_l_tally sc_l_tally rfl fun cdv A outer s H E hr => ?_
  have hu := hr.units
  exact (vss_cons (vs_set (i := 1) sc_l_tally.nd rfl (by first | exact Or.inl rfl | exact Or.inr rfl) (ve_tup (va_cons ve_int (va_cons ve_int (va_cons ve_int (va_cons ve_int (va_cons ve_int va_nil)))))))
    (vss_cons (vs_for PassesOwn.never rfl (vi_list (ve_var (pv 0))) (vg_tup rfl (vgs_cons (vg_name (i := 2) sc_l_tally.nd rfl (by first | exact Or.inl rfl | exact Or.inr rfl)) (vgs_cons (vg_name (i := 3) sc_l_tally.nd rfl (by first | exact Or.inl rfl | exact Or.inr rfl)) vgs_nil)) (gC_len (gC_len gN_len))) (vss_one (vs_set (i := 1) sc_l_tally.nd rfl (by first | exact Or.inl rfl | exact Or.inr rfl) (ve_call G_l_joined (hr.mono (by decide)) rfl T.m_l_joined T.k_l_joined T.b_l_joined (va_cons (ve_var (pv 1)) (va_cons (ve_call G_l_run_tally (hr.mono (by decide)) rfl T.m_l_run_tally T.k_l_run_tally T.b_l_run_tally (va_cons (ve_var (pv 2)) (va_cons (ve_var (pv 3)) va_nil)) (hln := (aC_len (aC_len aN_len)))) va_nil)) (hln := (aC_len (aC_len aN_len)))))))
    (vss_one (vs_retV (pv 1)))))
theorem ok_land_between (T : Txt w K mg cl L)  : FnOk P w K mg base CX0 1 L.a_land_between L.d_land_between ["one", "other"] (spP K cl 2 F_land_between) := by
  refine fn_pure T.f_land_between sc_land_between rfl fun cdv A outer s H E hr => ?_
  have hu := hr.units
  exact (vss_cons (vs_if (vt_cmp (oc_ne hu) (ve_slice (ve_var (pv 0)) vo_none (vo_some ve_int)) (ve_slice (ve_var (pv 1)) vo_none (vo_some ve_int)) (nomark _)) (vss_one vs_never) vss_nil)
    (vss_one (vs_ret (ve_sub (ve_ix (ve_var (pv 0)) ve_int) (ve_ix (ve_var (pv 1)) ve_int)))))
theorem ok_is_run (T : Txt w K mg cl L)  : FnOk P w K mg base CX0 1 L.a_is_run L.d_is_run ["way", "many"] (spP K cl 2 F_is_run) := by
  refine fn_pure T.f_is_run sc_is_run rfl fun cdv A outer s H E hr => ?_
  have hu := hr.units
  exact (vss_one (vs_ret (ve_and (ve_cmp oc_in (ve_var (pv 0)) (ve_ctup rfl T.g_WAYS T.r_WAYS rfl rfl) rfl) (ve_one (ve_chain oc_le oc_le ve_int (ve_var (pv 1)) (ve_cs rfl T.g_MOST_STEPS rfl rfl))))))
theorem ok_look_walk (T : Txt w K mg cl L) (G_is_run : FnOk P w K mg base CX0 1 L.a_is_run L.d_is_run ["way", "many"] (spP K cl 2 F_is_run)) : FnOk P w K mg base CX0 2 L.a_look_walk L.d_look_walk ["walk"] (spP K cl 1 F_look_walk) := by
  refine fn_pure T.f_look_walk sc_look_walk rfl fun cdv A outer s H E hr => ?_
  have hu := hr.units
  exact (vss_cons (vs_if (vt_cmp oc_gt (ve_len rfl T.n_len (ve_var (pv 0))) (ve_cs rfl T.g_MOST_RUNS rfl rfl) (nomark _)) (vss_one vs_never) vss_nil)
    (vss_one (vs_for PassesOwn.never rfl (vi_enum rfl T.n_enumerate (va_cons (ve_var (pv 0)) va_nil)) (vg_tup rfl (vgs_cons (vg_name (i := 1) sc_look_walk.nd rfl (by first | exact Or.inl rfl | exact Or.inr rfl)) (vgs_cons (vg_tup rfl (vgs_cons (vg_name (i := 2) sc_look_walk.nd rfl (by first | exact Or.inl rfl | exact Or.inr rfl)) (vgs_cons (vg_name (i := 3) sc_look_walk.nd rfl (by first | exact Or.inl rfl | exact Or.inr rfl)) vgs_nil)) (gC_len (gC_len gN_len))) vgs_nil)) (gC_len (gC_len gN_len))) (vss_one (vs_if (vt_not (vt_truth (ve_call G_is_run (hr.mono (by decide)) rfl T.m_is_run T.k_is_run T.b_is_run (va_cons (ve_var (pv 2)) (va_cons (ve_var (pv 3)) va_nil)) (hln := (aC_len (aC_len aN_len)))))) (vss_one vs_never) vss_nil)))))
theorem ok_joined (T : Txt w K mg cl L)  : FnOk P w K mg base CX0 1 L.a_joined L.d_joined ["one", "other"] (spP K cl 2 F_joined) := by
  refine fn_pure T.f_joined sc_joined rfl fun cdv A outer s H E hr => ?_
  have hu := hr.units
  exact (vss_cons (vs_asg (ve_var (pv 0)) (vg_tup rfl (vgs_cons (vg_name (i := 2) sc_joined.nd rfl (by first | exact Or.inl rfl | exact Or.inr rfl)) (vgs_cons (vg_name (i := 3) sc_joined.nd rfl (by first | exact Or.inl rfl | exact Or.inr rfl)) (vgs_cons (vg_name (i := 4) sc_joined.nd rfl (by first | exact Or.inl rfl | exact Or.inr rfl)) (vgs_cons (vg_name (i := 5) sc_joined.nd rfl (by first | exact Or.inl rfl | exact Or.inr rfl)) (vgs_cons (vg_name (i := 6) sc_joined.nd rfl (by first | exact Or.inl rfl | exact Or.inr rfl)) vgs_nil))))) (gC_len (gC_len (gC_len (gC_len (gC_len gN_len)))))))
    (vss_cons (vs_asg (ve_var (pv 1)) (vg_tup rfl (vgs_cons (vg_name (i := 7) sc_joined.nd rfl (by first | exact Or.inl rfl | exact Or.inr rfl)) (vgs_cons (vg_name (i := 8) sc_joined.nd rfl (by first | exact Or.inl rfl | exact Or.inr rfl)) (vgs_cons (vg_name (i := 9) sc_joined.nd rfl (by first | exact Or.inl rfl | exact Or.inr rfl)) (vgs_cons (vg_name (i := 10) sc_joined.nd rfl (by first | exact Or.inl rfl | exact Or.inr rfl)) (vgs_cons (vg_name (i := 11) sc_joined.nd rfl (by first | exact Or.inl rfl | exact Or.inr rfl)) vgs_nil))))) (gC_len (gC_len (gC_len (gC_len (gC_len gN_len)))))))
    (vss_one (vs_ret (ve_tup (va_cons (ve_add (ve_var (pv 2)) (ve_var (pv 7))) (va_cons (ve_add (ve_var (pv 3)) (ve_var (pv 8))) (va_cons (ve_add (ve_add (ve_var (pv 4)) (ve_var (pv 9))) (ve_mul (ve_var (pv 2)) (ve_var (pv 8)))) (va_cons (ve_add (ve_add (ve_add (ve_var (pv 5)) (ve_var (pv 10))) (ve_mul (ve_mul ve_int (ve_var (pv 2))) (ve_var (pv 9)))) (ve_mul (ve_mul (ve_var (pv 2)) (ve_var (pv 2))) (ve_var (pv 8)))) (va_cons (ve_add (ve_add (ve_add (ve_var (pv 6)) (ve_var (pv 11))) (ve_mul (ve_mul ve_int (ve_var (pv 3))) (ve_var (pv 9)))) (ve_mul (ve_var (pv 2)) (ve_add (ve_mul (ve_var (pv 8)) (ve_var (pv 8))) (ve_mul (ve_mul ve_int (ve_var (pv 3))) (ve_var (pv 8)))))) va_nil))))))))))
theorem ok_run_tally (T : Txt w K mg cl L)  : FnOk P w K mg base CX0 1 L.a_run_tally L.d_run_tally ["way", "many"] (spP K cl 2 F_run_tally) := by
  refine fn_pure T.f_run_tally sc_run_tally rfl fun cdv A outer s H E hr => ?_
  have hu := hr.units
  exact (vss_one (vs_ret (ve_tup (va_cons (ve_mul (ve_kix rfl T.g_EAST_STEPS T.r_EAST_STEPS (ve_var (pv 0)) rfl) (ve_var (pv 1))) (va_cons (ve_mul (ve_kix rfl T.g_NORTH_STEPS T.r_NORTH_STEPS (ve_var (pv 0)) rfl) (ve_var (pv 1))) (va_cons ve_int (va_cons ve_int (va_cons ve_int va_nil))))))))
theorem ok_tally_of (T : Txt w K mg cl L) (G_joined : FnOk P w K mg base CX0 1 L.a_joined L.d_joined ["one", "other"] (spP K cl 2 F_joined)) (G_run_tally : FnOk P w K mg base CX0 1 L.a_run_tally L.d_run_tally ["way", "many"] (spP K cl 2 F_run_tally)) : FnOk P w K mg base CX0 2 L.a_tally_of L.d_tally_of ["walk"] (spP K cl 1 F_tally_of) := by
  refine fn_pure T.f_tally_of sc_tally_of rfl fun cdv A outer s H E hr => ?_
  have hu := hr.units
  exact (vss_cons (vs_set (i := 1) sc_tally_of.nd rfl (by first | exact Or.inl rfl | exact Or.inr rfl) (ve_ctup rfl T.g_NOUGHT T.r_NOUGHT rfl rfl))
    (vss_cons (vs_for PassesOwn.never rfl (vi_list (ve_var (pv 0))) (vg_tup rfl (vgs_cons (vg_name (i := 2) sc_tally_of.nd rfl (by first | exact Or.inl rfl | exact Or.inr rfl)) (vgs_cons (vg_name (i := 3) sc_tally_of.nd rfl (by first | exact Or.inl rfl | exact Or.inr rfl)) vgs_nil)) (gC_len (gC_len gN_len))) (vss_one (vs_set (i := 1) sc_tally_of.nd rfl (by first | exact Or.inl rfl | exact Or.inr rfl) (ve_call G_joined (hr.mono (by decide)) rfl T.m_joined T.k_joined T.b_joined (va_cons (ve_var (pv 1)) (va_cons (ve_call G_run_tally (hr.mono (by decide)) rfl T.m_run_tally T.k_run_tally T.b_run_tally (va_cons (ve_var (pv 2)) (va_cons (ve_var (pv 3)) va_nil)) (hln := (aC_len (aC_len aN_len)))) va_nil)) (hln := (aC_len (aC_len aN_len)))))))
    (vss_one (vs_retV (pv 1)))))
theorem ok_between (T : Txt w K mg cl L) (G_land_between : FnOk P w K mg base CX0 1 L.a_land_between L.d_land_between ["one", "other"] (spP K cl 2 F_land_between)) (G_look_walk : FnOk P w K mg base CX0 2 L.a_look_walk L.d_look_walk ["walk"] (spP K cl 1 F_look_walk)) (G_tally_of : FnOk P w K mg base CX0 2 L.a_tally_of L.d_tally_of ["walk"] (spP K cl 1 F_tally_of)) : FnOk P w K mg base CX0 3 L.a_between L.d_between ["one", "other"] (spP K cl 2 F_between) := by
  refine fn_pure T.f_between sc_between rfl fun cdv A outer s H E hr => ?_
  have hu := hr.units
  exact (vss_cons (vs_expr (ve_call G_look_walk (hr.mono (by decide)) rfl T.m_look_walk T.k_look_walk T.b_look_walk (va_cons (ve_var (pv 0)) va_nil) (hln := (aC_len aN_len))))
    (vss_cons (vs_expr (ve_call G_look_walk (hr.mono (by decide)) rfl T.m_look_walk T.k_look_walk T.b_look_walk (va_cons (ve_var (pv 1)) va_nil) (hln := (aC_len aN_len))))
    (vss_one (vs_ret (ve_call G_land_between (hr.mono (by decide)) rfl T.m_land_between T.k_land_between T.b_land_between (va_cons (ve_call G_tally_of (hr.mono (by decide)) rfl T.m_tally_of T.k_tally_of T.b_tally_of (va_cons (ve_var (pv 0)) va_nil) (hln := (aC_len aN_len))) (va_cons (ve_call G_tally_of (hr.mono (by decide)) rfl T.m_tally_of T.k_tally_of T.b_tally_of (va_cons (ve_var (pv 1)) va_nil) (hln := (aC_len aN_len))) va_nil)) (hln := (aC_len (aC_len aN_len))))))))
theorem ok_tally (T : Txt w K mg cl L) (G_look_walk : FnOk P w K mg base CX0 2 L.a_look_walk L.d_look_walk ["walk"] (spP K cl 1 F_look_walk)) (G_tally_of : FnOk P w K mg base CX0 2 L.a_tally_of L.d_tally_of ["walk"] (spP K cl 1 F_tally_of)) : FnOk P w K mg base CX0 3 L.a_tally L.d_tally ["walk"] (spP K cl 1 F_tally) := by
  refine fn_pure T.f_tally sc_tally rfl fun cdv A outer s H E hr => ?_
  have hu := hr.units
  exact (vss_cons (vs_expr (ve_call G_look_walk (hr.mono (by decide)) rfl T.m_look_walk T.k_look_walk T.b_look_walk (va_cons (ve_var (pv 0)) va_nil) (hln := (aC_len aN_len))))
    (vss_one (vs_ret (ve_call G_tally_of (hr.mono (by decide)) rfl T.m_tally_of T.k_tally_of T.b_tally_of (va_cons (ve_var (pv 0)) va_nil) (hln := (aC_len aN_len))))))
theorem ok_law (T : Txt w K mg cl L) (G_l_draws : FnOk P w K mg base CX0 1 L.a_l_draws L.d_l_draws ["_law_script", "_law_many"] (spP K cl 2 F_l_draws)) (G_l_gone_back : FnOk P w K mg base CX0 1 L.a_l_gone_back L.d_l_gone_back ["_law_walk"] (spP K cl 1 F_l_gone_back)) (G_l_same : FnOk P w K mg base CX0 9 L.a_l_same L.d_l_same ["_law_found", "_law_due"] (spP K cl 2 F_l_same)) (G_l_some_walk : FnOk P w K mg base CX0 2 L.a_l_some_walk L.d_l_some_walk ["_law_d", "_law_most"] (spP K cl 2 F_l_some_walk)) (G_l_tally : FnOk P w K mg base CX0 2 L.a_l_tally L.d_l_tally ["_law_walk"] (spP K cl 1 F_l_tally)) (G_between : FnOk P w K mg base CX0 3 L.a_between L.d_between ["one", "other"] (spP K cl 2 F_between)) (G_tally : FnOk P w K mg base CX0 3 L.a_tally L.d_tally ["walk"] (spP K cl 1 F_tally)) : FnOk P w K mg base CX0 10 L.a_law L.d_law ["_law_script"] (spP K cl 1 F_law) := by
  refine fn_pure T.f_law sc_law rfl fun cdv A outer s H E hr => ?_
  have hu := hr.units
  exact (vss_cons (vs_set (i := 1) sc_law.nd rfl (by first | exact Or.inl rfl | exact Or.inr rfl) (ve_call G_l_draws (hr.mono (by decide)) rfl T.m_l_draws T.k_l_draws T.b_l_draws (va_cons (ve_var (pv 0)) (va_cons ve_int va_nil)) (hln := (aC_len (aC_len aN_len)))))
    (vss_cons (vs_setO (i := 2) sc_law.nd rfl (by first | exact Or.inl rfl | exact Or.inr rfl) (ve_lc (own := [("_law_k", 3)]) rfl sc_law.nd (vi_range1 rfl T.n_range ve_int) (blkOk_by (own := [("_law_k", 3)]) (N := N_law) (sc := defScope s_law) (by decide +kernel)) (by decide) (fun _ _ _ _ _ => (vg_name (i := 3) sc_law.nd rfl (by first | exact Or.inl rfl | exact Or.inr rfl))) (fun _ _ _ _ _ => vts_nil) (fun _ _ _ _ _ => (ve_call G_l_some_walk (hr.mono (by decide)) rfl T.m_l_some_walk T.k_l_some_walk T.b_l_some_walk (va_cons (ve_slice (ve_var (pv 1)) (vo_some (ve_add ve_int (ve_mul ve_int (ve_var (pv 3))))) vo_none) (va_cons ve_int va_nil)) (hln := (aC_len (aC_len aN_len)))))))
    (vss_cons (vs_set (i := 4) sc_law.nd rfl (by first | exact Or.inl rfl | exact Or.inr rfl) (ve_call G_l_tally (hr.mono (by decide)) rfl T.m_l_tally T.k_l_tally T.b_l_tally (va_cons (ve_ix (ve_var (pv 2)) ve_int) va_nil) (hln := (aC_len aN_len))))
    (vss_cons (vs_for PassesOwn.never rfl (vi_range2 rfl T.n_range ve_int ve_int) (vg_name (i := 3) sc_law.nd rfl (by first | exact Or.inl rfl | exact Or.inr rfl)) (vss_cons (vs_set (i := 5) sc_law.nd rfl (by first | exact Or.inl rfl | exact Or.inr rfl) (ve_call G_l_tally (hr.mono (by decide)) rfl T.m_l_tally T.k_l_tally T.b_l_tally (va_cons (ve_ix (ve_var (pv 2)) (ve_var (pv 3))) va_nil) (hln := (aC_len aN_len))))
    (vss_cons (vs_set (i := 6) sc_law.nd rfl (by first | exact Or.inl rfl | exact Or.inr rfl) (ve_lst (va_cons (ve_sub (ve_ix (ve_var (pv 4)) ve_int) (ve_ix (ve_var (pv 5)) ve_int)) (va_cons (ve_sub (ve_ix (ve_var (pv 4)) ve_int) (ve_ix (ve_var (pv 5)) ve_int)) va_nil))))
    (vss_one (vs_while PassesOwn.never (vt_cmp (oc_ne hu) (ve_var (pv 6)) (ve_lst (va_cons ve_int (va_cons ve_int va_nil))) (nomark _)) (vss_cons (vs_set (i := 7) sc_law.nd rfl (by first | exact Or.inl rfl | exact Or.inr rfl) (ve_lst (va_cons (ve_max2 rfl rfl T.n_max (ve_neg (ve_pow ve_int ve_int)) (ve_min2 rfl rfl T.n_min (ve_pow ve_int ve_int) (ve_ix (ve_var (pv 6)) ve_int))) (va_cons (ve_max2 rfl rfl T.n_max (ve_neg (ve_pow ve_int ve_int)) (ve_min2 rfl rfl T.n_min (ve_pow ve_int ve_int) (ve_ix (ve_var (pv 6)) ve_int))) va_nil))))
    (vss_cons (vs_setI (i := 2) (pv 2) (ve_var (pv 3)) (ve_ladd (ve_ix (ve_var (pv 2)) (ve_var (pv 3))) (ve_lmul (ve_lst (va_cons (ve_tup (va_cons (ve_if (vt_cmp oc_gt (ve_ix (ve_var (pv 7)) ve_int) ve_int (nomark _)) ve_str ve_str) (va_cons (ve_abs rfl T.n_abs (ve_ix (ve_var (pv 7)) ve_int)) va_nil))) va_nil)) (ve_int1 rfl T.n_int (ve_cmp (oc_ne hu) (ve_ix (ve_var (pv 7)) ve_int) ve_int (nomark _))))))
    (vss_cons (vs_setI (i := 2) (pv 2) (ve_var (pv 3)) (ve_ladd (ve_ix (ve_var (pv 2)) (ve_var (pv 3))) (ve_lmul (ve_lst (va_cons (ve_tup (va_cons (ve_if (vt_cmp oc_gt (ve_ix (ve_var (pv 7)) ve_int) ve_int (nomark _)) ve_str ve_str) (va_cons (ve_abs rfl T.n_abs (ve_ix (ve_var (pv 7)) ve_int)) va_nil))) va_nil)) (ve_int1 rfl T.n_int (ve_cmp (oc_ne hu) (ve_ix (ve_var (pv 7)) ve_int) ve_int (nomark _))))))
    (vss_one (vs_set (i := 6) sc_law.nd rfl (by first | exact Or.inl rfl | exact Or.inr rfl) (ve_lst (va_cons (ve_sub (ve_ix (ve_var (pv 6)) ve_int) (ve_ix (ve_var (pv 7)) ve_int)) (va_cons (ve_sub (ve_ix (ve_var (pv 6)) ve_int) (ve_ix (ve_var (pv 7)) ve_int)) va_nil)))))))))))))
    (vss_cons (vs_set (i := 8) sc_law.nd rfl (by first | exact Or.inl rfl | exact Or.inr rfl) (ve_call G_l_some_walk (hr.mono (by decide)) rfl T.m_l_some_walk T.k_l_some_walk T.b_l_some_walk (va_cons (ve_slice (ve_var (pv 1)) (vo_some ve_int) vo_none) (va_cons ve_int va_nil)) (hln := (aC_len (aC_len aN_len)))))
    (vss_cons (vs_lc (i := 9) (own := [("_law_k", 3)]) rfl sc_law.nd rfl rfl (sw_true rfl rfl rfl (by decide +kernel)) (vi_range1 rfl T.n_range ve_int) (blkOk_by (own := [("_law_k", 3)]) (N := N_law) (sc := defScope s_law) (by decide +kernel)) (by decide) (fun _ _ _ _ _ => (vg_name (i := 3) sc_law.nd rfl (by first | exact Or.inl rfl | exact Or.inr rfl))) (fun _ _ _ _ _ => vts_nil) (fun _ _ _ _ _ => (ve_call G_between (hr.mono (by decide)) rfl T.m_between T.k_between T.b_between (va_cons (ve_list rfl T.n_list (ve_ix (ve_var (pv 2)) (ve_var (pv 3)))) (va_cons (ve_list rfl T.n_list (ve_ix (ve_var (pv 2)) (ve_mod (ve_add (ve_var (pv 3)) ve_int) ve_int))) va_nil)) (hln := (aC_len (aC_len aN_len))))))
    (vss_cons (vs_if (PW.pt (vw_or (vt_cmp (oc_ne hu) (ve_sum rfl rfl T.n_sum (ve_var (pv 9))) ve_int (nomark _)) (vw_or1 (vt_cmp (oc_ne hu) (ve_call G_between (hr.mono (by decide)) rfl T.m_between T.k_between T.b_between (va_cons (ve_list rfl T.n_list (ve_ix (ve_var (pv 2)) ve_int)) (va_cons (ve_list rfl T.n_list (ve_ix (ve_var (pv 2)) ve_int)) va_nil)) (hln := (aC_len (aC_len aN_len)))) (ve_neg (ve_ix (ve_var (pv 9)) ve_int)) (nomark _))))) (vss_one (vs_ret ve_bl)) vss_nil)
    (vss_cons (vs_if (vt_cmp (oc_ne hu) (ve_slice (ve_call G_tally (hr.mono (by decide)) rfl T.m_tally T.k_tally T.b_tally (va_cons (ve_ladd (ve_ix (ve_var (pv 2)) ve_int) (ve_call G_l_gone_back (hr.mono (by decide)) rfl T.m_l_gone_back T.k_l_gone_back T.b_l_gone_back (va_cons (ve_ix (ve_var (pv 2)) ve_int) va_nil) (hln := (aC_len aN_len)))) va_nil) (hln := (aC_len aN_len))) vo_none (vo_some ve_int)) (ve_tup (va_cons ve_int (va_cons ve_int (va_cons (ve_ix (ve_var (pv 9)) ve_int) va_nil)))) (nomark _)) (vss_one (vs_ret ve_bl)) vss_nil)
    (vss_cons (vs_set (i := 10) sc_law.nd rfl (by first | exact Or.inl rfl | exact Or.inr rfl) (ve_call G_between (hr.mono (by decide)) rfl T.m_between T.k_between T.b_between (va_cons (ve_ladd (ve_var (pv 8)) (ve_ix (ve_var (pv 2)) ve_int)) (va_cons (ve_ladd (ve_var (pv 8)) (ve_ix (ve_var (pv 2)) ve_int)) va_nil)) (hln := (aC_len (aC_len aN_len)))))
    (vss_cons (vs_set (i := 11) sc_law.nd rfl (by first | exact Or.inl rfl | exact Or.inr rfl) (ve_call G_between (hr.mono (by decide)) rfl T.m_between T.k_between T.b_between (va_cons (ve_ladd (ve_ix (ve_var (pv 2)) ve_int) (ve_var (pv 8))) (va_cons (ve_ladd (ve_ix (ve_var (pv 2)) ve_int) (ve_var (pv 8))) va_nil)) (hln := (aC_len (aC_len aN_len)))))
    (vss_one (vs_ret (ve_callB G_l_same (hr.mono (by decide)) rfl T.m_l_same T.k_l_same T.b_l_same (vb_cons (ve_lst (va_cons (ve_var (pv 10)) (va_cons (ve_var (pv 11)) va_nil))) (vb_cons (ve_lst (va_cons (ve_ix (ve_var (pv 9)) ve_int) (va_cons (ve_ix (ve_var (pv 9)) ve_int) va_nil))) vb_nil)) (hln := (bC_len (bC_len aN_len))))))))))))))))
theorem ok_all (T : Txt w K mg cl L) (hl : ∀ ns : List Int, ns.length ≤ 63 → F_law [.scr ns] = .ok (.d (.bl true))) : FnOk P w K mg base CX0 10 L.a_law L.d_law ["_law_script"] (spLaw K) := by
  have G_l_draws := ok_l_draws (P := P) (w := w) (base := base) T 
  have G_l_gone_back := ok_l_gone_back (P := P) (w := w) (base := base) T 
  have G_l_same := ok_l_same (P := P) (w := w) (base := base) T 
  have G_l_ten := ok_l_ten (P := P) (w := w) (base := base) T 
  have G_l_some_walk := ok_l_some_walk (P := P) (w := w) (base := base) T G_l_ten
  have G_l_joined := ok_l_joined (P := P) (w := w) (base := base) T 
  have G_l_run_tally := ok_l_run_tally (P := P) (w := w) (base := base) T 
  have G_l_tally := ok_l_tally (P := P) (w := w) (base := base) T G_l_joined G_l_run_tally
  have G_land_between := ok_land_between (P := P) (w := w) (base := base) T 
  have G_is_run := ok_is_run (P := P) (w := w) (base := base) T 
  have G_look_walk := ok_look_walk (P := P) (w := w) (base := base) T G_is_run
  have G_joined := ok_joined (P := P) (w := w) (base := base) T 
  have G_run_tally := ok_run_tally (P := P) (w := w) (base := base) T 
  have G_tally_of := ok_tally_of (P := P) (w := w) (base := base) T G_joined G_run_tally
  have G_between := ok_between (P := P) (w := w) (base := base) T G_land_between G_look_walk G_tally_of
  have G_tally := ok_tally (P := P) (w := w) (base := base) T G_look_walk G_tally_of
  have G_law := ok_law (P := P) (w := w) (base := base) T G_l_draws G_l_gone_back G_l_same G_l_some_walk G_l_tally G_between G_tally
  exact fn_law G_law hl
end
theorem all_mk {l : PySem.W.OpenLaw} {w : World} {K : PySem.W.Frag} {h : Heap} {mg : Str → Option Value} {fa : Addr} (X : K.In h) (G : h.Ns mainGlobals mg) (hfa : mg "law" = some (.ref fa)) (hl : ∀ ns : List Int, ns.length ≤ 63 → F_law [.scr ns] = .ok (.d (.bl true)))
    {f_l_draws f_l_gone_back f_l_same f_l_ten f_l_some_walk f_l_joined f_l_run_tally f_l_tally f_land_between f_is_run f_look_walk f_joined f_run_tally f_tally_of f_between f_tally f_law : Addr}
    {oc_l_draws kV_l_draws dc_l_draws pm_l_draws cd_l_draws ct_l_draws oc_l_gone_back kV_l_gone_back dc_l_gone_back pm_l_gone_back cd_l_gone_back ct_l_gone_back oc_l_same kV_l_same dc_l_same pm_l_same cd_l_same ct_l_same oc_l_ten kV_l_ten dc_l_ten pm_l_ten cd_l_ten ct_l_ten oc_l_some_walk kV_l_some_walk dc_l_some_walk pm_l_some_walk cd_l_some_walk ct_l_some_walk oc_l_joined kV_l_joined dc_l_joined pm_l_joined cd_l_joined ct_l_joined oc_l_run_tally kV_l_run_tally dc_l_run_tally pm_l_run_tally cd_l_run_tally ct_l_run_tally oc_l_tally kV_l_tally dc_l_tally pm_l_tally cd_l_tally ct_l_tally oc_land_between kV_land_between dc_land_between pm_land_between cd_land_between ct_land_between oc_is_run kV_is_run dc_is_run pm_is_run cd_is_run ct_is_run oc_look_walk kV_look_walk dc_look_walk pm_look_walk cd_look_walk ct_look_walk oc_joined kV_joined dc_joined pm_joined cd_joined ct_joined oc_run_tally kV_run_tally dc_run_tally pm_run_tally cd_run_tally ct_run_tally oc_tally_of kV_tally_of dc_tally_of pm_tally_of cd_tally_of ct_tally_of oc_between kV_between dc_between pm_between cd_between ct_between oc_tally kV_tally dc_tally pm_tally cd_tally ct_tally oc_law kV_law dc_law pm_law cd_law ct_law : Value}
    {od_l_draws an_l_draws od_l_gone_back an_l_gone_back od_l_same an_l_same od_l_ten an_l_ten od_l_some_walk an_l_some_walk od_l_joined an_l_joined od_l_run_tally an_l_run_tally od_l_tally an_l_tally od_land_between an_land_between od_is_run an_is_run od_look_walk an_look_walk od_joined an_joined od_run_tally an_run_tally od_tally_of an_tally_of od_between an_between od_tally an_tally od_law an_law : Option Addr}
    {sl_l_draws sl_l_gone_back sl_l_same sl_l_ten sl_l_some_walk sl_l_joined sl_l_run_tally sl_l_tally sl_land_between sl_is_run sl_look_walk sl_joined sl_run_tally sl_tally_of sl_between sl_tally sl_law : Array (Option Value)}
    {f_EAST_STEPS : Addr} {es_EAST_STEPS : Array DictEntry} {n_EAST_STEPS : Nat}
    {u_MOST_RUNS : Value}
    {u_MOST_STEPS : Value}
    {f_NORTH_STEPS : Addr} {es_NORTH_STEPS : Array DictEntry} {n_NORTH_STEPS : Nat}
    {f_NOUGHT : Addr} {od_NOUGHT : Option Addr} {es_NOUGHT : Array Value} {n_NOUGHT : Nat} {sl_NOUGHT : Array (Option Value)}
    {f_WAYS : Addr} {od_WAYS : Option Addr} {es_WAYS : Array Value} {n_WAYS : Nat} {sl_WAYS : Array (Option Value)}
    (a_l_draws : PySem.W.nsIn K mainGlobals "_law_draws" = some (some (.ref f_l_draws)))
    (l_l_draws : K.lookup f_l_draws = some ⟨oc_l_draws, od_l_draws, .func (PySem.W.fnOf "_law_draws" "_law_draws" (defArgs s_l_draws) (defBody s_l_draws) (defScope s_l_draws) .none kV_l_draws dc_l_draws pm_l_draws an_l_draws cd_l_draws ct_l_draws), sl_l_draws⟩)
    (c_l_draws : PySem.W.codeIn K cd_l_draws "_law_draws" = true)
    (k_l_draws : PySem.W.keepIn K (.ref f_l_draws) = true)
    (a_l_gone_back : PySem.W.nsIn K mainGlobals "_law_gone_back" = some (some (.ref f_l_gone_back)))
    (l_l_gone_back : K.lookup f_l_gone_back = some ⟨oc_l_gone_back, od_l_gone_back, .func (PySem.W.fnOf "_law_gone_back" "_law_gone_back" (defArgs s_l_gone_back) (defBody s_l_gone_back) (defScope s_l_gone_back) .none kV_l_gone_back dc_l_gone_back pm_l_gone_back an_l_gone_back cd_l_gone_back ct_l_gone_back), sl_l_gone_back⟩)
    (c_l_gone_back : PySem.W.codeIn K cd_l_gone_back "_law_gone_back" = true)
    (k_l_gone_back : PySem.W.keepIn K (.ref f_l_gone_back) = true)
    (a_l_same : PySem.W.nsIn K mainGlobals "_law_same" = some (some (.ref f_l_same)))
    (l_l_same : K.lookup f_l_same = some ⟨oc_l_same, od_l_same, .func (PySem.W.fnOf "_law_same" "_law_same" (defArgs s_l_same) (defBody s_l_same) (defScope s_l_same) .none kV_l_same dc_l_same pm_l_same an_l_same cd_l_same ct_l_same), sl_l_same⟩)
    (c_l_same : PySem.W.codeIn K cd_l_same "_law_same" = true)
    (k_l_same : PySem.W.keepIn K (.ref f_l_same) = true)
    (a_l_ten : PySem.W.nsIn K mainGlobals "_law_ten" = some (some (.ref f_l_ten)))
    (l_l_ten : K.lookup f_l_ten = some ⟨oc_l_ten, od_l_ten, .func (PySem.W.fnOf "_law_ten" "_law_ten" (defArgs s_l_ten) (defBody s_l_ten) (defScope s_l_ten) .none kV_l_ten dc_l_ten pm_l_ten an_l_ten cd_l_ten ct_l_ten), sl_l_ten⟩)
    (c_l_ten : PySem.W.codeIn K cd_l_ten "_law_ten" = true)
    (k_l_ten : PySem.W.keepIn K (.ref f_l_ten) = true)
    (a_l_some_walk : PySem.W.nsIn K mainGlobals "_law_some_walk" = some (some (.ref f_l_some_walk)))
    (l_l_some_walk : K.lookup f_l_some_walk = some ⟨oc_l_some_walk, od_l_some_walk, .func (PySem.W.fnOf "_law_some_walk" "_law_some_walk" (defArgs s_l_some_walk) (defBody s_l_some_walk) (defScope s_l_some_walk) .none kV_l_some_walk dc_l_some_walk pm_l_some_walk an_l_some_walk cd_l_some_walk ct_l_some_walk), sl_l_some_walk⟩)
    (c_l_some_walk : PySem.W.codeIn K cd_l_some_walk "_law_some_walk" = true)
    (k_l_some_walk : PySem.W.keepIn K (.ref f_l_some_walk) = true)
    (a_l_joined : PySem.W.nsIn K mainGlobals "_law_joined" = some (some (.ref f_l_joined)))
    (l_l_joined : K.lookup f_l_joined = some ⟨oc_l_joined, od_l_joined, .func (PySem.W.fnOf "_law_joined" "_law_joined" (defArgs s_l_joined) (defBody s_l_joined) (defScope s_l_joined) .none kV_l_joined dc_l_joined pm_l_joined an_l_joined cd_l_joined ct_l_joined), sl_l_joined⟩)
    (c_l_joined : PySem.W.codeIn K cd_l_joined "_law_joined" = true)
    (k_l_joined : PySem.W.keepIn K (.ref f_l_joined) = true)
    (a_l_run_tally : PySem.W.nsIn K mainGlobals "_law_run_tally" = some (some (.ref f_l_run_tally)))
    (l_l_run_tally : K.lookup f_l_run_tally = some ⟨oc_l_run_tally, od_l_run_tally, .func (PySem.W.fnOf "_law_run_tally" "_law_run_tally" (defArgs s_l_run_tally) (defBody s_l_run_tally) (defScope s_l_run_tally) .none kV_l_run_tally dc_l_run_tally pm_l_run_tally an_l_run_tally cd_l_run_tally ct_l_run_tally), sl_l_run_tally⟩)
    (c_l_run_tally : PySem.W.codeIn K cd_l_run_tally "_law_run_tally" = true)
    (k_l_run_tally : PySem.W.keepIn K (.ref f_l_run_tally) = true)
    (a_l_tally : PySem.W.nsIn K mainGlobals "_law_tally" = some (some (.ref f_l_tally)))
    (l_l_tally : K.lookup f_l_tally = some ⟨oc_l_tally, od_l_tally, .func (PySem.W.fnOf "_law_tally" "_law_tally" (defArgs s_l_tally) (defBody s_l_tally) (defScope s_l_tally) .none kV_l_tally dc_l_tally pm_l_tally an_l_tally cd_l_tally ct_l_tally), sl_l_tally⟩)
    (c_l_tally : PySem.W.codeIn K cd_l_tally "_law_tally" = true)
    (k_l_tally : PySem.W.keepIn K (.ref f_l_tally) = true)
    (a_land_between : PySem.W.nsIn K mainGlobals "land_between" = some (some (.ref f_land_between)))
    (l_land_between : K.lookup f_land_between = some ⟨oc_land_between, od_land_between, .func (PySem.W.fnOf "land_between" "land_between" (defArgs s_land_between) (defBody s_land_between) (defScope s_land_between) .none kV_land_between dc_land_between pm_land_between an_land_between cd_land_between ct_land_between), sl_land_between⟩)
    (c_land_between : PySem.W.codeIn K cd_land_between "land_between" = true)
    (k_land_between : PySem.W.keepIn K (.ref f_land_between) = true)
    (a_is_run : PySem.W.nsIn K mainGlobals "is_run" = some (some (.ref f_is_run)))
    (l_is_run : K.lookup f_is_run = some ⟨oc_is_run, od_is_run, .func (PySem.W.fnOf "is_run" "is_run" (defArgs s_is_run) (defBody s_is_run) (defScope s_is_run) .none kV_is_run dc_is_run pm_is_run an_is_run cd_is_run ct_is_run), sl_is_run⟩)
    (c_is_run : PySem.W.codeIn K cd_is_run "is_run" = true)
    (k_is_run : PySem.W.keepIn K (.ref f_is_run) = true)
    (a_look_walk : PySem.W.nsIn K mainGlobals "look_walk" = some (some (.ref f_look_walk)))
    (l_look_walk : K.lookup f_look_walk = some ⟨oc_look_walk, od_look_walk, .func (PySem.W.fnOf "look_walk" "look_walk" (defArgs s_look_walk) (defBody s_look_walk) (defScope s_look_walk) .none kV_look_walk dc_look_walk pm_look_walk an_look_walk cd_look_walk ct_look_walk), sl_look_walk⟩)
    (c_look_walk : PySem.W.codeIn K cd_look_walk "look_walk" = true)
    (k_look_walk : PySem.W.keepIn K (.ref f_look_walk) = true)
    (a_joined : PySem.W.nsIn K mainGlobals "joined" = some (some (.ref f_joined)))
    (l_joined : K.lookup f_joined = some ⟨oc_joined, od_joined, .func (PySem.W.fnOf "joined" "joined" (defArgs s_joined) (defBody s_joined) (defScope s_joined) .none kV_joined dc_joined pm_joined an_joined cd_joined ct_joined), sl_joined⟩)
    (c_joined : PySem.W.codeIn K cd_joined "joined" = true)
    (k_joined : PySem.W.keepIn K (.ref f_joined) = true)
    (a_run_tally : PySem.W.nsIn K mainGlobals "run_tally" = some (some (.ref f_run_tally)))
    (l_run_tally : K.lookup f_run_tally = some ⟨oc_run_tally, od_run_tally, .func (PySem.W.fnOf "run_tally" "run_tally" (defArgs s_run_tally) (defBody s_run_tally) (defScope s_run_tally) .none kV_run_tally dc_run_tally pm_run_tally an_run_tally cd_run_tally ct_run_tally), sl_run_tally⟩)
    (c_run_tally : PySem.W.codeIn K cd_run_tally "run_tally" = true)
    (k_run_tally : PySem.W.keepIn K (.ref f_run_tally) = true)
    (a_tally_of : PySem.W.nsIn K mainGlobals "tally_of" = some (some (.ref f_tally_of)))
    (l_tally_of : K.lookup f_tally_of = some ⟨oc_tally_of, od_tally_of, .func (PySem.W.fnOf "tally_of" "tally_of" (defArgs s_tally_of) (defBody s_tally_of) (defScope s_tally_of) .none kV_tally_of dc_tally_of pm_tally_of an_tally_of cd_tally_of ct_tally_of), sl_tally_of⟩)
    (c_tally_of : PySem.W.codeIn K cd_tally_of "tally_of" = true)
    (k_tally_of : PySem.W.keepIn K (.ref f_tally_of) = true)
    (a_between : PySem.W.nsIn K mainGlobals "between" = some (some (.ref f_between)))
    (l_between : K.lookup f_between = some ⟨oc_between, od_between, .func (PySem.W.fnOf "between" "between" (defArgs s_between) (defBody s_between) (defScope s_between) .none kV_between dc_between pm_between an_between cd_between ct_between), sl_between⟩)
    (c_between : PySem.W.codeIn K cd_between "between" = true)
    (k_between : PySem.W.keepIn K (.ref f_between) = true)
    (a_tally : PySem.W.nsIn K mainGlobals "tally" = some (some (.ref f_tally)))
    (l_tally : K.lookup f_tally = some ⟨oc_tally, od_tally, .func (PySem.W.fnOf "tally" "tally" (defArgs s_tally) (defBody s_tally) (defScope s_tally) .none kV_tally dc_tally pm_tally an_tally cd_tally ct_tally), sl_tally⟩)
    (c_tally : PySem.W.codeIn K cd_tally "tally" = true)
    (k_tally : PySem.W.keepIn K (.ref f_tally) = true)
    (a_law : PySem.W.nsIn K mainGlobals "law" = some (some (.ref f_law)))
    (l_law : K.lookup f_law = some ⟨oc_law, od_law, .func (PySem.W.fnOf "law" "law" (defArgs s_law) (defBody s_law) (defScope s_law) .none kV_law dc_law pm_law an_law cd_law ct_law), sl_law⟩)
    (c_law : PySem.W.codeIn K cd_law "law" = true)
    (k_law : PySem.W.keepIn K (.ref f_law) = true)
    (z_abs : PySem.W.nsIn K mainGlobals "abs" = some none)
    (z_all : PySem.W.nsIn K mainGlobals "all" = some none)
    (z_bool : PySem.W.nsIn K mainGlobals "bool" = some none)
    (z_enumerate : PySem.W.nsIn K mainGlobals "enumerate" = some none)
    (z_int : PySem.W.nsIn K mainGlobals "int" = some none)
    (z_isinstance : PySem.W.nsIn K mainGlobals "isinstance" = some none)
    (z_len : PySem.W.nsIn K mainGlobals "len" = some none)
    (z_list : PySem.W.nsIn K mainGlobals "list" = some none)
    (z_max : PySem.W.nsIn K mainGlobals "max" = some none)
    (z_min : PySem.W.nsIn K mainGlobals "min" = some none)
    (z_range : PySem.W.nsIn K mainGlobals "range" = some none)
    (z_str : PySem.W.nsIn K mainGlobals "str" = some none)
    (z_sum : PySem.W.nsIn K mainGlobals "sum" = some none)
    (z_tuple : PySem.W.nsIn K mainGlobals "tuple" = some none)
    (a_EAST_STEPS : PySem.W.nsIn K mainGlobals "EAST_STEPS" = some (some (.ref f_EAST_STEPS)))
    (l_EAST_STEPS : K.lookup f_EAST_STEPS = some ⟨.type "dict", none, .dict es_EAST_STEPS n_EAST_STEPS, #[]⟩)
    (h_EAST_STEPS : PySem.W.KeysLit w.params es_EAST_STEPS.toList)
    (v_EAST_STEPS : es_EAST_STEPS.toList.map (fun e => (absV e.key, absV e.val)) = c_EAST_STEPS.map (fun p => (some (.str p.1), some (dV p.2))))
    (s_EAST_STEPS : (f_EAST_STEPS == sysModules) = false)
    (a_MOST_RUNS : PySem.W.nsIn K mainGlobals "MOST_RUNS" = some (some u_MOST_RUNS))
    (r_MOST_RUNS : RelV (dV c_MOST_RUNS) u_MOST_RUNS)
    (a_MOST_STEPS : PySem.W.nsIn K mainGlobals "MOST_STEPS" = some (some u_MOST_STEPS))
    (r_MOST_STEPS : RelV (dV c_MOST_STEPS) u_MOST_STEPS)
    (a_NORTH_STEPS : PySem.W.nsIn K mainGlobals "NORTH_STEPS" = some (some (.ref f_NORTH_STEPS)))
    (l_NORTH_STEPS : K.lookup f_NORTH_STEPS = some ⟨.type "dict", none, .dict es_NORTH_STEPS n_NORTH_STEPS, #[]⟩)
    (h_NORTH_STEPS : PySem.W.KeysLit w.params es_NORTH_STEPS.toList)
    (v_NORTH_STEPS : es_NORTH_STEPS.toList.map (fun e => (absV e.key, absV e.val)) = c_NORTH_STEPS.map (fun p => (some (.str p.1), some (dV p.2))))
    (s_NORTH_STEPS : (f_NORTH_STEPS == sysModules) = false)
    (a_NOUGHT : PySem.W.nsIn K mainGlobals "NOUGHT" = some (some (.ref f_NOUGHT)))
    (l_NOUGHT : K.lookup f_NOUGHT = some ⟨.type "tuple", od_NOUGHT, .seq es_NOUGHT n_NOUGHT, sl_NOUGHT⟩)
    (v_NOUGHT : es_NOUGHT.toList.map absV = (c_NOUGHT.map dV).map some)
    (a_WAYS : PySem.W.nsIn K mainGlobals "WAYS" = some (some (.ref f_WAYS)))
    (l_WAYS : K.lookup f_WAYS = some ⟨.type "tuple", od_WAYS, .seq es_WAYS n_WAYS, sl_WAYS⟩)
    (v_WAYS : es_WAYS.toList.map absV = (c_WAYS.map dV).map some)
    : ∃ fd : FuncData, (∀ (s : Shared) (v : Value), BindsTo s fd ⟨[v], []⟩ [("_law_script", v)]) ∧ ∀ base : Heap, K.In base → base.Ns mainGlobals mg → FnOk l.prog w K mg base CX0 10 fa fd ["_law_script"] (spLaw K) := by
  have e := hfa.symm.trans (PySem.W.mg_of X G a_law)
  cases e
  have F_l_draws := fun_mk (st := s_l_draws) l_l_draws c_l_draws k_l_draws
  have B_l_draws := F_l_draws.binds (ps := ["_law_script", "_law_many"]) fun _ _ _ _ _ _ us hl => match us, hl with | [_, _], _ => rfl
  have F_l_gone_back := fun_mk (st := s_l_gone_back) l_l_gone_back c_l_gone_back k_l_gone_back
  have B_l_gone_back := F_l_gone_back.binds (ps := ["_law_walk"]) fun _ _ _ _ _ _ us hl => match us, hl with | [_], _ => rfl
  have F_l_same := fun_mk (st := s_l_same) l_l_same c_l_same k_l_same
  have B_l_same := F_l_same.binds (ps := ["_law_found", "_law_due"]) fun _ _ _ _ _ _ us hl => match us, hl with | [_, _], _ => rfl
  have F_l_ten := fun_mk (st := s_l_ten) l_l_ten c_l_ten k_l_ten
  have B_l_ten := F_l_ten.binds (ps := ["_law_many"]) fun _ _ _ _ _ _ us hl => match us, hl with | [_], _ => rfl
  have F_l_some_walk := fun_mk (st := s_l_some_walk) l_l_some_walk c_l_some_walk k_l_some_walk
  have B_l_some_walk := F_l_some_walk.binds (ps := ["_law_d", "_law_most"]) fun _ _ _ _ _ _ us hl => match us, hl with | [_, _], _ => rfl
  have F_l_joined := fun_mk (st := s_l_joined) l_l_joined c_l_joined k_l_joined
  have B_l_joined := F_l_joined.binds (ps := ["_law_one", "_law_other"]) fun _ _ _ _ _ _ us hl => match us, hl with | [_, _], _ => rfl
  have F_l_run_tally := fun_mk (st := s_l_run_tally) l_l_run_tally c_l_run_tally k_l_run_tally
  have B_l_run_tally := F_l_run_tally.binds (ps := ["_law_way", "_law_many"]) fun _ _ _ _ _ _ us hl => match us, hl with | [_, _], _ => rfl
  have F_l_tally := fun_mk (st := s_l_tally) l_l_tally c_l_tally k_l_tally
  have B_l_tally := F_l_tally.binds (ps := ["_law_walk"]) fun _ _ _ _ _ _ us hl => match us, hl with | [_], _ => rfl
  have F_land_between := fun_mk (st := s_land_between) l_land_between c_land_between k_land_between
  have B_land_between := F_land_between.binds (ps := ["one", "other"]) fun _ _ _ _ _ _ us hl => match us, hl with | [_, _], _ => rfl
  have F_is_run := fun_mk (st := s_is_run) l_is_run c_is_run k_is_run
  have B_is_run := F_is_run.binds (ps := ["way", "many"]) fun _ _ _ _ _ _ us hl => match us, hl with | [_, _], _ => rfl
  have F_look_walk := fun_mk (st := s_look_walk) l_look_walk c_look_walk k_look_walk
  have B_look_walk := F_look_walk.binds (ps := ["walk"]) fun _ _ _ _ _ _ us hl => match us, hl with | [_], _ => rfl
  have F_joined := fun_mk (st := s_joined) l_joined c_joined k_joined
  have B_joined := F_joined.binds (ps := ["one", "other"]) fun _ _ _ _ _ _ us hl => match us, hl with | [_, _], _ => rfl
  have F_run_tally := fun_mk (st := s_run_tally) l_run_tally c_run_tally k_run_tally
  have B_run_tally := F_run_tally.binds (ps := ["way", "many"]) fun _ _ _ _ _ _ us hl => match us, hl with | [_, _], _ => rfl
  have F_tally_of := fun_mk (st := s_tally_of) l_tally_of c_tally_of k_tally_of
  have B_tally_of := F_tally_of.binds (ps := ["walk"]) fun _ _ _ _ _ _ us hl => match us, hl with | [_], _ => rfl
  have F_between := fun_mk (st := s_between) l_between c_between k_between
  have B_between := F_between.binds (ps := ["one", "other"]) fun _ _ _ _ _ _ us hl => match us, hl with | [_, _], _ => rfl
  have F_tally := fun_mk (st := s_tally) l_tally c_tally k_tally
  have B_tally := F_tally.binds (ps := ["walk"]) fun _ _ _ _ _ _ us hl => match us, hl with | [_], _ => rfl
  have F_law := fun_mk (st := s_law) l_law c_law k_law
  have B_law := F_law.binds (ps := ["_law_script"]) fun _ _ _ _ _ _ us hl => match us, hl with | [_], _ => rfl
  have T : Txt w K mg (fun _ => 0) ⟨f_l_draws, _, f_l_gone_back, _, f_l_same, _, f_l_ten, _, f_l_some_walk, _, f_l_joined, _, f_l_run_tally, _, f_l_tally, _, f_land_between, _, f_is_run, _, f_look_walk, _, f_joined, _, f_run_tally, _, f_tally_of, _, f_between, _, f_tally, _, fa, _, f_EAST_STEPS, f_NORTH_STEPS, f_NOUGHT, f_WAYS⟩ := {
    n_abs := PySem.W.mg_none_of X G z_abs
    n_all := PySem.W.mg_none_of X G z_all
    n_bool := PySem.W.mg_none_of X G z_bool
    n_enumerate := PySem.W.mg_none_of X G z_enumerate
    n_int := PySem.W.mg_none_of X G z_int
    n_isinstance := PySem.W.mg_none_of X G z_isinstance
    n_len := PySem.W.mg_none_of X G z_len
    n_list := PySem.W.mg_none_of X G z_list
    n_max := PySem.W.mg_none_of X G z_max
    n_min := PySem.W.mg_none_of X G z_min
    n_range := PySem.W.mg_none_of X G z_range
    n_str := PySem.W.mg_none_of X G z_str
    n_sum := PySem.W.mg_none_of X G z_sum
    n_tuple := PySem.W.mg_none_of X G z_tuple
    f_l_draws := F_l_draws
    m_l_draws := PySem.W.mg_of X G a_l_draws
    k_l_draws := k_l_draws
    b_l_draws := B_l_draws
    f_l_gone_back := F_l_gone_back
    m_l_gone_back := PySem.W.mg_of X G a_l_gone_back
    k_l_gone_back := k_l_gone_back
    b_l_gone_back := B_l_gone_back
    f_l_same := F_l_same
    m_l_same := PySem.W.mg_of X G a_l_same
    k_l_same := k_l_same
    b_l_same := B_l_same
    f_l_ten := F_l_ten
    m_l_ten := PySem.W.mg_of X G a_l_ten
    k_l_ten := k_l_ten
    b_l_ten := B_l_ten
    f_l_some_walk := F_l_some_walk
    m_l_some_walk := PySem.W.mg_of X G a_l_some_walk
    k_l_some_walk := k_l_some_walk
    b_l_some_walk := B_l_some_walk
    f_l_joined := F_l_joined
    m_l_joined := PySem.W.mg_of X G a_l_joined
    k_l_joined := k_l_joined
    b_l_joined := B_l_joined
    f_l_run_tally := F_l_run_tally
    m_l_run_tally := PySem.W.mg_of X G a_l_run_tally
    k_l_run_tally := k_l_run_tally
    b_l_run_tally := B_l_run_tally
    f_l_tally := F_l_tally
    m_l_tally := PySem.W.mg_of X G a_l_tally
    k_l_tally := k_l_tally
    b_l_tally := B_l_tally
    f_land_between := F_land_between
    m_land_between := PySem.W.mg_of X G a_land_between
    k_land_between := k_land_between
    b_land_between := B_land_between
    f_is_run := F_is_run
    m_is_run := PySem.W.mg_of X G a_is_run
    k_is_run := k_is_run
    b_is_run := B_is_run
    f_look_walk := F_look_walk
    m_look_walk := PySem.W.mg_of X G a_look_walk
    k_look_walk := k_look_walk
    b_look_walk := B_look_walk
    f_joined := F_joined
    m_joined := PySem.W.mg_of X G a_joined
    k_joined := k_joined
    b_joined := B_joined
    f_run_tally := F_run_tally
    m_run_tally := PySem.W.mg_of X G a_run_tally
    k_run_tally := k_run_tally
    b_run_tally := B_run_tally
    f_tally_of := F_tally_of
    m_tally_of := PySem.W.mg_of X G a_tally_of
    k_tally_of := k_tally_of
    b_tally_of := B_tally_of
    f_between := F_between
    m_between := PySem.W.mg_of X G a_between
    k_between := k_between
    b_between := B_between
    f_tally := F_tally
    m_tally := PySem.W.mg_of X G a_tally
    k_tally := k_tally
    b_tally := B_tally
    f_law := F_law
    m_law := PySem.W.mg_of X G a_law
    k_law := k_law
    b_law := B_law
    g_EAST_STEPS := PySem.W.mg_of X G a_EAST_STEPS
    r_EAST_STEPS := kd_const l_EAST_STEPS h_EAST_STEPS v_EAST_STEPS s_EAST_STEPS rfl
    g_MOST_RUNS := ⟨_, PySem.W.mg_of X G a_MOST_RUNS, r_MOST_RUNS⟩
    g_MOST_STEPS := ⟨_, PySem.W.mg_of X G a_MOST_STEPS, r_MOST_STEPS⟩
    g_NORTH_STEPS := PySem.W.mg_of X G a_NORTH_STEPS
    r_NORTH_STEPS := kd_const l_NORTH_STEPS h_NORTH_STEPS v_NORTH_STEPS s_NORTH_STEPS rfl
    g_NOUGHT := PySem.W.mg_of X G a_NOUGHT
    r_NOUGHT := sqt_const l_NOUGHT v_NOUGHT (by decide)
    g_WAYS := PySem.W.mg_of X G a_WAYS
    r_WAYS := sqt_const l_WAYS v_WAYS (by decide)
  }
  exact ⟨_, fun s v => .of_eq rfl, fun base _ _ => ok_all T hl⟩
theorem walk {l : PySem.W.OpenLaw} {q : Program} {loose : List Str} {XP : (Str → Option Value) → Heap → Prop} {YP : World → Heap → Prop} {d : DefRec} {K : Params → PySem.W.Frag} (hn : l.most = some 63) (hdf : d.params.defaults = [])
    (hY : ∀ (w : World) (h : Heap), YP w h → (K w.params).In h)
    (F : ∀ (w : World) (mg : Str → Option Value) (fa : Addr) (h : Heap), (K w.params).In h → h.Ns mainGlobals mg → mg d.name = some (.ref fa) →
      ∃ fd : FuncData, (∀ (s : Shared) (u : Value), BindsTo s fd ⟨[u], []⟩ [("_law_script", u)]) ∧ ∀ base : Heap, (K w.params).In base → base.Ns mainGlobals mg → FnOk l.prog w (K w.params) mg base CX0 10 fa fd ["_law_script"] (spLaw (K w.params))) :
    PySem.W.WalkO q loose XP YP l.row.toRowW d [] (fun f vs => PySem.call f vs) :=
  L2.walk_of (n := 63) (k := 10) (x := "_law_script") (CX := fun _ => CX0) (sp := fun w => spLaw (K w.params)) hn (by decide) hdf ⟨rfl, by decide, by decide⟩ hY F (fun _ _ a ns hl _ hS => ⟨a, ns, rfl, hS, hl, fun _ => rfl⟩) fun _ _ _ _ _ z => z
end Pf

open PySem PySem.W PyProof.Rows in
set_option maxRecDepth 100000 in
set_option maxHeartbeats 0 in
theorem PySem.Challenge.cw_oxhide_k37_whole_land_between_roads_holds : PySem.Challenge.rw_oxhide_k37_whole_land_between_roads.Holds := by
  w_on; o_law; k_head; (case hw => w_witness2)
  k_fill
  refine Pf.walk (l := PySem.Challenge.rw_oxhide_k37_whole_land_between_roads) rfl rfl (fun w h Y => PySem.W.kIn_of Y) ?F
  case F =>
    intro w mg fa h KX G hmg
    refine' Pf.all_mk KX G hmg Pf.law_true ?a_l_draws ?l_l_draws ?c_l_draws ?k_l_draws ?a_l_gone_back ?l_l_gone_back ?c_l_gone_back ?k_l_gone_back ?a_l_same ?l_l_same ?c_l_same ?k_l_same ?a_l_ten ?l_l_ten ?c_l_ten ?k_l_ten ?a_l_some_walk ?l_l_some_walk ?c_l_some_walk ?k_l_some_walk ?a_l_joined ?l_l_joined ?c_l_joined ?k_l_joined ?a_l_run_tally ?l_l_run_tally ?c_l_run_tally ?k_l_run_tally ?a_l_tally ?l_l_tally ?c_l_tally ?k_l_tally ?a_land_between ?l_land_between ?c_land_between ?k_land_between ?a_is_run ?l_is_run ?c_is_run ?k_is_run ?a_look_walk ?l_look_walk ?c_look_walk ?k_look_walk ?a_joined ?l_joined ?c_joined ?k_joined ?a_run_tally ?l_run_tally ?c_run_tally ?k_run_tally ?a_tally_of ?l_tally_of ?c_tally_of ?k_tally_of ?a_between ?l_between ?c_between ?k_between ?a_tally ?l_tally ?c_tally ?k_tally ?a_law ?l_law ?c_law ?k_law ?z_abs ?z_all ?z_bool ?z_enumerate ?z_int ?z_isinstance ?z_len ?z_list ?z_max ?z_min ?z_range ?z_str ?z_sum ?z_tuple ?a_EAST_STEPS ?l_EAST_STEPS ?h_EAST_STEPS ?v_EAST_STEPS ?s_EAST_STEPS ?a_MOST_RUNS ?r_MOST_RUNS ?a_MOST_STEPS ?r_MOST_STEPS ?a_NORTH_STEPS ?l_NORTH_STEPS ?h_NORTH_STEPS ?v_NORTH_STEPS ?s_NORTH_STEPS ?a_NOUGHT ?l_NOUGHT ?v_NOUGHT ?a_WAYS ?l_WAYS ?v_WAYS
    (case a_l_draws => k_is)
    (case l_l_draws => k_is)
    (case c_l_draws => k_is)
    (case k_l_draws => k_is)
    (case a_l_gone_back => k_is)
    (case l_l_gone_back => k_is)
    (case c_l_gone_back => k_is)
    (case k_l_gone_back => k_is)
    (case a_l_same => k_is)
    (case l_l_same => k_is)
    (case c_l_same => k_is)
    (case k_l_same => k_is)
    (case a_l_ten => k_is)
    (case l_l_ten => k_is)
    (case c_l_ten => k_is)
    (case k_l_ten => k_is)
    (case a_l_some_walk => k_is)
    (case l_l_some_walk => k_is)
    (case c_l_some_walk => k_is)
    (case k_l_some_walk => k_is)
    (case a_l_joined => k_is)
    (case l_l_joined => k_is)
    (case c_l_joined => k_is)
    (case k_l_joined => k_is)
    (case a_l_run_tally => k_is)
    (case l_l_run_tally => k_is)
    (case c_l_run_tally => k_is)
    (case k_l_run_tally => k_is)
    (case a_l_tally => k_is)
    (case l_l_tally => k_is)
    (case c_l_tally => k_is)
    (case k_l_tally => k_is)
    (case a_land_between => k_is)
    (case l_land_between => k_is)
    (case c_land_between => k_is)
    (case k_land_between => k_is)
    (case a_is_run => k_is)
    (case l_is_run => k_is)
    (case c_is_run => k_is)
    (case k_is_run => k_is)
    (case a_look_walk => k_is)
    (case l_look_walk => k_is)
    (case c_look_walk => k_is)
    (case k_look_walk => k_is)
    (case a_joined => k_is)
    (case l_joined => k_is)
    (case c_joined => k_is)
    (case k_joined => k_is)
    (case a_run_tally => k_is)
    (case l_run_tally => k_is)
    (case c_run_tally => k_is)
    (case k_run_tally => k_is)
    (case a_tally_of => k_is)
    (case l_tally_of => k_is)
    (case c_tally_of => k_is)
    (case k_tally_of => k_is)
    (case a_between => k_is)
    (case l_between => k_is)
    (case c_between => k_is)
    (case k_between => k_is)
    (case a_tally => k_is)
    (case l_tally => k_is)
    (case c_tally => k_is)
    (case k_tally => k_is)
    (case a_law => k_is)
    (case l_law => k_is)
    (case c_law => k_is)
    (case k_law => k_is)
    (case z_abs => k_is)
    (case z_all => k_is)
    (case z_bool => k_is)
    (case z_enumerate => k_is)
    (case z_int => k_is)
    (case z_isinstance => k_is)
    (case z_len => k_is)
    (case z_list => k_is)
    (case z_max => k_is)
    (case z_min => k_is)
    (case z_range => k_is)
    (case z_str => k_is)
    (case z_sum => k_is)
    (case z_tuple => k_is)
    (case a_EAST_STEPS => k_is)
    (case l_EAST_STEPS => k_is)
    (case h_EAST_STEPS => exact ⟨⟨_, _, rfl, rfl⟩, ⟨_, _, rfl, rfl⟩, ⟨_, _, rfl, rfl⟩, ⟨_, _, rfl, rfl⟩, trivial⟩)
    (case v_EAST_STEPS => rfl)
    (case s_EAST_STEPS => rfl)
    (case a_MOST_RUNS => k_is)
    (case r_MOST_RUNS => exact ⟨_, rfl⟩)
    (case a_MOST_STEPS => k_is)
    (case r_MOST_STEPS => exact ⟨_, rfl⟩)
    (case a_NORTH_STEPS => k_is)
    (case l_NORTH_STEPS => k_is)
    (case h_NORTH_STEPS => exact ⟨⟨_, _, rfl, rfl⟩, ⟨_, _, rfl, rfl⟩, ⟨_, _, rfl, rfl⟩, ⟨_, _, rfl, rfl⟩, trivial⟩)
    (case v_NORTH_STEPS => rfl)
    (case s_NORTH_STEPS => rfl)
    (case a_NOUGHT => k_is)
    (case l_NOUGHT => k_is)
    (case v_NOUGHT => rfl)
    (case a_WAYS => k_is)
    (case l_WAYS => k_is)
    (case v_WAYS => rfl)
