import PyProof.Rows.All
import Wide.All
import OpenK.AllK
import Wide.FinOn
import HandS.ForMost
import HandS.TupAny
import HandS.Deep
import HandS.Wide
import HandS.TupLe
import HandS.IsInst
import HandS.Conv
import HandS.Exc
import HandS.ForExc
import HandS.Defaults
import HandS.HeadEnd
import HandS.DictComp
import HandS.Zip
import KE.GoesMore
import KE.GoesEnum
import PyProof.EnumMake
import KE.SortData
import HandS.TupLen
import HandS.More
import HandS.Small
import HandS.ExcIs
import HandS.TryMany
import HandS.TryOnly
import HandS.Style
import HandS.SetFor
import HandS.Strs
import KE.KRevSl
import PyProof.ExcBaseAll.ValueError
import HandS.Head0
import HandS.Head1
import HandS.Head2
import HandS.HeadHook1
import HandS.HeadHook2
import HandS.HeadHook3
import HandS.HeadHook4
import PyProof.Rows.Walk
import PyProof.Rows.ReprOcc
import PyProof.FitsInt
import PySem.Challenge.RW_pairorring_k02_whole_pairings_and_what_b
set_option Elab.async false
set_option linter.all false
set_option maxRecDepth 100000
set_option maxHeartbeats 0
/-! DL1: plain data D over the hand layer: what a value and the objects behind it stand for, what of it is owned (may be written here), environments of data, readings over them. -/
namespace Dl
open PySem PySem.Spec L2

/-- plain data; a true flag: owned, may be written -/
inductive D where
  | non | bl (b : Bool) | int (i : Int) | str (x : Str)
  | tup (l : List D)
  | key (l : List D)
  | lst (m : Bool) (l : List D)
  | dct (m : Bool) (l : List (Key × D))
  | dcT (m : Bool) (l : List (List Key × D))
  | obj (m : Bool) (C : Addr) (ns : List Str) (l : List D)
  | ref (a : Addr)
  | ty (n : String)
  | exc (a : Addr) (o : Option Addr) (ns : List Str) (l : List D)
  deriving Inhabited

/-- is the top not owned -/
def isFz : D → Bool
  | .lst true _ => false
  | .dct true _ => false
  | .dcT true _ => false
  | .obj true _ _ _ => false
  | _ => true

mutual
def frz : D → D
  | .lst _ l => .lst false (frzL l)
  | .dct _ l => .dct false (frzK l)
  | .dcT _ l => .dcT false (frzT l)
  | .obj _ C ns l => .obj false C ns (frzL l)
  | .tup l => .tup l
  | .key l => .key l
  | .non => .non
  | .bl b => .bl b
  | .int i => .int i
  | .str x => .str x
  | .ref a => .ref a
  | .ty n => .ty n
  | .exc a o ns l => .exc a o ns l
def frzL : List D → List D
  | [] => []
  | d :: l => frz d :: frzL l
def frzK : List (Key × D) → List (Key × D)
  | [] => []
  | (k, d) :: l => (k, frz d) :: frzK l
def frzT : List (List Key × D) → List (List Key × D)
  | [] => []
  | (k, d) :: l => (k, frz d) :: frzT l
end
theorem frzL_eq : ∀ l : List D, frzL l = l.map frz
  | [] => rfl
  | d :: l => by rw [frzL, frzL_eq l]; rfl
theorem frzK_eq : ∀ l : List (Key × D), frzK l = l.map fun p => (p.1, frz p.2)
  | [] => rfl
  | (k, d) :: l => by rw [frzK, frzK_eq l]; rfl
theorem frzT_eq : ∀ l : List (List Key × D), frzT l = l.map fun p => (p.1, frz p.2)
  | [] => rfl
  | (k, d) :: l => by rw [frzT, frzT_eq l]; rfl
theorem frzK_fst (l : List (Key × D)) : (frzK l).map (·.1) = l.map (·.1) := by rw [frzK_eq, List.map_map]; rfl
theorem frzK_snd (l : List (Key × D)) : (frzK l).map (·.2) = frzL (l.map (·.2)) := by rw [frzK_eq, frzL_eq, List.map_map, List.map_map]; rfl
theorem frzT_fst (l : List (List Key × D)) : (frzT l).map (·.1) = l.map (·.1) := by rw [frzT_eq, List.map_map]; rfl
theorem frzT_snd (l : List (List Key × D)) : (frzT l).map (·.2) = frzL (l.map (·.2)) := by rw [frzT_eq, frzL_eq, List.map_map, List.map_map]; rfl

/-- sets of addresses -/
abbrev AS := Addr → Prop
def Dj (F G : AS) : Prop := ∀ a, F a → G a → False
def Emp (F : AS) : Prop := ∀ a, ¬ F a
def Add1 (a : Addr) (F G : AS) : Prop := ∀ b, G b ↔ (b = a ∨ F b)
def Un2 (F G R : AS) : Prop := ∀ b, R b ↔ (F b ∨ G b)

/-- a tuple that is known through and through: it has no dict (a method of it can be called) -/
def TupZ (H : Hp) (a : Addr) (vs : List V) : Prop := ∃ o, H a = some (.frz o (.tup vs)) ∧ o.dict = none
theorem TupZ.sq {K : PySem.W.Frag} {H : Hp} {a : Addr} {vs : List V} (h : TupZ H a vs) : SqT K H a vs := let ⟨o, e, _⟩ := h; .inl (.inr ⟨o, e⟩)
mutual
/-- the value v stands in the heap H for the data d; what is not owned avoids X; F: the owned addresses -/
inductive RV (K : PySem.W.Frag) (H : Hp) (X : AS) : V → D → AS → Prop
  | non {F : AS} : Emp F → RV K H X .non .non F
  | bl {b : Bool} {F : AS} : Emp F → RV K H X (.bl b) (.bl b) F
  | int {i : Int} {F : AS} : Emp F → RV K H X (.int i) (.int i) F
  | str {x : Str} {F : AS} : Emp F → RV K H X (.str x) (.str x) F
  | ref {a : Addr} {F : AS} : Emp F → RV K H X (.ref a) (.ref a) F
  | ty {n : String} {F : AS} : Emp F → RV K H X (.ty n) (.ty n) F
  | exc0 {a : Addr} {F : AS} : Emp F → RV K H X (.ref a) (.exc a none [] []) F
  | exc1 {a dx : Addr} {vs : List (Str × V)} {ns : List Str} {ds : List D} {F : AS} : H dx = some (.xd vs) → ¬ X dx → vs.map (·.1) = ns → RVs K H X (vs.map (·.2)) ds F → Emp F → RV K H X (.ref a) (.exc a (some dx) ns ds) F
  | tup {a : Addr} {vs : List V} {ds : List D} {F : AS} : TupZ H a vs → RVs K H X vs ds F → Emp F → RV K H X (.ref a) (.tup ds) F
  | key {a : Addr} {vs : List V} {ds : List D} {F : AS} : H a = some (.tup vs) → RVs K H X vs ds F → Emp F → RV K H X (.ref a) (.key ds) F
  | lst0 {a : Addr} {vs : List V} {ds : List D} {F : AS} : Rd H a (.lst vs) → ¬ X a → RVs K H X vs ds F → Emp F → RV K H X (.ref a) (.lst false ds) F
  | lst1 {a : Addr} {vs : List V} {ds : List D} {F G : AS} : H a = some (.lst vs) → RVs K H X vs ds F → ¬ F a → Add1 a F G → RV K H X (.ref a) (.lst true ds) G
  | dct0 {a : Addr} {vs : List (Key × V)} {ds : List (Key × D)} {F : AS} : H a = some (.dK vs) → ¬ X a → vs.map (·.1) = ds.map (·.1) → RVs K H X (vs.map (·.2)) (ds.map (·.2)) F → Emp F → RV K H X (.ref a) (.dct false ds) F
  | dct1 {a : Addr} {vs : List (Key × V)} {ds : List (Key × D)} {F G : AS} : H a = some (.dK vs) → vs.map (·.1) = ds.map (·.1) → RVs K H X (vs.map (·.2)) (ds.map (·.2)) F → ¬ F a → Add1 a F G → RV K H X (.ref a) (.dct true ds) G
  | dcT0 {a : Addr} {vs : List (List Key × V)} {ds : List (List Key × D)} {F : AS} : H a = some (.dT vs) → ¬ X a → vs.map (·.1) = ds.map (·.1) → RVs K H X (vs.map (·.2)) (ds.map (·.2)) F → Emp F → RV K H X (.ref a) (.dcT false ds) F
  | dcT1 {a : Addr} {vs : List (List Key × V)} {ds : List (List Key × D)} {F G : AS} : H a = some (.dT vs) → vs.map (·.1) = ds.map (·.1) → RVs K H X (vs.map (·.2)) (ds.map (·.2)) F → ¬ F a → Add1 a F G → RV K H X (.ref a) (.dcT true ds) G
  | obj0 {a C dx : Addr} {vs : List (Str × V)} {ns : List Str} {ds : List D} {F : AS} : H a = some (.ins C dx vs) → ¬ X a → vs.map (·.1) = ns → RVs K H X (vs.map (·.2)) ds F → Emp F → RV K H X (.ref a) (.obj false C ns ds) F
  | obj1 {a C dx : Addr} {vs : List (Str × V)} {ns : List Str} {ds : List D} {F G : AS} : H a = some (.ins C dx vs) → vs.map (·.1) = ns → RVs K H X (vs.map (·.2)) ds F → ¬ F a → Add1 a F G → RV K H X (.ref a) (.obj true C ns ds) G
inductive RVs (K : PySem.W.Frag) (H : Hp) (X : AS) : List V → List D → AS → Prop
  | nil {F : AS} : Emp F → RVs K H X [] [] F
  | cons {v : V} {d : D} {vs : List V} {ds : List D} {F G R : AS} : RV K H X v d F → RVs K H X vs ds G → Dj F G → Un2 F G R → RVs K H X (v :: vs) (d :: ds) R
end

section
variable {K : PySem.W.Frag} {H H' : Hp} {X X' W : AS}

/-- the owned of a value are tracked -/
theorem RV.there {v : V} {d : D} {F : AS} (r : RV K H X v d F) : ∀ a, F a → Mut (H a) := by
  induction r using RV.rec (motive_2 := fun vs ds F _ => ∀ a, F a → Mut (H a)) with
  | non e => exact fun a h => (e a h).elim
  | bl e => exact fun a h => (e a h).elim
  | int e => exact fun a h => (e a h).elim
  | str e => exact fun a h => (e a h).elim
  | ref e => exact fun a h => (e a h).elim
  | ty e => exact fun a h => (e a h).elim
  | exc0 e => exact fun a h => (e a h).elim
  | exc1 _ _ _ _ e => exact fun a h => (e a h).elim
  | tup _ _ e => exact fun a h => (e a h).elim
  | key _ _ e => exact fun a h => (e a h).elim
  | lst0 _ _ _ e => exact fun a h => (e a h).elim
  | dct0 _ _ _ _ e => exact fun a h => (e a h).elim
  | dcT0 _ _ _ _ e => exact fun a h => (e a h).elim
  | obj0 _ _ _ _ e => exact fun a h => (e a h).elim
  | lst1 h _ _ e ih | dct1 h _ _ _ e ih | dcT1 h _ _ _ e ih | obj1 h _ _ _ e ih =>
    intro a q
    rcases (e a).mp q with rfl | q
    · rw [h]; trivial
    · exact ih a q
  | nil e a q => exact (e a q).elim
  | cons _ _ _ u i1 i2 a q =>
    rcases (u a).mp q with q | q
    · exact i1 a q
    · exact i2 a q
theorem RVs.there {vs : List V} {ds : List D} {F : AS} (r : RVs K H X vs ds F) : ∀ a, F a → Mut (H a) := by
  induction ds generalizing vs F with
  | nil => cases r with | nil e => exact fun a h => (e a h).elim
  | cons d ds ih =>
    cases r with
    | cons r1 r2 _ u =>
      intro a q
      rcases (u a).mp q with q | q
      · exact r1.there a q
      · exact ih r2 a q

/-- from one heap to a later one: what is not in W stands; what is excluded later was so ahead, or is new -/
structure Later (X X' W : AS) (H H' : Hp) : Prop where
  keep : ∀ a o, H a = some o → ¬ W a → H' a = some o
  sub : ∀ a, W a → X a
  ex : ∀ a, X' a → X a ∨ H a = none

theorem Later.rd {a : Addr} {o : HO} (l : Later X X' W H H') (h : Rd H a o) (n : ¬ X a) : Rd H' a o ∧ ¬ X' a := by
  have nw : ¬ W a := fun z => n (l.sub a z)
  rcases h with h | ⟨ob, h⟩
  · refine ⟨.inl (l.keep a _ h nw), fun z => ?_⟩
    rcases l.ex a z with z | z
    · exact n z
    · rw [h] at z; cases z
  · refine ⟨.inr ⟨ob, l.keep a _ h nw⟩, fun z => ?_⟩
    rcases l.ex a z with z | z
    · exact n z
    · rw [h] at z; cases z
theorem Later.at {a : Addr} {o : HO} (l : Later X X' W H H') (h : H a = some o) (n : ¬ X a) : H' a = some o ∧ ¬ X' a := by
  have nw : ¬ W a := fun z => n (l.sub a z)
  refine ⟨l.keep a _ h nw, fun z => ?_⟩
  rcases l.ex a z with z | z
  · exact n z
  · rw [h] at z; cases z
/-- what can't be written never changes -/
structure LaterT (X X' W : AS) (H H' : Hp) : Prop extends Later X X' W H H' where
  tup : ∀ a o, H a = some o → ¬ Mut (some o) → H' a = some o
theorem LaterT.z {X X' W : AS} {H H' : Hp} {a : Addr} {vs : List V} (l : LaterT X X' W H H') (h : TupZ H a vs) : TupZ H' a vs := let ⟨o, e, d⟩ := h; ⟨o, l.tup _ _ e fun z => z, d⟩

theorem RV.later {v : V} {d : D} {F : AS} (r : RV K H X v d F) (l : LaterT X X' W H H') (hf : ∀ a, F a → ¬ W a) : RV K H' X' v d F := by
  induction r using RV.rec (motive_2 := fun vs ds F _ => (∀ a, F a → ¬ W a) → RVs K H' X' vs ds F) with
  | non e => exact .non e
  | bl e => exact .bl e
  | int e => exact .int e
  | str e => exact .str e
  | ref e => exact .ref e
  | ty e => exact .ty e
  | exc0 e => exact .exc0 e
  | exc1 h n q _ e ih => exact .exc1 (l.at h n).1 (l.at h n).2 q (ih hf) e
  | tup h _ e ih => exact .tup (l.z h) (ih hf) e
  | key h _ e ih => exact .key (l.tup _ _ h fun z => z) (ih hf) e
  | lst0 h n _ e ih => exact .lst0 (l.rd h n).1 (l.rd h n).2 (ih hf) e
  | dct0 h n q _ e ih => exact .dct0 (l.at h n).1 (l.at h n).2 q (ih hf) e
  | dcT0 h n q _ e ih => exact .dcT0 (l.at h n).1 (l.at h n).2 q (ih hf) e
  | obj0 h n q _ e ih => exact .obj0 (l.at h n).1 (l.at h n).2 q (ih hf) e
  | lst1 h _ n e ih => exact .lst1 (l.keep _ _ h (hf _ ((e _).mpr (.inl rfl)))) (ih fun a z => hf a ((e a).mpr (.inr z))) n e
  | dct1 h q _ n e ih => exact .dct1 (l.keep _ _ h (hf _ ((e _).mpr (.inl rfl)))) q (ih fun a z => hf a ((e a).mpr (.inr z))) n e
  | dcT1 h q _ n e ih => exact .dcT1 (l.keep _ _ h (hf _ ((e _).mpr (.inl rfl)))) q (ih fun a z => hf a ((e a).mpr (.inr z))) n e
  | obj1 h q _ n e ih => exact .obj1 (l.keep _ _ h (hf _ ((e _).mpr (.inl rfl)))) q (ih fun a z => hf a ((e a).mpr (.inr z))) n e
  | nil e _ => exact .nil e
  | cons _ _ dj u i1 i2 hf' => exact .cons (i1 fun a z => hf' a ((u a).mpr (.inl z))) (i2 fun a z => hf' a ((u a).mpr (.inr z))) dj u
theorem RVs.later {vs : List V} {ds : List D} {F : AS} (r : RVs K H X vs ds F) (l : LaterT X X' W H H') (hf : ∀ a, F a → ¬ W a) : RVs K H' X' vs ds F := by
  induction ds generalizing vs F with
  | nil => cases r with | nil e => exact .nil e
  | cons d ds ih =>
    cases r with
    | cons r1 r2 dj u => exact .cons (r1.later l fun a z => hf a ((u a).mpr (.inl z))) (ih r2 fun a z => hf a ((u a).mpr (.inr z))) dj u
theorem RV.congr {v : V} {d : D} {F G : AS} (r : RV K H X v d F) (h : ∀ a, F a ↔ G a) : RV K H X v d G := by
  have em : ∀ {A : AS}, Emp A → (∀ a, A a ↔ G a) → Emp G := fun e q a z => e a ((q a).mpr z)
  cases r with
  | non e => exact .non (em e h)
  | bl e => exact .bl (em e h)
  | int e => exact .int (em e h)
  | str e => exact .str (em e h)
  | ref e => exact .ref (em e h)
  | ty e => exact .ty (em e h)
  | exc0 e => exact .exc0 (em e h)
  | exc1 q n x r e => exact .exc1 q n x (by rw [← (funext fun a => propext (h a) : F = G)]; exact r) (em e h)
  | tup q r e => exact .tup q (by rw [← (funext fun a => propext (h a) : F = G)]; exact r) (em e h)
  | key q r e => exact .key q (by rw [← (funext fun a => propext (h a) : F = G)]; exact r) (em e h)
  | lst0 q n r e => exact .lst0 q n (by rw [← (funext fun a => propext (h a) : F = G)]; exact r) (em e h)
  | dct0 q n x r e => exact .dct0 q n x (by rw [← (funext fun a => propext (h a) : F = G)]; exact r) (em e h)
  | dcT0 q n x r e => exact .dcT0 q n x (by rw [← (funext fun a => propext (h a) : F = G)]; exact r) (em e h)
  | obj0 q n x r e => exact .obj0 q n x (by rw [← (funext fun a => propext (h a) : F = G)]; exact r) (em e h)
  | lst1 q r n e => exact .lst1 q r n fun b => (h b).symm.trans (e b)
  | dct1 q x r n e => exact .dct1 q x r n fun b => (h b).symm.trans (e b)
  | dcT1 q x r n e => exact .dcT1 q x r n fun b => (h b).symm.trans (e b)
  | obj1 q x r n e => exact .obj1 q x r n fun b => (h b).symm.trans (e b)
theorem RVs.congr {vs : List V} {ds : List D} {F G : AS} (r : RVs K H X vs ds F) (h : ∀ a, F a ↔ G a) : RVs K H X vs ds G := by
  cases r with
  | nil e => exact .nil fun a z => e a ((h a).mpr z)
  | cons r1 r2 dj u => exact .cons r1 r2 dj fun b => (h b).symm.trans (u b)
/-- the owned becomes not owned -/
theorem RV.freeze {v : V} {d : D} {F : AS} (r : RV K H X v d F) (hX : ∀ a, X' a → X a ∧ ¬ F a) : RV K H X' v (frz d) (fun _ => False) := by
  have no : ∀ {a : Addr}, ¬ X a → ¬ X' a := fun n z => n (hX _ z).1
  have em : Emp (fun _ => False) := fun _ z => z
  induction r using RV.rec (motive_2 := fun vs ds F _ => (∀ a, X' a → X a ∧ ¬ F a) → RVs K H X' vs (frzL ds) (fun _ => False)) with
  | non e => exact .non em
  | bl e => exact .bl em
  | int e => exact .int em
  | str e => exact .str em
  | ref e => exact .ref em
  | ty e => exact .ty em
  | exc0 e => exact .exc0 em
  | exc1 h n q r e ih => exact .exc1 h (no n) q ((r.later (W := fun _ => False) ⟨⟨fun _ _ z _ => z, fun _ z => z.elim, fun a z => .inl (hX a z).1⟩, fun _ _ z _ => z⟩ fun _ _ z => z).congr fun a => ⟨fun z => (e a z).elim, fun z => z.elim⟩) em
  | tup h r e ih => exact .tup h ((r.later (W := fun _ => False) ⟨⟨fun _ _ z _ => z, fun _ z => z.elim, fun a z => .inl (hX a z).1⟩, fun _ _ z _ => z⟩ fun _ _ z => z).congr fun a => ⟨fun z => (e a z).elim, fun z => z.elim⟩) em
  | key h r e ih => exact .key h ((r.later (W := fun _ => False) ⟨⟨fun _ _ z _ => z, fun _ z => z.elim, fun a z => .inl (hX a z).1⟩, fun _ _ z _ => z⟩ fun _ _ z => z).congr fun a => ⟨fun z => (e a z).elim, fun z => z.elim⟩) em
  | lst0 h n _ e ih => exact .lst0 h (no n) (ih hX) em
  | dct0 h n q _ e ih => exact .dct0 h (no n) (q.trans (frzK_fst _).symm) (by rw [frzK_snd]; exact ih hX) em
  | dcT0 h n q _ e ih => exact .dcT0 h (no n) (q.trans (frzT_fst _).symm) (by rw [frzT_snd]; exact ih hX) em
  | obj0 h n q _ e ih => exact .obj0 h (no n) q (ih hX) em
  | lst1 h _ n e ih => exact .lst0 (.inl h) (fun z => (hX _ z).2 ((e _).mpr (.inl rfl))) (ih fun a z => ⟨(hX a z).1, fun y => (hX a z).2 ((e a).mpr (.inr y))⟩) em
  | dct1 h q _ n e ih => exact .dct0 h (fun z => (hX _ z).2 ((e _).mpr (.inl rfl))) (q.trans (frzK_fst _).symm) (by rw [frzK_snd]; exact ih fun a z => ⟨(hX a z).1, fun y => (hX a z).2 ((e a).mpr (.inr y))⟩) em
  | dcT1 h q _ n e ih => exact .dcT0 h (fun z => (hX _ z).2 ((e _).mpr (.inl rfl))) (q.trans (frzT_fst _).symm) (by rw [frzT_snd]; exact ih fun a z => ⟨(hX a z).1, fun y => (hX a z).2 ((e a).mpr (.inr y))⟩) em
  | obj1 h q _ n e ih => exact .obj0 h (fun z => (hX _ z).2 ((e _).mpr (.inl rfl))) q (ih fun a z => ⟨(hX a z).1, fun y => (hX a z).2 ((e a).mpr (.inr y))⟩) em
  | nil e _ => exact .nil em
  | cons _ _ dj u i1 i2 hf' => exact .cons (i1 fun a z => ⟨(hf' a z).1, fun y => (hf' a z).2 ((u a).mpr (.inl y))⟩) (i2 fun a z => ⟨(hf' a z).1, fun y => (hf' a z).2 ((u a).mpr (.inr y))⟩) (fun _ z _ => z) (fun b => ⟨fun z => z.elim, fun z => z.elim id id⟩)
end
end Dl
/-! DL2: environments of data, readings over them. -/
namespace Dl
open PySem PySem.Spec L2

/-- an environment: what each name stands for, none: not known -/
abbrev DEnv := List (Option D)

inductive RE (K : PySem.W.Frag) (H : Hp) (X : AS) : L2.St → DEnv → AS → Prop
  | nil {F : AS} : Emp F → RE K H X [] [] F
  | no {s : Option V} {σ : L2.St} {ρ : DEnv} {F : AS} : RE K H X σ ρ F → RE K H X (s :: σ) (none :: ρ) F
  | so {v : V} {d : D} {σ : L2.St} {ρ : DEnv} {F G R : AS} : RV K H X v d F → RE K H X σ ρ G → Dj F G → Un2 F G R → RE K H X (some v :: σ) (some d :: ρ) R

section
variable {K : PySem.W.Frag} {H H' : Hp} {X X' W F G : AS} {σ : L2.St} {ρ : DEnv}
theorem RE.there (r : RE K H X σ ρ F) : ∀ a, F a → Mut (H a) := by
  induction r with
  | nil e => exact fun a z => (e a z).elim
  | no _ ih => exact ih
  | so r _ _ u ih => exact fun a z => ((u a).mp z).elim (r.there a) (ih a)
theorem RE.later (r : RE K H X σ ρ F) (l : LaterT X X' W H H') (hf : ∀ a, F a → ¬ W a) : RE K H' X' σ ρ F := by
  induction r with
  | nil e => exact .nil e
  | no _ ih => exact .no (ih hf)
  | so r _ dj u ih => exact .so (r.later l fun a z => hf a ((u a).mpr (.inl z))) (ih fun a z => hf a ((u a).mpr (.inr z))) dj u
theorem RE.congr (r : RE K H X σ ρ F) (h : ∀ a, F a ↔ G a) : RE K H X σ ρ G := by
  have : F = G := funext fun a => propext (h a)
  rw [← this]; exact r
/-- a name's value, and the rest -/
theorem RE.get (r : RE K H X σ ρ F) {i : Nat} {d : D} (h : ρ[i]? = some (some d)) : ∃ v Fi, σ[i]? = some (some v) ∧ RV K H X v d Fi ∧ ∀ a, Fi a → F a := by
  induction r generalizing i with
  | nil _ => simp at h
  | no _ ih =>
    cases i with
    | zero => simp at h
    | succ i => exact ih (i := i) (by simpa using h)
  | so r _ dj u ih =>
    cases i with
    | zero =>
      simp at h
      subst h
      exact ⟨_, _, rfl, r, fun a z => (u a).mpr (.inl z)⟩
    | succ i =>
      obtain ⟨v, Fi, h1, h2, h3⟩ := ih (i := i) (by simpa using h)
      exact ⟨v, Fi, by simpa using h1, h2, fun a z => (u a).mpr (.inr (h3 a z))⟩
theorem RE.length (r : RE K H X σ ρ F) : σ.length = ρ.length := by
  induction r with
  | nil _ => rfl
  | no _ ih => simp [ih]
  | so _ _ _ _ ih => simp [ih]
/-- a name gets another value: the old one's owned go (to O), the new one's come -/
theorem RE.set (r : RE K H X σ ρ F) {i : Nat} (hi : i < ρ.length) {v : V} {d : D} {N : AS} (n : RV K H X v d N) (dj : Dj N F) :
    ∃ F', RE K H X (σ.set i (some v)) (ρ.set i (some d)) F' ∧ (∀ a, F' a → F a ∨ N a) ∧ (∀ a, N a → F' a) := by
  induction r generalizing i with
  | nil _ => simp at hi
  | @no s σ ρ F r ih =>
    cases i with
    | zero => exact ⟨fun a => N a ∨ F a, .so n r dj fun b => Iff.rfl, fun a z => z.symm, fun a z => .inl z⟩
    | succ i =>
      obtain ⟨F', h1, h2, h3⟩ := ih (i := i) (by simpa using hi) dj
      exact ⟨F', .no h1, h2, h3⟩
  | @so v0 d0 σ ρ F G R r0 r dj0 u ih =>
    cases i with
    | zero => exact ⟨fun a => N a ∨ G a, .so n r (fun a z y => dj a z ((u a).mpr (.inr y))) fun b => Iff.rfl, fun a z => z.elim .inr fun z => .inl ((u a).mpr (.inr z)), fun a z => .inl z⟩
    | succ i =>
      obtain ⟨F', h1, h2, h3⟩ := ih (i := i) (by simpa using hi) fun a z y => dj a z ((u a).mpr (.inr y))
      refine ⟨fun a => F a ∨ F' a, .so r0 h1 (fun a z y => ?_) fun b => Iff.rfl, fun a z => ?_, fun a z => .inr (h3 a z)⟩
      · rcases h2 a y with y | y
        · exact dj0 a z y
        · exact dj a y ((u a).mpr (.inl z))
      · rcases z with z | z
        · exact .inl ((u a).mpr (.inl z))
        · rcases h2 a z with z | z
          · exact .inl ((u a).mpr (.inr z))
          · exact .inr z
/-- a name's value is given up: its owned are out of the environment -/
theorem RE.drop (r : RE K H X σ ρ F) {i : Nat} {d : D} (h : ρ[i]? = some (some d)) : ∃ v Fi F', σ[i]? = some (some v) ∧ RV K H X v d Fi ∧ RE K H X σ (ρ.set i none) F' ∧ Dj Fi F' ∧ ∀ a, F a ↔ Fi a ∨ F' a := by
  induction r generalizing i with
  | nil _ => simp at h
  | no _ ih =>
    cases i with
    | zero => simp at h
    | succ i =>
      obtain ⟨v, Fi, F', h1, h2, h3, h4, h5⟩ := ih (i := i) (by simpa using h)
      exact ⟨v, Fi, F', by simpa using h1, h2, .no h3, h4, h5⟩
  | @so v0 d0 σ ρ F G R r0 r dj u ih =>
    cases i with
    | zero =>
      simp at h
      subst h
      exact ⟨_, _, G, rfl, r0, .no r, dj, u⟩
    | succ i =>
      obtain ⟨v, Fi, F', h1, h2, h3, h4, h5⟩ := ih (i := i) (by simpa using h)
      refine ⟨v, Fi, fun a => F a ∨ F' a, by simpa using h1, h2, .so r0 h3 (fun a z y => dj a z ((h5 a).mpr (.inr y))) fun b => Iff.rfl, ?_, fun a => ?_⟩
      · intro a z y
        rcases y with y | y
        · exact dj a y ((h5 a).mpr (.inl z))
        · exact h4 a z y
      · refine (u a).trans ⟨fun z => ?_, fun z => ?_⟩
        · rcases z with z | z
          · exact .inr (.inl z)
          · rcases (h5 a).mp z with z | z
            · exact .inl z
            · exact .inr (.inr z)
        · rcases z with z | z | z
          · exact .inr ((h5 a).mpr (.inl z))
          · exact .inl z
          · exact .inr ((h5 a).mpr (.inr z))
/-- .. and comes back, with its owned in N -/
theorem RE.put (r : RE K H X σ ρ F) {i : Nat} {v : V} {d : D} {N : AS} (hs : σ[i]? = some (some v)) (hn : ρ[i]? = some none) (n : RV K H X v d N) (dj : Dj N F) : RE K H X σ (ρ.set i (some d)) (fun a => N a ∨ F a) := by
  induction r generalizing i with
  | nil _ => simp at hs
  | @no s σ ρ F r ih =>
    cases i with
    | zero =>
      simp at hs
      subst hs
      exact .so n r dj fun b => Iff.rfl
    | succ i => exact .no (ih (i := i) (by simpa using hs) (by simpa using hn) dj)
  | @so v0 d0 σ ρ F G R r0 r dj0 u ih =>
    cases i with
    | zero => simp at hn
    | succ i =>
      refine .so r0 (ih (i := i) (by simpa using hs) (by simpa using hn) fun a z y => dj a z ((u a).mpr (.inr y))) (fun a z y => ?_) fun b => ?_
      · rcases y with y | y
        · exact dj a y ((u a).mpr (.inl z))
        · exact dj0 a z y
      · refine ⟨fun z => ?_, fun z => ?_⟩
        · rcases z with z | z
          · exact .inr (.inl z)
          · rcases (u b).mp z with z | z
            · exact .inl z
            · exact .inr (.inr z)
        · rcases z with z | z | z
          · exact .inr ((u b).mpr (.inl z))
          · exact .inl z
          · exact .inr ((u b).mpr (.inr z))
end

/-- X: W or A -/
def Or2 (W A : AS) : AS := fun a => W a ∨ A a
/-- a step: what is not owned stands; the owned were so, or are new -/
structure Go (W W' : AS) (H H' : Hp) : Prop where
  keep : ∀ a o, H a = some o → ¬ W a → H' a = some o
  new : ∀ a, W' a → W a ∨ H a = none
theorem Go.refl (W : AS) (H : Hp) : Go W W H H := ⟨fun _ _ h _ => h, fun _ h => .inl h⟩
theorem Go.trans {W W1 W2 : AS} {H H1 H2 : Hp} (a : Go W W1 H H1) (b : Go W1 W2 H1 H2) : Go W W2 H H2 where
  keep := fun x o h n => b.keep x o (a.keep x o h n) fun z => by
    rcases a.new x z with y | y
    · exact n y
    · rw [h] at y; cases y
  new := fun x h => by
    rcases b.new x h with z | z
    · exact a.new x z
    · refine Classical.byCases (p := W x) .inl fun n => .inr ?_
      cases e : H x with
      | none => rfl
      | some o => rw [a.keep x o e n] at z; cases z
/-- the state: an environment stands, A is owned elsewhere -/
structure Std (K : PySem.W.Frag) (A : AS) (H : Hp) (σ : St) (ρ : DEnv) (W : AS) : Prop where
  re : RE K H (Or2 W A) σ ρ W
  dj : Dj W A
  am : ∀ a, A a → Mut (H a)
theorem mut_some {H : Hp} {a : Addr} (m : Mut (H a)) : ∃ o, H a = some o := by
  cases e : H a with
  | none => rw [e] at m; exact m.elim
  | some o => exact ⟨o, rfl⟩
theorem mut_not {H : Hp} {a : Addr} {o : HO} (m : Mut (H a)) (n : ¬ Mut (some o)) : ¬ H a = some o := fun h => n (h ▸ m)
theorem mut_notTup {H : Hp} {a : Addr} {xs : List V} (m : Mut (H a)) : ¬ H a = some (.tup xs) := mut_not m fun z => z

section
variable {K : PySem.W.Frag} {H H' : Hp} {A W W' F : AS} {σ : L2.St} {ρ : DEnv}
theorem Std.wm (s : Std K A H σ ρ W) : ∀ a, W a → Mut (H a) := s.re.there
/-- what was later -/
theorem Go.later (g : Go W W' H H') (wm : ∀ a, W a → Mut (H a)) : LaterT (Or2 W A) (Or2 W' A) W H H' where
  keep := g.keep
  sub := fun a z => .inl z
  ex := fun a z => by
    rcases z with z | z
    · rcases g.new a z with z | z
      · exact .inl (.inl z)
      · exact .inr z
    · exact .inl (.inr z)
  tup := fun a xs h nm => g.keep a _ h fun z => mut_not (wm a z) nm h
/-- a value at hand, not of the environment: it stands behind a step -/
theorem RV.go {v : V} {d : D} (r : RV K H (Or2 W A) v d F) (g : Go W W' H H') (wm : ∀ a, W a → Mut (H a)) (dj : Dj F W) : RV K H' (Or2 W' A) v d F := r.later (g.later wm) fun a z => dj a z
end

/-- all that was tracked is as it was -/
abbrev Ext (H H' : Hp) : Prop := ∀ a o, H a = some o → H' a = some o
section
variable {K : PySem.W.Frag} {H H' : Hp} {A A' W W' F X X' : AS} {σ : L2.St} {ρ : DEnv}
theorem RV.ext {v : V} {d : D} (r : RV K H X v d F) (e : Ext H H') (hx : ∀ a, X' a → X a ∨ H a = none) : RV K H' X' v d F :=
  r.later (W := fun _ => False) ⟨⟨fun a o h _ => e a o h, fun _ z => z.elim, hx⟩, fun a xs h _ => e _ _ h⟩ fun _ _ z => z
theorem RVs.ext {vs : List V} {ds : List D} (r : RVs K H X vs ds F) (e : Ext H H') (hx : ∀ a, X' a → X a ∨ H a = none) : RVs K H' X' vs ds F :=
  r.later (W := fun _ => False) ⟨⟨fun a o h _ => e a o h, fun _ z => z.elim, hx⟩, fun a xs h _ => e _ _ h⟩ fun _ _ z => z
theorem RE.ext (r : RE K H X σ ρ F) (e : Ext H H') (hx : ∀ a, X' a → X a ∨ H a = none) : RE K H' X' σ ρ F :=
  r.later (W := fun _ => False) ⟨⟨fun a o h _ => e a o h, fun _ z => z.elim, hx⟩, fun a xs h _ => e _ _ h⟩ fun _ _ z => z
theorem RV.weak {v : V} {d : D} (r : RV K H X v d F) (hx : ∀ a, X' a → X a) : RV K H X' v d F := r.ext (fun _ _ h => h) fun a z => .inl (hx a z)
theorem RVs.weak {vs : List V} {ds : List D} (r : RVs K H X vs ds F) (hx : ∀ a, X' a → X a) : RVs K H X' vs ds F := r.ext (fun _ _ h => h) fun a z => .inl (hx a z)
theorem mut_ne {a : Addr} (m : Mut (H a)) : H a ≠ none := fun z => by rw [z] at m; exact m
theorem ext_mut {a : Addr} (e : Ext H H') (m : Mut (H a)) : Mut (H' a) := by
  obtain ⟨o, h⟩ := mut_some m
  rw [e a o h, ← h]; exact m
theorem Std.weak (s : Std K A H σ ρ W) (h : ∀ a, A' a → A a) : Std K A' H σ ρ W :=
  ⟨s.re.ext (fun _ _ z => z) fun a z => .inl (z.elim .inl fun z => .inr (h a z)), fun a z y => s.dj a z (h a y), fun a z => s.am a (h a z)⟩
theorem Std.ext (s : Std K A H σ ρ W) (e : Ext H H') : Std K A H' σ ρ W :=
  ⟨s.re.ext e fun a z => .inl z, s.dj, fun a z => ext_mut e (s.am a z)⟩
/-- new objects come, owned elsewhere -/
theorem Std.grow (s : Std K A H σ ρ W) (e : Ext H H') (hn : ∀ a, F a → H a = none) (hm : ∀ a, F a → Mut (H' a)) : Std K (Or2 F A) H' σ ρ W := by
  refine ⟨s.re.ext e fun a z => ?_, fun a z y => ?_, fun a z => z.elim (hm a) fun z => ext_mut e (s.am a z)⟩
  · rcases z with z | z | z
    · exact .inl (.inl z)
    · exact .inr (hn a z)
    · exact .inl (.inr z)
  · rcases y with y | y
    · exact mut_ne (s.wm a z) (hn a y)
    · exact s.dj a z y
theorem Go.left (g : Go W (Or2 W' F) H H') : Go W W' H H' := ⟨g.keep, fun a z => g.new a (.inl z)⟩
theorem Go.orEmp (g : Go W W' H H') (e : Emp F) : Go W (Or2 W' F) H H' := ⟨g.keep, fun a z => z.elim (g.new a) fun z => (e a z).elim⟩
theorem Go.orNew (g : Go W W' H H') (h : ∀ a, F a → H a = none) : Go W (Or2 W' F) H H' := ⟨g.keep, fun a z => z.elim (g.new a) fun z => .inr (h a z)⟩
theorem Go.old {a : Addr} (g : Go W W' H H') (hn : H' a = none) (wm : ∀ a, W a → Mut (H a)) : W a ∨ H a = none := by
  refine Classical.byCases (p := W a) .inl fun n => .inr ?_
  cases e : H a with
  | none => rfl
  | some o => rw [g.keep a o e n] at hn; cases hn
theorem Go.ext (W : AS) (e : Ext H H') : Go W W H H' := ⟨fun a o h _ => e a o h, fun _ z => .inl z⟩
end

/-! ### readings -/
/-- of an expression: the environment, what is wanted of the environment and the data behind -/
abbrev ET := DEnv → (DEnv → D → Prop) → Prop
abbrev TTd := DEnv → (DEnv → Bool → Prop) → Prop
abbrev LT := DEnv → (DEnv → List D → Prop) → Prop

/-- the hand layer's reading of one over data: the result stands apart from the environment -/
def tD (K : PySem.W.Frag) (T : ET) : TE := fun σ H Q => ∃ (A : AS) (ρ : DEnv) (W : AS) (k : DEnv → D → Prop), Std K A H σ ρ W ∧ T ρ k ∧
  ∀ ρ' d, k ρ' d → ∀ (v : V) (H' : Hp) (W' F : AS), Std K (Or2 F A) H' σ ρ' W' → RV K H' (Or2 W' (Or2 F A)) v d F → Go W (Or2 W' F) H H' → Q v H'
/-- .. the result may be a part of the environment -/
def tV (K : PySem.W.Frag) (T : ET) : TE := fun σ H Q => ∃ (A : AS) (ρ : DEnv) (W : AS) (k : DEnv → D → Prop), Std K A H σ ρ W ∧ T ρ k ∧
  ∀ ρ' d, k ρ' d → ∀ (v : V) (H' : Hp) (W' F : AS), Std K A H' σ ρ' W' → RV K H' (Or2 W' A) v d F → Go W W' H H' → Q v H'
def tT (K : PySem.W.Frag) (T : TTd) : TT := fun σ H Q => ∃ (A : AS) (ρ : DEnv) (W : AS) (k : DEnv → Bool → Prop), Std K A H σ ρ W ∧ T ρ k ∧
  ∀ ρ' b, k ρ' b → ∀ (H' : Hp) (W' : AS), Std K A H' σ ρ' W' → Go W W' H H' → Q b H'
def tL (K : PySem.W.Frag) (T : LT) : TA := fun σ H Q => ∃ (A : AS) (ρ : DEnv) (W : AS) (k : DEnv → List D → Prop), Std K A H σ ρ W ∧ T ρ k ∧
  ∀ ρ' ds, k ρ' ds → ∀ (vs : List V) (H' : Hp) (W' F : AS), Std K (Or2 F A) H' σ ρ' W' → RVs K H' (Or2 W' (Or2 F A)) vs ds F → Go W (Or2 W' F) H H' → Q vs H'

def DE (X : Cx) (e : Expr) (T : ET) : Prop := PE X e (tD X.K T)
def DV (X : Cx) (e : Expr) (T : ET) : Prop := PE X e (tV X.K T)
def DT (X : Cx) (e : Expr) (T : TTd) : Prop := PT X e (tT X.K T)
def DW (X : Cx) (e : Expr) (T : TTd) : Prop := PW X e (tT X.K T)
def DL (X : Cx) (es : List Expr) (T : LT) : Prop := PA X es (tL X.K T)

theorem pe_imp {X : Cx} {e : Expr} {t u : TE} (h : PE X e t) (i : ∀ σ H Q, u σ H Q → t σ H Q) : PE X e u := ⟨fun pins s σ H Q I q => h.run pins s σ H Q I (i σ H Q q)⟩
theorem pt_imp {X : Cx} {e : Expr} {t u : TT} (h : PT X e t) (i : ∀ σ H Q, u σ H Q → t σ H Q) : PT X e u := ⟨fun pins s σ H Q I q => h.run pins s σ H Q I (i σ H Q q)⟩
theorem pw_imp {X : Cx} {e : Expr} {t u : TT} (h : PW X e t) (i : ∀ σ H Q, u σ H Q → t σ H Q) : PW X e u := ⟨fun wh pins s σ H Q I q => h.run wh pins s σ H Q I (i σ H Q q)⟩
theorem pa_imp {X : Cx} {es : List Expr} {t u : TA} (h : PA X es t) (i : ∀ σ H Q, u σ H Q → t σ H Q) : PA X es u := ⟨fun pos pins s σ H Q I q => h.run pos pins s σ H Q I (i σ H Q q)⟩
theorem ps_imp {X : Cx} {st : Stmt} {t u : TS} (h : PS X st t) (i : ∀ D σ H, u D σ H → t D σ H) : PS X st u := ⟨fun pins s σ H D I q => h.run pins s σ H D I (i D σ H q)⟩
theorem pss_imp {X : Cx} {st : List Stmt} {t u : TS} (h : PSs X st t) (i : ∀ D σ H, u D σ H → t D σ H) : PSs X st u := ⟨fun pins s σ H D I q => h.run pins s σ H D I (i D σ H q)⟩

section
variable {X : Cx} {e a b : Expr} {T Ta Tb : ET} {pos : Pos}
theorem DE.view (h : DE X e T) : DV X e T := pe_imp h fun σ H Q ⟨A, ρ, W, k, s, t, c⟩ =>
  ⟨A, ρ, W, k, s, t, fun ρ' d q v H' W' F s' r g => c ρ' d q v H' W' F (s'.weak fun a z => .inr z) (r.weak fun a z => z.elim .inl fun z => .inr (.inr z)) g.left⟩
/-- a result that is not owned is no part of the environment's owned -/
theorem rv_fz {K : PySem.W.Frag} {H : Hp} {Y F : AS} {v : V} {d : D} (r : RV K H Y v d F) (h : isFz d = true) : Emp F := by
  cases r with
  | non e => exact e
  | bl e => exact e
  | int e => exact e
  | str e => exact e
  | ref e => exact e
  | ty e => exact e
  | exc0 e => exact e
  | exc1 _ _ _ _ e => exact e
  | tup _ _ e => exact e
  | key _ _ e => exact e
  | lst0 _ _ _ e => exact e
  | dct0 _ _ _ _ e => exact e
  | dcT0 _ _ _ _ e => exact e
  | obj0 _ _ _ _ e => exact e
  | lst1 | dct1 | dcT1 | obj1 => cases h
def dFz (T : ET) : ET := fun ρ k => T ρ fun ρ' d => match isFz d with | true => k ρ' d | false => False
theorem DV.fz (h : DV X e T) : DE X e (dFz T) := pe_imp h fun σ H Q ⟨A, ρ, W, k, s, t, c⟩ => by
  refine ⟨A, ρ, W, _, s, t, fun ρ' d q v H' W' F s' r g => ?_⟩
  cases z : isFz d with
  | false => rw [z] at q; exact q.elim
  | true =>
    rw [z] at q
    have em := rv_fz r z
    refine c ρ' d q v H' W' F ⟨s'.re.ext (fun _ _ h => h) fun a y => .inl ?_, fun a y w => w.elim (em a) (s'.dj a y), fun a y => y.elim (fun y => (em a y).elim) (s'.am a)⟩ (r.weak fun a y => ?_) (g.orEmp em)
    · rcases y with y | y | y
      · exact .inl y
      · exact (em a y).elim
      · exact .inr y
    · rcases y with y | y | y
      · exact .inl y
      · exact (em a y).elim
      · exact .inr y
end
end Dl
/-! DL3: expressions: names, constants, operators, tests, argument lists, displays. -/
namespace Dl
open PySem PySem.Spec L2
section
variable {X : Cx} {e a b c : Expr} {es rest : List Expr} {T Ta Tb Tc : ET} {Tl : LT} {t u : TTd} {pos : Pos}

/-! ### names, constants -/
theorem emF : Emp (fun _ => False) := fun _ z => z
def nameV (ρ : DEnv) (i : Nat) (k : D → Prop) : Prop := match ρ[i]? with
  | some (some d) => k d
  | _ => False
theorem nameV_get {ρ : DEnv} {i : Nat} {k : D → Prop} (h : nameV ρ i k) : ∃ d, ρ[i]? = some (some d) ∧ k d := by
  unfold nameV at h
  cases e : ρ[i]? with
  | none => rw [e] at h; exact h.elim
  | some o =>
    cases o with
    | none => rw [e] at h; exact h.elim
    | some d => rw [e] at h; exact ⟨d, rfl, h⟩
/-- a name looked at -/
def dNameV (i : Nat) : ET := fun ρ k => nameV ρ i (k ρ)
theorem dv_name {i : Nat} (h : PE X e (tVar i)) : DV X e (dNameV i) := pe_imp h fun σ H Q ⟨A, ρ, W, k, s, t, c⟩ => by
  obtain ⟨d, hd, t⟩ := nameV_get t
  obtain ⟨v, Fi, hv, r, sub⟩ := s.re.get hd
  exact ⟨v, hv, c ρ d t v H W Fi s r (Go.refl W H)⟩
/-- a name's value handed on: what is owned of it is so no longer -/
def dName (i : Nat) : ET := fun ρ k => nameV ρ i fun d => match isFz d with
  | true => k ρ d
  | false => k (ρ.set i (some (frz d))) (frz d)
theorem set_none_get {ρ : DEnv} {i : Nat} {d : D} (h : ρ[i]? = some (some d)) : (ρ.set i none)[i]? = some none := by
  have hi : i < ρ.length := (List.getElem?_eq_some_iff.mp h).1
  simp [hi]
theorem set_none_set {ρ : DEnv} {i : Nat} {d : D} : (ρ.set i none).set i (some d) = ρ.set i (some d) := by simp
/-- the owned of a name are given up -/
theorem Std.freeze {K : PySem.W.Frag} {A W : AS} {H : Hp} {σ : L2.St} {ρ : DEnv} {i : Nat} {d : D} (s : Std K A H σ ρ W) (h : ρ[i]? = some (some d)) :
    ∃ v W', σ[i]? = some (some v) ∧ Std K A H σ (ρ.set i (some (frz d))) W' ∧ RV K H (Or2 W' A) v (frz d) (fun _ => False) ∧ Go W W' H H := by
  obtain ⟨v, Fi, F', hv, r, re, dj, eq⟩ := s.re.drop h
  have hX : ∀ a, Or2 F' A a → Or2 W A a ∧ ¬ Fi a := fun a z => by
    rcases z with z | z
    · exact ⟨.inl ((eq a).mpr (.inr z)), fun y => dj a y z⟩
    · exact ⟨.inr z, fun y => s.dj a ((eq a).mpr (.inl y)) z⟩
  have r' := r.freeze hX
  have re' := re.ext (X' := Or2 F' A) (H' := H) (fun _ _ z => z) fun a z => .inl (hX a z).1
  have p := re'.put hv (set_none_get h) r' fun _ z _ => z
  rw [set_none_set] at p
  refine ⟨v, F', hv, ⟨p.congr fun a => ⟨fun z => z.elim False.elim id, .inr⟩, fun a z => s.dj a ((eq a).mpr (.inr z)), s.am⟩, r', ⟨fun _ _ z _ => z, fun a z => .inl ((eq a).mpr (.inr z))⟩⟩
theorem de_name {i : Nat} (h : PE X e (tVar i)) : DE X e (dName i) := pe_imp h fun σ H Q ⟨A, ρ, W, k, s, t, c⟩ => by
  obtain ⟨d, hd, t⟩ := nameV_get t
  cases z : isFz d with
  | true =>
    rw [z] at t
    obtain ⟨v, Fi, hv, r, sub⟩ := s.re.get hd
    have em := rv_fz r z
    refine ⟨v, hv, c ρ d t v H W (fun _ => False) ?_ ?_ ((Go.refl W H).orEmp emF)⟩
    · exact s.weak fun a y => y.elim False.elim id
    · exact (r.weak fun a y => y.elim .inl fun y => .inr (y.elim False.elim id)).congr fun a => ⟨em a, False.elim⟩
  | false =>
    rw [z] at t
    obtain ⟨v, W', hv, s', r', g⟩ := s.freeze hd
    refine ⟨v, hv, c _ _ t v H W' (fun _ => False) ?_ ?_ (g.orEmp emF)⟩
    · exact s'.weak fun a y => y.elim False.elim id
    · exact r'.weak fun a y => y.elim .inl fun y => .inr (y.elim False.elim id)
/-- a name's value moved away -/
def dMove (i : Nat) : ET := fun ρ k => nameV ρ i fun d => k (ρ.set i none) d
theorem de_move {i : Nat} (h : PE X e (tVar i)) : DE X e (dMove i) := pe_imp h fun σ H Q ⟨A, ρ, W, k, s, t, c⟩ => by
  obtain ⟨d, hd, t⟩ := nameV_get t
  obtain ⟨v, Fi, F', hv, r, re, dj, eq⟩ := s.re.drop hd
  refine ⟨v, hv, c _ d t v H F' Fi ⟨re.ext (fun _ _ z => z) fun a z => .inl ?_, fun a z y => ?_, fun a z => z.elim (r.there a) (s.am a)⟩ (r.weak fun a z => ?_) ⟨fun _ _ z _ => z, fun a z => .inl ((eq a).mpr z.symm)⟩⟩
  · exact z.elim (fun z => .inl ((eq a).mpr (.inr z))) fun z => z.elim (fun z => .inl ((eq a).mpr (.inl z))) .inr
  · exact y.elim (fun y => dj a y z) fun y => s.dj a ((eq a).mpr (.inr z)) y
  · exact z.elim (fun z => .inl ((eq a).mpr (.inr z))) fun z => z.elim (fun z => .inl ((eq a).mpr (.inl z))) .inr

/-- a value without objects -/
theorem plain_out {K : PySem.W.Frag} {A W : AS} {H : Hp} {σ : L2.St} {ρ : DEnv} {Q : VK} {k : DEnv → D → Prop} {v : V} {d : D} (s : Std K A H σ ρ W) (r : ∀ Y : AS, RV K H Y v d (fun _ => False)) (t : k ρ d)
    (c : ∀ ρ' d, k ρ' d → ∀ (v : V) (H' : Hp) (W' F : AS), Std K (Or2 F A) H' σ ρ' W' → RV K H' (Or2 W' (Or2 F A)) v d F → Go W (Or2 W' F) H H' → Q v H') : Q v H :=
  c ρ d t v H W (fun _ => False) (s.weak fun a y => y.elim False.elim id) (r _) ((Go.refl W H).orEmp emF)
def dC (d : D) : ET := fun ρ k => k ρ d
theorem de_c {v : V} {d : D} (h : PE X e (tC v)) (r : ∀ (H : Hp) (Y : AS), RV X.K H Y v d (fun _ => False)) : DE X e (dC d) := pe_imp h fun σ H Q ⟨A, ρ, W, k, s, t, c⟩ => plain_out s (r H) t c
theorem de_int {i j} : DE X (.Constant (.int i) j pos) (dC (.int i)) := de_c pe_int fun _ _ => .int emF
theorem de_bl {i j} : DE X (.Constant (.bool i) j pos) (dC (.bl i)) := de_c pe_bl fun _ _ => .bl emF
theorem de_non {j} : DE X (.Constant .none j pos) (dC .non) := de_c pe_non fun _ _ => .non emF
theorem de_str {x j} : DE X (.Constant (.str x) j pos) (dC (.str x)) := de_c pe_str fun _ _ => .str emF
theorem de_gint {x : Str} {i : Int} {w : Value} (hg : Gl X x) (hm : X.mg x = some w) (r : RelV (.int i) w) (hd : (x == ("__debug__" : Str)) = false := by decide) : DE X (.Name x pos) (dC (.int i)) := de_c (pe_glob hg hm r hd) fun _ _ => .int emF
theorem de_gstr {x y : Str} {w : Value} (hg : Gl X x) (hm : X.mg x = some w) (r : RelV (.str y) w) (hd : (x == ("__debug__" : Str)) = false := by decide) : DE X (.Name x pos) (dC (.str y)) := de_c (pe_glob hg hm r hd) fun _ _ => .str emF

/-! ### what an operator does to data -/
/-- each of some values, whatever they share -/
inductive RVv (K : PySem.W.Frag) (H : Hp) (Y : AS) : List V → List D → Prop
  | nil : RVv K H Y [] []
  | cons {v : V} {d : D} {vs : List V} {ds : List D} {F : AS} : RV K H Y v d F → RVv K H Y vs ds → RVv K H Y (v :: vs) (d :: ds)
theorem RVs.v {K : PySem.W.Frag} {H : Hp} {Y F : AS} {vs : List V} {ds : List D} (r : RVs K H Y vs ds F) : RVv K H Y vs ds := by
  induction ds generalizing vs F with
  | nil => cases r; exact .nil
  | cons d ds ih => cases r with | cons r1 r2 _ _ => exact .cons r1 (ih r2)
/-- of one value, by the hand layer's reading r and data's f: the results are f's, made of new objects and what stands -/
def R1D (K : PySem.W.Frag) (r : V → Hp → VK → Prop) (f : D → (D → Prop) → Prop) : Prop :=
  ∀ (H : Hp) (Y : AS) (v : V) (d : D) (F : AS) (k : D → Prop) (Q : VK), RV K H Y v d F → f d k →
    (∀ d' v' H' F', k d' → Ext H H' → (∀ a, F' a → H a = none) → RV K H' (Or2 F' Y) v' d' F' → Q v' H') → r v H Q
def R2D (K : PySem.W.Frag) (r : R2) (f : D → D → (D → Prop) → Prop) : Prop :=
  ∀ (H : Hp) (Y : AS) (v u : V) (d e : D) (F G : AS) (k : D → Prop) (Q : VK), RV K H Y v d F → RV K H Y u e G → f d e k →
    (∀ d' v' H' F', k d' → Ext H H' → (∀ a, F' a → H a = none) → RV K H' (Or2 F' Y) v' d' F' → Q v' H') → r v u H Q
def RLD (K : PySem.W.Frag) (r : List V → Hp → VK → Prop) (f : List D → (D → Prop) → Prop) : Prop :=
  ∀ (H : Hp) (Y : AS) (vs : List V) (ds : List D) (k : D → Prop) (Q : VK), RVv K H Y vs ds → f ds k →
    (∀ d' v' H' F', k d' → Ext H H' → (∀ a, F' a → H a = none) → RV K H' (Or2 F' Y) v' d' F' → Q v' H') → r vs H Q

/-- an operator's result as the reading wants it -/
theorem op_out {K : PySem.W.Frag} {A B W W2 : AS} {H H2 : Hp} {σ : L2.St} {ρ : DEnv} {Q : VK} {k : DEnv → D → Prop} (s : Std K B H2 σ ρ W2) (sub : ∀ a, A a → B a) (g : Go W W2 H H2) (wm : ∀ a, W a → Mut (H a))
    (c : ∀ ρ' d, k ρ' d → ∀ (v : V) (H' : Hp) (W' F : AS), Std K (Or2 F A) H' σ ρ' W' → RV K H' (Or2 W' (Or2 F A)) v d F → Go W (Or2 W' F) H H' → Q v H') :
    ∀ d' v' H' F', k ρ d' → Ext H2 H' → (∀ a, F' a → H2 a = none) → RV K H' (Or2 F' (Or2 W2 B)) v' d' F' → Q v' H' := by
  intro d' v' H' F' kd ext hn r
  refine c ρ d' kd v' H' W2 F' ((s.weak sub).grow ext hn r.there) (r.weak fun a z => ?_) ⟨(g.trans (Go.ext W2 ext)).keep, fun a z => z.elim (g.new a) fun z => g.old (hn a z) wm⟩
  · rcases z with z | z | z
    · exact .inr (.inl z)
    · exact .inl z
    · exact .inr (.inr (sub a z))

def dOp1 (f : D → (D → Prop) → Prop) (Ta : ET) : ET := fun ρ k => Ta ρ fun ρ1 x => f x (k ρ1)
def dOp2 (f : D → D → (D → Prop) → Prop) (Ta Tb : ET) : ET := fun ρ k => Ta ρ fun ρ1 x => Tb ρ1 fun ρ2 y => f x y (k ρ2)
def dOpL (f : List D → (D → Prop) → Prop) (Tl : LT) : ET := fun ρ k => Tl ρ fun ρ1 x => f x (k ρ1)
theorem op1_imp {K : PySem.W.Frag} {r : V → Hp → VK → Prop} {f : D → (D → Prop) → Prop} (hr : R1D K r f) (σ : L2.St) (H : Hp) (Q : VK) (h : tD K (dOp1 f Ta) σ H Q) : tV K Ta σ H (fun x H1 => r x H1 Q) := by
  obtain ⟨A, ρ, W, k, s, t, c⟩ := h
  exact ⟨A, ρ, W, _, s, t, fun ρ1 d1 t1 v1 H1 W1 F1 s1 r1 g1 => hr H1 _ v1 d1 F1 (k ρ1) Q r1 t1 (op_out s1 (fun _ z => z) g1 s.wm c)⟩
theorem op2_imp {K : PySem.W.Frag} {r : R2} {f : D → D → (D → Prop) → Prop} (hr : R2D K r f) (σ : L2.St) (H : Hp) (Q : VK) (h : tD K (dOp2 f Ta Tb) σ H Q) : tOp r (tD K Ta) (tV K Tb) σ H Q := by
  obtain ⟨A, ρ, W, k, s, t, c⟩ := h
  refine ⟨A, ρ, W, _, s, t, fun ρ1 d1 t1 v1 H1 W1 F1 s1 r1 g1 => ⟨Or2 F1 A, ρ1, W1, _, s1, t1, fun ρ2 d2 t2 v2 H2 W2 F2 s2 r2 g2 => ?_⟩⟩
  have r1' := r1.go g2 s1.wm fun a z y => s1.dj a y (.inl z)
  exact hr H2 _ v1 v2 d1 d2 F1 F2 (k ρ2) Q r1' r2 t2 (op_out s2 (fun _ z => .inr z) (g1.left.trans g2) s.wm c)
theorem opL_imp {K : PySem.W.Frag} {r : List V → Hp → VK → Prop} {f : List D → (D → Prop) → Prop} (hr : RLD K r f) (σ : L2.St) (H : Hp) (Q : VK) (h : tD K (dOpL f Tl) σ H Q) : tL K Tl σ H (fun x H1 => r x H1 Q) := by
  obtain ⟨A, ρ, W, k, s, t, c⟩ := h
  exact ⟨A, ρ, W, _, s, t, fun ρ1 d1 t1 v1 H1 W1 F1 s1 r1 g1 => hr H1 _ v1 d1 (k ρ1) Q r1.v t1 (op_out s1 (fun _ z => .inr z) g1.left s.wm c)⟩

/-! ### argument lists -/
def dNil : LT := fun ρ k => k ρ []
def dCons (Ta : ET) (Tl : LT) : LT := fun ρ k => Ta ρ fun ρ1 x => Tl ρ1 fun ρ2 xs => k ρ2 (x :: xs)
theorem dl_nil : DL X [] dNil := pa_imp pa_nil fun σ H Q ⟨A, ρ, W, k, s, t, c⟩ => c ρ [] t [] H W (fun _ => False) (s.weak fun a y => y.elim False.elim id) (.nil emF) ((Go.refl W H).orEmp emF)
theorem dl_cons (ha : DE X e Ta) (hr : DL X es Tl) (hs : starEach (e :: es) X.env = (false, eval e X.env) :: starEach es X.env := by rfl) : DL X (e :: es) (dCons Ta Tl) := pa_imp (pa_cons ha hr hs) fun σ H Q ⟨A, ρ, W, k, s, t, c⟩ => by
  refine ⟨A, ρ, W, _, s, t, fun ρ1 d1 t1 v1 H1 W1 F1 s1 r1 g1 => ⟨Or2 F1 A, ρ1, W1, _, s1, t1, fun ρ2 ds t2 vs H2 W2 F2 s2 r2 g2 => ?_⟩⟩
  have f1m : ∀ a, F1 a → Mut (H1 a) := fun a z => s1.am a (.inl z)
  have nf : ∀ a, F1 a → ¬ W1 a := fun a z y => s1.dj a y (.inl z)
  have r1' := r1.later (g2.later (A := Or2 F1 A) s1.wm) nf
  have q : ∀ a, Or2 W2 (Or2 (Or2 F1 F2) A) a → Or2 W2 (Or2 F2 (Or2 F1 A)) a := fun a z => by
    rcases z with z | (z | z) | z
    · exact .inl z
    · exact .inr (.inr (.inl z))
    · exact .inr (.inl z)
    · exact .inr (.inr (.inr z))
  refine c ρ2 _ t2 (v1 :: vs) H2 W2 (Or2 F1 F2) (s2.weak fun a z => ?_) (.cons (r1'.weak fun a z => ?_) (r2.weak q) (fun a z y => ?_) fun _ => Iff.rfl) ⟨(g1.left.trans g2.left).keep, fun a z => ?_⟩
  · exact z.elim (fun z => z.elim (fun z => .inr (.inl z)) .inl) fun z => .inr (.inr z)
  · rcases z with z | (z | z) | z
    · exact .inl (.inl z)
    · exact .inr (.inl z)
    · exact .inl (.inr z)
    · exact .inr (.inr z)
  · rcases g2.new a (.inr y) with w | w
    · exact nf a z w
    · exact mut_ne (f1m a z) w
  · rcases z with z | z | z
    · exact (g1.left.trans g2.left).new a z
    · exact g1.new a (.inr z)
    · rcases g2.new a (.inr z) with z | z
      · exact g1.left.new a z
      · exact g1.left.old z s.wm
end
end Dl
/-! DLT: what makes tuples, the new object known through and through. -/
namespace Dl
open PySem PySem.Spec L2
/-- a new tuple of xs -/
def NewT (Q : VK) (H : Hp) (xs : List V) : Prop := ∀ p o, H p = none → o.dict = none → Q (.ref p) (upd H p (.frz o (.tup xs)))
section
variable {X : Cx} {K : PySem.W.Frag} {pos : Pos} {es : List Expr} {t : TA}
theorem laidZ {pins : List (Addr × Obj)} {σ : L2.St} {H : Hp} {s : Shared} {xs : List V} {its : List Value} {Q : VK} {t' : Nat} (I : Inv X pins σ H s) (r : Vals xs its) (z : xs.length ≤ sizeLine) (q : NewT Q H xs) :
    EP X pins σ Q (.ref s.heap.objs.size) { s with heap := s.heap.push { cls := .type "tuple", data := .seq its.toArray }, toks := t' } := by
  have hf : H s.heap.objs.size = none := I.hok.fresh (Nat.le_refl _)
  have I' := I.laid (a := s.heap.objs.size) (o := .frz { cls := .type "tuple", data := .seq its.toArray } (.tup xs)) (t' := t') (h' := s.heap.push { cls := .type "tuple", data := .seq its.toArray }) (fun b u e => Heap.get?_push_of_some _ e) (Nat.le_refl _)
    ⟨Heap.get?_push_size _ rfl, z, its, r, ⟨_, Heap.get?_push_size _ rfl, rfl, _, rfl⟩⟩
  exact ⟨.ref s.heap.objs.size, _, I', rfl, q _ _ hf rfl⟩
/-- a display -/
def tTupZ (t : TA) : TE := fun σ H Q => t σ H fun xs H1 => xs.length ≤ sizeLine ∧ NewT Q H1 xs
theorem pe_tupZ {x1} (h : PA X es t) : PE X (.Tuple es x1 pos) (tTupZ t) := by
  refine ⟨fun pins s σ H Q I hq => ?_⟩
  exact wpAny_Tuple_spliced (thn (h.run pos pins s σ H _ I hq) fun us s1 ⟨xs, H1, I1, r, z, q⟩ => ⟨by rw [← r.length]; exact z, laidZ I1 r z q⟩)
/-- tuple(a list), tuple(a tuple) -/
def rTupOf (K : PySem.W.Frag) : List V → Hp → VK → Prop := fun xs H Q => ∃ p ys, xs = [.ref p] ∧ ((SqL K H p ys ∧ NewT Q H ys) ∨ (SqT K H p ys ∧ Q (.ref p) H))
open PyProof.Rows in
theorem call_tupOfZ : CallR X (.type "tuple") (rTupOf X.K) := by
  intro pins s σ H xs us Q I r h
  obtain ⟨p, ys, rfl, h⟩ := h
  obtain ⟨u, rfl, rx⟩ := vals1 r
  cases rx
  rcases h with ⟨hq, q⟩ | ⟨hq, q⟩
  · obtain ⟨its, r', pl, hz⟩ := I.list hq
    have hlen := r'.length
    refine call_tuple_list pl.isList (fun h' kp => ?_) (by simp only [List.size_toArray] <;> omega)
    have I1 : Inv X pins σ H { s with heap := h' } := I.kept (t' := s.toks) kp
    exact laidZ I1 r' hz q
  · obtain ⟨its, r', pl, hz⟩ := I.tuple hq
    exact call_tuple_same pl ⟨.ref p, H, I, rfl, q⟩
/-- t[lo:hi] -/
def rSlZ (K : PySem.W.Frag) : V → Option Int → Option Int → Hp → VK → Prop := fun x lo hi H Q => ∃ a xs, x = .ref a ∧ SqT K H a xs ∧
  (HT.sIx xs.length 0 lo = 0 ∧ HT.sIx xs.length xs.length hi = xs.length → Q (.ref a) H) ∧ (¬ (HT.sIx xs.length 0 lo = 0 ∧ HT.sIx xs.length xs.length hi = xs.length) → NewT Q H (cutV xs lo hi))
theorem sl_tupZ : SlR X (rSlZ X.K) := by
  intro pins s σ H x v vl vu lo hi sl Q I rx hs pl pu h
  obtain ⟨a, xs, rfl, hx, q1, q2⟩ := h
  cases rx
  obtain ⟨its, r, ht, hz⟩ := I.tuple hx
  have hlen : its.toArray.size = xs.length := by rw [List.size_toArray]; exact r.length.symm
  refine ⟨"tuple", _, PyProof.Rows.slot_tuple_getitem.lookup, ht.typeIs, ?_⟩
  by_cases hw : HT.sIx xs.length 0 lo = 0 ∧ HT.sIx xs.length xs.length hi = xs.length
  · exact getItem_tuple_whole ht hs pl pu (by rw [hlen]; exact hw) ⟨.ref a, H, I, rfl, q1 hw⟩
  · refine HT.getItem_tuple_cut ht hs pl pu (by rw [hlen]; exact hw) ?_ (by rw [hlen]; exact hz)
    rw [hlen]
    exact laidZ I ((r.drop (HT.sIx xs.length 0 lo)).take (HT.sIx xs.length xs.length hi - HT.sIx xs.length 0 lo)) (Nat.le_trans (cutV_length xs lo hi) hz) (q2 hw)
/-- t + u -/
def rCatZ (K : PySem.W.Frag) : R2 := fun x y H Q => ∃ a b xs ys, x = .ref a ∧ y = .ref b ∧ SqT K H a xs ∧ SqT K H b ys ∧ xs.length + ys.length ≤ sizeLine ∧
  (xs = [] → Q (.ref b) H) ∧ (xs ≠ [] → ys = [] → Q (.ref a) H) ∧ (xs ≠ [] → ys ≠ [] → NewT Q H (xs ++ ys))
theorem op_catZ : OpR X (binaryOp .Add) (rCatZ X.K) := by
  intro pins s σ H x y v u Q I rx ry h
  obtain ⟨a, b, xs, ys, rfl, rfl, ha, hb, hz, q0, q1, q2⟩ := h
  cases rx
  cases ry
  obtain ⟨its, r1, p1, _⟩ := I.tuple ha
  obtain ⟨its2, r2, p2, _⟩ := I.tuple hb
  by_cases hx : xs = []
  · subst hx
    cases r1
    exact cat_tup0 p1 p2 ⟨.ref b, H, I, rfl, q0 rfl⟩
  · exact HT.cat_tup p1 p2 (fun z => hx (r1.nil_iff.mp z)) (fun z => ⟨.ref a, H, I, rfl, q1 hx (r2.nil_iff.mp z)⟩) (fun z => laidZ I (r1.append r2) (by rw [List.length_append]; exact hz) (q2 hx fun w => z (r2.nil_iff.mpr w))) (by rw [← r1.length, ← r2.length]; exact hz)
end
end Dl
/-! DL4: operators on data, tests, displays, subscripts. -/
namespace Dl
open PySem PySem.Spec L2
section
variable {K : PySem.W.Frag} {H H' : Hp} {Y F : AS} {v : V} {ds : List D}
theorem rv_int {i : Int} (r : RV K H Y v (.int i) F) : v = .int i := by cases r; rfl
theorem rv_bl {i : Bool} (r : RV K H Y v (.bl i) F) : v = .bl i := by cases r; rfl
theorem rv_str {i : Str} (r : RV K H Y v (.str i) F) : v = .str i := by cases r; rfl
theorem rv_non (r : RV K H Y v .non F) : v = .non := by cases r; rfl
theorem rv_ref {a : Addr} (r : RV K H Y v (.ref a) F) : v = .ref a := by cases r; rfl
theorem rv_ty {a : String} (r : RV K H Y v (.ty a) F) : v = .ty a := by cases r; rfl
theorem rv_tup (r : RV K H Y v (.tup ds) F) : ∃ a vs, v = .ref a ∧ TupZ H a vs ∧ RVs K H Y vs ds F ∧ Emp F := by
  cases r with | tup h r e => exact ⟨_, _, rfl, h, r, e⟩
theorem rv_key (r : RV K H Y v (.key ds) F) : ∃ a vs, v = .ref a ∧ H a = some (.tup vs) ∧ RVs K H Y vs ds F ∧ Emp F := by
  cases r with | key h r e => exact ⟨_, _, rfl, h, r, e⟩
theorem rv_lst {m : Bool} (r : RV K H Y v (.lst m ds) F) : ∃ a vs G, v = .ref a ∧ Rd H a (.lst vs) ∧ RVs K H Y vs ds G ∧ (∀ b, G b → F b) ∧ (m = false → Emp G) := by
  cases r with
  | lst0 h n r e => exact ⟨_, _, _, rfl, h, r, fun _ z => z, fun _ => e⟩
  | lst1 h r n e => exact ⟨_, _, _, rfl, .inl h, r, fun b z => (e b).mpr (.inr z), fun z => by cases z⟩
theorem rvs_length {vs : List V} (r : RVs K H Y vs ds F) : vs.length = ds.length := by
  induction ds generalizing vs F with
  | nil => cases r; rfl
  | cons d ds ih => cases r with | cons r1 r2 _ _ => simp [ih r2]
theorem rvs_get {vs : List V} {i : Nat} {d : D} (r : RVs K H Y vs ds F) (h : ds[i]? = some d) : ∃ v G, vs[i]? = some v ∧ RV K H Y v d G ∧ ∀ a, G a → F a := by
  induction ds generalizing vs F i with
  | nil => simp at h
  | cons d0 ds ih =>
    cases r with
    | cons r1 r2 _ u =>
      cases i with
      | zero => simp at h; subst h; exact ⟨_, _, rfl, r1, fun a z => (u a).mpr (.inl z)⟩
      | succ i =>
        obtain ⟨v, G, h1, h2, h3⟩ := ih r2 (by simpa using h)
        exact ⟨v, G, by simpa using h1, h2, fun a z => (u a).mpr (.inr (h3 a z))⟩
theorem rvs_append {vs ws : List V} {es : List D} {G : AS} (r : RVs K H Y vs ds F) (q : RVs K H Y ws es G) (dj : Dj F G) : RVs K H Y (vs ++ ws) (ds ++ es) (Or2 F G) := by
  induction ds generalizing vs F with
  | nil => cases r with | nil e => exact q.congr fun a => ⟨.inr, fun z => z.elim (fun z => (e a z).elim) id⟩
  | cons d ds ih =>
    cases r with
    | @cons _ _ _ _ F1 F2 _ r1 r2 dj1 u =>
      refine .cons r1 (ih r2 fun a z y => dj a ((u a).mpr (.inr z)) y) (fun a z y => ?_) fun b => ?_
      · rcases y with y | y
        · exact dj1 a z y
        · exact dj a ((u a).mpr (.inl z)) y
      · constructor
        · rintro (z | z)
          · exact ((u b).mp z).elim .inl fun z => .inr (.inl z)
          · exact .inr (.inr z)
        · rintro (z | z | z)
          · exact .inl ((u b).mpr (.inl z))
          · exact .inl ((u b).mpr (.inr z))
          · exact .inr z
theorem rvs_fz {vs : List V} (r : RVs K H Y vs ds F) (h : ds.all isFz = true) : Emp F := by
  induction ds generalizing vs F with
  | nil => cases r with | nil e => exact e
  | cons d ds ih =>
    simp only [List.all_cons, Bool.and_eq_true] at h
    cases r with
    | cons r1 r2 _ u => exact fun a z => ((u a).mp z).elim (rv_fz r1 h.1 a) (ih r2 h.2 a)
theorem rv_emp {d : D} (r : RV K H Y v d F) (e : Emp F) : RV K H Y v d (fun _ => False) := r.congr fun a => ⟨e a, False.elim⟩
theorem rvs_emp {vs : List V} (r : RVs K H Y vs ds F) (e : Emp F) : RVs K H Y vs ds (fun _ => False) := r.congr fun a => ⟨e a, False.elim⟩
theorem rvs_take {vs : List V} (n : Nat) (r : RVs K H Y vs ds F) (e : Emp F) : RVs K H Y (vs.take n) (ds.take n) (fun _ => False) := by
  induction ds generalizing vs F n with
  | nil => cases r with | nil e => simpa using RVs.nil emF
  | cons d ds ih =>
    cases r with
    | cons r1 r2 _ u =>
      cases n with
      | zero => exact .nil emF
      | succ n => exact .cons (rv_emp r1 fun a z => e a ((u a).mpr (.inl z))) (ih n r2 fun a z => e a ((u a).mpr (.inr z))) (fun _ z _ => z) fun b => ⟨False.elim, fun z => z.elim id id⟩
theorem rvs_drop {vs : List V} (n : Nat) (r : RVs K H Y vs ds F) (e : Emp F) : RVs K H Y (vs.drop n) (ds.drop n) (fun _ => False) := by
  induction ds generalizing vs F n with
  | nil => cases r with | nil e => simpa using RVs.nil emF
  | cons d ds ih =>
    cases r with
    | cons r1 r2 _ u =>
      cases n with
      | zero => exact rvs_emp (.cons r1 r2 ‹_› u) e
      | succ n => exact ih n r2 fun a z => e a ((u a).mpr (.inr z))
/-- a result without objects -/
theorem r_plain {K : PySem.W.Frag} {H : Hp} {Y : AS} {k : D → Prop} {Q : VK} {d : D} {v : V} (h : k d) (r : ∀ Z, RV K H Z v d (fun _ => False))
    (c : ∀ d' v' H' F', k d' → Ext H H' → (∀ a, F' a → H a = none) → RV K H' (Or2 F' Y) v' d' F' → Q v' H') : Q v H :=
  c d v H (fun _ => False) h (fun _ _ z => z) (fun _ z => z.elim) (r _)
/-- .. that stood already, not owned -/
theorem r_old {d : D} {k : D → Prop} {Q : VK} (h : k d) (r : RV K H Y v d F) (e : Emp F)
    (c : ∀ d' v' H' F', k d' → Ext H H' → (∀ a, F' a → H a = none) → RV K H' (Or2 F' Y) v' d' F' → Q v' H') : Q v H :=
  c d v H (fun _ => False) h (fun _ _ z => z) (fun _ z => z.elim) ((rv_emp r e).weak fun a z => z.elim False.elim id)
theorem ext_upd {p : Addr} {o : HO} (hp : H p = none) : Ext H (upd H p o) := fun a u h => by rw [upd_ne (ne_of_none h hp)]; exact h
/-- a new tuple of what stood -/
theorem r_tup {vs : List V} {k : D → Prop} {Q : VK} {p : Addr} {o : Obj} (hp : H p = none) (hd : o.dict = none) (h : k (.tup ds)) (r : RVs K H Y vs ds F) (e : Emp F)
    (c : ∀ d' v' H' F', k d' → Ext H H' → (∀ a, F' a → H a = none) → RV K H' (Or2 F' Y) v' d' F' → Q v' H') : Q (.ref p) (upd H p (.frz o (.tup vs))) :=
  c _ _ _ (fun _ => False) h (ext_upd hp) (fun _ z => z.elim) (.tup ⟨o, upd_same, hd⟩ ((rvs_emp r e).ext (ext_upd hp) fun a z => .inl (z.elim False.elim id)) emF)
theorem r_key {vs : List V} {k : D → Prop} {Q : VK} {p : Addr} (hp : H p = none) (h : k (.key ds)) (r : RVs K H Y vs ds F) (e : Emp F)
    (c : ∀ d' v' H' F', k d' → Ext H H' → (∀ a, F' a → H a = none) → RV K H' (Or2 F' Y) v' d' F' → Q v' H') : Q (.ref p) (upd H p (.tup vs)) :=
  c _ _ _ (fun _ => False) h (ext_upd hp) (fun _ z => z.elim) (.key upd_same ((rvs_emp r e).ext (ext_upd hp) fun a z => .inl (z.elim False.elim id)) emF)
/-- a new list of what stood -/
theorem r_lst {vs : List V} {k : D → Prop} {Q : VK} {p : Addr} (hp : H p = none) (h : k (.lst true ds)) (r : RVs K H Y vs ds F) (e : Emp F)
    (c : ∀ d' v' H' F', k d' → Ext H H' → (∀ a, F' a → H a = none) → RV K H' (Or2 F' Y) v' d' F' → Q v' H') : Q (.ref p) (upd H p (.lst vs)) :=
  c _ _ _ (fun a => a = p) h (ext_upd hp) (fun a z => by subst z; exact hp) (.lst1 upd_same ((rvs_emp r e).ext (ext_upd hp) fun a z => by
    rcases z with rfl | z
    · exact .inr hp
    · exact .inl z) (fun z => z) fun b => by constructor; exact .inl; rintro (z | z); exact z; exact z.elim)
end

/-! ### data compared -/
mutual
def toP : D → Option PyData
  | .non => some .none
  | .bl b => some (.bool b)
  | .int i => some (.int i)
  | .str x => some (.str x)
  | .tup l => (toPs l).map .tuple
  | .key l => (toPs l).map .tuple
  | .lst _ l => (toPs l).map .list
  | .dct .. => none
  | .dcT .. => none
  | .obj .. => none
  | .ref _ => none
  | .ty _ => none
  | .exc .. => none
def toPs : List D → Option (List PyData)
  | [] => some []
  | d :: l => match toP d, toPs l with
    | some p, some ps => some (p :: ps)
    | _, _ => none
end
section
variable {K : PySem.W.Frag} {H : Hp} {Y : AS}
theorem dp_of {v : V} {d : D} {F : AS} (r : RV K H Y v d F) : ∀ p, toP d = some p → Dp K H v p := by
  induction r using RV.rec (motive_2 := fun vs ds F _ => ∀ ps, toPs ds = some ps → DpAll K H vs ps) with
  | non e => intro p h; simp [toP] at h; subst h; exact .non
  | bl e => intro p h; simp [toP] at h; subst h; exact .bl _
  | int e => intro p h; simp [toP] at h; subst h; exact .int _
  | str e => intro p h; simp [toP] at h; subst h; exact .str _
  | ref e => intro p h; simp [toP] at h
  | ty e => intro p h; simp [toP] at h
  | tup h r e ih =>
    intro p q
    simp only [toP, Option.map_eq_some_iff] at q
    obtain ⟨ps, q, rfl⟩ := q
    exact .tup h.sq (ih ps q)
  | key h r e ih =>
    intro p q
    simp only [toP, Option.map_eq_some_iff] at q
    obtain ⟨ps, q, rfl⟩ := q
    exact .tup (SqT.of h) (ih ps q)
  | lst0 h _ r e ih =>
    intro p q
    simp only [toP, Option.map_eq_some_iff] at q
    obtain ⟨ps, q, rfl⟩ := q
    exact .lst (.inl h) (ih ps q)
  | lst1 h r n e ih =>
    intro p q
    simp only [toP, Option.map_eq_some_iff] at q
    obtain ⟨ps, q, rfl⟩ := q
    exact .lst (SqL.of h) (ih ps q)
  | dct0 | dct1 | dcT0 | dcT1 | obj0 | obj1 | exc0 | exc1 => intro p h; simp [toP] at h
  | nil e ps h => simp [toPs] at h; subst h; exact .nil
  | @cons v d vs ds F G R r1 r2 dj u i1 i2 ps h =>
    cases h1 : toP d with
    | none => simp [toPs, h1] at h
    | some p =>
      cases h2 : toPs ds with
      | none => simp [toPs, h1, h2] at h
      | some qs =>
        simp [toPs, h1, h2] at h
        subst h
        exact .cons (i1 _ h1) (i2 _ h2)
end
/-- == of two data; none: it can't be said -/
def eqD (d e : D) : Option Bool := match toP d, toP e with
  | some p, some q => if SeqAt.shaped p && SeqAt.shaped q then some (PyData.eqv p q) else none
  | _, _ => none
def optK (o : Option Bool) (k : D → Prop) : Prop := match o with
  | some b => k (.bl b)
  | none => False
theorem optK_get {o : Option Bool} {k : D → Prop} (h : optK o k) : ∃ b, o = some b ∧ k (.bl b) := by
  cases o with
  | none => exact h.elim
  | some b => exact ⟨b, rfl, h⟩
theorem eqD_get {d e : D} {b : Bool} (h : eqD d e = some b) : ∃ p q, toP d = some p ∧ toP e = some q ∧ SeqAt.shaped p = true ∧ SeqAt.shaped q = true ∧ PyData.eqv p q = b := by
  unfold eqD at h
  split at h
  · rename_i p q hp hq
    split at h
    · rename_i hs
      simp only [Bool.and_eq_true] at hs
      exact ⟨p, q, hp, hq, hs.1, hs.2, Option.some.inj h⟩
    · cases h
  · cases h
def oEq (d e : D) (k : D → Prop) : Prop := optK (eqD d e) k
def oNe (d e : D) (k : D → Prop) : Prop := optK ((eqD d e).map (!·)) k
section
variable {K : PySem.W.Frag}
theorem r2_eq : R2D K (rEqD K) oEq := fun H Y v u d e F G k Q r q h c => by
  obtain ⟨b, hb, h⟩ := optK_get h
  obtain ⟨p, p', hp, hp', s, s', e⟩ := eqD_get hb
  subst e
  exact ⟨p, p', dp_of r p hp, dp_of q p' hp', s, s', r_plain h (fun _ => .bl emF) c⟩
theorem r2_ne : R2D K (rNeD K) oNe := fun H Y v u d e F G k Q r q h c => by
  obtain ⟨b, hb, h⟩ := optK_get h
  cases he : eqD d e with
  | none => rw [he] at hb; cases hb
  | some b' =>
    rw [he] at hb
    obtain rfl : (!b') = b := Option.some.inj hb
    obtain ⟨p, p', hp, hp', s, s', e⟩ := eqD_get he
    subst e
    exact ⟨p, p', dp_of r p hp, dp_of q p' hp', s, s', r_plain h (fun _ => .bl emF) c⟩
/-- two ints -/
def oI (C : Int → Int → Prop) (g : Int → Int → D) (d e : D) (k : D → Prop) : Prop := match d, e with
  | .int i, .int j => C i j ∧ k (g i j)
  | _, _ => False
def oI0 (g : Int → Int → D) (d e : D) (k : D → Prop) : Prop := match d, e with
  | .int i, .int j => k (g i j)
  | _, _ => False
theorem r2_I {C : Int → Int → Prop} {g : Int → Int → V} {g' : Int → Int → D} (hg : ∀ i j H Z, RV K H Z (g i j) (g' i j) (fun _ => False)) : R2D K (rI C g) (oI C g') := fun H Y v u d e F G k Q r q h c => by
  unfold oI at h
  split at h
  · exact ⟨_, _, rv_int r, rv_int q, h.1, r_plain h.2 (hg _ _ H) c⟩
  · exact h.elim
theorem r2_I0 {g : Int → Int → V} {g' : Int → Int → D} (hg : ∀ i j H Z, RV K H Z (g i j) (g' i j) (fun _ => False)) : R2D K (rI0 g) (oI0 g') := fun H Y v u d e F G k Q r q h c => by
  unfold oI0 at h
  split at h
  · exact ⟨_, _, rv_int r, rv_int q, r_plain h (hg _ _ H) c⟩
  · exact h.elim
/-- + -/
def oAdd (d e : D) (k : D → Prop) : Prop := match d, e with
  | .int i, .int j => k (.int (i + j))
  | .str x, .str y => x.length + y.length ≤ sizeLine ∧ k (.str (x ++ y))
  | .tup l, .tup m => l.length + m.length ≤ sizeLine ∧ k (.tup (l ++ m))
  | .lst _ l, .lst _ m => (l.all isFz = true ∧ m.all isFz = true) ∧ l.length + m.length ≤ sizeLine ∧ k (.lst true (l ++ m))
  | _, _ => False
end
section
variable {X : Cx} {K : PySem.W.Frag}
def rCatL : R2 := fun x y H Q => ∃ l b xs zs, x = .ref l ∧ y = .ref b ∧ Rd H l (.lst xs) ∧ Rd H b (.lst zs) ∧ xs.length + zs.length ≤ sizeLine ∧ ∀ p, H p = none → Q (.ref p) (upd H p (.lst (xs ++ zs)))
theorem op_catL : OpR X (binaryOp .Add) rCatL := by
  intro pins s σ H x y v u Q I rx ry h
  obtain ⟨l, b, xs, zs, rfl, rfl, hH, hB, hz, q⟩ := h
  cases rx
  cases ry
  obtain ⟨z, its, n, r, e⟩ := hH.ok I.hok
  obtain ⟨z2, its2, n2, r2, e2⟩ := hB.ok I.hok
  have hl := r.length
  have hl2 := r2.length
  refine PySem.P.add_list e e2 ?_ (by rw [List.size_toArray, List.size_toArray]; omega)
  have ea : its.toArray ++ its2.toArray = (its ++ its2).toArray := by simp
  rw [ea]
  exact ⟨.ref _, _, I.lnew (t' := s.toks) (r.append r2) (by rw [List.length_append]; omega), rfl, q _ (Inv.fresh I)⟩
abbrev rAddAll (K : PySem.W.Frag) : R2 := fun x y H Q => rI0 (fun i j => .int (i + j)) x y H Q ∨ (∃ i j, x = .str i ∧ y = .str j ∧ i.length + j.length ≤ sizeLine ∧ Q (.str (i ++ j)) H) ∨ rCatZ K x y H Q ∨ rCatL x y H Q
theorem op_addAll : OpR X (binaryOp .Add) (rAddAll X.K) := op_add.or (op_add_str.or (op_catZ.or op_catL))
theorem r2_add : R2D K (rAddAll K) oAdd := fun H Y v u d e F G k Q r q h c => by
  unfold oAdd at h
  split at h
  · exact .inl ⟨_, _, rv_int r, rv_int q, r_plain h (fun _ => .int emF) c⟩
  · exact .inr (.inl ⟨_, _, rv_str r, rv_str q, h.1, r_plain h.2 (fun _ => .str emF) c⟩)
  · obtain ⟨a, vs, rfl, ha, ra, ea⟩ := rv_tup r
    obtain ⟨b, ws, rfl, hb, rb, eb⟩ := rv_tup q
    rename_i l m
    have la := rvs_length ra
    have lb := rvs_length rb
    refine .inr (.inr (.inl ⟨a, b, vs, ws, rfl, rfl, ha.sq, hb.sq, by omega, fun z => ?_, fun z z' => ?_, fun _ _ p o hp hd => ?_⟩))
    · have : l = [] := by subst z; exact List.eq_nil_of_length_eq_zero la.symm
      subst this
      exact r_old h.2 (.tup hb rb eb) eb c
    · have : m = [] := by subst z'; exact List.eq_nil_of_length_eq_zero lb.symm
      subst this
      rw [List.append_nil] at h
      exact r_old h.2 (.tup ha ra ea) ea c
    · exact r_tup hp hd h.2 (rvs_append ra rb fun a z _ => ea a z) (fun a z => z.elim (ea a) (eb a)) c
  · obtain ⟨a, vs, G1, rfl, ha, ra, _, _⟩ := rv_lst r
    obtain ⟨b, ws, G2, rfl, hb, rb, _, _⟩ := rv_lst q
    have la := rvs_length ra
    have lb := rvs_length rb
    have ea := rvs_fz ra h.1.1
    have eb := rvs_fz rb h.1.2
    exact .inr (.inr (.inr ⟨a, b, vs, ws, rfl, rfl, ha, hb, by have := h.2.1; omega, fun p hp => r_lst hp h.2.2 (rvs_append ra rb fun a z _ => ea a z) (fun a z => z.elim (ea a) (eb a)) c⟩))
  · exact h.elim
end

section
variable {X : Cx} {a b c : Expr} {Ta Tb Tc : ET} {pos : Pos}
theorem de_op {op : Operator} {r : R2} {f : D → D → (D → Prop) → Prop} (ho : OpR X (binaryOp op) r) (hr : R2D X.K r f) (ha : DE X a Ta) (hb : DV X b Tb) : DE X (.BinOp a op b pos) (dOp2 f Ta Tb) := pe_imp (pe_op ho ha hb) (op2_imp hr)
theorem de_add (ha : DE X a Ta) (hb : DV X b Tb) : DE X (.BinOp a .Add b pos) (dOp2 oAdd Ta Tb) := de_op op_addAll r2_add ha hb
abbrev oSub := oI0 fun i j => .int (i - j)
theorem de_sub (ha : DE X a Ta) (hb : DV X b Tb) : DE X (.BinOp a .Sub b pos) (dOp2 oSub Ta Tb) := de_op op_sub (r2_I0 fun _ _ _ _ => .int emF) ha hb
abbrev oMul := oI CMul fun i j => .int (i * j)
theorem de_mul (ha : DE X a Ta) (hb : DV X b Tb) : DE X (.BinOp a .Mult b pos) (dOp2 oMul Ta Tb) := de_op op_mul (r2_I fun _ _ _ _ => .int emF) ha hb
abbrev oMod := oI (fun _ j => 0 < j) fun i j => .int (i % j)
theorem de_mod (ha : DE X a Ta) (hb : DV X b Tb) : DE X (.BinOp a .Mod b pos) (dOp2 oMod Ta Tb) := de_op op_mod (r2_I fun _ _ _ _ => .int emF) ha hb
abbrev oFdiv := oI CDiv fun i j => .int (i / j)
theorem de_fdiv (ha : DE X a Ta) (hb : DV X b Tb) : DE X (.BinOp a .FloorDiv b pos) (dOp2 oFdiv Ta Tb) := de_op op_fdiv (r2_I fun _ _ _ _ => .int emF) ha hb
abbrev oPow := oI CPow fun i j => .int (i ^ j.toNat)
theorem de_pow (ha : DE X a Ta) (hb : DV X b Tb) : DE X (.BinOp a .Pow b pos) (dOp2 oPow Ta Tb) := de_op op_pow (r2_I fun _ _ _ _ => .int emF) ha hb
/-- -a -/
def oNeg (d : D) (k : D → Prop) : Prop := match d with
  | .int i => k (.int (-i))
  | _ => False
theorem de_neg (ha : DV X a Ta) : DE X (.UnaryOp .USub a pos) (dOp1 oNeg Ta) := pe_imp (pe_un un_neg ha) (op1_imp fun H Y v d F k Q r h c => by
  unfold oNeg at h
  split at h
  · exact ⟨_, rv_int r, r_plain h (fun _ => .int emF) c⟩
  · exact h.elim)

/-! ### comparisons -/
theorem de_cmp {op : CmpOp} {r : R2} {f : D → D → (D → Prop) → Prop} (ho : OpR X (compareOp op) r) (hr : R2D X.K r f) (ha : DE X a Ta) (hb : DV X b Tb) (hm : behindInMarks op b = false) : DE X (.Compare a [op] [b] pos) (dOp2 f Ta Tb) := pe_imp (pe_cmpR ho ha hb hm) (op2_imp hr)
/-- what is a bool -/
def dTest (T : ET) : TTd := fun ρ k => T ρ fun ρ' d => match d with
  | .bl b => k ρ' b
  | _ => False
theorem test_imp {K : PySem.W.Frag} {T : ET} (σ : L2.St) (H : Hp) (Q : Bool → Hp → Prop) (h : tT K (dTest T) σ H Q) : tD K T σ H (fun x H' => ∃ k, x = .bl k ∧ Q k H') := by
  obtain ⟨A, ρ, W, k, s, t, c⟩ := h
  refine ⟨A, ρ, W, _, s, t, fun ρ1 d1 t1 v1 H1 W1 F1 s1 r1 g1 => ?_⟩
  cases d1 with
  | bl b => exact ⟨b, rv_bl r1, c ρ1 b t1 H1 W1 (s1.weak fun a z => .inr z) g1.left⟩
  | _ => exact t1.elim
theorem testV_imp {K : PySem.W.Frag} {T : ET} (σ : L2.St) (H : Hp) (Q : Bool → Hp → Prop) (h : tT K (dTest T) σ H Q) : tV K T σ H (fun x H' => ∃ k, x = .bl k ∧ Q k H') := by
  obtain ⟨A, ρ, W, k, s, t, c⟩ := h
  refine ⟨A, ρ, W, _, s, t, fun ρ1 d1 t1 v1 H1 W1 F1 s1 r1 g1 => ?_⟩
  cases d1 with
  | bl b => exact ⟨b, rv_bl r1, c ρ1 b t1 H1 W1 s1 g1⟩
  | _ => exact t1.elim
/-- a comparison as a test -/
theorem dt_cmp {op : CmpOp} {r : R2} {f : D → D → (D → Prop) → Prop} (ho : OpR X (compareOp op) r) (hr : R2D X.K r f) (ha : DE X a Ta) (hb : DV X b Tb) (hm : behindInMarks op b = false) : DT X (.Compare a [op] [b] pos) (dTest (dOp2 f Ta Tb)) :=
  pt_imp (pt_cmpR ho ha hb hm) fun σ H Q h => op2_imp hr σ H _ (by
    obtain ⟨A, ρ, W, k, s, t, c⟩ := test_imp σ H Q h
    exact ⟨A, ρ, W, k, s, t, c⟩)
/-- another expression as a test -/
theorem dt_val {e : Expr} {T : ET} (h : DV X e T) (he : ∀ whole, isTrue e X.env whole = (do let v ← whole; standAt e.pos; holding [v] (truthy v)) := by intro _; rfl) : DT X e (dTest T) :=
  pt_imp (pt_val h he) fun σ H Q q => testV_imp σ H Q q
abbrev oLt := oI0 fun i j => .bl (decide (i < j))
abbrev oLe := oI0 fun i j => .bl (decide (i ≤ j))
abbrev oGt := oI0 fun i j => .bl (decide (j < i))
abbrev oGe := oI0 fun i j => .bl (decide (j ≤ i))
theorem r_lt {K : PySem.W.Frag} : R2D K (rI0 fun i j => .bl (decide (i < j))) oLt := r2_I0 fun _ _ _ _ => .bl emF
theorem r_le {K : PySem.W.Frag} : R2D K (rI0 fun i j => .bl (decide (i ≤ j))) oLe := r2_I0 fun _ _ _ _ => .bl emF
theorem r_gt {K : PySem.W.Frag} : R2D K (rI0 fun i j => .bl (decide (j < i))) oGt := r2_I0 fun _ _ _ _ => .bl emF
theorem r_ge {K : PySem.W.Frag} : R2D K (rI0 fun i j => .bl (decide (j ≤ i))) oGe := r2_I0 fun _ _ _ _ => .bl emF
/-- is None -/
def isNonD : D → Bool
  | .non => true
  | _ => false
def oIsN (d e : D) (k : D → Prop) : Prop := match e with
  | .non => k (.bl (isNonD d))
  | _ => False
def oNotN (d e : D) (k : D → Prop) : Prop := match e with
  | .non => k (.bl (!isNonD d))
  | _ => False
theorem rv_isN {K : PySem.W.Frag} {H : Hp} {Y F : AS} {v : V} {d : D} (r : RV K H Y v d F) : decide (v = .non) = isNonD d := by
  cases r <;> first | rfl | simp [isNonD]
theorem r_isN {K : PySem.W.Frag} : R2D K (fun x y H Q => y = .non ∧ Q (.bl (decide (x = .non))) H) oIsN := fun H Y v u d e F G k Q r q h c => by
  unfold oIsN at h
  split at h
  · refine ⟨rv_non q, ?_⟩
    rw [rv_isN r]
    exact r_plain h (fun _ => .bl emF) c
  · exact h.elim
theorem r_notN {K : PySem.W.Frag} : R2D K (fun x y H Q => y = .non ∧ Q (.bl (!decide (x = .non))) H) oNotN := fun H Y v u d e F G k Q r q h c => by
  unfold oNotN at h
  split at h
  · refine ⟨rv_non q, ?_⟩
    rw [rv_isN r]
    exact r_plain h (fun _ => .bl emF) c
  · exact h.elim
/-- x is y, of two bools -/
def oIsB (d e : D) (k : D → Prop) : Prop := match d, e with
  | .bl a, .bl b => k (.bl (decide (a = b)))
  | _, _ => False
theorem r_isB {K : PySem.W.Frag} : R2D K (fun x y H Q => ∃ a b, x = .bl a ∧ y = .bl b ∧ Q (.bl (decide (a = b))) H) oIsB := fun H Y v u d e F G k Q r q h c => by
  unfold oIsB at h
  split at h
  · exact ⟨_, _, rv_bl r, rv_bl q, r_plain h (fun _ => .bl emF) c⟩
  · exact h.elim
/-- in, over a list or a tuple of data -/
def inD (d : D) (l : List D) : Option Bool := match toP d, toPs l with
  | some p, some ps => if SeqAt.shaped p && SeqAt.shaped (.list ps) then some (ps.any fun z => PyData.eqv z p) else none
  | _, _ => none
end
end Dl
/-! DL5: in, and, or, not, if-else, displays, subscripts, fields. -/
namespace Dl
open PySem PySem.Spec L2
section
variable {X : Cx} {a b c e : Expr} {es rest : List Expr} {Ta Tb Tc T : ET} {Tl : LT} {t u : TTd} {pos : Pos} {K : PySem.W.Frag}

/-! ### in -/
def seqOf : D → Option (List D)
  | .tup l => some l
  | .lst _ l => some l
  | _ => none
theorem inD_get {d : D} {l : List D} {b : Bool} (h : inD d l = some b) : ∃ p ps, toP d = some p ∧ toPs l = some ps ∧ SeqAt.shaped p = true ∧ SeqAt.shaped (.list ps) = true ∧ (ps.any fun z => PyData.eqv z p) = b := by
  unfold inD at h
  split at h
  · rename_i p q hp hq
    split at h
    · rename_i hs
      simp only [Bool.and_eq_true] at hs
      exact ⟨p, q, hp, hq, hs.1, hs.2, Option.some.inj h⟩
    · cases h
  · cases h
/-- the key that a data is -/
def keyD : D → Option Key
  | .int i => some (.inl i)
  | .str x => some (.inr x)
  | _ => none
def keysD : List D → Option (List Key)
  | [] => some []
  | d :: l => match keyD d, keysD l with
    | some k, some ks => some (k :: ks)
    | _, _ => none
/-- what a dict holds -/
def lookK {κ : Type} [DecidableEq κ] (l : List (κ × D)) (k : κ) : Option D := (l.find? fun p => decide (p.1 = k)).map (·.2)
/-- a dict asked: none: it can't be -/
def getD (d e : D) : Option (Option D) := match d, e with
  | .dct _ l, .int i => some (lookK l (.inl i))
  | .dct _ l, .str x => some (lookK l (.inr x))
  | .dcT _ l, .key ks => (keysD ks).map fun ks => lookK l ks
  | _, _ => none
def inB (d e : D) : Option Bool := match e with
  | .tup l => inD d l
  | .lst _ l => inD d l
  | .dct m l => (getD (.dct m l) d).map (·.isSome)
  | .dcT m l => (getD (.dcT m l) d).map (·.isSome)
  | _ => none
def oIn (d e : D) (k : D → Prop) : Prop := optK (inB d e) k
def oNotIn (d e : D) (k : D → Prop) : Prop := optK ((inB d e).map (!·)) k
end
section
variable {K : PySem.W.Frag} {H : Hp} {Y : AS}
theorem keyD_rv {d : D} {v : V} {F : AS} {k : Key} (r : RV K H Y v d F) (h : keyD d = some k) : v = kV k := by
  cases d <;> simp [keyD] at h <;> subst h
  · exact rv_int r
  · exact rv_str r
theorem keysD_rv {ds : List D} {vs : List V} {F : AS} {ks : List Key} (r : RVs K H Y vs ds F) (h : keysD ds = some ks) : vs = ks.map kV := by
  induction ds generalizing vs F ks with
  | nil => cases r; simp [keysD] at h; subst h; rfl
  | cons d ds ih =>
    cases r with
    | cons r1 r2 _ _ =>
      simp only [keysD] at h
      split at h
      · rename_i k ks' h1 h2
        cases h
        rw [keyD_rv r1 h1, ih r2 h2]
        rfl
      · cases h
theorem look_rv {κ : Type} [DecidableEq κ] {vs : List (κ × V)} {ds : List (κ × D)} {F : AS} (q : vs.map (·.1) = ds.map (·.1)) (r : RVs K H Y (vs.map (·.2)) (ds.map (·.2)) F) (k : κ) :
    (∀ d, lookK ds k = some d → ∃ v G, valV vs k = some v ∧ RV K H Y v d G ∧ ∀ a, G a → F a) ∧ (lookK ds k = none → valV vs k = none) := by
  induction ds generalizing vs F with
  | nil =>
    cases vs with
    | nil => exact ⟨fun d h => by simp [lookK] at h, fun _ => rfl⟩
    | cons v vs => simp at q
  | cons d ds ih =>
    cases vs with
    | nil => simp at q
    | cons v vs =>
      simp only [List.map_cons, List.cons.injEq] at q
      cases r with
      | cons r1 r2 _ u =>
        obtain ⟨k0, v⟩ := v
        obtain ⟨k1, d⟩ := d
        obtain ⟨rfl, q2⟩ := q
        by_cases hk : k0 = k
        · refine ⟨fun d' h => ?_, fun h => ?_⟩
          · simp [lookK, hk] at h
            subst h
            exact ⟨v, _, by simp [valV, hk], r1, fun a z => (u a).mpr (.inl z)⟩
          · simp [lookK, hk] at h
        · have e1 : lookK ((k0, d) :: ds) k = lookK ds k := by simp [lookK, hk]
          have e2 : valV ((k0, v) :: vs) k = valV vs k := by simp [valV, hk]
          rw [e1, e2]
          obtain ⟨i1, i2⟩ := ih q2 r2
          exact ⟨fun d' h => let ⟨v', G, h1, h2, h3⟩ := i1 d' h; ⟨v', G, h1, h2, fun a z => (u a).mpr (.inr (h3 a z))⟩, i2⟩
theorem rv_dct {m : Bool} {l : List (Key × D)} {v : V} {F : AS} (r : RV K H Y v (.dct m l) F) : ∃ a vs G, v = .ref a ∧ H a = some (.dK vs) ∧ vs.map (·.1) = l.map (·.1) ∧ RVs K H Y (vs.map (·.2)) (l.map (·.2)) G ∧ (∀ b, G b → F b) ∧ (m = false → Emp G) := by
  cases r with
  | dct0 h n q r e => exact ⟨_, _, _, rfl, h, q, r, fun _ z => z, fun _ => e⟩
  | dct1 h q r n e => exact ⟨_, _, _, rfl, h, q, r, fun b z => (e b).mpr (.inr z), fun z => by cases z⟩
theorem rv_dcT {m : Bool} {l : List (List Key × D)} {v : V} {F : AS} (r : RV K H Y v (.dcT m l) F) : ∃ a vs G, v = .ref a ∧ H a = some (.dT vs) ∧ vs.map (·.1) = l.map (·.1) ∧ RVs K H Y (vs.map (·.2)) (l.map (·.2)) G ∧ (∀ b, G b → F b) ∧ (m = false → Emp G) := by
  cases r with
  | dcT0 h n q r e => exact ⟨_, _, _, rfl, h, q, r, fun _ z => z, fun _ => e⟩
  | dcT1 h q r n e => exact ⟨_, _, _, rfl, h, q, r, fun b z => (e b).mpr (.inr z), fun z => by cases z⟩
/-- a dict asked -/
theorem getD_rv {d e : D} {v u : V} {F G : AS} {o : Option D} (r : RV K H Y v d F) (q : RV K H Y u e G) (h : getD d e = some o) :
    ∃ a o', v = .ref a ∧ DGet H a u o' ∧ (∀ d', o = some d' → ∃ v' G', o' = some v' ∧ RV K H Y v' d' G' ∧ ∀ b, G' b → F b) ∧ (o = none → o' = none) := by
  unfold getD at h
  split at h
  · rename_i i
    cases h
    obtain ⟨a, vs, G1, rfl, ha, q1, r1, sub, _⟩ := rv_dct r
    obtain ⟨i1, i2⟩ := look_rv q1 r1 (Sum.inl i)
    exact ⟨a, _, rfl, .inl ⟨vs, .inl i, .inl ha, rv_int q, rfl⟩, fun d' e => let ⟨v', G', a1, a2, a3⟩ := i1 d' e; ⟨v', G', a1, a2, fun b z => sub b (a3 b z)⟩, i2⟩
  · rename_i i
    cases h
    obtain ⟨a, vs, G1, rfl, ha, q1, r1, sub, _⟩ := rv_dct r
    obtain ⟨i1, i2⟩ := look_rv q1 r1 (Sum.inr i)
    exact ⟨a, _, rfl, .inl ⟨vs, .inr i, .inl ha, rv_str q, rfl⟩, fun d' e => let ⟨v', G', a1, a2, a3⟩ := i1 d' e; ⟨v', G', a1, a2, fun b z => sub b (a3 b z)⟩, i2⟩
  · obtain ⟨ks, hk, rfl⟩ := Option.map_eq_some_iff.mp h
    obtain ⟨a, vs, G1, rfl, ha, q1, r1, sub, _⟩ := rv_dcT r
    obtain ⟨b, ws, rfl, hb, rb, _⟩ := rv_key q
    obtain ⟨i1, i2⟩ := look_rv q1 r1 ks
    exact ⟨a, _, rfl, .inr ⟨vs, ks, b, .inl ha, rfl, by rw [hb, keysD_rv rb hk], rfl⟩, fun d' e => let ⟨v', G', a1, a2, a3⟩ := i1 d' e; ⟨v', G', a1, a2, fun b z => sub b (a3 b z)⟩, i2⟩
  · cases h
end
section
variable {X : Cx} {K : PySem.W.Frag}
def rInT (K : PySem.W.Frag) : R2 := fun x y H Q => ∃ d ds, Dp K H x d ∧ Dp K H y (.tuple ds) ∧ SeqAt.shaped d = true ∧ SeqAt.shaped (.list ds) = true ∧ Q (.bl (ds.any fun z => PyData.eqv z d)) H
def rNotInT (K : PySem.W.Frag) : R2 := fun x y H Q => ∃ d ds, Dp K H x d ∧ Dp K H y (.tuple ds) ∧ SeqAt.shaped d = true ∧ SeqAt.shaped (.list ds) = true ∧ Q (.bl (!ds.any fun z => PyData.eqv z d)) H
theorem shaped_lt {ds : List PyData} (h : SeqAt.shaped (.list ds) = true) : PyData.canLayAll0 ds = true := by simpa [PyData.canLay0] using SeqAt.canLay_of_shaped h
theorem room_sh {A : Around} {xs : List PyData} {d : PyData} (hd : SeqAt.shaped d = true) (hu : A.units + 65 < cLine) : A.units + 1 + min (PyData.depthAll xs) d.depth < cLine := by
  have h1 := SeqAt.depth_of_shaped hd
  have h2 : min (PyData.depthAll xs) d.depth ≤ d.depth := Nat.min_le_right _ _
  omega
theorem op_inT (hu : X.A.units + 65 < cLine) : OpR X (compareOp .In) (rInT X.K) := by
  intro pins s σ H x y v u Q I rx ry h
  obtain ⟨d, ds, hd, he, sd, se, q⟩ := h
  obtain ⟨as, r1⟩ := Dp.reads I d x v hd rx
  obtain ⟨bs, r2⟩ := Dp.reads I (.tuple ds) y u he ry
  exact SeqAt.in_tuple_reads r2 r1 (shaped_lt se) (SeqAt.canLay_of_shaped sd) (room_sh sd hu) ⟨.bl _, H, I, rfl, q⟩
theorem op_notInT (hu : X.A.units + 65 < cLine) : OpR X (compareOp .NotIn) (rNotInT X.K) := by
  intro pins s σ H x y v u Q I rx ry h
  obtain ⟨d, ds, hd, he, sd, se, q⟩ := h
  obtain ⟨as, r1⟩ := Dp.reads I d x v hd rx
  obtain ⟨bs, r2⟩ := Dp.reads I (.tuple ds) y u he ry
  exact SeqAt.notIn_tuple_reads r2 r1 (shaped_lt se) (SeqAt.canLay_of_shaped sd) (room_sh sd hu) ⟨.bl _, H, I, rfl, q⟩
def rInDc : R2 := fun y x H Q => ∃ a o, x = .ref a ∧ DGet H a y o ∧ Q (.bl o.isSome) H
def rNotInDc : R2 := fun y x H Q => ∃ a o, x = .ref a ∧ DGet H a y o ∧ Q (.bl (!o.isSome)) H
theorem op_inDc (hu : X.A.units + 1 < cLine) : OpR X (compareOp .In) rInDc := by
  intro pins s σ H y x v u Q I ry rx h
  obtain ⟨a, ov, rfl, g, q2⟩ := h
  obtain rfl : u = Value.ref a := rx
  exact d_in hu I g ry fun s3 I3 => ⟨.bl ov.isSome, H, I3, rfl, q2⟩
theorem op_notInDc (hu : X.A.units + 1 < cLine) : OpR X (compareOp .NotIn) rNotInDc := by
  intro pins s σ H y x v u Q I ry rx h
  obtain ⟨a, ov, rfl, g, q2⟩ := h
  obtain rfl : u = Value.ref a := rx
  exact d_notIn hu I g ry fun s3 I3 => ⟨.bl (!ov.isSome), H, I3, rfl, q2⟩
abbrev rInAll (K : PySem.W.Frag) : R2 := fun x y H Q => rInD K x y H Q ∨ rInT K x y H Q ∨ rInDc x y H Q
abbrev rNotInAll (K : PySem.W.Frag) : R2 := fun x y H Q => rNotInD K x y H Q ∨ rNotInT K x y H Q ∨ rNotInDc x y H Q
theorem op_inAll (hu : X.A.units + 65 < cLine) : OpR X (compareOp .In) (rInAll X.K) := (op_inD hu).or ((op_inT hu).or (op_inDc (by omega)))
theorem op_notInAll (hu : X.A.units + 65 < cLine) : OpR X (compareOp .NotIn) (rNotInAll X.K) := (op_notInD hu).or ((op_notInT hu).or (op_notInDc (by omega)))
theorem isSome_of {o : Option D} {o' : Option V} {α : Type} (h1 : ∀ d', o = some d' → ∃ v', o' = some v' ∧ α = α) (h2 : o = none → o' = none) : o'.isSome = o.isSome := by
  cases o with
  | none => rw [h2 rfl]; rfl
  | some d => obtain ⟨v, e, _⟩ := h1 d rfl; rw [e]; rfl
theorem r2_in : R2D K (rInAll K) oIn := fun H Y v u d e F G k Q r q h c => by
  obtain ⟨b, hb, h⟩ := optK_get h
  unfold inB at hb
  split at hb
  · obtain ⟨p, ps, h1, h2, h3, h4, rfl⟩ := inD_get hb
    exact .inr (.inl ⟨p, ps, dp_of r p h1, dp_of q (.tuple ps) (by simp [toP, h2]), h3, h4, r_plain h (fun _ => .bl emF) c⟩)
  · obtain ⟨p, ps, h1, h2, h3, h4, rfl⟩ := inD_get hb
    exact .inl ⟨p, ps, dp_of r p h1, dp_of q (.list ps) (by simp [toP, h2]), h3, h4, r_plain h (fun _ => .bl emF) c⟩
  · obtain ⟨o, h1, rfl⟩ := Option.map_eq_some_iff.mp hb
    obtain ⟨a, o', rfl, g, i1, i2⟩ := getD_rv q r h1
    refine .inr (.inr ⟨a, o', rfl, g, ?_⟩)
    rw [isSome_of (α := Nat) (fun d' z => let ⟨v', _, y, _⟩ := i1 d' z; ⟨v', y, rfl⟩) i2]
    exact r_plain h (fun _ => .bl emF) c
  · obtain ⟨o, h1, rfl⟩ := Option.map_eq_some_iff.mp hb
    obtain ⟨a, o', rfl, g, i1, i2⟩ := getD_rv q r h1
    refine .inr (.inr ⟨a, o', rfl, g, ?_⟩)
    rw [isSome_of (α := Nat) (fun d' z => let ⟨v', _, y, _⟩ := i1 d' z; ⟨v', y, rfl⟩) i2]
    exact r_plain h (fun _ => .bl emF) c
  · cases hb
theorem r2_notIn : R2D K (rNotInAll K) oNotIn := fun H Y v u d e F G k Q r q h c => by
  obtain ⟨b', hb', h⟩ := optK_get h
  obtain ⟨b, hb, rfl⟩ := Option.map_eq_some_iff.mp hb'
  unfold inB at hb
  split at hb
  · obtain ⟨p, ps, h1, h2, h3, h4, rfl⟩ := inD_get hb
    exact .inr (.inl ⟨p, ps, dp_of r p h1, dp_of q (.tuple ps) (by simp [toP, h2]), h3, h4, r_plain h (fun _ => .bl emF) c⟩)
  · obtain ⟨p, ps, h1, h2, h3, h4, rfl⟩ := inD_get hb
    exact .inl ⟨p, ps, dp_of r p h1, dp_of q (.list ps) (by simp [toP, h2]), h3, h4, r_plain h (fun _ => .bl emF) c⟩
  · obtain ⟨o, h1, rfl⟩ := Option.map_eq_some_iff.mp hb
    obtain ⟨a, o', rfl, g, i1, i2⟩ := getD_rv q r h1
    refine .inr (.inr ⟨a, o', rfl, g, ?_⟩)
    rw [isSome_of (α := Nat) (fun d' z => let ⟨v', _, y, _⟩ := i1 d' z; ⟨v', y, rfl⟩) i2]
    exact r_plain h (fun _ => .bl emF) c
  · obtain ⟨o, h1, rfl⟩ := Option.map_eq_some_iff.mp hb
    obtain ⟨a, o', rfl, g, i1, i2⟩ := getD_rv q r h1
    refine .inr (.inr ⟨a, o', rfl, g, ?_⟩)
    rw [isSome_of (α := Nat) (fun d' z => let ⟨v', _, y, _⟩ := i1 d' z; ⟨v', y, rfl⟩) i2]
    exact r_plain h (fun _ => .bl emF) c
  · cases hb
end

/-! ### and, or, not, if-else -/
section
variable {X : Cx} {a b c e : Expr} {es rest : List Expr} {Ta Tb Tc T : ET} {Tl : LT} {t u : TTd} {pos : Pos} {K : PySem.W.Frag}
def dAnd (t u : TTd) : TTd := fun ρ k => t ρ fun ρ1 b => match b with
  | true => u ρ1 k
  | false => k ρ1 false
def dOr (t u : TTd) : TTd := fun ρ k => t ρ fun ρ1 b => match b with
  | true => k ρ1 true
  | false => u ρ1 k
def dNot (t : TTd) : TTd := fun ρ k => t ρ fun ρ1 b => k ρ1 (!b)
theorem DW.pt (h : DW X e t) : DT X e t := PW.pt h
theorem dw_and1 (ha : DT X a t) : DW X (.BoolOp .And [a] pos) t := pw_and1 ha
theorem dw_or1 (ha : DT X a t) : DW X (.BoolOp .Or [a] pos) t := pw_or1 ha
theorem dw_and (ha : DT X a t) (hb : DW X (.BoolOp .And (b :: rest) pos) u) : DW X (.BoolOp .And (a :: b :: rest) pos) (dAnd t u) := pw_imp (pw_and ha hb) fun σ H Q ⟨A, ρ, W, k, s, q, c⟩ => by
  refine ⟨A, ρ, W, _, s, q, fun ρ1 b1 q1 H1 W1 s1 g1 => ?_⟩
  cases b1 with
  | true => rw [if_pos rfl]; exact ⟨A, ρ1, W1, k, s1, q1, fun ρ2 d2 q2 H2 W2 s2 g2 => c ρ2 d2 q2 H2 W2 s2 (g1.trans g2)⟩
  | false => rw [if_neg Bool.false_ne_true]; exact c ρ1 false q1 H1 W1 s1 g1
theorem dw_or (ha : DT X a t) (hb : DW X (.BoolOp .Or (b :: rest) pos) u) : DW X (.BoolOp .Or (a :: b :: rest) pos) (dOr t u) := pw_imp (pw_or ha hb) fun σ H Q ⟨A, ρ, W, k, s, q, c⟩ => by
  refine ⟨A, ρ, W, _, s, q, fun ρ1 b1 q1 H1 W1 s1 g1 => ?_⟩
  cases b1 with
  | false => rw [if_neg Bool.false_ne_true]; exact ⟨A, ρ1, W1, k, s1, q1, fun ρ2 d2 q2 H2 W2 s2 g2 => c ρ2 d2 q2 H2 W2 s2 (g1.trans g2)⟩
  | true => rw [if_pos rfl]; exact c ρ1 true q1 H1 W1 s1 g1
theorem dt_not (ha : DT X a t) : DT X (.UnaryOp .Not a pos) (dNot t) := pt_imp (pt_not ha) fun σ H Q ⟨A, ρ, W, k, s, q, c⟩ =>
  ⟨A, ρ, W, _, s, q, fun ρ1 b1 q1 H1 W1 s1 g1 => c ρ1 _ q1 H1 W1 s1 g1⟩
/-- .. as values -/
def dIfB (T : ET) (f : DEnv → Bool → (DEnv → D → Prop) → Prop) : ET := fun ρ k => T ρ fun ρ1 d => match d with
  | .bl b => f ρ1 b k
  | _ => False
def dAndV (Ta Tb : ET) : ET := fun ρ k => Ta ρ fun ρ1 d => match d with
  | .bl true => Tb ρ1 k
  | .bl false => k ρ1 (.bl false)
  | _ => False
def dOrV (Ta Tb : ET) : ET := fun ρ k => Ta ρ fun ρ1 d => match d with
  | .bl false => Tb ρ1 k
  | .bl true => k ρ1 (.bl true)
  | _ => False
def dNotV (Ta : ET) : ET := fun ρ k => Ta ρ fun ρ1 d => match d with
  | .bl b => k ρ1 (.bl (!b))
  | _ => False
theorem go_or {W W1 F W2 : AS} {H H1 H2 : Hp} (g1 : Go W W1 H H1) (g2 : Go W1 (Or2 W2 F) H1 H2) : Go W (Or2 W2 F) H H2 := g1.trans g2
theorem de_one {op : BoolOp} (h : DE X a T) : DE X (.BoolOp op [a] pos) T := pe_one h
theorem de_and (ha : DV X a Ta) (hb : DE X (.BoolOp .And (b :: rest) pos) Tb) : DE X (.BoolOp .And (a :: b :: rest) pos) (dAndV Ta Tb) := pe_imp (pe_and ha hb) fun σ H Q ⟨A, ρ, W, k, s, q, c⟩ => by
  refine ⟨A, ρ, W, _, s, q, fun ρ1 d1 q1 v1 H1 W1 F1 s1 r1 g1 => ?_⟩
  cases d1 with
  | bl b =>
    refine ⟨b, rv_bl r1, ?_⟩
    cases b with
    | true => rw [if_pos rfl]; exact ⟨A, ρ1, W1, k, s1, q1, fun ρ2 d2 q2 v2 H2 W2 F2 s2 r2 g2 => c ρ2 d2 q2 v2 H2 W2 F2 s2 r2 (g1.trans g2)⟩
    | false => rw [if_neg Bool.false_ne_true]; exact c ρ1 _ q1 _ H1 W1 (fun _ => False) (s1.weak fun a y => y.elim False.elim id) (.bl emF) (g1.orEmp emF)
  | _ => exact q1.elim
theorem de_or (ha : DV X a Ta) (hb : DE X (.BoolOp .Or (b :: rest) pos) Tb) : DE X (.BoolOp .Or (a :: b :: rest) pos) (dOrV Ta Tb) := pe_imp (pe_or ha hb) fun σ H Q ⟨A, ρ, W, k, s, q, c⟩ => by
  refine ⟨A, ρ, W, _, s, q, fun ρ1 d1 q1 v1 H1 W1 F1 s1 r1 g1 => ?_⟩
  cases d1 with
  | bl b =>
    refine ⟨b, rv_bl r1, ?_⟩
    cases b with
    | false => rw [if_neg Bool.false_ne_true]; exact ⟨A, ρ1, W1, k, s1, q1, fun ρ2 d2 q2 v2 H2 W2 F2 s2 r2 g2 => c ρ2 d2 q2 v2 H2 W2 F2 s2 r2 (g1.trans g2)⟩
    | true => rw [if_pos rfl]; exact c ρ1 _ q1 _ H1 W1 (fun _ => False) (s1.weak fun a y => y.elim False.elim id) (.bl emF) (g1.orEmp emF)
  | _ => exact q1.elim
theorem de_not (ha : DV X a Ta) : DE X (.UnaryOp .Not a pos) (dNotV Ta) := pe_imp (pe_not ha) fun σ H Q ⟨A, ρ, W, k, s, q, c⟩ => by
  refine ⟨A, ρ, W, _, s, q, fun ρ1 d1 q1 v1 H1 W1 F1 s1 r1 g1 => ?_⟩
  cases d1 with
  | bl b => exact ⟨b, rv_bl r1, c ρ1 _ q1 _ H1 W1 (fun _ => False) (s1.weak fun a y => y.elim False.elim id) (.bl emF) (g1.orEmp emF)⟩
  | _ => exact q1.elim
def dIf (t : TTd) (Ta Tb : ET) : ET := fun ρ k => t ρ fun ρ1 b => match b with
  | true => Ta ρ1 k
  | false => Tb ρ1 k
theorem de_ifExp (hc : DT X c t) (ha : DE X a Ta) (hb : DE X b Tb) : DE X (.IfExp c a b pos) (dIf t Ta Tb) := pe_imp (pe_ifExp hc ha hb) fun σ H Q ⟨A, ρ, W, k, s, q, c⟩ => by
  refine ⟨A, ρ, W, _, s, q, fun ρ1 b1 q1 H1 W1 s1 g1 => ?_⟩
  cases b1 with
  | true => rw [if_pos rfl]; exact ⟨A, ρ1, W1, k, s1, q1, fun ρ2 d2 q2 v2 H2 W2 F2 s2 r2 g2 => c ρ2 d2 q2 v2 H2 W2 F2 s2 r2 (g1.trans g2)⟩
  | false => rw [if_neg Bool.false_ne_true]; exact ⟨A, ρ1, W1, k, s1, q1, fun ρ2 d2 q2 v2 H2 W2 F2 s2 r2 g2 => c ρ2 d2 q2 v2 H2 W2 F2 s2 r2 (g1.trans g2)⟩
end
end Dl
/-! DL6: quiet expressions: nothing that stood is written; DQ: the result may be a part of the environment; DN: what is owned of it is new. -/
namespace Dl
open PySem PySem.Spec L2

def tQ (K : PySem.W.Frag) (T : ET) : TE := fun σ H Q => ∃ (A : AS) (ρ : DEnv) (W : AS) (k : DEnv → D → Prop), Std K A H σ ρ W ∧ T ρ k ∧
  ∀ d, k ρ d → ∀ (v : V) (H' : Hp) (F : AS), Ext H H' → RV K H' (Or2 W A) v d F → Q v H'
def tN (K : PySem.W.Frag) (T : ET) : TE := fun σ H Q => ∃ (A : AS) (ρ : DEnv) (W : AS) (k : DEnv → D → Prop), Std K A H σ ρ W ∧ T ρ k ∧
  ∀ d, k ρ d → ∀ (v : V) (H' : Hp) (F : AS), Ext H H' → (∀ a, F a → H a = none) → RV K H' (Or2 F (Or2 W A)) v d F → Q v H'
def tTN (K : PySem.W.Frag) (T : TTd) : TT := fun σ H Q => ∃ (A : AS) (ρ : DEnv) (W : AS) (k : DEnv → Bool → Prop), Std K A H σ ρ W ∧ T ρ k ∧
  ∀ b, k ρ b → ∀ (H' : Hp), Ext H H' → Q b H'
def tLQ (K : PySem.W.Frag) (T : LT) : TA := fun σ H Q => ∃ (A : AS) (ρ : DEnv) (W : AS) (k : DEnv → List D → Prop), Std K A H σ ρ W ∧ T ρ k ∧
  ∀ ds, k ρ ds → ∀ (vs : List V) (H' : Hp), Ext H H' → RVv K H' (Or2 W A) vs ds → Q vs H'

def DQ (X : Cx) (e : Expr) (T : ET) : Prop := PE X e (tQ X.K T)
def DN (X : Cx) (e : Expr) (T : ET) : Prop := PE X e (tN X.K T)
def DTN (X : Cx) (e : Expr) (T : TTd) : Prop := PT X e (tTN X.K T)
def DWN (X : Cx) (e : Expr) (T : TTd) : Prop := PW X e (tTN X.K T)
def DLQ (X : Cx) (es : List Expr) (T : LT) : Prop := PA X es (tLQ X.K T)

section
variable {X : Cx} {a b c e : Expr} {es rest : List Expr} {Ta Tb Tc T : ET} {Tl : LT} {t u : TTd} {pos : Pos} {K : PySem.W.Frag} {H H' H2 : Hp} {A W F Y Y' : AS}
theorem ext_trans {H1 : Hp} (a : Ext H H1) (b : Ext H1 H') : Ext H H' := fun x o h => b x o (a x o h)
theorem RVv.ext {vs : List V} {ds : List D} (r : RVv K H Y vs ds) (e : Ext H H') (hx : ∀ a, Y' a → Y a ∨ H a = none) : RVv K H' Y' vs ds := by
  induction r with
  | nil => exact .nil
  | cons r _ ih => exact .cons (r.ext e hx) ih
theorem DN.dq (h : DN X e T) : DQ X e T := pe_imp h fun σ H Q ⟨A, ρ, W, k, s, t, c⟩ => ⟨A, ρ, W, k, s, t, fun d q v H' F x n r => c d q v H' F x (r.weak fun a z => .inr z)⟩
theorem DN.de (h : DN X e T) : DE X e T := pe_imp h fun σ H Q ⟨A, ρ, W, k, s, t, c⟩ => ⟨A, ρ, W, k, s, t, fun d q v H' F x n r =>
  c ρ d q v H' W F (s.grow x n r.there) (r.weak fun a z => z.elim (fun z => .inr (.inl z)) fun z => z.elim .inl fun z => .inr (.inr z)) ((Go.ext W x).orNew n)⟩
theorem DQ.dv (h : DQ X e T) : DV X e T := pe_imp h fun σ H Q ⟨A, ρ, W, k, s, t, c⟩ => ⟨A, ρ, W, k, s, t, fun d q v H' F x r => c ρ d q v H' W F (s.ext x) r (Go.ext W x)⟩
/-- what is not owned at its top is new for nothing -/
theorem DQ.dn (h : DQ X e T) : DN X e (dFz T) := pe_imp h fun σ H Q ⟨A, ρ, W, k, s, t, c⟩ => ⟨A, ρ, W, _, s, t, fun d q v H' F x r => by
  cases z : isFz d with
  | false => rw [z] at q; exact q.elim
  | true =>
    rw [z] at q
    exact c d q v H' (fun _ => False) x (fun _ z => z.elim) ((rv_emp r (rv_fz r z)).weak fun a z => z.elim False.elim id)⟩
theorem DTN.dt (h : DTN X e t) : DT X e t := pt_imp h fun σ H Q ⟨A, ρ, W, k, s, q, c⟩ => ⟨A, ρ, W, k, s, q, fun b q H' x => c ρ b q H' W (s.ext x) (Go.ext W x)⟩

theorem dq_name {i : Nat} (h : PE X e (tVar i)) : DQ X e (dNameV i) := pe_imp h fun σ H Q ⟨A, ρ, W, k, s, t, c⟩ => by
  obtain ⟨d, hd, t⟩ := nameV_get t
  obtain ⟨v, Fi, hv, r, sub⟩ := s.re.get hd
  exact ⟨v, hv, c d t v H Fi (fun _ _ z => z) r⟩
theorem dn_c {v : V} {d : D} (h : PE X e (tC v)) (r : ∀ (H : Hp) (Y : AS), RV X.K H Y v d (fun _ => False)) : DN X e (dC d) := pe_imp h fun σ H Q ⟨A, ρ, W, k, s, t, c⟩ =>
  c d t v H (fun _ => False) (fun _ _ z => z) (fun _ z => z.elim) (r H _)
theorem dn_int {i j} : DN X (.Constant (.int i) j pos) (dC (.int i)) := dn_c pe_int fun _ _ => .int emF
theorem dn_bl {i j} : DN X (.Constant (.bool i) j pos) (dC (.bl i)) := dn_c pe_bl fun _ _ => .bl emF
theorem dn_non {j} : DN X (.Constant .none j pos) (dC .non) := dn_c pe_non fun _ _ => .non emF
theorem dn_str {x j} : DN X (.Constant (.str x) j pos) (dC (.str x)) := dn_c pe_str fun _ _ => .str emF
theorem dn_gint {x : Str} {i : Int} {w : Value} (hg : Gl X x) (hm : X.mg x = some w) (r : RelV (.int i) w) (hd : (x == ("__debug__" : Str)) = false := by decide) : DN X (.Name x pos) (dC (.int i)) := dn_c (pe_glob hg hm r hd) fun _ _ => .int emF
theorem dn_gstr {x y : Str} {w : Value} (hg : Gl X x) (hm : X.mg x = some w) (r : RelV (.str y) w) (hd : (x == ("__debug__" : Str)) = false := by decide) : DN X (.Name x pos) (dC (.str y)) := dn_c (pe_glob hg hm r hd) fun _ _ => .str emF

theorem op1_q {r : V → Hp → VK → Prop} {f : D → (D → Prop) → Prop} (hr : R1D K r f) (σ : L2.St) (H : Hp) (Q : VK) (h : tN K (dOp1 f Ta) σ H Q) : tQ K Ta σ H (fun x H1 => r x H1 Q) := by
  obtain ⟨A, ρ, W, k, s, t, c⟩ := h
  exact ⟨A, ρ, W, _, s, t, fun d1 t1 v1 H1 F1 x1 r1 => hr H1 _ v1 d1 F1 (k ρ) Q r1 t1 fun d2 v2 H2 F2 kd x2 n2 r2 => c d2 kd v2 H2 F2 (ext_trans x1 x2) (fun a z => by
    cases e : H a with
    | none => rfl
    | some o => exact absurd (n2 a z) (by rw [x1 a o e]; exact fun z => nomatch z)) r2⟩
theorem new_back {H1 : Hp} (x1 : Ext H H1) (n2 : ∀ a, F a → H1 a = none) : ∀ a, F a → H a = none := fun a z => by
  cases e : H a with
  | none => rfl
  | some o => exact absurd (n2 a z) (by rw [x1 a o e]; exact fun z => nomatch z)
theorem op2_q {r : R2} {f : D → D → (D → Prop) → Prop} (hr : R2D K r f) (σ : L2.St) (H : Hp) (Q : VK) (h : tN K (dOp2 f Ta Tb) σ H Q) : tOp r (tQ K Ta) (tQ K Tb) σ H Q := by
  obtain ⟨A, ρ, W, k, s, t, c⟩ := h
  exact ⟨A, ρ, W, _, s, t, fun d1 t1 v1 H1 F1 x1 r1 => ⟨A, ρ, W, _, s.ext x1, t1, fun d2 t2 v2 H2 F2 x2 r2 =>
    hr H2 _ v1 v2 d1 d2 F1 F2 (k ρ) Q (r1.ext x2 fun a z => .inl z) r2 t2 fun d3 v3 H3 F3 kd x3 n3 r3 => c d3 kd v3 H3 F3 (ext_trans (ext_trans x1 x2) x3) (new_back (ext_trans x1 x2) n3) r3⟩⟩
theorem opL_q {r : List V → Hp → VK → Prop} {f : List D → (D → Prop) → Prop} (hr : RLD K r f) (σ : L2.St) (H : Hp) (Q : VK) (h : tN K (dOpL f Tl) σ H Q) : tLQ K Tl σ H (fun x H1 => r x H1 Q) := by
  obtain ⟨A, ρ, W, k, s, t, c⟩ := h
  exact ⟨A, ρ, W, _, s, t, fun d1 t1 v1 H1 x1 r1 => hr H1 _ v1 d1 (k ρ) Q r1 t1 fun d2 v2 H2 F2 kd x2 n2 r2 => c d2 kd v2 H2 F2 (ext_trans x1 x2) (new_back x1 n2) r2⟩
theorem dlq_nil : DLQ X [] dNil := pa_imp pa_nil fun σ H Q ⟨A, ρ, W, k, s, t, c⟩ => c [] t [] H (fun _ _ z => z) .nil
theorem dlq_cons (ha : DQ X e Ta) (hr : DLQ X es Tl) (hs : starEach (e :: es) X.env = (false, eval e X.env) :: starEach es X.env := by rfl) : DLQ X (e :: es) (dCons Ta Tl) := pa_imp (pa_cons ha hr hs) fun σ H Q ⟨A, ρ, W, k, s, t, c⟩ =>
  ⟨A, ρ, W, _, s, t, fun d1 t1 v1 H1 F1 x1 r1 => ⟨A, ρ, W, _, s.ext x1, t1, fun ds t2 vs H2 x2 r2 => c (d1 :: ds) t2 (v1 :: vs) H2 (ext_trans x1 x2) (.cons (r1.ext x2 fun a z => .inl z) r2)⟩⟩

/-! ### operators -/
theorem dn_op {op : Operator} {r : R2} {f : D → D → (D → Prop) → Prop} (ho : OpR X (binaryOp op) r) (hr : R2D X.K r f) (ha : DQ X a Ta) (hb : DQ X b Tb) : DN X (.BinOp a op b pos) (dOp2 f Ta Tb) := pe_imp (pe_op ho ha hb) (op2_q hr)
theorem dn_add (ha : DQ X a Ta) (hb : DQ X b Tb) : DN X (.BinOp a .Add b pos) (dOp2 oAdd Ta Tb) := dn_op op_addAll r2_add ha hb
theorem dn_sub (ha : DQ X a Ta) (hb : DQ X b Tb) : DN X (.BinOp a .Sub b pos) (dOp2 oSub Ta Tb) := dn_op op_sub (r2_I0 fun _ _ _ _ => .int emF) ha hb
theorem dn_mul (ha : DQ X a Ta) (hb : DQ X b Tb) : DN X (.BinOp a .Mult b pos) (dOp2 oMul Ta Tb) := dn_op op_mul (r2_I fun _ _ _ _ => .int emF) ha hb
theorem dn_mod (ha : DQ X a Ta) (hb : DQ X b Tb) : DN X (.BinOp a .Mod b pos) (dOp2 oMod Ta Tb) := dn_op op_mod (r2_I fun _ _ _ _ => .int emF) ha hb
theorem dn_fdiv (ha : DQ X a Ta) (hb : DQ X b Tb) : DN X (.BinOp a .FloorDiv b pos) (dOp2 oFdiv Ta Tb) := dn_op op_fdiv (r2_I fun _ _ _ _ => .int emF) ha hb
theorem dn_pow (ha : DQ X a Ta) (hb : DQ X b Tb) : DN X (.BinOp a .Pow b pos) (dOp2 oPow Ta Tb) := dn_op op_pow (r2_I fun _ _ _ _ => .int emF) ha hb
theorem dn_neg (ha : DQ X a Ta) : DN X (.UnaryOp .USub a pos) (dOp1 oNeg Ta) := pe_imp (pe_un un_neg ha) (op1_q fun H Y v d F k Q r h c => by
  unfold oNeg at h
  split at h
  · exact ⟨_, rv_int r, r_plain h (fun _ => .int emF) c⟩
  · exact h.elim)
theorem dn_cmp {op : CmpOp} {r : R2} {f : D → D → (D → Prop) → Prop} (ho : OpR X (compareOp op) r) (hr : R2D X.K r f) (ha : DQ X a Ta) (hb : DQ X b Tb) (hm : behindInMarks op b = false) : DN X (.Compare a [op] [b] pos) (dOp2 f Ta Tb) := pe_imp (pe_cmpR ho ha hb hm) (op2_q hr)

/-! ### tests -/
theorem testN_imp {T : ET} (σ : L2.St) (H : Hp) (Q : Bool → Hp → Prop) (h : tTN K (dTest T) σ H Q) : tN K T σ H (fun x H' => ∃ k, x = .bl k ∧ Q k H') := by
  obtain ⟨A, ρ, W, k, s, t, c⟩ := h
  refine ⟨A, ρ, W, _, s, t, fun d1 t1 v1 H1 F1 x1 n1 r1 => ?_⟩
  cases d1 with
  | bl b => exact ⟨b, rv_bl r1, c b t1 H1 x1⟩
  | _ => exact t1.elim
theorem testQ_imp {T : ET} (σ : L2.St) (H : Hp) (Q : Bool → Hp → Prop) (h : tTN K (dTest T) σ H Q) : tQ K T σ H (fun x H' => ∃ k, x = .bl k ∧ Q k H') := by
  obtain ⟨A, ρ, W, k, s, t, c⟩ := h
  refine ⟨A, ρ, W, _, s, t, fun d1 t1 v1 H1 F1 x1 r1 => ?_⟩
  cases d1 with
  | bl b => exact ⟨b, rv_bl r1, c b t1 H1 x1⟩
  | _ => exact t1.elim
theorem dtn_cmp {op : CmpOp} {r : R2} {f : D → D → (D → Prop) → Prop} (ho : OpR X (compareOp op) r) (hr : R2D X.K r f) (ha : DQ X a Ta) (hb : DQ X b Tb) (hm : behindInMarks op b = false) : DTN X (.Compare a [op] [b] pos) (dTest (dOp2 f Ta Tb)) :=
  pt_imp (pt_cmpR ho ha hb hm) fun σ H Q h => op2_q hr σ H _ (testN_imp σ H Q h)
theorem dtn_val {e : Expr} {T : ET} (h : DQ X e T) (he : ∀ whole, isTrue e X.env whole = (do let v ← whole; standAt e.pos; holding [v] (truthy v)) := by intro _; rfl) : DTN X e (dTest T) :=
  pt_imp (pt_val h he) fun σ H Q q => testQ_imp σ H Q q
theorem DWN.pt (h : DWN X e t) : DTN X e t := PW.pt h
theorem dwn_and1 (ha : DTN X a t) : DWN X (.BoolOp .And [a] pos) t := pw_and1 ha
theorem dwn_or1 (ha : DTN X a t) : DWN X (.BoolOp .Or [a] pos) t := pw_or1 ha
theorem dwn_and (ha : DTN X a t) (hb : DWN X (.BoolOp .And (b :: rest) pos) u) : DWN X (.BoolOp .And (a :: b :: rest) pos) (dAnd t u) := pw_imp (pw_and ha hb) fun σ H Q ⟨A, ρ, W, k, s, q, c⟩ => by
  refine ⟨A, ρ, W, _, s, q, fun b1 q1 H1 x1 => ?_⟩
  cases b1 with
  | true => rw [if_pos rfl]; exact ⟨A, ρ, W, k, s.ext x1, q1, fun d2 q2 H2 x2 => c d2 q2 H2 (ext_trans x1 x2)⟩
  | false => rw [if_neg Bool.false_ne_true]; exact c false q1 H1 x1
theorem dwn_or (ha : DTN X a t) (hb : DWN X (.BoolOp .Or (b :: rest) pos) u) : DWN X (.BoolOp .Or (a :: b :: rest) pos) (dOr t u) := pw_imp (pw_or ha hb) fun σ H Q ⟨A, ρ, W, k, s, q, c⟩ => by
  refine ⟨A, ρ, W, _, s, q, fun b1 q1 H1 x1 => ?_⟩
  cases b1 with
  | false => rw [if_neg Bool.false_ne_true]; exact ⟨A, ρ, W, k, s.ext x1, q1, fun d2 q2 H2 x2 => c d2 q2 H2 (ext_trans x1 x2)⟩
  | true => rw [if_pos rfl]; exact c true q1 H1 x1
theorem dtn_not (ha : DTN X a t) : DTN X (.UnaryOp .Not a pos) (dNot t) := pt_imp (pt_not ha) fun σ H Q ⟨A, ρ, W, k, s, q, c⟩ =>
  ⟨A, ρ, W, _, s, q, fun b1 q1 H1 x1 => c _ q1 H1 x1⟩
theorem rv_b {Z : AS} {x : Bool} : RV K H Z (.bl x) (.bl x) (fun _ => False) := .bl emF
theorem dn_one {op : BoolOp} (h : DN X a T) : DN X (.BoolOp op [a] pos) T := pe_one h
theorem dn_and (ha : DQ X a Ta) (hb : DN X (.BoolOp .And (b :: rest) pos) Tb) : DN X (.BoolOp .And (a :: b :: rest) pos) (dAndV Ta Tb) := pe_imp (pe_and ha hb) fun σ H Q ⟨A, ρ, W, k, s, q, c⟩ => by
  refine ⟨A, ρ, W, _, s, q, fun d1 q1 v1 H1 F1 x1 r1 => ?_⟩
  cases d1 with
  | bl b =>
    refine ⟨b, rv_bl r1, ?_⟩
    cases b with
    | true => rw [if_pos rfl]; exact ⟨A, ρ, W, k, s.ext x1, q1, fun d2 q2 v2 H2 F2 x2 n2 r2 => c d2 q2 v2 H2 F2 (ext_trans x1 x2) (new_back x1 n2) r2⟩
    | false => rw [if_neg Bool.false_ne_true]; exact c _ q1 _ H1 (fun _ => False) x1 (fun _ z => z.elim) rv_b
  | _ => exact q1.elim
theorem dn_or (ha : DQ X a Ta) (hb : DN X (.BoolOp .Or (b :: rest) pos) Tb) : DN X (.BoolOp .Or (a :: b :: rest) pos) (dOrV Ta Tb) := pe_imp (pe_or ha hb) fun σ H Q ⟨A, ρ, W, k, s, q, c⟩ => by
  refine ⟨A, ρ, W, _, s, q, fun d1 q1 v1 H1 F1 x1 r1 => ?_⟩
  cases d1 with
  | bl b =>
    refine ⟨b, rv_bl r1, ?_⟩
    cases b with
    | false => rw [if_neg Bool.false_ne_true]; exact ⟨A, ρ, W, k, s.ext x1, q1, fun d2 q2 v2 H2 F2 x2 n2 r2 => c d2 q2 v2 H2 F2 (ext_trans x1 x2) (new_back x1 n2) r2⟩
    | true => rw [if_pos rfl]; exact c _ q1 _ H1 (fun _ => False) x1 (fun _ z => z.elim) rv_b
  | _ => exact q1.elim
theorem dn_not (ha : DQ X a Ta) : DN X (.UnaryOp .Not a pos) (dNotV Ta) := pe_imp (pe_not ha) fun σ H Q ⟨A, ρ, W, k, s, q, c⟩ => by
  refine ⟨A, ρ, W, _, s, q, fun d1 q1 v1 H1 F1 x1 r1 => ?_⟩
  cases d1 with
  | bl b => exact ⟨b, rv_bl r1, c _ q1 _ H1 (fun _ => False) x1 (fun _ z => z.elim) rv_b⟩
  | _ => exact q1.elim
theorem dn_ifExp (hc : DTN X c t) (ha : DN X a Ta) (hb : DN X b Tb) : DN X (.IfExp c a b pos) (dIf t Ta Tb) := pe_imp (pe_ifExp hc ha hb) fun σ H Q ⟨A, ρ, W, k, s, q, c⟩ => by
  refine ⟨A, ρ, W, _, s, q, fun b1 q1 H1 x1 => ?_⟩
  cases b1 with
  | true => rw [if_pos rfl]; exact ⟨A, ρ, W, k, s.ext x1, q1, fun d2 q2 v2 H2 F2 x2 n2 r2 => c d2 q2 v2 H2 F2 (ext_trans x1 x2) (new_back x1 n2) r2⟩
  | false => rw [if_neg Bool.false_ne_true]; exact ⟨A, ρ, W, k, s.ext x1, q1, fun d2 q2 v2 H2 F2 x2 n2 r2 => c d2 q2 v2 H2 F2 (ext_trans x1 x2) (new_back x1 n2) r2⟩
theorem dq_ifExp (hc : DTN X c t) (ha : DQ X a Ta) (hb : DQ X b Tb) : DQ X (.IfExp c a b pos) (dIf t Ta Tb) := pe_imp (pe_ifExp hc ha hb) fun σ H Q ⟨A, ρ, W, k, s, q, c⟩ => by
  refine ⟨A, ρ, W, _, s, q, fun b1 q1 H1 x1 => ?_⟩
  cases b1 with
  | true => rw [if_pos rfl]; exact ⟨A, ρ, W, k, s.ext x1, q1, fun d2 q2 v2 H2 F2 x2 r2 => c d2 q2 v2 H2 F2 (ext_trans x1 x2) r2⟩
  | false => rw [if_neg Bool.false_ne_true]; exact ⟨A, ρ, W, k, s.ext x1, q1, fun d2 q2 v2 H2 F2 x2 r2 => c d2 q2 v2 H2 F2 (ext_trans x1 x2) r2⟩
end
end Dl
/-! DL7: displays, subscripts, slices, fields, calls of built-ins. -/
namespace Dl
open PySem PySem.Spec L2
section
variable {K : PySem.W.Frag} {H H' : Hp} {Y Y' F A W : AS}
theorem RVv.length {vs : List V} {ds : List D} (r : RVv K H Y vs ds) : vs.length = ds.length := by
  induction r with
  | nil => rfl
  | cons _ _ ih => simp [ih]
/-- none of them owned: they lie side by side -/
theorem RVv.side {vs : List V} {ds : List D} (r : RVv K H Y vs ds) (h : ds.all isFz = true) : RVs K H Y vs ds (fun _ => False) := by
  induction r with
  | nil => exact .nil emF
  | cons r _ ih =>
    simp only [List.all_cons, Bool.and_eq_true] at h
    exact .cons (rv_emp r (rv_fz r h.1)) (ih h.2) (fun _ z _ => z) fun b => ⟨False.elim, fun z => z.elim id id⟩
/-- not owned: as it is; owned: given up -/
def fz (d : D) : D := match isFz d with
  | true => d
  | false => frz d
theorem RV.fz {v : V} {d : D} (r : RV K H Y v d F) (hX : ∀ a, Y' a → Y a ∧ ¬ F a) : RV K H Y' v (fz d) (fun _ => False) := by
  unfold Dl.fz
  cases h : isFz d with
  | true => exact (rv_emp r (rv_fz r h)).weak fun a z => (hX a z).1
  | false => exact r.freeze hX
theorem RVs.fz {vs : List V} {ds : List D} (r : RVs K H Y vs ds F) (hX : ∀ a, Y' a → Y a ∧ ¬ F a) : RVs K H Y' vs (ds.map Dl.fz) (fun _ => False) := by
  induction ds generalizing vs F with
  | nil => cases r; exact .nil emF
  | cons d ds ih =>
    cases r with
    | cons r1 r2 _ u => exact .cons (r1.fz fun a z => ⟨(hX a z).1, fun y => (hX a z).2 ((u a).mpr (.inl y))⟩) (ih r2 fun a z => ⟨(hX a z).1, fun y => (hX a z).2 ((u a).mpr (.inr y))⟩) (fun _ z _ => z) fun b => ⟨False.elim, fun z => z.elim id id⟩
end
section
variable {X : Cx} {a b c e : Expr} {es rest : List Expr} {Ta Tb Tc T : ET} {Tl : LT} {t u : TTd} {pos : Pos} {K : PySem.W.Frag}

/-! ### displays -/
def allFz (ds : List D) (k : Prop) : Prop := match ds.all isFz with
  | true => k
  | false => False
theorem allFz_get {ds : List D} {k : Prop} (h : allFz ds k) : ds.all isFz = true ∧ k := by
  unfold allFz at h
  cases e : ds.all isFz with
  | true => rw [e] at h; exact ⟨rfl, h⟩
  | false => rw [e] at h; exact h.elim
def oTup (ds : List D) (k : D → Prop) : Prop := allFz ds (ds.length ≤ sizeLine ∧ k (.tup ds))
def oLst (ds : List D) (k : D → Prop) : Prop := allFz ds (ds.length ≤ sizeLine ∧ k (.lst true ds))
theorem rl_tup : RLD K (fun xs H1 Q => xs.length ≤ sizeLine ∧ NewT Q H1 xs) oTup := fun H Y vs ds k Q r h c => by
  obtain ⟨h1, h2, h3⟩ := allFz_get h
  exact ⟨by rw [r.length]; exact h2, fun p o hp hd => r_tup hp hd h3 (r.side h1) emF c⟩
theorem rl_lst : RLD K (fun xs H1 Q => xs.length ≤ sizeLine ∧ ∀ p, H1 p = none → Q (.ref p) (upd H1 p (.lst xs))) oLst := fun H Y vs ds k Q r h c => by
  obtain ⟨h1, h2, h3⟩ := allFz_get h
  exact ⟨by rw [r.length]; exact h2, fun p hp => r_lst hp h3 (r.side h1) emF c⟩
theorem dn_tup {x1} (h : DLQ X es Tl) : DN X (.Tuple es x1 pos) (dOpL oTup Tl) := pe_imp (pe_tupZ h) (opL_q rl_tup)
/-- a key: a display that is used up at once -/
def oKey (ds : List D) (k : D → Prop) : Prop := allFz ds (ds.length ≤ sizeLine ∧ k (.key ds))
theorem rl_key : RLD K (fun xs H1 Q => xs.length ≤ sizeLine ∧ ∀ p, H1 p = none → Q (.ref p) (upd H1 p (.tup xs))) oKey := fun H Y vs ds k Q r h c => by
  obtain ⟨h1, h2, h3⟩ := allFz_get h
  exact ⟨by rw [r.length]; exact h2, fun p hp => r_key hp h3 (r.side h1) emF c⟩
theorem dn_key {x1} (h : DLQ X es Tl) : DN X (.Tuple es x1 pos) (dOpL oKey Tl) := pe_imp (pe_tup h) (opL_q rl_key)
theorem dn_lst (h : DLQ X es Tl) : DN X (.List es pos) (dOpL oLst Tl) := pe_imp (pe_lst h) (opL_q rl_lst)
/-- with owned items: a tuple gives them up, a list keeps them -/
def dTupE (Tl : LT) : ET := fun ρ k => Tl ρ fun ρ1 ds => ds.length ≤ sizeLine ∧ k ρ1 (.tup (ds.map fz))
def dLstE (Tl : LT) : ET := fun ρ k => Tl ρ fun ρ1 ds => ds.length ≤ sizeLine ∧ k ρ1 (.lst true ds)
theorem dj_FA {A W W' F : AS} {H H' : Hp} (dj : Dj W A) (am : ∀ a, A a → Mut (H a)) (g : Go W (Or2 W' F) H H') : Dj F A := fun a z y => by
  rcases g.new a (.inr z) with w | w
  · exact dj a w y
  · exact mut_ne (am a y) w
theorem de_tup {x1} (h : DL X es Tl) : DE X (.Tuple es x1 pos) (dTupE Tl) := pe_imp (pe_tupZ h) fun σ H Q ⟨A, ρ, W, k, s, t, c⟩ => by
  refine ⟨A, ρ, W, _, s, t, fun ρ1 ds ⟨hz, q⟩ vs H1 W1 F s1 r g => ⟨by rw [rvs_length r]; exact hz, fun p o hp hd => ?_⟩⟩
  have ext := ext_upd (o := HO.frz o (.tup vs)) hp
  have djf : Dj F A := dj_FA s.dj s.am g
  refine c ρ1 _ q _ _ W1 (fun _ => False) ((s1.ext ext).weak fun a z => z.elim False.elim .inr) (.tup ⟨o, upd_same, hd⟩ ((r.fz (Y' := Or2 W1 (Or2 (fun _ => False) A)) fun a z => ?_).ext ext fun a z => .inl z) emF) ((g.left.trans (Go.ext W1 ext)).orEmp emF)
  rcases z with z | z | z
  · exact ⟨.inl z, fun y => s1.dj a z (.inl y)⟩
  · exact z.elim
  · exact ⟨.inr (.inr z), fun y => djf a y z⟩
theorem de_lst (h : DL X es Tl) : DE X (.List es pos) (dLstE Tl) := pe_imp (pe_lst h) fun σ H Q ⟨A, ρ, W, k, s, t, c⟩ => by
  refine ⟨A, ρ, W, _, s, t, fun ρ1 ds ⟨hz, q⟩ vs H1 W1 F s1 r g => ⟨by rw [rvs_length r]; exact hz, fun p hp => ?_⟩⟩
  have ext := ext_upd (o := HO.lst vs) hp
  have fm : ∀ a, F a → Mut (H1 a) := r.there
  have nF : ¬ F p := fun z => mut_ne (fm p z) hp
  have s2 := s1.grow (F := fun a => a = p) ext (fun a z => by subst z; exact hp) fun a z => by subst z; rw [upd_same]; trivial
  refine c ρ1 _ q _ _ W1 (fun b => b = p ∨ F b) (s2.weak fun a z => ?_) (.lst1 upd_same (r.ext ext fun a z => ?_) nF fun b => Iff.rfl) ⟨(g.left.trans (Go.ext W1 ext)).keep, fun a z => ?_⟩
  · rcases z with (z | z) | z
    · exact .inl z
    · exact .inr (.inl z)
    · exact .inr (.inr z)
  · rcases z with z | (z | z) | z
    · exact .inl (.inl z)
    · subst z; exact .inr hp
    · exact .inl (.inr (.inl z))
    · exact .inl (.inr (.inr z))
  · rcases z with z | z | z
    · exact g.new a (.inl z)
    · subst z; exact g.left.old hp s.wm
    · exact g.new a (.inr z)

/-! ### subscripts -/
def rIxDc : R2 := fun x y H Q => ∃ a v, x = .ref a ∧ DGet H a y (some v) ∧ Q v H
theorem ix_dict (hu : X.A.units + 1 < cLine) : IxR X rIxDc := by
  intro value slice pins s σ H x y v u Q I rx ry h hs
  obtain ⟨a, w, rfl, g, q⟩ := h
  obtain rfl : v = Value.ref a := rx
  have hT := dict_typeIs I g
  unfold PyProof.Rows.subscriptTail
  refine wpAny_bind ?_
  rw [getitemInPython_of_ne hT.not_modules]
  refine wpAny_bind (wpAny_specialOf hT PySem.F.slot_dict_getitem.lookup ?_)
  have fin : wpAny (model X.prog X.w) X.A (subscripted slice false (.ref a) u) (fun r s₃ => wpAny (model X.prog X.w) X.A (letTemporaryGo value (.ref a) r >>= fun _ => pure r) (EP X pins σ Q) X.xe s₃) X.xe s := by
    rw [hs]
    exact wpAny_operating (wpAny_mono (d_getItem hu I g ry fun w' s3 I3 rw' => (⟨w, H, I3, rw', q⟩ : EP X pins σ Q w' s3)) (fun r s₃ h₃ => wpAny_bind (wpAny_letTemporaryGo (wpAny_pure h₃))) fun _ _ x => x)
  first
    | exact wpAny_pure (wpAny_bind fin)
    | exact wpAny_bind (wpAny_pure (wpAny_bind fin))
    | exact wpAny_bind fin
abbrev rIxAll (K : PySem.W.Frag) : R2 := fun x y H Q => rIx K x y H Q ∨ rIxDc x y H Q
theorem ix_all (hu : X.A.units + 1 < cLine) : IxR X (rIxAll X.K) := ix_seq.or (ix_dict hu)
/-- what stands there -/
def ixD (d e : D) : Option D := match d, e with
  | .tup l, .int i => atI l i
  | .key l, .int i => atI l i
  | .lst _ l, .int i => atI l i
  | d, e => (getD d e).join
def oIx (d e : D) (k : D → Prop) : Prop := match ixD d e with
  | some x => k x
  | none => False
theorem atI_rv {H : Hp} {Y F : AS} {vs : List V} {ds : List D} {i : Int} {d : D} (r : RVs K H Y vs ds F) (h : atI ds i = some d) : ∃ v G, atI vs i = some v ∧ RV K H Y v d G ∧ ∀ a, G a → F a := by
  unfold atI at h ⊢
  rw [rvs_length r]
  obtain ⟨j, h1, h2⟩ := Option.bind_eq_some_iff.mp h
  obtain ⟨v, G, h3, h4, h5⟩ := rvs_get r h2
  exact ⟨v, G, by rw [h1]; exact h3, h4, h5⟩
theorem ix_rv {H : Hp} {Y F G : AS} {v u : V} {d e x : D} {Q : VK} (r : RV K H Y v d F) (q : RV K H Y u e G) (h : ixD d e = some x) (c : ∀ v' F', RV K H Y v' x F' → (∀ a, F' a → F a) → Q v' H) : rIxAll K v u H Q := by
  unfold ixD at h
  split at h
  · obtain ⟨a, vs, rfl, ha, ra, _⟩ := rv_tup r
    obtain ⟨v', G', h1, h2, h3⟩ := atI_rv ra h
    exact .inl (.inr (.inl ⟨a, vs, _, v', rfl, rv_int q, ha.sq, h1, c v' G' h2 h3⟩))
  · obtain ⟨a, vs, rfl, ha, ra, _⟩ := rv_key r
    obtain ⟨v', G', h1, h2, h3⟩ := atI_rv ra h
    exact .inl (.inr (.inl ⟨a, vs, _, v', rfl, rv_int q, SqT.of ha, h1, c v' G' h2 h3⟩))
  · obtain ⟨a, vs, F', rfl, ha, ra, sub, _⟩ := rv_lst r
    obtain ⟨v', G', h1, h2, h3⟩ := atI_rv ra h
    exact .inl (.inl ⟨a, vs, _, v', rfl, rv_int q, .inl ha, h1, c v' G' h2 fun a z => sub a (h3 a z)⟩)
  · cases hg : getD d e with
    | none => rw [hg] at h; cases h
    | some o =>
      rw [hg] at h
      cases o with
      | none => cases h
      | some x' =>
        obtain rfl : x' = x := Option.some.inj h
        obtain ⟨a, o', rfl, g, i1, _⟩ := getD_rv r q hg
        obtain ⟨v', G', rfl, h2, h3⟩ := i1 x' rfl
        exact .inr ⟨a, v', rfl, g, c v' G' h2 h3⟩
theorem oIx_get {d e : D} {k : D → Prop} (h : oIx d e k) : ∃ x, ixD d e = some x ∧ k x := by
  unfold oIx at h
  cases q : ixD d e with
  | none => rw [q] at h; exact h.elim
  | some x => rw [q] at h; exact ⟨x, rfl, h⟩
theorem dq_ix (hu : X.A.units + 1 < cLine) (ha : DQ X a Ta) (hb : DQ X b Tb) (hs : PlainIx b) : DQ X (.Subscript a b pos) (dOp2 oIx Ta Tb) := pe_imp (pe_ix (ix_all hu) ha hb hs) fun σ H Q ⟨A, ρ, W, k, s, t, c⟩ => by
  refine ⟨A, ρ, W, _, s, t, fun d1 t1 v1 H1 F1 x1 r1 => ⟨A, ρ, W, _, s.ext x1, t1, fun d2 t2 v2 H2 F2 x2 r2 => ?_⟩⟩
  obtain ⟨x, hx, q⟩ := oIx_get t2
  exact ix_rv (r1.ext x2 fun a z => .inl z) r2 hx fun v' F' r _ => c x q v' H2 F' (ext_trans x1 x2) r
def oIxF (d e : D) (k : D → Prop) : Prop := oIx d e fun x => match isFz x with
  | true => k x
  | false => False
theorem dn_ix (hu : X.A.units + 1 < cLine) (ha : DQ X a Ta) (hb : DQ X b Tb) (hs : PlainIx b) : DN X (.Subscript a b pos) (dOp2 oIxF Ta Tb) := (dq_ix hu ha hb hs).dn
theorem de_ix (hu : X.A.units + 1 < cLine) (ha : DE X a Ta) (hb : DV X b Tb) (hs : PlainIx b) : DE X (.Subscript a b pos) (dOp2 oIxF Ta Tb) := pe_imp (pe_ix (ix_all hu) ha hb hs) fun σ H Q h => by
  refine op2_imp (f := oIxF) (fun H Y v u d e F G k Q r q h c => ?_) σ H Q h
  obtain ⟨x, hx, h⟩ := oIx_get h
  refine ix_rv r q hx fun v' F' r' _ => ?_
  cases z : isFz x with
  | false => rw [z] at h; exact h.elim
  | true =>
    rw [z] at h
    exact r_old h r' (rv_fz r' z) c

/-! ### slices -/
abbrev OTq := DEnv → (Option Int → Prop) → Prop
def tOQ (K : PySem.W.Frag) (T : OTq) : TO := fun σ H Q => ∃ (A : AS) (ρ : DEnv) (W : AS) (k : Option Int → Prop), Std K A H σ ρ W ∧ T ρ k ∧ ∀ o, k o → ∀ (H' : Hp), Ext H H' → Q o H'
def po_imp {X : Cx} {e : Option Expr} {t u : TO} (h : PO X e t) (i : ∀ σ H Q, u σ H Q → t σ H Q) : PO X e u := ⟨fun pins s σ H Q I q => h.run pins s σ H Q I (i σ H Q q)⟩
def dNoPart : OTq := fun ρ k => k none
def dPart (T : ET) : OTq := fun ρ k => T ρ fun _ d => match d with
  | .int i => k (some i)
  | _ => False
theorem dpo_none : PO X none (tOQ X.K dNoPart) := po_imp po_none fun σ H Q ⟨A, ρ, W, k, s, t, c⟩ => c none t H fun _ _ z => z
theorem dpo_some (h : DQ X e T) : PO X (some e) (tOQ X.K (dPart T)) := po_imp (po_some h) fun σ H Q ⟨A, ρ, W, k, s, t, c⟩ => by
  refine ⟨A, ρ, W, _, s, t, fun d1 t1 v1 H1 F1 x1 r1 => ?_⟩
  cases d1 with
  | int i => exact ⟨i, rv_int r1, c _ t1 H1 x1⟩
  | _ => exact t1.elim
def cutD (l : List D) (lo hi : Option Int) : List D := (l.drop (HT.sIx l.length 0 lo)).take (HT.sIx l.length l.length hi - HT.sIx l.length 0 lo)
def oSl (d : D) (lo hi : Option Int) (k : D → Prop) : Prop := match d with
  | .tup l => k (.tup (cutD l lo hi))
  | .lst _ l => allFz l (k (.lst true (cutD l lo hi)))
  | _ => False
theorem rvs_cut {H : Hp} {Y F : AS} {vs : List V} {ds : List D} {lo hi : Option Int} (r : RVs K H Y vs ds F) (e : Emp F) : RVs K H Y (cutV vs lo hi) (cutD ds lo hi) (fun _ => False) := by
  unfold cutV cutD
  rw [rvs_length r]
  exact rvs_take _ (rvs_drop _ r e) emF
abbrev rSlAll (K : PySem.W.Frag) : V → Option Int → Option Int → Hp → VK → Prop := fun x lo hi H Q => rSlZ K x lo hi H Q ∨ rSlL K x lo hi H Q
def dSl (T : ET) (Tl Th : OTq) : ET := fun ρ k => T ρ fun ρ1 d => Tl ρ1 fun lo => Th ρ1 fun hi => oSl d lo hi (k ρ1)
theorem dn_slice {lo hi : Option Expr} {p2 : Pos} {Tl Th : OTq} (ha : DQ X a Ta) (hl : PO X lo (tOQ X.K Tl)) (hh : PO X hi (tOQ X.K Th)) : DN X (.Subscript a (.Slice lo hi none p2) pos) (dSl Ta Tl Th) :=
  pe_imp (pe_slice (sl_tupZ.or sl_list) ha hl hh) fun σ H Q ⟨A, ρ, W, k, s, t, c⟩ => by
    refine ⟨A, ρ, W, _, s, t, fun d1 t1 v1 H1 F1 x1 r1 => ⟨A, ρ, W, _, s.ext x1, t1, fun l t2 H2 x2 => ⟨A, ρ, W, _, (s.ext x1).ext x2, t2, fun h t3 H3 x3 => ?_⟩⟩⟩
    have x123 := ext_trans (ext_trans x1 x2) x3
    have r3 := r1.ext (ext_trans x2 x3) (X' := Or2 W A) fun a z => .inl z
    have c' : ∀ d' v' H' F', k ρ d' → Ext H3 H' → (∀ a, F' a → H3 a = none) → RV X.K H' (Or2 F' (Or2 W A)) v' d' F' → Q v' H' := fun d' v' H' F' kd x n r => c d' kd v' H' F' (ext_trans x123 x) (new_back x123 n) r
    unfold oSl at t3
    split at t3
    · obtain ⟨p, vs, rfl, hp, ra, ea⟩ := rv_tup r3
      refine .inl ⟨p, vs, rfl, hp.sq, fun hw => ?_, fun _ q o hq hd => r_tup hq hd t3 (rvs_cut ra ea) emF c'⟩
      rename_i ds
      have e : cutD ds l h = ds := by
        unfold cutD
        rw [← rvs_length ra, hw.1, hw.2]
        simp [rvs_length ra]
      rw [e] at t3
      exact r_old t3 (.tup hp ra ea) ea c'
    · obtain ⟨p, vs, G, rfl, hp, ra, _, _⟩ := rv_lst r3
      obtain ⟨h1, h2⟩ := allFz_get t3
      exact .inr ⟨p, vs, rfl, .inl hp, fun q hq => r_lst hq h2 (rvs_cut ra (rvs_fz ra h1)) emF c'⟩
    · exact t3.elim

/-! ### fields -/
def ixOf (ns : List Str) (f : Str) : Nat := ns.findIdx fun x => decide (x = f)
theorem lookup_pos {α : Type} : ∀ {vs : List (Str × α)} {f : Str} {v : α}, (vs.map (·.2))[ixOf (vs.map (·.1)) f]? = some v → vs.lookup f = some v
  | [], f, v, h => by simp at h
  | (n, w) :: vs, f, v, h => by
    by_cases e : n = f
    · subst e
      simp [ixOf, List.findIdx_cons] at h
      simp [List.lookup, h]
    · have e' : (f == n) = false := by simpa using fun z => e z.symm
      simp only [ixOf, List.map_cons, List.findIdx_cons, e, decide_false, cond_false, List.getElem?_cons_succ] at h
      simp only [List.lookup, e']
      exact lookup_pos h
/-- the field at place j of an instance of the class at C with the fields ns -/
def oFld (C : Addr) (ns : List Str) (j : Nat) (d : D) (k : D → Prop) : Prop := match d with
  | .obj _ C' ns' l => C' = C ∧ ns' = ns ∧ match l[j]? with
    | some x => k x
    | none => False
  | _ => False
theorem rv_obj {H : Hp} {Y F : AS} {v : V} {m : Bool} {C : Addr} {ns : List Str} {l : List D} (r : RV K H Y v (.obj m C ns l) F) : ∃ a dx vs G, v = .ref a ∧ H a = some (.ins C dx vs) ∧ vs.map (·.1) = ns ∧ RVs K H Y (vs.map (·.2)) l G ∧ (∀ b, G b → F b) ∧ (m = false → Emp G) := by
  cases r with
  | obj0 h n q r e => exact ⟨_, _, _, _, rfl, h, q, r, fun _ z => z, fun _ => e⟩
  | obj1 h q r n e => exact ⟨_, _, _, _, rfl, h, q, r, fun b z => (e b).mpr (.inr z), fun z => by cases z⟩
theorem fld_rv {H : Hp} {Y F : AS} {v : V} {C : Addr} {ns : List Str} {j : Nat} {f : Str} {d : D} {k : D → Prop} {Q : VK} (cl : Cls K C) (na : NoAttr K C f) (hj : ixOf ns f = j) (r : RV K H Y v d F) (h : oFld C ns j d k)
    (c : ∀ x v' F', k x → RV K H Y v' x F' → (∀ a, F' a → F a) → Q v' H) : ∃ a C dx fs w, v = .ref a ∧ H a = some (.ins C dx fs) ∧ Cls K C ∧ NoAttr K C f ∧ fs.lookup f = some w ∧ Q w H := by
  unfold oFld at h
  split at h
  · obtain ⟨rfl, rfl, h⟩ := h
    obtain ⟨a, dx, vs, G, rfl, ha, hn, ra, sub, _⟩ := rv_obj r
    split at h
    · rename_i x hx
      obtain ⟨w, G', h1, h2, h3⟩ := rvs_get ra hx
      refine ⟨a, _, dx, vs, w, rfl, ha, cl, na, lookup_pos ?_, c x w G' h h2 fun a z => sub a (h3 a z)⟩
      rw [hn, hj]
      exact h1
    · exact h.elim
  · exact h.elim
theorem dq_fld {f : Str} {C : Addr} {ns : List Str} {j : Nat} (cl : Cls X.K C) (na : NoAttr X.K C f) (hj : ixOf ns f = j) (he : DQ X e T) (hb : attributeBase e f X.env (eval e X.env) = eval e X.env) : DQ X (.Attribute e f pos) (dOp1 (oFld C ns j) T) :=
  pe_imp (pe_fld he hb) fun σ H Q ⟨A, ρ, W, k, s, t, c⟩ =>
    ⟨A, ρ, W, _, s, t, fun d1 t1 v1 H1 F1 x1 r1 => fld_rv cl na hj r1 t1 fun x v' F' q r _ => c x q v' H1 F' x1 r⟩

/-! ### calls of built-ins -/
theorem dn_callB {x : Str} {p : Pos} {id : String} {r : List V → Hp → VK → Prop} {f : List D → (D → Prop) → Prop} (hc : CallR X (.builtin id) r) (hr : RLD X.K r f) (hg : Gl X x) (hm : X.mg x = none) (hv : bootBuiltins x = some (.builtin id)) (ha : DLQ X (e :: es) Tl)
    (hn : x ≠ "__name__" := by decide) (hdb : (x == ("__debug__" : Str)) = false := by decide) (he : starEach (e :: es) X.env = (false, eval e X.env) :: starEach es X.env := by rfl) (hpl : (backTo pos (starEach es X.env)).any (·.1) = false := by rfl) :
    DN X (.Call (.Name x p) (e :: es) [] pos) (dOpL f Tl) := pe_imp (pe_callB hc hg hm hv ha hn hdb he hpl) (opL_q hr)
theorem de_callB {x : Str} {p : Pos} {id : String} {r : List V → Hp → VK → Prop} {f : List D → (D → Prop) → Prop} (hc : CallR X (.builtin id) r) (hr : RLD X.K r f) (hg : Gl X x) (hm : X.mg x = none) (hv : bootBuiltins x = some (.builtin id)) (ha : DL X (e :: es) Tl)
    (hn : x ≠ "__name__" := by decide) (hdb : (x == ("__debug__" : Str)) = false := by decide) (he : starEach (e :: es) X.env = (false, eval e X.env) :: starEach es X.env := by rfl) (hpl : (backTo pos (starEach es X.env)).any (·.1) = false := by rfl) :
    DE X (.Call (.Name x p) (e :: es) [] pos) (dOpL f Tl) := pe_imp (pe_callB hc hg hm hv ha hn hdb he hpl) (opL_imp hr)
theorem dn_callTy {x : Str} {p : Pos} {id : String} {r : List V → Hp → VK → Prop} {f : List D → (D → Prop) → Prop} (hc : CallR X (.type id) r) (hr : RLD X.K r f) (hg : Gl X x) (hm : X.mg x = none) (hv : bootBuiltins x = some (.type id)) (ha : DLQ X (e :: es) Tl)
    (hn : x ≠ "__name__" := by decide) (hdb : (x == ("__debug__" : Str)) = false := by decide) (he : starEach (e :: es) X.env = (false, eval e X.env) :: starEach es X.env := by rfl) (hpl : (backTo pos (starEach es X.env)).any (·.1) = false := by rfl) :
    DN X (.Call (.Name x p) (e :: es) [] pos) (dOpL f Tl) := pe_imp (pe_callTy hc hg hm hv ha hn hdb he hpl) (opL_q hr)
theorem de_callTy {x : Str} {p : Pos} {id : String} {r : List V → Hp → VK → Prop} {f : List D → (D → Prop) → Prop} (hc : CallR X (.type id) r) (hr : RLD X.K r f) (hg : Gl X x) (hm : X.mg x = none) (hv : bootBuiltins x = some (.type id)) (ha : DL X (e :: es) Tl)
    (hn : x ≠ "__name__" := by decide) (hdb : (x == ("__debug__" : Str)) = false := by decide) (he : starEach (e :: es) X.env = (false, eval e X.env) :: starEach es X.env := by rfl) (hpl : (backTo pos (starEach es X.env)).any (·.1) = false := by rfl) :
    DE X (.Call (.Name x p) (e :: es) [] pos) (dOpL f Tl) := pe_imp (pe_callTy hc hg hm hv ha hn hdb he hpl) (opL_imp hr)
end
end Dl
/-! DL8: statements, blocks, loops over data. -/
namespace Dl
open PySem PySem.Spec L2

/-- what is wanted behind a statement, over data -/
structure DEnds where
  nx : DEnv → Prop
  rt : DEnv → D → Prop
  bk : DEnv → Prop := fun _ => False
  ct : DEnv → Prop := fun _ => False
  ex : Value → List (Str × D) → DEnv → Prop := fun _ _ _ => False
abbrev DSt := DEnds → DEnv → Prop
/-- names that are never stored to -/
def Pin (P : List Nat) (σ σ' : L2.St) : Prop := σ'.length = σ.length ∧ ∀ i ∈ P, σ'[i]? = σ[i]?
theorem Pin.refl (P : List Nat) (σ : L2.St) : Pin P σ σ := ⟨rfl, fun _ _ => rfl⟩
theorem Pin.trans {P : List Nat} {σ σ1 σ2 : L2.St} (a : Pin P σ σ1) (b : Pin P σ1 σ2) : Pin P σ σ2 := ⟨b.1.trans a.1, fun i h => (b.2 i h).trans (a.2 i h)⟩
theorem Pin.set {P : List Nat} {σ : L2.St} {i : Nat} {o : Option V} (h : i ∉ P) : Pin P σ (σ.set i o) := ⟨List.length_set, fun j hj => by
  rw [List.getElem?_set_ne]
  exact fun e => h (e ▸ hj)⟩
/-- an exception's own attributes -/
def ExcAt (K : PySem.W.Frag) (H : Hp) (Y : AS) (l : List (Str × D)) : Option Addr → Prop
  | none => l = []
  | some a => l ≠ [] ∧ ∃ (fs : List (Str × V)), H a = some (.xd fs) ∧ fs.map (·.1) = l.map (·.1) ∧ RVs K H Y (fs.map (·.2)) (l.map (·.2)) (fun _ => False)
theorem ExcAt.weak {K : PySem.W.Frag} {H : Hp} {Y Z : AS} {l : List (Str × D)} {o : Option Addr} (x : ExcAt K H Y l o) (h : ∀ a, Z a → Y a) : ExcAt K H Z l o := by
  cases o with
  | none => exact x
  | some a =>
    obtain ⟨h0, fs, h1, h2, h3⟩ := x
    exact ⟨h0, fs, h1, h2, h3.weak h⟩
theorem ExcAt.nil {K : PySem.W.Frag} {H : Hp} {Y : AS} {l : List (Str × D)} {o : Option Addr} (x : ExcAt K H Y l o) (e : l = []) : o = none := by
  cases o with
  | none => rfl
  | some a => exact absurd e x.1

structure KOk (K : PySem.W.Frag) (E : WX) (P : List Nat) (A : AS) (k : DEnds) (D : Ends) (σ : L2.St) (H : Hp) (W : AS) : Prop where
  nx : ∀ ρ', k.nx ρ' → ∀ σ' H' W', Std K A H' σ' ρ' W' → Go W W' H H' → Pin P σ σ' → D.nx σ' H'
  rt : ∀ ρ' d, k.rt ρ' d → ∀ σ' v H' W' F, Std K (Or2 F A) H' σ' ρ' W' → RV K H' (Or2 W' (Or2 F A)) v d F → Go W (Or2 W' F) H H' → Pin P σ σ' → D.rt v H'
  bk : ∀ ρ', k.bk ρ' → ∀ σ' H' W', Std K A H' σ' ρ' W' → Go W W' H H' → Pin P σ σ' → D.bk σ' H'
  ct : ∀ ρ', k.ct ρ' → ∀ σ' H' W', Std K A H' σ' ρ' W' → Go W W' H H' → Pin P σ σ' → D.ct σ' H'
  ex : ∀ ρ' C l, k.ex C l ρ' → ∀ σ' H' W' o, Std K A H' σ' ρ' W' → Go W W' H H' → Pin P σ σ' → ExcAt K H' (Or2 W' A) l o → E C o σ' H'
def tS (K : PySem.W.Frag) (E : WX) (P : List Nat) (T : DSt) : TS := fun D σ H => ∃ (A : AS) (ρ : DEnv) (W : AS) (k : DEnds), Std K A H σ ρ W ∧ T k ρ ∧ KOk K E P A k D σ H W

section
variable {K : PySem.W.Frag} {E : WX} {P : List Nat} {A W W1 : AS} {k : DEnds} {D : Ends} {σ σ1 : L2.St} {H H1 : Hp}
/-- from a later state on -/
theorem KOk.later (h : KOk K E P A k D σ H W) (g : Go W W1 H H1) (p : Pin P σ σ1) : KOk K E P A k D σ1 H1 W1 where
  nx := fun ρ' q σ' H' W' s g' p' => h.nx ρ' q σ' H' W' s (g.trans g') (p.trans p')
  rt := fun ρ' d q σ' v H' W' F s r g' p' => h.rt ρ' d q σ' v H' W' F s r (g.trans g') (p.trans p')
  bk := fun ρ' q σ' H' W' s g' p' => h.bk ρ' q σ' H' W' s (g.trans g') (p.trans p')
  ct := fun ρ' q σ' H' W' s g' p' => h.ct ρ' q σ' H' W' s (g.trans g') (p.trans p')
  ex := fun ρ' C l q σ' H' W' o s g' p' x => h.ex ρ' C l q σ' H' W' o s (g.trans g') (p.trans p') x
end

section
variable {X : Cx} {E : WX} {P : List Nat}
def DS (X : Cx) (E : WX) (P : List Nat) (st : Stmt) (T : DSt) : Prop := PS X st (tS X.K E P T)
def DSs (X : Cx) (E : WX) (P : List Nat) (st : List Stmt) (T : DSt) : Prop := PSs X st (tS X.K E P T)
variable {st : Stmt} {rest body : List Stmt} {T U : DSt} {e c : Expr} {Te : ET} {tt : TTd} {pos : Pos}

def dNext : DSt := fun k ρ => k.nx ρ
def dSeq (T U : DSt) : DSt := fun k ρ => T { k with nx := fun ρ1 => U k ρ1 } ρ
theorem dss_nil : DSs X E P [] dNext := pss_imp pss_nil fun D σ H ⟨A, ρ, W, k, s, t, ok⟩ => ok.nx ρ t σ H W s (Go.refl W H) (Pin.refl P σ)
theorem dss_cons (h1 : DS X E P st T) (h2 : DSs X E P rest U) : DSs X E P (st :: rest) (dSeq T U) := pss_imp (pss_cons h1 h2) fun D σ H ⟨A, ρ, W, k, s, t, ok⟩ =>
  ⟨A, ρ, W, _, s, t, ⟨fun ρ' q σ' H' W' s' g p => ⟨A, ρ', W', k, s', q, ok.later g p⟩, ok.rt, ok.bk, ok.ct, ok.ex⟩⟩
theorem dss_one (h1 : DS X E P st T) : DSs X E P [st] T := pss_one h1
theorem ds_pass : DS X E P (.Pass pos) dNext := ps_imp ps_pass fun D σ H ⟨A, ρ, W, k, s, t, ok⟩ => ok.nx ρ t σ H W s (Go.refl W H) (Pin.refl P σ)
def dBreak : DSt := fun k ρ => k.bk ρ
def dCont : DSt := fun k ρ => k.ct ρ
theorem ds_break : DS X E P (.Break pos) dBreak := ps_imp ps_break fun D σ H ⟨A, ρ, W, k, s, t, ok⟩ => ok.bk ρ t σ H W s (Go.refl W H) (Pin.refl P σ)
theorem ds_continue : DS X E P (.Continue pos) dCont := ps_imp ps_continue fun D σ H ⟨A, ρ, W, k, s, t, ok⟩ => ok.ct ρ t σ H W s (Go.refl W H) (Pin.refl P σ)
def dDrop (Te : ET) : DSt := fun k ρ => Te ρ fun ρ1 _ => k.nx ρ1
theorem ds_expr (he : DE X e Te) (hs : swapsWith e none pos.line X.env = pure false := by rfl) : DS X E P (.Expr e pos) (dDrop Te) := ps_imp (ps_expr he hs) fun D σ H ⟨A, ρ, W, k, s, t, ok⟩ =>
  ⟨A, ρ, W, _, s, t, fun ρ' d q v H' W' F s' r g => ok.nx ρ' q σ H' W' (s'.weak fun a z => .inr z) g.left (Pin.refl P σ)⟩
def dRet (Te : ET) : DSt := fun k ρ => Te ρ k.rt
theorem ds_ret (he : DE X e Te) : DS X E P (.Return (some e) pos) (dRet Te) := ps_imp (ps_ret he) fun D σ H ⟨A, ρ, W, k, s, t, ok⟩ =>
  ⟨A, ρ, W, _, s, t, fun ρ' d q v H' W' F s' r g => ok.rt ρ' d q σ v H' W' F s' r g (Pin.refl P σ)⟩
def dRetN : DSt := fun k ρ => k.rt ρ .non
theorem ds_retN : DS X E P (.Return none pos) dRetN := ps_imp ps_retN fun D σ H ⟨A, ρ, W, k, s, t, ok⟩ =>
  ok.rt ρ .non t σ .non H W (fun _ => False) (s.weak fun a z => z.elim False.elim id) (.non emF) ((Go.refl W H).orEmp emF) (Pin.refl P σ)
def dIfS (tt : TTd) (T U : DSt) : DSt := fun k ρ => tt ρ fun ρ1 b => match b with
  | true => T k ρ1
  | false => U k ρ1
theorem ds_if {a b : List Stmt} (hc : DT X c tt) (ha : DSs X E P a T) (hb : DSs X E P b U) : DS X E P (.If c a b pos) (dIfS tt T U) := ps_imp (ps_if hc ha hb) fun D σ H ⟨A, ρ, W, k, s, t, ok⟩ => by
  refine ⟨A, ρ, W, _, s, t, fun ρ1 b1 q1 H1 W1 s1 g1 => ?_⟩
  cases b1 with
  | true => rw [if_pos rfl]; exact ⟨A, ρ1, W1, k, s1, q1, ok.later g1 (Pin.refl P σ)⟩
  | false => rw [if_neg Bool.false_ne_true]; exact ⟨A, ρ1, W1, k, s1, q1, ok.later g1 (Pin.refl P σ)⟩
/-- a way that is never gone -/
def dNever : DSt := fun _ _ => False
theorem ds_never : DS X E P st dNever := ps_imp ps_never fun D σ H ⟨A, ρ, W, k, s, t, ok⟩ => t
theorem dss_never {sts : List Stmt} : DSs X E P sts dNever := pss_imp pss_never fun D σ H ⟨A, ρ, W, k, s, t, ok⟩ => t

/-! ### names stored -/
theorem Std.set {K : PySem.W.Frag} {A W F : AS} {H : Hp} {σ : L2.St} {ρ : DEnv} {i : Nat} {v : V} {d : D} (s : Std K (Or2 F A) H σ ρ W) (r : RV K H (Or2 W (Or2 F A)) v d F) (hi : i < ρ.length) (djA : Dj F A) :
    ∃ W', Std K A H (σ.set i (some v)) (ρ.set i (some d)) W' ∧ (∀ a, W' a → W a ∨ F a) := by
  obtain ⟨W', h1, h2, h3⟩ := s.re.set hi r fun a z y => s.dj a y (.inl z)
  refine ⟨W', ⟨h1.ext (fun _ _ z => z) fun a z => .inl ?_, fun a z y => ?_, fun a z => s.am a (.inr z)⟩, h2⟩
  · rcases z with z | z
    · exact (h2 a z).elim .inl fun z => .inr (.inl z)
    · exact .inr (.inr z)
  · rcases h2 a z with z | z
    · exact s.dj a z (.inr y)
    · exact djA a z y
/-- a stored name: dSetE gives what a store of d to place i is -/
def setE (ρ : DEnv) (i : Nat) (d : D) (k : DEnv → Prop) : Prop := i < ρ.length ∧ k (ρ.set i (some d))
def dSet (i : Nat) (Te : ET) : DSt := fun k ρ => Te ρ fun ρ1 d => i < ρ1.length ∧ k.nx (ρ1.set i (some d))
theorem set_step {K : PySem.W.Frag} {P : List Nat} {E : WX} {A W : AS} {H : Hp} {σ : L2.St} {k : DEnds} {DD : Ends} {i : Nat} (hp : i ∉ P) (dj : Dj W A) (am : ∀ a, A a → Mut (H a)) (ok : KOk K E P A k DD σ H W) {ρ1 : DEnv} {d : D} {v : V} {H1 : Hp} {W1 F : AS}
    (hi : i < ρ1.length) (q : k.nx (ρ1.set i (some d))) (s1 : Std K (Or2 F A) H1 σ ρ1 W1) (r1 : RV K H1 (Or2 W1 (Or2 F A)) v d F) (g1 : Go W (Or2 W1 F) H H1) : DD.nx (σ.set i (some v)) H1 := by
  obtain ⟨W2, s2, h2⟩ := s1.set r1 hi (dj_FA dj am g1)
  exact ok.nx _ q _ H1 W2 s2 ⟨g1.keep, fun a z => g1.new a (h2 a z)⟩ (Pin.set hp)
theorem ds_set {i : Nat} {x : Str} {pos' : Pos} (hp : i ∉ P) (hN : X.N.Nodup) (hi : X.N[i]? = some x) (hx : Loc X.env.scope x) (he : DE X e Te) (hs : swapsWith e (some (.Name x pos')) pos.line X.env = pure false := by rfl) (hf : X.fn x = true ∨ X.env.scope.names.lookup x = some .local := by first | exact .inl rfl | exact .inr rfl | assumption) :
    DS X E P (.Assign [.Name x pos'] e pos) (dSet i Te) := ps_imp (ps_set hN hi hx he hs hf) fun D σ H ⟨A, ρ, W, k, s, t, ok⟩ =>
  ⟨A, ρ, W, _, s, t, fun ρ1 d ⟨hl, q⟩ v H1 W1 F s1 r1 g1 => set_step hp s.dj s.am ok hl q s1 r1 g1⟩

/-! ### while -/
/-- by an invariant over a measure -/
def dWhile (tt : TTd) (T : DSt) : DSt := fun k ρ => ∃ I : Nat → DEnv → Prop, (∃ m, I m ρ) ∧ ∀ m ρ, I m ρ → tt ρ fun ρ1 b => match b with
  | true => T { k with nx := fun ρ2 => ∃ m', m' < m ∧ I m' ρ2, ct := fun ρ2 => ∃ m', m' < m ∧ I m' ρ2, bk := k.nx } ρ1
  | false => k.nx ρ1
theorem ds_while (hp : PassesOwn (model X.prog X.w) X.A X.env X.xe) (hc : DT X c tt) (hb : DSs X E P body T) : DS X E P (.While c body [] pos) (dWhile tt T) := ps_imp (ps_while hp hc hb) fun D σ H ⟨A, ρ, W, k, s, ⟨I, ⟨m0, h0⟩, turn⟩, ok⟩ => by
  refine ⟨fun m σ' H' => ∃ ρ' W', Std X.K A H' σ' ρ' W' ∧ I m ρ' ∧ Go W W' H H' ∧ Pin P σ σ', ⟨m0, ρ, W, s, h0, Go.refl W H, Pin.refl P σ⟩, ?_⟩
  rintro m σ1 H1 ⟨ρ1, W1, s1, i1, g1, p1⟩
  refine ⟨A, ρ1, W1, _, s1, turn m ρ1 i1, fun ρ2 b q H2 W2 s2 g2 => ?_⟩
  cases b with
  | false => rw [if_neg Bool.false_ne_true]; exact ok.nx ρ2 q σ1 H2 W2 s2 (g1.trans g2) p1
  | true =>
    rw [if_pos rfl]
    refine ⟨fun σ' H' => ∃ m', m' < m ∧ ∃ ρ' W', Std X.K A H' σ' ρ' W' ∧ I m' ρ' ∧ Go W W' H H' ∧ Pin P σ σ', fun σ' H' h => h, A, ρ2, W2, _, s2, q, ?_⟩
    have g12 := g1.trans g2
    exact ⟨fun ρ' ⟨m', hm, q'⟩ σ' H' W' s' g' p' => ⟨m', hm, ρ', W', s', q', g12.trans g', p1.trans p'⟩,
      fun ρ' d q' σ' v H' W' F s' r g' p' => ok.rt ρ' d q' σ' v H' W' F s' r (g12.trans g') (p1.trans p'),
      fun ρ' q' σ' H' W' s' g' p' => ok.nx ρ' q' σ' H' W' s' (g12.trans g') (p1.trans p'),
      fun ρ' ⟨m', hm, q'⟩ σ' H' W' s' g' p' => ⟨m', hm, ρ', W', s', q', g12.trans g', p1.trans p'⟩,
      fun ρ' C l q' σ' H' W' o s' g' p' x => ok.ex ρ' C l q' σ' H' W' o s' (g12.trans g') (p1.trans p') x⟩

/-! ### for: over the items ds -/
/-- an iterator that hands out ds, whatever is done to what is owned (W1); A: owned elsewhere -/
def ItOk (K : PySem.W.Frag) (J : It) (W1 A : AS) (H1 : Hp) (ds : List D) : Prop :=
  ∀ H2, (∀ a o, H1 a = some o → ¬ W1 a → H2 a = some o) → ∀ i, (∀ d, ds[i]? = some d → J.go i H2 ∧ ∀ x H3, J.yld i H2 x H3 → Ext H2 H3 ∧ ∀ Y : AS, (∀ a, Y a → W1 a ∨ A a ∨ H1 a = none) → RV K H3 Y x d (fun _ => False)) ∧ (ds.length = i → J.stop i H2)
abbrev DIt := DEnv → (DEnv → List D → Prop) → Prop
def tI (K : PySem.W.Frag) (T : DIt) : TI := fun σ H R => ∃ (A : AS) (ρ : DEnv) (W : AS) (k : DEnv → List D → Prop), Std K A H σ ρ W ∧ T ρ k ∧
  ∀ ρ1 ds, k ρ1 ds → ∀ J H1 W1, Std K A H1 σ ρ1 W1 → Go W W1 H H1 → ItOk K J W1 A H1 ds → R J H1
def DI (X : Cx) (tg iter : Expr) (T : DIt) : Prop := PI X tg iter (tI X.K T)
/-- a target -/
abbrev DTg := D → DEnv → (DEnv → Prop) → Prop
def Only (L : List Nat) (σ σ' : L2.St) : Prop := σ'.length = σ.length ∧ ∀ i, i ∉ L → σ'[i]? = σ[i]?
theorem Only.trans {L : List Nat} {σ σ1 σ2 : L2.St} (a : Only L σ σ1) (b : Only L σ1 σ2) : Only L σ σ2 := ⟨b.1.trans a.1, fun i h => (b.2 i h).trans (a.2 i h)⟩
theorem Only.mono {L M : List Nat} {σ σ1 : L2.St} (a : Only L σ σ1) (h : ∀ i ∈ L, i ∈ M) : Only M σ σ1 := ⟨a.1, fun i n => a.2 i fun z => n (h i z)⟩
theorem Only.refl (L : List Nat) (σ : L2.St) : Only L σ σ := ⟨rfl, fun _ _ => rfl⟩
theorem Only.set {L : List Nat} {σ : L2.St} {i : Nat} {o : Option V} (h : i ∈ L) : Only L σ (σ.set i o) := ⟨List.length_set, fun j hj => by
  rw [List.getElem?_set_ne]
  exact fun e => hj (e ▸ h)⟩
theorem Only.pin {L P : List Nat} {σ σ1 : L2.St} (a : Only L σ σ1) (h : ∀ i ∈ P, i ∉ L) : Pin P σ σ1 := ⟨a.1, fun i hi => a.2 i (h i hi)⟩
/-- L: the names that it stores to -/
def tG (K : PySem.W.Frag) (L : List Nat) (T : DTg) : TG := fun v σ H Q => ∃ (A : AS) (ρ : DEnv) (W : AS) (d : D) (k : DEnv → Prop), Std K A H σ ρ W ∧ RV K H (Or2 W A) v d (fun _ => False) ∧ T d ρ k ∧
  ∀ ρ', k ρ' → ∀ σ' H' W', Std K (fun a => (W a ∧ ¬ W' a) ∨ A a) H' σ' ρ' W' → Ext H H' → (∀ a, W' a → W a) → Only L σ σ' → Q σ' H'
def DG (X : Cx) (L : List Nat) (tg : Expr) (T : DTg) : Prop := PG X tg (tG X.K L T)
theorem pg_imp {tg : Expr} {t u : TG} (h : PG X tg t) (i : ∀ v σ H Q, u v σ H Q → t v σ H Q) : PG X tg u := ⟨fun pins s σ H v w Q I r q => h.run pins s σ H v w Q I r (i v σ H Q q)⟩
theorem pi_imp {tg it : Expr} {t u : TI} (h : PI X tg it t) (i : ∀ σ H R, u σ H R → t σ H R) : PI X tg it u := ⟨fun pins s σ H R I q => h.run pins s σ H R I (i σ H R q)⟩
def gN (i : Nat) : DTg := fun d ρ k => i < ρ.length ∧ k (ρ.set i (some d))
theorem dg_name {i : Nat} {x : Str} (hN : X.N.Nodup) (hi : X.N[i]? = some x) (hx : Loc X.env.scope x) (hf : X.fn x = true ∨ X.env.scope.names.lookup x = some .local := by first | exact .inl rfl | exact .inr rfl | assumption) : DG X [i] (.Name x pos) (gN i) :=
  pg_imp (pg_name hN hi hx hf) fun v σ H Q ⟨A, ρ, W, d, k, s, r, ⟨hl, t⟩, c⟩ => by
    obtain ⟨W2, s2, h2, _⟩ := s.re.set hl r fun a z => z.elim
    have h3 : ∀ a, W2 a → W a := fun a z => (h2 a z).elim id False.elim
    refine c _ t _ H W2 ⟨s2.ext (fun _ _ z => z) fun a z => .inl ?_, fun a z y => ?_, fun a z => ?_⟩ (fun _ _ z => z) h3 (Only.set (by simp))
    · rcases z with z | z | z
      · exact .inl (h3 a z)
      · exact .inl z.1
      · exact .inr z
    · rcases y with y | y
      · exact y.2 z
      · exact s.dj a (h3 a z) y
    · exact z.elim (fun z => s.wm a z.1) (s.am a)
/-- by an invariant over what is left to be walked -/
def forD (g : DTg) (T : DSt) (k : DEnds) (ds : List D) (ρ : DEnv) : Prop := ∃ I : List D → DEnv → Prop, I ds ρ ∧
  (∀ d r ρ, I (d :: r) ρ → g d ρ fun ρ1 => T { k with nx := I r, ct := I r, bk := k.nx } ρ1) ∧ ∀ ρ, I [] ρ → k.nx ρ
def dFor (I : DIt) (g : DTg) (T : DSt) : DSt := fun k ρ => I ρ fun ρ1 ds => forD g T k ds ρ1
theorem ds_for {tg iter : Expr} {I : DIt} {g : DTg} {L : List Nat} (hL : P.all (fun i => !L.contains i) = true) (hp : PassesOwn (model X.prog X.w) X.A X.env X.xe) (hc : X.calm = true) (hi : DI X tg iter I) (hg : DG X L tg g) (hb : DSs X E P body T)
    (hs : ∀ x, foldedSetIterable iter X.env x = pure x := by intro _; rfl) : DS X E P (.For tg iter body [] pos) (dFor I g T) := ps_imp (ps_for hp hc hi hg hb hs) fun D σ H ⟨A, ρ, W, k, s, t, ok⟩ => by
  refine ⟨A, ρ, W, _, s, t, fun ρ1 ds ⟨Iv, q, hstep, hend⟩ J H1 W1 s1 g1 it => ?_⟩
  refine ⟨fun i m σ' H' => m = ds.length - i ∧ i ≤ ds.length ∧ ∃ ρ' W', Std X.K A H' σ' ρ' W' ∧ Iv (ds.drop i) ρ' ∧ Go W1 W' H1 H' ∧ Pin P σ σ', ⟨ds.length, by simp, Nat.zero_le _, ρ1, W1, s1, by simpa using q, Go.refl W1 H1, Pin.refl P σ⟩, ?_⟩
  rintro i m σ2 H2 ⟨rfl, hi2, ρ2, W2, s2, f2, g2, p2⟩
  obtain ⟨it1, it2⟩ := it H2 g2.keep i
  by_cases hlt : i < ds.length
  · have hd : ds.drop i = ds[i] :: ds.drop (i + 1) := List.drop_eq_getElem_cons hlt
    rw [hd] at f2
    obtain ⟨go, yl⟩ := it1 ds[i] (by simp [hlt])
    refine .inr ⟨go, fun σ' H' => ∃ m', m' < ds.length - i ∧ m' = ds.length - (i + 1) ∧ i + 1 ≤ ds.length ∧ ∃ ρ' W', Std X.K A H' σ' ρ' W' ∧ Iv (ds.drop (i + 1)) ρ' ∧ Go W1 W' H1 H' ∧ Pin P σ σ', fun σ' H' ⟨m', h1, h2⟩ => ⟨m', h1, h2⟩, fun x H3 y => ?_⟩
    obtain ⟨x23, rx⟩ := yl x H3 y
    refine ⟨A, ρ2, W2, ds[i], _, s2.ext x23, rx _ (fun a z => z.elim (fun z => (g2.new a z).imp id .inr) fun z => .inr (.inl z)), hstep _ _ _ f2, fun ρ4 q4 σ4 H4 W4 s4 x4 w4 o4 => ?_⟩
    have g14 : Go W1 W4 H1 H4 := g2.trans ((Go.ext W2 x23).trans ⟨fun a o h _ => x4 a o h, fun a z => .inl (w4 a z)⟩)
    have p04 : Pin P σ σ4 := p2.trans (o4.pin fun i hi hl => by simp [List.all_eq_true] at hL; exact hL i hi hl)
    refine ⟨A, ρ4, W4, _, s4.weak fun a z => .inr z, q4, ?_⟩
    have ok4 := ok.later (g1.trans g14) p04
    exact ⟨fun ρ' q' σ' H' W' s' g' p' => ⟨ds.length - (i + 1), by omega, rfl, hlt, ρ', W', s', q', g14.trans g', p04.trans p'⟩,
      ok4.rt, fun ρ' q' σ' H' W' s' g' p' => ok4.nx ρ' q' σ' H' W' s' g' p',
      fun ρ' q' σ' H' W' s' g' p' => ⟨ds.length - (i + 1), by omega, rfl, hlt, ρ', W', s', q', g14.trans g', p04.trans p'⟩, ok4.ex⟩
  · have e : ds.drop i = [] := List.drop_eq_nil_of_le (by omega)
    rw [e] at f2
    exact .inl ⟨it2 (by omega), ok.nx ρ2 (hend _ f2) σ2 H2 W2 s2 (g1.trans g2) p2⟩
end
end Dl
/-! DLG: promises of defs that know that nothing is being shown (repr) around them; calls; the law's end. -/
namespace Dl
open PySem PySem.Spec L2 PyProof.Rows
/-- room, and nothing is being shown around -/
structure RoomG (k : Nat) (A : Around) : Prop where
  room : Room k A
  gs : A.guards = some []
theorem RoomG.mono {j k : Nat} {A : Around} (r : RoomG k A) (h : j ≤ k) : RoomG j A := ⟨r.room.mono h, r.gs⟩
/-- as the hand layer's promise, where nothing is being shown -/
structure FnG (P : Program) (w : World) (K : PySem.W.Frag) (mg : Str → Option Value) (base : Heap) (k : Nat) (f : Addr) (fd : FuncData) (ps : List Str) (sp : Sp) : Prop where
  len : ∀ vs H Q E, sp vs H Q E → vs.length = ps.length
  run : ∀ (A : Around) (outer : List Env) (s : Shared) (H : Hp) (args : Args) (us : List Value) (vs : List V) (Q : VK) (E : XK), RoomG k A → Env0 P w K mg base A outer s H → BindsTo s fd args (ps.zip us) → Vals vs us → sp vs H Q E →
    codeAny (model P w) A (.call (.ref f) args) (CR (L2.CX P w) outer P w H s Q E) s
theorem FnG.mono {P : Program} {w : World} {K : PySem.W.Frag} {mg : Str → Option Value} {base : Heap} {j k : Nat} {f : Addr} {fd : FuncData} {ps : List Str} {sp : Sp} (F : FnG P w K mg base j f fd ps sp) (h : j ≤ k) : FnG P w K mg base k f fd ps sp :=
  ⟨F.len, fun A outer s H args us vs Q E hr => F.run A outer s H args us vs Q E (hr.mono h)⟩
theorem FnG.imp {P : Program} {w : World} {K : PySem.W.Frag} {mg : Str → Option Value} {base : Heap} {k : Nat} {f : Addr} {fd : FuncData} {ps : List Str} {sp sp' : Sp} (F : FnG P w K mg base k f fd ps sp)
    (h : ∀ vs H Q E, sp' vs H Q E → sp vs H Q E) : FnG P w K mg base k f fd ps sp' :=
  ⟨fun vs H Q E q => F.len vs H Q E (h _ _ _ _ q), fun A outer s H args us vs Q E hr he hb hv hs => F.run A outer s H args us vs Q E hr he hb hv (h _ _ _ _ hs)⟩
theorem FnG.of {P : Program} {w : World} {K : PySem.W.Frag} {mg : Str → Option Value} {base : Heap} {k : Nat} {f : Addr} {fd : FuncData} {ps : List Str} {sp : Sp} (F : FnOk P w K mg base (L2.CX P w) k f fd ps sp) : FnG P w K mg base k f fd ps sp :=
  ⟨F.len, fun A outer s H args us vs Q E hr => F.run A outer s H args us vs Q E hr.room⟩
/-- an entry of the body at one caller -/
theorem FunD.okG {P : Program} {w : World} {K : PySem.W.Frag} {mg : Str → Option Value} {base : Heap} {x qual : Str} {params : Arguments} {body : List Stmt} {scope : Scope} {dvs : List V} {kws : List (Str × V)} {f : Addr} {fd : FuncData} {N ps : List Str} {k : Nat} {sp : Sp} (F : FunD K x qual params body scope dvs kws f fd) (S : FnScope N ps scope) (len : ∀ vs H Q E, sp vs H Q E → vs.length = ps.length)
    (hbody : ∀ (cdv : Value) (A : Around) (outer : List Env) (s : Shared) (H : Hp) (vs : List V) (Q : VK) (E : XK), RoomG k (A.deeper (envOfC qual scope s.heap.objs.size f cdv)) → sp vs H Q E →
      ∃ t, PSs (cxOf (L2.CX P w) P w K mg base N qual scope f cdv A outer s H E) body t ∧ t { nx := fun _ H' => Q .non H', rt := Q } (L2.start N vs) H) : FnG P w K mg base (k + 1) f fd ps sp := by
  refine ⟨len, fun A outer s H args us vs Q E hr e0 hb r hsp => ?_⟩
  obtain ⟨oc, od, dV, kV, doc, pm, an, cdv, ct, osl, rfl, lk, hcd, _, _⟩ := F.ex
  have hl := len _ _ _ _ hsp
  have KX : K.In s.heap := e0.mod.kin.keeps fun b o e => (e0.bs b o e).1
  have lim : s.heap.NoLimit := e0.mod.nolimit.keeps fun b o e => (e0.bs b o e).1
  have hkind : ∀ y ∈ ps.zip us, scope.names.lookup y.1 = some .local ∨ (scope.names.lookup y.1 = some .cell ∧ ((cellsFrom (s.heap.objs.size + 1) scope.names []).lookup y.1).isSome = true) := fun ⟨n, v⟩ hy =>
    (S.par n (List.of_mem_zip hy).1).imp id fun q => ⟨q, PySem.W.cellsFrom_some _ _ _ (.inl q)⟩
  refine codeAny_call_function hr.room.depth (KX _ _ lk) rfl S.co S.gen rfl (PySem.W.codeRec_of KX hcd) (hb _ _ _ _ ?_)
  refine wpAny_newFunctionEnv_cells S.kind hkind fun env he s1 x => ?_
  subst he
  refine ⟨lim.keeps x.toInCall.keep, codeAny_func ?_⟩
  obtain ⟨t, ht, hq⟩ := hbody cdv A outer s H vs Q E ⟨hr.room.deeper _, hr.gs⟩ hsp
  have I : Inv (cxOf (L2.CX P w) P w K mg base N qual scope f cdv A outer s H E) [] (L2.start N vs) H s1 := inv_start S hr.room.hd e0 hl r x
  refine wpAny_mono (ht.run [] s1 (L2.start N vs) H _ I hq) (fun fl s' hs => ?_) fun e s' hs => hs
  cases fl with
  | ret u => obtain ⟨v, σ', H', J, rv, q⟩ := hs; exact ⟨v, H', J.os, J.bare, J.base, J.hok, rv, q⟩
  | next => obtain ⟨σ', H', J, q⟩ := hs; exact ⟨.non, H', J.os, J.bare, J.base, J.hok, rfl, q⟩
  | brk => obtain ⟨_, _, _, q⟩ := hs; exact False.elim q
  | cont => obtain ⟨_, _, _, q⟩ := hs; exact False.elim q

/-! ### calls -/
section
variable {X : Cx} {k : Nat} {f C : Addr} {fd : FuncData} {ps : List Str} {sp : Sp} {E : L2.St → XK} {x m : Str} {p pos apos : Pos} {e o : Expr} {es : List Expr} {ta : TE} {t : TA}
abbrev FnGX (X : Cx) (k : Nat) (f : Addr) (fd : FuncData) (ps : List Str) (sp : Sp) : Prop := FnG X.prog X.w X.K X.mg X.base k f fd ps sp
theorem run_fnG {pins : List (Addr × Obj)} {σ : L2.St} {H : Hp} {s : Shared} {Q : VK} {us : List Value} {vs : List V} (F : FnGX X k f fd ps sp) (hr : RoomG k X.A) (hb : Binds X.K fd ps []) (hx : PassesAt (L2.CX X.prog X.w) X σ (E σ))
    (I : Inv X pins σ H s) (r : Vals vs us) (h : sp vs H Q (E σ)) : wpAny (model X.prog X.w) X.A (call (.ref f) us) (EP X pins σ Q) X.xe s := by
  have hl : us.length = ps.length := by rw [← r.length]; exact F.len _ _ _ _ h
  have b := hb s us I.kIn (by rw [List.append_nil]; exact hl)
  rw [List.append_nil] at b
  refine wpAny_call (codeAny_mono (F.run X.A X.stack s H ⟨us, []⟩ us vs Q (E σ) hr I.env0 b r h) fun r s' hq => ?_)
  cases r with
  | error e => exact hx pins H s e s' I hq
  | ok fl =>
    cases fl with
    | ret u => exact I.after hq
    | next => exact False.elim hq
    | brk => exact False.elim hq
    | cont => exact False.elim hq
theorem pe_callG (F : FnGX X k f fd ps sp) (hr : RoomG k X.A) (hg : Gl X x) (hm : X.mg x = some (.ref f)) (hk : PySem.W.keepIn X.K (.ref f) = true) (hb : Binds X.K fd ps []) (hx : ∀ σ, PassesAt (L2.CX X.prog X.w) X σ (E σ))
    (ha : PA X (e :: es) t) (hdb : (x == ("__debug__" : Str)) = false := by decide) (he : starEach (e :: es) X.env = (false, eval e X.env) :: starEach es X.env := by rfl) (hpl : (backTo pos (starEach es X.env)).any (·.1) = false := by rfl) :
    PE X (.Call (.Name x p) (e :: es) [] pos) (tCallS sp E t) := by
  refine ⟨fun pins s σ H Q I h => ?_⟩
  refine wpAny_Call_Name_kw (ld_glob I hg hm ?_ hdb)
  refine PySem.W.callWith_K (h₀ := X.base) I.ok.mod.kin hk (thn (ha.run pos pins s σ H _ I h) fun us s1 ⟨vs, H1, I1, r, q⟩ => ⟨I1.kIn, ?_⟩) he hpl
  exact run_fnG F hr hb (hx σ) I1 r q
theorem pe_callG0 (F : FnGX X k f fd ps sp) (hr : RoomG k X.A) (hg : Gl X x) (hm : X.mg x = some (.ref f)) (hk : PySem.W.keepIn X.K (.ref f) = true) (hb : Binds X.K fd ps []) (hx : ∀ σ, PassesAt (L2.CX X.prog X.w) X σ (E σ))
    (hdb : (x == ("__debug__" : Str)) = false := by decide) : PE X (.Call (.Name x p) [] [] pos) (tCallS sp E tNil) := by
  refine ⟨fun pins s σ H Q I h => ?_⟩
  refine wpAny_Call_Name_kw (ld_glob I hg hm ?_ hdb)
  exact PySem.W.callWith_K0 I.kIn hk (run_fnG (us := []) F hr hb (hx σ) I .nil h)
def tMethS (C : Addr) (m : Str) (sp : Sp) (E : L2.St → XK) (ta : TE) (t : TA) : TE := fun σ H Q => ta σ H fun x H1 => ∃ a dx fs, x = .ref a ∧ H1 a = some (.ins C dx fs) ∧ fs.lookup m = none ∧
  t σ H1 fun vs H2 => sp (x :: vs) H2 Q (E σ)
theorem pe_methG {pl : Sem Bool} (he : PE X o ta) (c : Cls X.K C) (hm : Meth X.K C m f) (F : FnGX X k f fd ps sp) (hr : RoomG k X.A) (hb : Binds X.K fd ps []) (hx : ∀ σ, PassesAt (L2.CX X.prog X.w) X σ (E σ)) (ha : PA X (e :: es) t)
    (hst : starEach (e :: es) X.env = (false, eval e X.env) :: starEach es X.env := by rfl) (hpl : (backTo pos (starEach es X.env)).any (·.1) = false := by rfl)
    (ht : eval (.Call (.Attribute o m apos) (e :: es) [] pos) X.env = (do
      let ov ← eval o X.env
      standAt apos.atName
      let (f, first) ← holding [ov] (getMethod ov m pl)
      callWith pos f first (backTo pos (starEach (e :: es) X.env)) (backToKw pos (keywordEach [] X.env))) := by rfl) :
    PE X (.Call (.Attribute o m apos) (e :: es) [] pos) (tMethS C m sp E ta t) := by
  refine ⟨fun pins s σ H Q I h => ?_⟩
  refine PySem.W.methodCall_KW (pl := pl) (thn (he.run pins s σ H _ I h) fun u s1 ⟨x, H1, I1, rx, a, dx, fs, ex, ea, l, q⟩ => ?_) ht
  subst ex
  obtain rfl : u = Value.ref a := rx
  refine getmeth_ok I1 ea c hm l ?_
  refine PySem.W.callWith_K (first := [.ref a]) (h₀ := X.base) I.ok.mod.kin hm.kp (thn (ha.run pos pins s1 σ H1 _ I1 q) fun us s2 ⟨vs, H2, I2, r, q2⟩ => ⟨I2.kIn, ?_⟩) hst hpl
  exact run_fnG (us := .ref a :: us) (vs := .ref a :: vs) F hr hb (hx σ) I2 (.cons rfl r) q2
theorem pe_methG0 {pl : Sem Bool} (he : PE X o ta) (c : Cls X.K C) (hm : Meth X.K C m f) (F : FnGX X k f fd ps sp) (hr : RoomG k X.A) (hb : Binds X.K fd ps []) (hx : ∀ σ, PassesAt (L2.CX X.prog X.w) X σ (E σ))
    (ht : eval (.Call (.Attribute o m apos) [] [] pos) X.env = (do
      let ov ← eval o X.env
      standAt apos.atName
      let (f, first) ← holding [ov] (getMethod ov m pl)
      callWith pos f first (backTo pos (starEach [] X.env)) (backToKw pos (keywordEach [] X.env))) := by rfl) :
    PE X (.Call (.Attribute o m apos) [] [] pos) (tMethS C m sp E ta tNil) := by
  refine ⟨fun pins s σ H Q I h => ?_⟩
  refine PySem.W.methodCall_KW (pl := pl) (thn (he.run pins s σ H _ I h) fun u s1 ⟨x, H1, I1, rx, a, dx, fs, ex, ea, l, q⟩ => ?_) ht
  subst ex
  obtain rfl : u = Value.ref a := rx
  refine getmeth_ok I1 ea c hm l ?_
  exact PySem.W.callWith_K0 (first := [.ref a]) I1.kIn hm.kp (run_fnG (us := [.ref a]) (vs := [.ref a]) F hr hb (hx σ) I1 (.cons rfl .nil) q)
def tMakeS (C : Addr) (sp : Sp) (E : L2.St → XK) (t : TA) : TE := fun σ H Q => t σ H fun vs H1 => ∀ x dx, H1 x = none → H1 dx = none → dx ≠ x →
  sp (.ref x :: vs) (upd (upd H1 dx (.own x)) x (.ins C dx [])) (fun v H2 => v = .non ∧ Q (.ref x) H2) (E σ)
theorem run_makeG {pins : List (Addr × Obj)} {σ : L2.St} {H : Hp} {s : Shared} {Q : VK} {us : List Value} {vs : List V} (M : Mk X.K C f) (F : FnGX X k f fd ps sp) (hr : RoomG (k + 1) X.A) (hb : Binds X.K fd ps [])
    (hx : PassesAt (L2.CX X.prog X.w) X σ (E σ)) (I : Inv X pins σ H s) (r : Vals vs us)
    (h : ∀ x dx, H x = none → H dx = none → dx ≠ x → sp (.ref x :: vs) (upd (upd H dx (.own x)) x (.ins C dx [])) (fun v H2 => v = .non ∧ Q (.ref x) H2) (E σ)) :
    wpAny (model X.prog X.w) X.A (call (.ref C) us) (EP X pins σ Q) X.xe s := by
  have hq := h (s.heap.objs.size + 1) s.heap.objs.size (I.hok.fresh (Nat.le_succ _)) (I.hok.fresh (Nat.le_refl _)) (Nat.ne_of_lt (Nat.lt_succ_self _))
  have I2 := Inv.made (C := C) I
  have r2 : Vals (V.ref (s.heap.objs.size + 1) :: vs) (Value.ref (s.heap.objs.size + 1) :: us) := .cons rfl r
  have hl : (Value.ref (s.heap.objs.size + 1) :: us).length = ps.length := by
    rw [← r2.length]; exact F.len _ _ _ _ hq
  have b := hb _ (Value.ref (s.heap.objs.size + 1) :: us) I2.kIn (by rw [List.append_nil]; exact hl)
  rw [List.append_nil] at b
  refine wpAny_call (make_map (f := f) I.kIn M.makes M.init (beq_iff_eq.mp M.fn) (codeAny_mono (F.run _ X.stack _ _ ⟨Value.ref (s.heap.objs.size + 1) :: us, []⟩ (Value.ref (s.heap.objs.size + 1) :: us) _ _ (E σ) ⟨hr.room.make C us [], hr.gs⟩
    (I2.env0.make C us []) b r2 hq) fun r s' hq' => ?_))
  cases r with
  | error e => exact hx pins _ _ e s' I2 hq'
  | ok fl =>
    cases fl with
    | ret u =>
      obtain ⟨v, H', I3, rv, ev, q3⟩ := I2.after hq'
      subst ev
      exact ⟨rv, ⟨V.ref (s.heap.objs.size + 1), H', I3, rfl, q3⟩⟩
    | next => exact False.elim hq'
    | brk => exact False.elim hq'
    | cont => exact False.elim hq'
theorem pe_makeG (M : Mk X.K C f) (F : FnGX X k f fd ps sp) (hr : RoomG (k + 1) X.A) (hg : Gl X x) (hm : X.mg x = some (.ref C)) (hb : Binds X.K fd ps []) (hx : ∀ σ, PassesAt (L2.CX X.prog X.w) X σ (E σ))
    (ha : PA X (e :: es) t) (hdb : (x == ("__debug__" : Str)) = false := by decide) (he : starEach (e :: es) X.env = (false, eval e X.env) :: starEach es X.env := by rfl) (hpl : (backTo pos (starEach es X.env)).any (·.1) = false := by rfl) :
    PE X (.Call (.Name x p) (e :: es) [] pos) (tMakeS C sp E t) := by
  refine ⟨fun pins s σ H Q I h => ?_⟩
  refine wpAny_Call_Name_kw (ld_glob I hg hm ?_ hdb)
  refine PySem.W.callWith_K (h₀ := X.base) I.ok.mod.kin M.kp (thn (ha.run pos pins s σ H _ I h) fun us s1 ⟨vs, H1, I1, r, q⟩ => ⟨I1.kIn, ?_⟩) he hpl
  exact run_makeG M F hr hb (hx σ) I1 r q
theorem pe_makeG0 (M : Mk X.K C f) (F : FnGX X k f fd ps sp) (hr : RoomG (k + 1) X.A) (hg : Gl X x) (hm : X.mg x = some (.ref C)) (hb : Binds X.K fd ps []) (hx : ∀ σ, PassesAt (L2.CX X.prog X.w) X σ (E σ))
    (hdb : (x == ("__debug__" : Str)) = false := by decide) : PE X (.Call (.Name x p) [] [] pos) (tMakeS C sp E tNil) := by
  refine ⟨fun pins s σ H Q I h => ?_⟩
  refine wpAny_Call_Name_kw (ld_glob I hg hm ?_ hdb)
  exact PySem.W.callWith_K0 I.kIn M.kp (run_makeG (us := []) M F hr hb (hx σ) I .nil h)
end
/-- nothing is let out -/
theorem passN {X : Cx} (σ : L2.St) : PassesAt (L2.CX X.prog X.w) X σ E0 := fun _ _ _ _ _ _ h => by
  obtain ⟨_, _, _, _, _, _, _, _, _, _, _, _, z⟩ := h
  exact z.elim
end Dl
/-! DL9: what a def promises, over data; its body; calls. -/
namespace Dl
open PySem PySem.Spec L2

/-- a def's promise over data: the arguments; what is wanted of the result and of the arguments behind; of an exception (its class, its attributes), the arguments as they are -/
abbrev DSp := List D → (D → List D → Prop) → (Value → List (Str × D) → List D → Prop) → Prop
/-- S as a promise of the hand layer -/
def spD (K : PySem.W.Frag) (n : Nat) (S : DSp) : Sp := fun vs H Q E => vs.length = n ∧ ∃ (A W : AS) (ds : List D) (k : D → List D → Prop) (kx : Value → List (Str × D) → List D → Prop),
  Std K A H (vs.map some) (ds.map some) W ∧ S ds k kx ∧
  (∀ d ds', k d ds' → ∀ (v : V) (H' : Hp) (W' F : AS), Std K (Or2 F A) H' (vs.map some) (ds'.map some) W' → RV K H' (Or2 W' (Or2 F A)) v d F → Go W (Or2 W' F) H H' → Q v H') ∧
  (∀ C l ds', kx C l ds' → ∀ (H' : Hp) (W' : AS) (o : Option Addr), Std K A H' (vs.map some) (ds'.map some) W' → Go W W' H H' → ExcAt K H' (Or2 W' A) l o → E C o H')

section
variable {K : PySem.W.Frag} {H H' : Hp} {X A W W' F G : AS} {σ : L2.St} {ρ : DEnv}
theorem RE.nones (r : RE K H X σ ρ F) (n : Nat) : RE K H X (σ ++ List.replicate n none) (ρ ++ List.replicate n none) F := by
  induction r with
  | nil e =>
    induction n with
    | zero => exact .nil e
    | succ n ih => exact .no ih
  | no _ ih => exact .no ih
  | so r _ dj u ih => exact .so r ih dj u
/-- the arguments behind: what is pinned as it is now, the others as they were -/
def backD (p : Nat → Bool) : DEnv → List D → DEnv
  | o :: ρ, d :: ds => (match p 0 with | true => o | false => some d) :: backD (fun i => p (i + 1)) ρ ds
  | _, _ => []
/-- what is not pinned is not owned -/
def holdD (p : Nat → Bool) : List D → Bool
  | [] => true
  | d :: ds => (p 0 || isFz d) && holdD (fun i => p (i + 1)) ds
theorem RE.back {p : Nat → Bool} {vs : List V} {ds : List D} {σ' : L2.St} {H1 : Hp} {X1 W1 : AS} (r : RE K H X σ' ρ F) (hl : vs.length = ds.length) (hn : ds.length ≤ ρ.length) (hp : ∀ i, p i = true → i < vs.length → σ'[i]? = (vs.map some)[i]?)
    (hf : holdD p ds = true) (r0 : RE K H1 X1 (vs.map some) (ds.map some) W1) (lt : ∀ v d G, RV K H1 X1 v d G → isFz d = true → RV K H X v d (fun _ => False)) :
    ∃ F', RE K H X (vs.map some) (backD p ρ ds) F' ∧ ∀ a, F' a → F a := by
  induction ds generalizing vs σ' ρ F p W1 with
  | nil =>
    have : vs = [] := List.eq_nil_of_length_eq_zero hl
    subst this
    refine ⟨fun _ => False, ?_, fun _ z => z.elim⟩
    cases ρ <;> exact .nil emF
  | cons d ds ih =>
    cases vs with
    | nil => simp at hl
    | cons v vs =>
      simp only [holdD, Bool.and_eq_true, Bool.or_eq_true] at hf
      cases ρ with
      | nil => simp at hn
      | cons o ρ =>
        cases r0 with
        | so r1 r2 dj1 u1 =>
          simp only [List.map_cons, backD]
          have hn' : ds.length ≤ ρ.length := by simpa using hn
          have hl' : vs.length = ds.length := by simpa using hl
          have step : ∀ {σ2 : L2.St} {F2 : AS}, RE K H X σ2 ρ F2 → (∀ i, p (i + 1) = true → i < vs.length → σ2[i]? = (vs.map some)[i]?) → ∃ F', RE K H X (vs.map some) (backD (fun i => p (i + 1)) ρ ds) F' ∧ ∀ a, F' a → F2 a :=
            fun r3 h3 => ih r3 hl' hn' h3 hf.2 r2
          have hp' : ∀ {s : Option V} {σ2 : L2.St}, σ' = s :: σ2 → ∀ i, p (i + 1) = true → i < vs.length → σ2[i]? = (vs.map some)[i]? := fun e i h1 h2 => by
            have := hp (i + 1) h1 (by simpa using h2)
            subst e
            simpa using this
          cases hp0 : p 0 with
          | true =>
            have h0 := hp 0 hp0 (by simp)
            cases r with
            | no r3 =>
              obtain ⟨F', h1, h2⟩ := step r3 (hp' rfl)
              exact ⟨F', .no h1, h2⟩
            | so r4 r3 dj3 u3 =>
              obtain ⟨F', h1, h2⟩ := step r3 (hp' rfl)
              simp at h0
              subst h0
              exact ⟨_, .so r4 h1 (fun a z y => dj3 a z (h2 a y)) fun b => Iff.rfl, fun a z => (u3 a).mpr (z.imp id (h2 a))⟩
          | false =>
            have hd : isFz d = true := by rcases hf.1 with z | z; rw [hp0] at z; cases z; exact z
            cases r with
            | no r3 =>
              obtain ⟨F', h1, h2⟩ := step r3 (hp' rfl)
              exact ⟨F', .so (lt v d _ r1 hd) h1 (fun _ z _ => z) fun b => ⟨.inr, fun z => z.elim False.elim id⟩, h2⟩
            | so r4 r3 dj3 u3 =>
              obtain ⟨F', h1, h2⟩ := step r3 (hp' rfl)
              exact ⟨F', .so (lt v d _ r1 hd) h1 (fun _ z _ => z) fun b => ⟨.inr, fun z => z.elim False.elim id⟩, fun a z => (u3 a).mpr (.inr (h2 a z))⟩
end

/-- the data of an environment that is known throughout -/
def known : DEnv → Option (List D)
  | [] => some []
  | some d :: ρ => (known ρ).map (d :: ·)
  | none :: _ => none
theorem known_map {ρ : DEnv} {ds : List D} (h : known ρ = some ds) : ρ = ds.map some := by
  induction ρ generalizing ds with
  | nil => cases h; rfl
  | cons o ρ ih =>
    cases o with
    | none => cases h
    | some d =>
      simp only [known, Option.map_eq_some_iff] at h
      obtain ⟨ds', h1, rfl⟩ := h
      rw [ih h1]; rfl
/-- the ends of a def's body, for a call with the arguments ds -/
def fnEnds (p : Nat → Bool) (ds : List D) (k : D → List D → Prop) (kx : Value → List (Str × D) → List D → Prop) : DEnds where
  nx := fun ρ => match known (backD p ρ ds) with
    | some ds' => k .non ds'
    | none => False
  rt := fun ρ d => match known (backD p ρ ds) with
    | some ds' => k d ds'
    | none => False
  ex := fun C l ρ => match known (backD p ρ ds) with
    | some ds' => kx C l ds'
    | none => False
def pinP (P : List Nat) : Nat → Bool := fun i => P.contains i
/-- no argument but the pinned is owned, and their number -/
def entryD (n m : Nat) (P : List Nat) (ds : List D) : Prop := ds.length = n ∧ holdD (pinP P) ds = true

section
variable {PP : Program} {w : World} {K : PySem.W.Frag} {mg : Str → Option Value} {base : Heap}
theorem std_back {A W W1 F : AS} {H H1 : Hp} {P : List Nat} {vs : List V} {ds : List D} {σ1 : L2.St} {ρ1 : DEnv} {ds' : List D} {n : Nat} (s : Std K A H (vs.map some) (ds.map some) W) (hl : vs.length = ds.length) (hf : holdD (pinP P) ds = true)
    (s1 : Std K (Or2 F A) H1 σ1 ρ1 W1) (g : Go W (Or2 W1 F) H H1) (pin : Pin P (vs.map some ++ List.replicate n none) σ1) (hk : known (backD (pinP P) ρ1 ds) = some ds') (hn : ds.length ≤ ρ1.length) :
    ∃ W2, Std K (Or2 F A) H1 (vs.map some) (ds'.map some) W2 ∧ ∀ a, W2 a → W1 a := by
  have lt : ∀ (v : V) (d : D) (G : AS), RV K H (Or2 W A) v d G → isFz d = true → RV K H1 (Or2 W1 (Or2 F A)) v d (fun _ => False) := fun v d G r hz => by
    refine (rv_emp r (rv_fz r hz)).later (X' := Or2 W1 (Or2 F A)) (W := W) ⟨⟨g.keep, fun a z => .inl z, fun a z => ?_⟩, fun a xs h nm => ?_⟩ fun a z => z.elim
    · rcases z with z | z | z
      · exact (g.new a (.inl z)).imp .inl id
      · exact (g.new a (.inr z)).imp .inl id
      · exact .inl (.inr z)
    · exact g.keep a _ h fun z => mut_not (s.wm a z) nm h
  obtain ⟨W2, h1, h2⟩ := s1.re.back (p := pinP P) (vs := vs) (ds := ds) hl hn (fun i hi hlt => by
    rw [pin.2 i (by simpa [pinP] using hi), List.getElem?_append_left (by simpa using hlt)]) hf s.re lt
  rw [known_map hk] at h1
  have h3 : RE K H1 (Or2 W2 (Or2 F A)) (vs.map some) (ds'.map some) W2 := h1.ext (fun _ _ z => z) fun a z => .inl (z.imp (h2 a) id)
  exact ⟨W2, ⟨h3, fun a z y => s1.dj a (h2 a z) y, s1.am⟩, h2⟩
/-- THE RULE for a def that may raise: its body's reading over data at the arguments -/
theorem fnD {x qual : Str} {params : Arguments} {body : List Stmt} {scope : Scope} {dvs : List V} {kws : List (Str × V)} {f : Addr} {fd : FuncData} {N ps : List Str} {k : Nat} {S : DSp} {P : List Nat} (F : FunD K x qual params body scope dvs kws f fd) (Sc : FnScope N ps scope)
    (hS : ∀ ds kk kx, ds.length = ps.length → S ds kk kx → holdD (pinP P) ds = true)
    (hbody : ∀ (cdv : Value) (A : Around) (outer : List Env) (s : Shared) (H : Hp) (E : XK), RoomG k (A.deeper (PyProof.Rows.envOfC qual scope s.heap.objs.size f cdv)) →
      ∃ T, DSs (cxOf (L2.CX PP w) PP w K mg base N qual scope f cdv A outer s H E) (fun c o _ h => E c o h) P body T ∧
        ∀ ds kk kx, ds.length = ps.length → S ds kk kx → T (fnEnds (pinP P) ds kk kx) (ds.map some ++ List.replicate (N.length - ps.length) none)) :
    FnG PP w K mg base (k + 1) f fd ps (spD K ps.length S) := by
  refine FunD.okG F Sc (fun vs H Q E h => h.1) fun cdv A outer s H vs Q E hr h => ?_
  obtain ⟨T, hT, hread⟩ := hbody cdv A outer s H E hr
  refine ⟨_, hT, ?_⟩
  obtain ⟨hl, A0, W, ds, kk, kx, s0, sp, c1, c2⟩ := h
  have hld : ds.length = vs.length := by have := s0.re.length; simpa using this.symm
  have hlp : ds.length = ps.length := hld.trans hl
  have hf := hS ds kk kx hlp sp
  have rd := hread ds kk kx hlp sp
  refine ⟨A0, ds.map some ++ List.replicate (N.length - ps.length) none, W, fnEnds (pinP P) ds kk kx, ⟨?_, s0.dj, s0.am⟩, rd, ?_⟩
  · unfold L2.start
    rw [hl]
    exact s0.re.nones _
  · have key : ∀ {σ1 : L2.St} {ρ1 : DEnv} {H1 : Hp} {W1 F1 : AS} {ds' : List D}, Std K (Or2 F1 A0) H1 σ1 ρ1 W1 → Go W (Or2 W1 F1) H H1 → Pin P (L2.start N vs) σ1 → known (backD (pinP P) ρ1 ds) = some ds' → ∃ W2, Std K (Or2 F1 A0) H1 (vs.map some) (ds'.map some) W2 ∧ ∀ a, W2 a → W1 a := fun {σ1 ρ1 H1 W1 F1 ds'} s1 g pin hk => by
      refine std_back s0 hld.symm hf s1 g pin hk ?_
      have h1 := s1.re.length
      have h2 := pin.1
      simp only [L2.start, List.length_append, List.length_map, List.length_replicate] at h2
      omega
    refine ⟨fun ρ1 q σ1 H1 W1 s1 g1 p1 => ?_, fun ρ1 d q σ1 v H1 W1 F1 s1 r1 g1 p1 => ?_, fun ρ1 q => q.elim, fun ρ1 q => q.elim, fun ρ1 C l q σ1 H1 W1 o s1 g1 p1 x1 => ?_⟩
    · simp only [fnEnds] at q
      split at q
      · rename_i ds' hk
        have s1' : Std K (Or2 (fun _ => False) A0) H1 σ1 ρ1 W1 := s1.weak fun a z => z.elim False.elim id
        obtain ⟨W2, s2, h2⟩ := key s1' (g1.orEmp emF) p1 hk
        exact c1 _ ds' q .non H1 W2 _ s2 (.non emF) ⟨g1.keep, fun a z => z.elim (fun z => g1.new a (h2 a z)) False.elim⟩
      · exact q.elim
    · simp only [fnEnds] at q
      split at q
      · rename_i ds' hk
        obtain ⟨W2, s2, h2⟩ := key s1 g1 p1 hk
        exact c1 _ ds' q v H1 W2 F1 s2 (r1.weak fun a z => z.imp (h2 a) id) ⟨g1.keep, fun a z => g1.new a (z.imp (h2 a) id)⟩
      · exact q.elim
    · simp only [fnEnds] at q
      split at q
      · rename_i ds' hk
        have s1' : Std K (Or2 (fun _ => False) A0) H1 σ1 ρ1 W1 := s1.weak fun a z => z.elim False.elim id
        obtain ⟨W2, s2, h2⟩ := key s1' (g1.orEmp emF) p1 hk
        exact c2 C l ds' q H1 W2 o (s2.weak fun _ z => .inr z) ⟨g1.keep, fun a z => g1.new a (h2 a z)⟩ (x1.weak fun a z => z.imp (h2 a) id)
      · exact q.elim
end
end Dl
/-! DL10: calls of defs, methods, the making of instances. -/
namespace Dl
open PySem PySem.Spec L2
section
variable {K : PySem.W.Frag} {H H' : Hp} {X A W W' F G : AS} {σ : L2.St} {ρ : DEnv}
theorem RVs.re {vs : List V} {ds : List D} (r : RVs K H X vs ds F) : RE K H X (vs.map some) (ds.map some) F := by
  induction ds generalizing vs F with
  | nil => cases r with | nil e => exact .nil e
  | cons d ds ih => cases r with | cons r1 r2 dj u => exact .so r1 (ih r2) dj u
/-- may a result be kept where the arguments are owned elsewhere: it holds nothing that is not owned and can be written -/
def cleanD : D → Bool
  | .lst false _ => false
  | .dct false _ => false
  | .dcT false _ => false
  | .obj false _ _ _ => false
  | .exc _ (some _) _ _ => false
  | .lst true l => cleanL l
  | .tup l => cleanL l
  | .key l => cleanL l
  | .dct true l => cleanK l
  | .dcT true l => cleanT l
  | .obj true _ _ l => cleanL l
  | _ => true
where
  cleanL : List D → Bool
    | [] => true
    | d :: l => cleanD d && cleanL l
  cleanK : List (Key × D) → Bool
    | [] => true
    | (_, d) :: l => cleanD d && cleanK l
  cleanT : List (List Key × D) → Bool
    | [] => true
    | (_, d) :: l => cleanD d && cleanT l
theorem cleanK_eq : ∀ l : List (Key × D), cleanD.cleanK l = cleanD.cleanL (l.map (·.2))
  | [] => by simp [cleanD.cleanK, cleanD.cleanL]
  | (_, d) :: l => by simp [cleanD.cleanK, cleanD.cleanL, cleanK_eq l]
theorem cleanT_eq : ∀ l : List (List Key × D), cleanD.cleanT l = cleanD.cleanL (l.map (·.2))
  | [] => by simp [cleanD.cleanT, cleanD.cleanL]
  | (_, d) :: l => by simp [cleanD.cleanT, cleanD.cleanL, cleanT_eq l]
end
section
variable {X : Cx} {e a : Expr} {es : List Expr} {T Ta : ET} {Tl : LT} {pos : Pos} {n k : Nat} {f C : Addr} {fd : FuncData} {ps : List Str} {S : DSp} {x m : Str} {p apos : Pos}

/-- a quiet call: nothing owned is handed in -/
def dCall (n : Nat) (S : DSp) (Tl : LT) : ET := fun ρ k => Tl ρ fun ρ1 ds => ds.length = n ∧ allFz ds (S ds (fun d _ => k ρ1 d) fun _ _ _ => False)
theorem sp_quiet {K : PySem.W.Frag} {A W : AS} {H H1 : Hp} {σ : L2.St} {ρ : DEnv} {k : DEnv → D → Prop} {Q : VK} (s : Std K A H σ ρ W) (c : ∀ d, k ρ d → ∀ (v : V) (H' : Hp) (F : AS), Ext H H' → (∀ a, F a → H a = none) → RV K H' (Or2 F (Or2 W A)) v d F → Q v H')
    {ds : List D} {vs : List V} (x1 : Ext H H1) (r1 : RVs K H1 (Or2 W A) vs ds (fun _ => False)) (q1 : ds.length = n) (q3 : S ds (fun d _ => k ρ d) fun _ _ _ => False) : spD K n S vs H1 Q E0 := by
  refine ⟨by rw [rvs_length r1]; exact q1, Or2 W A, fun _ => False, ds, _, _, ⟨(r1.weak fun a z => z.elim False.elim id).re, fun _ z => z.elim, fun a z => ?_⟩, q3, fun d ds' kd v H' W' F s' r' g => ?_, fun C l ds' z => z.elim⟩
  · exact (s.ext x1).re.there a |> fun h => z.elim h fun z => ext_mut x1 (s.am a z)
  · have x2 : Ext H1 H' := fun a o h => g.keep a o h fun z => z
    have nw : ∀ a, F a → H1 a = none := fun a z => (g.new a (.inr z)).elim False.elim id
    exact c d kd v H' F (ext_trans x1 x2) (new_back x1 nw) (r'.weak fun a z => .inr z)
theorem dn_call (hg : Gl X x) {k : Nat} (Fn : FnGX X k f fd ps (spD X.K n S)) (hr : RoomG k X.A) (hm : X.mg x = some (.ref f)) (hk : PySem.W.keepIn X.K (.ref f) = true) (hb : Binds X.K fd ps [])
    (ha : DLQ X (e :: es) Tl) (hdb : (x == ("__debug__" : Str)) = false := by decide) (he : starEach (e :: es) X.env = (false, eval e X.env) :: starEach es X.env := by rfl) (hpl : (backTo pos (starEach es X.env)).any (·.1) = false := by rfl) :
    DN X (.Call (.Name x p) (e :: es) [] pos) (dCall n S Tl) := pe_imp (pe_callG (E := fun _ => E0) Fn hr hg hm hk hb passN ha hdb he hpl) fun σ H Q ⟨A, ρ, W, k, s, t, c⟩ => by
  refine ⟨A, ρ, W, _, s, t, fun ds ⟨q1, q2⟩ vs H1 x1 r1 => ?_⟩
  obtain ⟨q2, q3⟩ := allFz_get q2
  exact sp_quiet s c x1 (r1.side q2) q1 q3
/-- f() -/
theorem dn_call0 (hg : Gl X x) {k : Nat} (Fn : FnGX X k f fd ps (spD X.K n S)) (hr : RoomG k X.A) (hm : X.mg x = some (.ref f)) (hk : PySem.W.keepIn X.K (.ref f) = true) (hb : Binds X.K fd ps [])
    (hdb : (x == ("__debug__" : Str)) = false := by decide) : DN X (.Call (.Name x p) [] [] pos) (dCall n S dNil) := pe_imp (pe_callG0 (E := fun _ => E0) Fn hr hg hm hk hb passN hdb) fun σ H Q ⟨A, ρ, W, k, s, ⟨q1, t⟩, c⟩ => by
  obtain ⟨_, q3⟩ := allFz_get t
  exact sp_quiet s c (fun _ _ z => z) (.nil emF) q1 q3
/-- o.m(e, ..), quiet -/
def dMeth (C : Addr) (ns : List Str) (n : Nat) (S : DSp) (Ta : ET) (Tl : LT) : ET := fun ρ k => Ta ρ fun ρ1 o => (match o with | .obj _ C' ns' _ => C' = C ∧ ns' = ns | _ => False) ∧ Tl ρ1 fun ρ2 ds => (o :: ds).length = n ∧ allFz (o :: ds) (S (o :: ds) (fun d _ => k ρ2 d) fun _ _ _ => False)
theorem lookup_none {α : Type} {vs : List (Str × α)} {f : Str} (h : f ∉ vs.map (·.1)) : vs.lookup f = none := by
  induction vs with
  | nil => rfl
  | cons p vs ih =>
    simp only [List.map_cons, List.mem_cons, not_or] at h
    obtain ⟨n, v⟩ := p
    have e' : (f == n) = false := by simpa using h.1
    simp only [List.lookup, e']
    exact ih h.2
theorem dn_meth {ns : List Str} {k : Nat} {pl : Sem Bool} (ho : DQ X a Ta) (cl : Cls X.K C) (hm : Meth X.K C m f) (Fn : FnGX X k f fd ps (spD X.K n S)) (hr : RoomG k X.A) (hb : Binds X.K fd ps [])
    (hns : ns.contains m = false) (ha : DLQ X (e :: es) Tl)
    (hst : starEach (e :: es) X.env = (false, eval e X.env) :: starEach es X.env := by rfl) (hpl : (backTo pos (starEach es X.env)).any (·.1) = false := by rfl)
    (ht : eval (.Call (.Attribute a m apos) (e :: es) [] pos) X.env = (do
      let ov ← eval a X.env
      standAt apos.atName
      let (f, first) ← holding [ov] (getMethod ov m pl)
      callWith pos f first (backTo pos (starEach (e :: es) X.env)) (backToKw pos (keywordEach [] X.env))) := by rfl) :
    DN X (.Call (.Attribute a m apos) (e :: es) [] pos) (dMeth C ns n S Ta Tl) := pe_imp (pe_methG (pl := pl) (E := fun _ => E0) ho cl hm Fn hr hb passN ha hst hpl ht) fun σ H Q ⟨A, ρ, W, k, s, t, c⟩ => by
  refine ⟨A, ρ, W, _, s, t, fun o ⟨q0, q⟩ vo H1 Fo x1 ro => ?_⟩
  cases o with
  | obj mm C' ns' l =>
    obtain ⟨rfl, rfl⟩ := q0
    obtain ⟨ad, dx, fs, G, rfl, had, hn, rl, _, _⟩ := rv_obj ro
    refine ⟨ad, dx, fs, rfl, had, lookup_none (by rw [hn]; simpa using hns), A, ρ, W, _, s.ext x1, q, fun ds ⟨q1, q2⟩ vs H2 x2 r2 => ?_⟩
    obtain ⟨q2, q3⟩ := allFz_get q2
    exact sp_quiet s c (ext_trans x1 x2) ((RVv.cons (ro.ext x2 fun a z => .inl z) r2).side q2) q1 q3
  | _ => exact q0.elim
/-- o.m() -/
theorem dn_meth0 {ns : List Str} {k : Nat} {pl : Sem Bool} (ho : DQ X a Ta) (cl : Cls X.K C) (hm : Meth X.K C m f) (Fn : FnGX X k f fd ps (spD X.K n S)) (hr : RoomG k X.A) (hb : Binds X.K fd ps [])
    (hns : ns.contains m = false)
    (ht : eval (.Call (.Attribute a m apos) [] [] pos) X.env = (do
      let ov ← eval a X.env
      standAt apos.atName
      let (f, first) ← holding [ov] (getMethod ov m pl)
      callWith pos f first (backTo pos (starEach [] X.env)) (backToKw pos (keywordEach [] X.env))) := by rfl) :
    DN X (.Call (.Attribute a m apos) [] [] pos) (dMeth C ns n S Ta dNil) := pe_imp (pe_methG0 (pl := pl) (E := fun _ => E0) ho cl hm Fn hr hb passN ht) fun σ H Q ⟨A, ρ, W, k, s, t, c⟩ => by
  refine ⟨A, ρ, W, _, s, t, fun o ⟨q0, q1, q2⟩ vo H1 Fo x1 ro => ?_⟩
  cases o with
  | obj mm C' ns' l =>
    obtain ⟨rfl, rfl⟩ := q0
    obtain ⟨ad, dx, fs, G, rfl, had, hn, rl, _, _⟩ := rv_obj ro
    obtain ⟨q2, q3⟩ := allFz_get q2
    refine ⟨ad, dx, fs, rfl, had, lookup_none (by rw [hn]; simpa using hns), ?_⟩
    exact sp_quiet s c x1 ((RVv.cons ro .nil).side q2) q1 q3
  | _ => exact q0.elim

/-! ### calls that write what they are handed -/
/-- an effectful call: what the arguments own is given up -/
def dCallE (n : Nat) (S : DSp) (Tl : LT) : ET := fun ρ k => Tl ρ fun ρ1 ds => ds.length = n ∧ S (ds.map fz) (fun d _ => k ρ1 d) fun _ _ _ => False
theorem de_call (hg : Gl X x) {k : Nat} (Fn : FnGX X k f fd ps (spD X.K n S)) (hr : RoomG k X.A) (hm : X.mg x = some (.ref f)) (hk : PySem.W.keepIn X.K (.ref f) = true) (hb : Binds X.K fd ps [])
    (ha : DL X (e :: es) Tl) (hdb : (x == ("__debug__" : Str)) = false := by decide) (he : starEach (e :: es) X.env = (false, eval e X.env) :: starEach es X.env := by rfl) (hpl : (backTo pos (starEach es X.env)).any (·.1) = false := by rfl) :
    DE X (.Call (.Name x p) (e :: es) [] pos) (dCallE n S Tl) := pe_imp (pe_callG (E := fun _ => E0) Fn hr hg hm hk hb passN ha hdb he hpl) fun σ H Q ⟨A, ρ, W, k, s, t, c⟩ => by
  refine ⟨A, ρ, W, _, s, t, fun ρ1 ds ⟨q1, q3⟩ vs H1 W1 F1 s1 r1 g1 => ?_⟩
  have djf : Dj F1 A := dj_FA s.dj s.am g1
  have rf : RVs X.K H1 (Or2 W1 A) vs (ds.map fz) (fun _ => False) := r1.fz fun a z => by
    rcases z with z | z
    · exact ⟨.inl z, fun y => s1.dj a z (.inl y)⟩
    · exact ⟨.inr (.inr z), fun y => djf a y z⟩
  have s1' : Std X.K A H1 σ ρ1 W1 := s1.weak fun a z => .inr z
  refine ⟨by rw [rvs_length r1]; exact q1, Or2 W1 A, fun _ => False, ds.map fz, _, _, ⟨(rf.weak fun a z => z.elim False.elim id).re, fun _ z => z.elim, fun a z => z.elim (s1.wm a) (s1'.am a)⟩, q3, fun d ds' kd v H' W' F s' r' g => ?_, fun C l ds' z => z.elim⟩
  have x2 : Ext H1 H' := fun a o h => g.keep a o h fun z => z
  have nw : ∀ a, F a → H1 a = none := fun a z => (g.new a (.inr z)).elim False.elim id
  refine c ρ1 d kd v H' W1 F (s1'.grow x2 nw r'.there) (r'.weak fun a z => ?_) ⟨(g1.left.trans (Go.ext W1 x2)).keep, fun a z => z.elim (fun z => g1.new a (.inl z)) fun z => g1.left.old (nw a z) s.wm⟩
  rcases z with z | z | z
  · exact .inr (.inr (.inl z))
  · exact .inr (.inl z)
  · exact .inr (.inr (.inr z))

/-- f(x, ..): the name x in slot i is written by the call -/
def dCallIO (n : Nat) (S : DSp) (i : Nat) (Tl : LT) : ET := fun ρ k => nameV ρ i fun _ => Tl ρ fun ρ1 ds => nameV ρ1 i fun d0 => (d0 :: ds).length = n ∧
  S (d0 :: ds.map fz) (fun d ds' => match ds' with
    | d0' :: _ => k (ρ1.set i (some d0')) d
    | [] => False) fun _ _ _ => False
theorem io_step {K : PySem.W.Frag} {A W W1 F1 : AS} {H H1 : Hp} {σ : L2.St} {ρ ρ1 : DEnv} {i : Nat} {v0 : V} {d0 : D} {ds : List D} {vs : List V} {k : DEnv → D → Prop} {Q : VK} (s : Std K A H σ ρ W)
    (c : ∀ ρ' d, k ρ' d → ∀ (v : V) (H' : Hp) (W' F : AS), Std K (Or2 F A) H' σ ρ' W' → RV K H' (Or2 W' (Or2 F A)) v d F → Go W (Or2 W' F) H H' → Q v H') (hv : σ[i]? = some (some v0))
    (s1 : Std K (Or2 F1 A) H1 σ ρ1 W1) (r1 : RVs K H1 (Or2 W1 (Or2 F1 A)) vs ds F1) (g1 : Go W (Or2 W1 F1) H H1) (h0 : ρ1[i]? = some (some d0)) (hl : (d0 :: ds).length = n)
    (q : S (d0 :: ds.map fz) (fun d ds' => match ds' with
      | d0' :: _ => k (ρ1.set i (some d0')) d
      | [] => False) fun _ _ _ => False) : spD K n S (v0 :: vs) H1 Q E0 := by
  obtain ⟨v, Fi, Wr, hv', r0, re, dj, eq⟩ := s1.re.drop h0
  rw [hv] at hv'
  cases hv'
  have djf : Dj F1 A := dj_FA s.dj s.am g1
  have wm := s1.wm
  have rf : RVs K H1 (Or2 Fi (Or2 Wr A)) vs (ds.map fz) (fun _ => False) := r1.fz fun a z => by
    rcases z with z | z | z
    · exact ⟨.inl ((eq a).mpr (.inl z)), fun y => s1.dj a ((eq a).mpr (.inl z)) (.inl y)⟩
    · exact ⟨.inl ((eq a).mpr (.inr z)), fun y => s1.dj a ((eq a).mpr (.inr z)) (.inl y)⟩
    · exact ⟨.inr (.inr z), fun y => djf a y z⟩
  have r0' : RV K H1 (Or2 Fi (Or2 Wr A)) v0 d0 Fi := r0.weak fun a z => by
    rcases z with z | z | z
    · exact .inl ((eq a).mpr (.inl z))
    · exact .inl ((eq a).mpr (.inr z))
    · exact .inr (.inr z)
  refine ⟨by have := rvs_length r1; simp at hl ⊢; omega, Or2 Wr A, Fi, d0 :: ds.map fz, _, _, ⟨.so r0' rf.re (fun _ _ z => z) fun b => ⟨.inl, fun z => z.elim id False.elim⟩, fun a z y => ?_, fun a z => ?_⟩, q, fun d ds' kd v' H' W' F s' r' g => ?_, fun C l ds' z => z.elim⟩
  · rcases y with y | y
    · exact dj a z y
    · exact s1.dj a ((eq a).mpr (.inl z)) (.inr y)
  · rcases z with z | z
    · exact wm a ((eq a).mpr (.inr z))
    · exact s1.am a (.inr z)
  · cases ds' with
    | nil => exact kd.elim
    | cons d0' ds'' =>
      -- the state behind: the rest of the environment stands, slot i holds d0'
      cases s'.re with
      | @so _ _ _ _ G0 Gr _ rv0 rer djr ur =>
        have fim : ∀ a, Fi a → Mut (H1 a) := r0.there
        have lt : LaterT (Or2 W1 (Or2 F1 A)) (fun a => G0 a ∨ Wr a ∨ F a ∨ A a) Fi H1 H' := by
          refine ⟨⟨g.keep, fun a z => .inl ((eq a).mpr (.inl z)), fun a z => ?_⟩, fun a xs h nm => g.keep a _ h fun z => mut_not (fim a z) nm h⟩
          rcases z with z | z | z | z
          · exact (g.new a (.inl ((ur a).mpr (.inl z)))).imp (fun z => .inl ((eq a).mpr (.inl z))) id
          · exact .inl (.inl ((eq a).mpr (.inr z)))
          · exact (g.new a (.inr z)).imp (fun z => .inl ((eq a).mpr (.inl z))) id
          · exact .inl (.inr (.inr z))
        have re' : RE K H' (fun a => G0 a ∨ Wr a ∨ F a ∨ A a) σ (ρ1.set i none) Wr := re.later lt fun a z y => dj a y z
        have djg : Dj G0 Wr := fun a z y => s'.dj a ((ur a).mpr (.inl z)) (.inr (.inl y))
        have rv0' : RV K H' (fun a => G0 a ∨ Wr a ∨ F a ∨ A a) v0 d0' G0 := rv0.weak fun a z => by
          rcases z with z | z | z | z
          · exact .inl ((ur a).mpr (.inl z))
          · exact .inr (.inr (.inl z))
          · exact .inr (.inl z)
          · exact .inr (.inr (.inr z))
        have put := re'.put hv (set_none_get h0) rv0' djg
        rw [set_none_set] at put
        have am' : ∀ a, Or2 F A a → Mut (H' a) := fun a z => by
          rcases z with z | z
          · exact s'.am a (.inl z)
          · exact s'.am a (.inr (.inr z))
        refine c _ d kd v' H' (fun a => G0 a ∨ Wr a) F ⟨put.ext (fun _ _ z => z) fun a z => .inl ?_, fun a z y => ?_, am'⟩ (r'.weak fun a z => ?_) ⟨fun a o h n => ?_, fun a z => ?_⟩
        · rcases z with (z | z) | z | z
          · exact .inl z
          · exact .inr (.inl z)
          · exact .inr (.inr (.inl z))
          · exact .inr (.inr (.inr z))
        · rcases z with z | z
          · have := s'.dj a ((ur a).mpr (.inl z))
            rcases y with y | y
            · exact this (.inl y)
            · exact this (.inr (.inr y))
          · rcases y with y | y
            · rcases g.new a (.inr y) with w | w
              · exact dj a w z
              · exact mut_ne (wm a ((eq a).mpr (.inr z))) w
            · exact s1.dj a ((eq a).mpr (.inr z)) (.inr y)
        · rcases z with (z | z) | z | z
          · exact .inl ((ur a).mpr (.inl z))
          · exact .inr (.inr (.inl z))
          · exact .inr (.inl z)
          · exact .inr (.inr (.inr z))
        · refine g.keep a o (g1.keep a o h n) fun z => ?_
          rcases g1.new a (.inl ((eq a).mpr (.inl z))) with w | w
          · exact n w
          · rw [h] at w; cases w
        · have back : ∀ a, W1 a ∨ H1 a = none → W a ∨ H a = none := fun a z => z.elim (fun z => g1.new a (.inl z)) fun z => g1.left.old z s.wm
          rcases z with (z | z) | z
          · exact back a ((g.new a (.inl ((ur a).mpr (.inl z)))).imp (fun z => (eq a).mpr (.inl z)) id)
          · exact back a (.inl ((eq a).mpr (.inr z)))
          · exact back a ((g.new a (.inr z)).imp (fun z => (eq a).mpr (.inl z)) id)
theorem de_callIO (i : Nat) (hg : Gl X x) {k : Nat} (Fn : FnGX X k f fd ps (spD X.K n S)) (hr : RoomG k X.A) (hm : X.mg x = some (.ref f)) (hk : PySem.W.keepIn X.K (.ref f) = true) (hb : Binds X.K fd ps [])
    (h0 : PE X e (tVar i)) (ha : DL X es Tl) (hdb : (x == ("__debug__" : Str)) = false := by decide) (he : starEach (e :: es) X.env = (false, eval e X.env) :: starEach es X.env := by rfl) (hpl : (backTo pos (starEach es X.env)).any (·.1) = false := by rfl) :
    DE X (.Call (.Name x p) (e :: es) [] pos) (dCallIO n S i Tl) := pe_imp (pe_callG (E := fun _ => E0) Fn hr hg hm hk hb passN (pa_cons h0 ha he) hdb he hpl) fun σ H Q ⟨A, ρ, W, k, s, t, c⟩ => by
  obtain ⟨dz, hz, t⟩ := nameV_get t
  obtain ⟨v0, Fz, hv, _, _⟩ := s.re.get hz
  refine ⟨v0, hv, A, ρ, W, _, s, t, fun ρ1 ds q vs H1 W1 F1 s1 r1 g1 => ?_⟩
  obtain ⟨d0, h0, hl, q⟩ := nameV_get q
  exact io_step s c hv s1 r1 g1 h0 hl q
end
end Dl
/-! DL11: comprehensions, quiet ones. -/
namespace Dl
open PySem PySem.Spec L2

/-! ### what is walked, quietly -/
def tIQ (K : PySem.W.Frag) (T : DIt) : TI := fun σ H R => ∃ (A : AS) (ρ : DEnv) (W : AS) (k : DEnv → List D → Prop), Std K A H σ ρ W ∧ T ρ k ∧
  ∀ ds, k ρ ds → ∀ J H1, Ext H H1 → ItOk K J (fun _ => False) (Or2 W A) H1 ds → R J H1
def DIQ (X : Cx) (tg iter : Expr) (T : DIt) : Prop := PI X tg iter (tIQ X.K T)
def wipeD (ρ : DEnv) : List Nat → DEnv
  | [] => ρ
  | v :: vs => (wipeD ρ vs).set v none
section
variable {K : PySem.W.Frag} {H H' : Hp} {X A W W' F G : AS} {σ : L2.St} {ρ : DEnv}
theorem RE.none_at (r : RE K H X σ ρ F) (i : Nat) : ∃ F', RE K H X (σ.set i none) (ρ.set i none) F' ∧ ∀ a, F' a → F a := by
  induction r generalizing i with
  | nil e => exact ⟨_, .nil e, fun _ z => z⟩
  | no r ih =>
    cases i with
    | zero => exact ⟨_, .no r, fun _ z => z⟩
    | succ i => obtain ⟨F', h1, h2⟩ := ih i; exact ⟨F', .no h1, h2⟩
  | so r0 r dj u ih =>
    cases i with
    | zero => exact ⟨_, .no r, fun a z => (u a).mpr (.inr z)⟩
    | succ i =>
      obtain ⟨F', h1, h2⟩ := ih i
      exact ⟨_, .so r0 h1 (fun a z y => dj a z (h2 a y)) fun b => Iff.rfl, fun a z => (u a).mpr (z.imp id (h2 a))⟩
theorem RE.wipe (r : RE K H X σ ρ F) (vs : List Nat) : ∃ F', RE K H X (wipe σ vs) (wipeD ρ vs) F' ∧ ∀ a, F' a → F a := by
  induction vs with
  | nil => exact ⟨F, r, fun _ z => z⟩
  | cons v vs ih =>
    obtain ⟨F', h1, h2⟩ := ih
    obtain ⟨F2, h3, h4⟩ := h1.none_at v
    exact ⟨F2, h3, fun a z => h2 a (h4 a z)⟩
/-- in the block: the block's own names are not known; what was owned is owned elsewhere -/
theorem Std.wipe (s : Std K A H σ ρ W) (vs : List Nat) : ∃ F', Std K (fun a => (W a ∧ ¬ F' a) ∨ A a) H (L2.wipe σ vs) (wipeD ρ vs) F' ∧ ∀ a, F' a → W a := by
  obtain ⟨F', h1, h2⟩ := s.re.wipe vs
  refine ⟨F', ⟨h1.ext (fun _ _ z => z) fun a z => .inl ?_, fun a z y => ?_, fun a z => ?_⟩, h2⟩
  · rcases z with z | z | z
    · exact .inl (h2 a z)
    · exact .inl z.1
    · exact .inr z
  · rcases y with y | y
    · exact y.2 z
    · exact s.dj a (h2 a z) y
  · exact z.elim (fun z => s.wm a z.1) (s.am a)
/-- something owned elsewhere is written -/
theorem Std.upd {a : Addr} {o : HO} (s : Std K A H σ ρ W) (ha : A a) (ho : Mut (some o)) : Std K A (upd H a o) σ ρ W := by
  have lt : LaterT (Or2 W A) (Or2 W A) (fun b => b = a) H (L2.upd H a o) := ⟨⟨fun b u h n => by rw [upd_ne n]; exact h, fun b z => by subst z; exact .inr ha, fun b z => .inl z⟩, fun b xs h nm => by
    rw [upd_ne]; exact h
    intro z; subst z
    exact mut_not (s.am _ ha) nm h⟩
  refine ⟨s.re.later lt fun b z y => ?_, s.dj, fun b z => ?_⟩
  · subst y; exact s.dj _ z ha
  · by_cases e : b = a
    · subst e; rw [upd_same]; exact ho
    · rw [upd_ne e]; exact s.am b z
theorem RVs.upd {a : Addr} {o : HO} {vs : List V} {ds : List D} (r : RVs K H X vs ds F) (ha : X a) (hf : ¬ F a) (hm : Mut (H a)) : RVs K (upd H a o) X vs ds F := by
  refine r.later (W := fun b => b = a) ⟨⟨fun b u h n => by rw [upd_ne n]; exact h, fun b z => by subst z; exact ha, fun b z => .inl z⟩, fun b xs h nm => ?_⟩ fun b z y => by subst y; exact hf z
  rw [upd_ne]; exact h
  intro z; subst z
  exact mut_not hm nm h
theorem wipe_only {L : List Nat} {σ σ' : L2.St} (h : Only L σ σ') : L2.wipe σ' L = L2.wipe σ L := by
  have gen : ∀ (M : List Nat) (τ τ' : L2.St), τ'.length = τ.length → (∀ i, i ∉ M → τ'[i]? = τ[i]?) → L2.wipe τ' M = L2.wipe τ M := fun M => by
    intro τ τ' hl hn
    apply List.ext_getElem?
    intro i
    have inM : ∀ (M : List Nat) (τ : L2.St), i ∈ M → (L2.wipe τ M)[i]? = if i < τ.length then some none else none := fun M => by
      intro τ
      induction M with
      | nil => intro z; simp at z
      | cons v vs ih =>
        intro z
        unfold L2.wipe
        by_cases e : v = i
        · subst e
          by_cases hv : v < τ.length
          · rw [List.getElem?_set_self (by rw [wipe_length]; exact hv), if_pos hv]
          · rw [List.getElem?_eq_none (by rw [List.length_set, wipe_length]; omega), if_neg hv]
        · rw [List.getElem?_set_ne e]
          exact ih (by simpa [Ne.symm e, eq_comm, e] using (List.mem_cons.mp z).resolve_left fun q => e q.symm)
    by_cases hi : i ∈ M
    · rw [inM M τ' hi, inM M τ hi, hl]
    · rw [wipe_out hi, wipe_out hi]
      exact hn i hi
  exact gen L σ σ' h.1 h.2
end

/-! ### a list comprehension -/
/-- by an invariant over what is made and what is left to be walked -/
def compD (g : DTg) (tt : TTd) (te : ET) (ρb : DEnv) (k : D → Prop) (ds : List D) : Prop := ∃ I : List D → List D → Prop, I [] ds ∧
  (∀ acc d r, I acc (d :: r) → g d ρb fun ρ1 => tt ρ1 fun _ b => match b with
    | true => te ρ1 fun _ y => acc.length < sizeLine ∧ I (acc ++ [y]) r
    | false => I acc r) ∧ ∀ acc, I acc [] → k (.lst true acc)
def dLc (I : DIt) (g : DTg) (tt : TTd) (te : ET) (own : List Nat) : ET := fun ρ k => I ρ fun ρ1 ds => compD g tt te (wipeD ρ1 own) (k ρ1) ds
def tPN (X : Cx) (ifs : List Expr) (T : TTd) : Prop := PTs X ifs (tTN X.K T)
def dYes : TTd := fun ρ k => k ρ true
theorem dpts_nil {X : Cx} : PTs X [] (tTN X.K dYes) := ⟨fun pins s σ H Q I ⟨A, ρ, W, k, st, t, c⟩ => pts_nil.run pins s σ H Q I (c true t H fun _ _ z => z)⟩
theorem dpts_one {X : Cx} {c : Expr} {t : TTd} (h : DTN X c t) : PTs X [c] (tTN X.K t) := pts_one h
section
variable {X : Cx} {elt tg iter : Expr} {ifs : List Expr} {scope : Scope} {own : List (Str × Nat)} {pos : Pos} {I : DIt} {g : DTg} {tt : TTd} {te : ET}
/-- a block's context -/
abbrev Blk (X : Cx) (scope : Scope) (Φ : Cx → Prop) : Prop := ∀ (s : Shared) (H : Hp) (C : Addr) (cl : List (Str × Addr)) (fp : List Addr), Φ (X.blk s H scope (compEnvC scope cl C X.env) fp)
theorem lc_read {K : PySem.W.Frag} (σ : L2.St) (H : Hp) (Q : VK) (vs : List Nat) (h : tN K (dLc I g tt te vs) σ H Q) : tLc (tIQ K I) (tG K vs g) (tTN K tt) (tN K te) vs σ H Q := by
  obtain ⟨A, ρ, W, k, s, t, c⟩ := h
  refine ⟨A, ρ, W, _, s, t, fun ds ⟨Iv, q, hstep, hend⟩ J H1 x1 it DD hD => ?_⟩
  -- the block's environment
  obtain ⟨Fb, sb, subb⟩ := (s.ext x1).wipe vs
  have extD : Ext H1 (upd H1 DD (.lst [])) := ext_upd hD
  -- what holds at turn i: the items so far
  let Inv : Nat → Hp → Prop := fun i H2 => i ≤ ds.length ∧ ∃ (acc : List D) (ws : List V) (F : AS), Iv acc (ds.drop i) ∧ Ext H1 H2 ∧ H2 DD = some (.lst ws) ∧
    (∀ a, F a → H1 a = none) ∧ ¬ F DD ∧ RVs K H2 (fun a => a = DD ∨ F a ∨ Or2 W A a) ws acc F ∧ Std K (fun a => (a = DD ∨ F a) ∨ (W a ∧ ¬ Fb a) ∨ A a) H2 (wipe σ vs) (wipeD ρ vs) Fb
  refine ⟨fun i m H2 => m = ds.length - i ∧ Inv i H2, ⟨ds.length, by simp, Nat.zero_le _, [], [], fun _ => False, by simpa using q, extD, upd_same, fun _ z => z.elim, fun z => z, .nil emF, ?_⟩, ?_⟩
  · have s1 := sb.grow (F := fun a => a = DD) extD (fun a z => by subst z; exact hD) fun a z => by subst z; rw [upd_same]; trivial
    refine s1.weak fun a z => ?_
    rcases z with (z | z) | z
    · exact .inl z
    · exact z.elim
    · exact .inr z
  · rintro i m H2 ⟨rfl, hi, acc, ws, F, cd, x2, hD2, hn, nF, rv, sb2⟩
    obtain ⟨it1, it2⟩ := it H2 (fun a o h _ => x2 a o h) i
    have mD : Mut (H2 DD) := by rw [hD2]; trivial
    by_cases hlt : i < ds.length
    · have hd : ds.drop i = ds[i] :: ds.drop (i + 1) := List.drop_eq_getElem_cons hlt
      rw [hd] at cd
      obtain ⟨go, yl⟩ := it1 ds[i] (by simp [hlt])
      refine .inr ⟨go, fun H' => ∃ m', m' < ds.length - i ∧ m' = ds.length - (i + 1) ∧ Inv (i + 1) H', fun H' ⟨m', h1, h2, h3⟩ => ⟨m', h1, h2, h3⟩, fun x H3 y => ?_⟩
      obtain ⟨x23, rx⟩ := yl x H3 y
      have rx' := rx (Or2 Fb (fun a => (a = DD ∨ F a) ∨ (W a ∧ ¬ Fb a) ∨ A a)) fun a z => by
        rcases z with z | (z | z) | z | z
        · exact .inr (.inl (.inl (subb a z)))
        · subst z; exact .inr (.inr hD)
        · exact .inr (.inr (hn a z))
        · exact .inr (.inl (.inl z.1))
        · exact .inr (.inl (.inr z))
      have hD3 : H3 DD = some (.lst ws) := x23 _ _ hD2
      have rv3 : RVs K H3 (fun a => a = DD ∨ F a ∨ Or2 W A a) ws acc F := rv.ext x23 fun a z => .inl z
      refine ⟨_, wipeD ρ vs, Fb, ds[i], _, sb2.ext x23, rx', hstep _ _ _ cd, fun ρ4 q4 σ4 H4 W4 s4 x4 w4 o4 => ⟨wipe_only o4 |>.trans (by
        -- wiped twice
        apply wipe_only
        exact ⟨wipe_length σ vs, fun j hj => wipe_out hj⟩), ?_⟩⟩
      have x34 := ext_trans x23 x4
      refine ⟨_, ρ4, W4, _, s4, q4, fun b qb H5 x5 => ?_⟩
      have x25 := ext_trans x34 x5
      have hD5 : H5 DD = some (.lst ws) := x25 _ _ hD2
      have sb5 := sb2.ext x25
      cases b with
      | false =>
        show if false = true then _ else _
        rw [if_neg Bool.false_ne_true]
        exact ⟨ds.length - (i + 1), by omega, rfl, hlt, acc, ws, F, qb, ext_trans x2 x25, hD5, hn, nF, rv.ext x25 fun a z => .inl z, sb5⟩
      | true =>
        show if true = true then _ else _
        rw [if_pos rfl]
        refine ⟨_, ρ4, W4, _, s4.ext x5, qb, fun yd qy v6 H6 F6 x6 n6 r6 => ?_⟩
        have x26 := ext_trans x25 x6
        have hD6 : H6 DD = some (.lst ws) := x26 _ _ hD2
        obtain ⟨hz, cd'⟩ := qy
        have n61 : ∀ a, F6 a → H1 a = none := new_back (ext_trans x2 x25) n6
        have nD6 : ¬ F6 DD := fun z => by have := n6 DD z; rw [hD5] at this; cases this
        have djF : Dj F F6 := fun a z y => by
          have m := rv.there a z
          have := ext_mut x25 m
          exact mut_ne this (n6 a y)
        have W4b : ∀ a, W4 a → W a := fun a z => subb a (w4 a z)
        have cov : ∀ a, Or2 W A a → Or2 W4 (fun a => (Fb a ∧ ¬ W4 a) ∨ (a = DD ∨ F a) ∨ (W a ∧ ¬ Fb a) ∨ A a) a := fun a z => by
          rcases z with z | z
          · refine Classical.byCases (p := Fb a) (fun y => ?_) fun n => .inr (.inr (.inr (.inl ⟨z, n⟩)))
            exact Classical.byCases (p := W4 a) .inl fun n => .inr (.inl ⟨y, n⟩)
          · exact .inr (.inr (.inr (.inr z)))
        have rva : RVs K H6 (fun a => a = DD ∨ (F a ∨ F6 a) ∨ Or2 W A a) ws acc F := rv.ext x26 fun a z => by
          rcases z with z | (z | z) | z
          · exact .inl (.inl z)
          · exact .inl (.inr (.inl z))
          · exact .inr (new_back x25 n6 a z)
          · exact .inl (.inr (.inr z))
        have rvy : RV K H6 (fun a => a = DD ∨ (F a ∨ F6 a) ∨ Or2 W A a) v6 yd F6 := r6.weak fun a z => by
          rcases z with z | (z | z) | z
          · exact .inr (.inr (.inr (.inl (.inl z))))
          · exact .inr (.inr (.inr (.inl (.inr z))))
          · exact .inl z
          · exact .inr (cov a z)
        have rvn := rvs_append rva (.cons rvy (.nil emF) (fun _ _ z => z) fun b => Iff.rfl) (G := fun b => F6 b ∨ False) fun a z y => y.elim (djF a z) False.elim
        have mD6 : Mut (H6 DD) := by rw [hD6]; trivial
        have rvn2 : RVs K (upd H6 DD (.lst (ws ++ [v6]))) (fun a => a = DD ∨ (F a ∨ F6 a) ∨ Or2 W A a) (ws ++ [v6]) (acc ++ [yd]) (fun a => F a ∨ F6 a) :=
          (rvn.upd (o := .lst (ws ++ [v6])) (.inl rfl) (fun z => z.elim nF fun z => z.elim nD6 id) mD6).congr fun a => ⟨fun z => z.imp id fun z => z.elim id False.elim, fun z => z.imp id .inl⟩
        have sb6 : Std K (Or2 F6 fun a => (a = DD ∨ F a) ∨ (W a ∧ ¬ Fb a) ∨ A a) H6 (L2.wipe σ vs) (wipeD ρ vs) Fb := sb5.grow x6 n6 r6.there
        have sb7 := (sb6.upd (a := DD) (o := .lst (ws ++ [v6])) (.inr (.inl (.inl rfl))) trivial).weak (A' := fun a => (a = DD ∨ (F a ∨ F6 a)) ∨ (W a ∧ ¬ Fb a) ∨ A a) fun a z => by
          rcases z with (z | z | z) | z
          · exact .inr (.inl (.inl z))
          · exact .inr (.inl (.inr z))
          · exact .inl z
          · exact .inr (.inr z)
        refine ⟨ws, hD6, by rw [rvs_length rva]; exact hz, ds.length - (i + 1), by omega, rfl, hlt, acc ++ [yd], ws ++ [v6], fun a => F a ∨ F6 a, cd', ?_, upd_same, fun a z => z.elim (hn a) (n61 a), fun z => z.elim nF nD6, rvn2, sb7⟩
        intro a o h
        rw [upd_ne (ne_of_none h hD)]
        exact ext_trans x2 x26 a o h
    · have e : ds.drop i = [] := List.drop_eq_nil_of_le (by omega)
      rw [e] at cd
      refine .inl ⟨it2 (by omega), ?_⟩
      refine c _ (hend _ cd) (.ref DD) H2 (fun a => a = DD ∨ F a) (ext_trans x1 x2) (fun a z => ?_) (.lst1 hD2 (rv.weak fun a z => ?_) nF fun b => Iff.rfl)
      · rcases z with z | z
        · exact new_back x1 (F := fun b => b = DD) (fun b z => z ▸ hD) a z
        · exact new_back x1 hn a z
      · rcases z with (z | z) | z
        · exact .inl z
        · exact .inr (.inl z)
        · exact .inr (.inr z)
theorem dn_lc (hc : X.calm = true) (hN : X.N.Nodup) (hi : DIQ X tg iter I) (ok : BlkOk X.N X.env.scope scope own)
    (hg : Blk X scope fun Y => DG Y (own.map (·.2)) tg g) (ht : Blk X scope fun Y => PTs Y ifs (tTN X.K tt)) (he : Blk X scope fun Y => DN Y elt te) (hs : ∀ x, foldedSetIterable iter X.env x = pure x := by intro _; rfl) :
    DN X (.ListComp elt [⟨tg, iter, ifs, 0⟩] scope pos) (dLc I g tt te (own.map (·.2))) := pe_imp (pe_lc hc hN hi ok (own := own) (g := tG X.K (own.map fun (p : Str × Nat) => p.2) g) (te := tN X.K te) (fun s H C cl fp => hg s H C cl fp) ht (fun s H C cl fp => he s H C cl fp) hs) fun σ H Q h => lc_read σ H Q _ h
/-- y = [..] on one line -/
theorem ds_setLc {E : WX} {P : List Nat} {i : Nat} {y : Str} {py spos : Pos} (hp : i ∉ P) (hc : X.calm = true) (hN : X.N.Nodup) (hy : X.N[i]? = some y) (hyl : X.env.scope.names.lookup y = some .local)
    (hsw : swapsWith (.ListComp elt [⟨tg, iter, ifs, 0⟩] scope pos) (some (.Name y py)) spos.line X.env = pure true) (hi : DIQ X tg iter I) (ok : BlkOk X.N X.env.scope scope own)
    (hg : Blk X scope fun Y => DG Y (own.map (·.2)) tg g) (ht : Blk X scope fun Y => PTs Y ifs (tTN X.K tt)) (he : Blk X scope fun Y => DN Y elt te) (hs : ∀ x, foldedSetIterable iter X.env x = pure x := by intro _; rfl) :
    DS X E P (.Assign [.Name y py] (.ListComp elt [⟨tg, iter, ifs, 0⟩] scope pos) spos) (dSet i (dLc I g tt te (own.map (·.2)))) := ps_imp (ps_setLc hc hN hy hyl hsw hi ok (own := own) (g := tG X.K (own.map fun (p : Str × Nat) => p.2) g) (te := tN X.K te) (fun s H C cl fp => hg s H C cl fp) ht (fun s H C cl fp => he s H C cl fp) hs) fun D σ H ⟨A, ρ, W, k, s, t, ok⟩ => by
  refine lc_read σ H _ _ ⟨A, ρ, W, _, s, t, fun d ⟨hl, q⟩ v H1 F x1 n1 r1 => ?_⟩
  exact set_step hp s.dj s.am ok hl q (s.grow x1 n1 r1.there) (r1.weak fun a z => z.elim (fun z => .inr (.inl z)) fun z => z.elim .inl fun z => .inr (.inr z)) ((Go.ext W x1).orNew n1)
end
end Dl
/-! EnT: enumerate over a tuple, as an iterator of the hand layer. -/
namespace Dl
open PySem PySem.Spec PyProof.Rows L2
open AutoSeq1 (wpAny_loadPart')
theorem meets_enumerate_newT (l : Addr) (items : Array Value) (n : Nat) (dct : Option Addr) (sl : Array (Option Value)) :
    Meets (Builtin.«enumerate.__new__» ⟨[.type "enumerate", .ref l], []⟩) (fun _ R s => s.heap.get? l = some { cls := .type "tuple", dict := dct, data := .seq items n, slots := sl } ∧
      R (.ok (.ret (.ref (s.heap.push { cls := .type "tuple_iterator", data := .fields #[.ref l, .int 0 0] }).objs.size)))
        { s with heap := (s.heap.push { cls := .type "tuple_iterator", data := .fields #[.ref l, .int 0 0] }).push { cls := .type "enumerate", data := .fields #[.none, .bool false, .ref s.heap.objs.size, rawInt 0, .none, .none] } }) :=
  .of_wp fun prog w A R s h => by
    obtain ⟨hp, g, d, tk, os⟩ := s; obtain ⟨hl, h⟩ := h
    have hsub := sub_enumerate
    have hL : Heap.IsTuple (Shared.heap ⟨hp, g, d, tk, os⟩) l items := ⟨_, hl, rfl, n, rfl⟩
    wp_walk using wpAny_loadPart' hl
    refine wpAny_stack_any fun st => wpAny_pure ?_
    split
    · rename_i c _ _ _ _ _
      cases (c == Value.type "enumerate")
      · wp_walk using wpAny_loadPart' hl, wpAny_pyIter_tuple hL
        exact ⟨_, rfl, h⟩
      · wp_walk using wpAny_loadPart' hl, wpAny_pyIter_tuple hL
        exact ⟨_, rfl, h⟩
    · wp_walk using wpAny_loadPart' hl, wpAny_pyIter_tuple hL
      exact ⟨_, rfl, h⟩
theorem call_enumerate_tuple {prog : Program} {w : World} {A : Around} {E : Value → Shared → Prop} {s : Shared} {l : Addr} {items : Array Value} {Q : Value → Shared → Prop} (hL : s.heap.IsTuple l items)
    (h : ∀ h', IsEnum h' (s.heap.objs.size + 1) s.heap.objs.size 0 .none → h'.IsTupleIter s.heap.objs.size l 0 → h'.objs.size = s.heap.objs.size + 2 →
      (∀ b o, s.heap.get? b = some o → h'.get? b = some o) → Q (.ref (s.heap.objs.size + 1)) { s with heap := h' }) :
    wpAny (model prog w) A (call (.type "enumerate") [.ref l]) Q E s := by
  obtain ⟨⟨c, dct, dt, sl⟩, hl, hc, n, hd⟩ := hL
  replace hc : c = .type "tuple" := hc
  replace hd : dt = .seq items n := hd
  subst hc hd
  refine callType_new F.called_enumerate (by decide) (F.typeCall_enumerate_1 _) (F.newCall_enumerate_1 _) (fun obj => F.args_object_init_2 obj _) F.entry_enumerate_new
    (meets_enumerate_newT l items n dct sl) ⟨hl, ?_⟩
  have hz : (s.heap.push { cls := .type "tuple_iterator", data := .fields #[.ref l, .int 0 0] }).objs.size = s.heap.objs.size + 1 := Heap.size_push ..
  show _ ∧ _
  rw [hz]
  have he : IsEnum ((s.heap.push { cls := .type "tuple_iterator", data := .fields #[.ref l, .int 0 0] }).push
      { cls := .type "enumerate", data := .fields #[.none, .bool false, .ref s.heap.objs.size, rawInt 0, .none, .none] }) (s.heap.objs.size + 1) s.heap.objs.size 0 .none := by
    have := Heap.get?_push_size (s.heap.push { cls := .type "tuple_iterator", data := .fields #[.ref l, .int 0 0] })
      (o := { cls := .type "enumerate", data := .fields #[.none, .bool false, .ref s.heap.objs.size, rawInt 0, .none, .none] }) rfl
    rw [hz] at this; exact this
  refine ⟨⟨_, he, rfl⟩, h _ he ⟨_, Heap.get?_push_of_some _ (Heap.get?_push_size _ rfl), rfl, rfl⟩ (by rw [Heap.size_push, hz]) fun b o x => Heap.get?_push_of_some _ (Heap.get?_push_of_some _ x)⟩

/-- the tuple at a as it stands at each turn, each item in a new pair -/
def IteT (K : PySem.W.Frag) (a : Addr) : It :=
  ⟨fun i H => ∃ (xs : List V) (x : V), SqT K H a xs ∧ xs[i]? = some x, fun i H v H' => ∃ T x, v = .ref T ∧ H T = none ∧ H' = upd H T (.tup [.int (i : Nat), x]) ∧ ∀ xs, SqT K H a xs → xs[i]? = some x, fun i H => ∃ xs : List V, SqT K H a xs ∧ xs.length = i⟩
theorem turn_enumT {P : Program} {w : World} {K : PySem.W.Frag} {elts : List Expr} {kk : Nat} {tpos : Pos} (a e it : Addr) (hai : a ≠ it) :
    Turn P w K (.Tuple elts kk tpos) (IteT K a) [e, it] e (fun i h => (∃ old, IsEnum h e it ((i : Nat) : Int) old) ∧ h.IsTupleIter it a i ∧ e ≠ it ∧ e ≠ a) where
  mem := by simp
  obj := fun i h st b hb => by
    obtain ⟨⟨old, he⟩, ⟨o, ho, hc, hd⟩, _⟩ := st
    have e' : b = e ∨ b = it := by simpa using hb
    rcases e' with z | z
    · rw [z]; exact ⟨_, he, fun v q => nomatch q⟩
    · rw [z]; exact ⟨o, ho, fun v q => by rw [hd] at q; cases q⟩
  keep := fun i h h' st k => let ⟨⟨old, he⟩, hi, hne⟩ := st; ⟨⟨old, k e (by simp) _ he⟩, hi.at fun o q => k it (by simp) o q, hne⟩
  item := by
    intro X hP hw hK hc i pins s σ H E I hf st hg
    subst hP hw hK
    obtain ⟨⟨old, he⟩, hit, hne, hea⟩ := st
    obtain ⟨xs, x, hq, hx⟩ := hg
    obtain ⟨its, rv, p, hz⟩ := I.tuple hq
    obtain ⟨u, hu, ru⟩ := rv.get hx
    have hel : e < s.heap.objs.size := Heap.lt_size he
    have hil : it < s.heap.objs.size := by obtain ⟨_, q, _⟩ := hit; exact Heap.lt_size q
    have hi : i < its.toArray.size := by
      have := (List.getElem?_eq_some_iff.mp hu).1
      simpa using this
    refine wpAny_pyNext_enum_itemC (Draws.tuple (by exact I.ok.hd hc) it a hai its.toArray) he ⟨hit, p⟩ hi hne (by simp [hne, hea]) fun x' h' tk hx' ho hit' hT hsz hk => ?_
    have hxu : x' = u := by
      have h1 : its.toArray[i]? = some u := by simpa using hu
      rw [h1] at hx'
      exact (Option.some.inj hx').symm
    subst hxu
    refine ⟨_, rfl, wpAny_letOwnedTupleGo_enum (s := { s with heap := h', toks := tk + 1 }) ho fun h'' he' sb => ?_⟩
    have hT2 : h''.get? s.heap.objs.size = some { cls := .type "tuple", data := .seq #[.int i tk, x'] } := (sb.2 _ (Nat.ne_of_gt hel)).trans hT
    have new : ObjOk X.prog X.w (upd H s.heap.objs.size (.tup [.int (i : Nat), x])) h'' s.heap.objs.size (.tup [.int (i : Nat), x]) :=
      ⟨by show 2 ≤ sizeLine; decide, [.int i tk, x'], .cons ⟨_, rfl⟩ (.cons ru .nil), ⟨_, hT2, rfl, _, rfl⟩⟩
    have I1 : Inv X pins σ (upd H s.heap.objs.size (.tup [.int (i : Nat), x])) { s with heap := h'', toks := tk + 1 } :=
      I.turnedNew (ch := [e, it]) (fun b ob hb q => (sb.2 b (fun z => hb (by simp [z]))).trans (hk b ob (fun z => hb (by simp [z])) (fun z => hb (by simp [z])) q)) hf (Nat.le_refl _) new
    refine ⟨.ref s.heap.objs.size, _, I1, rfl, ⟨_, x, rfl, I.hok.fresh (Nat.le_refl _), rfl, fun ys hy => by rw [I.tuple_inj hy hq]; exact hx⟩, ⟨⟨x', ?_⟩, hit'.1.at fun o q => (sb.2 it (Ne.symm hne)).trans q, hne, hea⟩, fun b hb => ?_⟩
    · have e1 : ((i + 1 : Nat) : Int) = (i : Int) + 1 := by omega
      rw [e1]; exact he'
    · have hb' : b < s.heap.objs.size := by
        have e' : b = e ∨ b = it := by simpa using hb
        rcases e' with z | z
        · rw [z]; exact hel
        · rw [z]; exact hil
      rw [upd_ne (Nat.ne_of_lt hb')]
      exact (hf b hb).1
  done := by
    intro X hP hw hK hc i pins s σ H E I hf st hg
    subst hP hw hK
    obtain ⟨⟨old, he⟩, hit, hne, hea⟩ := st
    obtain ⟨xs, hq, hx⟩ := hg
    obtain ⟨its, rv, p, hz⟩ := I.tuple hq
    obtain ⟨f0, f1, f2, f3, f4, f5⟩ := hf it (by simp)
    have hl := rv.length
    have hs : its.toArray.size = i := by simp; omega
    subst hs
    refine wpAny_pyNext_enum_endD (Draws.tuple (by exact I.ok.hd hc) it a hai its.toArray) he ⟨hit, p⟩ fun h' eb => ⟨rfl, I.turned (t' := s.toks) (fun b o hb q => eb b o hb q) f0 f1 f3 f4 f5⟩
  self := fun A i s Q E st h => let ⟨⟨_, he⟩, _⟩ := st; wpAny_pyIter_enum he h
/-- enumerate(e), e a list or a tuple -/
def iEnumA (K : PySem.W.Frag) (ta : TA) : TI := fun σ H R => ta σ H fun vs H1 => ∃ a xs, vs = [.ref a] ∧ ((SqL K H1 a xs ∧ R (Ite K a) H1) ∨ (SqT K H1 a xs ∧ R (IteT K a) H1))
theorem pi_enumA {X : Cx} {e : Expr} {ta : TA} {p pos tpos : Pos} {elts : List Expr} {kk : Nat} (hg : Gl X "enumerate") (hm : X.mg "enumerate" = none) (ha : PA X [e] ta) (hs : starEach [e] X.env = [(false, eval e X.env)] := by rfl) :
    PI X (.Tuple elts kk tpos) (.Call (.Name "enumerate" p) [e] [] pos) (iEnumA X.K ta) := by
  refine ⟨fun pins s σ H R I h => ?_⟩
  refine Call_ (ld_blt I hg hm boot_enumerate (PyProof.Rows.callWith_type1 (thn (ha.run pos pins s σ H _ I h) fun us s1 ⟨vs, H1, I1, r1, q1⟩ => ?_) hs rfl))
  obtain ⟨a, xs, ex, hq⟩ := q1
  subst ex
  cases r1 with
  | cons r rr =>
    cases rr
    cases r
    have fr : ∀ b, b ∈ [s1.heap.objs.size + 1, s1.heap.objs.size] → FpOk X pins H1 b := fun b hb => by
      have e' : b = s1.heap.objs.size + 1 ∨ b = s1.heap.objs.size := by simpa using hb
      have hle : s1.heap.objs.size ≤ b := by
        rcases e' with z | z
        · rw [z]; exact Nat.le_add_right _ _
        · rw [z]; exact Nat.le_refl _
      exact I1.fpOk hle (I1.hok.fresh hle)
    rcases hq with ⟨hq, q⟩ | ⟨hq, q⟩
    · obtain ⟨its, rv, p', hz⟩ := I1.list hq
      refine call_enumerate_list p'.isList fun h' he hit hsz hk => wpAny_pyIter_enum he ?_
      have I2 : Inv X pins σ H1 { s1 with heap := h' } := I1.kept (t' := s1.toks) hk
      exact ⟨s1.heap.objs.size + 1, [s1.heap.objs.size + 1, s1.heap.objs.size], _, _, H1, rfl, I2, turn_enum a (s1.heap.objs.size + 1) s1.heap.objs.size, ⟨⟨.none, he⟩, hit, Nat.succ_ne_self _⟩, fr, q⟩
    · obtain ⟨its, rv, p', hz⟩ := I1.tuple hq
      have hal : a < s1.heap.objs.size := by obtain ⟨_, ho, _⟩ := p'; exact Heap.lt_size ho
      refine call_enumerate_tuple (show s1.heap.IsTuple a its.toArray from p') fun h' he hit hsz hk => wpAny_pyIter_enum he ?_
      have I2 : Inv X pins σ H1 { s1 with heap := h' } := I1.kept (t' := s1.toks) hk
      exact ⟨s1.heap.objs.size + 1, [s1.heap.objs.size + 1, s1.heap.objs.size], _, _, H1, rfl, I2, turn_enumT a (s1.heap.objs.size + 1) s1.heap.objs.size (Nat.ne_of_lt hal), ⟨⟨.none, he⟩, hit, Nat.succ_ne_self _, Nat.ne_of_gt (Nat.lt_succ_of_lt hal)⟩, fr, q⟩
/-- a list or a tuple, walked -/
def iSeq (K : PySem.W.Frag) (tl : TE) : TI := fun σ H R => tl σ H fun x H1 => ∃ a, x = .ref a ∧ (((∃ xs, SqL K H1 a xs) ∧ R (Itl K a) H1) ∨ ((∃ xs, SqT K H1 a xs) ∧ R (Itt K a) H1))
theorem pi_seq {X : Cx} {tg l : Expr} {tl : TE} (hl : PE X l tl) : PI X tg l (iSeq X.K tl) := by
  refine ⟨fun pins s σ H R I h => ?_⟩
  refine thn (hl.run pins s σ H _ I h) fun v s1 ⟨x, H1, I1, r1, q1⟩ => ?_
  obtain ⟨a, e, q1⟩ := q1
  subst e
  cases r1
  have fr : ∀ b, b ∈ [s1.heap.objs.size] → FpOk X pins H1 b := fun b hb => by
    have e : b = s1.heap.objs.size := by simpa using hb
    subst e
    exact I1.fpOk (Nat.le_refl _) (I1.hok.fresh (Nat.le_refl _))
  rcases q1 with ⟨⟨xs, hq⟩, q⟩ | ⟨⟨xs, hq⟩, q⟩
  · obtain ⟨its, rv, p, hz⟩ := I1.list hq
    refine wpAny_pyIter_list p.isList ?_
    exact ⟨s1.heap.objs.size, [s1.heap.objs.size], _, _, H1, rfl, I1.kept (t' := s1.toks) fun b o e => Heap.get?_push_of_some _ e, turn_list a _, ⟨_, Heap.get?_push_size _ rfl, rfl, rfl⟩, fr, q⟩
  · obtain ⟨its, rv, p, hz⟩ := I1.tuple hq
    refine wpAny_pyIter_tuple (show s1.heap.IsTuple a its.toArray from p) ?_
    exact ⟨s1.heap.objs.size, [s1.heap.objs.size], _, _, H1, rfl, I1.kept (t' := s1.toks) fun b o e => Heap.get?_push_of_some _ e, turn_tuple a _, ⟨_, Heap.get?_push_size _ rfl, rfl, rfl⟩, fr, q⟩
end Dl
/-! DL12: what is walked: sequences, range, enumerate, zip; targets that are tuples. -/
namespace Dl
open PySem PySem.Spec L2

section
variable {K : PySem.W.Frag} {H1 H2 : Hp} {W1 A X : AS} {vs us : List V} {ds es : List D} {a b : Addr}
/-- the items of a sequence that stands, none of them owned -/
theorem item_later {i : Nat} {d : D} (wm : ∀ a, W1 a → Mut (H1 a)) (r : RVs K H1 X vs ds (fun _ => False)) (hX : ∀ a, W1 a ∨ A a → X a) (keep : ∀ a o, H1 a = some o → ¬ W1 a → H2 a = some o) (hd : ds[i]? = some d) :
    ∃ v, vs[i]? = some v ∧ ∀ Y : AS, (∀ a, Y a → W1 a ∨ A a ∨ H1 a = none) → RV K H2 Y v d (fun _ => False) := by
  obtain ⟨v, G, hv, rv, sub⟩ := rvs_get r hd
  refine ⟨v, hv, fun Y hY => (rv_emp rv fun a z => sub a z).later (X' := Y) (W := W1) ⟨⟨keep, fun a z => hX a (.inl z), fun a z => ?_⟩, fun a xs h nm => keep a _ h fun z => mut_not (wm a z) nm h⟩ fun a z => z.elim⟩
  rcases hY a z with z | z | z
  · exact .inl (hX a (.inl z))
  · exact .inl (hX a (.inr z))
  · exact .inr z
theorem rd_keep {o : HO} (h : Rd H1 a o) (n : ¬ W1 a) (keep : ∀ a o, H1 a = some o → ¬ W1 a → H2 a = some o) : Rd H2 a o := h.imp (fun h => keep a _ h n) fun ⟨ob, h⟩ => ⟨ob, keep a _ h n⟩
theorem tup_keep {xs : List V} (h : TupZ H1 a xs) (wm : ∀ a, W1 a → Mut (H1 a)) (keep : ∀ a o, H1 a = some o → ¬ W1 a → H2 a = some o) : TupZ H2 a xs := let ⟨o, e, d⟩ := h; ⟨o, keep a _ e fun z => mut_not (o := .frz o (.tup xs)) (wm a z) (fun z => z) e, d⟩
variable (wm : ∀ a, W1 a → Mut (H1 a)) (r : RVs K H1 X vs ds (fun _ => False)) (hX : ∀ a, W1 a ∨ A a → X a)
include wm r hX
theorem itl_ok (h : Rd H1 a (.lst vs)) (n : ¬ W1 a) : ItOk K (Itl K a) W1 A H1 ds := fun H2 keep i => by
  have h2 : SqL K H2 a vs := .inl (rd_keep h n keep)
  refine ⟨fun d hd => ?_, fun e => ⟨vs, h2, by rw [rvs_length r]; omega⟩⟩
  obtain ⟨v, hv, rv⟩ := item_later wm r hX keep hd
  refine ⟨⟨vs, v, h2, hv⟩, fun x H3 ⟨e, y⟩ => ?_⟩
  subst e
  have := y vs h2
  rw [hv] at this; cases this
  exact ⟨fun _ _ z => z, rv⟩
theorem itt_ok (h : TupZ H1 a vs) : ItOk K (Itt K a) W1 A H1 ds := fun H2 keep i => by
  have h2 : SqT K H2 a vs := (tup_keep h wm keep).sq
  refine ⟨fun d hd => ?_, fun e => ⟨vs, h2, by rw [rvs_length r]; omega⟩⟩
  obtain ⟨v, hv, rv⟩ := item_later wm r hX keep hd
  refine ⟨⟨vs, v, h2, hv⟩, fun x H3 ⟨e, y⟩ => ?_⟩
  subst e
  have := y vs h2
  rw [hv] at this; cases this
  exact ⟨fun _ _ z => z, rv⟩
/-- (0, x), (1, y), .. -/
def enumD : Nat → List D → List D
  | _, [] => []
  | n, d :: ds => .key [.int (n : Nat), d] :: enumD (n + 1) ds
omit wm r hX in
theorem enumD_get : ∀ {n i : Nat} {ds : List D} {e : D}, (enumD n ds)[i]? = some e → ∃ d, ds[i]? = some d ∧ e = .key [.int ((n + i : Nat) : Int), d]
  | n, i, [], e, h => by simp [enumD] at h
  | n, 0, d :: ds, e, h => by simp [enumD] at h; exact ⟨d, by simp, by rw [← h]; simp⟩
  | n, i + 1, d :: ds, e, h => by
    have h' : (enumD (n + 1) ds)[i]? = some e := by simpa [enumD] using h
    obtain ⟨d', h1, h2⟩ := enumD_get h'
    exact ⟨d', by simpa using h1, by rw [h2]; congr 3; simp; omega⟩
omit wm r hX in
theorem enumD_length : ∀ {n : Nat} {ds : List D}, (enumD n ds).length = ds.length
  | _, [] => rfl
  | n, d :: ds => by simp [enumD, enumD_length]
omit wm r hX in
theorem rv_pair {H2 : Hp} {T : Addr} {x y : V} {d e : D} {Y : AS} (hT : H2 T = none) (rx : RV K H2 Y x d (fun _ => False)) (ry : RV K H2 Y y e (fun _ => False)) : RV K (upd H2 T (.tup [x, y])) Y (.ref T) (.key [d, e]) (fun _ => False) :=
  .key upd_same (.cons (rx.ext (ext_upd hT) fun a z => .inl z) (.cons (ry.ext (ext_upd hT) fun a z => .inl z) (.nil emF) (fun _ z _ => z) fun b => ⟨False.elim, fun z => z.elim id id⟩) (fun _ z _ => z) fun b => ⟨False.elim, fun z => z.elim id id⟩) emF
theorem ite_ok (h : Rd H1 a (.lst vs)) (n : ¬ W1 a) : ItOk K (Ite K a) W1 A H1 (enumD 0 ds) := fun H2 keep i => by
  have h2 : SqL K H2 a vs := .inl (rd_keep h n keep)
  refine ⟨fun e he => ?_, fun e => ⟨vs, h2, by rw [rvs_length r]; rw [enumD_length] at e; omega⟩⟩
  obtain ⟨d, hd, rfl⟩ := enumD_get he
  obtain ⟨v, hv, rv⟩ := item_later wm r hX keep hd
  refine ⟨⟨vs, v, h2, hv⟩, fun x H3 ⟨T, y, e1, hT, e2, q⟩ => ?_⟩
  subst e1 e2
  have := q vs h2
  rw [hv] at this; cases this
  refine ⟨ext_upd hT, fun Y hY => rv_pair hT ?_ (rv Y hY)⟩
  simp only [Nat.zero_add]
  exact .int emF
theorem iteT_ok (h : TupZ H1 a vs) : ItOk K (IteT K a) W1 A H1 (enumD 0 ds) := fun H2 keep i => by
  have h2 : SqT K H2 a vs := (tup_keep h wm keep).sq
  refine ⟨fun e he => ?_, fun e => ⟨vs, h2, by rw [rvs_length r]; rw [enumD_length] at e; omega⟩⟩
  obtain ⟨d, hd, rfl⟩ := enumD_get he
  obtain ⟨v, hv, rv⟩ := item_later wm r hX keep hd
  refine ⟨⟨vs, v, h2, hv⟩, fun x H3 ⟨T, y, e1, hT, e2, q⟩ => ?_⟩
  subst e1 e2
  have := q vs h2
  rw [hv] at this; cases this
  refine ⟨ext_upd hT, fun Y hY => rv_pair hT ?_ (rv Y hY)⟩
  simp only [Nat.zero_add]
  exact .int emF
def zipD : List D → List D → List D
  | d :: ds, e :: es => .key [d, e] :: zipD ds es
  | _, _ => []
omit wm r hX in
theorem zipD_get : ∀ {i : Nat} {ds es : List D} {e : D}, (zipD ds es)[i]? = some e → ∃ d d', ds[i]? = some d ∧ es[i]? = some d' ∧ e = .key [d, d']
  | i, [], es, e, h => by simp [zipD] at h
  | i, d :: ds, [], e, h => by simp [zipD] at h
  | 0, d :: ds, d' :: es, e, h => by simp [zipD] at h; exact ⟨d, d', by simp, by simp, h.symm⟩
  | i + 1, d :: ds, d' :: es, e, h => by
    obtain ⟨a, b, h1, h2, h3⟩ := zipD_get (i := i) (ds := ds) (es := es) (by simpa [zipD] using h)
    exact ⟨a, b, by simpa using h1, by simpa using h2, h3⟩
omit wm r hX in
theorem zipD_length : ∀ {ds es : List D}, (zipD ds es).length = min ds.length es.length
  | [], es => by simp [zipD]
  | d :: ds, [] => by simp [zipD]
  | d :: ds, e :: es => by simp [zipD, zipD_length]
theorem itz_ok (q : RVs K H1 X us es (fun _ => False)) (h : Rd H1 a (.lst vs)) (n : ¬ W1 a) (h' : Rd H1 b (.lst us)) (n' : ¬ W1 b) : ItOk K (Itz K a b) W1 A H1 (zipD ds es) := fun H2 keep i => by
  have h2 : SqL K H2 a vs := .inl (rd_keep h n keep)
  have h3 : SqL K H2 b us := .inl (rd_keep h' n' keep)
  refine ⟨fun e he => ?_, fun e => ⟨vs, us, h2, h3, by rw [rvs_length r, rvs_length q]; rw [zipD_length] at e; omega⟩⟩
  obtain ⟨d, d', hd, hd', rfl⟩ := zipD_get he
  obtain ⟨v, hv, rv⟩ := item_later wm r hX keep hd
  obtain ⟨v', hv', rv'⟩ := item_later wm q hX keep hd'
  refine ⟨⟨vs, us, v, v', h2, h3, hv, hv'⟩, fun x H3 ⟨T, x1, y1, e1, hT, e2, p1, p2⟩ => ?_⟩
  subst e1 e2
  have t1 := p1 vs h2
  have t2 := p2 us h3
  rw [hv] at t1; cases t1
  rw [hv'] at t2; cases t2
  exact ⟨ext_upd hT, fun Y hY => rv_pair hT (rv Y hY) (rv' Y hY)⟩
theorem itzT_ok (q : RVs K H1 X us es (fun _ => False)) (h : TupZ H1 a vs) (h' : TupZ H1 b us) : ItOk K (RZ.ItzT K a b) W1 A H1 (zipD ds es) := fun H2 keep i => by
  have h2 : SqT K H2 a vs := (tup_keep h wm keep).sq
  have h3 : SqT K H2 b us := (tup_keep h' wm keep).sq
  refine ⟨fun e he => ?_, fun e => ⟨vs, us, h2, h3, by rw [rvs_length r, rvs_length q]; rw [zipD_length] at e; omega⟩⟩
  obtain ⟨d, d', hd, hd', rfl⟩ := zipD_get he
  obtain ⟨v, hv, rv⟩ := item_later wm r hX keep hd
  obtain ⟨v', hv', rv'⟩ := item_later wm q hX keep hd'
  refine ⟨⟨vs, us, v, v', h2, h3, hv, hv'⟩, fun x H3 ⟨T, x1, y1, e1, hT, e2, p1, p2⟩ => ?_⟩
  subst e1 e2
  have t1 := p1 vs h2
  have t2 := p2 us h3
  rw [hv] at t1; cases t1
  rw [hv'] at t2; cases t2
  exact ⟨ext_upd hT, fun Y hY => rv_pair hT (rv Y hY) (rv' Y hY)⟩
end
def rangeD (lo : Int) (n : Nat) : List D := (List.range n).map fun (i : Nat) => .int (lo + (i : Int))
theorem itr_ok {K : PySem.W.Frag} {H1 : Hp} {W1 A : AS} {lo : Int} {n : Nat} : ItOk K (Itr lo n) W1 A H1 (rangeD lo n) := fun H2 keep i => by
  refine ⟨fun d hd => ?_, fun e => by simp [rangeD] at e; exact Nat.le_of_eq e⟩
  simp only [rangeD, List.getElem?_map, Option.map_eq_some_iff] at hd
  obtain ⟨j, hj, rfl⟩ := hd
  obtain ⟨h1, h2⟩ := List.getElem?_eq_some_iff.mp hj
  simp at h1 h2
  subst h2
  exact ⟨h1, fun x H3 ⟨e1, e2⟩ => by subst e1 e2; exact ⟨fun _ _ z => z, fun Y _ => .int emF⟩⟩

/-! ### the walked things, as readings -/
/-- the items of a sequence -/
def seqK (d : D) (k : List D → Prop) : Prop := match d with
  | .tup l => k l
  | .lst _ l => allFz l (k l)
  | _ => False
def diSeq (T : ET) : DIt := fun ρ k => T ρ fun ρ1 d => seqK d (k ρ1)
def diEnum (Tl : LT) : DIt := fun ρ k => Tl ρ fun ρ1 ds => match ds with
  | [d] => seqK d fun l => k ρ1 (enumD 0 l)
  | _ => False
def diZip (Tl : LT) : DIt := fun ρ k => Tl ρ fun ρ1 ds => match ds with
  | [.tup l, .tup m] => k ρ1 (zipD l m)
  | [.lst _ l, .lst _ m] => allFz l (allFz m (k ρ1 (zipD l m)))
  | _ => False
def diRange1 (Tl : LT) : DIt := fun ρ k => Tl ρ fun ρ1 ds => match ds with
  | [.int n] => (-(2 ^ 62) ≤ n ∧ n < 2 ^ 62) ∧ k ρ1 (rangeD 0 n.toNat)
  | _ => False
def diRange2 (Tl : LT) : DIt := fun ρ k => Tl ρ fun ρ1 ds => match ds with
  | [.int a, .int b] => (-(2 ^ 62) ≤ a ∧ a < 2 ^ 62 ∧ -(2 ^ 62) ≤ b ∧ b < 2 ^ 62) ∧ k ρ1 (rangeD a (b - a).toNat)
  | _ => False
section
variable {X : Cx} {e e2 tg : Expr} {es : List Expr} {T : ET} {Tl : LT} {p pos tpos : Pos} {elts : List Expr} {kk : Nat}
theorem lift_allFz {K : PySem.W.Frag} {H : Hp} {Y F : AS} {v : V} {m : Bool} {l : List D} (r : RV K H Y v (.lst m l) F) (h : l.all isFz = true) : ∃ a vs, v = .ref a ∧ Rd H a (.lst vs) ∧ RVs K H Y vs l (fun _ => False) := by
  obtain ⟨a, vs, G, rfl, h1, r1, _, _⟩ := rv_lst r
  exact ⟨a, vs, rfl, h1, rvs_emp r1 (rvs_fz r1 h)⟩
theorem or_ff {A W : AS} : ∀ a, False ∨ Or2 W A a → Or2 W A a := fun a z => z.elim False.elim id
theorem diq_seq (h : DQ X e T) : DIQ X tg e (diSeq T) := pi_imp (pi_seq h) fun σ H R ⟨A, ρ, W, k, s, t, c⟩ => by
  refine ⟨A, ρ, W, _, s, t, fun d q v H1 F x1 r1 => ?_⟩
  cases d with
  | tup l =>
    obtain ⟨a, vs, rfl, ha, rv, em⟩ := rv_tup r1
    exact ⟨a, rfl, .inr ⟨⟨vs, ha.sq⟩, c l q _ H1 x1 (itt_ok (fun _ z => z.elim) (rvs_emp rv em) or_ff ha)⟩⟩
  | lst m l =>
    obtain ⟨q1, q2⟩ := allFz_get q
    obtain ⟨a, vs, rfl, ha, rv⟩ := lift_allFz r1 q1
    exact ⟨a, rfl, .inl ⟨⟨vs, .inl ha⟩, c l q2 _ H1 x1 (itl_ok (fun _ z => z.elim) rv or_ff ha fun z => z)⟩⟩
  | _ => exact q.elim
theorem rvv1 {K : PySem.W.Frag} {H : Hp} {Y : AS} {vs : List V} {d : D} (r : RVv K H Y vs [d]) : ∃ v F, vs = [v] ∧ RV K H Y v d F := by
  cases r with | cons r1 r2 => cases r2; exact ⟨_, _, rfl, r1⟩
theorem rvv2 {K : PySem.W.Frag} {H : Hp} {Y : AS} {vs : List V} {d e : D} (r : RVv K H Y vs [d, e]) : ∃ v u F G, vs = [v, u] ∧ RV K H Y v d F ∧ RV K H Y u e G := by
  cases r with | cons r1 r2 => cases r2 with | cons r2 r3 => cases r3; exact ⟨_, _, _, _, rfl, r1, r2⟩
theorem rvv3 {K : PySem.W.Frag} {H : Hp} {Y : AS} {vs : List V} {d e f : D} (r : RVv K H Y vs [d, e, f]) : ∃ v u w F G L, vs = [v, u, w] ∧ RV K H Y v d F ∧ RV K H Y u e G ∧ RV K H Y w f L := by
  cases r with | cons r1 r2 => cases r2 with | cons r2 r3 => cases r3 with | cons r3 r4 => cases r4; exact ⟨_, _, _, _, _, _, rfl, r1, r2, r3⟩
theorem r1_get {ds : List D} {P : Int → Prop} (h : (match ds with | [.int n] => P n | _ => False : Prop)) : ∃ n, ds = [.int n] ∧ P n := by
  split at h
  · exact ⟨_, rfl, h⟩
  · exact h.elim
theorem r2_get {ds : List D} {P : Int → Int → Prop} (h : (match ds with | [.int a, .int b] => P a b | _ => False : Prop)) : ∃ a b, ds = [.int a, .int b] ∧ P a b := by
  split at h
  · exact ⟨_, _, rfl, h⟩
  · exact h.elim
theorem diq_range1 (hg : Gl X "range") (hm : X.mg "range" = none) (ha : DLQ X [e] Tl) (hs : starEach [e] X.env = [(false, eval e X.env)] := by rfl) : DIQ X tg (.Call (.Name "range" p) [e] [] pos) (diRange1 Tl) := pi_imp (pi_range1 hg hm ha hs) fun σ H R ⟨A, ρ, W, k, s, t, c⟩ => by
  refine ⟨A, ρ, W, _, s, t, fun ds q vs H1 x1 r1 => ?_⟩
  obtain ⟨n, rfl, ⟨q1, q2⟩, q3⟩ := r1_get q
  obtain ⟨v, F, rfl, rv⟩ := rvv1 r1
  exact ⟨n, by rw [rv_int rv], q1, q2, c _ q3 _ H1 x1 itr_ok⟩
theorem diq_range2 (hg : Gl X "range") (hm : X.mg "range" = none) (ha : DLQ X [e, e2] Tl) (hs : starEach [e, e2] X.env = [(false, eval e X.env), (false, eval e2 X.env)] := by rfl) (hs2 : starEach [e2] X.env = [(false, eval e2 X.env)] := by rfl) :
    DIQ X tg (.Call (.Name "range" p) [e, e2] [] pos) (diRange2 Tl) := pi_imp (pi_range2 hg hm ha hs hs2) fun σ H R ⟨A, ρ, W, k, s, t, c⟩ => by
  refine ⟨A, ρ, W, _, s, t, fun ds q vs H1 x1 r1 => ?_⟩
  obtain ⟨a, b, rfl, ⟨q1, q2, q3, q4⟩, q5⟩ := r2_get q
  obtain ⟨v, u, F, G, rfl, rv, ru⟩ := rvv2 r1
  exact ⟨a, b, by rw [rv_int rv, rv_int ru], ⟨q1, q2, q3, q4⟩, c _ q5 _ H1 x1 itr_ok⟩
theorem seqK_get {d : D} {k : List D → Prop} (h : seqK d k) : (∃ l, d = .tup l ∧ k l) ∨ ∃ m l, d = .lst m l ∧ l.all isFz = true ∧ k l := by
  unfold seqK at h
  split at h
  · exact .inl ⟨_, rfl, h⟩
  · obtain ⟨h1, h2⟩ := allFz_get h
    exact .inr ⟨_, _, rfl, h1, h2⟩
  · exact h.elim
theorem en_get {ds : List D} {P : D → Prop} (h : (match ds with | [d] => P d | _ => False : Prop)) : ∃ d, ds = [d] ∧ P d := by
  split at h
  · exact ⟨_, rfl, h⟩
  · exact h.elim
theorem diq_enum (hg : Gl X "enumerate") (hm : X.mg "enumerate" = none) (ha : DLQ X [e] Tl) (hs : starEach [e] X.env = [(false, eval e X.env)] := by rfl) : DIQ X (.Tuple elts kk tpos) (.Call (.Name "enumerate" p) [e] [] pos) (diEnum Tl) := pi_imp (pi_enumA hg hm ha hs) fun σ H R ⟨A, ρ, W, k, s, t, c⟩ => by
  refine ⟨A, ρ, W, _, s, t, fun ds q vs H1 x1 r1 => ?_⟩
  obtain ⟨d, rfl, q⟩ := en_get q
  obtain ⟨v, F, rfl, rv⟩ := rvv1 r1
  rcases seqK_get q with ⟨l, rfl, q⟩ | ⟨m, l, rfl, q1, q⟩
  · obtain ⟨a, vs, rfl, ha, rl, em⟩ := rv_tup rv
    exact ⟨a, vs, rfl, .inr ⟨ha.sq, c _ q _ H1 x1 (iteT_ok (fun _ z => z.elim) (rvs_emp rl em) or_ff ha)⟩⟩
  · obtain ⟨a, vs, rfl, ha, rl⟩ := lift_allFz rv q1
    exact ⟨a, vs, rfl, .inl ⟨.inl ha, c _ q _ H1 x1 (ite_ok (fun _ z => z.elim) rl or_ff ha fun z => z)⟩⟩
theorem diq_zip (hg : Gl X "zip") (hm : X.mg "zip" = none) (ha : DLQ X [e, e2] Tl) (hs : starEach [e, e2] X.env = (false, eval e X.env) :: starEach [e2] X.env := by rfl) (hpl : (backTo pos (starEach [e2] X.env)).any (·.1) = false := by rfl) :
    DIQ X (.Tuple elts kk tpos) (.Call (.Name "zip" p) [e, e2] [] pos) (diZip Tl) := pi_imp (RZ.pi_zipA hg hm ha hs hpl) fun σ H R ⟨A, ρ, W, k, s, t, c⟩ => by
  refine ⟨A, ρ, W, _, s, t, fun ds q vs H1 x1 r1 => ?_⟩
  split at q
  · obtain ⟨v, u, F, G, rfl, rv, ru⟩ := rvv2 r1
    obtain ⟨a, vs, rfl, ha, rl, em⟩ := rv_tup rv
    obtain ⟨b, us, rfl, hb, rm, em'⟩ := rv_tup ru
    exact ⟨a, b, vs, us, rfl, .inr ⟨ha.sq, hb.sq, c _ q _ H1 x1 (itzT_ok (fun _ z => z.elim) (rvs_emp rl em) or_ff (rvs_emp rm em') ha hb)⟩⟩
  · obtain ⟨v, u, F, G, rfl, rv, ru⟩ := rvv2 r1
    obtain ⟨q1, q⟩ := allFz_get q
    obtain ⟨q2, q⟩ := allFz_get q
    obtain ⟨a, vs, rfl, ha, rl⟩ := lift_allFz rv q1
    obtain ⟨b, us, rfl, hb, rm⟩ := lift_allFz ru q2
    exact ⟨a, b, vs, us, rfl, .inl ⟨.inl ha, .inl hb, c _ q _ H1 x1 (itz_ok (fun _ z => z.elim) rl or_ff rm ha (fun z => z) hb fun z => z)⟩⟩
  · exact q.elim

/-! ### quiet iterables in a for: what is walked must not be owned -/
/-- d is not owned, at any depth below its top -/
theorem ItOk.mono {K : PySem.W.Frag} {J : It} {W1 A : AS} {H1 : Hp} {ds : List D} (h : ItOk K J (fun _ => False) (Or2 W1 A) H1 ds) (e : ∀ a, ¬ W1 a) : ItOk K J W1 A H1 ds := fun H2 keep i => by
  obtain ⟨h1, h2⟩ := h H2 (fun a o q n => keep a o q (e a)) i
  refine ⟨fun d hd => ?_, h2⟩
  obtain ⟨g, y⟩ := h1 d hd
  refine ⟨g, fun x H3 q => ?_⟩
  obtain ⟨x1, y⟩ := y x H3 q
  exact ⟨x1, fun Y hY => y Y fun a z => (hY a z).elim (fun z => (e a z).elim) fun z => z.elim (fun z => .inr (.inl (.inr z))) fun z => .inr (.inr z)⟩

/-! ### targets that are tuples -/
abbrev DTgs := List D → DEnv → (DEnv → Prop) → Prop
def tGs (K : PySem.W.Frag) (L : List Nat) (T : DTgs) : TGs := fun vs σ H Q => ∃ (A : AS) (ρ : DEnv) (W : AS) (ds : List D) (k : DEnv → Prop), Std K A H σ ρ W ∧ RVs K H (Or2 W A) vs ds (fun _ => False) ∧ T ds ρ k ∧
  ∀ ρ', k ρ' → ∀ σ' H' W', Std K (fun a => (W a ∧ ¬ W' a) ∨ A a) H' σ' ρ' W' → Ext H H' → (∀ a, W' a → W a) → Only L σ σ' → Q σ' H'
def DGs (X : Cx) (L : List Nat) (tgs : List Expr) (T : DTgs) : Prop := PGs X tgs (tGs X.K L T)
theorem pgs_imp {X : Cx} {tgs : List Expr} {t u : TGs} (h : PGs X tgs t) (i : ∀ v σ H Q, u v σ H Q → t v σ H Q) : PGs X tgs u := ⟨fun pins s σ H v w Q I r q => h.run pins s σ H v w Q I r (i v σ H Q q)⟩
def gNilD : DTgs := fun ds ρ k => ds = [] ∧ k ρ
def gConsD (t : DTg) (u : DTgs) : DTgs := fun ds ρ k => match ds with
  | d :: r => t d ρ fun ρ1 => u r ρ1 k
  | [] => False
variable {L M : List Nat} {t : DTg} {u : DTgs} {tgs : List Expr}
theorem dgs_nil : DGs X L [] gNilD := pgs_imp pgs_nil fun vs σ H Q ⟨A, ρ, W, ds, k, s, r, ⟨e, q⟩, c⟩ => by
  subst e
  cases r
  exact ⟨rfl, c ρ q σ H W (s.weak fun a z => z.elim (fun z => (z.2 z.1).elim) id) (fun _ _ z => z) (fun _ z => z) (Only.refl L σ)⟩
theorem dgs_cons (h1 : DG X L tg t) (h2 : DGs X M tgs u) (hs : (assignEach (tg :: tgs) X.env).map (·.2) = assign tg X.env :: (assignEach tgs X.env).map (·.2) := by rfl) : DGs X (L ++ M) (tg :: tgs) (gConsD t u) := pgs_imp (pgs_cons h1 h2 hs) fun vs σ H Q ⟨A, ρ, W, ds, k, s, r, q, c⟩ => by
  cases ds with
  | nil => exact q.elim
  | cons d ds =>
    cases r with
    | @cons v _ vs _ F G _ r1 r2 dj eq =>
      have e1 : Emp F := fun a z => (eq a).mpr (.inl z)
      have e2 : Emp G := fun a z => (eq a).mpr (.inr z)
      refine ⟨v, vs, rfl, A, ρ, W, d, _, s, rv_emp r1 e1, q, fun ρ1 q1 σ1 H1 W1 s1 x1 w1 o1 => ⟨_, ρ1, W1, ds, _, s1, (rvs_emp r2 e2).ext x1 fun a z => .inl ?_, q1, fun ρ2 q2 σ2 H2 W2 s2 x2 w2 o2 => ?_⟩⟩
      · rcases z with z | z | z
        · exact .inl (w1 a z)
        · exact .inl z.1
        · exact .inr z
      · refine c ρ2 q2 σ2 H2 W2 (s2.weak fun a z => ?_) (ext_trans x1 x2) (fun a z => w1 a (w2 a z)) ((o1.mono fun i h => List.mem_append_left M h).trans (o2.mono fun i h => List.mem_append_right L h))
        rcases z with z | z
        · exact Classical.byCases (p := W1 a) (fun y => .inl ⟨y, z.2⟩) fun n => .inr (.inl ⟨z.1, n⟩)
        · exact .inr (.inr z)
def gTupD (n : Nat) (u : DTgs) : DTg := fun d ρ k => match d with
  | .tup ds => ds.length = n ∧ u ds ρ k
  | .key ds => ds.length = n ∧ u ds ρ k
  | _ => False
theorem dg_tup {n : Nat} (hc : X.calm = true) (h : DGs X L elts u) (hn : (assignEach elts X.env).length = n := by rfl) (hst : (assignEach elts X.env).findIdx? (·.1) = none := by rfl) : DG X L (.Tuple elts kk pos) (gTupD n u) := pg_imp (pg_tup hc h hn hst) fun v σ H Q ⟨A, ρ, W, d, k, s, r, q, c⟩ => by
  cases d with
  | tup ds =>
    obtain ⟨a, vs, rfl, ha, rl, em⟩ := rv_tup r
    exact ⟨a, vs, rfl, ha.sq, by rw [rvs_length rl]; exact q.1, A, ρ, W, ds, k, s, rl, q.2, c⟩
  | key ds =>
    obtain ⟨a, vs, rfl, ha, rl, em⟩ := rv_key r
    exact ⟨a, vs, rfl, SqT.of ha, by rw [rvs_length rl]; exact q.1, A, ρ, W, ds, k, s, rl, q.2, c⟩
  | _ => exact q.elim
/-- a, b = e -/
def dAsgT (Te : ET) (g : DTg) : DSt := fun k ρ => Te ρ fun ρ1 d => g (fz d) ρ1 k.nx
theorem ds_asgT {E : WX} {P : List Nat} {Te : ET} {g : DTg} (hL : P.all (fun i => !L.contains i) = true) (he : DE X e Te) (hg : DG X L tg g) (hs : swapsWithSole [tg] e pos.line X.env = pure false := by rfl) (hw : swappedStores [tg] e X.env = pure none := by rfl)
    (h1 : (assignEach [tg] X.env).map (·.2) = [assign tg X.env] := by rfl) : DS X E P (.Assign [tg] e pos) (dAsgT Te g) := ps_imp (ps_asg he hg hs hw h1) fun DD σ H ⟨A, ρ, W, k, s, t, ok⟩ => by
  refine ⟨A, ρ, W, _, s, t, fun ρ1 d q v H1 W1 F s1 r1 g1 => ?_⟩
  have djf : Dj F A := dj_FA s.dj s.am g1
  refine ⟨A, ρ1, W1, fz d, _, s1.weak fun a z => .inr z, r1.fz fun a z => ?_, q, fun ρ2 q2 σ2 H2 W2 s2 x2 w2 o2 => ?_⟩
  · rcases z with z | z
    · exact ⟨.inl z, fun y => s1.dj a z (.inl y)⟩
    · exact ⟨.inr (.inr z), fun y => djf a y z⟩
  · exact ok.nx ρ2 q2 σ2 H2 W2 (s2.weak fun a z => .inr z) (g1.left.trans ⟨fun a o h _ => x2 a o h, fun a z => .inl (w2 a z)⟩) (o2.pin fun i hi hl => by simp [List.all_eq_true] at hL; exact hL i hi hl)
end
end Dl
/-! DL13: what a for walks, with effects. -/
namespace Dl
open PySem PySem.Spec L2
section
variable {X : Cx} {e e2 tg : Expr} {es : List Expr} {T : ET} {Tl : LT} {p pos tpos : Pos} {elts : List Expr} {kk : Nat}
theorem or3 {W F A : AS} : ∀ a, W a ∨ A a → Or2 W (Or2 F A) a := fun a z => z.elim .inl fun z => .inr (.inr z)
/-- a list at hand, exclusive: it is not the environment's -/
theorem lst_apart {K : PySem.W.Frag} {A W F : AS} {H : Hp} {σ : L2.St} {ρ : DEnv} {v : V} {m : Bool} {l : List D} (s : Std K (Or2 F A) H σ ρ W) (r : RV K H (Or2 W (Or2 F A)) v (.lst m l) F) (h : l.all isFz = true) :
    ∃ a vs, v = .ref a ∧ Rd H a (.lst vs) ∧ ¬ W a ∧ RVs K H (Or2 W (Or2 F A)) vs l (fun _ => False) := by
  cases r with
  | lst0 q n r e => exact ⟨_, _, rfl, q, fun z => n (.inl z), rvs_emp r e⟩
  | lst1 q r n e => exact ⟨_, _, rfl, .inl q, fun z => s.dj _ z (.inl ((e _).mpr (.inl rfl))), rvs_emp r (rvs_fz r h)⟩
theorem di_seq (h : DE X e T) : DI X tg e (diSeq T) := pi_imp (pi_seq h) fun σ H R ⟨A, ρ, W, k, s, t, c⟩ => by
  refine ⟨A, ρ, W, _, s, t, fun ρ1 d q v H1 W1 F s1 r1 g1 => ?_⟩
  have s1' := s1.weak (A' := A) fun a z => .inr z
  cases d with
  | tup l =>
    obtain ⟨a, vs, rfl, ha, rv, em⟩ := rv_tup r1
    exact ⟨a, rfl, .inr ⟨⟨vs, ha.sq⟩, c ρ1 l q _ H1 W1 s1' g1.left (itt_ok s1.wm (rvs_emp rv em) or3 ha)⟩⟩
  | lst m l =>
    obtain ⟨q1, q2⟩ := allFz_get q
    obtain ⟨a, vs, rfl, ha, nw, rv⟩ := lst_apart s1 r1 q1
    exact ⟨a, rfl, .inl ⟨⟨vs, .inl ha⟩, c ρ1 l q2 _ H1 W1 s1' g1.left (itl_ok s1.wm rv or3 ha nw)⟩⟩
  | _ => exact q.elim
theorem di_range1 (hg : Gl X "range") (hm : X.mg "range" = none) (ha : DL X [e] Tl) (hs : starEach [e] X.env = [(false, eval e X.env)] := by rfl) : DI X tg (.Call (.Name "range" p) [e] [] pos) (diRange1 Tl) := pi_imp (pi_range1 hg hm ha hs) fun σ H R ⟨A, ρ, W, k, s, t, c⟩ => by
  refine ⟨A, ρ, W, _, s, t, fun ρ1 ds q vs H1 W1 F s1 r1 g1 => ?_⟩
  obtain ⟨n, rfl, ⟨q1, q2⟩, q3⟩ := r1_get q
  obtain ⟨v, F', rfl, rv⟩ := rvv1 r1.v
  exact ⟨n, by rw [rv_int rv], q1, q2, c ρ1 _ q3 _ H1 W1 (s1.weak fun a z => .inr z) g1.left itr_ok⟩
theorem di_range2 (hg : Gl X "range") (hm : X.mg "range" = none) (ha : DL X [e, e2] Tl) (hs : starEach [e, e2] X.env = [(false, eval e X.env), (false, eval e2 X.env)] := by rfl) (hs2 : starEach [e2] X.env = [(false, eval e2 X.env)] := by rfl) :
    DI X tg (.Call (.Name "range" p) [e, e2] [] pos) (diRange2 Tl) := pi_imp (pi_range2 hg hm ha hs hs2) fun σ H R ⟨A, ρ, W, k, s, t, c⟩ => by
  refine ⟨A, ρ, W, _, s, t, fun ρ1 ds q vs H1 W1 F s1 r1 g1 => ?_⟩
  obtain ⟨a, b, rfl, ⟨q1, q2, q3, q4⟩, q5⟩ := r2_get q
  obtain ⟨v, u, F', G, rfl, rv, ru⟩ := rvv2 r1.v
  exact ⟨a, b, by rw [rv_int rv, rv_int ru], ⟨q1, q2, q3, q4⟩, c ρ1 _ q5 _ H1 W1 (s1.weak fun a z => .inr z) g1.left itr_ok⟩
theorem rvs1 {K : PySem.W.Frag} {H : Hp} {Y F : AS} {vs : List V} {d : D} (r : RVs K H Y vs [d] F) : ∃ v, vs = [v] ∧ RV K H Y v d F := by
  cases r with | cons r1 r2 dj u => cases r2 with | nil e => exact ⟨_, rfl, r1.congr fun a => ⟨fun z => (u a).mpr (.inl z), fun z => ((u a).mp z).elim id fun z => (e a z).elim⟩⟩
theorem di_enum (hg : Gl X "enumerate") (hm : X.mg "enumerate" = none) (ha : DL X [e] Tl) (hs : starEach [e] X.env = [(false, eval e X.env)] := by rfl) : DI X (.Tuple elts kk tpos) (.Call (.Name "enumerate" p) [e] [] pos) (diEnum Tl) := pi_imp (pi_enumA hg hm ha hs) fun σ H R ⟨A, ρ, W, k, s, t, c⟩ => by
  refine ⟨A, ρ, W, _, s, t, fun ρ1 ds q vs H1 W1 F s1 r1 g1 => ?_⟩
  obtain ⟨d, rfl, q⟩ := en_get q
  obtain ⟨v, rfl, rv⟩ := rvs1 r1
  have s1' := s1.weak (A' := A) fun a z => .inr z
  rcases seqK_get q with ⟨l, rfl, q⟩ | ⟨m, l, rfl, q1, q⟩
  · obtain ⟨a, vs, rfl, ha, rl, em⟩ := rv_tup rv
    exact ⟨a, vs, rfl, .inr ⟨ha.sq, c ρ1 _ q _ H1 W1 s1' g1.left (iteT_ok s1.wm (rvs_emp rl em) or3 ha)⟩⟩
  · obtain ⟨a, vs, rfl, ha, nw, rl⟩ := lst_apart s1 rv q1
    exact ⟨a, vs, rfl, .inl ⟨.inl ha, c ρ1 _ q _ H1 W1 s1' g1.left (ite_ok s1.wm rl or3 ha nw)⟩⟩
theorem rvs2 {K : PySem.W.Frag} {H : Hp} {Y F : AS} {vs : List V} {d e : D} (r : RVs K H Y vs [d, e] F) : ∃ v u G L, vs = [v, u] ∧ RV K H Y v d G ∧ RV K H Y u e L ∧ (∀ a, G a → F a) ∧ (∀ a, L a → F a) := by
  cases r with | cons r1 r2 dj u => cases r2 with | cons r2 r3 dj2 u2 => cases r3; exact ⟨_, _, _, _, rfl, r1, r2, fun a z => (u a).mpr (.inl z), fun a z => (u a).mpr (.inr ((u2 a).mpr (.inl z)))⟩
theorem lst_apart2 {K : PySem.W.Frag} {A W F G : AS} {H : Hp} {σ : L2.St} {ρ : DEnv} {v : V} {m : Bool} {l : List D} (s : Std K (Or2 F A) H σ ρ W) (r : RV K H (Or2 W (Or2 F A)) v (.lst m l) G) (hG : ∀ a, G a → F a) (h : l.all isFz = true) :
    ∃ a vs, v = .ref a ∧ Rd H a (.lst vs) ∧ ¬ W a ∧ RVs K H (Or2 W (Or2 F A)) vs l (fun _ => False) := by
  cases r with
  | lst0 q n r e => exact ⟨_, _, rfl, q, fun z => n (.inl z), rvs_emp r e⟩
  | lst1 q r n e => exact ⟨_, _, rfl, .inl q, fun z => s.dj _ z (.inl (hG _ ((e _).mpr (.inl rfl)))), rvs_emp r (rvs_fz r h)⟩
theorem di_zip (hg : Gl X "zip") (hm : X.mg "zip" = none) (ha : DL X [e, e2] Tl) (hs : starEach [e, e2] X.env = (false, eval e X.env) :: starEach [e2] X.env := by rfl) (hpl : (backTo pos (starEach [e2] X.env)).any (·.1) = false := by rfl) :
    DI X (.Tuple elts kk tpos) (.Call (.Name "zip" p) [e, e2] [] pos) (diZip Tl) := pi_imp (RZ.pi_zipA hg hm ha hs hpl) fun σ H R ⟨A, ρ, W, k, s, t, c⟩ => by
  refine ⟨A, ρ, W, _, s, t, fun ρ1 ds q vs H1 W1 F s1 r1 g1 => ?_⟩
  have s1' := s1.weak (A' := A) fun a z => .inr z
  split at q
  · obtain ⟨v, u, G, M, rfl, rv, ru, _, _⟩ := rvs2 r1
    obtain ⟨a, vs, rfl, ha, rl, em⟩ := rv_tup rv
    obtain ⟨b, us, rfl, hb, rm, em'⟩ := rv_tup ru
    exact ⟨a, b, vs, us, rfl, .inr ⟨ha.sq, hb.sq, c ρ1 _ q _ H1 W1 s1' g1.left (itzT_ok s1.wm (rvs_emp rl em) or3 (rvs_emp rm em') ha hb)⟩⟩
  · obtain ⟨v, u, G, M, rfl, rv, ru, sg, sm⟩ := rvs2 r1
    obtain ⟨q1, q⟩ := allFz_get q
    obtain ⟨q2, q⟩ := allFz_get q
    obtain ⟨a, vs, rfl, ha, na, rl⟩ := lst_apart2 s1 rv sg q1
    obtain ⟨b, us, rfl, hb, nb, rm⟩ := lst_apart2 s1 ru sm q2
    exact ⟨a, b, vs, us, rfl, .inl ⟨.inl ha, .inl hb, c ρ1 _ q _ H1 W1 s1' g1.left (itz_ok s1.wm rl or3 rm ha na hb nb)⟩⟩
  · exact q.elim
end

end Dl
/-! DL14: built-ins over data: sorted, len, isinstance, tuple, list, all, any .. -/
namespace Dl
open PySem PySem.Spec L2
def toPd (d : D) : PyData := (toP d).getD .none
/-- are all to be compared with one another: the sort's own ask -/
def SortOk (ds : List D) : Prop := (∀ d ∈ ds, (toP d).isSome = true ∧ (toPd d).depth ≤ 64) ∧ PySem.W.AllAlike (ds.map toPd) ∧ PySem.W.Sortable (ds.map toPd)
def sortD (ds : List D) : List D := ds.mergeSort (PySem.W.dataLe false toPd)
section
variable {X : Cx} {K : PySem.W.Frag}
theorem sorted_of_collect {prog : Program} {w : World} {A : Around} {E : Value → Shared → Prop} {s : Shared} {v : Value} {vs : List Value} {Q : Value → Shared → Prop} (hL : vs.length ≤ sizeLine)
    (hc : ∀ (A : Around) (E : Value → Shared → Prop) (Q : List Value → Shared → Prop), (∀ h', (∀ b o', s.heap.get? b = some o' → h'.get? b = some o') → Q vs { s with heap := h' }) → wpAny (model prog w) A (collect v) Q E s)
    (body : ∀ (h' : Heap), (∀ b o', s.heap.get? b = some o' → h'.get? b = some o') → ∀ E' : Value → Shared → Prop, wpAny (model prog w) A.in1.in1 (Builtin.«list.sort» ⟨[.ref h'.objs.size], []⟩) (fun f s' => f = .done (.ret .none) ∧ Q (.ref h'.objs.size) s') E' { s with heap := h'.push (PyProof.Rows.seqObj "list" vs.toArray 0) }) :
    wpAny (model prog w) A (call (.builtin "sorted") [v]) Q E s := by
  refine PyProof.Rows.call_function_entry_kw PyProof.Rows.kind_sorted PyProof.Rows.plain_sorted PyProof.Rows.entry_sorted (PyProof.Rows.args_sorted1 _) ?_
  unfold Builtin.«sorted»
  refine wpAny_bind (m := checkCount "sorted" 1 1 _) (wpAny_pure ?_)
  refine wpAny_bind (hc _ _ _ fun h' hk => ?_)
  refine wpAny_bind (wpAny_newList ?_ hL)
  show wpAny _ _ _ _ _ { s with heap := h'.push (PyProof.Rows.seqObj "list" vs.toArray 0) }
  refine wpAny_bind (wpAny_holding (PyProof.Rows.wpAny_call_entry_kw PyProof.Rows.slot_list_sort ⟨_, Heap.get?_push_size _ rfl, rfl⟩ PyProof.Rows.entry_list_sort ?body (PyProof.Rows.args_list_sort _)))
  case body =>
    refine wpAny_mono (body h' hk _) (fun f s' hf => ?_) fun _ _ e => e
    obtain ⟨rfl, hq⟩ := hf
    exact ⟨_, rfl, wpAny_pure ⟨_, rfl, hq⟩⟩
def rSortB (K : PySem.W.Frag) : List V → Hp → VK → Prop := fun xs H Q => ∃ (a : Addr) (β : Type) (bs : List β) (f : β → V) (enc : β → PyData), xs = [.ref a] ∧ (SqL K H a (bs.map f) ∨ SqT K H a (bs.map f)) ∧ (∀ b ∈ bs, Dp K H (f b) (enc b)) ∧
  PySem.W.AllAlike (bs.map enc) ∧ PySem.W.Sortable (bs.map enc) ∧ (∀ b ∈ bs, (enc b).depth ≤ 64) ∧ ∀ p, H p = none → Q (.ref p) (upd H p (.lst ((bs.mergeSort (PySem.W.dataLe false enc)).map f)))
theorem each_vals {β : Type} {f : β → V} : ∀ {bs : List β} {us : List Value}, Vals (bs.map f) us → PySem.W.EachIs (fun u b => RelV (f b) u) us bs
  | [], us, r => by cases r; exact .nil
  | b :: bs, us, r => by
    rw [List.map_cons] at r
    cases r with
    | cons r1 r2 => exact .cons r1 (each_vals r2)
theorem vals_each {β : Type} {f : β → V} : ∀ {bs : List β} {us : List Value}, PySem.W.EachIs (fun u b => RelV (f b) u) us bs → Vals (bs.map f) us
  | _, _, .nil => .nil
  | _, _, .cons r1 r2 => .cons r1 (vals_each r2)
theorem each_all {β γ : Type} {R S : γ → β → Prop} : ∀ {us : List γ} {bs : List β}, PySem.W.EachIs R us bs → (∀ u b, b ∈ bs → R u b → S u b) → PySem.W.EachIs S us bs
  | _, _, .nil, _ => .nil
  | _, _, .cons r1 r2, h => .cons (h _ _ (by simp) r1) (each_all r2 fun u b hb => h u b (List.mem_cons_of_mem _ hb))
open PySem.W PyProof.Rows in
theorem cr_sortB {k : Nat} (hr : Room k X.A) : CallR X (.builtin "sorted") (rSortB X.K) := by
  intro pins s σ H xs us Q I r h
  obtain ⟨a, β, bs, f, enc, rfl, hs, hd, hal, hk, hdp, q⟩ := h
  obtain ⟨u, rfl, rx⟩ := vals1 r
  cases rx
  have go : ∀ (its : List Value), Vals (bs.map f) its → (bs.map f).length ≤ sizeLine → (∀ (A : Around) (E : Value → Shared → Prop) (Q : List Value → Shared → Prop), (∀ h', (∀ b o', s.heap.get? b = some o' → h'.get? b = some o') → Q its { s with heap := h' }) → wpAny (model X.prog X.w) A (collect (.ref a)) Q E s) →
      wpAny (model X.prog X.w) X.A (call (.builtin "sorted") [.ref a]) (EP X pins σ Q) X.xe s := fun its rv hz hc => by
    have e0 : EachIs (fun u b => RelV (f b) u) its bs := each_vals rv
    have hlen : its.length = bs.length := e0.length
    refine sorted_of_collect (by rw [hlen]; simpa using hz) hc fun h' hk' E' => ?_
    have I1 : Inv X pins σ H { s with heap := h' } := I.kept (t' := s.toks) hk'
    -- the data that the items read as, in the heap that sorts
    have rd : ∀ (h2 : Heap), (∀ b o, h'.get? b = some o → h2.get? b = some o) → EachIs (fun u b => ∃ as, Reads h2 u (enc b) as) its bs := fun h2 k2 => each_all e0 fun u b hb ru => by
      obtain ⟨as, r⟩ := Dp.reads I (enc b) (f b) u (hd b hb) ru
      exact ⟨as, PyProof.Rows.Reads.keeps (fun b o e => k2 b o (hk' b o e)) r⟩
    have keepS : ∀ b o, h'.get? b = some o → (sortingHeap (h'.push (seqObj "list" its.toArray 0)) h'.objs.size its).get? b = some o := fun b o e => sortingHeap_old (Nat.ne_of_lt (Heap.lt_size e)) (Heap.get?_push_of_some _ e)
    have er' := rd _ keepS
    have ho : (h'.push (seqObj "list" its.toArray 0)).get? h'.objs.size = some (seqObj "list" its.toArray 0) := Heap.get?_push_size _ rfl
    have hur := hr.units
    refine list_sort_vals (s := { s with heap := h'.push (seqObj "list" its.toArray 0) }) ho
      (SortsAt.data (s := { s with heap := sortingHeap (h'.push (seqObj "list" its.toArray 0)) h'.objs.size its }) (each_map (R := fun v d => ∃ as, Reads (sortingHeap (h'.push (seqObj "list" its.toArray 0)) h'.objs.size its) v d as) enc er') hal hk fun d hdm => ?_) (by rw [hlen]; simpa using hz) ⟨rfl, ?_⟩
    · obtain ⟨b, hb, rfl⟩ := List.mem_map.mp hdm
      have := hdp b hb
      have := hr.un
      show X.A.units + 1 + 1 + _ < _
      omega
    · have out := sortVals_data (R := fun u b => RelV (f b) u) (enc := enc) false e0 er' hal
      have hlo : (sortVals (dataKind (sortingHeap (h'.push (seqObj "list" its.toArray 0)) h'.objs.size its) (bs.map enc)) false its its).length = its.length := sortVals_length false rfl
      have rvo := vals_each out
      obtain ⟨ep, he⟩ := sortedHeap_at (vs := its) (out := (sortVals (dataKind (sortingHeap (h'.push (seqObj "list" its.toArray 0)) h'.objs.size its) (bs.map enc)) false its its).toArray) ho
      have kp : ∀ b o, h'.get? b = some o → (sortedHeap (h'.push (seqObj "list" its.toArray 0)) h'.objs.size its (sortVals (dataKind (sortingHeap (h'.push (seqObj "list" its.toArray 0)) h'.objs.size its) (bs.map enc)) false its its).toArray).get? b = some o := fun b o e => by
        have e1 : (h'.push (seqObj "list" its.toArray 0)).get? b = some o := Heap.get?_push_of_some _ e
        exact (sortedHeap_old (Nat.ne_of_lt (Heap.lt_size e)) (Heap.lt_size e1)).trans e1
      have zl : ((bs.mergeSort (dataLe false enc)).map f).length ≤ sizeLine := by simpa using hz
      have I2 : Inv X pins σ (upd H h'.objs.size (.lst ((bs.mergeSort (dataLe false enc)).map f))) { s with heap := sortedHeap (h'.push (seqObj "list" its.toArray 0)) h'.objs.size its (sortVals (dataKind (sortingHeap (h'.push (seqObj "list" its.toArray 0)) h'.objs.size its) (bs.map enc)) false its its).toArray } :=
        I1.laid (t' := s.toks) kp (Nat.le_refl _) ⟨zl, _, ep, rvo, he⟩
      exact ⟨.ref h'.objs.size, _, I2, rfl, q _ (I1.hok.fresh (Nat.le_refl _))⟩
  rcases hs with hs | hs
  · obtain ⟨its, rv, p, hz⟩ := I.list hs
    obtain ⟨o, n, e, hc, hdd, hdt⟩ := p
    exact go its rv hz fun A E Q hq => wpAny_collect_seq a (.inl rfl) e hc hdt (fun h' k => by simpa using hq h' k) (by have := rv.length; simp at this ⊢; simp at hz; omega)
  · obtain ⟨its, rv, p, hz⟩ := I.tuple hs
    obtain ⟨o, e, hc, n, hdt⟩ := p
    exact go its rv hz fun A E Q hq => wpAny_collect_seq a (.inr rfl) e hc hdt (fun h' k => by simpa using hq h' k) (by have := rv.length; simp at this ⊢; simp at hz; omega)
end
end Dl
/-! DL15: built-ins over data, by name. -/
namespace Dl
open PySem PySem.Spec L2
/-- one argument -/
def a1 (ds : List D) (k : D → Prop) : Prop := match ds with
  | [d] => k d
  | _ => False
def a2 (ds : List D) (k : D → D → Prop) : Prop := match ds with
  | [d, e] => k d e
  | _ => False
theorem a1_get {ds : List D} {k : D → Prop} (h : a1 ds k) : ∃ d, ds = [d] ∧ k d := by
  unfold a1 at h
  split at h
  · exact ⟨_, rfl, h⟩
  · exact h.elim
theorem a2_get {ds : List D} {k : D → D → Prop} (h : a2 ds k) : ∃ d e, ds = [d, e] ∧ k d e := by
  unfold a2 at h
  split at h
  · exact ⟨_, _, rfl, h⟩
  · exact h.elim
section
variable {X : Cx} {K : PySem.W.Frag}

/-! ### sorted -/
def oSorted (ds : List D) (k : D → Prop) : Prop := a1 ds fun d => seqK d fun l => SortOk l ∧ l.all isFz = true ∧ k (.lst true (sortD l))
theorem zip_map {H : Hp} {Y F : AS} : ∀ {vs : List V} {ds : List D}, RVs K H Y vs ds F → ∃ bs : List (V × D), vs = bs.map (·.1) ∧ ds = bs.map (·.2) ∧ ∀ b ∈ bs, ∃ G, RV K H Y b.1 b.2 G ∧ ∀ a, G a → F a
  | vs, [], r => by cases r; exact ⟨[], rfl, rfl, by simp⟩
  | vs, d :: ds, r => by
    cases r with
    | cons r1 r2 dj u =>
      obtain ⟨bs, h1, h2, h3⟩ := zip_map r2
      refine ⟨(_, d) :: bs, by rw [h1]; rfl, by rw [h2]; rfl, fun b hb => ?_⟩
      rcases List.mem_cons.mp hb with rfl | hb
      · exact ⟨_, r1, fun a z => (u a).mpr (.inl z)⟩
      · obtain ⟨G, r, s⟩ := h3 b hb
        exact ⟨G, r, fun a z => (u a).mpr (.inr (s a z))⟩
theorem rvs_of_mem {H : Hp} {Y : AS} : ∀ {bs : List (V × D)}, (∀ b ∈ bs, RV K H Y b.1 b.2 (fun _ => False)) → RVs K H Y (bs.map (·.1)) (bs.map (·.2)) (fun _ => False)
  | [], _ => .nil emF
  | b :: bs, h => .cons (h b (by simp)) (rvs_of_mem fun b hb => h b (List.mem_cons_of_mem _ hb)) (fun _ z _ => z) fun b => ⟨False.elim, fun z => z.elim id id⟩
theorem rl_sorted : RLD K (rSortB K) oSorted := fun H Y vs ds k Q r h c => by
  replace h := a1_get h
  obtain ⟨d, rfl, h⟩ := h
  obtain ⟨v, F, rfl, rv⟩ := rvv1 r
  have fin : ∀ (a : Addr) (us : List V) (l : List D), v = .ref a → (SqL K H a us ∨ SqT K H a us) → RVs K H Y us l (fun _ => False) → SortOk l → k (.lst true (sortD l)) → rSortB K [v] H Q := fun a us l hv hs rl so kk => by
    subst hv
    obtain ⟨bs, rfl, rfl, hb⟩ := zip_map rl
    obtain ⟨s1, s2, s3⟩ := so
    have em : (fun b : V × D => toPd b.2) = toPd ∘ Prod.snd := rfl
    refine ⟨a, V × D, bs, Prod.fst, fun b => toPd b.2, rfl, hs, fun b hm => ?_, ?_, ?_, fun b hm => (s1 b.2 (List.mem_map.mpr ⟨b, hm, rfl⟩)).2, fun p hp => ?_⟩
    · obtain ⟨G, rb, _⟩ := hb b hm
      have h1 := (s1 b.2 (List.mem_map.mpr ⟨b, hm, rfl⟩)).1
      obtain ⟨pd, hpd⟩ := Option.isSome_iff_exists.mp h1
      have : toPd b.2 = pd := by unfold toPd; rw [hpd]; rfl
      show Dp K H b.1 (toPd b.2)
      rw [this]
      exact dp_of rb pd hpd
    · rw [List.map_map] at s2; exact s2
    · rw [List.map_map] at s3; exact s3
    · have hp2 : (bs.mergeSort (PySem.W.dataLe false fun b => toPd b.2)).map (·.2) = sortD (bs.map (·.2)) := by
        unfold sortD
        rw [List.map_mergeSort]
        intro a _ b _; rfl
      refine r_lst hp (ds := sortD (bs.map (·.2))) kk ?_ emF c
      rw [← hp2]
      exact rvs_of_mem fun b hm => by
        obtain ⟨G, rb, sg⟩ := hb b ((List.mergeSort_perm _ _).mem_iff.mp hm)
        exact rv_emp rb fun a z => sg a z
  rcases seqK_get h with ⟨l, rfl, so, fzz, kk⟩ | ⟨m, l, rfl, q1, so, fzz, kk⟩
  · obtain ⟨a, us, rfl, ha, rl, em⟩ := rv_tup rv
    exact fin a us l rfl (.inr (ha.sq)) (rvs_emp rl em) so kk
  · obtain ⟨a, us, rfl, ha, rl⟩ := lift_allFz rv q1
    exact fin a us l rfl (.inl (.inl ha)) rl so kk

/-! ### len -/
def lenD (d : D) : Option Nat := match d with
  | .tup l => some l.length
  | .key l => some l.length
  | .lst _ l => some l.length
  | .dct _ l => some l.length
  | .dcT _ l => some l.length
  | .str z => some z.length
  | _ => none
def oLen (ds : List D) (k : D → Prop) : Prop := a1 ds fun d => match lenD d with
  | some n => (match d with | .str z => z.length ≤ sizeLine | _ => True) ∧ k (.int (n : Nat))
  | none => False
abbrev rLenAll (K : PySem.W.Frag) : List V → Hp → VK → Prop := fun xs H Q => (∃ x n, xs = [x] ∧ LenV K x H n ∧ Q (.int n) H) ∨ (∃ d kvs, xs = [.ref d] ∧ H d = some (.dK kvs) ∧ Q (.int kvs.length) H) ∨ rLenT xs H Q
theorem call_lenAll : CallR X (.builtin "len") (rLenAll X.K) := call_len.or (call_lenD.or call_len_dT)
theorem rl_len : RLD K (rLenAll K) oLen := fun H Y vs ds k Q r h c => by
  replace h := a1_get h
  obtain ⟨d, rfl, h⟩ := h
  obtain ⟨v, F, rfl, rv⟩ := rvv1 r
  cases d with
  | tup l =>
    obtain ⟨a, us, rfl, ha, rl, em⟩ := rv_tup rv
    refine .inl ⟨.ref a, l.length, rfl, .inr ⟨us, ha.sq, (rvs_length rl).symm⟩, r_plain h.2 (fun _ => .int emF) c⟩
  | key l =>
    obtain ⟨a, us, rfl, ha, rl, em⟩ := rv_key rv
    refine .inl ⟨.ref a, l.length, rfl, .inr ⟨us, SqT.of ha, (rvs_length rl).symm⟩, r_plain h.2 (fun _ => .int emF) c⟩
  | lst m l =>
    obtain ⟨a, us, G, rfl, ha, rl, _, _⟩ := rv_lst rv
    exact .inl ⟨.ref a, l.length, rfl, .inl ⟨us, .inl ha, (rvs_length rl).symm⟩, r_plain h.2 (fun _ => .int emF) c⟩
  | dct m l =>
    obtain ⟨a, us, G, rfl, ha, hk, rl, _, _⟩ := rv_dct rv
    have e : us.length = l.length := by simpa using congrArg List.length hk
    exact .inr (.inl ⟨a, us, rfl, ha, by rw [e]; exact r_plain h.2 (fun _ => .int emF) c⟩)
  | dcT m l =>
    obtain ⟨a, us, G, rfl, ha, hk, rl, _, _⟩ := rv_dcT rv
    have e : us.length = l.length := by simpa using congrArg List.length hk
    exact .inr (.inr ⟨a, us, rfl, ha, by rw [e]; exact r_plain h.2 (fun _ => .int emF) c⟩)
  | str z => exact .inl ⟨.str z, z.length, by rw [rv_str rv], ⟨h.1, rfl⟩, r_plain h.2 (fun _ => .int emF) c⟩
  | _ => exact h.elim

/-! ### isinstance of a built-in class, or of some -/
def tyName (d : D) : Option String := match d with
  | .non => some "NoneType"
  | .bl _ => some "bool"
  | .int _ => some "int"
  | .str _ => some "str"
  | .tup _ => some "tuple"
  | .key _ => some "tuple"
  | .lst _ _ => some "list"
  | .dct _ _ => some "dict"
  | .dcT _ _ => some "dict"
  | _ => none
/-- is what is called a a thing of T -/
def subTy (a T : String) : Option Bool :=
  if T = "int" then some (a = "int" || a = "bool") else if T = "bool" then some (a = "bool") else if T = "str" then some (a = "str") else
  if T = "tuple" then some (a = "tuple") else if T = "list" then some (a = "list") else if T = "dict" then some (a = "dict") else none
theorem subTy_ok {d : D} {a T : String} {b : Bool} (ha : tyName d = some a) (h : subTy a T = some b) : kitB a T = some b := by
  have hT : T = "int" ∨ T = "bool" ∨ T = "str" ∨ T = "tuple" ∨ T = "list" ∨ T = "dict" := by
    unfold subTy at h
    repeat (split at h; · first | exact .inl ‹_› | exact .inr (.inl ‹_›) | exact .inr (.inr (.inl ‹_›)) | exact .inr (.inr (.inr (.inl ‹_›))) | exact .inr (.inr (.inr (.inr (.inl ‹_›)))) | exact .inr (.inr (.inr (.inr (.inr ‹_›)))))
    cases h
  have hA : a = "NoneType" ∨ a = "bool" ∨ a = "int" ∨ a = "str" ∨ a = "tuple" ∨ a = "list" ∨ a = "dict" := by
    cases d <;> simp [tyName] at ha <;> simp [← ha]
  have key : ∀ a' ∈ ["NoneType", "bool", "int", "str", "tuple", "list", "dict"], ∀ T' ∈ ["int", "bool", "str", "tuple", "list", "dict"], kitB a' T' = subTy a' T' := by decide +kernel
  rw [← h]
  exact key a (by simpa using hA) T (by simpa using hT)
theorem tyx_of {H : Hp} {Y F : AS} {v : V} {d : D} {a : String} (r : RV K H Y v d F) (h : tyName d = some a) : TyX K H v (.type a) := by
  cases r with
  | non e => cases h; exact .base .non
  | bl e => cases h; exact .base (.bl _)
  | int e => cases h; exact .base (.int _)
  | str e => cases h; exact .base (.str _)
  | ref e => cases h
  | ty e => cases h
  | tup q r e => cases h; obtain ⟨o, q, _⟩ := q; exact .fTuple q
  | key q r e => cases h; exact .base (.tup q)
  | lst0 q n r e =>
    cases h
    rcases q with q | ⟨o, q⟩
    · exact .base (.lst q)
    · exact .base (.frz q)
  | lst1 q r n e => cases h; exact .base (.lst q)
  | dct0 q n x r e => cases h; exact .base (.dK q)
  | dct1 q x r n e => cases h; exact .base (.dK q)
  | dcT0 q n x r e => cases h; exact .base (.dT q)
  | dcT1 q x r n e => cases h; exact .base (.dT q)
  | obj0 | obj1 | exc0 | exc1 => cases h
def isiD (d : D) (T : String) : Option Bool := (tyName d).bind fun a => subTy a T
def isiAny (d : D) : List D → Option Bool
  | [] => (tyName d).map fun _ => false
  | .ty T :: l => match isiD d T, isiAny d l with
    | some b, some c => some (b || c)
    | _, _ => none
  | _ :: _ => none
def oIsi (ds : List D) (k : D → Prop) : Prop := a2 ds fun d t => match t with
  | .ty T => optK (isiD d T) k
  | .key l => optK (isiAny d l) k
  | _ => False
abbrev rIsiAll (K : PySem.W.Frag) : List V → Hp → VK → Prop := fun xs H Q => rIsi K xs H Q ∨ rIsiT K xs H Q
theorem call_isiAll : CallR X (.builtin "isinstance") (rIsiAll X.K) := call_isi.or call_isiT
theorem isiAny_ok {H : Hp} {Y F : AS} {d : D} {a : String} (ha : tyName d = some a) : ∀ {l : List D} {vs : List V} {b : Bool}, RVs K H Y vs l F → isiAny d l = some b → ∃ us, Paired ClsV vs us ∧ PySem.W.kitAny K (.type a) us = some b
  | [], vs, b, r, h => by cases r; rw [isiAny, ha] at h; cases h; exact ⟨[], .nil, kitAny_nil⟩
  | e :: l, vs, b, r, h => by
    cases r with
    | @cons v _ vs _ F1 F2 _ r1 r2 _ _ =>
      cases e with
      | ty T =>
        simp only [isiAny] at h
        split at h
        · rename_i b1 b2 h1 h2
          cases h
          obtain ⟨us, p, q⟩ := isiAny_ok ha r2 h2
          simp only [isiD, ha, Option.bind_some] at h1
          have h3 := kit_ty (K := K) (subTy_ok ha h1)
          rw [rv_ty r1]
          refine ⟨.type T :: us, .cons (.ty T) p, ?_⟩
          cases b1 with
          | true => rw [Bool.true_or]; exact kitAny_cons (r := true) h3 (fun z => by cases z) fun _ => rfl
          | false => rw [Bool.false_or]; exact kitAny_cons h3 (fun _ => q) fun z => by cases z
        · cases h
      | _ => cases h
theorem rl_isi : RLD K (rIsiAll K) oIsi := fun H Y vs ds k Q r h c => by
  replace h := a2_get h
  obtain ⟨d, t, rfl, h⟩ := h
  obtain ⟨v, u, F, G, rfl, rv, ru⟩ := rvv2 r
  split at h
  · obtain ⟨b, hb, h⟩ := optK_get h
    obtain ⟨a, ha, hb⟩ := Option.bind_eq_some_iff.mp hb
    rw [rv_ty ru]
    exact .inl ⟨v, _, _, _, b, rfl, .ty _, tyx_of rv ha, kit_ty (subTy_ok ha hb), r_plain h (fun _ => .bl emF) c⟩
  · rename_i l
    obtain ⟨b, hb, h⟩ := optK_get h
    obtain ⟨p, us, rfl, hp, rl, em⟩ := rv_key ru
    cases ha : tyName d with
    | some a =>
      obtain ⟨ts, p1, p2⟩ := isiAny_ok ha rl hb
      exact .inr ⟨v, p, us, _, ts, b, rfl, hp, p1, tyx_of rv ha, p2, r_plain h (fun _ => .bl emF) c⟩
    | none =>
      cases l with
      | nil => rw [isiAny, ha] at hb; cases hb
      | cons e l =>
        cases e with
        | ty T => simp [isiAny, isiD, ha] at hb
        | _ => simp [isiAny] at hb
  · exact h.elim

/-! ### int, abs, tuple, list -/
def oInt (ds : List D) (k : D → Prop) : Prop := a1 ds fun d => match d with
  | .int i => k (.int i)
  | .bl b => k (.int (if b then 1 else 0))
  | _ => False
theorem rl_int : RLD K (fun xs H Q => (∃ i, xs = [.int i] ∧ Q (.int i) H) ∨ ∃ k, xs = [.bl k] ∧ Q (.int (if k then 1 else 0)) H) oInt := fun H Y vs ds k Q r h c => by
  replace h := a1_get h
  obtain ⟨d, rfl, h⟩ := h
  obtain ⟨v, F, rfl, rv⟩ := rvv1 r
  split at h
  · exact .inl ⟨_, by rw [rv_int rv], r_plain h (fun _ => .int emF) c⟩
  · exact .inr ⟨_, by rw [rv_bl rv], r_plain h (fun _ => .int emF) c⟩
  · exact h.elim
def oAbs (ds : List D) (k : D → Prop) : Prop := a1 ds fun d => match d with
  | .int i => k (.int (if i < 0 then -i else i))
  | _ => False
theorem rl_abs : RLD K (fun xs H Q => ∃ i, xs = [.int i] ∧ Q (.int (if i < 0 then -i else i)) H) oAbs := fun H Y vs ds k Q r h c => by
  replace h := a1_get h
  obtain ⟨d, rfl, h⟩ := h
  obtain ⟨v, F, rfl, rv⟩ := rvv1 r
  split at h
  · exact ⟨_, by rw [rv_int rv], r_plain h (fun _ => .int emF) c⟩
  · exact h.elim
def oTuple (ds : List D) (k : D → Prop) : Prop := a1 ds fun d => match d with
  | .tup l => k (.tup l)
  | .lst _ l => allFz l (k (.tup l))
  | _ => False
theorem rl_tuple : RLD K (rTupOf K) oTuple := fun H Y vs ds k Q r h c => by
  replace h := a1_get h
  obtain ⟨d, rfl, h⟩ := h
  obtain ⟨v, F, rfl, rv⟩ := rvv1 r
  split at h
  · obtain ⟨a, us, rfl, ha, rl, em⟩ := rv_tup rv
    exact ⟨a, us, rfl, .inr ⟨ha.sq, r_old h rv em c⟩⟩
  · obtain ⟨q1, q2⟩ := allFz_get h
    obtain ⟨a, us, rfl, ha, rl⟩ := lift_allFz rv q1
    exact ⟨a, us, rfl, .inl ⟨.inl ha, fun l o hl hd => r_tup hl hd q2 rl emF c⟩⟩
  · exact h.elim
def oList (ds : List D) (k : D → Prop) : Prop := a1 ds fun d => seqK d fun l => l.all isFz = true ∧ k (.lst true l)
theorem rl_list : RLD K (fun xs H Q => ∃ p ys, xs = [.ref p] ∧ (SqL K H p ys ∨ SqT K H p ys) ∧ ∀ l, H l = none → Q (.ref l) (upd H l (.lst ys))) oList := fun H Y vs ds k Q r h c => by
  replace h := a1_get h
  obtain ⟨d, rfl, h⟩ := h
  obtain ⟨v, F, rfl, rv⟩ := rvv1 r
  rcases seqK_get h with ⟨l, rfl, _, h⟩ | ⟨m, l, rfl, q1, _, h⟩
  · obtain ⟨a, us, rfl, ha, rl, em⟩ := rv_tup rv
    exact ⟨a, us, rfl, .inr (ha.sq), fun p hp => r_lst hp h rl em c⟩
  · obtain ⟨a, us, rfl, ha, rl⟩ := lift_allFz rv q1
    exact ⟨a, us, rfl, .inl (.inl ha), fun p hp => r_lst hp h rl emF c⟩

/-! ### all, any of a list of bools -/
def blsD : List D → Option (List Bool)
  | [] => some []
  | .bl b :: l => (blsD l).map (b :: ·)
  | _ :: _ => none
theorem bls_rv {H : Hp} {Y F : AS} : ∀ {l : List D} {vs : List V} {bs : List Bool}, RVs K H Y vs l F → blsD l = some bs → vs = bs.map V.bl
  | [], vs, bs, r, h => by cases r; cases h; rfl
  | d :: l, vs, bs, r, h => by
    cases r with
    | cons r1 r2 _ _ =>
      cases d with
      | bl b =>
        simp only [blsD, Option.map_eq_some_iff] at h
        obtain ⟨bs', h1, rfl⟩ := h
        rw [rv_bl r1, bls_rv r2 h1]; rfl
      | _ => cases h
def oAll (ds : List D) (k : D → Prop) : Prop := a1 ds fun d => match d with
  | .lst _ l => (match blsD l with | some bs => k (.bl (bs.all id)) | none => False)
  | _ => False
def oAny (ds : List D) (k : D → Prop) : Prop := a1 ds fun d => match d with
  | .lst _ l => (match blsD l with | some bs => k (.bl (bs.any id)) | none => False)
  | _ => False
theorem rl_all : RLD K (rAll K) oAll := fun H Y vs ds k Q r h c => by
  replace h := a1_get h
  obtain ⟨d, rfl, h⟩ := h
  obtain ⟨v, F, rfl, rv⟩ := rvv1 r
  split at h
  · split at h
    · rename_i bs hb
      obtain ⟨a, us, G, rfl, ha, rl, _, _⟩ := rv_lst rv
      exact ⟨a, bs, rfl, by rw [← bls_rv rl hb]; exact .inl ha, r_plain h (fun _ => .bl emF) c⟩
    · exact h.elim
  · exact h.elim
theorem rl_any : RLD K (rAny K) oAny := fun H Y vs ds k Q r h c => by
  replace h := a1_get h
  obtain ⟨d, rfl, h⟩ := h
  obtain ⟨v, F, rfl, rv⟩ := rvv1 r
  split at h
  · split at h
    · rename_i bs hb
      obtain ⟨a, us, G, rfl, ha, rl, _, _⟩ := rv_lst rv
      exact ⟨a, bs, rfl, by rw [← bls_rv rl hb]; exact .inl ha, r_plain h (fun _ => .bl emF) c⟩
    · exact h.elim
  · exact h.elim
end
end Dl
/-! DL16: paths to owned data: the place a statement writes to. -/
namespace Dl
open PySem PySem.Spec L2

/-- the n-th thing of an object -/
def kid (H : Hp) (a : Addr) (n : Nat) (u : V) : Prop := (∃ vs, H a = some (.lst vs) ∧ vs[n]? = some u) ∨ (∃ C dx fs, H a = some (.ins C dx fs) ∧ (fs.map (·.2))[n]? = some u) ∨
  (∃ kvs, H a = some (.dK kvs) ∧ (kvs.map (·.2))[n]? = some u) ∨ ∃ kvs, H a = some (.dT kvs) ∧ (kvs.map (·.2))[n]? = some u
def Nav (H : Hp) : V → List Nat → V → Prop
  | v, [], u => v = u
  | v, n :: p, u => ∃ a x, v = .ref a ∧ kid H a n x ∧ Nav H x p u
theorem kid_one {H : Hp} {a : Addr} {n : Nat} {u v : V} (h : kid H a n u) (k : kid H a n v) : u = v := by
  rcases h with ⟨_, e, h⟩ | ⟨_, _, _, e, h⟩ | ⟨_, e, h⟩ | ⟨_, e, h⟩ <;> rcases k with ⟨_, f, k⟩ | ⟨_, _, _, f, k⟩ | ⟨_, f, k⟩ | ⟨_, f, k⟩ <;> rw [e] at f <;> cases f <;> rw [h] at k <;> cases k <;> rfl
theorem nav_one {H : Hp} : ∀ {p : List Nat} {x u v : V}, Nav H x p u → Nav H x p v → u = v
  | [], x, u, v, h, k => by cases h; cases k; rfl
  | n :: p, x, u, v, ⟨a, y, e, h1, h2⟩, ⟨b, z, f, k1, k2⟩ => by
    cases e; cases f
    cases kid_one h1 k1
    exact nav_one h2 k2
theorem kid_ext {H H' : Hp} {a : Addr} {n : Nat} {u : V} (e : Ext H H') (h : kid H a n u) : kid H' a n u := by
  rcases h with ⟨_, q, h⟩ | ⟨_, _, _, q, h⟩ | ⟨_, q, h⟩ | ⟨_, q, h⟩
  · exact .inl ⟨_, e _ _ q, h⟩
  · exact .inr (.inl ⟨_, _, _, e _ _ q, h⟩)
  · exact .inr (.inr (.inl ⟨_, e _ _ q, h⟩))
  · exact .inr (.inr (.inr ⟨_, e _ _ q, h⟩))
theorem nav_ext {H H' : Hp} (e : Ext H H') : ∀ {p : List Nat} {x u : V}, Nav H x p u → Nav H' x p u
  | [], x, u, h => h
  | n :: p, x, u, ⟨a, y, q, h1, h2⟩ => ⟨a, y, q, kid_ext e h1, nav_ext e h2⟩
theorem nav_snoc {H : Hp} {n : Nat} {a : Addr} {w : V} : ∀ {p : List Nat} {x : V}, Nav H x p (.ref a) → kid H a n w → Nav H x (p ++ [n]) w
  | [], x, h, k => ⟨a, w, h, k, rfl⟩
  | m :: p, x, ⟨b, y, q, h1, h2⟩, k => ⟨b, y, q, h1, nav_snoc h2 k⟩

/-- the data at a path; all on the way is owned -/
def getP : List Nat → D → Option D
  | [], d => some d
  | n :: p, .lst true l => (l[n]?).bind (getP p)
  | n :: p, .obj true _ _ l => (l[n]?).bind (getP p)
  | n :: p, .dct true l => (l[n]?).bind fun q => getP p q.2
  | n :: p, .dcT true l => (l[n]?).bind fun q => getP p q.2
  | _ :: _, _ => none
def setP : List Nat → D → D → D
  | [], c, _ => c
  | n :: p, c, .lst m l => .lst m (l.modify n (setP p c))
  | n :: p, c, .obj m C ns l => .obj m C ns (l.modify n (setP p c))
  | n :: p, c, .dct m l => .dct m (l.modify n fun q => (q.1, setP p c q.2))
  | n :: p, c, .dcT m l => .dcT m (l.modify n fun q => (q.1, setP p c q.2))
  | _ :: _, _, d => d
theorem getP_snoc {n : Nat} {d e : D} : ∀ {p : List Nat} {c : D}, getP p d = some c → getP [n] c = some e → getP (p ++ [n]) d = some e
  | [], c, h, k => by cases h; exact k
  | m :: p, c, h, k => by
    cases d with
    | lst b l =>
      cases b with
      | false => cases h
      | true =>
        show (l[m]?).bind (getP (p ++ [n])) = some e
        obtain ⟨x, hx, h⟩ := Option.bind_eq_some_iff.mp h
        rw [hx]
        exact getP_snoc h k
    | obj b C ns l =>
      cases b with
      | false => cases h
      | true =>
        show (l[m]?).bind (getP (p ++ [n])) = some e
        obtain ⟨x, hx, h⟩ := Option.bind_eq_some_iff.mp h
        rw [hx]
        exact getP_snoc h k
    | dct b l =>
      cases b with
      | false => cases h
      | true =>
        show ((l[m]?).bind fun q => getP (p ++ [n]) q.2) = some e
        obtain ⟨x, hx, h⟩ := Option.bind_eq_some_iff.mp h
        rw [hx]
        exact getP_snoc h k
    | dcT b l =>
      cases b with
      | false => cases h
      | true =>
        show ((l[m]?).bind fun q => getP (p ++ [n]) q.2) = some e
        obtain ⟨x, hx, h⟩ := Option.bind_eq_some_iff.mp h
        rw [hx]
        exact getP_snoc h k
    | _ => cases h

section
variable {K : PySem.W.Frag} {H : Hp} {X : AS}
/-- one of some values taken out; it, or another in its place, comes back -/
theorem RVs.hole {n : Nat} {d : D} : ∀ {ds : List D} {vs : List V} {F : AS}, RVs K H X vs ds F → ds[n]? = some d →
    ∃ u Fk Fr, vs[n]? = some u ∧ RV K H X u d Fk ∧ Dj Fk Fr ∧ (∀ a, F a ↔ Fk a ∨ Fr a) ∧
      ∀ (H' : Hp) (X' W : AS) (u' : V) (d' : D) (N : AS), LaterT X X' W H H' → (∀ a, Fr a → ¬ W a) → RV K H' X' u' d' N → Dj N Fr → RVs K H' X' (vs.set n u') (ds.set n d') (fun a => N a ∨ Fr a) := by
  induction n with
  | zero =>
    intro ds vs F r h
    cases ds with
    | nil => cases h
    | cons e ds =>
      cases h
      cases r with
      | @cons v _ vs _ F1 G1 _ r1 r2 dj u =>
        exact ⟨v, F1, G1, rfl, r1, dj, u, fun H' X' W u' d' N l nw rn djn => .cons rn (r2.later l nw) djn fun b => Iff.rfl⟩
  | succ n ih =>
    intro ds vs F r h
    cases ds with
    | nil => cases h
    | cons e ds =>
      cases r with
      | @cons v _ vs _ F1 G1 _ r1 r2 dj u =>
        obtain ⟨w, Fk, Fr, hw, rk, djk, eq, back⟩ := ih r2 h
        refine ⟨w, Fk, fun a => F1 a ∨ Fr a, hw, rk, fun a z y => y.elim (fun y => dj a y ((eq a).mpr (.inl z))) (djk a z), fun a => ⟨fun z => ?_, fun z => ?_⟩, fun H' X' W u' d' N l nw rn djn => ?_⟩
        · rcases (u a).mp z with z | z
          · exact .inr (.inl z)
          · exact ((eq a).mp z).imp id .inr
        · rcases z with z | z | z
          · exact (u a).mpr (.inr ((eq a).mpr (.inl z)))
          · exact (u a).mpr (.inl z)
          · exact (u a).mpr (.inr ((eq a).mpr (.inr z)))
        · refine .cons (r1.later l fun a z => nw a (.inl z)) (back H' X' W u' d' N l (fun a z => nw a (.inr z)) rn fun a z y => djn a z (.inr y)) (fun a z y => ?_) fun b => ⟨fun z => ?_, fun z => ?_⟩
          · rcases y with y | y
            · exact djn a y (.inl z)
            · exact dj a z ((eq a).mpr (.inr y))
          · rcases z with z | z | z
            · exact .inr (.inl z)
            · exact .inl z
            · exact .inr (.inr z)
          · rcases z with z | z | z
            · exact .inr (.inl z)
            · exact .inl z
            · exact .inr (.inr z)
theorem map_modify {α β : Type} (f : α → β) (g : α → α) (h : β → β) (e : ∀ x, f (g x) = h (f x)) (l : List α) (n : Nat) : (l.modify n g).map f = (l.map f).modify n h := by
  induction l generalizing n with
  | nil => cases n <;> rfl
  | cons x l ih =>
    cases n with
    | zero => simp [List.modify_zero_cons, e]
    | succ n => simp [List.modify_succ_cons, ih]
theorem modify_set {α : Type} {f : α → α} {l : List α} {n : Nat} {x : α} (h : l[n]? = some x) : l.modify n f = l.set n (f x) := by
  induction l generalizing n with
  | nil => cases h
  | cons y l ih =>
    cases n with
    | zero => cases h; simp [List.modify_zero_cons]
    | succ n => simp [List.modify_succ_cons, ih (n := n) h]
theorem set_same {α : Type} {l : List α} {n : Nat} {x : α} (h : l[n]? = some x) : l.set n x = l := by
  obtain ⟨hn, e⟩ := List.getElem?_eq_some_iff.mp h
  rw [← e]; exact List.set_getElem_self hn
theorem map_snd_set {κ : Type} {l : List (κ × D)} {n : Nat} {q : κ × D} (f : D → D) (h : l[n]? = some q) : (l.modify n fun q => (q.1, f q.2)).map (·.2) = (l.map (·.2)).set n (f q.2) := by
  rw [map_modify (·.2) (fun q : κ × D => (q.1, f q.2)) f (fun _ => rfl), modify_set (x := q.2) (by rw [List.getElem?_map, h]; rfl)]
theorem modify_id {α : Type} (l : List α) (n : Nat) : l.modify n (fun x => x) = l := by
  induction l generalizing n with
  | nil => cases n <;> rfl
  | cons y l ih =>
    cases n with
    | zero => simp [List.modify_zero_cons]
    | succ n => simp [List.modify_succ_cons, ih n]
theorem map_fst_set {κ : Type} {l : List (κ × D)} {n : Nat} (f : D → D) : (l.modify n fun q => (q.1, f q.2)).map (·.1) = l.map (·.1) := by
  rw [map_modify (·.1) (fun q : κ × D => (q.1, f q.2)) (fun x => x) (fun _ => rfl), modify_id]

/-- THE FOCUS: what is at a path, taken out; it comes back, or what it has become -/
theorem RV.focus {c : D} : ∀ {p : List Nat} {v : V} {d : D} {F : AS}, RV K H X v d F → getP p d = some c →
    ∃ u Fc Fr, Nav H v p u ∧ RV K H X u c Fc ∧ Dj Fc Fr ∧ (∀ a, F a ↔ Fc a ∨ Fr a) ∧
      ∀ (H' : Hp) (X' W : AS) (c' : D) (N : AS), LaterT X X' W H H' → (∀ a, Fr a → ¬ W a) → RV K H' X' u c' N → Dj N Fr → RV K H' X' v (setP p c' d) (fun a => N a ∨ Fr a)
  | [], v, d, F, r, h => by
    cases h
    exact ⟨v, F, fun _ => False, rfl, r, fun _ _ z => z, fun a => ⟨.inl, fun z => z.elim id False.elim⟩, fun H' X' W c' N l nw rn _ => rn.congr fun a => ⟨.inl, fun z => z.elim id False.elim⟩⟩
  | n :: p, v, d, F, r, h => by
    cases d with
    | lst b l =>
      cases b with
      | false => cases h
      | true =>
        obtain ⟨x, hx, h⟩ := Option.bind_eq_some_iff.mp h
        cases r with
        | @lst1 a vs _ F0 _ ha rs na add =>
          obtain ⟨w, Fk, Fr, hw, rk, djk, eq, back⟩ := rs.hole hx
          obtain ⟨u, Fc, Fs, nav, rc, djc, eqc, backc⟩ := rk.focus h
          refine ⟨u, Fc, fun b => b = a ∨ Fs b ∨ Fr b, ⟨a, w, rfl, .inl ⟨vs, ha, hw⟩, nav⟩, rc, fun b z y => ?_, fun b => ⟨fun z => ?_, fun z => ?_⟩, fun H' X' W c' N lt nw rn djn => ?_⟩
          · rcases y with rfl | y | y
            · exact na ((eq _).mpr (.inl ((eqc _).mpr (.inl z))))
            · exact djc b z y
            · exact djk b ((eqc b).mpr (.inl z)) y
          · rcases (add b).mp z with z | z
            · exact .inr (.inl z)
            · rcases (eq b).mp z with z | z
              · exact ((eqc b).mp z).imp id fun z => .inr (.inl z)
              · exact .inr (.inr (.inr z))
          · rcases z with z | z | z | z
            · exact (add b).mpr (.inr ((eq b).mpr (.inl ((eqc b).mpr (.inl z)))))
            · exact (add b).mpr (.inl z)
            · exact (add b).mpr (.inr ((eq b).mpr (.inl ((eqc b).mpr (.inr z)))))
            · exact (add b).mpr (.inr ((eq b).mpr (.inr z)))
          · have rx := backc H' X' W c' N lt (fun b z => nw b (.inr (.inl z))) rn fun b z y => djn b z (.inr (.inl y))
            have ry := back H' X' W w _ _ lt (fun b z => nw b (.inr (.inr z))) rx fun b z y => z.elim (fun z => djn b z (.inr (.inr y))) fun z => djk b ((eqc b).mpr (.inr z)) y
            rw [set_same hw] at ry
            show RV K H' X' (.ref a) (.lst true (l.modify n (setP p c'))) _
            rw [modify_set hx]
            refine .lst1 (lt.keep a _ ha (nw a (.inl rfl))) ry (fun z => ?_) fun b => ⟨fun z => ?_, fun z => ?_⟩
            · rcases z with (z | z) | z
              · exact djn a z (.inl rfl)
              · exact na ((eq a).mpr (.inl ((eqc a).mpr (.inr z))))
              · exact na ((eq a).mpr (.inr z))
            · rcases z with z | z | z | z
              · exact .inr (.inl (.inl z))
              · exact .inl z
              · exact .inr (.inl (.inr z))
              · exact .inr (.inr z)
            · rcases z with z | (z | z) | z
              · exact .inr (.inl z)
              · exact .inl z
              · exact .inr (.inr (.inl z))
              · exact .inr (.inr (.inr z))
    | obj b C ns l =>
      cases b with
      | false => cases h
      | true =>
        obtain ⟨x, hx, h⟩ := Option.bind_eq_some_iff.mp h
        cases r with
        | @obj1 a _ dx vs _ _ F0 _ ha hns rs na add =>
          obtain ⟨w, Fk, Fr, hw, rk, djk, eq, back⟩ := rs.hole hx
          obtain ⟨u, Fc, Fs, nav, rc, djc, eqc, backc⟩ := rk.focus h
          refine ⟨u, Fc, fun b => b = a ∨ Fs b ∨ Fr b, ⟨a, w, rfl, .inr (.inl ⟨_, _, vs, ha, hw⟩), nav⟩, rc, fun b z y => ?_, fun b => ⟨fun z => ?_, fun z => ?_⟩, fun H' X' W c' N lt nw rn djn => ?_⟩
          · rcases y with rfl | y | y
            · exact na ((eq _).mpr (.inl ((eqc _).mpr (.inl z))))
            · exact djc b z y
            · exact djk b ((eqc b).mpr (.inl z)) y
          · rcases (add b).mp z with z | z
            · exact .inr (.inl z)
            · rcases (eq b).mp z with z | z
              · exact ((eqc b).mp z).imp id fun z => .inr (.inl z)
              · exact .inr (.inr (.inr z))
          · rcases z with z | z | z | z
            · exact (add b).mpr (.inr ((eq b).mpr (.inl ((eqc b).mpr (.inl z)))))
            · exact (add b).mpr (.inl z)
            · exact (add b).mpr (.inr ((eq b).mpr (.inl ((eqc b).mpr (.inr z)))))
            · exact (add b).mpr (.inr ((eq b).mpr (.inr z)))
          · have rx := backc H' X' W c' N lt (fun b z => nw b (.inr (.inl z))) rn fun b z y => djn b z (.inr (.inl y))
            have ry := back H' X' W w _ _ lt (fun b z => nw b (.inr (.inr z))) rx fun b z y => z.elim (fun z => djn b z (.inr (.inr y))) fun z => djk b ((eqc b).mpr (.inr z)) y
            rw [set_same hw] at ry
            show RV K H' X' (.ref a) (.obj true C ns (l.modify n (setP p c'))) _
            rw [modify_set hx]
            refine .obj1 (lt.keep a _ ha (nw a (.inl rfl))) hns ry (fun z => ?_) fun b => ⟨fun z => ?_, fun z => ?_⟩
            · rcases z with (z | z) | z
              · exact djn a z (.inl rfl)
              · exact na ((eq a).mpr (.inl ((eqc a).mpr (.inr z))))
              · exact na ((eq a).mpr (.inr z))
            · rcases z with z | z | z | z
              · exact .inr (.inl (.inl z))
              · exact .inl z
              · exact .inr (.inl (.inr z))
              · exact .inr (.inr z)
            · rcases z with z | (z | z) | z
              · exact .inr (.inl z)
              · exact .inl z
              · exact .inr (.inr (.inl z))
              · exact .inr (.inr (.inr z))
    | dct b l =>
      cases b with
      | false => cases h
      | true =>
        obtain ⟨x, hx, h⟩ := Option.bind_eq_some_iff.mp h
        cases r with
        | @dct1 a vs _ F0 _ ha hk rs na add =>
          obtain ⟨w, Fk, Fr, hw, rk, djk, eq, back⟩ := rs.hole (d := x.2) (by rw [List.getElem?_map, hx]; rfl)
          obtain ⟨u, Fc, Fs, nav, rc, djc, eqc, backc⟩ := rk.focus h
          refine ⟨u, Fc, fun b => b = a ∨ Fs b ∨ Fr b, ⟨a, w, rfl, .inr (.inr (.inl ⟨vs, ha, hw⟩)), nav⟩, rc, fun b z y => ?_, fun b => ⟨fun z => ?_, fun z => ?_⟩, fun H' X' W c' N lt nw rn djn => ?_⟩
          · rcases y with rfl | y | y
            · exact na ((eq _).mpr (.inl ((eqc _).mpr (.inl z))))
            · exact djc b z y
            · exact djk b ((eqc b).mpr (.inl z)) y
          · rcases (add b).mp z with z | z
            · exact .inr (.inl z)
            · rcases (eq b).mp z with z | z
              · exact ((eqc b).mp z).imp id fun z => .inr (.inl z)
              · exact .inr (.inr (.inr z))
          · rcases z with z | z | z | z
            · exact (add b).mpr (.inr ((eq b).mpr (.inl ((eqc b).mpr (.inl z)))))
            · exact (add b).mpr (.inl z)
            · exact (add b).mpr (.inr ((eq b).mpr (.inl ((eqc b).mpr (.inr z)))))
            · exact (add b).mpr (.inr ((eq b).mpr (.inr z)))
          · have rx := backc H' X' W c' N lt (fun b z => nw b (.inr (.inl z))) rn fun b z y => djn b z (.inr (.inl y))
            have ry := back H' X' W w _ _ lt (fun b z => nw b (.inr (.inr z))) rx fun b z y => z.elim (fun z => djn b z (.inr (.inr y))) fun z => djk b ((eqc b).mpr (.inr z)) y
            rw [set_same hw] at ry
            show RV K H' X' (.ref a) (.dct true (l.modify n fun q => (q.1, setP p c' q.2))) _
            refine .dct1 (lt.keep a _ ha (nw a (.inl rfl))) (hk.trans (map_fst_set (setP p c')).symm) (by rw [map_snd_set (setP p c') hx]; exact ry) (fun z => ?_) fun b => ⟨fun z => ?_, fun z => ?_⟩
            · rcases z with (z | z) | z
              · exact djn a z (.inl rfl)
              · exact na ((eq a).mpr (.inl ((eqc a).mpr (.inr z))))
              · exact na ((eq a).mpr (.inr z))
            · rcases z with z | z | z | z
              · exact .inr (.inl (.inl z))
              · exact .inl z
              · exact .inr (.inl (.inr z))
              · exact .inr (.inr z)
            · rcases z with z | (z | z) | z
              · exact .inr (.inl z)
              · exact .inl z
              · exact .inr (.inr (.inl z))
              · exact .inr (.inr (.inr z))
    | dcT b l =>
      cases b with
      | false => cases h
      | true =>
        obtain ⟨x, hx, h⟩ := Option.bind_eq_some_iff.mp h
        cases r with
        | @dcT1 a vs _ F0 _ ha hk rs na add =>
          obtain ⟨w, Fk, Fr, hw, rk, djk, eq, back⟩ := rs.hole (d := x.2) (by rw [List.getElem?_map, hx]; rfl)
          obtain ⟨u, Fc, Fs, nav, rc, djc, eqc, backc⟩ := rk.focus h
          refine ⟨u, Fc, fun b => b = a ∨ Fs b ∨ Fr b, ⟨a, w, rfl, .inr (.inr (.inr ⟨vs, ha, hw⟩)), nav⟩, rc, fun b z y => ?_, fun b => ⟨fun z => ?_, fun z => ?_⟩, fun H' X' W c' N lt nw rn djn => ?_⟩
          · rcases y with rfl | y | y
            · exact na ((eq _).mpr (.inl ((eqc _).mpr (.inl z))))
            · exact djc b z y
            · exact djk b ((eqc b).mpr (.inl z)) y
          · rcases (add b).mp z with z | z
            · exact .inr (.inl z)
            · rcases (eq b).mp z with z | z
              · exact ((eqc b).mp z).imp id fun z => .inr (.inl z)
              · exact .inr (.inr (.inr z))
          · rcases z with z | z | z | z
            · exact (add b).mpr (.inr ((eq b).mpr (.inl ((eqc b).mpr (.inl z)))))
            · exact (add b).mpr (.inl z)
            · exact (add b).mpr (.inr ((eq b).mpr (.inl ((eqc b).mpr (.inr z)))))
            · exact (add b).mpr (.inr ((eq b).mpr (.inr z)))
          · have rx := backc H' X' W c' N lt (fun b z => nw b (.inr (.inl z))) rn fun b z y => djn b z (.inr (.inl y))
            have ry := back H' X' W w _ _ lt (fun b z => nw b (.inr (.inr z))) rx fun b z y => z.elim (fun z => djn b z (.inr (.inr y))) fun z => djk b ((eqc b).mpr (.inr z)) y
            rw [set_same hw] at ry
            show RV K H' X' (.ref a) (.dcT true (l.modify n fun q => (q.1, setP p c' q.2))) _
            refine .dcT1 (lt.keep a _ ha (nw a (.inl rfl))) (hk.trans (map_fst_set (setP p c')).symm) (by rw [map_snd_set (setP p c') hx]; exact ry) (fun z => ?_) fun b => ⟨fun z => ?_, fun z => ?_⟩
            · rcases z with (z | z) | z
              · exact djn a z (.inl rfl)
              · exact na ((eq a).mpr (.inl ((eqc a).mpr (.inr z))))
              · exact na ((eq a).mpr (.inr z))
            · rcases z with z | z | z | z
              · exact .inr (.inl (.inl z))
              · exact .inl z
              · exact .inr (.inl (.inr z))
              · exact .inr (.inr z)
            · rcases z with z | (z | z) | z
              · exact .inr (.inl z)
              · exact .inl z
              · exact .inr (.inr (.inl z))
              · exact .inr (.inr (.inr z))
    | _ => cases h
end

/-- the data at a path of a name -/
def placeD (ρ : DEnv) (i : Nat) (p : List Nat) : Option D := ((ρ[i]?).bind id).bind (getP p)
def putD (ρ : DEnv) (i : Nat) (p : List Nat) (c : D) : DEnv := match ρ[i]? with
  | some (some d) => ρ.set i (some (setP p c d))
  | _ => ρ
theorem placeD_get {ρ : DEnv} {i : Nat} {p : List Nat} {c : D} (h : placeD ρ i p = some c) : ∃ d, ρ[i]? = some (some d) ∧ getP p d = some c := by
  unfold placeD at h
  obtain ⟨d, h1, h2⟩ := Option.bind_eq_some_iff.mp h
  obtain ⟨o, h3, h4⟩ := Option.bind_eq_some_iff.mp h1
  cases h4
  exact ⟨d, h3, h2⟩
section
variable {K : PySem.W.Frag} {H : Hp} {A W : AS} {σ : L2.St} {ρ : DEnv}
/-- .. of the state: what is at the place taken out; B: what is owned elsewhere behind -/
theorem Std.focus {i : Nat} {p : List Nat} {c : D} (s : Std K A H σ ρ W) (h : placeD ρ i p = some c) :
    ∃ v u Fc Wr, σ[i]? = some (some v) ∧ Nav H v p u ∧ RV K H (Or2 W A) u c Fc ∧ Dj Fc Wr ∧ (∀ a, W a ↔ Fc a ∨ Wr a) ∧
      ∀ (H' : Hp) (B : AS) (c' : D) (N : AS), (∀ a o, H a = some o → ¬ Fc a → H' a = some o) → (∀ a, N a ∨ B a → Or2 W A a ∨ H a = none) → Dj N Wr → Dj N B → Dj Wr B → (∀ a, B a → Mut (H' a)) →
        RV K H' (Or2 (fun a => N a ∨ Wr a) B) u c' N → Std K B H' σ (putD ρ i p c') (fun a => N a ∨ Wr a) := by
  obtain ⟨d, hd, hp⟩ := placeD_get h
  obtain ⟨v, Fi, F', hv, r, re, dj, eq⟩ := s.re.drop hd
  obtain ⟨u, Fc, Fr, nav, rc, djc, eqc, back⟩ := r.focus hp
  refine ⟨v, u, Fc, fun a => Fr a ∨ F' a, hv, nav, rc, fun a z y => y.elim (djc a z) (dj a ((eqc a).mpr (.inl z))), fun a => ⟨fun z => ?_, fun z => ?_⟩, fun H' B c' N keep new djn djb djw bm rn => ?_⟩
  · rcases (eq a).mp z with z | z
    · exact ((eqc a).mp z).imp id .inl
    · exact .inr (.inr z)
  · rcases z with z | z | z
    · exact (eq a).mpr (.inl ((eqc a).mpr (.inl z)))
    · exact (eq a).mpr (.inl ((eqc a).mpr (.inr z)))
    · exact (eq a).mpr (.inr z)
  · have wm := s.wm
    have lt : LaterT (Or2 W A) (Or2 (fun a => N a ∨ Fr a ∨ F' a) B) Fc H H' := by
      refine ⟨⟨keep, fun a z => .inl ((eq a).mpr (.inl ((eqc a).mpr (.inl z)))), fun a z => ?_⟩, fun a xs e nm => keep a _ e fun z => mut_not (wm a ((eq a).mpr (.inl ((eqc a).mpr (.inl z))))) nm e⟩
      rcases z with (z | z | z) | z
      · exact new a (.inl z)
      · exact .inl (.inl ((eq a).mpr (.inl ((eqc a).mpr (.inr z)))))
      · exact .inl (.inl ((eq a).mpr (.inr z)))
      · exact new a (.inr z)
    have rd := back H' _ Fc c' N lt (fun a z y => djc a y z) rn fun a z y => djn a z (.inl y)
    have re' := re.later lt fun a z y => dj a ((eqc a).mpr (.inl y)) z
    have pt := re'.put hv (set_none_get hd) rd fun a z y => z.elim (fun z => djn a z (.inr y)) fun z => dj a ((eqc a).mpr (.inr z)) y
    rw [set_none_set] at pt
    have e : putD ρ i p c' = ρ.set i (some (setP p c' d)) := by unfold putD; rw [hd]
    rw [e]
    refine ⟨pt.congr fun a => ⟨fun z => ?_, fun z => ?_⟩, fun a z y => z.elim (fun z => djb a z y) fun z => djw a z y, bm⟩
    · rcases z with (z | z) | z
      · exact .inl z
      · exact .inr (.inl z)
      · exact .inr (.inr z)
    · rcases z with z | z | z
      · exact .inl (.inl z)
      · exact .inl (.inr z)
      · exact .inr z
end
end Dl
/-! DL17: writing: methods of a list or dict, o[i] = e, by paths. -/
namespace Dl
open PySem PySem.Spec L2

/-! ### paths, read off expressions -/
abbrev LvT := DEnv → (Nat → List Nat → D → Prop) → Prop
def tP (K : PySem.W.Frag) (T : LvT) : TE := fun σ H Q => ∃ (A : AS) (ρ : DEnv) (W : AS) (k : Nat → List Nat → D → Prop), Std K A H σ ρ W ∧ T ρ k ∧
  ∀ i p c, k i p c → placeD ρ i p = some c → ∀ v x H', Ext H H' → σ[i]? = some (some v) → Nav H' v p x → Q x H'
def DP (X : Cx) (e : Expr) (T : LvT) : Prop := PE X e (tP X.K T)
def lvN (i : Nat) : LvT := fun ρ k => nameV ρ i fun d => k i [] d
def idxK {κ : Type} [DecidableEq κ] (l : List (κ × D)) (k : κ) : Option Nat := l.findIdx? fun p => decide (p.1 = k)
def kidIx (c y : D) : Option Nat := match c with
  | .lst true l => (match y with | .int j => ixN l.length j | _ => none)
  | .dct true l => (keyD y).bind fun k => idxK l k
  | _ => none
def lvIx (Ta : LvT) (Tb : ET) : LvT := fun ρ k => Ta ρ fun i p c => Tb ρ fun _ y => match kidIx c y with
  | some n => (match getP [n] c with | some e => k i (p ++ [n]) e | none => False)
  | none => False
def lvFld (C : Addr) (ns : List Str) (j : Nat) (Ta : LvT) : LvT := fun ρ k => Ta ρ fun i p c => match c with
  | .obj true C' ns' l => C' = C ∧ ns' = ns ∧ (match l[j]? with | some e => k i (p ++ [j]) e | none => False)
  | _ => False
section
variable {X : Cx} {a b e : Expr} {es : List Expr} {Ta : LvT} {T Tb : ET} {Tl : LT} {pos : Pos} {K : PySem.W.Frag}
theorem dp_name {i : Nat} (h : PE X e (tVar i)) : DP X e (lvN i) := pe_imp h fun σ H Q ⟨A, ρ, W, k, s, t, c⟩ => by
  obtain ⟨d, hd, t⟩ := nameV_get t
  obtain ⟨v, Fi, hv, r, sub⟩ := s.re.get hd
  refine ⟨v, hv, c i [] d t ?_ v v H (fun _ _ z => z) hv rfl⟩
  unfold placeD; rw [hd]; rfl
theorem find_idx {κ : Type} [DecidableEq κ] {l : List (κ × D)} {k : κ} {n : Nat} (h : idxK l k = some n) : ∃ q, l[n]? = some q ∧ lookK l k = some q.2 := by
  unfold idxK at h
  unfold lookK
  induction l generalizing n with
  | nil => cases h
  | cons p l ih =>
    rw [List.findIdx?_cons] at h
    rw [List.find?_cons]
    by_cases e : p.1 = k
    · simp only [e, decide_true, if_true, Option.some.injEq] at h
      subst h
      exact ⟨p, rfl, by simp [e]⟩
    · simp only [e, decide_false, Bool.false_eq_true, if_false, Option.map_eq_some_iff] at h
      obtain ⟨m, hm, rfl⟩ := h
      obtain ⟨q, h1, h2⟩ := ih hm
      exact ⟨q, by simpa using h1, by simpa [e] using h2⟩
theorem getP1_lst {l : List D} {n : Nat} {e : D} (h : getP [n] (.lst true l) = some e) : l[n]? = some e := by
  obtain ⟨x, h1, h2⟩ := Option.bind_eq_some_iff.mp h
  cases h2; exact h1
theorem getP1_dct {l : List (Key × D)} {n : Nat} {e : D} (h : getP [n] (.dct true l) = some e) : ∃ q, l[n]? = some q ∧ q.2 = e := by
  obtain ⟨x, h1, h2⟩ := Option.bind_eq_some_iff.mp h
  cases h2; exact ⟨x, h1, rfl⟩
theorem place_snoc {ρ : DEnv} {i n : Nat} {p : List Nat} {c e : D} (h : placeD ρ i p = some c) (k : getP [n] c = some e) : placeD ρ i (p ++ [n]) = some e := by
  obtain ⟨d, h1, h2⟩ := placeD_get h
  unfold placeD; rw [h1]
  exact getP_snoc h2 k
theorem dct_idx {H : Hp} {Y F : AS} {l : List (Key × D)} {vs : List (Key × V)} {k : Key} {n : Nat} {e : D} (q : vs.map (·.1) = l.map (·.1)) (r : RVs K H Y (vs.map (·.2)) (l.map (·.2)) F) (h : idxK l k = some n) (g : getP [n] (.dct true l) = some e) :
    ∃ w, (vs.map (·.2))[n]? = some w ∧ valV vs k = some w := by
  have key : ∀ (l : List (Key × D)) (vs : List (Key × V)) (n : Nat), vs.map (·.1) = l.map (·.1) → idxK l k = some n → ∃ w, (vs.map (·.2))[n]? = some w ∧ valV vs k = some w := by
    intro l
    induction l with
    | nil => intro vs n _ h; cases h
    | cons p l ih =>
      intro vs n q h
      cases vs with
      | nil => cases q
      | cons u vs =>
        simp only [List.map_cons, List.cons.injEq] at q
        unfold idxK at h
        rw [List.findIdx?_cons] at h
        by_cases e : p.1 = k
        · simp only [e, decide_true, if_true, Option.some.injEq] at h
          subst h
          exact ⟨u.2, rfl, valV_pos (q.1.trans e)⟩
        · simp only [e, decide_false, Bool.false_eq_true, if_false, Option.map_eq_some_iff] at h
          obtain ⟨m, hm, rfl⟩ := h
          obtain ⟨w, h1, h2⟩ := ih vs m q.2 hm
          exact ⟨w, by simpa using h1, (valV_neg (by rw [q.1]; exact e)).trans h2⟩
  exact key l vs n q h
theorem dp_ix (hu : X.A.units + 1 < cLine) (ha : DP X a Ta) (hb : DQ X b Tb) (hs : PlainIx b) : DP X (.Subscript a b pos) (lvIx Ta Tb) := pe_imp (pe_ix (ix_all hu) ha hb hs) fun σ H Q ⟨A, ρ, W, k, s, t, c⟩ => by
  refine ⟨A, ρ, W, _, s, t, fun i p d t1 hp v x H1 x1 hv nav => ⟨A, ρ, W, _, s.ext x1, t1, fun y t2 vy H2 Fy x2 ry => ?_⟩⟩
  have s2 := (s.ext x1).ext x2
  obtain ⟨v', u, Fc, Wr, hv', nav', rc, _⟩ := s2.focus hp
  rw [hv] at hv'
  cases hv'
  cases nav_one (nav_ext x2 nav) nav'
  cases hk : kidIx d y with
  | none => rw [hk] at t2; exact t2.elim
  | some n =>
    rw [hk] at t2
    dsimp only at t2
    cases hg : getP [n] d with
    | none => rw [hg] at t2; exact t2.elim
    | some e =>
      rw [hg] at t2
      dsimp only at t2
      have fin : ∀ (aa : Addr) (w : V), x = .ref aa → kid H2 aa n w → Q w H2 := fun aa w hx hkd => by
        subst hx
        exact c i (p ++ [n]) e t2 (place_snoc hp hg) v w H2 (ext_trans x1 x2) hv (nav_snoc nav' hkd)
      unfold kidIx at hk
      split at hk
      · split at hk
        · rename_i l j
          have hl := getP1_lst hg
          cases rc with
          | @lst1 aa vs _ F0 _ hh rs _ _ =>
            obtain ⟨w, G, hw, _, _⟩ := rvs_get rs hl
            refine .inl (.inl ⟨aa, vs, j, w, rfl, rv_int ry, .inl (.inl hh), ?_, fin aa w rfl (.inl ⟨vs, hh, hw⟩)⟩)
            unfold atI
            rw [rvs_length rs, hk]
            exact hw
        · cases hk
      · rename_i l
        obtain ⟨key, hkey, hk⟩ := Option.bind_eq_some_iff.mp hk
        cases rc with
        | @dct1 aa vs _ F0 _ hh hq rs _ _ =>
          obtain ⟨w, hw, hval⟩ := dct_idx hq rs hk hg
          refine .inr ⟨aa, w, rfl, ?_, fin aa w rfl (.inr (.inr (.inl ⟨vs, hh, hw⟩)))⟩
          rw [keyD_rv ry hkey, ← hval]
          exact DGet.k hh
      · cases hk
theorem dp_fld {f : Str} {C : Addr} {ns : List Str} {j : Nat} (cl : Cls X.K C) (na : NoAttr X.K C f) (hj : ixOf ns f = j) (ha : DP X a Ta) (hb : attributeBase a f X.env (eval a X.env) = eval a X.env) : DP X (.Attribute a f pos) (lvFld C ns j Ta) :=
  pe_imp (pe_fld ha hb) fun σ H Q ⟨A, ρ, W, k, s, t, c⟩ => by
    refine ⟨A, ρ, W, _, s, t, fun i p d t1 hp v x H1 x1 hv nav => ?_⟩
    obtain ⟨v', u, Fc, Wr, hv', nav', rc, _⟩ := (s.ext x1).focus hp
    rw [hv] at hv'
    cases hv'
    cases nav_one nav nav'
    split at t1
    · obtain ⟨rfl, rfl, t1⟩ := t1
      split at t1
      · rename_i e he
        cases rc with
        | @obj1 aa _ dx vs _ _ F0 _ hh hn rs _ _ =>
          obtain ⟨w, G, hw, _, _⟩ := rvs_get rs he
          refine ⟨aa, _, dx, vs, w, rfl, hh, cl, na, lookup_pos (by rw [hn, hj]; exact hw), c i (p ++ [j]) e t1 (place_snoc hp ?_) v w H1 x1 hv (nav_snoc nav (.inr (.inl ⟨_, dx, vs, hh, hw⟩)))⟩
          show (_[j]?).bind (getP []) = some e
          rw [he]; rfl
      · exact t1.elim
    · exact t1.elim

/-! ### what a method writes -/
abbrev MD := D → List D → (D → D → Prop) → Prop
def MtD (K : PySem.W.Frag) (r : V → List V → Hp → VK → Prop) (M : MD) : Prop :=
  ∀ (H : Hp) (Y : AS) (v : V) (d : D) (F : AS) (vs : List V) (ds : List D) (G : AS) (k : D → D → Prop) (Q : VK), RV K H Y v d F → RVs K H Y vs ds G → Dj F G → (∀ a, F a → Y a) → (∀ a, G a → Y a) → (∀ a, Y a → Mut (H a)) → M d ds k →
    (∀ d' e, k d' e → ∀ (v' : V) (H' : Hp) (F' G' : AS), (∀ a o, H a = some o → ¬ F a → H' a = some o) → (∀ a, F' a ∨ G' a → F a ∨ G a ∨ H a = none) → Dj F' G' →
      (∀ Z : AS, (∀ a, Z a → F' a ∨ G' a ∨ Y a ∨ H a = none) → RV K H' Z v' d' F' ∧ RV K H' Z v e G') → Q v' H') → r v vs H Q
theorem lm_core {r : V → List V → Hp → VK → Prop} {M : MD} (hM : MtD K r M) {A W W1 F1 : AS} {H H1 : Hp} {σ : L2.St} {ρ ρ1 : DEnv} {i : Nat} {p : List Nat} {v0 x : V} {d0 : D} {vs : List V} {ds : List D} {k : DEnv → D → Prop} {Q : VK} (s : Std K A H σ ρ W)
    (c : ∀ ρ' d, k ρ' d → ∀ (v : V) (H' : Hp) (W' F : AS), Std K (Or2 F A) H' σ ρ' W' → RV K H' (Or2 W' (Or2 F A)) v d F → Go W (Or2 W' F) H H' → Q v H') (s1 : Std K (Or2 F1 A) H1 σ ρ1 W1) (r1 : RVs K H1 (Or2 W1 (Or2 F1 A)) vs ds F1)
    (g1 : Go W (Or2 W1 F1) H H1) (hv : σ[i]? = some (some v0)) (nav : Nav H1 v0 p x) (hp : placeD ρ1 i p = some d0) (q : M d0 ds fun d' e => k (putD ρ1 i p e) d') : r x vs H1 Q := by
  obtain ⟨v', u, Fc, Wr, hv', nav', rc, djc, eq, back⟩ := s1.focus hp
  rw [hv] at hv'
  cases hv'
  cases nav_one nav nav'
  have wm := s1.wm
  have djf : Dj F1 A := dj_FA s.dj s.am g1
  have fw : ∀ a, Fc a → W1 a := fun a z => (eq a).mpr (.inl z)
  have ww : ∀ a, Wr a → W1 a := fun a z => (eq a).mpr (.inr z)
  refine hM H1 (Or2 W1 (Or2 F1 A)) x d0 Fc vs ds F1 _ Q rc r1 (fun a z y => s1.dj a (fw a z) (.inl y)) (fun a z => .inl (fw a z)) (fun a z => .inr (.inl z)) (fun a z => z.elim (wm a) (s1.am a)) q fun d' e kd v' H' F' G' keep new dj rr => ?_
  have nA : ∀ a, F' a ∨ G' a → ¬ A a := fun a z y => by
    rcases new a z with z | z | z
    · exact s1.dj a (fw a z) (.inr y)
    · exact djf a z y
    · exact mut_ne (s1.am a (.inr y)) z
  have nW : ∀ a, F' a ∨ G' a → ¬ Wr a := fun a z y => by
    rcases new a z with z | z | z
    · exact djc a z y
    · exact s1.dj a (ww a y) (.inl z)
    · exact mut_ne (wm a (ww a y)) z
  have nY : ∀ a, F' a ∨ G' a → Or2 W1 (Or2 F1 A) a ∨ H1 a = none := fun a z => by
    rcases new a z with z | z | z
    · exact .inl (.inl (fw a z))
    · exact .inl (.inr (.inl z))
    · exact .inr z
  obtain ⟨rv1, rv2⟩ := rr (Or2 (fun a => G' a ∨ Wr a) (Or2 F' A)) fun a z => by
    rcases z with (z | z) | z | z
    · exact .inr (.inl z)
    · exact .inr (.inr (.inl (.inl (ww a z))))
    · exact .inl z
    · exact .inr (.inr (.inl (.inr (.inr z))))
  have am' : ∀ a, Or2 F' A a → Mut (H' a) := fun a z => by
    rcases z with z | z
    · exact rv1.there a z
    · obtain ⟨o, ho⟩ := mut_some (s1.am a (.inr z))
      have m := s1.am a (.inr z)
      rw [keep a o ho fun y => s1.dj a (fw a y) (.inr z)]
      rw [ho] at m; exact m
  refine c _ d' kd v' H' (fun a => G' a ∨ Wr a) F' (back H' (Or2 F' A) e G' keep (fun a z => ?_) (fun a z => nW a (.inr z)) (fun a z y => ?_) (fun a z y => ?_) am' rv2) rv1 ⟨fun a o h n => ?_, fun a z => ?_⟩
  · rcases z with z | z | z
    · exact nY a (.inr z)
    · exact nY a (.inl z)
    · exact .inl (.inr (.inr z))
  · rcases y with y | y
    · exact dj a y z
    · exact nA a (.inr z) y
  · rcases y with y | y
    · exact nW a (.inl y) z
    · exact s1.dj a (ww a z) (.inr y)
  · refine keep a o (g1.keep a o h n) fun z => ?_
    rcases g1.new a (.inl (fw a z)) with z | z
    · exact n z
    · rw [h] at z; cases z
  · have gl := g1.left
    have b1 : W1 a → W a ∨ H a = none := fun z => g1.new a (.inl z)
    have b2 : F' a ∨ G' a → W a ∨ H a = none := fun z => by
      rcases new a z with z | z | z
      · exact b1 (fw a z)
      · exact g1.new a (.inr z)
      · exact gl.old z s.wm
    rcases z with (z | z) | z
    · exact b2 (.inr z)
    · exact b1 (ww a z)
    · exact b2 (.inl z)

/-- argument lists, quiet, new -/
def tLN (K : PySem.W.Frag) (T : LT) : TA := fun σ H Q => ∃ (A : AS) (ρ : DEnv) (W : AS) (k : DEnv → List D → Prop), Std K A H σ ρ W ∧ T ρ k ∧
  ∀ ds, k ρ ds → ∀ (vs : List V) (H' : Hp) (F : AS), Ext H H' → (∀ a, F a → H a = none) → RVs K H' (Or2 F (Or2 W A)) vs ds F → Q vs H'
def DLN (X : Cx) (es : List Expr) (T : LT) : Prop := PA X es (tLN X.K T)
theorem dln_nil : DLN X [] dNil := pa_imp pa_nil fun σ H Q ⟨A, ρ, W, k, s, t, c⟩ => c [] t [] H (fun _ => False) (fun _ _ z => z) (fun _ z => z.elim) (.nil emF)
theorem dln_cons (ha : DN X e T) (hr : DLN X es Tl) (hs : starEach (e :: es) X.env = (false, eval e X.env) :: starEach es X.env := by rfl) : DLN X (e :: es) (dCons T Tl) := pa_imp (pa_cons ha hr hs) fun σ H Q ⟨A, ρ, W, k, s, t, c⟩ => by
  refine ⟨A, ρ, W, _, s, t, fun d1 t1 v1 H1 F1 x1 n1 r1 => ⟨Or2 F1 A, ρ, W, _, s.grow x1 n1 r1.there, t1, fun ds t2 vs H2 F2 x2 n2 r2 => ?_⟩⟩
  have m1 : ∀ a, F1 a → H1 a ≠ none := fun a z => mut_ne (r1.there a z)
  refine c (d1 :: ds) t2 (v1 :: vs) H2 (Or2 F1 F2) (ext_trans x1 x2) (fun a z => z.elim (n1 a) (new_back x1 n2 a)) (.cons (r1.ext x2 fun a z => ?_) (r2.weak fun a z => ?_) (fun a z y => m1 a z (n2 a y)) fun _ => Iff.rfl)
  · rcases z with (z | z) | z
    · exact .inl (.inl z)
    · exact .inr (n2 a z)
    · exact .inl (.inr z)
  · rcases z with (z | z) | z | z
    · exact .inr (.inr (.inl z))
    · exact .inl z
    · exact .inr (.inl z)
    · exact .inr (.inr (.inr z))

/-! ### the call of a method that writes -/
/-- which builtin type -/
def tyD (T : String) (d : D) : Bool := match d with
  | .lst true _ => T == "list"
  | .dct true _ => T == "dict"
  | .dcT true _ => T == "dict"
  | _ => false
theorem tyD_ok {H : Hp} {Y F : AS} {v : V} {d : D} {T : String} (r : RV K H Y v d F) (h : tyD T d = true) : tyV K T v H := by
  unfold tyD at h
  split at h
  · cases r with | lst1 hh _ _ _ => exact .inl ⟨by simpa using h, _, .inl (.inl hh)⟩
  · cases r with | dct1 hh _ _ _ _ => exact .inr (.inr (.inl ⟨by simpa using h, .inl ⟨_, hh⟩⟩))
  · cases r with | dcT1 hh _ _ _ _ => exact .inr (.inr (.inl ⟨by simpa using h, .inr ⟨_, hh⟩⟩))
  · cases h
/-- x.m(e, ..), x a name -/
def dLm (T : String) (M : MD) (i : Nat) (Tl : LT) : ET := fun ρ k => nameV ρ i fun d0 => tyD T d0 = true ∧ Tl ρ fun ρ1 ds => nameV ρ1 i fun d => M d ds fun d' e => k (ρ1.set i (some e)) d'
/-- o.m(e, ..), o at a path -/
def dLmP (T : String) (M : MD) (Tp : LvT) (Tl : LT) : ET := fun ρ k => Tp ρ fun i p c => tyD T c = true ∧ Tl ρ fun _ ds => M c ds fun d' e => k (putD ρ i p e) d'
theorem place_nil {ρ : DEnv} {i : Nat} {d : D} (h : ρ[i]? = some (some d)) : placeD ρ i [] = some d := by unfold placeD; rw [h]; rfl
theorem put_nil {ρ : DEnv} {i : Nat} {d e : D} (h : ρ[i]? = some (some d)) : putD ρ i [] e = ρ.set i (some e) := by unfold putD; rw [h]; rfl
variable {o : Expr} {name : Str} {apos cpos : Pos} {Ty mid : String} {r : V → List V → Hp → VK → Prop} {M : MD}
theorem de_lm {i : Nat} (pa : PlainAttrs Ty) (slot : Slot Ty name mid) (hty : typeOf (.builtin mid) = pure (.type "method_descriptor")) (hm : MtR X mid r) (hM : MtD X.K r M) (ho : PE X o (tVar i)) (ha : DL X (e :: es) Tl)
    (hbase : attributeBase o name X.env (eval o X.env) = eval o X.env := by rfl)
    (hfew : ((backTo cpos (starEach (e :: es) X.env)).all (fun x => !x.1) && (backToKw cpos (keywordEach [] X.env)).all (fun x => x.1.isSome)
      && decide ((e :: es).length + ([] : List Keyword).length + (if ([] : List Keyword).isEmpty then 0 else 1) < 30)) = true := by rfl)
    (hline : (apos.endLine == cpos.line) = true := by rfl) (hs : starEach (e :: es) X.env = (false, eval e X.env) :: starEach es X.env := by rfl) (hplain : (backTo cpos (starEach es X.env)).any (·.1) = false := by rfl) :
    DE X (.Call (.Attribute o name apos) (e :: es) [] cpos) (dLm Ty M i Tl) := pe_imp (pe_bm pa slot hty hm ho ha hbase hfew hline hs hplain) fun σ H Q ⟨A, ρ, W, k, s, t, c⟩ => by
  obtain ⟨d0, hd0, ty, t⟩ := nameV_get t
  obtain ⟨v, Fi, hv, rv, _⟩ := s.re.get hd0
  refine ⟨v, hv, tyD_ok rv ty, A, ρ, W, _, s, t, fun ρ1 ds q vs H1 W1 F1 s1 r1 g1 => ?_⟩
  obtain ⟨d, hd, q⟩ := nameV_get q
  refine lm_core hM s c s1 r1 g1 hv (p := []) rfl (place_nil hd) ?_
  rw [show (fun d' e => k (putD ρ1 i [] e) d') = fun d' e => k (ρ1.set i (some e)) d' from by funext d' e; rw [put_nil hd]]
  exact q
theorem de_lm0 {i : Nat} (pa : PlainAttrs Ty) (slot : Slot Ty name mid) (hty : typeOf (.builtin mid) = pure (.type "method_descriptor")) (hm : MtR X mid r) (hM : MtD X.K r M) (ho : PE X o (tVar i))
    (hbase : attributeBase o name X.env (eval o X.env) = eval o X.env := by rfl) (hline : (apos.endLine == cpos.line) = true := by rfl) :
    DE X (.Call (.Attribute o name apos) [] [] cpos) (dLm Ty M i dNil) := pe_imp (pe_bm0 pa slot hty hm ho hbase hline) fun σ H Q ⟨A, ρ, W, k, s, t, c⟩ => by
  obtain ⟨d0, hd0, ty, t⟩ := nameV_get t
  obtain ⟨v, Fi, hv, rv, _⟩ := s.re.get hd0
  refine ⟨v, hv, tyD_ok rv ty, ?_⟩
  obtain ⟨d, hd, q⟩ := nameV_get t
  refine lm_core hM (F1 := fun _ => False) s c (s.weak fun a z => z.elim False.elim id) (.nil emF) ((Go.refl W H).orEmp emF) hv (p := []) rfl (place_nil hd) ?_
  rw [show (fun d' e => k (putD ρ i [] e) d') = fun d' e => k (ρ.set i (some e)) d' from by funext d' e; rw [put_nil hd]]
  exact q
theorem std_at {A W : AS} {H H' : Hp} {σ : L2.St} {ρ : DEnv} {i : Nat} {p : List Nat} {c : D} {v x : V} (s : Std K A H σ ρ W) (hp : placeD ρ i p = some c) (e : Ext H H') (hv : σ[i]? = some (some v)) (nav : Nav H' v p x) : ∃ Fc, RV K H' (Or2 W A) x c Fc := by
  obtain ⟨v', u, Fc, Wr, hv', nav', rc, _⟩ := (s.ext e).focus hp
  rw [hv] at hv'
  cases hv'
  cases nav_one nav nav'
  exact ⟨Fc, rc⟩
theorem de_lmP {Tp : LvT} (pa : PlainAttrs Ty) (slot : Slot Ty name mid) (hty : typeOf (.builtin mid) = pure (.type "method_descriptor")) (hm : MtR X mid r) (hM : MtD X.K r M) (ho : DP X o Tp) (ha : DLN X (e :: es) Tl)
    (hbase : attributeBase o name X.env (eval o X.env) = eval o X.env := by rfl)
    (hfew : ((backTo cpos (starEach (e :: es) X.env)).all (fun x => !x.1) && (backToKw cpos (keywordEach [] X.env)).all (fun x => x.1.isSome)
      && decide ((e :: es).length + ([] : List Keyword).length + (if ([] : List Keyword).isEmpty then 0 else 1) < 30)) = true := by rfl)
    (hline : (apos.endLine == cpos.line) = true := by rfl) (hs : starEach (e :: es) X.env = (false, eval e X.env) :: starEach es X.env := by rfl) (hplain : (backTo cpos (starEach es X.env)).any (·.1) = false := by rfl) :
    DE X (.Call (.Attribute o name apos) (e :: es) [] cpos) (dLmP Ty M Tp Tl) := pe_imp (pe_bm pa slot hty hm ho ha hbase hfew hline hs hplain) fun σ H Q ⟨A, ρ, W, k, s, t, c⟩ => by
  refine ⟨A, ρ, W, _, s, t, fun i p d ⟨ty, t1⟩ hp v x H1 x1 hv nav => ?_⟩
  obtain ⟨Fc, rc⟩ := std_at s hp x1 hv nav
  refine ⟨tyD_ok rc ty, A, ρ, W, _, s.ext x1, t1, fun ds q vs H2 F2 x2 n2 r2 => ?_⟩
  have n2' := new_back x1 n2
  have x12 := ext_trans x1 x2
  exact lm_core hM s c (s.grow x12 n2' r2.there) (r2.weak fun a z => z.elim (fun z => .inr (.inl z)) fun z => z.elim .inl fun z => .inr (.inr z)) ((Go.ext W x12).orNew n2') hv (nav_ext x2 nav) hp q
theorem de_lmP0 {Tp : LvT} (pa : PlainAttrs Ty) (slot : Slot Ty name mid) (hty : typeOf (.builtin mid) = pure (.type "method_descriptor")) (hm : MtR X mid r) (hM : MtD X.K r M) (ho : DP X o Tp)
    (hbase : attributeBase o name X.env (eval o X.env) = eval o X.env := by rfl) (hline : (apos.endLine == cpos.line) = true := by rfl) :
    DE X (.Call (.Attribute o name apos) [] [] cpos) (dLmP Ty M Tp dNil) := pe_imp (pe_bm0 pa slot hty hm ho hbase hline) fun σ H Q ⟨A, ρ, W, k, s, t, c⟩ => by
  refine ⟨A, ρ, W, _, s, t, fun i p d ⟨ty, q⟩ hp v x H1 x1 hv nav => ?_⟩
  obtain ⟨Fc, rc⟩ := std_at s hp x1 hv nav
  refine ⟨tyD_ok rc ty, ?_⟩
  exact lm_core hM (F1 := fun _ => False) s c ((s.ext x1).weak fun a z => z.elim False.elim id) (.nil emF) ((Go.ext W x1).orEmp emF) hv nav hp q

/-! ### list methods -/
theorem mt_of (h : MtM X mid r) : MtR X mid r := h
theorem later_upd {H : Hp} {Y Z : AS} {a : Addr} {o o' : HO} (ha : H a = some o) (m : Mut (H a)) (hY : Y a) (hZ : ∀ b, Z b → Y b ∨ H b = none) : LaterT Y Z (fun b => b = a) H (upd H a o') := by
  refine ⟨⟨fun b q h n => by rw [upd_ne n]; exact h, fun b z => z ▸ hY, hZ⟩, fun b xs h nm => ?_⟩
  have : b ≠ a := fun z => by subst z; exact mut_not m nm h
  rw [upd_ne this]; exact h
/-- extend by a list, tracked or kept -/
def rExtendR (K : PySem.W.Frag) : V → List V → Hp → VK → Prop := fun x vs H Q => ∃ l b xs zs, x = .ref l ∧ vs = [.ref b] ∧ H l = some (.lst xs) ∧ Rd H b (.lst zs) ∧ xs.length + zs.length ≤ sizeLine ∧ Q .non (upd H l (.lst (xs ++ zs)))
theorem mt_extendR : MtR X "list.extend" (rExtendR X.K) := by
  intro pins s σ H x vs v us Q I rx rv h
  obtain ⟨l, b, xs, zs, rfl, rfl, hH, hB, hz, q⟩ := h
  cases rx
  obtain ⟨u, rfl, ru⟩ := rv.one
  cases ru
  obtain ⟨z, its, n, r, hl, e⟩ := I.lstM hH
  obtain ⟨z2, its2, n2, r2, e2⟩ := hB.ok I.hok
  have hl2 := r2.length
  have hsz : its.toArray.size + its2.toArray.size ≤ sizeLine := by rw [List.size_toArray, List.size_toArray]; omega
  have hlong : ¬ (!its.toArray.isEmpty && Builtin.List.listTooLong (its.toArray.size + its2.toArray.size)) = true := by
    rw [notLongL hsz, Bool.and_false]
    exact Bool.false_ne_true
  refine call_meets PySem.F.slot_list_extend ⟨_, e, rfl⟩ PySem.F.entry_list_extend (PySem.F.args_list_extend_2 _ _)
    (PySem.AutoSeq1.list_extend_list_list_0 l its.toArray n b its2.toArray n2 hlong (by rw [List.size_toArray]; omega) (by omega)) ⟨e, e2, ?_⟩
  refine ⟨.non, _, I.lset (its' := its ++ its2) hH e (by simp) (r.append r2) ?_, rfl, q⟩
  rw [List.length_append]
  omega
end
end Dl
/-! DL18: what methods and stores write, over data. -/
namespace Dl
open PySem PySem.Spec L2
section
variable {X : Cx} {K : PySem.W.Frag}
abbrev MEnd (K : PySem.W.Frag) (H : Hp) (Y F G : AS) (v : V) (k : D → D → Prop) (Q : VK) : Prop := ∀ d' e, k d' e → ∀ (v' : V) (H' : Hp) (F' G' : AS), (∀ a o, H a = some o → ¬ F a → H' a = some o) → (∀ a, F' a ∨ G' a → F a ∨ G a ∨ H a = none) → Dj F' G' →
  (∀ Z : AS, (∀ a, Z a → F' a ∨ G' a ∨ Y a ∨ H a = none) → RV K H' Z v' d' F' ∧ RV K H' Z v e G') → Q v' H'
/-- an owned object rewritten: N: the owned things in it, R: of the result -/
theorem w_step {H : Hp} {Y F G N R : AS} {a : Addr} {o o' : HO} {ys : List V} {l' : List D} {v' : V} {d' e : D} {k : D → D → Prop} {Q : VK} (ha : H a = some o) (m : Mut (H a)) (af : F a) (hF : ∀ b, F b → Y b) (hG : ∀ b, G b → Y b)
    (rn : RVs K H Y ys l' N) (nN : ¬ N a) (rr : RV K H Y v' d' R) (nR : ¬ R a) (dj : Dj R N) (sub : ∀ b, N b ∨ R b → F b ∨ G b)
    (con : ∀ (H' : Hp) (Z : AS), H' a = some o' → RVs K H' Z ys l' N → RV K H' Z (.ref a) e (fun b => b = a ∨ N b)) (kd : k d' e) (c : MEnd K H Y F G (.ref a) k Q) : Q v' (upd H a o') := by
  refine c d' e kd v' _ R (fun b => b = a ∨ N b) (fun b q h n => ?_) (fun b z => ?_) (fun b z y => ?_) fun Z hZ => ?_
  · rw [upd_ne fun z : b = a => n (by rw [z]; exact af)]; exact h
  · rcases z with z | z | z
    · exact (sub b (.inr z)).imp id .inl
    · exact .inl (z ▸ af)
    · exact (sub b (.inl z)).imp id .inl
  · rcases y with y | y
    · exact nR (y ▸ z)
    · exact dj b z y
  · have lt := later_upd (Z := Z) (o' := o') ha m (hF a af) fun b z => by
      rcases hZ b z with z | (z | z) | z | z
      · exact .inl ((sub b (.inr z)).elim (hF b) (hG b))
      · exact .inl (z ▸ hF a af)
      · exact .inl ((sub b (.inl z)).elim (hF b) (hG b))
      · exact .inl z
      · exact .inr z
    exact ⟨rr.later lt fun b z y => nR (y ▸ z), con _ Z upd_same (rn.later lt fun b z y => nN (y ▸ z))⟩
theorem mk_lst {a : Addr} {ys : List V} {l' : List D} {N : AS} (nN : ¬ N a) : ∀ (H' : Hp) (Z : AS), H' a = some (.lst ys) → RVs K H' Z ys l' N → RV K H' Z (.ref a) (.lst true l') (fun b => b = a ∨ N b) := fun H' Z h r => .lst1 h r nN fun _ => Iff.rfl
theorem mut_lst {H : Hp} {a : Addr} {vs : List V} (h : H a = some (.lst vs)) : Mut (H a) := by rw [h]; trivial
theorem mut_dK {H : Hp} {a : Addr} {vs : List (Key × V)} (h : H a = some (.dK vs)) : Mut (H a) := by rw [h]; trivial
theorem mut_dT {H : Hp} {a : Addr} {vs : List (List Key × V)} (h : H a = some (.dT vs)) : Mut (H a) := by rw [h]; trivial
theorem rv_nonF {H : Hp} {Y : AS} : RV K H Y .non .non (fun _ => False) := .non emF

def mAppend : MD := fun d ds k => match d, ds with
  | .lst true l, [x] => l.length < sizeLine ∧ k .non (.lst true (l ++ [x]))
  | _, _ => False
theorem md_append : MtD K rAppend mAppend := fun H Y v d F vs ds G k Q r q dj hF hG hm h c => by
  unfold mAppend at h
  split at h
  · rename_i l x
    obtain ⟨h1, h2⟩ := h
    obtain ⟨y, rfl, ry⟩ := rvs1 q
    cases r with
    | @lst1 a vs _ F0 _ ha rs nF add =>
      have af : F a := (add a).mpr (.inl rfl)
      have nN : ¬ Or2 F0 G a := fun z => z.elim nF (dj a af)
      exact ⟨a, vs, y, rfl, rfl, ha, by rw [rvs_length rs]; exact h1, w_step ha (mut_lst ha) af hF hG
        (rvs_append rs (.cons ry (.nil emF) (fun _ _ z => z) fun b => ⟨.inl, fun z => z.elim id False.elim⟩) fun b z y => dj b ((add b).mpr (.inr z)) y) nN rv_nonF (fun z => z) (fun _ z => z.elim)
        (fun b z => z.elim (fun z => z.imp (fun z => (add b).mpr (.inr z)) id) False.elim) (mk_lst nN) h2 c⟩
  · exact h.elim
def mExtend : MD := fun d ds k => match d, ds with
  | .lst true l, [.lst _ l2] => l.length + l2.length ≤ sizeLine ∧ k .non (.lst true (l ++ l2))
  | _, _ => False
theorem md_extend : MtD K (rExtendR K) mExtend := fun H Y v d F vs ds G k Q r q dj hF hG hm h c => by
  unfold mExtend at h
  split at h
  · rename_i l m l2
    obtain ⟨h1, h2⟩ := h
    obtain ⟨y, rfl, ry⟩ := rvs1 q
    obtain ⟨b, us, G0, rfl, hb, ru, sub, _⟩ := rv_lst ry
    cases r with
    | @lst1 a vs _ F0 _ ha rs nF add =>
      have af : F a := (add a).mpr (.inl rfl)
      have nN : ¬ Or2 F0 G0 a := fun z => z.elim nF fun z => dj a af (sub a z)
      exact ⟨a, b, vs, us, rfl, rfl, ha, hb, by rw [rvs_length rs, rvs_length ru]; exact h1, w_step ha (mut_lst ha) af hF hG
        (rvs_append rs ru fun b z y => dj b ((add b).mpr (.inr z)) (sub b y)) nN rv_nonF (fun z => z) (fun _ z => z.elim)
        (fun b z => z.elim (fun z => z.imp (fun z => (add b).mpr (.inr z)) (sub b)) False.elim) (mk_lst nN) h2 c⟩
  · exact h.elim
/-- one of some taken out for good -/
theorem rvs_out {H : Hp} {Y : AS} {n : Nat} {d : D} : ∀ {ds : List D} {vs : List V} {F : AS}, RVs K H Y vs ds F → ds[n]? = some d →
    ∃ u Fk Fr, vs[n]? = some u ∧ RV K H Y u d Fk ∧ Dj Fk Fr ∧ (∀ a, F a ↔ Fk a ∨ Fr a) ∧ RVs K H Y (vs.eraseIdx n) (ds.eraseIdx n) Fr := by
  induction n with
  | zero =>
    intro ds vs F r h
    cases ds with
    | nil => cases h
    | cons e ds =>
      cases h
      cases r with
      | cons r1 r2 dj u => exact ⟨_, _, _, rfl, r1, dj, u, r2⟩
  | succ n ih =>
    intro ds vs F r h
    cases ds with
    | nil => cases h
    | cons e ds =>
      cases r with
      | @cons v _ vs _ F1 G1 _ r1 r2 dj u =>
        obtain ⟨w, Fk, Fr, hw, rk, djk, eq, rr⟩ := ih r2 h
        refine ⟨w, Fk, fun a => F1 a ∨ Fr a, hw, rk, fun a z y => y.elim (fun y => dj a y ((eq a).mpr (.inl z))) (djk a z), fun a => ⟨fun z => ?_, fun z => ?_⟩, .cons r1 rr (fun a z y => dj a z ((eq a).mpr (.inr y))) fun _ => Iff.rfl⟩
        · rcases (u a).mp z with z | z
          · exact .inr (.inl z)
          · exact ((eq a).mp z).imp id .inr
        · rcases z with z | z | z
          · exact (u a).mpr (.inr ((eq a).mpr (.inl z)))
          · exact (u a).mpr (.inl z)
          · exact (u a).mpr (.inr ((eq a).mpr (.inr z)))
def mPop : MD := fun d ds k => match d, ds with
  | .lst true l, [] => (match l[l.length - 1]? with
    | some x => k x (.lst true l.dropLast)
    | none => False)
  | _, _ => False
theorem dropLast_erase {α : Type} (l : List α) : l.eraseIdx (l.length - 1) = l.dropLast := by
  induction l with
  | nil => rfl
  | cons x l ih =>
    cases l with
    | nil => rfl
    | cons y l => simpa using ih
theorem md_pop : MtD K rPop mPop := fun H Y v d F vs ds G k Q r q dj hF hG hm h c => by
  unfold mPop at h
  split at h
  · split at h
    · rename_i l x hx
      cases q with
      | nil eG =>
        cases r with
        | @lst1 a vs _ F0 _ ha rs nF add =>
          have af : F a := (add a).mpr (.inl rfl)
          obtain ⟨u, Fk, Fr, hu, ru, djk, eq, rr⟩ := rvs_out rs hx
          rw [← rvs_length rs, dropLast_erase] at rr
          rw [rvs_length rs, dropLast_erase] at rr
          exact ⟨a, vs, u, rfl, rfl, ha, by rw [rvs_length rs]; exact hu, w_step ha (mut_lst ha) af hF hG rr (fun z => nF ((eq a).mpr (.inr z))) ru (fun z => nF ((eq a).mpr (.inl z))) djk
            (fun b z => .inl ((add b).mpr (.inr ((eq b).mpr z.symm)))) (mk_lst fun z => nF ((eq a).mpr (.inr z))) h c⟩
    · exact h.elim
  · exact h.elim
def mPopAt : MD := fun d ds k => match d, ds with
  | .lst true l, [.int i] => -(2 ^ 63) ≤ i ∧ i < 2 ^ 63 ∧ (match ixN l.length i with
    | some n => (match l[n]? with
      | some x => k x (.lst true (l.eraseIdx n))
      | none => False)
    | none => False)
  | _, _ => False
theorem md_popAt : MtD K rPopAt mPopAt := fun H Y v d F vs ds G k Q r q dj hF hG hm h c => by
  unfold mPopAt at h
  split at h
  · rename_i l i
    obtain ⟨h1, h2, h⟩ := h
    split at h
    · rename_i n hn
      split at h
      · rename_i x hx
        obtain ⟨y, rfl, ry⟩ := rvs1 q
        cases r with
        | @lst1 a vs _ F0 _ ha rs nF add =>
          have af : F a := (add a).mpr (.inl rfl)
          obtain ⟨u, Fk, Fr, hu, ru, djk, eq, rr⟩ := rvs_out rs hx
          refine ⟨a, vs, i, n, u, rfl, by rw [rv_int ry], ha, h1, h2, by rw [rvs_length rs]; exact (ixN_seq hn).1, hu, w_step ha (mut_lst ha) af hF hG rr (fun z => nF ((eq a).mpr (.inr z))) ru (fun z => nF ((eq a).mpr (.inl z))) djk
            (fun b z => .inl ((add b).mpr (.inr ((eq b).mpr z.symm)))) (mk_lst fun z => nF ((eq a).mpr (.inr z))) h c⟩
      · exact h.elim
    · exact h.elim
  · exact h.elim

/-! ### o[i] = e -/
abbrev MP := D → D → D → (D → Prop) → Prop
def StD (K : PySem.W.Frag) (t : TSet) (M : MP) : Prop :=
  ∀ (H : Hp) (Y : AS) (o : V) (d : D) (F : AS) (i : V) (di : D) (Fi : AS) (v : V) (e : D) (G : AS) (k : D → Prop) (Q : Hp → Prop), RV K H Y o d F → RV K H Y i di Fi → RV K H Y v e G → Dj F G → (∀ a, F a → Y a) → (∀ a, G a → Y a) → (∀ a, Y a → Mut (H a)) → M d di e k →
    (∀ d', k d' → ∀ (H' : Hp) (N : AS), (∀ a o, H a = some o → ¬ F a → H' a = some o) → (∀ a, N a → F a ∨ G a ∨ H a = none) → (∀ Z : AS, (∀ a, Z a → N a ∨ Y a ∨ H a = none) → RV K H' Z o d' N) → Q H') → t o i v H Q
theorem s_step {H : Hp} {Y F G N : AS} {a : Addr} {o o' : HO} {ys : List V} {l' : List D} {e : D} {k : D → Prop} {Q : Hp → Prop} (ha : H a = some o) (m : Mut (H a)) (af : F a) (hF : ∀ b, F b → Y b) (hG : ∀ b, G b → Y b)
    (rn : RVs K H Y ys l' N) (nN : ¬ N a) (sub : ∀ b, N b → F b ∨ G b) (con : ∀ (H' : Hp) (Z : AS), H' a = some o' → RVs K H' Z ys l' N → RV K H' Z (.ref a) e (fun b => b = a ∨ N b)) (kd : k e)
    (c : ∀ d', k d' → ∀ (H' : Hp) (N : AS), (∀ a o, H a = some o → ¬ F a → H' a = some o) → (∀ a, N a → F a ∨ G a ∨ H a = none) → (∀ Z : AS, (∀ a, Z a → N a ∨ Y a ∨ H a = none) → RV K H' Z (.ref a) d' N) → Q H') : Q (upd H a o') := by
  refine c e kd _ (fun b => b = a ∨ N b) (fun b q h n => ?_) (fun b z => ?_) fun Z hZ => ?_
  · rw [upd_ne fun z : b = a => n (by rw [z]; exact af)]; exact h
  · rcases z with z | z
    · exact .inl (z ▸ af)
    · exact (sub b z).imp id .inl
  · have lt := later_upd (Z := Z) (o' := o') ha m (hF a af) fun b z => by
      rcases hZ b z with (z | z) | z | z
      · exact .inl (z ▸ hF a af)
      · exact .inl ((sub b z).elim (hF b) (hG b))
      · exact .inl z
      · exact .inr z
    exact con _ Z upd_same (rn.later lt fun b z y => nN (y ▸ z))
/-- one of some replaced -/
theorem rvs_set {H : Hp} {Y : AS} {n : Nat} {ds : List D} {vs : List V} {F N : AS} {u : V} {e : D} (r : RVs K H Y vs ds F) (hn : n < ds.length) (q : RV K H Y u e N) (dj : Dj N F) :
    ∃ R, RVs K H Y (vs.set n u) (ds.set n e) R ∧ ∀ a, R a → N a ∨ F a := by
  obtain ⟨w, Fk, Fr, hw, rk, djk, eq, back⟩ := r.hole (n := n) (d := ds[n]) (by simp [hn])
  exact ⟨_, back H Y (fun _ => False) u e N ⟨⟨fun _ _ z _ => z, fun _ z => z.elim, fun a z => .inl z⟩, fun _ _ z _ => z⟩ (fun _ _ z => z) q fun a z y => dj a z ((eq a).mpr (.inr y)), fun a z => z.imp id fun z => (eq a).mpr (.inr z)⟩
def pLst : MP := fun d i e k => match d, i with
  | .lst true l, .int j => (match ixN l.length j with
    | some n => k (.lst true (l.set n e))
    | none => False)
  | _, _ => False
theorem sd_lst : StD K rSetL pLst := fun H Y o d F i di Fi v e G k Q ro ri rv dj hF hG hm h c => by
  unfold pLst at h
  split at h
  · rename_i l j
    split at h
    · rename_i n hn
      cases ro with
      | @lst1 a vs _ F0 _ ha rs nF add =>
        have af : F a := (add a).mpr (.inl rfl)
        obtain ⟨R, rR, sR⟩ := rvs_set rs (ixN_seq hn).2.1 rv fun b z y => dj b ((add b).mpr (.inr y)) z
        have nR : ¬ R a := fun z => (sR a z).elim (dj a af) nF
        exact ⟨a, vs, j, n, rfl, rv_int ri, ha, by rw [rvs_length rs]; exact hn, s_step ha (mut_lst ha) af hF hG rR nR (fun b z => (sR b z).symm.imp (fun z => (add b).mpr (.inr z)) id) (mk_lst nR) h c⟩
    · exact h.elim
  · exact h.elim

/-! ### dicts: what is laid in is not owned -/
def putKD {κ : Type} [DecidableEq κ] (l : List (κ × D)) (k : κ) (e : D) : List (κ × D) :=
  if (l.any fun p => decide (p.1 = k)) = true then l.map (fun p => if p.1 = k then (p.1, e) else p) else l ++ [(k, e)]
theorem any_fst {κ α β : Type} [DecidableEq κ] {k : κ} : ∀ {l : List (κ × α)} {vs : List (κ × β)}, vs.map (·.1) = l.map (·.1) → (vs.any fun p => decide (p.1 = k)) = l.any fun p => decide (p.1 = k)
  | [], vs, q => by simp at q; subst q; rfl
  | p :: l, vs, q => by
    cases vs with
    | nil => cases q
    | cons u vs =>
      simp only [List.map_cons, List.cons.injEq] at q
      simp only [List.any_cons, q.1, any_fst q.2]
theorem put_rv {κ : Type} [DecidableEq κ] {H : Hp} {Y F G : AS} {k : κ} {u : V} {e : D} {l : List (κ × D)} {vs : List (κ × V)} (q : vs.map (·.1) = l.map (·.1)) (r : RVs K H Y (vs.map (·.2)) (l.map (·.2)) F) (ru : RV K H Y u e G) (eG : Emp G) :
    (putK vs k u).map (·.1) = (putKD l k e).map (·.1) ∧ ∃ R, RVs K H Y ((putK vs k u).map (·.2)) ((putKD l k e).map (·.2)) R ∧ ∀ a, R a → F a := by
  unfold putK putKD
  rw [any_fst q]
  split
  · rename_i hcase; clear hcase
    induction l generalizing vs F with
    | nil => simp at q; subst q; exact ⟨rfl, F, r, fun _ z => z⟩
    | cons p l ih =>
      cases vs with
      | nil => cases q
      | cons w vs =>
        simp only [List.map_cons, List.cons.injEq] at q
        cases r with
        | @cons _ _ _ _ F1 G1 _ r1 r2 dj un =>
          obtain ⟨h1, R, h2, h3⟩ := ih q.2 r2
          simp only [List.map_cons, List.cons.injEq]
          by_cases z : p.1 = k
          · have z' : w.1 = k := q.1.trans z
            rw [if_pos z, if_pos z']
            exact ⟨⟨q.1, h1⟩, _, .cons (rv_emp ru eG) h2 (fun _ y _ => y) fun _ => Iff.rfl, fun a y => y.elim False.elim fun y => (un a).mpr (.inr (h3 a y))⟩
          · have z' : ¬ w.1 = k := fun y => z (q.1.symm.trans y)
            rw [if_neg z, if_neg z']
            exact ⟨⟨q.1, h1⟩, _, .cons r1 h2 (fun a x y => dj a x (h3 a y)) fun _ => Iff.rfl, fun a y => (un a).mpr (y.imp id (h3 a))⟩
  · refine ⟨by simp [q], Or2 F fun _ => False, ?_, fun a z => ?_⟩
    · rw [List.map_append, List.map_append]
      exact rvs_append r (.cons (rv_emp ru eG) (.nil emF) (fun _ z _ => z) fun _ => ⟨False.elim, fun z => z.elim id id⟩) fun _ _ z => z
    · exact z.elim id False.elim
theorem mk_dct {a : Addr} {vs : List (Key × V)} {l' : List (Key × D)} {N : AS} (nN : ¬ N a) (q : vs.map (·.1) = l'.map (·.1)) : ∀ (H' : Hp) (Z : AS), H' a = some (.dK vs) → RVs K H' Z (vs.map (·.2)) (l'.map (·.2)) N → RV K H' Z (.ref a) (.dct true l') (fun b => b = a ∨ N b) := fun H' Z h r => .dct1 h q r nN fun _ => Iff.rfl
theorem mk_dcT {a : Addr} {vs : List (List Key × V)} {l' : List (List Key × D)} {N : AS} (nN : ¬ N a) (q : vs.map (·.1) = l'.map (·.1)) : ∀ (H' : Hp) (Z : AS), H' a = some (.dT vs) → RVs K H' Z (vs.map (·.2)) (l'.map (·.2)) N → RV K H' Z (.ref a) (.dcT true l') (fun b => b = a ∨ N b) := fun H' Z h r => .dcT1 h q r nN fun _ => Iff.rfl
def pDct : MP := fun d i e k => match d with
  | .dct true l => (match keyD i with
    | some key => l.length < sizeLine ∧ isFz e = true ∧ k (.dct true (putKD l key e))
    | none => False)
  | .dcT true l => (match i with
    | .key ks => (match keysD ks with
      | some key => l.length < sizeLine ∧ isFz e = true ∧ k (.dcT true (putKD l key e))
      | none => False)
    | _ => False)
  | _ => False
theorem sd_dct : StD K rSetD pDct := fun H Y o d F i di Fi v e G k Q ro ri rv dj hF hG hm h c => by
  unfold pDct at h
  split at h
  · rename_i l
    split at h
    · rename_i key hk
      obtain ⟨h1, h2, h3⟩ := h
      cases ro with
      | @dct1 a vs _ F0 _ ha hq rs nF add =>
        have af : F a := (add a).mpr (.inl rfl)
        obtain ⟨q', R, rR, sR⟩ := put_rv (k := key) hq rs rv (rv_fz rv h2)
        have hlen : vs.length = l.length := by simpa using congrArg List.length hq
        have nR : ¬ R a := fun z => nF (sR a z)
        refine ⟨a, _, rfl, ?_, s_step ha (mut_dK ha) af hF hG rR nR (fun b z => .inl ((add b).mpr (.inr (sR b z)))) (mk_dct nR q') h3 c⟩
        rw [keyD_rv ri hk]
        exact DPut.k ha (by omega)
    · exact h.elim
  · rename_i l
    split at h
    · rename_i ks
      split at h
      · rename_i key hk
        obtain ⟨h1, h2, h3⟩ := h
        obtain ⟨b, us, rfl, hb, ru, _⟩ := rv_key ri
        cases ro with
        | @dcT1 a vs _ F0 _ ha hq rs nF add =>
          have af : F a := (add a).mpr (.inl rfl)
          obtain ⟨q', R, rR, sR⟩ := put_rv (k := key) hq rs rv (rv_fz rv h2)
          have hlen : vs.length = l.length := by simpa using congrArg List.length hq
          have nR : ¬ R a := fun z => nF (sR a z)
          refine ⟨a, _, rfl, DPut.t ha (by rw [hb, keysD_rv ru hk]) (by omega), s_step ha (mut_dT ha) af hF hG rR nR (fun b z => .inl ((add b).mpr (.inr (sR b z)))) (mk_dcT nR q') h3 c⟩
      · exact h.elim
    · exact h.elim
  · exact h.elim
/-- of a list or dict -/
def PSet.or {t u : TSet} (h : PSet X t) (k : PSet X u) : PSet X (fun o i v H Q => t o i v H Q ∨ u o i v H Q) := fun pins s σ H o i v ov iv w Q I r1 r2 r3 q =>
  q.elim (h pins s σ H o i v ov iv w Q I r1 r2 r3) (k pins s σ H o i v ov iv w Q I r1 r2 r3)
abbrev rSetAll : TSet := fun o i v H Q => rSetL o i v H Q ∨ rSetD o i v H Q
theorem set_all (hu : X.A.units + 1 < cLine) : PSet X rSetAll := PSet.or set_list (set_dict hu)
def pAll : MP := fun d i e k => match d with
  | .lst _ _ => pLst d i e k
  | _ => pDct d i e k
theorem sd_all : StD K rSetAll pAll := fun H Y o d F i di Fi v e G k Q ro ri rv dj hF hG hm h c => by
  unfold pAll at h
  split at h
  · exact .inl (sd_lst H Y o _ F i di Fi v e G k Q ro ri rv dj hF hG hm h c)
  · exact .inr (sd_dct H Y o _ F i di Fi v e G k Q ro ri rv dj hF hG hm h c)
end

section
variable {X : Cx} {K : PySem.W.Frag} {E : WX} {P : List Nat} {o i e : Expr} {Tp : LvT} {Ti Te : ET} {pos spos : Pos}
/-- o[i] = e, o at a path, i quiet -/
def dPut (Te : ET) (Tp : LvT) (Ti : ET) : DSt := fun k ρ => Te ρ fun ρ1 e => Tp ρ1 fun n p c => Ti ρ1 fun _ y => pAll c y e fun c' => k.nx (putD ρ1 n p c')
/-- a store's step -/
theorem st_core {A W1 F1 : AS} {H1 : Hp} {σ : L2.St} {ρ1 : DEnv} {n : Nat} {p : List Nat} {v0 x vi ve : V} {d0 di e : D} {Fi : AS} {q : D → Prop} {Q : Hp → Prop} {t : TSet} {M : MP} (hM : StD K t M)
    (s1 : Std K (Or2 F1 A) H1 σ ρ1 W1) (r1 : RV K H1 (Or2 W1 (Or2 F1 A)) ve e F1) (djf : Dj F1 A) (ri : RV K H1 (Or2 W1 (Or2 F1 A)) vi di Fi) (hv : σ[n]? = some (some v0)) (nav : Nav H1 v0 p x) (hp : placeD ρ1 n p = some d0) (m : M d0 di e q)
    (c : ∀ d', q d' → ∀ H' W', Std K A H' σ (putD ρ1 n p d') W' → (∀ a o, H1 a = some o → ¬ W1 a → H' a = some o) → (∀ a, W' a → W1 a ∨ F1 a ∨ H1 a = none) → Q H') : t x vi ve H1 Q := by
  obtain ⟨v', u, Fc, Wr, hv', nav', rc, djc, eq, back⟩ := s1.focus hp
  rw [hv] at hv'
  cases hv'
  cases nav_one nav nav'
  have wm := s1.wm
  have fw : ∀ a, Fc a → W1 a := fun a z => (eq a).mpr (.inl z)
  have ww : ∀ a, Wr a → W1 a := fun a z => (eq a).mpr (.inr z)
  refine hM H1 (Or2 W1 (Or2 F1 A)) x d0 Fc vi di Fi ve e F1 q Q rc ri r1 (fun a z y => s1.dj a (fw a z) (.inl y)) (fun a z => .inl (fw a z)) (fun a z => .inr (.inl z)) (fun a z => z.elim (wm a) (s1.am a)) m fun d' kd H' N keep new rr => ?_
  refine c d' kd H' (fun a => N a ∨ Wr a) (back H' A d' N keep (fun a z => ?_) (fun a z y => ?_) (fun a z y => ?_) (fun a z y => s1.dj a (ww a z) (.inr y)) (fun a z => ?_) (rr _ fun a z => ?_)) (fun a o h n => keep a o h fun z => n (fw a z)) fun a z => ?_
  · rcases z with z | z
    · rcases new a z with z | z | z
      · exact .inl (.inl (fw a z))
      · exact .inl (.inr (.inl z))
      · exact .inr z
    · exact .inl (.inr (.inr z))
  · rcases new a z with z | z | z
    · exact djc a z y
    · exact s1.dj a (ww a y) (.inl z)
    · exact mut_ne (wm a (ww a y)) z
  · rcases new a z with z | z | z
    · exact s1.dj a (fw a z) (.inr y)
    · exact djf a z y
    · exact mut_ne (s1.am a (.inr y)) z
  · obtain ⟨ob, ho⟩ := mut_some (s1.am a (.inr z))
    have m' := s1.am a (.inr z)
    rw [keep a ob ho fun y => s1.dj a (fw a y) (.inr z)]
    rw [ho] at m'; exact m'
  · rcases z with (z | z) | z
    · exact .inl z
    · exact .inr (.inl (.inl (ww a z)))
    · exact .inr (.inl (.inr (.inr z)))
  · rcases z with z | z
    · rcases new a z with z | z | z
      · exact .inl (fw a z)
      · exact .inr (.inl z)
      · exact .inr (.inr z)
    · exact .inl (ww a z)
theorem ds_put (hu : X.A.units + 1 < cLine) (he : DE X e Te) (ho : DP X o Tp) (hi : DQ X i Ti) (hs : swapsWithSole [.Subscript o i pos] e spos.line X.env = pure false := by rfl) (hw : swappedStores [.Subscript o i pos] e X.env = pure none := by rfl)
    (h1 : (assignEach [.Subscript o i pos] X.env).map (·.2) = [assign (.Subscript o i pos) X.env] := by rfl)
    (ha : ∀ v, assign (.Subscript o i pos) X.env v = (do
      let ov ← holding [v] (eval o X.env)
      let iv ← holding [v, ov] (eval i X.env)
      standAt pos
      holding [v, ov, iv] (setItem ov iv v)
      release [v, ov, iv] []) := by intro _; rfl) : DS X E P (.Assign [.Subscript o i pos] e spos) (dPut Te Tp Ti) := ps_imp (ps_asg he (pg_sub ho hi (set_all hu) ha) hs hw h1) fun D σ H ⟨A, ρ, W, k, s, t, ok⟩ => by
  refine ⟨A, ρ, W, _, s, t, fun ρ1 d t1 v H1 W1 F1 s1 r1 g1 => ?_⟩
  have djf := dj_FA s.dj s.am g1
  refine ⟨Or2 F1 A, ρ1, W1, _, s1, t1, fun n p c t2 hp v0 x H2 x2 hv nav => ?_⟩
  refine ⟨Or2 F1 A, ρ1, W1, _, s1.ext x2, t2, fun y t3 vy H3 Fy x3 ry => ?_⟩
  have x23 := ext_trans x2 x3
  have s3 := s1.ext x23
  refine st_core sd_all s3 (r1.ext x23 fun a z => .inl z) djf ry hv (nav_ext x3 nav) hp t3 fun d' q H' W' s' keep new => ?_
  have nx : ∀ a, H3 a = none → H1 a = none := new_back (F := fun a => H3 a = none) x23 fun _ z => z
  refine ok.nx _ q σ H' W' s' ⟨fun a o h n => ?_, fun a z => ?_⟩ (Pin.refl P σ)
  · refine keep a o (x23 a o (g1.keep a o h n)) fun z => ?_
    rcases g1.new a (.inl z) with z | z
    · exact n z
    · rw [h] at z; cases z
  · rcases new a z with z | z | z
    · exact g1.new a (.inl z)
    · exact g1.new a (.inr z)
    · exact g1.left.old (nx a z) s.wm
/-- x[i] = e, x a name, i any -/
def dPutN (Te : ET) (n : Nat) (Ti : ET) : DSt := fun k ρ => Te ρ fun ρ1 e => nameV ρ1 n fun _ => Ti ρ1 fun ρ2 y => nameV ρ2 n fun c => pAll c y e fun c' => k.nx (ρ2.set n (some c'))
theorem ds_putN (n : Nat) (hu : X.A.units + 1 < cLine) (he : DE X e Te) (ho : PE X o (tVar n)) (hi : DE X i Ti) (hs : swapsWithSole [.Subscript o i pos] e spos.line X.env = pure false := by rfl) (hw : swappedStores [.Subscript o i pos] e X.env = pure none := by rfl)
    (h1 : (assignEach [.Subscript o i pos] X.env).map (·.2) = [assign (.Subscript o i pos) X.env] := by rfl)
    (ha : ∀ v, assign (.Subscript o i pos) X.env v = (do
      let ov ← holding [v] (eval o X.env)
      let iv ← holding [v, ov] (eval i X.env)
      standAt pos
      holding [v, ov, iv] (setItem ov iv v)
      release [v, ov, iv] []) := by intro _; rfl) : DS X E P (.Assign [.Subscript o i pos] e spos) (dPutN Te n Ti) := ps_imp (ps_asg he (pg_sub ho hi (set_all hu) ha) hs hw h1) fun D σ H ⟨A, ρ, W, k, s, t, ok⟩ => by
  refine ⟨A, ρ, W, _, s, t, fun ρ1 d t1 v H1 W1 F1 s1 r1 g1 => ?_⟩
  have djf := dj_FA s.dj s.am g1
  obtain ⟨d0, hd0, t1⟩ := nameV_get t1
  obtain ⟨v0, F0, hv0, _⟩ := s1.re.get hd0
  refine ⟨v0, hv0, Or2 F1 A, ρ1, W1, _, s1, t1, fun ρ2 y t2 vy H2 W2 F2 s2 r2 g2 => ?_⟩
  obtain ⟨c, hc, t2⟩ := nameV_get t2
  have r1' := r1.go g2.left s1.wm fun a z y => s1.dj a y (.inl z)
  have dj2 : Dj F2 (Or2 F1 A) := dj_FA s1.dj s1.am g2
  have s2' : Std X.K (Or2 F1 A) H2 σ ρ2 W2 := s2.weak fun a z => .inr z
  refine st_core sd_all s2' r1' djf (r2.weak fun a z => z.imp id .inr) hv0 (p := []) rfl (place_nil hc) t2 fun d' q H' W' s' keep new => ?_
  rw [put_nil hc] at s'
  refine ok.nx _ q σ H' W' s' ⟨fun a o h n => ?_, fun a z => ?_⟩ (Pin.refl P σ)
  · have gg := g1.left.trans g2.left
    refine keep a o (gg.keep a o h n) fun z => ?_
    rcases gg.new a z with z | z
    · exact n z
    · rw [h] at z; cases z
  · rcases new a z with z | z | z
    · exact (g1.left.trans g2.left).new a z
    · exact g1.new a (.inr z)
    · exact (g1.left.trans g2.left).old z s.wm
end
end Dl
/-! DL19: list comprehensions with effects. -/
namespace Dl
open PySem PySem.Spec L2
section
variable {K : PySem.W.Frag} {H H' : Hp} {X A W F : AS} {σ : L2.St} {ρ : DEnv}
theorem RE.unset (i : Nat) (o : Option V) (r : RE K H X (σ.set i o) ρ F) (h : ρ[i]? = some none ∨ ρ.length ≤ i) (hl : σ.length = ρ.length) : RE K H X σ ρ F := by
  induction ρ generalizing σ i F with
  | nil =>
    cases σ with
    | nil => cases r; exact .nil ‹_›
    | cons _ _ => simp at hl
  | cons d ρ ih =>
    cases σ with
    | nil => simp at hl
    | cons s σ =>
      have hl' : σ.length = ρ.length := by simpa using hl
      cases i with
      | zero =>
        have : d = none := by simpa using h
        subst this
        simp only [List.set_cons_zero] at r
        cases r with
        | no r => exact .no r
      | succ i =>
        have h' : ρ[i]? = some none ∨ ρ.length ≤ i := by simpa using h
        simp only [List.set_cons_succ] at r
        cases r with
        | no r => exact .no (ih i r h' hl')
        | so r1 r2 dj u => exact .so r1 (ih i r2 h' hl') dj u
theorem wipeD_length : ∀ (ρ : DEnv) (vs : List Nat), (wipeD ρ vs).length = ρ.length
  | ρ, [] => rfl
  | ρ, v :: vs => by
    show ((wipeD ρ vs).set v none).length = _
    rw [List.length_set, wipeD_length ρ vs]
theorem wipeD_in {i : Nat} : ∀ {ρ : DEnv} {vs : List Nat}, i ∈ vs → (wipeD ρ vs)[i]? = some none ∨ (wipeD ρ vs).length ≤ i
  | ρ, [], h => by simp at h
  | ρ, v :: vs, h => by
    rw [wipeD_length]
    show ((wipeD ρ vs).set v none)[i]? = some none ∨ _
    by_cases e : v = i
    · subst e
      by_cases hv : v < ρ.length
      · exact .inl (List.getElem?_set_self (by rw [wipeD_length]; exact hv))
      · exact .inr (by omega)
    · rw [List.getElem?_set_ne e]
      have := wipeD_in (ρ := ρ) (vs := vs) ((List.mem_cons.mp h).resolve_left fun q => e q.symm)
      rwa [wipeD_length] at this
theorem wipeD_out {i : Nat} : ∀ {ρ : DEnv} {vs : List Nat}, i ∉ vs → (wipeD ρ vs)[i]? = ρ[i]?
  | ρ, [], h => rfl
  | ρ, v :: vs, h => by
    show ((wipeD ρ vs).set v none)[i]? = _
    have h' := fun z => h (List.mem_cons_of_mem v z)
    rw [List.getElem?_set_ne fun e => h (by simp [e]), wipeD_out h']
theorem RE.unwipe (h : ρ.length = σ.length) : ∀ (us : List Nat), (∀ i ∈ us, ρ[i]? = some none ∨ ρ.length ≤ i) → RE K H X (L2.wipe σ us) ρ F → RE K H X σ ρ F
  | [], _, r => r
  | v :: us, hu, r => by
    have r' : RE K H X ((L2.wipe σ us).set v none) ρ F := r
    exact RE.unwipe h us (fun i hi => hu i (List.mem_cons_of_mem _ hi)) (r'.unset v none (hu v (by simp)) (by rw [wipe_length]; exact h.symm))
/-- the block's own names get back what they held, if it is not owned -/
def restD (ρ ρ' : DEnv) : List Nat → DEnv
  | [] => ρ'
  | v :: vs => match ρ[v]? with
    | some (some d) => (match isFz d with
      | true => (restD ρ ρ' vs).set v (some d)
      | false => restD ρ ρ' vs)
    | _ => restD ρ ρ' vs
end

/-- by an invariant over what is made, what is left to be walked, the names -/
def compE (g : DTg) (tt : TTd) (te : ET) (own : List Nat) (k : DEnv → D → Prop) (ds : List D) (ρ0 : DEnv) : Prop := ∃ I : List D → List D → DEnv → Prop, I [] ds ρ0 ∧
  (∀ acc d r ρ, I acc (d :: r) ρ → g d ρ fun ρ1 => tt ρ1 fun ρ2 b => match b with
    | true => te ρ2 fun ρ3 y => acc.length < sizeLine ∧ I (acc ++ [y]) r (wipeD ρ3 own)
    | false => I acc r (wipeD ρ2 own)) ∧ ∀ acc ρ, I acc [] ρ → k (wipeD ρ own) (.lst true acc)
def dLcE (I : DIt) (g : DTg) (tt : TTd) (te : ET) (own : List Nat) : ET := fun ρ k => I ρ fun ρ1 ds => compE g tt te own (fun ρ2 d => k (restD ρ1 ρ2 own) d) ds (wipeD ρ1 own)
section
variable {K : PySem.W.Frag} {H H' : Hp} {X A W F : AS} {σ : L2.St} {ρ : DEnv}
theorem restD_length {ρ' : DEnv} : ∀ (vs : List Nat), (restD ρ ρ' vs).length = ρ'.length
  | [] => rfl
  | v :: vs => by
    unfold restD
    split
    · split
      · rw [List.length_set, restD_length vs]
      · exact restD_length vs
    · exact restD_length vs
theorem restD_out {ρ' : DEnv} {i : Nat} : ∀ {vs : List Nat}, i ∉ vs → (restD ρ ρ' vs)[i]? = ρ'[i]?
  | [], _ => rfl
  | v :: vs, h => by
    have h' := fun z => h (List.mem_cons_of_mem v z)
    have hv : v ≠ i := fun e => h (by simp [e])
    unfold restD
    split
    · split
      · rw [List.getElem?_set_ne hv, restD_out h']
      · exact restD_out h'
    · exact restD_out h'
/-- what the own names held comes back -/
theorem RE.rest {H1 : Hp} {X1 F1 : AS} {ρ' : DEnv} (r0 : RE K H1 X1 σ ρ F1) (lt : ∀ v d G, RV K H1 X1 v d G → isFz d = true → RV K H X v d (fun _ => False)) :
    ∀ (vs : List Nat), vs.Nodup → (∀ i ∈ vs, ρ'[i]? = some none ∨ ρ'.length ≤ i) → ρ'.length = ρ.length → RE K H X σ ρ' F → RE K H X σ (restD ρ ρ' vs) F
  | [], _, _, _, r => r
  | v :: vs, nd, hn, hl, r => by
    have ih := RE.rest r0 lt vs (List.nodup_cons.mp nd).2 (fun i hi => hn i (List.mem_cons_of_mem _ hi)) hl r
    unfold restD
    split
    · rename_i d hd
      split
      · rename_i hz
        obtain ⟨u, Fi, hu, ru, _⟩ := r0.get hd
        have hv : v < ρ'.length := by rw [hl]; exact (List.getElem?_eq_some_iff.mp hd).1
        have h0 : (restD ρ ρ' vs)[v]? = some none := by
          rw [restD_out (List.nodup_cons.mp nd).1]
          exact (hn v (by simp)).resolve_right (by omega)
        exact (ih.put hu h0 (lt u d Fi ru hz) fun _ z _ => z).congr fun a => ⟨fun z => z.elim False.elim id, .inr⟩
      · exact ih
    · exact ih
variable {elt tg iter : Expr} {ifs : List Expr} {scope : Scope} {own : List (Str × Nat)} {pos : Pos} {I : DIt} {g : DTg} {tt : TTd} {te : ET}
theorem wipe_wipe (σ : L2.St) (vs : List Nat) : L2.wipe (L2.wipe σ vs) vs = L2.wipe σ vs := wipe_only ⟨wipe_length σ vs, fun j hj => wipe_out hj⟩
theorem lcE_read (σ : L2.St) (H : Hp) (Q : VK) (vs : List Nat) (nd : vs.Nodup) (h : tD K (dLcE I g tt te vs) σ H Q) : tLc (tI K I) (tG K vs g) (tT K tt) (tD K te) vs σ H Q := by
  obtain ⟨A, ρ, W, k, s, t, c⟩ := h
  refine ⟨A, ρ, W, _, s, t, fun ρ1 ds ⟨Iv, q, hstep, hend⟩ J H1 W1 s1 g1 it DD hD => ?_⟩
  obtain ⟨Fb, sb, subb⟩ := s1.wipe vs
  have extD : Ext H1 (upd H1 DD (.lst [])) := ext_upd hD
  have wm1 := s1.wm
  have len1 : σ.length = ρ1.length := s1.re.length
  -- what holds at turn i: the items so far (F: owned in them), the names (Wc)
  let Inv : Nat → Hp → Prop := fun i H2 => i ≤ ds.length ∧ ∃ (acc : List D) (ws : List V) (F Wc : AS) (ρc : DEnv), Iv acc (ds.drop i) ρc ∧ ρc.length = ρ1.length ∧ (∀ a o, H1 a = some o → ¬ W1 a → H2 a = some o) ∧ H2 DD = some (.lst ws) ∧
    (∀ a, F a ∨ Wc a → W1 a ∨ H1 a = none) ∧ ¬ F DD ∧ RVs K H2 (fun a => a = DD ∨ F a ∨ Wc a ∨ A a) ws acc F ∧ Std K (fun a => (a = DD ∨ F a) ∨ A a) H2 (wipe σ vs) ρc Wc
  have nA : ¬ A DD := fun z => mut_ne (s1.am DD z) hD
  refine ⟨fun i m H2 => m = ds.length - i ∧ Inv i H2, ⟨ds.length, by simp, Nat.zero_le _, [], [], fun _ => False, Fb, wipeD ρ1 vs, by simpa using q, wipeD_length ρ1 vs, fun a o h _ => extD a o h, upd_same, fun a z => z.elim False.elim fun z => .inl (subb a z), fun z => z, .nil emF, ?_⟩, ?_⟩
  · have s2 := sb.grow (F := fun a => a = DD) extD (fun a z => by subst z; exact hD) fun a z => by subst z; rw [upd_same]; trivial
    refine s2.weak fun a z => ?_
    rcases z with (z | z) | z
    · exact .inl z
    · exact z.elim
    · exact .inr (.inr z)
  · rintro i m H2 ⟨rfl, hi, acc, ws, F, Wc, ρc, cd, lc, keep2, hD2, hn, nF, rv, sc⟩
    obtain ⟨it1, it2⟩ := it H2 keep2 i
    have mD : Mut (H2 DD) := by rw [hD2]; trivial
    have nWD : ¬ Wc DD := fun z => sc.dj DD z (.inl (.inl rfl))
    by_cases hlt : i < ds.length
    · have hd : ds.drop i = ds[i] :: ds.drop (i + 1) := List.drop_eq_getElem_cons hlt
      rw [hd] at cd
      obtain ⟨go, yl⟩ := it1 ds[i] (by simp [hlt])
      refine .inr ⟨go, fun H' => ∃ m', m' < ds.length - i ∧ m' = ds.length - (i + 1) ∧ Inv (i + 1) H', fun H' ⟨m', h1, h2, h3⟩ => ⟨m', h1, h2, h3⟩, fun x H3 y => ?_⟩
      obtain ⟨x23, rx⟩ := yl x H3 y
      have rx' := rx (Or2 Wc (fun a => (a = DD ∨ F a) ∨ A a)) fun a z => by
        rcases z with z | (z | z) | z
        · exact (hn a (.inr z)).imp id .inr
        · subst z; exact .inr (.inr hD)
        · exact (hn a (.inl z)).imp id .inr
        · exact .inr (.inl z)
      have hD3 : H3 DD = some (.lst ws) := x23 _ _ hD2
      have rv3 : RVs K H3 (fun a => a = DD ∨ F a ∨ Wc a ∨ A a) ws acc F := rv.ext x23 fun a z => .inl z
      have s3 := sc.ext x23
      refine ⟨_, ρc, Wc, ds[i], _, s3, rx', hstep _ _ _ _ cd, fun ρ4 q4 σ4 H4 W4 s4 x4 w4 o4 => ⟨(wipe_only o4).trans (wipe_wipe σ vs), ?_⟩⟩
      have len4 : σ4.length = σ.length := o4.1.trans (wipe_length σ vs)
      have x24 := ext_trans x23 x4
      -- the block's names are dropped at a turn's end
      have s4' : Std K (fun a => (a = DD ∨ F a) ∨ A a) H4 σ4 ρ4 W4 := s4.weak fun a z => .inr z
      have wsig : L2.wipe σ4 vs = L2.wipe σ vs := (wipe_only o4).trans (wipe_wipe σ vs)
      refine ⟨_, ρ4, W4, _, s4', q4, fun ρ5 b qb H5 W5 s5 g5 => ?_⟩
      have gk : ∀ a o, H2 a = some o → ¬ Wc a → H5 a = some o := fun a o h n => g5.keep a o (x24 a o h) fun z => n (w4 a z)
      have n5 : ∀ a, H4 a = none → H2 a = none := new_back (F := fun a => H4 a = none) x24 fun _ z => z
      have w5 : ∀ a, W5 a → W1 a ∨ H1 a = none := fun a z => by
        rcases g5.new a z with z | z
        · exact hn a (.inr (w4 a z))
        · refine Classical.byCases (p := W1 a) .inl fun n => .inr ?_
          cases e : H1 a with
          | none => rfl
          | some o => have := keep2 a o e n; rw [n5 a z] at this; cases this
      have keep5 : ∀ a o, H1 a = some o → ¬ W1 a → H5 a = some o := fun a o h n => gk a o (keep2 a o h n) fun z => by
        rcases hn a (.inr z) with z | z
        · exact n z
        · rw [h] at z; cases z
      have nWF : ∀ a, F a → ¬ Wc a := fun a z y => sc.dj a y (.inl (.inr z))
      have hD5 : H5 DD = some (.lst ws) := gk _ _ hD2 nWD
      have lt25 : LaterT (fun a => a = DD ∨ F a ∨ Wc a ∨ A a) (fun a => a = DD ∨ F a ∨ W5 a ∨ A a) Wc H2 H5 := by
        refine ⟨⟨gk, fun a z => .inr (.inr (.inl z)), fun a z => ?_⟩, fun a xs h nm => gk a _ h fun z => mut_not (sc.wm a z) nm h⟩
        rcases z with z | z | z | z
        · exact .inl (.inl z)
        · exact .inl (.inr (.inl z))
        · rcases g5.new a z with z | z
          · exact .inl (.inr (.inr (.inl (w4 a z))))
          · exact .inr (n5 a z)
        · exact .inl (.inr (.inr (.inr z)))
      have rv5 := rv.later lt25 nWF
      cases b with
      | false =>
        show if false = true then _ else _
        rw [if_neg Bool.false_ne_true]
        obtain ⟨F6, s6, sub6⟩ := s5.wipe vs
        rw [wsig] at s6
        refine ⟨ds.length - (i + 1), by omega, rfl, hlt, acc, ws, F, F6, wipeD ρ5 vs, qb, ?_, keep5, hD5, fun a z => z.elim (fun z => hn a (.inl z)) fun z => w5 a (sub6 a z), nF, rv5.weak fun a z => ?_, s6.weak fun a z => .inr z⟩
        · rw [wipeD_length, ← s5.re.length, len4, len1]
        · rcases z with z | z | z | z
          · exact .inl z
          · exact .inr (.inl z)
          · exact .inr (.inr (.inl (sub6 a z)))
          · exact .inr (.inr (.inr z))
      | true =>
        show if true = true then _ else _
        rw [if_pos rfl]
        refine ⟨_, ρ5, W5, _, s5, qb, fun ρ6 yd qy v6 H6 W6 F6 s6 r6 g6 => ?_⟩
        obtain ⟨hz, cd'⟩ := qy
        have wm5 := s5.wm
        have dj56 : Dj F6 (fun a => (a = DD ∨ F a) ∨ A a) := dj_FA s5.dj s5.am g6
        have nW5D : ¬ W5 DD := fun z => s5.dj DD z (.inl (.inl rfl))
        have hD6 : H6 DD = some (.lst ws) := g6.keep _ _ hD5 nW5D
        have nW5F : ∀ a, F a → ¬ W5 a := fun a z y => s5.dj a y (.inl (.inr z))
        have lt56 : LaterT (fun a => a = DD ∨ F a ∨ W5 a ∨ A a) (fun a => a = DD ∨ (F a ∨ F6 a) ∨ W6 a ∨ A a) W5 H5 H6 := by
          refine ⟨⟨g6.keep, fun a z => .inr (.inr (.inl z)), fun a z => ?_⟩, fun a xs h nm => g6.keep a _ h fun z => mut_not (wm5 a z) nm h⟩
          rcases z with z | (z | z) | z | z
          · exact .inl (.inl z)
          · exact .inl (.inr (.inl z))
          · exact (g6.new a (.inr z)).imp (fun z => .inr (.inr (.inl z))) id
          · exact (g6.new a (.inl z)).imp (fun z => .inr (.inr (.inl z))) id
          · exact .inl (.inr (.inr (.inr z)))
        have rv6 := rv5.later lt56 nW5F
        have djF : Dj F F6 := fun a z y => dj56 a y (.inl (.inr z))
        have nD6 : ¬ F6 DD := fun z => dj56 DD z (.inl (.inl rfl))
        have rvy : RV K H6 (fun a => a = DD ∨ (F a ∨ F6 a) ∨ W6 a ∨ A a) v6 yd F6 := r6.weak fun a z => by
          rcases z with z | (z | z) | z | z
          · exact .inr (.inr (.inl (.inl z)))
          · exact .inr (.inr (.inl (.inr z)))
          · exact .inr (.inl z)
          · exact .inl z
          · exact .inr (.inr (.inr z))
        have rvn := rvs_append rv6 (.cons rvy (.nil emF) (fun _ _ z => z) fun b => Iff.rfl) (G := fun b => F6 b ∨ False) fun a z y => y.elim (djF a z) False.elim
        have mD6 : Mut (H6 DD) := by rw [hD6]; trivial
        obtain ⟨F7, s7, sub7⟩ := s6.wipe vs
        rw [wsig] at s7
        have rvn2 : RVs K (upd H6 DD (.lst (ws ++ [v6]))) (fun a => a = DD ∨ (F a ∨ F6 a) ∨ F7 a ∨ A a) (ws ++ [v6]) (acc ++ [yd]) (fun a => F a ∨ F6 a) :=
          ((rvn.upd (o := .lst (ws ++ [v6])) (.inl rfl) (fun z => z.elim nF fun z => z.elim nD6 id) mD6).congr fun a => ⟨fun z => z.imp id fun z => z.elim id False.elim, fun z => z.imp id .inl⟩).weak fun a z => by
            rcases z with z | z | z | z
            · exact .inl z
            · exact .inr (.inl z)
            · exact .inr (.inr (.inl (sub7 a z)))
            · exact .inr (.inr (.inr z))
        have s8 := (s7.upd (a := DD) (o := .lst (ws ++ [v6])) (.inr (.inr (.inl (.inl rfl)))) trivial).weak (A' := fun a => (a = DD ∨ (F a ∨ F6 a)) ∨ A a) fun a z => by
          rcases z with (z | z | z) | z
          · exact .inr (.inr (.inl (.inl z)))
          · exact .inr (.inr (.inl (.inr z)))
          · exact .inr (.inl z)
          · exact .inr (.inr (.inr z))
        have n6 : ∀ a, H5 a = none → W1 a ∨ H1 a = none := fun a z => by
          refine Classical.byCases (p := W1 a) .inl fun n => .inr ?_
          cases e : H1 a with
          | none => rfl
          | some o => have := keep5 a o e n; rw [z] at this; cases this
        refine ⟨ws, hD6, by rw [rvs_length rv6]; exact hz, ds.length - (i + 1), by omega, rfl, hlt, acc ++ [yd], ws ++ [v6], fun a => F a ∨ F6 a, F7, wipeD ρ6 vs, cd', ?_, fun a o h n => ?_, upd_same, fun a z => ?_, fun z => z.elim nF nD6, rvn2, s8⟩
        · rw [wipeD_length, ← s6.re.length, len4, len1]
        · rw [upd_ne (ne_of_none h hD)]
          refine g6.keep a o (keep5 a o h n) fun z => ?_
          rcases w5 a z with z | z
          · exact n z
          · rw [h] at z; cases z
        · rcases z with (z | z) | z
          · exact hn a (.inl z)
          · exact (g6.new a (.inr z)).elim (w5 a) (n6 a)
          · exact (g6.new a (.inl (sub7 a z))).elim (w5 a) (n6 a)
    · have e : ds.drop i = [] := List.drop_eq_nil_of_le (by omega)
      rw [e] at cd
      refine .inl ⟨it2 (by omega), ?_⟩
      obtain ⟨Fe, se, sube⟩ := sc.wipe vs
      rw [wipe_wipe] at se
      have lenw : (wipeD ρc vs).length = ρ1.length := by rw [wipeD_length, lc]
      have re1 := se.re.unwipe (by rw [lenw, len1]) vs fun i hi => wipeD_in hi
      have X' : ∀ a, Or2 Fe (Or2 (fun b => b = DD ∨ F b) A) a → W1 a ∨ A a ∨ H1 a = none := fun a z => by
        rcases z with z | (z | z) | z
        · exact (hn a (.inr (sube a z))).imp id .inr
        · subst z; exact .inr (.inr hD)
        · exact (hn a (.inl z)).imp id .inr
        · exact .inr (.inl z)
      have re2 : RE K H2 (Or2 Fe (Or2 (fun b => b = DD ∨ F b) A)) σ (wipeD ρc vs) Fe := re1.ext (fun _ _ z => z) fun a z => .inl (by
        rcases z with z | z
        · exact .inl z
        · exact .inr (.inr z))
      have re3 := RE.rest s1.re (fun v d G r hz => (rv_emp r (rv_fz r hz)).later (X' := Or2 Fe (Or2 (fun b => b = DD ∨ F b) A)) (W := W1) ⟨⟨keep2, fun a z => .inl z, fun a z => by
        rcases X' a z with z | z | z
        · exact .inl (.inl z)
        · exact .inl (.inr z)
        · exact .inr z⟩, fun a xs h nm => keep2 a _ h fun z => mut_not (wm1 a z) nm h⟩ fun a z => z.elim) vs nd (fun i hi => wipeD_in hi) lenw re2
      refine c _ _ (hend _ _ cd) (.ref DD) H2 Fe (fun a => a = DD ∨ F a) ⟨re3, fun a z y => se.dj a z (.inr y), fun a z => se.am a (.inr z)⟩ (.lst1 hD2 (rv.weak fun a z => ?_) nF fun b => Iff.rfl) ⟨fun a o h n => ?_, fun a z => ?_⟩
      · rcases z with z | (z | z) | z
        · exact .inr (.inr (.inl (sube a z)))
        · exact .inl z
        · exact .inr (.inl z)
        · exact .inr (.inr (.inr z))
      · refine keep2 a o (g1.keep a o h n) fun z => ?_
        rcases g1.new a z with z | z
        · exact n z
        · rw [h] at z; cases z
      · have b1 : W1 a ∨ H1 a = none → W a ∨ H a = none := fun z => z.elim (g1.new a) fun z => g1.old z s.wm
        rcases z with z | z | z
        · exact b1 (hn a (.inr (sube a z)))
        · subst z; exact b1 (.inr hD)
        · exact b1 (hn a (.inl z))
end
section
variable {X : Cx} {elt tg iter : Expr} {ifs : List Expr} {scope : Scope} {own : List (Str × Nat)} {pos : Pos} {I : DIt} {g : DTg} {tt : TTd} {te : ET}
theorem dptsE_nil {X : Cx} : PTs X [] (tT X.K dYes) := ⟨fun pins s σ H Q I ⟨A, ρ, W, k, st, t, c⟩ => pts_nil.run pins s σ H Q I (c ρ true t H W st (Go.refl W H))⟩
theorem dptsE_one {X : Cx} {c : Expr} {t : TTd} (h : DT X c t) : PTs X [c] (tT X.K t) := pts_one h
theorem de_lc (hc : X.calm = true) (hN : X.N.Nodup) (hi : DI X tg iter I) (ok : BlkOk X.N X.env.scope scope own)
    (hg : Blk X scope fun Y => DG Y (own.map (·.2)) tg g) (ht : Blk X scope fun Y => PTs Y ifs (tT X.K tt)) (he : Blk X scope fun Y => DE Y elt te) (nd : (own.map (·.2)).Nodup := by decide) (hs : ∀ x, foldedSetIterable iter X.env x = pure x := by intro _; rfl) :
    DE X (.ListComp elt [⟨tg, iter, ifs, 0⟩] scope pos) (dLcE I g tt te (own.map (·.2))) := pe_imp (pe_lc hc hN hi ok (own := own) (g := tG X.K (own.map fun (p : Str × Nat) => p.2) g) (te := tD X.K te) (fun s H C cl fp => hg s H C cl fp) ht (fun s H C cl fp => he s H C cl fp) hs) fun σ H Q h => lcE_read σ H Q _ nd h
/-- y = [..] on one line -/
theorem ds_setLcE {E : WX} {P : List Nat} {i : Nat} {y : Str} {py spos : Pos} (hp : i ∉ P) (hc : X.calm = true) (hN : X.N.Nodup) (hy : X.N[i]? = some y) (hyl : X.env.scope.names.lookup y = some .local)
    (hsw : swapsWith (.ListComp elt [⟨tg, iter, ifs, 0⟩] scope pos) (some (.Name y py)) spos.line X.env = pure true) (hi : DI X tg iter I) (ok : BlkOk X.N X.env.scope scope own)
    (hg : Blk X scope fun Y => DG Y (own.map (·.2)) tg g) (ht : Blk X scope fun Y => PTs Y ifs (tT X.K tt)) (he : Blk X scope fun Y => DE Y elt te) (nd : (own.map (·.2)).Nodup := by decide) (hs : ∀ x, foldedSetIterable iter X.env x = pure x := by intro _; rfl) :
    DS X E P (.Assign [.Name y py] (.ListComp elt [⟨tg, iter, ifs, 0⟩] scope pos) spos) (dSet i (dLcE I g tt te (own.map (·.2)))) := ps_imp (ps_setLc hc hN hy hyl hsw hi ok (own := own) (g := tG X.K (own.map fun (p : Str × Nat) => p.2) g) (te := tD X.K te) (fun s H C cl fp => hg s H C cl fp) ht (fun s H C cl fp => he s H C cl fp) hs) fun D σ H ⟨A, ρ, W, k, s, t, ok⟩ => by
  refine lcE_read σ H _ _ nd ⟨A, ρ, W, _, s, t, fun ρ1 d ⟨hl, q⟩ v H1 W1 F s1 r1 g1 => ?_⟩
  exact set_step hp s.dj s.am ok hl q s1 r1 g1
end
end Dl
/-! DL20: calls that may raise, that write; raise; try. -/
namespace Dl
open PySem PySem.Spec L2
/-- of an expression that may raise: .., what is wanted of an exception (its class, its attributes) -/
abbrev ETX := DEnv → (DEnv → D → Prop) → (Value → List (Str × D) → DEnv → Prop) → Prop
def tDX (K : PySem.W.Frag) (Vx : WX) (T : ETX) : TE := fun σ H Q => ∃ (A : AS) (ρ : DEnv) (W : AS) (k : DEnv → D → Prop) (kx : Value → List (Str × D) → DEnv → Prop), Std K A H σ ρ W ∧ T ρ k kx ∧
  (∀ ρ' d, k ρ' d → ∀ (v : V) (H' : Hp) (W' F : AS), Std K (Or2 F A) H' σ ρ' W' → RV K H' (Or2 W' (Or2 F A)) v d F → Go W (Or2 W' F) H H' → Q v H') ∧
  (∀ C l ρ', kx C l ρ' → ∀ (H' : Hp) (W' : AS) (o : Option Addr), Std K A H' σ ρ' W' → Go W W' H H' → ExcAt K H' (Or2 W' A) l o → Vx C o σ H')
def DEX (X : Cx) (Vx : WX) (e : Expr) (T : ETX) : Prop := PE X e (tDX X.K Vx T)
abbrev noX : WX := fun _ _ _ _ => False
def noKx : Value → List (Str × D) → DEnv → Prop := fun _ _ _ => False
theorem DE.x {X : Cx} {Vx : WX} {e : Expr} {T : ET} (h : DE X e T) : DEX X Vx e (fun ρ k _ => T ρ k) := pe_imp h fun σ H Q ⟨A, ρ, W, k, kx, s, t, c, _⟩ => ⟨A, ρ, W, k, s, t, c⟩
theorem DEX.de {X : Cx} {e : Expr} {T : ETX} (h : DEX X noX e T) : DE X e (fun ρ k => T ρ k noKx) := pe_imp h fun σ H Q ⟨A, ρ, W, k, s, t, c⟩ => ⟨A, ρ, W, k, noKx, s, t, c, fun _ _ _ z => z.elim⟩

section
variable {K : PySem.W.Frag} {A W W1 F1 : AS} {H H1 : Hp} {σ : L2.St} {ρ ρ1 : DEnv} {n : Nat} {S : DSp} {ds : List D} {vs : List V} {k : DEnv → D → Prop} {kx : Value → List (Str × D) → DEnv → Prop} {Q : VK} {E : XK}
/-- what the caller wants -/
abbrev CK (K : PySem.W.Frag) (A W : AS) (H : Hp) (σ : L2.St) (k : DEnv → D → Prop) (Q : VK) : Prop := ∀ ρ' d, k ρ' d → ∀ (v : V) (H' : Hp) (W' F : AS), Std K (Or2 F A) H' σ ρ' W' → RV K H' (Or2 W' (Or2 F A)) v d F → Go W (Or2 W' F) H H' → Q v H'
abbrev CKx (K : PySem.W.Frag) (A W : AS) (H : Hp) (σ : L2.St) (kx : Value → List (Str × D) → DEnv → Prop) (E : XK) : Prop := ∀ C l ρ', kx C l ρ' → ∀ (H' : Hp) (W' : AS) (o : Option Addr), Std K A H' σ ρ' W' → Go W W' H H' → ExcAt K H' (Or2 W' A) l o → E C o H'
/-- a call, nothing owned is handed in -/
theorem sp_eff (s : Std K A H σ ρ W) (c : CK K A W H σ k Q) (cx : CKx K A W H σ kx E) (s1 : Std K (Or2 F1 A) H1 σ ρ1 W1) (r1 : RVs K H1 (Or2 W1 (Or2 F1 A)) vs ds F1) (g1 : Go W (Or2 W1 F1) H H1) (q1 : ds.length = n)
    (q3 : S (ds.map fz) (fun d _ => k ρ1 d) fun C l _ => kx C l ρ1) : spD K n S vs H1 Q E := by
  have djf : Dj F1 A := dj_FA s.dj s.am g1
  have rf : RVs K H1 (Or2 W1 A) vs (ds.map fz) (fun _ => False) := r1.fz fun a z => by
    rcases z with z | z
    · exact ⟨.inl z, fun y => s1.dj a z (.inl y)⟩
    · exact ⟨.inr (.inr z), fun y => djf a y z⟩
  have s1' : Std K A H1 σ ρ1 W1 := s1.weak fun a z => .inr z
  refine ⟨by rw [rvs_length r1]; exact q1, Or2 W1 A, fun _ => False, ds.map fz, _, _, ⟨(rf.weak fun a z => z.elim False.elim id).re, fun _ z => z.elim, fun a z => z.elim (s1.wm a) (s1'.am a)⟩, q3, fun d ds' kd v H' W' F s' r' g => ?_, fun C l ds' z H' W' o s' g' x' => ?_⟩
  · have x2 : Ext H1 H' := fun a o h => g.keep a o h fun z => z
    have nw : ∀ a, F a → H1 a = none := fun a z => (g.new a (.inr z)).elim False.elim id
    refine c ρ1 d kd v H' W1 F (s1'.grow x2 nw r'.there) (r'.weak fun a z => ?_) ⟨(g1.left.trans (Go.ext W1 x2)).keep, fun a z => z.elim (fun z => g1.new a (.inl z)) fun z => g1.left.old (nw a z) s.wm⟩
    rcases z with z | z | z
    · exact .inr (.inr (.inl z))
    · exact .inr (.inl z)
    · exact .inr (.inr (.inr z))
  · have x2 : Ext H1 H' := fun a o h => g'.keep a o h fun z => z
    exact cx C l ρ1 z H' W1 o (s1'.ext x2) (g1.left.trans (Go.ext W1 x2)) (x'.weak fun _ z => .inr z)
/-- a call that writes its first argument, which stands at a path -/
theorem sp_io {i : Nat} {p : List Nat} {v0 x : V} {d0 : D} (s : Std K A H σ ρ W) (c : CK K A W H σ k Q) (cx : CKx K A W H σ kx E) (s1 : Std K (Or2 F1 A) H1 σ ρ1 W1) (r1 : RVs K H1 (Or2 W1 (Or2 F1 A)) vs ds F1) (g1 : Go W (Or2 W1 F1) H H1)
    (hv : σ[i]? = some (some v0)) (nav : Nav H1 v0 p x) (hp : placeD ρ1 i p = some d0) (hl : (d0 :: ds).length = n)
    (q : S (d0 :: ds.map fz) (fun d ds' => match ds' with
      | d0' :: _ => k (putD ρ1 i p d0') d
      | [] => False) fun C l ds' => match ds' with
      | d0' :: _ => kx C l (putD ρ1 i p d0')
      | [] => False) : spD K n S (x :: vs) H1 Q E := by
  obtain ⟨v', u, Fi, Wr, hv', nav', r0, dj, eq, back⟩ := s1.focus hp
  rw [hv] at hv'
  cases hv'
  cases nav_one nav nav'
  have djf : Dj F1 A := dj_FA s.dj s.am g1
  have wm := s1.wm
  have rf : RVs K H1 (Or2 Fi (Or2 Wr A)) vs (ds.map fz) (fun _ => False) := r1.fz fun a z => by
    rcases z with z | z | z
    · exact ⟨.inl ((eq a).mpr (.inl z)), fun y => s1.dj a ((eq a).mpr (.inl z)) (.inl y)⟩
    · exact ⟨.inl ((eq a).mpr (.inr z)), fun y => s1.dj a ((eq a).mpr (.inr z)) (.inl y)⟩
    · exact ⟨.inr (.inr z), fun y => djf a y z⟩
  have r0' : RV K H1 (Or2 Fi (Or2 Wr A)) x d0 Fi := r0.weak fun a z => by
    rcases z with z | z | z
    · exact .inl ((eq a).mpr (.inl z))
    · exact .inl ((eq a).mpr (.inr z))
    · exact .inr (.inr z)
  have fim : ∀ a, Fi a → Mut (H1 a) := r0.there
  -- the state behind, with what the callee left
  have behind : ∀ {H' : Hp} {W' F : AS} {d0' : D} {ds'' : List D}, Std K (Or2 F (Or2 Wr A)) H' ((x :: vs).map some) ((d0' :: ds'').map some) W' → Go Fi (Or2 W' F) H1 H' →
      ∃ G0 : AS, Std K (Or2 F A) H' σ (putD ρ1 i p d0') (fun a => G0 a ∨ Wr a) ∧ (∀ a, G0 a → W' a) ∧ Go W (Or2 (fun a => G0 a ∨ Wr a) F) H H' := fun {H' W' F d0' ds''} s' g => by
    cases s'.re with
    | @so _ _ _ _ G0 Gr _ rv0 rer djr ur =>
      have gw : ∀ a, G0 a → W' a := fun a z => (ur a).mpr (.inl z)
      have djF : Dj F (Or2 Wr A) := fun a z y => by
        rcases g.new a (.inr z) with w | w
        · rcases y with y | y
          · exact dj a w y
          · exact s1.dj a ((eq a).mpr (.inl w)) (.inr y)
        · rcases y with y | y
          · exact mut_ne (wm a ((eq a).mpr (.inr y))) w
          · exact mut_ne (s1.am a (.inr y)) w
      refine ⟨G0, back H' (Or2 F A) d0' G0 g.keep (fun a z => ?_) (fun a z y => s'.dj a (gw a z) (.inr (.inl y))) (fun a z y => ?_) (fun a z y => ?_) (fun a z => ?_) (rv0.weak fun a z => ?_), gw, ⟨fun a o h n => ?_, fun a z => ?_⟩⟩
      · rcases z with z | z | z
        · exact (g.new a (.inl (gw a z))).imp (fun z => .inl ((eq a).mpr (.inl z))) id
        · exact (g.new a (.inr z)).imp (fun z => .inl ((eq a).mpr (.inl z))) id
        · exact .inl (.inr (.inr z))
      · have := s'.dj a (gw a z)
        rcases y with y | y
        · exact this (.inl y)
        · exact this (.inr (.inr y))
      · rcases y with y | y
        · exact djF a y (.inl z)
        · exact s1.dj a ((eq a).mpr (.inr z)) (.inr y)
      · rcases z with z | z
        · exact s'.am a (.inl z)
        · exact s'.am a (.inr (.inr z))
      · rcases z with (z | z) | z | z
        · exact .inl (gw a z)
        · exact .inr (.inr (.inl z))
        · exact .inr (.inl z)
        · exact .inr (.inr (.inr z))
      · refine g.keep a o (g1.keep a o h n) fun z => ?_
        rcases g1.new a (.inl ((eq a).mpr (.inl z))) with w | w
        · exact n w
        · rw [h] at w; cases w
      · have bk : ∀ a, W1 a ∨ H1 a = none → W a ∨ H a = none := fun a z => z.elim (fun z => g1.new a (.inl z)) fun z => g1.left.old z s.wm
        rcases z with (z | z) | z
        · exact bk a ((g.new a (.inl (gw a z))).imp (fun z => (eq a).mpr (.inl z)) id)
        · exact bk a (.inl ((eq a).mpr (.inr z)))
        · exact bk a ((g.new a (.inr z)).imp (fun z => (eq a).mpr (.inl z)) id)
  refine ⟨by have := rvs_length r1; simp at hl ⊢; omega, Or2 Wr A, Fi, d0 :: ds.map fz, _, _, ⟨.so r0' rf.re (fun _ _ z => z) fun b => ⟨.inl, fun z => z.elim id False.elim⟩, fun a z y => ?_, fun a z => ?_⟩, q, fun d ds' kd v' H' W' F s' r' g => ?_, fun C l ds' z H' W' o s' g' x' => ?_⟩
  · rcases y with y | y
    · exact dj a z y
    · exact s1.dj a ((eq a).mpr (.inl z)) (.inr y)
  · rcases z with z | z
    · exact wm a ((eq a).mpr (.inr z))
    · exact s1.am a (.inr z)
  · cases ds' with
    | nil => exact kd.elim
    | cons d0' ds'' =>
      obtain ⟨G0, st, gw, go⟩ := behind s' g
      refine c _ d kd v' H' _ F st (r'.weak fun a z => ?_) go
      rcases z with (z | z) | z | z
      · exact .inl (gw a z)
      · exact .inr (.inr (.inl z))
      · exact .inr (.inl z)
      · exact .inr (.inr (.inr z))
  · cases ds' with
    | nil => exact z.elim
    | cons d0' ds'' =>
      obtain ⟨G0, st, gw, go⟩ := behind (F := fun _ => False) (s'.weak fun a z => z.elim False.elim id) (g'.orEmp emF)
      exact cx C l _ z H' _ o (st.weak fun a z => .inr z) go.left (x'.weak fun a z => z.elim (fun z => z.elim (fun z => .inl (gw a z)) fun z => .inr (.inl z)) fun z => .inr (.inr z))
end

/-! ### the rules over data -/
section
variable {X : Cx} {Vx : WX} {e a : Expr} {es : List Expr} {T Ta : ET} {Tl : LT} {Tp : LvT} {pos : Pos} {n k : Nat} {f C : Addr} {fd : FuncData} {ps : List Str} {S : DSp} {x m : Str} {p apos : Pos}
def dCallX (n : Nat) (S : DSp) (Tl : LT) : ETX := fun ρ k kx => Tl ρ fun ρ1 ds => ds.length = n ∧ S (ds.map fz) (fun d _ => k ρ1 d) fun C l _ => kx C l ρ1
abbrev Fno (X : Cx) (k : Nat) (f : Addr) (fd : FuncData) (ps : List Str) (n : Nat) (S : DSp) : Prop := FnGX X k f fd ps (spD X.K n S)
theorem dx_call (tk : Takes X Vx) (hg : Gl X x) (Fn : Fno X k f fd ps n S) (hr : RoomG k X.A) (hm : X.mg x = some (.ref f)) (hk : PySem.W.keepIn X.K (.ref f) = true) (hb : Binds X.K fd ps [])
    (ha : DL X (e :: es) Tl) (hdb : (x == ("__debug__" : Str)) = false := by decide) (he : starEach (e :: es) X.env = (false, eval e X.env) :: starEach es X.env := by rfl) (hpl : (backTo pos (starEach es X.env)).any (·.1) = false := by rfl) :
    DEX X Vx (.Call (.Name x p) (e :: es) [] pos) (dCallX n S Tl) := pe_imp (pe_callG Fn hr hg hm hk hb (passAt tk) ha hdb he hpl) fun σ H Q ⟨A, ρ, W, k, kx, s, t, c, cx⟩ =>
  ⟨A, ρ, W, _, s, t, fun ρ1 ds ⟨q1, q3⟩ vs H1 W1 F1 s1 r1 g1 => sp_eff s c cx s1 r1 g1 q1 q3⟩
theorem dx_call0 (tk : Takes X Vx) (hg : Gl X x) (Fn : Fno X k f fd ps n S) (hr : RoomG k X.A) (hm : X.mg x = some (.ref f)) (hk : PySem.W.keepIn X.K (.ref f) = true) (hb : Binds X.K fd ps [])
    (hdb : (x == ("__debug__" : Str)) = false := by decide) : DEX X Vx (.Call (.Name x p) [] [] pos) (dCallX n S dNil) := pe_imp (pe_callG0 Fn hr hg hm hk hb (passAt tk) hdb) fun σ H Q ⟨A, ρ, W, k, kx, s, ⟨q1, q3⟩, c, cx⟩ =>
  sp_eff (F1 := fun _ => False) s c cx (s.weak fun a z => z.elim False.elim id) (.nil emF) ((Go.refl W H).orEmp emF) q1 q3
/-- f(x, ..): the name x is written by the call -/
def dCallXI (n : Nat) (S : DSp) (i : Nat) (Tl : LT) : ETX := fun ρ k kx => nameV ρ i fun _ => Tl ρ fun ρ1 ds => nameV ρ1 i fun d0 => (d0 :: ds).length = n ∧
  S (d0 :: ds.map fz) (fun d ds' => match ds' with
    | d0' :: _ => k (ρ1.set i (some d0')) d
    | [] => False) fun C l ds' => match ds' with
    | d0' :: _ => kx C l (ρ1.set i (some d0'))
    | [] => False
theorem io_nil {ρ1 : DEnv} {i : Nat} {d0 : D} {ds : List D} {k : DEnv → D → Prop} {kx : Value → List (Str × D) → DEnv → Prop} (h0 : ρ1[i]? = some (some d0)) (q : S (d0 :: ds) (fun d ds' => match ds' with
    | d0' :: _ => k (ρ1.set i (some d0')) d
    | [] => False) fun C l ds' => match ds' with
    | d0' :: _ => kx C l (ρ1.set i (some d0'))
    | [] => False) : S (d0 :: ds) (fun d ds' => match ds' with
    | d0' :: _ => k (putD ρ1 i [] d0') d
    | [] => False) fun C l ds' => match ds' with
    | d0' :: _ => kx C l (putD ρ1 i [] d0')
    | [] => False := by
  have e : ∀ d, putD ρ1 i [] d = ρ1.set i (some d) := fun d => put_nil h0
  simp only [e]
  exact q
theorem dx_callI (i : Nat) (tk : Takes X Vx) (hg : Gl X x) (Fn : Fno X k f fd ps n S) (hr : RoomG k X.A) (hm : X.mg x = some (.ref f)) (hk : PySem.W.keepIn X.K (.ref f) = true) (hb : Binds X.K fd ps [])
    (ho : PE X e (tVar i)) (ha : DL X es Tl) (hdb : (x == ("__debug__" : Str)) = false := by decide) (he : starEach (e :: es) X.env = (false, eval e X.env) :: starEach es X.env := by rfl) (hpl : (backTo pos (starEach es X.env)).any (·.1) = false := by rfl) :
    DEX X Vx (.Call (.Name x p) (e :: es) [] pos) (dCallXI n S i Tl) := pe_imp (pe_callG Fn hr hg hm hk hb (passAt tk) (pa_cons ho ha he) hdb he hpl) fun σ H Q ⟨A, ρ, W, k, kx, s, t, c, cx⟩ => by
  obtain ⟨d0, hd0, t⟩ := nameV_get t
  obtain ⟨v0, Fi, hv, _⟩ := s.re.get hd0
  refine ⟨v0, hv, A, ρ, W, _, s, t, fun ρ1 ds q vs H1 W1 F1 s1 r1 g1 => ?_⟩
  obtain ⟨d0, h0, hl, q⟩ := nameV_get q
  exact sp_io s c cx s1 r1 g1 hv (p := []) rfl (place_nil h0) hl (io_nil h0 q)
/-- o.m(e, ..), nothing owned is handed in -/
def dMethX (C : Addr) (ns : List Str) (n : Nat) (S : DSp) (Ta : ET) (Tl : LT) : ETX := fun ρ k kx => Ta ρ fun ρ1 o => (match o with | .obj _ C' ns' _ => C' = C ∧ ns' = ns | _ => False) ∧ Tl ρ1 fun ρ2 ds => (o :: ds).length = n ∧ allFz (o :: ds) (S (o :: ds) (fun d _ => k ρ2 d) fun C l _ => kx C l ρ2)
theorem dx_meth {ns : List Str} {pl : Sem Bool} (tk : Takes X Vx) (ho : DQ X a Ta) (cl : Cls X.K C) (hm : Meth X.K C m f) (Fn : Fno X k f fd ps n S) (hr : RoomG k X.A) (hb : Binds X.K fd ps [])
    (hns : ns.contains m = false) (ha : DLQ X (e :: es) Tl)
    (hst : starEach (e :: es) X.env = (false, eval e X.env) :: starEach es X.env := by rfl) (hpl : (backTo pos (starEach es X.env)).any (·.1) = false := by rfl)
    (ht : eval (.Call (.Attribute a m apos) (e :: es) [] pos) X.env = (do
      let ov ← eval a X.env
      standAt apos.atName
      let (f, first) ← holding [ov] (getMethod ov m pl)
      callWith pos f first (backTo pos (starEach (e :: es) X.env)) (backToKw pos (keywordEach [] X.env))) := by rfl) :
    DEX X Vx (.Call (.Attribute a m apos) (e :: es) [] pos) (dMethX C ns n S Ta Tl) := pe_imp (pe_methG (pl := pl) ho cl hm Fn hr hb (passAt tk) ha hst hpl ht) fun σ H Q ⟨A, ρ, W, k, kx, s, t, c, cx⟩ => by
  refine ⟨A, ρ, W, _, s, t, fun o ⟨q0, q⟩ vo H1 Fo x1 ro => ?_⟩
  cases o with
  | obj mm C' ns' l =>
    obtain ⟨rfl, rfl⟩ := q0
    obtain ⟨ad, dx, fs, G, rfl, had, hn, rl, _, _⟩ := rv_obj ro
    refine ⟨ad, dx, fs, rfl, had, lookup_none (by rw [hn]; simpa using hns), A, ρ, W, _, s.ext x1, q, fun ds ⟨q1, q2⟩ vs H2 x2 r2 => ?_⟩
    obtain ⟨q2, q3⟩ := allFz_get q2
    have x12 := ext_trans x1 x2
    have s2 : Std X.K (Or2 (fun _ => False) A) H2 σ ρ W := (s.ext x12).weak fun a z => z.elim False.elim id
    have hfz : ∀ d ∈ (D.obj mm C' ns' l :: ds), fz d = d := fun d hd => by unfold Dl.fz; rw [List.all_eq_true.mp q2 d hd]
    exact sp_eff s c cx s2 (((RVv.cons (ro.ext x2 fun a z => .inl z) r2).side q2).weak fun a z => z.imp id fun z => z.elim False.elim id) ((Go.ext W x12).orEmp emF) q1 (by rw [List.map_congr_left hfz, List.map_id']; exact q3)
  | _ => exact q0.elim
theorem dx_meth0 {ns : List Str} {pl : Sem Bool} (tk : Takes X Vx) (ho : DQ X a Ta) (cl : Cls X.K C) (hm : Meth X.K C m f) (Fn : Fno X k f fd ps n S) (hr : RoomG k X.A) (hb : Binds X.K fd ps [])
    (hns : ns.contains m = false)
    (ht : eval (.Call (.Attribute a m apos) [] [] pos) X.env = (do
      let ov ← eval a X.env
      standAt apos.atName
      let (f, first) ← holding [ov] (getMethod ov m pl)
      callWith pos f first (backTo pos (starEach [] X.env)) (backToKw pos (keywordEach [] X.env))) := by rfl) :
    DEX X Vx (.Call (.Attribute a m apos) [] [] pos) (dMethX C ns n S Ta dNil) := pe_imp (pe_methG0 (pl := pl) ho cl hm Fn hr hb (passAt tk) ht) fun σ H Q ⟨A, ρ, W, k, kx, s, t, c, cx⟩ => by
  refine ⟨A, ρ, W, _, s, t, fun o ⟨q0, q1, q2⟩ vo H1 Fo x1 ro => ?_⟩
  cases o with
  | obj mm C' ns' l =>
    obtain ⟨rfl, rfl⟩ := q0
    obtain ⟨ad, dx, fs, G, rfl, had, hn, rl, _, _⟩ := rv_obj ro
    refine ⟨ad, dx, fs, rfl, had, lookup_none (by rw [hn]; simpa using hns), ?_⟩
    obtain ⟨q2, q3⟩ := allFz_get q2
    have s2 : Std X.K (Or2 (fun _ => False) A) H1 σ ρ W := (s.ext x1).weak fun a z => z.elim False.elim id
    have hfz : ∀ d ∈ ([D.obj mm C' ns' l] : List D), fz d = d := fun d hd => by unfold Dl.fz; rw [List.all_eq_true.mp q2 d hd]
    exact sp_eff s c cx s2 (((RVv.cons ro .nil).side q2).weak fun a z => z.imp id fun z => z.elim False.elim id) ((Go.ext W x1).orEmp emF) q1 (by rw [List.map_congr_left hfz, List.map_id']; exact q3)
  | _ => exact q0.elim
/-- o.m(e, ..), o at a path is written -/
def dMethXP (C : Addr) (ns : List Str) (n : Nat) (S : DSp) (Tp : LvT) (Tl : LT) : ETX := fun ρ k kx => Tp ρ fun i p c => (match c with | .obj true C' ns' _ => C' = C ∧ ns' = ns | _ => False) ∧ Tl ρ fun _ ds => (c :: ds).length = n ∧
  S (c :: ds.map fz) (fun d ds' => match ds' with
    | d0' :: _ => k (putD ρ i p d0') d
    | [] => False) fun C l ds' => match ds' with
    | d0' :: _ => kx C l (putD ρ i p d0')
    | [] => False
theorem dx_methP {ns : List Str} {pl : Sem Bool} (tk : Takes X Vx) (ho : DP X a Tp) (cl : Cls X.K C) (hm : Meth X.K C m f) (Fn : Fno X k f fd ps n S) (hr : RoomG k X.A) (hb : Binds X.K fd ps [])
    (hns : ns.contains m = false) (ha : DLN X (e :: es) Tl)
    (hst : starEach (e :: es) X.env = (false, eval e X.env) :: starEach es X.env := by rfl) (hpl : (backTo pos (starEach es X.env)).any (·.1) = false := by rfl)
    (ht : eval (.Call (.Attribute a m apos) (e :: es) [] pos) X.env = (do
      let ov ← eval a X.env
      standAt apos.atName
      let (f, first) ← holding [ov] (getMethod ov m pl)
      callWith pos f first (backTo pos (starEach (e :: es) X.env)) (backToKw pos (keywordEach [] X.env))) := by rfl) :
    DEX X Vx (.Call (.Attribute a m apos) (e :: es) [] pos) (dMethXP C ns n S Tp Tl) := pe_imp (pe_methG (pl := pl) ho cl hm Fn hr hb (passAt tk) ha hst hpl ht) fun σ H Q ⟨A, ρ, W, k, kx, s, t, c, cx⟩ => by
  refine ⟨A, ρ, W, _, s, t, fun i p d ⟨q0, q⟩ hp v0 vo H1 x1 hv nav => ?_⟩
  obtain ⟨Fc, rc⟩ := std_at s hp x1 hv nav
  split at q0
  · obtain ⟨rfl, rfl⟩ := q0
    obtain ⟨ad, dx, fs, G, rfl, had, hn, rl, _, _⟩ := rv_obj rc
    refine ⟨ad, dx, fs, rfl, had, lookup_none (by rw [hn]; simpa using hns), A, ρ, W, _, s.ext x1, q, fun ds ⟨q1, q2⟩ vs H2 F2 x2 n2 r2 => ?_⟩
    have x12 := ext_trans x1 x2
    have n2' := new_back x1 n2
    exact sp_io s c cx (s.grow x12 n2' r2.there) (r2.weak fun a z => z.elim (fun z => .inr (.inl z)) fun z => z.elim .inl fun z => .inr (.inr z)) ((Go.ext W x12).orNew n2') hv (nav_ext x2 nav) hp q1 q2
  · exact q0.elim
theorem dx_methP0 {ns : List Str} {pl : Sem Bool} (tk : Takes X Vx) (ho : DP X a Tp) (cl : Cls X.K C) (hm : Meth X.K C m f) (Fn : Fno X k f fd ps n S) (hr : RoomG k X.A) (hb : Binds X.K fd ps [])
    (hns : ns.contains m = false)
    (ht : eval (.Call (.Attribute a m apos) [] [] pos) X.env = (do
      let ov ← eval a X.env
      standAt apos.atName
      let (f, first) ← holding [ov] (getMethod ov m pl)
      callWith pos f first (backTo pos (starEach [] X.env)) (backToKw pos (keywordEach [] X.env))) := by rfl) :
    DEX X Vx (.Call (.Attribute a m apos) [] [] pos) (dMethXP C ns n S Tp dNil) := pe_imp (pe_methG0 (pl := pl) ho cl hm Fn hr hb (passAt tk) ht) fun σ H Q ⟨A, ρ, W, k, kx, s, t, c, cx⟩ => by
  refine ⟨A, ρ, W, _, s, t, fun i p d ⟨q0, q1, q2⟩ hp v0 vo H1 x1 hv nav => ?_⟩
  obtain ⟨Fc, rc⟩ := std_at s hp x1 hv nav
  split at q0
  · obtain ⟨rfl, rfl⟩ := q0
    obtain ⟨ad, dx, fs, G, rfl, had, hn, rl, _, _⟩ := rv_obj rc
    refine ⟨ad, dx, fs, rfl, had, lookup_none (by rw [hn]; simpa using hns), ?_⟩
    exact sp_io (F1 := fun _ => False) s c cx ((s.ext x1).weak fun a z => z.elim False.elim id) (.nil emF) ((Go.ext W x1).orEmp emF) hv nav hp q1 q2
  · exact q0.elim
/-- C(e, ..) -/
def dMakeX (C : Addr) (n : Nat) (S : DSp) (Tl : LT) : ETX := fun ρ k kx => Tl ρ fun ρ1 ds => ds.length + 1 = n ∧ S (.obj true C [] [] :: ds.map fz) (fun d ds' => d = .non ∧ match ds' with
    | self :: _ => k ρ1 self
    | [] => False) fun C l _ => kx C l ρ1
theorem make_step {σ : L2.St} {H H1 : Hp} {A W W1 F1 : AS} {ρ ρ1 : DEnv} {k : DEnv → D → Prop} {kx : Value → List (Str × D) → DEnv → Prop} {Q : VK} {E : XK} {vs : List L2.V} {ds : List D} {K : PySem.W.Frag} (s : Std K A H σ ρ W) (c : CK K A W H σ k Q) (cx : CKx K A W H σ kx E)
    (s1 : Std K (Or2 F1 A) H1 σ ρ1 W1) (r1 : RVs K H1 (Or2 W1 (Or2 F1 A)) vs ds F1) (g1 : Go W (Or2 W1 F1) H H1) (q1 : ds.length + 1 = n) (q : S (.obj true C [] [] :: ds.map fz) (fun d ds' => d = .non ∧ match ds' with
    | self :: _ => k ρ1 self
    | [] => False) fun C l _ => kx C l ρ1) (x dx : Addr) (hx : H1 x = none) (hdx : H1 dx = none) (ne : dx ≠ x) :
    spD K n S (.ref x :: vs) (upd (upd H1 dx (.own x)) x (.ins C dx [])) (fun v H2 => v = .non ∧ Q (.ref x) H2) E := by
  have djf : Dj F1 A := dj_FA s.dj s.am g1
  have x1 : Ext H1 (upd (upd H1 dx (.own x)) x (.ins C dx [])) := fun a o h => by
    rw [upd_ne (ne_of_none h hx), upd_ne (ne_of_none h hdx)]; exact h
  have rf : RVs K H1 (Or2 W1 A) vs (ds.map fz) (fun _ => False) := r1.fz fun a z => by
    rcases z with z | z
    · exact ⟨.inl z, fun y => s1.dj a z (.inl y)⟩
    · exact ⟨.inr (.inr z), fun y => djf a y z⟩
  have s1' : Std K A H1 σ ρ1 W1 := s1.weak fun a z => .inr z
  have nx : ∀ a, Or2 W1 A a → a ≠ x := fun a z e => by
    subst e
    exact z.elim (fun z => mut_ne (s1.wm a z) hx) fun z => mut_ne (s1'.am a z) hx
  refine ⟨by have := rvs_length r1; simp; omega, Or2 W1 A, fun a => a = x, .obj true C [] [] :: ds.map fz, _, _, ⟨.so (.obj1 (F := fun _ => False) upd_same rfl (.nil emF) (fun z => z) fun b => ⟨.inl, fun z => z.elim id False.elim⟩) (rf.ext x1 (X' := Or2 (fun a => a = x) (Or2 W1 A)) fun a z => ?_).re (fun _ _ z => z) fun b => ⟨.inl, fun z => z.elim id False.elim⟩, fun a z y => nx a y z, fun a z => ext_mut x1 (z.elim (s1.wm a) (s1'.am a))⟩, q,
    fun d ds' ⟨hd, kd⟩ v H' W' F s' r' g => ?_, fun C' l ds' z H' W' o s' g' x' => ?_⟩
  · rcases z with z | z
    · subst z; exact .inr hx
    · exact .inl z
  · subst hd
    refine ⟨rv_non r', ?_⟩
    cases ds' with
    | nil => exact kd.elim
    | cons self ds'' =>
      have em : Emp F := rv_fz r' rfl
      cases s'.re with
      | @so _ _ _ _ G0 Gr _ rv0 rer djr ur =>
        have gn : ∀ a, G0 a → H1 a = none := fun a z => by
          rcases g.new a (.inl ((ur a).mpr (.inl z))) with z | z
          · subst z; exact hx
          · exact new_back (F := fun a => (upd (upd H1 dx (HO.own x)) x (HO.ins C dx [])) a = none) x1 (fun _ z => z) a z
        have x2 : Ext H1 H' := fun a o h => g.keep a o (x1 a o h) (ne_of_none h hx)
        refine c ρ1 self kd (.ref x) H' W1 G0 (s1'.grow x2 gn rv0.there) (rv0.weak fun a z => ?_) ⟨(g1.left.trans (Go.ext W1 x2)).keep, fun a z => z.elim (fun z => g1.new a (.inl z)) fun z => g1.left.old (gn a z) s.wm⟩
        rcases z with z | z | z
        · exact .inr (.inr (.inl z))
        · exact .inl ((ur a).mpr (.inl z))
        · exact .inr (.inr (.inr z))
  · have x2 : Ext H1 H' := fun a o h => g'.keep a o (x1 a o h) (ne_of_none h hx)
    exact cx C' l ρ1 z H' W1 o (s1'.ext x2) (g1.left.trans (Go.ext W1 x2)) (x'.weak fun _ z => .inr z)
theorem dx_make (tk : Takes X Vx) (M : Mk X.K C f) (Fn : Fno X k f fd ps n S) (hr : RoomG (k + 1) X.A) (hg : Gl X x) (hm : X.mg x = some (.ref C)) (hb : Binds X.K fd ps []) (ha : DL X (e :: es) Tl)
    (hdb : (x == ("__debug__" : Str)) = false := by decide) (he : starEach (e :: es) X.env = (false, eval e X.env) :: starEach es X.env := by rfl) (hpl : (backTo pos (starEach es X.env)).any (·.1) = false := by rfl) :
    DEX X Vx (.Call (.Name x p) (e :: es) [] pos) (dMakeX C n S Tl) := pe_imp (pe_makeG M Fn hr hg hm hb (passAt tk) ha hdb he hpl) fun σ H Q ⟨A, ρ, W, k, kx, s, t, c, cx⟩ =>
  ⟨A, ρ, W, _, s, t, fun ρ1 ds ⟨q1, q3⟩ vs H1 W1 F1 s1 r1 g1 x dx hx hdx ne => make_step s c cx s1 r1 g1 q1 q3 x dx hx hdx ne⟩
theorem dx_make0 (tk : Takes X Vx) (M : Mk X.K C f) (Fn : Fno X k f fd ps n S) (hr : RoomG (k + 1) X.A) (hg : Gl X x) (hm : X.mg x = some (.ref C)) (hb : Binds X.K fd ps [])
    (hdb : (x == ("__debug__" : Str)) = false := by decide) : DEX X Vx (.Call (.Name x p) [] [] pos) (dMakeX C n S dNil) := pe_imp (pe_makeG0 M Fn hr hg hm hb (passAt tk) hdb) fun σ H Q ⟨A, ρ, W, k, kx, s, ⟨q1, q3⟩, c, cx⟩ x dx hx hdx ne =>
  make_step (F1 := fun _ => False) (ds := []) s c cx (s.weak fun a z => z.elim False.elim id) (.nil emF) ((Go.refl W H).orEmp emF) q1 q3 x dx hx hdx ne
end
end Dl
/-! DL21: statements that may raise; raise; try. -/
namespace Dl
open PySem PySem.Spec L2
section
variable {X : Cx} {E : WX} {P : List Nat} {e a : Expr} {es : List Expr} {T : ETX} {Te : ET} {pos spos : Pos}
/-! ### one expression that may raise -/
def dRetX (T : ETX) : DSt := fun k ρ => T ρ k.rt k.ex
theorem ds_retX (he : DEX X E e T) : DS X E P (.Return (some e) pos) (dRetX T) := ps_imp (ps_ret he) fun D σ H ⟨A, ρ, W, k, s, t, ok⟩ =>
  ⟨A, ρ, W, _, _, s, t, fun ρ' d q v H' W' F s' r g => ok.rt ρ' d q σ v H' W' F s' r g (Pin.refl P σ), fun C l ρ' q H' W' o s' g x => ok.ex ρ' C l q σ H' W' o s' g (Pin.refl P σ) x⟩
def dDropX (T : ETX) : DSt := fun k ρ => T ρ (fun ρ1 _ => k.nx ρ1) k.ex
theorem ds_exprX (he : DEX X E e T) (hs : swapsWith e none pos.line X.env = pure false := by rfl) : DS X E P (.Expr e pos) (dDropX T) := ps_imp (ps_expr he hs) fun D σ H ⟨A, ρ, W, k, s, t, ok⟩ =>
  ⟨A, ρ, W, _, _, s, t, fun ρ' d q v H' W' F s' r g => ok.nx ρ' q σ H' W' (s'.weak fun a z => .inr z) g.left (Pin.refl P σ), fun C l ρ' q H' W' o s' g x => ok.ex ρ' C l q σ H' W' o s' g (Pin.refl P σ) x⟩
def dSetX (i : Nat) (T : ETX) : DSt := fun k ρ => T ρ (fun ρ1 d => i < ρ1.length ∧ k.nx (ρ1.set i (some d))) k.ex
theorem ds_setX {i : Nat} {x : Str} {pos' : Pos} (hp : i ∉ P) (hN : X.N.Nodup) (hi : X.N[i]? = some x) (hx : Loc X.env.scope x) (he : DEX X E e T) (hs : swapsWith e (some (.Name x pos')) pos.line X.env = pure false := by rfl) (hf : X.fn x = true ∨ X.env.scope.names.lookup x = some .local := by first | exact .inl rfl | exact .inr rfl | assumption) :
    DS X E P (.Assign [.Name x pos'] e pos) (dSetX i T) := ps_imp (ps_set hN hi hx he hs hf) fun D σ H ⟨A, ρ, W, k, s, t, ok⟩ =>
  ⟨A, ρ, W, _, _, s, t, fun ρ1 d ⟨hl, q⟩ v H1 W1 F s1 r1 g1 => set_step hp s.dj s.am ok hl q s1 r1 g1, fun C l ρ' q H' W' o s' g x => ok.ex ρ' C l q σ H' W' o s' g (Pin.refl P σ) x⟩
/-- a field of what may raise -/
def dFldX (C : Addr) (ns : List Str) (j : Nat) (T : ETX) : ETX := fun ρ k kx => T ρ (fun ρ1 d => oFld C ns j d fun x => match isFz x with
  | true => k ρ1 x
  | false => False) kx
theorem dx_fld {f : Str} {C : Addr} {ns : List Str} {j : Nat} (cl : Cls X.K C) (na : NoAttr X.K C f) (hj : ixOf ns f = j) (he : DEX X E e T) (hb : attributeBase e f X.env (eval e X.env) = eval e X.env) : DEX X E (.Attribute e f pos) (dFldX C ns j T) :=
  pe_imp (pe_fld he hb) fun σ H Q ⟨A, ρ, W, k, kx, s, t, c, cx⟩ => ⟨A, ρ, W, _, kx, s, t, fun ρ1 d q v H1 W1 F s1 r1 g1 => fld_rv cl na hj r1 q fun x v' F' q' r _ => by
    cases z : isFz x with
    | false => rw [z] at q'; exact q'.elim
    | true =>
      rw [z] at q'
      have djf := dj_FA s.dj s.am g1
      refine c ρ1 x q' v' H1 W1 (fun _ => False) (s1.weak fun a z => z.elim False.elim .inr) ((rv_emp r (rv_fz r z)).weak fun a z => z.elim .inl fun z => z.elim False.elim fun z => .inr (.inr z)) (g1.left.orEmp emF), cx⟩
/-- argument lists that may raise -/
abbrev LTX := DEnv → (DEnv → List D → Prop) → (Value → List (Str × D) → DEnv → Prop) → Prop
def tLX (K : PySem.W.Frag) (Vx : WX) (T : LTX) : TA := fun σ H Q => ∃ (A : AS) (ρ : DEnv) (W : AS) (k : DEnv → List D → Prop) (kx : Value → List (Str × D) → DEnv → Prop), Std K A H σ ρ W ∧ T ρ k kx ∧
  (∀ ρ' ds, k ρ' ds → ∀ (vs : List V) (H' : Hp) (W' F : AS), Std K (Or2 F A) H' σ ρ' W' → RVs K H' (Or2 W' (Or2 F A)) vs ds F → Go W (Or2 W' F) H H' → Q vs H') ∧
  (∀ C l ρ', kx C l ρ' → ∀ (H' : Hp) (W' : AS) (o : Option Addr), Std K A H' σ ρ' W' → Go W W' H H' → ExcAt K H' (Or2 W' A) l o → Vx C o σ H')
def DLX (X : Cx) (Vx : WX) (es : List Expr) (T : LTX) : Prop := PA X es (tLX X.K Vx T)
theorem dlx_nil : DLX X E [] (fun ρ k _ => k ρ []) := pa_imp pa_nil fun σ H Q ⟨A, ρ, W, k, kx, s, t, c, _⟩ => c ρ [] t [] H W (fun _ => False) (s.weak fun a y => y.elim False.elim id) (.nil emF) ((Go.refl W H).orEmp emF)
def dConsX (Ta : ETX) (Tl : LTX) : LTX := fun ρ k kx => Ta ρ (fun ρ1 x => Tl ρ1 (fun ρ2 xs => k ρ2 (x :: xs)) kx) kx
theorem dlx_cons {Ta : ETX} {Tl : LTX} (ha : DEX X E e Ta) (hr : DLX X E es Tl) (hs : starEach (e :: es) X.env = (false, eval e X.env) :: starEach es X.env := by rfl) : DLX X E (e :: es) (dConsX Ta Tl) := pa_imp (pa_cons ha hr hs) fun σ H Q ⟨A, ρ, W, k, kx, s, t, c, cx⟩ => by
  refine ⟨A, ρ, W, _, kx, s, t, fun ρ1 d1 t1 v1 H1 W1 F1 s1 r1 g1 => ⟨Or2 F1 A, ρ1, W1, _, kx, s1, t1, fun ρ2 ds t2 vs H2 W2 F2 s2 r2 g2 => ?_, fun C l ρ' q H' W' o s' g x => cx C l ρ' q H' W' o (s'.weak fun a z => .inr z) (g1.left.trans g) (x.weak fun a z => z.imp id .inr)⟩, cx⟩
  have f1m : ∀ a, F1 a → Mut (H1 a) := fun a z => s1.am a (.inl z)
  have nf : ∀ a, F1 a → ¬ W1 a := fun a z y => s1.dj a y (.inl z)
  have r1' := r1.later (g2.later (A := Or2 F1 A) s1.wm) nf
  have q : ∀ a, Or2 W2 (Or2 (Or2 F1 F2) A) a → Or2 W2 (Or2 F2 (Or2 F1 A)) a := fun a z => by
    rcases z with z | (z | z) | z
    · exact .inl z
    · exact .inr (.inr (.inl z))
    · exact .inr (.inl z)
    · exact .inr (.inr (.inr z))
  refine c ρ2 _ t2 (v1 :: vs) H2 W2 (Or2 F1 F2) (s2.weak fun a z => ?_) (.cons (r1'.weak fun a z => ?_) (r2.weak q) (fun a z y => ?_) fun _ => Iff.rfl) ⟨(g1.left.trans g2.left).keep, fun a z => ?_⟩
  · exact z.elim (fun z => z.elim (fun z => .inr (.inl z)) .inl) fun z => .inr (.inr z)
  · rcases z with z | (z | z) | z
    · exact .inl (.inl z)
    · exact .inr (.inl z)
    · exact .inl (.inr z)
    · exact .inr (.inr z)
  · rcases g2.new a (.inr y) with w | w
    · exact nf a z w
    · exact mut_ne (f1m a z) w
  · rcases z with z | z | z
    · exact (g1.left.trans g2.left).new a z
    · exact g1.new a (.inr z)
    · rcases g2.new a (.inr z) with z | z
      · exact g1.left.new a z
      · exact g1.left.old z s.wm
def dTupX (Tl : LTX) : ETX := fun ρ k kx => Tl ρ (fun ρ1 ds => ds.length ≤ sizeLine ∧ k ρ1 (.tup (ds.map fz))) kx
theorem dx_tup {x1} {Tl : LTX} (h : DLX X E es Tl) : DEX X E (.Tuple es x1 pos) (dTupX Tl) := pe_imp (pe_tupZ h) fun σ H Q ⟨A, ρ, W, k, kx, s, t, c, cx⟩ => by
  refine ⟨A, ρ, W, _, kx, s, t, fun ρ1 ds ⟨hz, q⟩ vs H1 W1 F s1 r g => ⟨by rw [rvs_length r]; exact hz, fun p o hp hd => ?_⟩, cx⟩
  have ext := ext_upd (o := HO.frz o (.tup vs)) hp
  have djf : Dj F A := dj_FA s.dj s.am g
  refine c ρ1 _ q _ _ W1 (fun _ => False) ((s1.ext ext).weak fun a z => z.elim False.elim .inr) (.tup ⟨o, upd_same, hd⟩ ((r.fz (Y' := Or2 W1 (Or2 (fun _ => False) A)) fun a z => ?_).ext ext fun a z => .inl z) emF) ((g.left.trans (Go.ext W1 ext)).orEmp emF)
  rcases z with z | z | z
  · exact ⟨.inl z, fun y => s1.dj a z (.inl y)⟩
  · exact z.elim
  · exact ⟨.inr (.inr z), fun y => djf a y z⟩

/-! ### raise -/
/-- X() -/
theorem pmk_own0 {C : Addr} {bmB : List Value} {B newId initId : String} {x : Str} {p : Pos} (F : ExcBaseFacts B newId initId bmB) (q : PySem.W.excIn X.K C bmB newId = true) (gC : X.mg x = some (.ref C)) (kC : PySem.W.keepIn X.K (.ref C) = true) (r : Raises X (.ref C)) (hg : Gl X x)
    (hdb : (x == ("__debug__" : Str)) = false := by decide) : PMk X (.Call (.Name x p) [] [] pos) (fun _ H Q => Q (.ref C) none H) := by
  intro pins s σ H Q I h
  refine wpAny_Call_Name_kw (ld_glob I hg gC ?_ hdb)
  refine PySem.W.callWith_K0 I.kIn kC ?_
  show wpAny _ _ (call (.ref C) []) _ _ _
  obtain ⟨bm, N, nm, qn, bs, hdct, sn, sub, ab, col, dd, k0, k1, k2, k3, k5, mN, hC, hN, hni, T⟩ := exc_obj I.kIn q
  refine wpAny_call_exc_subT F T hC hN hni (fun h' e hm => ?_) (by show 0 ≤ sizeLine; omega)
  exact mk_of I hm r h (I.hok.gone hm.new)
def dRaise (C : Value) : DSt := fun k ρ => k.ex C [] ρ
theorem ds_raise0 {C : Addr} {bmB : List Value} {B newId initId : String} {x : Str} {p : Pos} (tk : Takes X E) (hc : X.calm = true) (F : ExcBaseFacts B newId initId bmB) (q : PySem.W.excIn X.K C bmB newId = true) (gC : X.mg x = some (.ref C)) (kC : PySem.W.keepIn X.K (.ref C) = true) (r : Raises X (.ref C)) (hg : Gl X x)
    (hdb : (x == ("__debug__" : Str)) = false := by decide) : DS X E P (.Raise (some (.Call (.Name x p) [] [] pos)) none spos) (dRaise (.ref C)) := ps_imp (ps_raise hc tk (pmk_own0 F q gC kC r hg hdb)) fun D σ H ⟨A, ρ, W, k, s, t, ok⟩ =>
  ok.ex ρ (.ref C) [] t σ H W none s (Go.refl W H) (Pin.refl P σ) rfl

/-! ### try -/
theorem Std.clear {K : PySem.W.Frag} {A W : AS} {H : Hp} {σ : L2.St} {ρ : DEnv} (s : Std K A H σ ρ W) (i : Nat) : ∃ W', Std K A H (σ.set i none) (ρ.set i none) W' ∧ ∀ a, W' a → W a := by
  obtain ⟨F', h1, h2⟩ := s.re.none_at i
  exact ⟨F', ⟨h1.ext (fun _ _ z => z) fun a z => .inl (z.imp (h2 a) id), fun a z y => s.dj a (h2 a z) y, s.am⟩, h2⟩
/-- the exception at a, as a value -/
def excD (a : Addr) (o : Option Addr) (l : List (Str × D)) : D := .exc a o (l.map (·.1)) (l.map (·.2))
theorem rv_exc {K : PySem.W.Frag} {H : Hp} {Y : AS} {a : Addr} {l : List (Str × D)} {o : Option Addr} (hY : ∀ b, Y b → Mut (H b)) (x : ExcAt K H Y l o) : RV K H Y (.ref a) (excD a o l) (fun _ => False) := by
  cases o with
  | none =>
    cases (show l = [] from x)
    exact .exc0 emF
  | some dx =>
    obtain ⟨_, fs, h1, h2, h3⟩ := x
    exact .exc1 h1 (fun z => by have m := hY dx z; rw [h1] at m; exact m) h2 h3 emF
theorem Std.setExc {K : PySem.W.Frag} {A W : AS} {H : Hp} {σ : L2.St} {ρ : DEnv} (s : Std K A H σ ρ W) {i : Nat} (hi : i < ρ.length) {a : Addr} {l : List (Str × D)} {o : Option Addr} (x : ExcAt K H (Or2 W A) l o) :
    ∃ W', Std K A H (σ.set i (some (.ref a))) (ρ.set i (some (excD a o l))) W' ∧ ∀ a, W' a → W a := by
  have s' : Std K (Or2 (fun _ => False) A) H σ ρ W := s.weak fun a z => z.elim False.elim id
  have r := rv_exc (a := a) (fun b z => z.elim (s.wm b) (s.am b)) x
  obtain ⟨W', h1, h2⟩ := s'.set (r.weak fun a z => z.imp id fun z => z.elim False.elim id) hi fun _ z => z.elim
  exact ⟨W', h1, fun a z => (h2 a z).elim id False.elim⟩
/-- what the suite's context says of the exception at a -/
def Suite (X Y : Cx) (a : Addr) (cls : Value) (d : Option Addr) : Prop := ∃ oe pn, Y = X.suite a ((a, oe) :: pn) ∧ Zc cls d oe ∧ ∃ vs, oe.data = .fields vs
/-- try: .. except c as n: ..; Ts: the suite, by the exception's address, its class, its dict -/
def dTryAs (sub : Value → Value → Option Bool) (c : Value) (i : Nat) (T : DSt) (Ts : Addr → Value → Option Addr → DSt) : DSt := fun k ρ => T { k with ex := fun C l ρ' => match sub C c with
  | some true => i < ρ'.length ∧ ∀ a o, (l = [] → o = none) → Ts a C o { k with nx := fun ρ2 => k.nx (ρ2.set i none), bk := fun ρ2 => k.bk (ρ2.set i none), ct := fun ρ2 => k.ct (ρ2.set i none), ex := fun _ _ _ => False } (ρ'.set i (some (excD a o l)))
  | some false => k.ex C l ρ'
  | none => False } ρ
theorem ds_tryAs {x n : Str} {c : Value} {i : Nat} {body suite : List Stmt} {b₀ : Stmt} {np pos' : Pos} {T : DSt} {Ts : Addr → Value → Option Addr → DSt} {sub : Value → Value → Option Bool} (hp : i ∉ P) (hs : X.stack = X.env :: X.outer) (hf : X.env.frame = some X.env.locals) (hN : X.N.Nodup) (hi : X.N[i]? = some n) (hln : X.env.kindOf n = some .local) (hc : Names X x c) (tk : Takes X E)
    (hsub : ∀ C b, sub C c = some b → PySem.W.exmOne X.K C c = some b)
    (hb : ∀ (Vx : WX) (pn : List (Addr × Obj)) (xe : Value → Shared → Prop), Takes (X.tr pn xe) Vx → PassesOwn (model X.prog X.w) X.A X.env xe → DSs (X.tr pn xe) Vx P body T)
    (hsu : ∀ (Y : Cx) (a : Addr) (cls : Value) (d : Option Addr), Suite X Y a cls d → DSs Y noX P (b₀ :: suite) (Ts a cls d)) :
    DS X E P (.Try body [.ExceptHandler (some (.Name x np)) (some n) (b₀ :: suite) pos'] [] [] pos) (dTryAs sub c i T Ts) :=
  ps_imp (ps_try_as (Wout := E) (tb := fun Vx => tS X.K Vx P T) (ts := fun a cls d => tS X.K noX P (Ts a cls d)) hs hf hN hi hln hc tk (fun Vx pn xe h1 h2 => hb Vx pn xe h1 h2) fun a oe cls d pn hz hv => hsu _ a cls d ⟨oe, pn, rfl, hz, hv⟩) fun D σ H ⟨A, ρ, W, k, s, t, ok⟩ => by
    refine ⟨A, ρ, W, _, s, t, ⟨ok.nx, ok.rt, ok.bk, ok.ct, fun ρ' C l q σ' H' W' o s' g p x => ?_⟩⟩
    dsimp only at q
    cases e : sub C c with
    | none => rw [e] at q; exact q.elim
    | some b =>
      rw [e] at q
      refine ⟨b, hsub C b e, fun hb a ha => ?_, fun hb => ?_⟩
      · subst hb
        obtain ⟨hl, q⟩ := q
        obtain ⟨W2, s2, h2⟩ := s'.setExc hl (a := a) x
        have p2 : Pin P σ (σ'.set i (some (.ref a))) := p.trans (Pin.set hp)
        have g2 : Go W W2 H H' := ⟨g.keep, fun b z => g.new b (h2 b z)⟩
        have after : ∀ {σ1 : L2.St} {ρ1 : DEnv} {H1 : Hp} {W1 : AS}, Std X.K A H1 σ1 ρ1 W1 → Go W2 W1 H' H1 → Pin P (σ'.set i (some (.ref a))) σ1 → ∃ W3, Std X.K A H1 (σ1.set i none) (ρ1.set i none) W3 ∧ Go W W3 H H1 ∧ Pin P σ (σ1.set i none) := fun {σ1 ρ1 H1 W1} s1 g1 p1 => by
          obtain ⟨W3, s3, h3⟩ := s1.clear i
          have g3 := g2.trans g1
          exact ⟨W3, s3, ⟨g3.keep, fun b z => g3.new b (h3 b z)⟩, (p2.trans p1).trans (Pin.set hp)⟩
        refine ⟨A, _, W2, _, s2, q a o (x.nil), ⟨fun ρ1 q1 σ1 H1 W1 s1 g1 p1 => ?_, fun ρ1 d q1 σ1 v H1 W1 F s1 r1 g1 p1 => ok.rt ρ1 d q1 σ1 v H1 W1 F s1 r1 (g2.trans g1) (p2.trans p1), fun ρ1 q1 σ1 H1 W1 s1 g1 p1 => ?_, fun ρ1 q1 σ1 H1 W1 s1 g1 p1 => ?_, fun ρ1 C1 l1 q1 => q1.elim⟩⟩
        · obtain ⟨W3, s3, g3, p3⟩ := after s1 g1 p1
          exact ok.nx _ q1 _ H1 W3 s3 g3 p3
        · obtain ⟨W3, s3, g3, p3⟩ := after s1 g1 p1
          exact ok.bk _ q1 _ H1 W3 s3 g3 p3
        · obtain ⟨W3, s3, g3, p3⟩ := after s1 g1 p1
          exact ok.ct _ q1 _ H1 W3 s3 g3 p3
      · subst hb
        exact ok.ex ρ' C l q σ' H' W' o s' g p x
/-- try: .. except c1: .. except c2: .. -/
def dManyX (sub : Value → Value → Option Bool) (k : DEnds) : List (Value × DSt) → Value → List (Str × D) → DEnv → Prop
  | [] => k.ex
  | (c, T) :: r => fun C l ρ' => match sub C c with
    | some true => T { k with ex := fun _ _ _ => False } ρ'
    | some false => dManyX sub k r C l ρ'
    | none => False
def dTryMany (sub : Value → Value → Option Bool) (T : DSt) (cs : List (Value × DSt)) : DSt := fun k ρ => T { k with ex := dManyX sub k cs } ρ
end
end Dl
/-! DL22: several names at once, chains of comparisons, fields stored. -/
namespace Dl
open PySem PySem.Spec L2
section
variable {X : Cx} {E : WX} {P : List Nat} {a b c e o : Expr} {Ta Tb Tc Te : ET} {Tl : LT} {pos spos : Pos} {K : PySem.W.Frag}
/-! ### a, b = x, y -/
theorem Std.set2 {A W F G R : AS} {H : Hp} {σ : L2.St} {ρ : DEnv} {i j : Nat} {u v : V} {d e : D} (s : Std K (Or2 R A) H σ ρ W) (ru : RV K H (Or2 W (Or2 R A)) u d F) (rv : RV K H (Or2 W (Or2 R A)) v e G) (dj : Dj F G) (un : Un2 F G R) (hi : i < ρ.length) (hj : j < ρ.length) (djA : Dj R A) :
    ∃ W', Std K A H ((σ.set i (some u)).set j (some v)) ((ρ.set i (some d)).set j (some e)) W' ∧ ∀ a, W' a → W a ∨ R a := by
  have rF : ∀ a, F a → R a := fun a z => (un a).mpr (.inl z)
  have rG : ∀ a, G a → R a := fun a z => (un a).mpr (.inr z)
  have s1 : Std K (Or2 F (Or2 G A)) H σ ρ W := s.weak fun a z => by
    rcases z with z | z | z
    · exact .inl (rF a z)
    · exact .inl (rG a z)
    · exact .inr z
  have w1 : ∀ a, Or2 W (Or2 F (Or2 G A)) a → Or2 W (Or2 R A) a := fun a z => by
    rcases z with z | z | z | z
    · exact .inl z
    · exact .inr (.inl (rF a z))
    · exact .inr (.inl (rG a z))
    · exact .inr (.inr z)
  obtain ⟨W1, s2, h2⟩ := s1.set (ru.weak w1) hi fun a z y => y.elim (dj a z) (djA a (rF a z))
  have rv2 : RV K H (Or2 W1 (Or2 G A)) v e G := rv.weak fun a z => by
    rcases z with z | z | z
    · exact (h2 a z).elim .inl fun z => .inr (.inl (rF a z))
    · exact .inr (.inl (rG a z))
    · exact .inr (.inr z)
  obtain ⟨W2, s3, h3⟩ := s2.set rv2 (by rw [List.length_set]; exact hj) fun a z => djA a (rG a z)
  exact ⟨W2, s3, fun a z => (h3 a z).elim (fun z => (h2 a z).imp id (rF a)) fun z => .inr (rG a z)⟩
def dPar (i j : Nat) (Tl : LT) : DSt := fun k ρ => Tl ρ fun ρ1 ds => match ds with
  | [d, e] => i < ρ1.length ∧ j < ρ1.length ∧ k.nx ((ρ1.set i (some d)).set j (some e))
  | _ => False
theorem ds_par {i j : Nat} {x y : Str} {px py pt : Pos} {kt k2 pt2} (hpi : i ∉ P) (hpj : j ∉ P) (hc : X.calm = true) (hN : X.N.Nodup) (hi : X.N[i]? = some x) (hj : X.N[j]? = some y) (hij : i ≠ j)
    (hx : X.env.scope.names.lookup x = some .local) (hy : X.env.scope.names.lookup y = some .local) (ha : DL X [a, b] Tl)
    (hw : swappedStores [.Tuple [.Name x px, .Name y py] kt pt] (.Tuple [a, b] k2 pt2) X.env = pure (some [x, y]))
    (hs : swapsWithSole [.Tuple [.Name x px, .Name y py] kt pt] (.Tuple [a, b] k2 pt2) pos.line X.env = pure false := by rfl) :
    DS X E P (.Assign [.Tuple [.Name x px, .Name y py] kt pt] (.Tuple [a, b] k2 pt2) pos) (dPar i j Tl) := ps_imp (ps_par hc hN hi hj hij hx hy ha hw hs) fun D σ H ⟨A, ρ, W, k, s, t, ok⟩ => by
  refine ⟨A, ρ, W, _, s, t, fun ρ1 ds q vs H1 W1 F s1 r1 g1 => ?_⟩
  split at q
  · obtain ⟨li, lj, q⟩ := q
    cases r1 with
    | cons ra r1 dj1 u1 => cases r1 with
      | cons rb r1 dj2 u2 => cases r1 with
        | nil eG =>
          have djA := dj_FA s.dj s.am g1
          obtain ⟨W2, s2, h2⟩ := s1.set2 ra rb (fun a z y => dj1 a z ((u2 a).mpr (.inl y))) (fun a => ⟨fun z => ((u1 a).mp z).imp id fun z => ((u2 a).mp z).elim id fun z => (eG a z).elim, fun z => (u1 a).mpr (z.imp id fun z => (u2 a).mpr (.inl z))⟩) li lj djA
          exact ⟨_, _, rfl, ok.nx _ q _ H1 W2 s2 ⟨g1.keep, fun a z => g1.new a (h2 a z)⟩ ((Pin.set hpi).trans (Pin.set hpj))⟩
  · exact q.elim
def dPar3 (i j l : Nat) (Tl : LT) : DSt := fun k ρ => Tl ρ fun ρ1 ds => match ds with
  | [d, e, f] => i < ρ1.length ∧ j < ρ1.length ∧ l < ρ1.length ∧ k.nx (((ρ1.set i (some d)).set j (some e)).set l (some f))
  | _ => False
theorem ds_par3 {i j l : Nat} {x y z : Str} {px py pz pt : Pos} {kt k2 pt2} (hpi : i ∉ P) (hpj : j ∉ P) (hpl : l ∉ P) (hc : X.calm = true) (hN : X.N.Nodup) (hi : X.N[i]? = some x) (hj : X.N[j]? = some y) (hl : X.N[l]? = some z) (hij : i ≠ j) (hil : i ≠ l) (hjl : j ≠ l)
    (hx : X.env.scope.names.lookup x = some .local) (hy : X.env.scope.names.lookup y = some .local) (hz : X.env.scope.names.lookup z = some .local) (ha : DL X [a, b, c] Tl)
    (hw : swappedStores [.Tuple [.Name x px, .Name y py, .Name z pz] kt pt] (.Tuple [a, b, c] k2 pt2) X.env = pure (some [x, y, z]))
    (hs : swapsWithSole [.Tuple [.Name x px, .Name y py, .Name z pz] kt pt] (.Tuple [a, b, c] k2 pt2) pos.line X.env = pure false := by rfl) :
    DS X E P (.Assign [.Tuple [.Name x px, .Name y py, .Name z pz] kt pt] (.Tuple [a, b, c] k2 pt2) pos) (dPar3 i j l Tl) := ps_imp (ps_par3 hc hN hi hj hl hij hil hjl hx hy hz ha hw hs) fun D σ H ⟨A, ρ, W, k, s, t, ok⟩ => by
  refine ⟨A, ρ, W, _, s, t, fun ρ1 ds q vs H1 W1 F s1 r1 g1 => ?_⟩
  split at q
  · obtain ⟨li, lj, ll, q⟩ := q
    cases r1 with
    | @cons _ _ _ _ F1 G1 _ ra r1 dj1 u1 => cases r1 with
      | @cons _ _ _ _ F2 G2 _ rb r1 dj2 u2 => cases r1 with
        | @cons _ _ _ _ F3 G3 _ rc r1 dj3 u3 => cases r1 with
          | nil eG =>
            have djA := dj_FA s.dj s.am g1
            have f1 : ∀ a, F1 a → F a := fun a z => (u1 a).mpr (.inl z)
            have f2 : ∀ a, F2 a → F a := fun a z => (u1 a).mpr (.inr ((u2 a).mpr (.inl z)))
            have f3 : ∀ a, F3 a → F a := fun a z => (u1 a).mpr (.inr ((u2 a).mpr (.inr ((u3 a).mpr (.inl z)))))
            have d12 : Dj F1 F2 := fun a z y => dj1 a z ((u2 a).mpr (.inl y))
            have d13 : Dj F1 F3 := fun a z y => dj1 a z ((u2 a).mpr (.inr ((u3 a).mpr (.inl y))))
            have d23 : Dj F2 F3 := fun a z y => dj2 a z ((u3 a).mpr (.inl y))
            let R := Or2 F1 F2
            have sR : Std X.K (Or2 R (Or2 F3 A)) H1 σ ρ1 W1 := s1.weak fun a z => by
              rcases z with (z | z) | z | z
              · exact .inl (f1 a z)
              · exact .inl (f2 a z)
              · exact .inl (f3 a z)
              · exact .inr z
            have wR : ∀ a, Or2 W1 (Or2 R (Or2 F3 A)) a → Or2 W1 (Or2 F A) a := fun a z => by
              rcases z with z | (z | z) | z | z
              · exact .inl z
              · exact .inr (.inl (f1 a z))
              · exact .inr (.inl (f2 a z))
              · exact .inr (.inl (f3 a z))
              · exact .inr (.inr z)
            obtain ⟨W2, s2, h2⟩ := sR.set2 (i := i) (j := j) (ra.weak wR) (rb.weak wR) d12 (fun a => Iff.rfl) li lj fun a z y => by
              rcases y with y | y
              · exact z.elim (fun z => d13 a z y) fun z => d23 a z y
              · exact djA a (z.elim (f1 a) (f2 a)) y
            have rc2 : RV X.K H1 (Or2 W2 (Or2 F3 A)) _ _ F3 := rc.weak fun a z => by
              rcases z with z | z | z
              · exact (h2 a z).elim .inl fun z => .inr (.inl (z.elim (f1 a) (f2 a)))
              · exact .inr (.inl (f3 a z))
              · exact .inr (.inr z)
            obtain ⟨W3, s3, h3⟩ := s2.set (i := l) rc2 (by rw [List.length_set, List.length_set]; exact ll) fun a z => djA a (f3 a z)
            refine ⟨_, _, _, rfl, ok.nx _ q _ H1 W3 s3 ⟨g1.keep, fun a z => g1.new a ?_⟩ (((Pin.set hpi).trans (Pin.set hpj)).trans (Pin.set hpl))⟩
            rcases h3 a z with z | z
            · exact (h2 a z).imp id fun z => z.elim (f1 a) (f2 a)
            · exact .inr (f3 a z)
  · exact q.elim

/-! ### a op b op' c -/
def dChain (f f' : D → D → (D → Prop) → Prop) (Ta Tb Tc : ET) : ET := fun ρ k => Ta ρ fun ρ1 x => Tb ρ1 fun ρ2 y => f x y fun z => match z with
  | .bl true => Tc ρ2 fun ρ3 w => f' y w (k ρ3)
  | .bl false => k ρ2 (.bl false)
  | _ => False
theorem chain_q {r r' : R2} {f f' : D → D → (D → Prop) → Prop} (hr : R2D K r f) (hr' : R2D K r' f') (σ : L2.St) (H : Hp) (Q : VK) (h : tN K (dChain f f' Ta Tb Tc) σ H Q) : tChain r r' (tQ K Ta) (tQ K Tb) (tQ K Tc) σ H Q := by
  obtain ⟨A, ρ, W, k, s, t, c⟩ := h
  refine ⟨A, ρ, W, _, s, t, fun d1 t1 v1 H1 F1 x1 r1 => ⟨A, ρ, W, _, s.ext x1, t1, fun d2 t2 v2 H2 F2 x2 r2 => ?_⟩⟩
  refine hr H2 _ v1 v2 d1 d2 F1 F2 _ _ (r1.ext x2 fun a z => .inl z) r2 t2 fun d3 v3 H3 F3 kd x3 n3 r3 => ?_
  have x12 := ext_trans x1 x2
  have x13 := ext_trans x12 x3
  cases d3 with
  | bl b =>
    refine ⟨b, rv_bl r3, ?_⟩
    cases b with
    | true =>
      rw [if_pos rfl]
      refine ⟨A, ρ, W, _, s.ext x13, kd, fun d4 t4 v4 H4 F4 x4 r4 => ?_⟩
      exact hr' H4 _ v2 v4 d2 d4 F2 F4 (k ρ) Q (r2.ext (ext_trans x3 x4) fun a z => .inl z) r4 t4 fun d5 v5 H5 F5 kd5 x5 n5 r5 => c d5 kd5 v5 H5 F5 (ext_trans (ext_trans x13 x4) x5) (new_back (ext_trans x13 x4) n5) r5
    | false =>
      rw [if_neg Bool.false_ne_true]
      exact c _ kd _ H3 (fun _ => False) x13 (fun _ z => z.elim) rv_b
  | _ => exact kd.elim
theorem dn_chain {op op' : CmpOp} {r r' : R2} {f f' : D → D → (D → Prop) → Prop} (ho : OpR X (compareOp op) r) (ho' : OpR X (compareOp op') r') (hr : R2D X.K r f) (hr' : R2D X.K r' f') (ha : DQ X a Ta) (hb : DQ X b Tb) (hc : DQ X c Tc)
    (hm : lastMarks [op, op'] [b, c] = false := by with_unfolding_all rfl) : DN X (.Compare a [op, op'] [b, c] pos) (dChain f f' Ta Tb Tc) := pe_imp (pe_chain ho ho' ha hb hc hm) (chain_q hr hr')
theorem dtn_chain {op op' : CmpOp} {r r' : R2} {f f' : D → D → (D → Prop) → Prop} (ho : OpR X (compareOp op) r) (ho' : OpR X (compareOp op') r') (hr : R2D X.K r f) (hr' : R2D X.K r' f') (ha : DQ X a Ta) (hb : DQ X b Tb) (hc : DQ X c Tc)
    (hm : lastMarks [op, op'] [b, c] = false := by with_unfolding_all rfl) : DTN X (.Compare a [op, op'] [b, c] pos) (dTest (dChain f f' Ta Tb Tc)) :=
  pt_imp (pt_chain ho ho' ha hb hc hm) fun σ H Q h => chain_q hr hr' σ H _ (testN_imp σ H Q h)

/-! ### o.f = e -/
def pFld (C : Addr) (f : Str) (d e : D) (k : D → Prop) : Prop := match d with
  | .obj true C' ns l => C' = C ∧ ns.length < 1000 ∧ (match decide (f ∈ ns) with
    | true => k (.obj true C ns (l.set (ixOf ns f) e))
    | false => k (.obj true C (ns ++ [f]) (l ++ [e])))
  | _ => False
def sFldV (K : PySem.W.Frag) (C : Addr) (f : Str) : TSet := fun o i v H Q => ∃ a dx fs, o = .ref a ∧ H a = some (.ins C dx fs) ∧ fs.length < 1000 ∧ Q (upd H a (.ins C dx (putF f v fs)))
theorem putF_new {f : Str} {v : V} : ∀ {fs : List (Str × V)}, f ∉ fs.map (·.1) → putF f v fs = fs ++ [(f, v)]
  | [], _ => rfl
  | (g, x) :: r, h => by
    simp only [List.map_cons, List.mem_cons, not_or] at h
    rw [show putF f v ((g, x) :: r) = (if g = f then (g, v) :: r else (g, x) :: putF f v r) from rfl, if_neg fun z => h.1 z.symm, putF_new h.2]
    rfl
theorem putF_old {f : Str} {v : V} : ∀ {fs : List (Str × V)}, f ∈ fs.map (·.1) → (putF f v fs).map (·.1) = fs.map (·.1) ∧ (putF f v fs).map (·.2) = (fs.map (·.2)).set (ixOf (fs.map (·.1)) f) v ∧ ixOf (fs.map (·.1)) f < fs.length
  | [], h => by simp at h
  | (g, x) :: r, h => by
    rw [show putF f v ((g, x) :: r) = (if g = f then (g, v) :: r else (g, x) :: putF f v r) from rfl]
    by_cases e : g = f
    · rw [if_pos e]
      simp [ixOf, List.findIdx_cons, e]
    · rw [if_neg e]
      have h' : f ∈ r.map (·.1) := by
        simp only [List.map_cons, List.mem_cons] at h
        exact h.resolve_left fun z => e z.symm
      obtain ⟨h1, h2, h3⟩ := putF_old (v := v) h'
      refine ⟨by simp [h1], ?_, ?_⟩
      · simp only [ixOf, List.map_cons, List.findIdx_cons, e, decide_false, cond_false, List.set_cons_succ]
        rw [h2]; rfl
      · simp only [ixOf, List.map_cons, List.findIdx_cons, e, decide_false, cond_false, List.length_cons]
        have : ixOf (r.map (·.1)) f < r.length := h3
        unfold ixOf at this
        omega
theorem mut_ins {H : Hp} {a C dx : Addr} {vs : List (Str × V)} (h : H a = some (.ins C dx vs)) : Mut (H a) := by rw [h]; trivial
theorem sd_fld {C : Addr} {f : Str} : StD K (sFldV K C f) (fun d _ e k => pFld C f d e k) := fun H Y o d F i di Fi v e G k Q ro ri rv dj hF hG hm h c => by
  replace h : pFld C f d e k := h
  unfold pFld at h
  split at h
  · rename_i C' ns l
    obtain ⟨rfl, hl, h⟩ := h
    cases ro with
    | @obj1 a _ dx vs _ _ F0 _ ha hn rs nF add =>
      have af : F a := (add a).mpr (.inl rfl)
      have hlen : vs.length = ns.length := by rw [← hn, List.length_map]
      refine ⟨a, dx, vs, rfl, ha, by omega, ?_⟩
      split at h
      · rename_i hf
        have hf' : f ∈ vs.map (·.1) := by rw [hn]; exact of_decide_eq_true hf
        obtain ⟨p1, p2, p3⟩ := putF_old (v := v) hf'
        have hlv := rvs_length rs
        simp only [List.length_map] at hlv
        obtain ⟨R, rR, sR⟩ := rvs_set (n := ixOf ns f) rs (by rw [← hn]; omega) rv fun b z y => dj b ((add b).mpr (.inr y)) z
        have nR : ¬ R a := fun z => (sR a z).elim (dj a af) nF
        refine s_step (e := .obj true C' ns (l.set (ixOf ns f) e)) ha (mut_ins ha) af hF hG rR nR (fun b z => (sR b z).symm.imp (fun z => (add b).mpr (.inr z)) id) (fun H' Z hh r => ?_) h c
        exact .obj1 hh (p1.trans hn) (by rw [p2, hn]; exact r) nR fun _ => Iff.rfl
      · rename_i hf
        have hf' : f ∉ vs.map (·.1) := by rw [hn]; exact of_decide_eq_false hf
        rw [putF_new hf']
        have nN : ¬ Or2 F0 G a := fun z => z.elim nF (dj a af)
        refine s_step (e := .obj true C' (ns ++ [f]) (l ++ [e])) (ys := vs.map (·.2) ++ [v]) ha (mut_ins ha) af hF hG
          (rvs_append rs (.cons rv (.nil emF) (fun _ _ z => z) fun b => ⟨.inl, fun z => z.elim id False.elim⟩) fun b z y => dj b ((add b).mpr (.inr z)) y) nN (fun b z => z.imp (fun z => (add b).mpr (.inr z)) id) (fun H' Z hh r => ?_) h c
        exact .obj1 hh (by simp [hn]) (by simpa using r) nN fun _ => Iff.rfl
  · exact h.elim
def dFldPut (C : Addr) (f : Str) (Te : ET) (Tp : LvT) : DSt := fun k ρ => Te ρ fun ρ1 e => Tp ρ1 fun n p c => pFld C f c e fun c' => k.nx (putD ρ1 n p c')
theorem ds_fldPut {C : Addr} {f : Str} {Tp : LvT} {p' : Pos} (cl : Cls X.K C) (na : NoAttr X.K C f) (he : DE X e Te) (ho : DP X o Tp) (hs : swapsWith e (some (.Attribute o f p')) pos.line X.env = pure false := by rfl) :
    DS X E P (.Assign [.Attribute o f p'] e pos) (dFldPut C f Te Tp) := ps_imp (ps_fld ho he hs) fun D σ H ⟨A, ρ, W, k, s, t, ok⟩ => by
  refine ⟨A, ρ, W, _, s, t, fun ρ1 d t1 v H1 W1 F1 s1 r1 g1 => ?_⟩
  have djf := dj_FA s.dj s.am g1
  refine ⟨Or2 F1 A, ρ1, W1, _, s1, t1, fun n p c t2 hp v0 x H2 x2 hv nav => ?_⟩
  have s2 := s1.ext x2
  have nx : ∀ a, H2 a = none → H1 a = none := new_back (F := fun a => H2 a = none) x2 fun _ z => z
  obtain ⟨a, dx, fs, ex, ha, hl, q⟩ := st_core (sd_fld (C := C) (f := f)) s2 (r1.ext x2 fun a z => .inl z) djf (RV.non (F := fun _ => False) emF) hv nav hp t2 (Q := fun H' => D.nx σ H') fun d' q H' W' s' keep new => by
    refine ok.nx _ q σ H' W' s' ⟨fun a o h n => ?_, fun a z => ?_⟩ (Pin.refl P σ)
    · refine keep a o (x2 a o (g1.keep a o h n)) fun z => ?_
      rcases g1.new a (.inl z) with z | z
      · exact n z
      · rw [h] at z; cases z
    · rcases new a z with z | z | z
      · exact g1.new a (.inl z)
      · exact g1.new a (.inr z)
      · exact g1.left.old (nx a z) s.wm
  exact ⟨a, C, dx, fs, ex, ha, cl, na, hl, q⟩
end
end Dl
/-! DL23: len(set(..)), repr, index, count, [::-1], isinstance of an exception. -/
namespace Dl
open PySem PySem.Spec L2
section
variable {X : Cx} {K : PySem.W.Frag}

/-! ### len(set(t)), t a tuple of ints -/
def ddup : List Int → List Int
  | [] => []
  | x :: l => if x ∈ l then ddup l else x :: ddup l
theorem mem_ddup {x : Int} : ∀ {l : List Int}, x ∈ ddup l ↔ x ∈ l
  | [] => Iff.rfl
  | y :: l => by
    unfold ddup
    split
    · rename_i h
      rw [mem_ddup, List.mem_cons]
      exact ⟨.inr, fun z => z.elim (fun z => z ▸ h) id⟩
    · rw [List.mem_cons, List.mem_cons, mem_ddup]
theorem nodup_ddup : ∀ l : List Int, (ddup l).Nodup
  | [] => List.nodup_nil
  | y :: l => by
    unfold ddup
    split
    · exact nodup_ddup l
    · rename_i h
      exact List.nodup_cons.mpr ⟨fun z => h (mem_ddup.mp z), nodup_ddup l⟩
theorem length_ddup_le : ∀ l : List Int, (ddup l).length ≤ l.length
  | [] => Nat.le_refl _
  | y :: l => by
    unfold ddup
    have := length_ddup_le l
    split
    · rw [List.length_cons]; omega
    · rw [List.length_cons, List.length_cons]; omega
theorem length_ddup_iff : ∀ l : List Int, (ddup l).length = l.length ↔ l.Nodup
  | [] => by simp [ddup]
  | y :: l => by
    have h1 := length_ddup_le l
    have ih := length_ddup_iff l
    unfold ddup
    rw [List.nodup_cons]
    split
    · rename_i h
      exact ⟨fun z => by rw [List.length_cons] at z; omega, fun z => absurd h z.1⟩
    · rename_i h
      rw [List.length_cons, List.length_cons]
      exact ⟨fun z => ⟨h, ih.mp (by omega)⟩, fun z => by rw [ih.mpr z.2]⟩
theorem nodup_same {α : Type} [DecidableEq α] : ∀ {l m : List α}, l.Nodup → m.Nodup → (∀ x, x ∈ l ↔ x ∈ m) → l.length = m.length
  | l, m, h1, h2, e => ((List.perm_ext_iff_of_nodup h1 h2).mpr e).length_eq
/-- the ints of some data -/
def intsD : List D → Option (List Int)
  | [] => some []
  | .int i :: l => (intsD l).map (i :: ·)
  | _ :: _ => none
theorem ints_rv {H : Hp} {Y F : AS} : ∀ {l : List D} {vs : List V} {ns : List Int}, RVs K H Y vs l F → intsD l = some ns → vs = ns.map V.int
  | [], vs, ns, r, h => by cases r; cases h; rfl
  | d :: l, vs, ns, r, h => by
    cases r with
    | cons r1 r2 _ _ =>
      cases d with
      | int i =>
        simp only [intsD, Option.map_eq_some_iff] at h
        obtain ⟨ns', h1, rfl⟩ := h
        rw [rv_int r1, ints_rv r2 h1]; rfl
      | _ => cases h
theorem intsD_map : ∀ ns : List Int, intsD (ns.map D.int) = some ns
  | [] => rfl
  | n :: ns => by simp [intsD, intsD_map ns]
def oLenSet (d : D) (k : D → Prop) : Prop := match d with
  | .tup l => (match intsD l with
    | some ns => ns.length ≤ 4000 ∧ k (.int ((ddup ns).length : Nat))
    | none => False)
  | _ => False
variable {Ta : ET}
theorem dn_lenSet {a : Expr} {p p2 q pos : Pos} (hc : X.calm = true) (hg : Gl X "len") (hm : X.mg "len" = none) (hg2 : Gl X "set") (hm2 : X.mg "set" = none) (ha : DQ X a Ta)
    (na : starEach [a] X.env = (false, eval a X.env) :: starEach [] X.env := by rfl) : DN X (.Call (.Name "len" p) [.Call (.Name "set" p2) [a] [] q] [] pos) (dOp1 oLenSet Ta) := by
  refine ⟨fun pins s σ H Q I ⟨A, ρ, W, k, st, t, c⟩ => ?_⟩
  refine PyProof.Rows.Call_ (ld_blt I hg hm PySem.boot_len ?_)
  refine PyProof.Rows.callWith_builtin1 (PyProof.Rows.args_cons ?_ rfl) rfl rfl
  refine PyProof.Rows.Call_ (ld_blt I hg2 hm2 PyProof.Rows.boot_set ?_)
  refine PyProof.Rows.callWith_type1 (PyProof.Rows.args_cons (thn (ha.run pins s σ H (fun v H' => ∃ d F, Ext H H' ∧ RV X.K H' (Or2 W A) v d F ∧ oLenSet d (k ρ)) I ⟨A, ρ, W, _, st, t, fun d q v H' F e r => ⟨d, F, e, r, q⟩⟩) fun v s1 ⟨x, H1, I1, r1, d, F, e1, rx, q1⟩ => PyProof.Rows.args_nil ?_) na) na rfl
  unfold oLenSet at q1
  split at q1
  · split at q1
    · rename_i ns hns
      obtain ⟨h4, q1⟩ := q1
      obtain ⟨a, us, rfl, ha, rl, _⟩ := rv_tup rx
      cases r1
      have hus := ints_rv rl hns
      subst hus
      obtain ⟨its, r, pl, hz⟩ := I1.tuple ha.sq
      refine call_set_tupI ns (I1.ok.hd hc) pl (by simpa using ints_of_vals r) (by unfold scanBound; omega) fun h' tk cc hS hle hk => PyProof.Rows.args_nil ?_
      have I2 : Inv X pins σ H1 { s1 with heap := h', toks := tk } := I1.kept fun b o e => hk b o e
      obtain ⟨o, es, ep, t, ho, hex, hd, hg, hnd, hmem, _, hf, hn, _⟩ := hS
      have hlen : es.size = (ddup ns).length := by
        rw [← Array.length_toList, ← List.length_map (f := keyOf)]
        refine nodup_same hnd (nodup_ddup ns) fun x => ?_
        rw [mem_ddup, ← hmem x]
        simp
      refine call_len_set ho hex hd hf (by rw [hn]; have := hle; omega) ⟨.int ((ddup ns).length : Nat), H1, I2.tok _, ⟨_, by rw [hlen]⟩, ?_⟩
      exact c _ q1 _ H1 (fun _ => False) e1 (fun _ z => z.elim) (.int emF)
    · exact q1.elim
  · exact q1.elim

/-! ### repr -/
def toR (d : D) : Option PyData := match d with
  | .dct _ [] => some (.dict [])
  | _ => toP d
def oRepr (ds : List D) (k : D → Prop) : Prop := a1 ds fun d => match toR d with
  | some p => p.showable = true ∧ p.depth ≤ 64 ∧ p.shown.length ≤ sizeLine ∧ k (.str p.shown)
  | none => False
def rRepr (K : PySem.W.Frag) : List V → Hp → VK → Prop := fun xs H Q => ∃ x p, xs = [x] ∧ (Dp K H x p ∨ (p = .dict [] ∧ ∃ a, x = .ref a ∧ H a = some (.dK []))) ∧ p.showable = true ∧ p.depth ≤ 64 ∧ p.shown.length ≤ sizeLine ∧ Q (.str p.shown) H
theorem dp_noDict {H : Hp} {v : V} {p : PyData} (h : Dp K H v p) : p.hasDict = false := by
  induction h using Dp.rec (motive_2 := fun vs ps _ => PyData.hasDictAll ps = false) with
  | non => simp [PyData.hasDict]
  | bl b => simp [PyData.hasDict]
  | int i => simp [PyData.hasDict]
  | str x => simp [PyData.hasDict]
  | lst _ _ ih => simpa [PyData.hasDict] using ih
  | tup _ _ ih => simpa [PyData.hasDict] using ih
  | nil => simp [PyData.hasDictAll]
  | cons _ _ i1 i2 => simp [PyData.hasDictAll, i1, i2]
theorem cr_repr {k : Nat} (hr : RoomG k X.A) : CallR X (.builtin "repr") (rRepr X.K) := by
  intro pins s σ H xs us Q I r h
  obtain ⟨x, p, rfl, hd, hs, hdp, hz, q⟩ := h
  obtain ⟨u, rfl, rx⟩ := vals1 r
  have hun := hr.room.un
  have ref : ∀ (a : Addr) (as : List Addr), u = .ref a → Reads s.heap (.ref a) p as → (p.hasDict = true → sysModules ∉ as) → wpAny (model X.prog X.w) X.A (call (.builtin "repr") [u]) (EP X pins σ Q) X.xe s := fun a as e rd hsm => by
    subst e
    exact repr_of_reads' rd hs hsm hr.gs (by omega) (fun _ _ z => z) (fun h' t tk hk => ⟨.str p.shown, H, I.kept (t' := tk) fun b o z => hk b o z, ⟨_, rfl⟩, q⟩) hz
  rcases hd with hd | ⟨rfl, a, rfl, ha⟩
  · obtain ⟨as, rd⟩ := Dp.reads I p x u hd rx
    have nd := dp_noDict hd
    cases hd with
    | non => cases rx; exact PySem.P.repr_of_none ⟨.str _, H, I.tok _, ⟨_, rfl⟩, q⟩
    | bl b => cases rx; exact PySem.P.repr_of_bool ⟨.str _, H, I.tok _, ⟨_, rfl⟩, by cases b <;> exact q⟩
    | int i => obtain ⟨t, rfl⟩ := rx; exact PySem.P.repr_of_int (by simpa [PyData.showable] using hs) ⟨.str _, H, I.tok _, ⟨_, rfl⟩, by simpa [PyData.shown] using q⟩
    | str z => obtain ⟨t, rfl⟩ := rx; exact PySem.P.repr_of_str ⟨.str _, H, I.tok _, ⟨_, rfl⟩, by simpa [PyData.shown] using q⟩ (by simpa [PyData.shown] using hz)
    | lst _ _ => cases rx; exact ref _ as rfl rd fun z => by rw [nd] at z; cases z
    | tup _ _ => cases rx; exact ref _ as rfl rd fun z => by rw [nd] at z; cases z
  · cases rx
    obtain ⟨_, hsys, vs, kv, dd⟩ := dk_of I.hok ha
    cases kv
    obtain ⟨o, es, ep, ho, hex, hda, _, hl, _⟩ := dd
    have hes : es.toList = [] := by
      cases hq : es.toList with
      | nil => rfl
      | cons e l => rw [hq] at hl; cases hl
    have : Reads s.heap (.ref a) (.dict []) (a :: [] ++ []) := Reads.dict ho hex.1 hda (by rw [hes]; exact .nil) (by rw [hes]; exact .nil)
    refine ref a _ rfl this fun _ => ?_
    simpa using fun z : sysModules = a => by rw [z] at hsys; simp at hsys
theorem rl_repr : RLD K (rRepr K) oRepr := fun H Y vs ds k Q r h c => by
  replace h := a1_get h
  obtain ⟨d, rfl, h⟩ := h
  obtain ⟨v, F, rfl, rv⟩ := rvv1 r
  split at h
  · rename_i p hp
    obtain ⟨h1, h3, h4, h5⟩ := h
    refine ⟨v, p, rfl, ?_, h1, h3, h4, r_plain h5 (fun _ => .str emF) c⟩
    unfold toR at hp
    split at hp
    · cases hp
      obtain ⟨a, us, G, rfl, ha, hk, _⟩ := rv_dct rv
      have : us = [] := by simpa using hk
      subst this
      exact .inr ⟨rfl, a, rfl, ha⟩
    · exact .inl (dp_of rv p hp)
  · exact h.elim
end
end Dl
/-! DL24: [::-1]; index, count; isinstance of an exception; dict comprehensions. -/
namespace Dl
open PySem PySem.Spec L2
section
variable {prog : Program} {w : World} {A : Around} {E : Value → Shared → Prop} {s : Shared}
open PyProof.Rows in
theorem sliceApplied_rev {sl : Addr} {t : Tok} {n : Nat} {Q : Int × Int × Nat → Shared → Prop} (hs : s.heap.IsSliceOf sl .none .none (.int (-1) t)) (h : Q (((n : Nat) : Int) - 1, -1, n) s) :
    wpAny (model prog w) A (Builtin.Slice.sliceApplied (.ref sl) (pure (n : Int))) Q E s := by
  obtain ⟨os, hos, hcs, hds⟩ := id hs
  unfold Builtin.Slice.sliceApplied Builtin.Slice.sliceFields
  refine wpAny_bind (wpAny_bind (wpAny_field hos hds (x := .none) rfl (wpAny_bind (wpAny_field hos hds (x := .none) rfl (wpAny_bind (wpAny_field hos hds (x := .int (-1) t) rfl (wpAny_pure ?_)))))))
  refine wpAny_bind (slicePart_int ?_)
  show wpAny _ _ (if ((-1 : Int) == 0) = true then _ else _) _ _ s
  rw [if_neg (by decide)]
  refine wpAny_bind (slicePart_none (wpAny_bind (slicePart_none (wpAny_bind (wpAny_pure ?_)))))
  show wpAny _ _ (match Builtin.Slice.sliceAdjust none none (-1) (n : Int) with | (lo, hi) => pure (lo, (-1 : Int), Builtin.Slice.slicePlaces lo hi (-1))) _ _ s
  have e : Builtin.Slice.sliceAdjust none none (-1) (n : Int) = ((n : Int) - 1, -1) := rfl
  have e2 : Builtin.Slice.slicePlaces ((n : Int) - 1) (-1) (-1) = n := by
    unfold Builtin.Slice.slicePlaces
    rw [if_neg (by decide)]
    split
    · have : ((n : Int) - 1 - -1 - 1) / - -1 + 1 = (n : Int) := by
        rw [show (- -1 : Int) = 1 by decide, Int.ediv_one]; omega
      rw [this]; rfl
    · omega
  rw [e]
  show wpAny _ _ (pure ((n : Int) - 1, (-1 : Int), Builtin.Slice.slicePlaces ((n : Int) - 1) (-1) (-1))) _ _ s
  rw [e2]
  exact wpAny_pure h
theorem filterMap_cong {α β : Type} {f g : α → Option β} : ∀ {l : List α}, (∀ x ∈ l, f x = g x) → l.filterMap f = l.filterMap g
  | [], _ => rfl
  | x :: l, h => by rw [List.filterMap_cons, List.filterMap_cons, h x (by simp), filterMap_cong fun y hy => h y (List.mem_cons_of_mem _ hy)]
theorem pick_rev (xs : Array Value) : ((List.range xs.size).filterMap fun (m : Nat) => xs[(((xs.size : Nat) : Int) - 1 + (m : Int) * -1).toNat]?).toArray = xs.toList.reverse.toArray := by
  have h := PySem.W.krv_all xs.toList.reverse.toArray
  simp only [List.size_toArray, List.length_reverse, Array.length_toList] at h
  congr 1
  rw [← h]
  refine filterMap_cong fun m hm => ?_
  have hm' := List.mem_range.mp hm
  have e : (((xs.size : Nat) : Int) - 1 + (m : Int) * -1).toNat = xs.size - 1 - m := by omega
  rw [e]
  have e3 : xs.toList.reverse.toArray[m]? = xs.toList.reverse[m]? := by simp only [List.getElem?_toArray]
  rw [e3, List.getElem?_reverse (by simpa using hm')]
  simp
open PyProof.Rows in
theorem getItem_tuple_rev {t sl : Addr} {items : Array Value} {tk : Tok} {Q : Value → Shared → Prop} (ht : IsTup s.heap t items) (hs : s.heap.IsSliceOf sl .none .none (.int (-1) tk))
    (h : Q (.ref s.heap.objs.size) { s with heap := s.heap.push { cls := .type "tuple", data := .seq items.toList.reverse.toArray } })
    (hsz : items.size ≤ sizeLine) : wpAny (model prog w) A (getItem (.ref t) (.ref sl)) Q E s := by
  have htake : sizeOk (.seq items.toList.reverse.toArray) := by
    show items.toList.reverse.toArray.size ≤ sizeLine
    rw [List.size_toArray, List.length_reverse, Array.length_toList]
    exact hsz
  obtain ⟨os, hos, hcs, hds⟩ := id hs
  have hTs : s.TypeIs (.ref sl) "slice" := ⟨os, hos, hcs⟩
  unfold getItem
  try with_reducible refine wpAny_holding ?_
  first | refine wpAny_bind (wpAny_pure ?_) | skip
  refine wpAny_bind (wpAny_sequenceKey ht.typeIs (by decide) ?_)
  refine wpAny_bind (wpAny_callSpecial?_slot (name := Str.ofString "__getitem__") ht.typeIs PyProof.Rows.slot_tuple_getitem
    (wpAny_call_entry PyProof.Rows.slot_tuple_getitem ht.typeIs entry_tuple_getitem ?_ (args_tuple_getitem _ _)))
  show wpAny _ _ (Builtin.Tuple.tupleItemsOf (.ref t) >>= _) _ _ s
  refine wpAny_bind (tupleItemsOf_ ht ?_)
  refine wpAny_bind (wpAny_typeOf hTs ?_)
  rw [if_pos (by decide)]
  refine wpAny_bind (sliceApplied_rev hs ?_)
  have hno : ¬ (((((items.size : Nat) : Int) - 1) == 0 && (-1 : Int) == 1 && items.size == items.size) = true) := by
    intro q
    rw [Bool.and_eq_true, Bool.and_eq_true] at q
    exact absurd q.1.2 (by decide)
  show wpAny _ _ (if ((((items.size : Nat) : Int) - 1) == 0 && (-1 : Int) == 1 && items.size == items.size) = true then _ else _) _ _ s
  rw [if_neg hno, pick_rev]
  first
    | exact wpAny_bind (m := Builtin.Tuple.tupleExact _) (wpAny_newObj_type (wpAny_pure ⟨_, rfl, wpAny_pure h⟩) htake)
    | exact wpAny_bind (m := Builtin.Tuple.tupleExact _) (wpAny_newObj_type (wpAny_bind (wpAny_pure (wpAny_pure ⟨_, rfl, wpAny_pure h⟩))) htake)
    | exact wpAny_bind (wpAny_bind (m := Builtin.Tuple.tupleExact _) (wpAny_newObj_type (wpAny_pure (wpAny_pure ⟨_, rfl, wpAny_pure h⟩)) htake))
    | exact wpAny_bind (wpAny_bind (m := Builtin.Tuple.tupleExact _) (wpAny_newObj_type (wpAny_pure ⟨_, rfl, wpAny_pure h⟩) htake))
end
section
variable {X : Cx} {K : PySem.W.Frag} {e : Expr} {te : TE} {T : ET} {pos : Pos}
def tRevT (K : PySem.W.Frag) (te : TE) : TE := fun σ H Q => te σ H fun x H1 => ∃ a xs, x = .ref a ∧ ((SqL K H1 a xs ∧ ∀ p, H1 p = none → Q (.ref p) (upd H1 p (.lst xs.reverse))) ∨ (SqT K H1 a xs ∧ NewT Q H1 xs.reverse))
open PyProof.Rows in
theorem pe_rev {k : Nat} {p1 p2 p3 : Pos} (he : PE X e te) : PE X (.Subscript e (.Slice none none (some (.UnaryOp .USub (.Constant (.int 1) k p1) p2)) p3) pos) (tRevT X.K te) := by
  refine ⟨fun pins s σ H Q I h => ?_⟩
  refine Subscript_ (thn (he.run pins s σ H _ I h) fun v s1 ⟨x, H1, I1, r1, q1⟩ => ?_)
  obtain ⟨a, xs, ex, q⟩ := q1
  subst ex
  cases r1
  have hst : PO X (some (.UnaryOp .USub (.Constant (.int 1) k p1) p2)) (tPart (tUn (rU fun i => .int (-i)) (tC (.int 1)))) := po_some (pe_un un_neg pe_int)
  refine wpAny_Slice (thn (po_none.run pins s1 σ H1 (fun o H2 => o = none ∧ H2 = H1) I1 ⟨rfl, rfl⟩) fun vl s2 ⟨l, H2, I2, pl, el, e2⟩ => ?_)
  subst el e2
  refine thn (po_none.run pins s2 σ H2 (fun o H3 => o = none ∧ H3 = H2) I2 ⟨rfl, rfl⟩) fun vu s3 ⟨u, H3, I3, pu, eu, e3⟩ => ?_
  subst eu e3
  refine thn (hst.run pins s3 σ H3 (fun o H4 => o = some (-1) ∧ H4 = H3) I3 ⟨1, rfl, -1, rfl, rfl, rfl⟩) fun vs s4 ⟨o, H4, I4, ps, eo, e4⟩ => ?_
  subst eo e4
  have I5 : Inv X pins σ H4 { s4 with heap := s4.heap.push { cls := .type "slice", data := .fields #[vl, vu, vs] } } := I4.kept (t' := s4.toks) fun b ob q => Heap.get?_push_of_some _ q
  rcases q with ⟨hx, q⟩ | ⟨hx, q⟩
  · obtain ⟨its, r, ht, hz⟩ := I5.list hx
    have hlen := r.length
    show wpAny (model X.prog X.w) X.A (subscriptTail e (.Slice none none (some (.UnaryOp .USub (.Constant (.int 1) k p1) p2)) p3) (.ref a) (.ref s4.heap.objs.size)) (EP X pins σ Q) X.xe { s4 with heap := s4.heap.push { cls := .type "slice", data := .fields #[vl, vu, vs] } }
    refine tail_any (ops := [.ref a, .ref s4.heap.objs.size]) ht.isList.typeIs (PySem.slot_list_getitem.lookup) ?_ (by with_unfolding_all rfl)
    refine wpAny_getItem_list_slice ht.isList (Heap.IsSliceOf.new _ vl vu vs) pl pu ps (by decide) ?_ (by rw [List.size_toArray]; omega)
    rw [PySem.W.krv_pick]
    refine ⟨.ref _, _, I5.laid (t' := s4.toks) (o := .lst xs.reverse) (fun b ob q => Heap.get?_push_of_some _ q) (Nat.le_refl _) ?_, rfl, q _ (I5.hok.fresh (Nat.le_refl _))⟩
    exact ⟨by rw [List.length_reverse]; exact hz, _, 0, r.reverse, Heap.get?_push_size _ rfl⟩
  · obtain ⟨its, r, ht, hz⟩ := I5.tuple hx
    have hlen := r.length
    cases pl; cases pu
    cases ps with
    | int _ tk =>
      show wpAny (model X.prog X.w) X.A (subscriptTail e (.Slice none none (some (.UnaryOp .USub (.Constant (.int 1) k p1) p2)) p3) (.ref a) (.ref s4.heap.objs.size)) (EP X pins σ Q) X.xe { s4 with heap := s4.heap.push { cls := .type "slice", data := .fields #[.none, .none, .int (-1) tk] } }
      refine tail_any (ops := [.ref a, .ref s4.heap.objs.size]) ht.typeIs (PyProof.Rows.slot_tuple_getitem.lookup) ?_ (by with_unfolding_all rfl)
      refine getItem_tuple_rev ht (Heap.IsSliceOf.new _ _ _ _) ?_ (by rw [List.size_toArray]; omega)
      exact laidZ I5 r.reverse (by rw [List.length_reverse]; exact hz) q
def oRev (d : D) (k : D → Prop) : Prop := match d with
  | .tup l => k (.tup l.reverse)
  | .lst _ l => allFz l (k (.lst true l.reverse))
  | _ => False
theorem rvs_rev {H : Hp} {Y : AS} : ∀ {l : List D} {vs : List V}, RVs K H Y vs l (fun _ => False) → RVs K H Y vs.reverse l.reverse (fun _ => False)
  | [], vs, r => by cases r; exact .nil emF
  | d :: l, vs, r => by
    cases r with
    | cons r1 r2 _ un =>
      have e1 : ∀ a, ¬ _ := fun a z => (un a).mpr (.inl z)
      have r1' := rv_emp r1 e1
      have r2' := rvs_emp r2 fun a z => (un a).mpr (.inr z)
      rw [List.reverse_cons, List.reverse_cons]
      exact (rvs_append (rvs_rev r2') (.cons r1' (.nil emF) (fun _ z _ => z) fun _ => ⟨False.elim, fun z => z.elim id id⟩) fun _ z _ => z).congr fun a => ⟨fun z => z.elim id id, False.elim⟩
theorem dn_rev {k : Nat} {p1 p2 p3 : Pos} (he : DQ X e T) : DN X (.Subscript e (.Slice none none (some (.UnaryOp .USub (.Constant (.int 1) k p1) p2)) p3) pos) (dOp1 oRev T) := pe_imp (pe_rev he) fun σ H Q ⟨A, ρ, W, k, s, t, c⟩ => by
  refine ⟨A, ρ, W, _, s, t, fun d q v H1 F x1 r1 => ?_⟩
  have c' : ∀ d' v' H' F', k ρ d' → Ext H1 H' → (∀ a, F' a → H1 a = none) → RV X.K H' (Or2 F' (Or2 W A)) v' d' F' → Q v' H' := fun d' v' H' F' kd x n r => c d' kd v' H' F' (ext_trans x1 x) (new_back x1 n) r
  unfold oRev at q
  split at q
  · obtain ⟨a, us, rfl, ha, rl, em⟩ := rv_tup r1
    exact ⟨a, us, rfl, .inr ⟨ha.sq, fun p o hp hd => r_tup hp hd q (rvs_rev (rvs_emp rl em)) emF c'⟩⟩
  · obtain ⟨h1, h2⟩ := allFz_get q
    obtain ⟨a, us, rfl, ha, rl⟩ := lift_allFz r1 h1
    exact ⟨a, us, rfl, .inl ⟨.inl ha, fun p hp => r_lst hp h2 (rvs_rev rl) emF c'⟩⟩
  · exact q.elim
end
end Dl
/-! DL25: methods that only look: index, count, get, ..; isinstance of an exception. -/
namespace Dl
open PySem PySem.Spec L2
section
variable {X : Cx} {K : PySem.W.Frag}
/-- t.index(x) of a tuple: the first place of an equal one -/
def rIndexT (K : PySem.W.Frag) : V → List V → Hp → VK → Prop := fun x xs H Q => ∃ (a : Addr) (y : V) (d : PyData) (ds : List PyData) (vs : List V) (j : Nat) (z : PyData), x = V.ref a ∧ xs = [y] ∧ SqT K H a vs ∧ DpAll K H vs ds ∧ Dp K H y d ∧
  SeqAt.shaped (.list ds) = true ∧ SeqAt.shaped d = true ∧ ds[j]? = some z ∧ PyData.eqv z d = true ∧ (∀ (m : Nat) (z' : PyData), m < j → ds[m]? = some z' → PyData.eqv z' d = false) ∧ Q (.int (j : Nat)) H
open PyProof.Rows in
theorem mt_indexT (hu : X.A.units + 65 < cLine) : MtR X "tuple.index" (rIndexT X.K) := by
  intro pins s σ H x xs v us Q I rx rxs h
  obtain ⟨a, y, d, ds, ws, j, z, rfl, rfl, hs, ha, hy, sl, sd, hz, hzj, hno, q⟩ := h
  cases rx
  obtain ⟨uy, rfl, ry⟩ := vals1 rxs
  obtain ⟨bs, r1⟩ := Dp.reads I d y uy hy ry
  have hxs : PyData.canLayAll0 ds = true := SeqAt.canLay_of_shaped sl
  have hroom : X.A.units + 1 + min (PyData.depthAll ds) d.depth < cLine := room_in_shaped sd hu
  obtain ⟨its, rv, ⟨⟨cls, dd, data, sls⟩, ho, hc, n, hdt⟩, hlen⟩ := I.tuple hs
  simp only at hc hdt
  subst hc hdt
  obtain ⟨as, h4⟩ := Dp.readsAll I ds _ its ha rv
  have hn : its.length = ds.length := SeqAt.ReadsAll.length ds its as h4
  have hmap : its.map (SeqAt.readOf s.heap) = ds := SeqAt.readsAll_map ds its as hxs h4
  obtain ⟨hjd, _⟩ := List.getElem?_eq_some_iff.mp hz
  have hjl : j < its.length := by omega
  have hj : j < its.toArray.size := by simpa using hjl
  have at_ : ∀ (m : Nat) (hm : m < its.toArray.size) (z' : PyData), ds[m]? = some z' → SeqAt.readOf s.heap its.toArray[m] = z' := by
    intro m hm z' hz'
    have hml : m < its.length := by simpa using hm
    rw [← hmap, List.getElem?_map, List.getElem?_eq_getElem hml] at hz'
    have e1 : SeqAt.readOf s.heap its[m] = z' := Option.some.inj (show some (SeqAt.readOf s.heap its[m]) = some z' from hz')
    simpa using e1
  refine call_meets PySem.F.slot_tuple_index ⟨_, ho, rfl⟩ PySem.F.entry_tuple_index (PySem.F.args_tuple_index_2 _ _)
    (TI.tuple_indexAt a its.toArray n dd sls uy (fun u => PyData.eqv (SeqAt.readOf s.heap u) d) j hj ?_ ?_) ⟨ho, SeqAt.items_eqAt (vs := its.toArray) (show ReadsAll s.heap its.toArray.toList ds as from h4) r1 hxs (SeqAt.canLay_of_shaped sd) hroom, ?_⟩
  · show PyData.eqv (SeqAt.readOf s.heap its.toArray[j]) d = true
    rw [at_ j hj z hz]
    exact hzj
  · intro m hm hmj
    have hmd : m < ds.length := by omega
    have hz' : ds[m]? = some ds[m] := List.getElem?_eq_getElem hmd
    show PyData.eqv (SeqAt.readOf s.heap its.toArray[m]) d = false
    rw [at_ m hm _ hz']
    exact hno m _ hmj hz'
  · exact ⟨.int (j : Nat), H, I.tok _, ⟨_, rfl⟩, q⟩

/-! ### a method that only looks -/
/-- of which built-in type, for its methods -/
def tyZ (K : PySem.W.Frag) (T : String) (x : V) (H : Hp) : Prop := tyV K T x H ∨ (T = "tuple" ∧ ∃ a xs, x = .ref a ∧ TupZ H a xs)
theorem tyZ_is {pins : List (Addr × Obj)} {σ : L2.St} {H : Hp} {s : Shared} {T : String} {x : V} {v : Value} (I : Inv X pins σ H s) (r : RelV x v) (ty : tyZ X.K T x H) : s.TypeIs v T ∧ ∀ a, v = .ref a → ∃ ob, s.heap.get? a = some ob ∧ ob.dict = none := by
  rcases ty with ty | ⟨rfl, a, xs, rfl, o, h, hd⟩
  · exact tyV_is I r ty
  · cases r
    obtain ⟨e, z, its, rv, o', e', hc, n, hdt⟩ := (show ObjOk X.prog X.w H s.heap a (.frz o (.tup xs)) from I.hok a _ h)
    rw [e] at e'; cases e'
    exact ⟨⟨o, e, hc⟩, fun b hb => by cases hb; exact ⟨o, e, hd⟩⟩
/-- several ways, by the object's type -/
structure Way (X : Cx) (name : Str) (T id : String) (r : V → List V → Hp → VK → Prop) : Prop where
  pa : PlainAttrs T
  slot : Slot T name id
  hty : typeOf (.builtin id) = pure (.type "method_descriptor")
  hm : MtR X id r
variable {o e : Expr} {es : List Expr} {to : TE} {t : TA} {name : Str} {apos cpos : Pos} {T1 T2 i1 i2 : String} {r1 r2 : V → List V → Hp → VK → Prop}
def tWay2 (K : PySem.W.Frag) (T1 T2 : String) (r1 r2 : V → List V → Hp → VK → Prop) (to : TE) (t : TA) : TE := fun σ H Q => to σ H fun x H1 => (tyZ K T1 x H1 ∧ t σ H1 fun xs H2 => r1 x xs H2 Q) ∨ (tyZ K T2 x H1 ∧ t σ H1 fun xs H2 => r2 x xs H2 Q)
theorem pe_way2 (w1 : Way X name T1 i1 r1) (w2 : Way X name T2 i2 r2) (ho : PE X o to) (ha : PA X (e :: es) t)
    (hbase : attributeBase o name X.env (eval o X.env) = eval o X.env := by rfl)
    (hfew : ((backTo cpos (starEach (e :: es) X.env)).all (fun x => !x.1) && (backToKw cpos (keywordEach [] X.env)).all (fun x => x.1.isSome)
      && decide ((e :: es).length + ([] : List Keyword).length + (if ([] : List Keyword).isEmpty then 0 else 1) < 30)) = true := by rfl)
    (hline : (apos.endLine == cpos.line) = true := by rfl) (hs : starEach (e :: es) X.env = (false, eval e X.env) :: starEach es X.env := by rfl) (hplain : (backTo cpos (starEach es X.env)).any (·.1) = false := by rfl) :
    PE X (.Call (.Attribute o name apos) (e :: es) [] cpos) (tWay2 X.K T1 T2 r1 r2 to t) := by
  refine ⟨fun pins s σ H Q I h => ?_⟩
  refine PySem.wpAny_Call_method_late hbase hfew hline rfl (thn (ho.run pins s σ H _ I h) fun v s1 ⟨x, H1, I1, rx, q1⟩ => ?_)
  have go : ∀ {T id : String} {r : V → List V → Hp → VK → Prop}, Way X name T id r → tyZ X.K T x H1 → t σ H1 (fun xs H2 => r x xs H2 Q) → MethodOn X.prog X.w X.A name cpos v (backTo cpos (starEach (e :: es) X.env)) (EP X pins σ Q) X.xe s1 := fun {T id r} w ty q => by
    obtain ⟨h1, h2⟩ := tyZ_is I1 rx ty
    refine ⟨T, id, w.pa, w.slot, w.hty, h1, h2, ?_⟩
    have hA := ha.run cpos pins s1 σ H1 _ I1 q
    rw [hs] at hA ⊢
    refine Calls.callWith_builtin (by show (false || (backTo cpos (starEach es X.env)).any (·.1)) = false; rw [hplain] <;> rfl) (Calls.evalArgs_plain ?_)
    exact thn hA fun us s2 ⟨vs, H2, I2, r2, q2⟩ => w.hm pins s2 σ H2 x vs v us Q I2 rx r2 q2
  rcases q1 with ⟨ty, q⟩ | ⟨ty, q⟩
  · exact go w1 ty q
  · exact go w2 ty q

/-! ### index -/
def idxD (l : List D) (x : D) : Option Nat := match toPs l, toP x with
  | some ps, some p => if SeqAt.shaped (.list ps) = true ∧ SeqAt.shaped p = true then ps.findIdx? (fun z => PyData.eqv z p) else none
  | _, _ => none
theorem idxD_get {l : List D} {x : D} {n : Nat} (h : idxD l x = some n) : ∃ ps p z, toPs l = some ps ∧ toP x = some p ∧ SeqAt.shaped (.list ps) = true ∧ SeqAt.shaped p = true ∧ ps[n]? = some z ∧ PyData.eqv z p = true ∧ ∀ m z', m < n → ps[m]? = some z' → PyData.eqv z' p = false := by
  unfold idxD at h
  split at h
  · rename_i ps p h1 h2
    split at h
    · rename_i h3
      obtain ⟨hn, hz, hno⟩ := List.findIdx?_eq_some_iff_getElem.mp h
      refine ⟨ps, p, ps[n], h1, h2, h3.1, h3.2, List.getElem?_eq_getElem hn, by simpa using hz, fun m z' hm hz' => ?_⟩
      have := hno m hm
      obtain ⟨hm', e⟩ := List.getElem?_eq_some_iff.mp hz'
      rw [← e]
      simpa using this
    · cases h
  · cases h
def oIndex (d : D) (ds : List D) (k : D → Prop) : Prop := a1 ds fun x => match d with
  | .tup l => (match idxD l x with | some n => k (.int (n : Nat)) | none => False)
  | .lst _ l => (match idxD l x with | some n => k (.int (n : Nat)) | none => False)
  | _ => False
def isSeqD (d : D) : Bool := match d with
  | .tup _ => true
  | .lst _ _ => true
  | _ => false
def dMq (g : D → Bool) (f : D → List D → (D → Prop) → Prop) (T : ET) (Tl : LT) : ET := fun ρ k => T ρ fun ρ1 d => g d = true ∧ Tl ρ1 fun ρ2 ds => f d ds (k ρ2)
theorem dps_all {H : Hp} {Y F : AS} : ∀ {l : List D} {vs : List V} {ps : List PyData}, RVs K H Y vs l F → toPs l = some ps → DpAll K H vs ps
  | [], vs, ps, r, h => by cases r; simp [toPs] at h; subst h; exact .nil
  | d :: l, vs, ps, r, h => by
    cases r with
    | cons r1 r2 _ _ =>
      cases h1 : toP d with
      | none => simp [toPs, h1] at h
      | some p =>
        cases h2 : toPs l with
        | none => simp [toPs, h1, h2] at h
        | some qs =>
          simp [toPs, h1, h2] at h
          subst h
          exact .cons (dp_of r1 _ h1) (dps_all r2 h2)
theorem way_listIndex (hu : X.A.units + 65 < cLine) : Way X "index" "list" "list.index" (rIndexD X.K) := ⟨PySem.F.plainAttrs_list, PySem.F.slot_list_index, PySem.F.type_list_index, mt_indexD hu⟩
theorem way_tupIndex (hu : X.A.units + 65 < cLine) : Way X "index" "tuple" "tuple.index" (rIndexT X.K) := ⟨PySem.F.plainAttrs_tuple, PySem.F.slot_tuple_index, PySem.F.type_tuple_index, mt_indexT hu⟩
variable {T : ET} {Tl : LT}
theorem dn_index (hu : X.A.units + 65 < cLine) (ho : DQ X o T) (ha : DLQ X (e :: es) Tl) (hbase : attributeBase o "index" X.env (eval o X.env) = eval o X.env := by rfl)
    (hfew : ((backTo cpos (starEach (e :: es) X.env)).all (fun x => !x.1) && (backToKw cpos (keywordEach [] X.env)).all (fun x => x.1.isSome)
      && decide ((e :: es).length + ([] : List Keyword).length + (if ([] : List Keyword).isEmpty then 0 else 1) < 30)) = true := by rfl)
    (hline : (apos.endLine == cpos.line) = true := by rfl) (hs : starEach (e :: es) X.env = (false, eval e X.env) :: starEach es X.env := by rfl) (hplain : (backTo cpos (starEach es X.env)).any (·.1) = false := by rfl) :
    DN X (.Call (.Attribute o "index" apos) (e :: es) [] cpos) (dMq isSeqD oIndex T Tl) := pe_imp (pe_way2 (way_listIndex hu) (way_tupIndex hu) ho ha hbase hfew hline hs hplain) fun σ H Q ⟨A, ρ, W, k, s, t, c⟩ => by
  refine ⟨A, ρ, W, _, s, t, fun d ⟨ty, q⟩ v H1 F x1 r1 => ?_⟩
  cases d with
  | tup l =>
    obtain ⟨a, us, rfl, hz, rl, em⟩ := rv_tup r1
    refine .inr ⟨.inr ⟨rfl, a, us, rfl, hz⟩, A, ρ, W, _, s.ext x1, q, fun ds q2 vs H2 x2 r2 => ?_⟩
    obtain ⟨x, rfl, q4⟩ := a1_get q2
    clear q2
    obtain ⟨y, Fy, rfl, ry⟩ := rvv1 r2
    dsimp only at q4
    split at q4
    · rename_i n hn
      obtain ⟨ps, p, z, h1, h2, h3, h4, h5, h6, h7⟩ := idxD_get hn
      have r1' := r1.ext x2 (X' := Or2 W A) fun a z => .inl z
      obtain ⟨a', us', e', hz', rl', _⟩ := rv_tup r1'
      cases e'
      exact ⟨_, y, p, ps, us', n, z, rfl, rfl, hz'.sq, dps_all rl' h1, dp_of ry p h2, h3, h4, h5, h6, h7, c _ q4 _ H2 (fun _ => False) (ext_trans x1 x2) (fun _ z => z.elim) (.int emF)⟩
    · exact q4.elim
  | lst m l =>
    obtain ⟨a, us, G, rfl, hz, rl, _, _⟩ := rv_lst r1
    refine .inl ⟨.inl (.inl ⟨rfl, us, .inl hz⟩), A, ρ, W, _, s.ext x1, q, fun ds q2 vs H2 x2 r2 => ?_⟩
    obtain ⟨x, rfl, q4⟩ := a1_get q2
    clear q2
    obtain ⟨y, Fy, rfl, ry⟩ := rvv1 r2
    dsimp only at q4
    split at q4
    · rename_i n hn
      obtain ⟨ps, p, z, h1, h2, h3, h4, h5, h6, h7⟩ := idxD_get hn
      have r1' := r1.ext x2 (X' := Or2 W A) fun a z => .inl z
      exact ⟨a, y, p, ps, n, z, rfl, rfl, dp_of r1' (.list ps) (by simp [toP, h1]), dp_of ry p h2, h3, h4, h5, h6, h7, c _ q4 _ H2 (fun _ => False) (ext_trans x1 x2) (fun _ z => z.elim) (.int emF)⟩
    · exact q4.elim
  | _ => cases ty
end
end Dl
/-! DL26: isinstance of a suite's exception; dict comprehensions. -/
namespace Dl
open PySem PySem.Spec L2
section
variable {X Y : Cx}
/-- isinstance(e, c), e the exception that the suite holds, without attributes -/
def oIsE (sub : Value → Value → Option Bool) (a : Addr) (cls : Value) (d : Option Addr) (ds : List D) (k : D → Prop) : Prop := a2 ds fun x c => match x with
  | .exc a' o _ _ => a' = a ∧ o = d ∧ d = none ∧ (match c with
    | .ref C => (match sub cls (.ref C) with | some b => k (.bl b) | none => False)
    | .ty n => (match sub cls (.type n) with | some b => k (.bl b) | none => False)
    | _ => False)
  | _ => False
/-- what is known of classes -/
structure SubOk (K : PySem.W.Frag) (sub : Value → Value → Option Bool) : Prop where
  isi : ∀ cls c b, sub cls c = some b → ∃ D, cls = .ref D ∧ ExcC K D ∧ PySem.W.kitOne K cls c = some b
  exm : ∀ cls c b, sub cls c = some b → PySem.W.exmOne K cls c = some b
theorem dn_isE {sub : Value → Value → Option Bool} {a : Addr} {cls : Value} {d : Option Addr} {e : Expr} {es : List Expr} {Tl : LT} {p pos : Pos} (su : Suite X Y a cls d) (so : SubOk X.K sub) (hg : Gl Y "isinstance") (hm : Y.mg "isinstance" = none) (ha : DLQ Y (e :: es) Tl)
    (he : starEach (e :: es) Y.env = (false, eval e Y.env) :: starEach es Y.env := by rfl) (hpl : (backTo pos (starEach es Y.env)).any (·.1) = false := by rfl) :
    DN Y (.Call (.Name "isinstance" p) (e :: es) [] pos) (dOpL (oIsE sub a cls d) Tl) := by
  obtain ⟨oe, pn, rfl, hz, hv⟩ := su
  refine ⟨fun pins s σ H Q I h => ?_⟩
  obtain ⟨A, ρ, W, k, st, t, c⟩ := h
  cases cls with
  | ref D =>
    by_cases hC : ExcC X.K D
    · cases d with
      | some dx =>
        -- not covered here: the reading is false
        refine (pe_callB (id := "isinstance") (r := fun _ _ _ => False) (fun _ _ _ _ _ _ _ _ _ z => z.elim) hg hm PyProof.Rows.Boot.isinstance ha (by decide) (by decide) he hpl).run pins s σ H Q I ⟨A, ρ, W, _, st, t, fun ds q vs H1 x1 r1 => ?_⟩
        replace q := a2_get q; obtain ⟨x, y, rfl, q⟩ := q
        split at q
        · obtain ⟨_, _, z, _⟩ := q; cases z
        · exact q
      | none =>
        refine (pe_callB (call_isE hC hz hv) hg hm PyProof.Rows.Boot.isinstance ha (by decide) (by decide) he hpl).run pins s σ H Q I ⟨A, ρ, W, _, st, t, fun ds q vs H1 x1 r1 => ?_⟩
        replace q := a2_get q; obtain ⟨x, y, rfl, q⟩ := q
        obtain ⟨u, v, F, G, rfl, ru, rv⟩ := rvv2 r1
        split at q
        · obtain ⟨rfl, rfl, _, q⟩ := q
          cases ru with
          | exc0 eF =>
            split at q
            · rename_i C
              split at q
              · rename_i b hb
                obtain ⟨D', e', _, hk⟩ := so.isi _ _ _ hb
                exact ⟨_, .ref C, b, rfl, fun w r => by rw [rv_ref rv] at r; exact r, hk, c _ q _ H1 (fun _ => False) x1 (fun _ z => z.elim) (.bl emF)⟩
              · exact q.elim
            · rename_i n
              split at q
              · rename_i b hb
                obtain ⟨D', e', _, hk⟩ := so.isi _ _ _ hb
                exact ⟨_, .type n, b, rfl, fun w r => by rw [rv_ty rv] at r; exact r, hk, c _ q _ H1 (fun _ => False) x1 (fun _ z => z.elim) (.bl emF)⟩
              · exact q.elim
            · exact q.elim
        · exact q.elim
    · refine (pe_callB (id := "isinstance") (r := fun _ _ _ => False) (fun _ _ _ _ _ _ _ _ _ z => z.elim) hg hm PyProof.Rows.Boot.isinstance ha (by decide) (by decide) he hpl).run pins s σ H Q I ⟨A, ρ, W, _, st, t, fun ds q vs H1 x1 r1 => ?_⟩
      replace q := a2_get q; obtain ⟨x, y, rfl, q⟩ := q
      have no : ∀ cv b, sub (.ref D) cv = some b → False := fun cv b z => by
        obtain ⟨D', e', h1, _⟩ := so.isi _ _ _ z
        cases e'
        exact hC h1
      split at q
      · obtain ⟨_, _, _, q⟩ := q
        split at q
        · split at q
          · rename_i hb; exact no _ _ hb
          · exact q
        · split at q
          · rename_i hb; exact no _ _ hb
          · exact q
        · exact q
      · exact q
  | _ =>
    refine (pe_callB (id := "isinstance") (r := fun _ _ _ => False) (fun _ _ _ _ _ _ _ _ _ z => z.elim) hg hm PyProof.Rows.Boot.isinstance ha (by decide) (by decide) he hpl).run pins s σ H Q I ⟨A, ρ, W, _, st, t, fun ds q vs H1 x1 r1 => ?_⟩
    replace q := a2_get q; obtain ⟨x, y, rfl, q⟩ := q
    split at q
    · obtain ⟨_, _, _, q⟩ := q
      split at q
      · split at q
        · rename_i hb; obtain ⟨D', e', _⟩ := so.isi _ _ _ hb; cases e'
        · exact q
      · split at q
        · rename_i hb; obtain ⟨D', e', _⟩ := so.isi _ _ _ hb; cases e'
        · exact q
      · exact q
    · exact q
end
end Dl
/-! DL27: dict comprehensions, keys ints or texts, values not owned. -/
namespace Dl
open PySem PySem.Spec L2
def compDc (g : DTg) (tt : TTd) (tk tv : ET) (ρb : DEnv) (k : D → Prop) (ds : List D) : Prop := ∃ I : List (Key × D) → List D → Prop, I [] ds ∧
  (∀ acc d r, I acc (d :: r) → g d ρb fun ρ1 => tt ρ1 fun _ b => match b with
    | true => tk ρ1 fun _ y => tv ρ1 fun _ z => match keyD y with
      | some key => acc.length < sizeLine ∧ isFz z = true ∧ I (putKD acc key z) r
      | none => False
    | false => I acc r) ∧ ∀ acc, I acc [] → k (.dct true acc)
def dDc (I : DIt) (g : DTg) (tt : TTd) (tk tv : ET) (own : List Nat) : ET := fun ρ k => I ρ fun ρ1 ds => compDc g tt tk tv (wipeD ρ1 own) (k ρ1) ds
section
variable {X : Cx} {kx vx tg iter : Expr} {ifs : List Expr} {scope : Scope} {own : List (Str × Nat)} {pos : Pos} {I : DIt} {g : DTg} {tt : TTd} {tk tv : ET}
theorem dc_read {K : PySem.W.Frag} (σ : L2.St) (H : Hp) (Q : VK) (vs : List Nat) (h : tN K (dDc I g tt tk tv vs) σ H Q) : tDc (tIQ K I) (tG K vs g) (tTN K tt) (tQ K tk) (tQ K tv) vs σ H Q := by
  obtain ⟨A, ρ, W, k, s, t, c⟩ := h
  refine ⟨A, ρ, W, _, s, t, fun ds ⟨Iv, q, hstep, hend⟩ J H1 x1 it DD hD => ?_⟩
  obtain ⟨Fb, sb, subb⟩ := (s.ext x1).wipe vs
  have extD : Ext H1 (upd H1 DD (.dK [])) := ext_upd hD
  let Inv : Nat → Hp → Prop := fun i H2 => i ≤ ds.length ∧ ∃ (acc : List (Key × D)) (ws : List (Key × V)), Iv acc (ds.drop i) ∧ Ext H1 H2 ∧ H2 DD = some (.dK ws) ∧ ws.map (·.1) = acc.map (·.1) ∧
    RVs K H2 (fun a => a = DD ∨ Or2 W A a) (ws.map (·.2)) (acc.map (·.2)) (fun _ => False) ∧ Std K (fun a => a = DD ∨ (W a ∧ ¬ Fb a) ∨ A a) H2 (wipe σ vs) (wipeD ρ vs) Fb
  refine ⟨fun i m H2 => m = ds.length - i ∧ Inv i H2, ⟨ds.length, by simp, Nat.zero_le _, [], [], by simpa using q, extD, upd_same, rfl, .nil emF, ?_⟩, ?_⟩
  · have s1 := sb.grow (F := fun a => a = DD) extD (fun a z => by subst z; exact hD) fun a z => by subst z; rw [upd_same]; trivial
    exact s1
  · rintro i m H2 ⟨rfl, hi, acc, ws, cd, x2, hD2, hk, rv, sb2⟩
    obtain ⟨it1, it2⟩ := it H2 (fun a o h _ => x2 a o h) i
    have mD : Mut (H2 DD) := by rw [hD2]; trivial
    by_cases hlt : i < ds.length
    · have hd : ds.drop i = ds[i] :: ds.drop (i + 1) := List.drop_eq_getElem_cons hlt
      rw [hd] at cd
      obtain ⟨go, yl⟩ := it1 ds[i] (by simp [hlt])
      refine .inr ⟨go, fun H' => ∃ m', m' < ds.length - i ∧ m' = ds.length - (i + 1) ∧ Inv (i + 1) H', fun H' ⟨m', h1, h2, h3⟩ => ⟨m', h1, h2, h3⟩, fun x H3 y => ?_⟩
      obtain ⟨x23, rx⟩ := yl x H3 y
      have rx' := rx (Or2 Fb (fun a => a = DD ∨ (W a ∧ ¬ Fb a) ∨ A a)) fun a z => by
        rcases z with z | z | z | z
        · exact .inr (.inl (.inl (subb a z)))
        · subst z; exact .inr (.inr hD)
        · exact .inr (.inl (.inl z.1))
        · exact .inr (.inl (.inr z))
      refine ⟨_, wipeD ρ vs, Fb, ds[i], _, sb2.ext x23, rx', hstep _ _ _ cd, fun ρ4 q4 σ4 H4 W4 s4 x4 w4 o4 => ⟨(wipe_only o4).trans (wipe_wipe σ vs), ?_⟩⟩
      have x34 := ext_trans x23 x4
      refine ⟨_, ρ4, W4, _, s4, q4, fun b qb H5 x5 => ?_⟩
      have x25 := ext_trans x34 x5
      cases b with
      | false =>
        show if false = true then _ else _
        rw [if_neg Bool.false_ne_true]
        exact ⟨ds.length - (i + 1), by omega, rfl, hlt, acc, ws, qb, ext_trans x2 x25, x25 _ _ hD2, hk, rv.ext x25 fun a z => .inl z, sb2.ext x25⟩
      | true =>
        show if true = true then _ else _
        rw [if_pos rfl]
        refine ⟨_, ρ4, W4, _, s4.ext x5, qb, fun yd qy v6 H6 F6 x6 r6 => ⟨_, ρ4, W4, _, (s4.ext x5).ext x6, qy, fun zd qz v7 H7 F7 x7 r7 => ?_⟩⟩
        have x57 := ext_trans x6 x7
        have x27 := ext_trans x25 x57
        have hD7 : H7 DD = some (.dK ws) := x27 _ _ hD2
        split at qz
        · rename_i key hkey
          obtain ⟨hz, hfz, cd'⟩ := qz
          have W4b : ∀ a, W4 a → W a := fun a z => subb a (w4 a z)
          have cov : ∀ a, (a = DD ∨ Or2 W A a) → Or2 W4 (fun a => (Fb a ∧ ¬ W4 a) ∨ a = DD ∨ (W a ∧ ¬ Fb a) ∨ A a) a := fun a z => by
            rcases z with z | z | z
            · exact .inr (.inr (.inl z))
            · refine Classical.byCases (p := Fb a) (fun y => ?_) fun n => .inr (.inr (.inr (.inl ⟨z, n⟩)))
              exact Classical.byCases (p := W4 a) .inl fun n => .inr (.inl ⟨y, n⟩)
            · exact .inr (.inr (.inr (.inr z)))
          have rvz : RV K H7 (fun a => a = DD ∨ Or2 W A a) v7 zd (fun _ => False) := (rv_emp r7 (rv_fz r7 hfz)).weak cov
          obtain ⟨q', R, rR, sR⟩ := put_rv (k := key) hk (rv.ext x27 (X' := fun a => a = DD ∨ Or2 W A a) fun a z => .inl z) rvz emF
          have rR' := rvs_emp rR fun a z => sR a z
          have mD7 : Mut (H7 DD) := by rw [hD7]; trivial
          have rvn := rR'.upd (o := .dK (putK ws key v7)) (a := DD) (.inl rfl) (fun z => z) mD7
          have sb7 := ((sb2.ext x27).upd (a := DD) (o := .dK (putK ws key v7)) (.inl rfl) trivial)
          have hlen : ws.length = acc.length := by simpa using congrArg List.length hk
          refine ⟨ws, key, keyD_rv r6 hkey, hD7, by omega, ds.length - (i + 1), by omega, rfl, hlt, putKD acc key zd, putK ws key v7, cd', ?_, upd_same, q', rvn, sb7⟩
          intro a o h
          rw [upd_ne (ne_of_none h hD)]
          exact ext_trans x2 x27 a o h
        · exact qz.elim
    · have e : ds.drop i = [] := List.drop_eq_nil_of_le (by omega)
      rw [e] at cd
      refine .inl ⟨it2 (by omega), ?_⟩
      refine c _ (hend _ cd) (.ref DD) H2 (fun a => a = DD) (ext_trans x1 x2) (fun a z => ?_) (.dct1 (F := fun _ => False) hD2 hk (rv.weak fun a z => ?_) (fun z => z) fun b => ⟨.inl, fun z => z.elim id False.elim⟩)
      · exact new_back x1 (F := fun b => b = DD) (fun b z => z ▸ hD) a z
      · exact z
theorem dn_dc (hc : X.calm = true) (hN : X.N.Nodup) (hi : DIQ X tg iter I) (ok : BlkOk X.N X.env.scope scope own)
    (hg : Blk X scope fun Y => DG Y (own.map (·.2)) tg g) (ht : Blk X scope fun Y => PTs Y ifs (tTN X.K tt)) (hk : Blk X scope fun Y => DQ Y kx tk) (he : Blk X scope fun Y => DQ Y vx tv) (hs : ∀ x, foldedSetIterable iter X.env x = pure x := by intro _; rfl) :
    DN X (.DictComp kx vx [⟨tg, iter, ifs, 0⟩] scope pos) (dDc I g tt tk tv (own.map (·.2))) := pe_imp (pe_dc hc hN hi ok (own := own) (g := tG X.K (own.map fun (p : Str × Nat) => p.2) g) (tk := tQ X.K tk) (tv := tQ X.K tv) (fun s H C cl fp => hg s H C cl fp) ht (fun s H C cl fp => hk s H C cl fp) (fun s H C cl fp => he s H C cl fp) hs) fun σ H Q h => dc_read σ H Q _ h
end
end Dl
/-! DL28: x[i], y[j] = ..; new dicts. -/
namespace Dl
open PySem PySem.Spec L2
section
variable {K : PySem.W.Frag} {X : Cx} {E : WX} {P : List Nat}
/-- targets that write to objects -/
def tGW (K : PySem.W.Frag) (T : DTg) : TG := fun v σ H Q => ∃ (A : AS) (ρ : DEnv) (W : AS) (d : D) (k : DEnv → Prop), Std K A H σ ρ W ∧ RV K H (Or2 W A) v d (fun _ => False) ∧ T d ρ k ∧
  ∀ ρ', k ρ' → ∀ H' W', Std K A H' σ ρ' W' → Go W W' H H' → Q σ H'
def tGWs (K : PySem.W.Frag) (T : DTgs) : TGs := fun vs σ H Q => ∃ (A : AS) (ρ : DEnv) (W : AS) (ds : List D) (k : DEnv → Prop), Std K A H σ ρ W ∧ RVs K H (Or2 W A) vs ds (fun _ => False) ∧ T ds ρ k ∧
  ∀ ρ', k ρ' → ∀ H' W', Std K A H' σ ρ' W' → Go W W' H H' → Q σ H'
def DGW (X : Cx) (tg : Expr) (T : DTg) : Prop := PG X tg (tGW X.K T)
def DGWs (X : Cx) (tgs : List Expr) (T : DTgs) : Prop := PGs X tgs (tGWs X.K T)
variable {o i e tg : Expr} {tgs elts : List Expr} {Tp : LvT} {Ti Te : ET} {pos spos : Pos} {t g : DTg} {u : DTgs} {kk : Nat}
def gPut (Tp : LvT) (Ti : ET) : DTg := fun d ρ k => Tp ρ fun n p c => Ti ρ fun _ y => pAll c y d fun c' => k (putD ρ n p c')
theorem dgw_put (hu : X.A.units + 1 < cLine) (ho : DP X o Tp) (hi : DQ X i Ti)
    (ha : ∀ v, assign (.Subscript o i pos) X.env v = (do
      let ov ← holding [v] (eval o X.env)
      let iv ← holding [v, ov] (eval i X.env)
      standAt pos
      holding [v, ov, iv] (setItem ov iv v)
      release [v, ov, iv] []) := by intro _; rfl) : DGW X (.Subscript o i pos) (gPut Tp Ti) := pg_imp (pg_sub ho hi (set_all hu) ha) fun v σ H Q ⟨A, ρ, W, d, k, s, r, t, c⟩ => by
  refine ⟨A, ρ, W, _, s, t, fun n p cc t2 hp v0 x H2 x2 hv nav => ⟨A, ρ, W, _, s.ext x2, t2, fun y t3 vy H3 Fy x3 ry => ?_⟩⟩
  have x23 := ext_trans x2 x3
  have s3 : Std X.K (Or2 (fun _ => False) A) H3 σ ρ W := (s.ext x23).weak fun a z => z.elim False.elim id
  have w0 : ∀ a, Or2 W (Or2 (fun _ => False) A) a → Or2 W A a := fun a z => z.imp id fun z => z.elim False.elim id
  refine st_core sd_all s3 ((r.ext x23 fun a z => .inl z).weak w0) (fun _ z _ => z) (ry.weak w0) hv (nav_ext x3 nav) hp t3 fun d' q H' W' s' keep new => ?_
  refine c _ q H' W' s' ⟨fun a o h n => keep a o (x23 a o h) n, fun a z => ?_⟩
  rcases new a z with z | z | z
  · exact .inl z
  · exact z.elim
  · exact .inr (new_back (F := fun a => H3 a = none) x23 (fun _ z => z) a z)
theorem dgws_nil : DGWs X [] gNilD := pgs_imp pgs_nil fun vs σ H Q ⟨A, ρ, W, ds, k, s, r, ⟨e, q⟩, c⟩ => by
  subst e
  cases r
  exact ⟨rfl, c ρ q H W s (Go.refl W H)⟩
theorem dgws_cons (h1 : DGW X tg t) (h2 : DGWs X tgs u) (hs : (assignEach (tg :: tgs) X.env).map (·.2) = assign tg X.env :: (assignEach tgs X.env).map (·.2) := by rfl) : DGWs X (tg :: tgs) (gConsD t u) := pgs_imp (pgs_cons h1 h2 hs) fun vs σ H Q ⟨A, ρ, W, ds, k, s, r, q, c⟩ => by
  cases ds with
  | nil => exact q.elim
  | cons d ds =>
    cases r with
    | cons r1 r2 dj un =>
      have r1' := rv_emp r1 fun a z => (un a).mpr (.inl z)
      have r2' := rvs_emp r2 fun a z => (un a).mpr (.inr z)
      refine ⟨_, _, rfl, A, ρ, W, d, _, s, r1', q, fun ρ1 q1 H1 W1 s1 g1 => ⟨A, ρ1, W1, ds, k, s1, r2'.later (X' := Or2 W1 A) (g1.later s.wm) (fun a z => z.elim), q1, fun ρ2 q2 H2 W2 s2 g2 => c ρ2 q2 H2 W2 s2 (g1.trans g2)⟩⟩
theorem dgw_tup {n : Nat} (hc : X.calm = true) (h : DGWs X elts u) (hn : (assignEach elts X.env).length = n := by rfl) (hst : (assignEach elts X.env).findIdx? (·.1) = none := by rfl) : DGW X (.Tuple elts kk pos) (gTupD n u) := pg_imp (pg_tup hc h hn hst) fun v σ H Q ⟨A, ρ, W, d, k, s, r, q, c⟩ => by
  cases d with
  | tup ds =>
    obtain ⟨a, vs, rfl, ha, rl, em⟩ := rv_tup r
    exact ⟨a, vs, rfl, ha.sq, by rw [rvs_length rl]; exact q.1, A, ρ, W, ds, k, s, rl, q.2, c⟩
  | key ds =>
    obtain ⟨a, vs, rfl, ha, rl, em⟩ := rv_key r
    exact ⟨a, vs, rfl, SqT.of ha, by rw [rvs_length rl]; exact q.1, A, ρ, W, ds, k, s, rl, q.2, c⟩
  | _ => exact q.elim
theorem ds_asgW (he : DE X e Te) (hg : DGW X tg g) (hs : swapsWithSole [tg] e pos.line X.env = pure false := by rfl) (hw : swappedStores [tg] e X.env = pure none := by rfl)
    (h1 : (assignEach [tg] X.env).map (·.2) = [assign tg X.env] := by rfl) : DS X E P (.Assign [tg] e pos) (dAsgT Te g) := ps_imp (ps_asg he hg hs hw h1) fun D σ H ⟨A, ρ, W, k, s, t, ok⟩ => by
  refine ⟨A, ρ, W, _, s, t, fun ρ1 d q v H1 W1 F s1 r1 g1 => ?_⟩
  have djf := dj_FA s.dj s.am g1
  have s1' : Std X.K A H1 σ ρ1 W1 := s1.weak fun a z => .inr z
  have rf : RV X.K H1 (Or2 W1 A) v (fz d) (fun _ => False) := r1.fz fun a z => by
    rcases z with z | z
    · exact ⟨.inl z, fun y => s1.dj a z (.inl y)⟩
    · exact ⟨.inr (.inr z), fun y => djf a y z⟩
  exact ⟨A, ρ1, W1, fz d, _, s1', rf, q, fun ρ2 q2 H2 W2 s2 g2 => ok.nx ρ2 q2 σ H2 W2 s2 (g1.left.trans g2) (Pin.refl P σ)⟩
/-- a new dict -/
theorem dn_dictK : DN X (.Dict [] [] pos) (dC (.dct true [])) := pe_imp pe_dnewK fun σ H Q ⟨A, ρ, W, k, s, t, c⟩ => fun p hp =>
  c _ t _ _ (fun a => a = p) (ext_upd hp) (fun a z => by subst z; exact hp) (.dct1 (F := fun _ => False) upd_same rfl (.nil emF) (fun z => z) fun b => ⟨.inl, fun z => z.elim id False.elim⟩)
theorem dn_dictT : DN X (.Dict [] [] pos) (dC (.dcT true [])) := pe_imp pe_dnewT fun σ H Q ⟨A, ρ, W, k, s, t, c⟩ => fun p hp =>
  c _ t _ _ (fun a => a = p) (ext_upd hp) (fun a z => by subst z; exact hp) (.dcT1 (F := fun _ => False) upd_same rfl (.nil emF) (fun z => z) fun b => ⟨.inl, fun z => z.elim id False.elim⟩)
end
end Dl
/-! DL29: the rules in the generator's words: defs, methods, classes by their promises; names that are kept frozen. -/
namespace Dl
open PySem PySem.Spec L2
section
variable {K : PySem.W.Frag} {H : Hp} {X Y : AS}
/-- what holds nothing that is not owned and can be written may be taken along -/
theorem RV.clean {v : V} {d : D} {F : AS} (r : RV K H X v d F) : cleanD d = true → RV K H Y v d F := by
  induction r using RV.rec (motive_2 := fun vs ds F _ => cleanD.cleanL ds = true → RVs K H Y vs ds F) with
  | non e => exact fun _ => .non e
  | bl e => exact fun _ => .bl e
  | int e => exact fun _ => .int e
  | str e => exact fun _ => .str e
  | ref e => exact fun _ => .ref e
  | ty e => exact fun _ => .ty e
  | exc0 e => exact fun _ => .exc0 e
  | exc1 h n q _ e ih => exact fun z => by simp [cleanD] at z
  | tup h _ e ih => exact fun z => .tup h (ih (by simpa [cleanD] using z)) e
  | key h _ e ih => exact fun z => .key h (ih (by simpa [cleanD] using z)) e
  | lst0 | dct0 | dcT0 | obj0 => exact fun z => by simp [cleanD] at z
  | lst1 h _ n e ih => exact fun z => .lst1 h (ih (by simpa [cleanD] using z)) n e
  | dct1 h q _ n e ih => exact fun z => .dct1 h q (ih (by simpa [cleanD, cleanK_eq] using z)) n e
  | dcT1 h q _ n e ih => exact fun z => .dcT1 h q (ih (by simpa [cleanD, cleanT_eq] using z)) n e
  | obj1 h q _ n e ih => exact fun z => .obj1 h q (ih (by simpa [cleanD] using z)) n e
  | nil e _ => exact RVs.nil e
  | cons _ _ dj u i1 i2 z =>
    simp only [cleanD.cleanL, Bool.and_eq_true] at z
    exact RVs.cons (i1 z.1) (i2 z.2) dj u
end

/-! ### quiet calls -/
section
variable {K : PySem.W.Frag} {H H1 : Hp} {A W Y : AS} {σ : L2.St} {ρ : DEnv} {n : Nat} {S : DSp}
theorem RVv.fzAll {vs : List V} {ds : List D} (r : RVv K H Y vs ds) : RVs K H (fun _ => False) vs (ds.map fz) (fun _ => False) := by
  induction r with
  | nil => exact .nil emF
  | cons r _ ih => exact .cons (r.fz fun a z => z.elim) ih (fun _ z _ => z) fun b => ⟨False.elim, fun z => z.elim id id⟩
/-- what may be kept of a quiet call's result -/
def okD (ds : List D) (d : D) : Bool := ds.all isFz || cleanD d
theorem sp_quietC {k : DEnv → D → Prop} {Q : VK} (s : Std K A H σ ρ W) (c : ∀ d, k ρ d → ∀ (v : V) (H' : Hp) (F : AS), Ext H H' → (∀ a, F a → H a = none) → RV K H' (Or2 F (Or2 W A)) v d F → Q v H')
    {ds : List D} {vs : List V} (x1 : Ext H H1) (r1 : RVv K H1 (Or2 W A) vs ds) (q1 : ds.length = n) (q3 : S (ds.map fz) (fun d _ => okD ds d = true ∧ k ρ d) fun _ _ _ => False) : spD K n S vs H1 Q E0 := by
  cases hf : ds.all isFz with
  | true =>
    have e : ds.map fz = ds := (List.map_congr_left fun d hd => by unfold Dl.fz; rw [List.all_eq_true.mp hf d hd]).trans (List.map_id' ds)
    rw [e] at q3
    exact sp_quiet (k := fun ρ d => okD ds d = true ∧ k ρ d) s (fun d kd => c d kd.2) x1 (r1.side hf) q1 q3
  | false =>
    have rf := r1.fzAll
    refine ⟨by rw [r1.length]; exact q1, fun _ => False, fun _ => False, ds.map fz, _, _, ⟨(rf.weak fun a z => z.elim id id).re, fun _ z => z.elim, fun a z => z.elim⟩, q3, fun d ds' ⟨ok, kd⟩ v H' W' F s' r' g => ?_, fun C l ds' z => z.elim⟩
    have x2 : Ext H1 H' := fun a o h => g.keep a o h fun z => z
    have nw : ∀ a, F a → H1 a = none := fun a z => (g.new a (.inr z)).elim False.elim id
    have cl : cleanD d = true := by unfold okD at ok; rw [hf] at ok; exact ok
    exact c d kd v H' F (ext_trans x1 x2) (new_back x1 nw) (r'.clean cl)
end

/-! ### defs, methods, classes by name -/
/-- the def x keeps S; k: its calls' depth -/
def DefOk (PP : Program) (w : World) (K : PySem.W.Frag) (mg : Str → Option Value) (base : Heap) (x : Str) (k n : Nat) (S : DSp) : Prop :=
  ∃ (f : Addr) (fd : FuncData) (ps : List Str), FnG PP w K mg base k f fd ps (spD K n S) ∧ mg x = some (.ref f) ∧ PySem.W.keepIn K (.ref f) = true ∧ Binds K fd ps []
/-- the method m of the class at C -/
def MethOk (PP : Program) (w : World) (K : PySem.W.Frag) (mg : Str → Option Value) (base : Heap) (C : Addr) (m : Str) (k n : Nat) (S : DSp) : Prop :=
  ∃ (f : Addr) (fd : FuncData) (ps : List Str), FnG PP w K mg base k f fd ps (spD K n S) ∧ Meth K C m f ∧ Binds K fd ps []
/-- the class x at C, its __init__ -/
def ClsOk (PP : Program) (w : World) (K : PySem.W.Frag) (mg : Str → Option Value) (base : Heap) (x : Str) (C : Addr) (k n : Nat) (S : DSp) : Prop :=
  ∃ (f : Addr) (fd : FuncData) (ps : List Str), FnG PP w K mg base k f fd ps (spD K n S) ∧ mg x = some (.ref C) ∧ Mk K C f ∧ Binds K fd ps []
theorem RoomG.hu {k : Nat} {A : Around} (r : RoomG k A) : A.units + 65 < cLine := by have := r.room.un; omega
theorem RoomG.hu1 {k : Nat} {A : Around} (r : RoomG k A) : A.units + 1 < cLine := by have := r.room.un; omega
theorem RoomG.hu64 {k : Nat} {A : Around} (r : RoomG k A) : A.units + 64 < cLine := by have := r.room.un; omega
section
variable {X : Cx} {E : WX} {P : List Nat} {e a : Expr} {es : List Expr} {T Ta : ET} {Tl : LT} {Tp : LvT} {pos spos : Pos} {n k j : Nat} {C : Addr} {S : DSp} {x m : Str} {p apos : Pos}
abbrev DefX (X : Cx) (x : Str) (k n : Nat) (S : DSp) : Prop := DefOk X.prog X.w X.K X.mg X.base x k n S
abbrev MethX (X : Cx) (C : Addr) (m : Str) (k n : Nat) (S : DSp) : Prop := MethOk X.prog X.w X.K X.mg X.base C m k n S
abbrev ClsX (X : Cx) (x : Str) (C : Addr) (k n : Nat) (S : DSp) : Prop := ClsOk X.prog X.w X.K X.mg X.base x C k n S
/-- f(e, ..), quiet -/
def dCallQ (n : Nat) (S : DSp) (Tl : LT) : ET := fun ρ k => Tl ρ fun ρ1 ds => ds.length = n ∧ S (ds.map fz) (fun d _ => okD ds d = true ∧ k ρ1 d) fun _ _ _ => False
theorem dn_callQ (G : DefX X x k n S) (hr : RoomG j X.A) (hk : k ≤ j) (hg : Gl X x) (ha : DLQ X (e :: es) Tl) (hdb : (x == ("__debug__" : Str)) = false := by decide) (he : starEach (e :: es) X.env = (false, eval e X.env) :: starEach es X.env := by rfl) (hpl : (backTo pos (starEach es X.env)).any (·.1) = false := by rfl) :
    DN X (.Call (.Name x p) (e :: es) [] pos) (dCallQ n S Tl) := by
  obtain ⟨f, fd, ps, Fn, hm, hk', hb⟩ := G
  exact pe_imp (pe_callG (E := fun _ => E0) Fn (hr.mono hk) hg hm hk' hb passN ha hdb he hpl) fun σ H Q ⟨A, ρ, W, k, s, t, c⟩ =>
    ⟨A, ρ, W, _, s, t, fun ds ⟨q1, q3⟩ vs H1 x1 r1 => sp_quietC s c x1 r1 q1 q3⟩
theorem dn_callQ0 (G : DefX X x k n S) (hr : RoomG j X.A) (hk : k ≤ j) (hg : Gl X x) (hdb : (x == ("__debug__" : Str)) = false := by decide) : DN X (.Call (.Name x p) [] [] pos) (dCallQ n S dNil) := by
  obtain ⟨f, fd, ps, Fn, hm, hk', hb⟩ := G
  exact pe_imp (pe_callG0 (E := fun _ => E0) Fn (hr.mono hk) hg hm hk' hb passN hdb) fun σ H Q ⟨A, ρ, W, k, s, ⟨q1, q3⟩, c⟩ =>
    sp_quietC s c (fun _ _ z => z) .nil q1 q3
/-- f(e, ..), with effects; what may be raised -/
theorem dx_callD (tk : Takes X E) (G : DefX X x k n S) (hr : RoomG j X.A) (hk : k ≤ j) (hg : Gl X x) (ha : DL X (e :: es) Tl) (hdb : (x == ("__debug__" : Str)) = false := by decide) (he : starEach (e :: es) X.env = (false, eval e X.env) :: starEach es X.env := by rfl) (hpl : (backTo pos (starEach es X.env)).any (·.1) = false := by rfl) :
    DEX X E (.Call (.Name x p) (e :: es) [] pos) (dCallX n S Tl) := by
  obtain ⟨f, fd, ps, Fn, hm, hk', hb⟩ := G
  exact dx_call tk hg Fn (hr.mono hk) hm hk' hb ha hdb he hpl
theorem dx_callD0 (tk : Takes X E) (G : DefX X x k n S) (hr : RoomG j X.A) (hk : k ≤ j) (hg : Gl X x) (hdb : (x == ("__debug__" : Str)) = false := by decide) : DEX X E (.Call (.Name x p) [] [] pos) (dCallX n S dNil) := by
  obtain ⟨f, fd, ps, Fn, hm, hk', hb⟩ := G
  exact dx_call0 tk hg Fn (hr.mono hk) hm hk' hb hdb
theorem dx_callDI (i : Nat) (tk : Takes X E) (G : DefX X x k n S) (hr : RoomG j X.A) (hk : k ≤ j) (hg : Gl X x) (ho : PE X e (tVar i)) (ha : DL X es Tl) (hdb : (x == ("__debug__" : Str)) = false := by decide) (he : starEach (e :: es) X.env = (false, eval e X.env) :: starEach es X.env := by rfl) (hpl : (backTo pos (starEach es X.env)).any (·.1) = false := by rfl) :
    DEX X E (.Call (.Name x p) (e :: es) [] pos) (dCallXI n S i Tl) := by
  obtain ⟨f, fd, ps, Fn, hm, hk', hb⟩ := G
  exact dx_callI i tk hg Fn (hr.mono hk) hm hk' hb ho ha hdb he hpl
/-- o.m(e, ..), quiet -/
def dMethQ (C : Addr) (ns : List Str) (n : Nat) (S : DSp) (Ta : ET) (Tl : LT) : ET := fun ρ k => Ta ρ fun ρ1 o => (match o with | .obj _ C' ns' _ => C' = C ∧ ns' = ns | _ => False) ∧ Tl ρ1 fun ρ2 ds => (o :: ds).length = n ∧ S ((o :: ds).map fz) (fun d _ => okD (o :: ds) d = true ∧ k ρ2 d) fun _ _ _ => False
theorem dn_methQ {ns : List Str} {pl : Sem Bool} (cl : Cls X.K C) (G : MethX X C m k n S) (hr : RoomG j X.A) (hk : k ≤ j) (ho : DQ X a Ta) (hns : ns.contains m = false) (ha : DLQ X (e :: es) Tl)
    (hst : starEach (e :: es) X.env = (false, eval e X.env) :: starEach es X.env := by rfl) (hpl : (backTo pos (starEach es X.env)).any (·.1) = false := by rfl)
    (ht : eval (.Call (.Attribute a m apos) (e :: es) [] pos) X.env = (do
      let ov ← eval a X.env
      standAt apos.atName
      let (f, first) ← holding [ov] (getMethod ov m pl)
      callWith pos f first (backTo pos (starEach (e :: es) X.env)) (backToKw pos (keywordEach [] X.env))) := by rfl) :
    DN X (.Call (.Attribute a m apos) (e :: es) [] pos) (dMethQ C ns n S Ta Tl) := by
  obtain ⟨f, fd, ps, Fn, hm, hb⟩ := G
  exact pe_imp (pe_methG (pl := pl) (E := fun _ => E0) ho cl hm Fn (hr.mono hk) hb passN ha hst hpl ht) fun σ H Q ⟨A, ρ, W, k, s, t, c⟩ => by
    refine ⟨A, ρ, W, _, s, t, fun o ⟨q0, q⟩ vo H1 Fo x1 ro => ?_⟩
    cases o with
    | obj mm C' ns' l =>
      obtain ⟨rfl, rfl⟩ := q0
      obtain ⟨ad, dx, fs, G, rfl, had, hn, rl, _, _⟩ := rv_obj ro
      exact ⟨ad, dx, fs, rfl, had, lookup_none (by rw [hn]; simpa using hns), A, ρ, W, _, s.ext x1, q, fun ds ⟨q1, q2⟩ vs H2 x2 r2 => sp_quietC s c (ext_trans x1 x2) (.cons (ro.ext x2 fun a z => .inl z) r2) q1 q2⟩
    | _ => exact q0.elim
theorem dn_methQ0 {ns : List Str} {pl : Sem Bool} (cl : Cls X.K C) (G : MethX X C m k n S) (hr : RoomG j X.A) (hk : k ≤ j) (ho : DQ X a Ta) (hns : ns.contains m = false)
    (ht : eval (.Call (.Attribute a m apos) [] [] pos) X.env = (do
      let ov ← eval a X.env
      standAt apos.atName
      let (f, first) ← holding [ov] (getMethod ov m pl)
      callWith pos f first (backTo pos (starEach [] X.env)) (backToKw pos (keywordEach [] X.env))) := by rfl) :
    DN X (.Call (.Attribute a m apos) [] [] pos) (dMethQ C ns n S Ta dNil) := by
  obtain ⟨f, fd, ps, Fn, hm, hb⟩ := G
  exact pe_imp (pe_methG0 (pl := pl) (E := fun _ => E0) ho cl hm Fn (hr.mono hk) hb passN ht) fun σ H Q ⟨A, ρ, W, k, s, t, c⟩ => by
    refine ⟨A, ρ, W, _, s, t, fun o ⟨q0, q1, q2⟩ vo H1 Fo x1 ro => ?_⟩
    cases o with
    | obj mm C' ns' l =>
      obtain ⟨rfl, rfl⟩ := q0
      obtain ⟨ad, dx, fs, G, rfl, had, hn, rl, _, _⟩ := rv_obj ro
      exact ⟨ad, dx, fs, rfl, had, lookup_none (by rw [hn]; simpa using hns), sp_quietC s c x1 (.cons ro .nil) q1 q2⟩
    | _ => exact q0.elim
/-- C(e, ..) -/
theorem dx_makeD (tk : Takes X E) (G : ClsX X x C k n S) (hr : RoomG j X.A) (hk : k + 1 ≤ j) (hg : Gl X x) (ha : DL X (e :: es) Tl)
    (hdb : (x == ("__debug__" : Str)) = false := by decide) (he : starEach (e :: es) X.env = (false, eval e X.env) :: starEach es X.env := by rfl) (hpl : (backTo pos (starEach es X.env)).any (·.1) = false := by rfl) :
    DEX X E (.Call (.Name x p) (e :: es) [] pos) (dMakeX C n S Tl) := by
  obtain ⟨f, fd, ps, Fn, hm, M, hb⟩ := G
  exact dx_make tk M Fn (hr.mono hk) hg hm hb ha hdb he hpl
theorem dx_makeD0 (tk : Takes X E) (G : ClsX X x C k n S) (hr : RoomG j X.A) (hk : k + 1 ≤ j) (hg : Gl X x)
    (hdb : (x == ("__debug__" : Str)) = false := by decide) : DEX X E (.Call (.Name x p) [] [] pos) (dMakeX C n S dNil) := by
  obtain ⟨f, fd, ps, Fn, hm, M, hb⟩ := G
  exact dx_make0 tk M Fn (hr.mono hk) hg hm hb hdb

/-! ### names kept frozen -/
theorem set_stepF {K : PySem.W.Frag} {P : List Nat} {E : WX} {A W : AS} {H : Hp} {σ : L2.St} {k : DEnds} {DD : Ends} {i : Nat} (hp : i ∉ P) (dj : Dj W A) (am : ∀ a, A a → Mut (H a)) (ok : KOk K E P A k DD σ H W) {ρ1 : DEnv} {d : D} {v : V} {H1 : Hp} {W1 F : AS}
    (hi : i < ρ1.length) (q : k.nx (ρ1.set i (some (fz d)))) (s1 : Std K (Or2 F A) H1 σ ρ1 W1) (r1 : RV K H1 (Or2 W1 (Or2 F A)) v d F) (g1 : Go W (Or2 W1 F) H H1) : DD.nx (σ.set i (some v)) H1 := by
  have djf := dj_FA dj am g1
  have s1' : Std K (Or2 (fun _ => False) A) H1 σ ρ1 W1 := s1.weak fun a z => z.elim False.elim .inr
  have rf : RV K H1 (Or2 W1 (Or2 (fun _ => False) A)) v (fz d) (fun _ => False) := r1.fz fun a z => by
    rcases z with z | z | z
    · exact ⟨.inl z, fun y => s1.dj a z (.inl y)⟩
    · exact z.elim
    · exact ⟨.inr (.inr z), fun y => djf a y z⟩
  exact set_step hp dj am ok hi q s1' rf (g1.left.orEmp emF)
def dSetF (i : Nat) (Te : ET) : DSt := fun k ρ => Te ρ fun ρ1 d => i < ρ1.length ∧ k.nx (ρ1.set i (some (fz d)))
theorem ds_setF {i : Nat} {x : Str} {pos' : Pos} (hp : i ∉ P) (hN : X.N.Nodup) (hi : X.N[i]? = some x) (hx : Loc X.env.scope x) (he : DE X e T) (hs : swapsWith e (some (.Name x pos')) pos.line X.env = pure false := by rfl) (hf : X.fn x = true ∨ X.env.scope.names.lookup x = some .local := by first | exact .inl rfl | exact .inr rfl | assumption) :
    DS X E P (.Assign [.Name x pos'] e pos) (dSetF i T) := ps_imp (ps_set hN hi hx he hs hf) fun D σ H ⟨A, ρ, W, k, s, t, ok⟩ =>
  ⟨A, ρ, W, _, s, t, fun ρ1 d ⟨hl, q⟩ v H1 W1 F s1 r1 g1 => set_stepF hp s.dj s.am ok hl q s1 r1 g1⟩
def dSetFX (i : Nat) (T : ETX) : DSt := fun k ρ => T ρ (fun ρ1 d => i < ρ1.length ∧ k.nx (ρ1.set i (some (fz d)))) k.ex
theorem ds_setFX {T : ETX} {i : Nat} {x : Str} {pos' : Pos} (hp : i ∉ P) (hN : X.N.Nodup) (hi : X.N[i]? = some x) (hx : Loc X.env.scope x) (he : DEX X E e T) (hs : swapsWith e (some (.Name x pos')) pos.line X.env = pure false := by rfl) (hf : X.fn x = true ∨ X.env.scope.names.lookup x = some .local := by first | exact .inl rfl | exact .inr rfl | assumption) :
    DS X E P (.Assign [.Name x pos'] e pos) (dSetFX i T) := ps_imp (ps_set hN hi hx he hs hf) fun D σ H ⟨A, ρ, W, k, s, t, ok⟩ =>
  ⟨A, ρ, W, _, _, s, t, fun ρ1 d ⟨hl, q⟩ v H1 W1 F s1 r1 g1 => set_stepF hp s.dj s.am ok hl q s1 r1 g1, fun C l ρ' q H' W' o s' g x => ok.ex ρ' C l q σ H' W' o s' g (Pin.refl P σ) x⟩
end
end Dl
/-! DL30: small rules for the generator. -/
namespace Dl
open PySem PySem.Spec L2
section
variable {X : Cx} {E : WX} {P : List Nat} {e a b c : Expr} {es : List Expr} {T Ta Tb : ET} {TX : ETX} {Tl : LT} {pos spos : Pos} {n k j : Nat} {C : Addr} {S : DSp} {x m : Str} {p apos : Pos}
theorem dn_gref (hg : Gl X x) (hm : X.mg x = some (.ref C)) (hd : (x == ("__debug__" : Str)) = false := by decide) : DN X (.Name x pos) (dC (.ref C)) := dn_c (pe_glob hg hm (show RelV (.ref C) (.ref C) from rfl) hd) fun _ _ => .ref emF
theorem dn_gty {t : String} (hg : Gl X x) (hm : X.mg x = none) (hv : bootBuiltins x = some (.type t)) (hn : x ≠ "__name__" := by decide) (hd : (x == ("__debug__" : Str)) = false := by decide) : DN X (.Name x pos) (dC (.ty t)) := dn_c (pe_bltn hg hm hv (show RelV (.ty t) (.type t) from rfl) hn hd) fun _ _ => .ty emF
/-- a module's int, text -/
def GInt (mg : Str → Option Value) (x : Str) (i : Int) : Prop := ∃ w, mg x = some w ∧ RelV (.int i) w
def GStr (mg : Str → Option Value) (x y : Str) : Prop := ∃ w, mg x = some w ∧ RelV (.str y) w
theorem dn_gi {i : Int} (hg : Gl X x) (h : GInt X.mg x i) (hd : (x == ("__debug__" : Str)) = false := by decide) : DN X (.Name x pos) (dC (.int i)) := by
  obtain ⟨w, h1, h2⟩ := h
  exact dn_gint hg h1 h2 hd
theorem dn_gs {y : Str} (hg : Gl X x) (h : GStr X.mg x y) (hd : (x == ("__debug__" : Str)) = false := by decide) : DN X (.Name x pos) (dC (.str y)) := by
  obtain ⟨w, h1, h2⟩ := h
  exact dn_gstr hg h1 h2 hd
/-! ### calls that are not to raise -/
def dCallE1 (n : Nat) (S : DSp) (Tl : LT) : ET := fun ρ k => dCallX n S Tl ρ k noKx
def dCallI (n : Nat) (S : DSp) (i : Nat) (Tl : LT) : ET := fun ρ k => dCallXI n S i Tl ρ k noKx
def dMake (C : Addr) (n : Nat) (S : DSp) (Tl : LT) : ET := fun ρ k => dMakeX C n S Tl ρ k noKx
theorem de_callD (G : DefX X x k n S) (hr : RoomG j X.A) (hk : k ≤ j) (hg : Gl X x) (ha : DL X (e :: es) Tl) (hdb : (x == ("__debug__" : Str)) = false := by decide) (he : starEach (e :: es) X.env = (false, eval e X.env) :: starEach es X.env := by rfl) (hpl : (backTo pos (starEach es X.env)).any (·.1) = false := by rfl) :
    DE X (.Call (.Name x p) (e :: es) [] pos) (dCallE1 n S Tl) := (dx_callD takes0 G hr hk hg ha hdb he hpl).de
theorem de_callD0 (G : DefX X x k n S) (hr : RoomG j X.A) (hk : k ≤ j) (hg : Gl X x) (hdb : (x == ("__debug__" : Str)) = false := by decide) : DE X (.Call (.Name x p) [] [] pos) (dCallE1 n S dNil) := (dx_callD0 takes0 G hr hk hg hdb).de
theorem de_callDI (i : Nat) (G : DefX X x k n S) (hr : RoomG j X.A) (hk : k ≤ j) (hg : Gl X x) (ho : PE X e (tVar i)) (ha : DL X es Tl) (hdb : (x == ("__debug__" : Str)) = false := by decide) (he : starEach (e :: es) X.env = (false, eval e X.env) :: starEach es X.env := by rfl) (hpl : (backTo pos (starEach es X.env)).any (·.1) = false := by rfl) :
    DE X (.Call (.Name x p) (e :: es) [] pos) (dCallI n S i Tl) := (dx_callDI i takes0 G hr hk hg ho ha hdb he hpl).de
theorem de_makeD (G : ClsX X x C k n S) (hr : RoomG j X.A) (hk : k + 1 ≤ j) (hg : Gl X x) (ha : DL X (e :: es) Tl)
    (hdb : (x == ("__debug__" : Str)) = false := by decide) (he : starEach (e :: es) X.env = (false, eval e X.env) :: starEach es X.env := by rfl) (hpl : (backTo pos (starEach es X.env)).any (·.1) = false := by rfl) :
    DE X (.Call (.Name x p) (e :: es) [] pos) (dMake C n S Tl) := (dx_makeD takes0 G hr hk hg ha hdb he hpl).de
theorem de_makeD0 (G : ClsX X x C k n S) (hr : RoomG j X.A) (hk : k + 1 ≤ j) (hg : Gl X x)
    (hdb : (x == ("__debug__" : Str)) = false := by decide) : DE X (.Call (.Name x p) [] [] pos) (dMake C n S dNil) := (dx_makeD0 takes0 G hr hk hg hdb).de

/-! ### built-ins in the generator's words -/
theorem dn_len {p : Pos} (hg : Gl X "len") (hm : X.mg "len" = none) (ha : DLQ X [a] Tl) (he : starEach [a] X.env = (false, eval a X.env) :: starEach [] X.env := by rfl) (hpl : (backTo pos (starEach [] X.env)).any (·.1) = false := by rfl) : DN X (.Call (.Name "len" p) [a] [] pos) (dOpL oLen Tl) := dn_callB call_lenAll rl_len hg hm PySem.boot_len ha (by decide) (by decide) he hpl
end

/-! ### y = [..] on one line, kept frozen -/
section
variable {X : Cx} {elt tg iter : Expr} {ifs : List Expr} {scope : Scope} {own : List (Str × Nat)} {pos : Pos} {I : DIt} {g : DTg} {tt : TTd} {te : ET}
theorem ds_setLcF {E : WX} {P : List Nat} {i : Nat} {y : Str} {py spos : Pos} (hp : i ∉ P) (hc : X.calm = true) (hN : X.N.Nodup) (hy : X.N[i]? = some y) (hyl : X.env.scope.names.lookup y = some .local)
    (hsw : swapsWith (.ListComp elt [⟨tg, iter, ifs, 0⟩] scope pos) (some (.Name y py)) spos.line X.env = pure true) (hi : DIQ X tg iter I) (ok : BlkOk X.N X.env.scope scope own)
    (hg : Blk X scope fun Y => DG Y (own.map (·.2)) tg g) (ht : Blk X scope fun Y => PTs Y ifs (tTN X.K tt)) (he : Blk X scope fun Y => DN Y elt te) (hs : ∀ x, foldedSetIterable iter X.env x = pure x := by intro _; rfl) :
    DS X E P (.Assign [.Name y py] (.ListComp elt [⟨tg, iter, ifs, 0⟩] scope pos) spos) (dSetF i (dLc I g tt te (own.map (·.2)))) := ps_imp (ps_setLc hc hN hy hyl hsw hi ok (own := own) (g := tG X.K (own.map fun (p : Str × Nat) => p.2) g) (te := tN X.K te) (fun s H C cl fp => hg s H C cl fp) ht (fun s H C cl fp => he s H C cl fp) hs) fun D σ H ⟨A, ρ, W, k, s, t, ok⟩ => by
  refine lc_read σ H _ _ ⟨A, ρ, W, _, s, t, fun d ⟨hl, q⟩ v H1 F x1 n1 r1 => ?_⟩
  exact set_stepF hp s.dj s.am ok hl q (s.grow x1 n1 r1.there) (r1.weak fun a z => z.elim (fun z => .inr (.inl z)) fun z => z.elim .inl fun z => .inr (.inr z)) ((Go.ext W x1).orNew n1)
theorem ds_setLcEF {E : WX} {P : List Nat} {i : Nat} {y : Str} {py spos : Pos} (hp : i ∉ P) (hc : X.calm = true) (hN : X.N.Nodup) (hy : X.N[i]? = some y) (hyl : X.env.scope.names.lookup y = some .local)
    (hsw : swapsWith (.ListComp elt [⟨tg, iter, ifs, 0⟩] scope pos) (some (.Name y py)) spos.line X.env = pure true) (hi : DI X tg iter I) (ok : BlkOk X.N X.env.scope scope own)
    (hg : Blk X scope fun Y => DG Y (own.map (·.2)) tg g) (ht : Blk X scope fun Y => PTs Y ifs (tT X.K tt)) (he : Blk X scope fun Y => DE Y elt te) (nd : (own.map (·.2)).Nodup := by decide) (hs : ∀ x, foldedSetIterable iter X.env x = pure x := by intro _; rfl) :
    DS X E P (.Assign [.Name y py] (.ListComp elt [⟨tg, iter, ifs, 0⟩] scope pos) spos) (dSetF i (dLcE I g tt te (own.map (·.2)))) := ps_imp (ps_setLc hc hN hy hyl hsw hi ok (own := own) (g := tG X.K (own.map fun (p : Str × Nat) => p.2) g) (te := tD X.K te) (fun s H C cl fp => hg s H C cl fp) ht (fun s H C cl fp => he s H C cl fp) hs) fun D σ H ⟨A, ρ, W, k, s, t, ok⟩ => by
  refine lcE_read σ H _ _ nd ⟨A, ρ, W, _, s, t, fun ρ1 d ⟨hl, q⟩ v H1 W1 F s1 r1 g1 => ?_⟩
  exact set_stepF hp s.dj s.am ok hl q s1 r1 g1
end

/-! ### a, b = x, y: some kept frozen -/
section
variable {X : Cx} {E : WX} {P : List Nat} {a b c : Expr} {Tl : LT} {pos : Pos} {K : PySem.W.Frag}
def fzIf (f : Bool) (d : D) : D := match f with
  | true => fz d
  | false => d
theorem fzIf_rv {H : Hp} {Y Y' F : AS} {v : V} {d : D} (f : Bool) (r : RV K H Y v d F) (hX : ∀ a, Y' a → Y a ∧ (f = true → ¬ F a)) : ∃ G, RV K H Y' v (fzIf f d) G ∧ (∀ a, G a → F a) := by
  cases f with
  | true => exact ⟨_, r.fz fun a z => ⟨(hX a z).1, (hX a z).2 rfl⟩, fun a z => z.elim⟩
  | false => exact ⟨F, r.weak fun a z => (hX a z).1, fun a z => z⟩
theorem Std.set2F {A W F G R : AS} {H : Hp} {σ : L2.St} {ρ : DEnv} {i j : Nat} {u v : V} {d e : D} (f g : Bool) (s : Std K (Or2 R A) H σ ρ W) (ru : RV K H (Or2 W (Or2 R A)) u d F) (rv : RV K H (Or2 W (Or2 R A)) v e G) (dj : Dj F G) (un : Un2 F G R) (hi : i < ρ.length) (hj : j < ρ.length) (djA : Dj R A) :
    ∃ W', Std K A H ((σ.set i (some u)).set j (some v)) ((ρ.set i (some (fzIf f d))).set j (some (fzIf g e))) W' ∧ ∀ a, W' a → W a ∨ R a := by
  have rF : ∀ a, F a → R a := fun a z => (un a).mpr (.inl z)
  have rG : ∀ a, G a → R a := fun a z => (un a).mpr (.inr z)
  -- what stays owned
  let R' : AS := fun a => (F a ∧ f = false) ∨ (G a ∧ g = false)
  have R'R : ∀ a, R' a → R a := fun a z => z.elim (fun z => rF a z.1) fun z => rG a z.1
  have X1 : ∀ a, Or2 W (Or2 R' A) a → Or2 W (Or2 R A) a := fun a z => z.imp id fun z => z.imp (R'R a) id
  obtain ⟨F', ru', sF⟩ : ∃ F', RV K H (Or2 W (Or2 R' A)) u (fzIf f d) F' ∧ ∀ a, F' a → F a ∧ f = false := by
    cases f with
    | true => exact ⟨_, ru.fz fun a z => ⟨X1 a z, fun y => by
        rcases z with z | z | z
        · exact s.dj a z (.inl (rF a y))
        · rcases z with z | z
          · cases z.2
          · exact dj a y z.1
        · exact djA a (rF a y) z⟩, fun a z => z.elim⟩
    | false => exact ⟨F, ru.weak X1, fun a z => ⟨z, rfl⟩⟩
  obtain ⟨G', rv', sG⟩ : ∃ G', RV K H (Or2 W (Or2 R' A)) v (fzIf g e) G' ∧ ∀ a, G' a → G a ∧ g = false := by
    cases g with
    | true => exact ⟨_, rv.fz fun a z => ⟨X1 a z, fun y => by
        rcases z with z | z | z
        · exact s.dj a z (.inl (rG a y))
        · rcases z with z | z
          · exact dj a z.1 y
          · cases z.2
        · exact djA a (rG a y) z⟩, fun a z => z.elim⟩
    | false => exact ⟨G, rv.weak X1, fun a z => ⟨z, rfl⟩⟩
  let R2 : AS := Or2 F' G'
  have R2R : ∀ a, R2 a → R' a := fun a z => z.elim (fun z => .inl (sF a z)) fun z => .inr (sG a z)
  have X2 : ∀ a, Or2 W (Or2 R2 A) a → Or2 W (Or2 R' A) a := fun a z => z.imp id fun z => z.imp (R2R a) id
  obtain ⟨W', h1, h2⟩ := Std.set2 (R := R2) (i := i) (j := j) (s.weak fun a z => z.imp (fun z => R'R a (R2R a z)) id) (ru'.weak X2) (rv'.weak X2) (fun a z y => dj a (sF a z).1 (sG a y).1) (fun _ => Iff.rfl) hi hj fun a z => djA a (R'R a (R2R a z))
  exact ⟨W', h1, fun a z => (h2 a z).imp id fun z => R'R a (R2R a z)⟩
def dParF (i j : Nat) (f g : Bool) (Tl : LT) : DSt := fun k ρ => Tl ρ fun ρ1 ds => match ds with
  | [d, e] => i < ρ1.length ∧ j < ρ1.length ∧ k.nx ((ρ1.set i (some (fzIf f d))).set j (some (fzIf g e)))
  | _ => False
theorem rvs_two {H : Hp} {Y F : AS} {vs : List V} {d e : D} (r : RVs K H Y vs [d, e] F) : ∃ u v G M, vs = [u, v] ∧ RV K H Y u d G ∧ RV K H Y v e M ∧ Dj G M ∧ Un2 G M F := by
  cases r with
  | cons ra r1 dj1 u1 => cases r1 with
    | cons rb r1 dj2 u2 => cases r1 with
      | nil eG => exact ⟨_, _, _, _, rfl, ra, rb, fun a z y => dj1 a z ((u2 a).mpr (.inl y)), fun a => ⟨fun z => ((u1 a).mp z).imp id fun z => ((u2 a).mp z).elim id fun z => (eG a z).elim, fun z => (u1 a).mpr (z.imp id fun z => (u2 a).mpr (.inl z))⟩⟩
theorem ds_parF {i j : Nat} {x y : Str} {px py pt : Pos} {kt k2 pt2} (f g : Bool) (hpi : i ∉ P) (hpj : j ∉ P) (hc : X.calm = true) (hN : X.N.Nodup) (hi : X.N[i]? = some x) (hj : X.N[j]? = some y) (hij : i ≠ j)
    (hx : X.env.scope.names.lookup x = some .local) (hy : X.env.scope.names.lookup y = some .local) (ha : DL X [a, b] Tl)
    (hw : swappedStores [.Tuple [.Name x px, .Name y py] kt pt] (.Tuple [a, b] k2 pt2) X.env = pure (some [x, y]))
    (hs : swapsWithSole [.Tuple [.Name x px, .Name y py] kt pt] (.Tuple [a, b] k2 pt2) pos.line X.env = pure false := by rfl) :
    DS X E P (.Assign [.Tuple [.Name x px, .Name y py] kt pt] (.Tuple [a, b] k2 pt2) pos) (dParF i j f g Tl) := ps_imp (ps_par hc hN hi hj hij hx hy ha hw hs) fun D σ H ⟨A, ρ, W, k, s, t, ok⟩ => by
  refine ⟨A, ρ, W, _, s, t, fun ρ1 ds q vs H1 W1 F s1 r1 g1 => ?_⟩
  split at q
  · obtain ⟨li, lj, q⟩ := q
    obtain ⟨u, v, G, M, rfl, ru, rv, dj, un⟩ := rvs_two r1
    have djA := dj_FA s.dj s.am g1
    obtain ⟨W2, s2, h2⟩ := s1.set2F f g ru rv dj un li lj djA
    exact ⟨_, _, rfl, ok.nx _ q _ H1 W2 s2 ⟨g1.keep, fun a z => g1.new a (h2 a z)⟩ ((Pin.set hpi).trans (Pin.set hpj))⟩
  · exact q.elim
/-- .. not stored from the right: through a tuple -/
theorem ds_parN {i j : Nat} {x y : Str} {px py pt : Pos} {kt k2 pt2} (f g : Bool) (hpi : i ∉ P) (hpj : j ∉ P) (hc : X.calm = true) (hN : X.N.Nodup) (hi : X.N[i]? = some x) (hj : X.N[j]? = some y)
    (hx : Loc X.env.scope x) (hy : Loc X.env.scope y) (ha : DL X [a, b] Tl)
    (hw : swappedStores [.Tuple [.Name x px, .Name y py] kt pt] (.Tuple [a, b] k2 pt2) X.env = pure none := by rfl)
    (hs : swapsWithSole [.Tuple [.Name x px, .Name y py] kt pt] (.Tuple [a, b] k2 pt2) pos.line X.env = pure false := by rfl)
    (hfx : X.fn x = true ∨ X.env.scope.names.lookup x = some .local := by first | exact .inl rfl | exact .inr rfl | assumption) (hfy : X.fn y = true ∨ X.env.scope.names.lookup y = some .local := by first | exact .inl rfl | exact .inr rfl | assumption)
    (h1 : (assignEach [.Tuple [.Name x px, .Name y py] kt pt] X.env).map (·.2) = [assign (.Tuple [.Name x px, .Name y py] kt pt) X.env] := by rfl)
    (hn : (assignEach [.Name x px, .Name y py] X.env).length = 2 := by rfl) (hst : (assignEach [.Name x px, .Name y py] X.env).findIdx? (·.1) = none := by rfl)
    (hs1 : (assignEach [.Name x px, .Name y py] X.env).map (·.2) = assign (.Name x px) X.env :: (assignEach [.Name y py] X.env).map (·.2) := by rfl) (hs2 : (assignEach [.Name y py] X.env).map (·.2) = assign (.Name y py) X.env :: (assignEach [] X.env).map (·.2) := by rfl) :
    DS X E P (.Assign [.Tuple [.Name x px, .Name y py] kt pt] (.Tuple [a, b] k2 pt2) pos) (dParF i j f g Tl) :=
  ps_imp (ps_asg (pe_tup ha) (pg_tup hc (pgs_cons (pg_name hN hi hx hfx) (pgs_cons (pg_name hN hj hy hfy) pgs_nil hs2) hs1) hn hst) hs hw h1) fun D σ H ⟨A, ρ, W, k, s, t, ok⟩ => by
    refine ⟨A, ρ, W, _, s, t, fun ρ1 ds q vs H1 W1 F s1 r1 g1 => ?_⟩
    split at q
    · obtain ⟨li, lj, q⟩ := q
      obtain ⟨u, v, G, M, rfl, ru, rv, dj, un⟩ := rvs_two r1
      have djA := dj_FA s.dj s.am g1
      obtain ⟨W2, s2, h2⟩ := s1.set2F f g ru rv dj un li lj djA
      refine ⟨by show 2 ≤ sizeLine; decide, fun p hp => ?_⟩
      have x2 := ext_upd (o := HO.tup [u, v]) hp
      refine ⟨p, [u, v], rfl, SqT.of upd_same, rfl, u, [v], rfl, v, [], rfl, rfl, ok.nx _ q _ _ W2 (s2.ext x2) ⟨(g1.left.trans (Go.ext W1 x2)).keep, fun a z => g1.new a (h2 a z)⟩ ((Pin.set hpi).trans (Pin.set hpj))⟩
    · exact q.elim
end
end Dl
/-! DL31: glue for the generated texts. -/
namespace Dl
open PySem PySem.Spec L2
/-- an own exception class below ValueError -/
structure ExcOk (K : PySem.W.Frag) (C : Addr) : Prop where
  ex : PySem.W.excIn K C [.type "ValueError", .type "Exception", .type "BaseException", .type "object"] "ValueError.__new__" = true
  kp : PySem.W.keepIn K (.ref C) = true
  ty : PySem.W.typeIn K (.ref C) = some (.type "type")
  sb : PySem.W.subIn K (.ref C) (.type "BaseException") = some true
theorem ExcOk.raises {K : PySem.W.Frag} {C : Addr} (h : ExcOk K C) (X : Cx) (hK : X.K = K := by rfl) : Raises X (.ref C) := by
  subst hK
  exact raises_own h.sb h.ty
theorem tkD {PP : Program} {w : World} {K : PySem.W.Frag} {mg : Str → Option Value} {base : Heap} {N : List Str} {qual : Str} {scope : Scope} {f : Addr} {cdv : Value} {A : Around} {outer : List Env} {s : Shared} {H : Hp} {E : XK} :
    Takes (cxOf (L2.CX PP w) PP w K mg base N qual scope f cdv A outer s H E) (fun c o _ h => E c o h) := takes_of rfl rfl rfl rfl
theorem hpD {PP : Program} {w : World} {K : PySem.W.Frag} {mg : Str → Option Value} {base : Heap} {N : List Str} {qual : Str} {scope : Scope} {f : Addr} {cdv : Value} {A : Around} {outer : List Env} {s : Shared} {H : Hp} {E : XK} :
    PassesOwn (model PP w) (cxOf (L2.CX PP w) PP w K mg base N qual scope f cdv A outer s H E).A (cxOf (L2.CX PP w) PP w K mg base N qual scope f cdv A outer s H E).env (cxOf (L2.CX PP w) PP w K mg base N qual scope f cdv A outer s H E).xe := passes_of rfl
section
variable {X : Cx} {E : WX} {P : List Nat} {e a b : Expr} {es : List Expr} {T Ta Tb : ET} {Tl : LT} {pos spos : Pos} {x m : Str} {p apos p1 pos1 : Pos}
theorem length_rangeD (lo : Int) (n : Nat) : (rangeD lo n).length = n := by simp [rangeD]
theorem rvs_rg {K : PySem.W.Frag} {H : Hp} {Y : AS} {a b : Int} : RVs K H Y (rgV a b) (rangeD a (b - a).toNat) (fun _ => False) := by
  unfold rgV rangeD
  induction List.range (b - a).toNat with
  | nil => exact .nil emF
  | cons i l ih => exact .cons (.int emF) ih (fun _ z _ => z) fun b => ⟨False.elim, fun z => z.elim id id⟩
theorem rangeD_fz (lo : Int) (n : Nat) : ∀ d ∈ rangeD lo n, fz d = d := fun d h => by
  simp only [rangeD, List.mem_map] at h
  obtain ⟨i, _, rfl⟩ := h
  rfl
/-- list(range(n)), list(range(a, b)) -/
def dRgL1 (Ta : ET) : ET := fun ρ k => Ta ρ fun ρ1 d => match d with
  | .int n => RgOk 0 n ∧ k ρ1 (.lst true (rangeD 0 (n - 0).toNat))
  | _ => False
def dRgL2 (Ta Tb : ET) : ET := fun ρ k => Ta ρ fun ρ1 d => Tb ρ1 fun ρ2 e => match d, e with
  | .int a, .int b => RgOk a b ∧ k ρ2 (.lst true (rangeD a (b - a).toNat))
  | _, _ => False
theorem dn_listRg1 (hc : X.calm = true) (hgl : Gl X "list") (hml : X.mg "list" = none) (hg : Gl X "range") (hm : X.mg "range" = none) (ha : DQ X a Ta)
    (na : starEach [a] X.env = (false, eval a X.env) :: starEach [] X.env := by rfl) (ne : starEach [.Call (.Name "range" p) [a] [] pos] X.env = (false, eval (.Call (.Name "range" p) [a] [] pos) X.env) :: starEach [] X.env := by rfl) :
    DN X (.Call (.Name "list" p1) [.Call (.Name "range" p) [a] [] pos] [] pos1) (dRgL1 Ta) := pe_imp (pe_listRg hc hgl hml (prg_1 hg hm ha na) ne) fun σ H Q ⟨A, ρ, W, k, s, t, c⟩ => by
  refine ⟨A, ρ, W, _, s, t, fun d q v H1 F x1 r1 => ?_⟩
  split at q
  · obtain ⟨ok, q⟩ := q
    exact ⟨_, rv_int r1, ok, fun p hp => r_lst (K := X.K) (Y := Or2 W A) hp q rvs_rg emF fun d' v' H' F' k' x n r => c d' k' v' H' F' (ext_trans x1 x) (new_back x1 n) r⟩
  · exact q.elim
theorem dn_listRg2 (hc : X.calm = true) (hgl : Gl X "list") (hml : X.mg "list" = none) (hg : Gl X "range") (hm : X.mg "range" = none) (ha : DQ X a Ta) (hb : DQ X b Tb)
    (na : starEach [a, b] X.env = (false, eval a X.env) :: starEach [b] X.env := by rfl) (nb : starEach [b] X.env = (false, eval b X.env) :: starEach [] X.env := by rfl) (hp : (backTo pos (starEach [b] X.env)).any (·.1) = false := by rfl) (ne : starEach [.Call (.Name "range" p) [a, b] [] pos] X.env = (false, eval (.Call (.Name "range" p) [a, b] [] pos) X.env) :: starEach [] X.env := by rfl) :
    DN X (.Call (.Name "list" p1) [.Call (.Name "range" p) [a, b] [] pos] [] pos1) (dRgL2 Ta Tb) := pe_imp (pe_listRg hc hgl hml (prg_2 hg hm ha hb na nb hp) ne) fun σ H Q ⟨A, ρ, W, k, s, t, c⟩ => by
  refine ⟨A, ρ, W, _, s, t, fun d q v H1 F x1 r1 => ⟨A, ρ, W, _, s.ext x1, q, fun d2 q v2 H2 F2 x2 r2 => ?_⟩⟩
  split at q
  · obtain ⟨ok, q⟩ := q
    exact ⟨_, _, rv_int r1, rv_int r2, ok, fun p hp => r_lst (K := X.K) (Y := Or2 W A) hp q rvs_rg emF fun d' v' H' F' k' x n r => c d' k' v' H' F' (ext_trans (ext_trans x1 x2) x) (new_back (ext_trans x1 x2) n) r⟩
  · exact q.elim
end
/-- BlkOk over literals -/
structure BlkN (N : List Str) (sn : List (Str × NameKind)) (scope : Scope) (own : List (Str × Nat)) : Prop where
  kind : scope.kind = .function
  uniq : ∀ y ∈ scope.names, scope.names.lookup y.1 = some y.2
  ix : ∀ p ∈ own, N[p.2]? = some p.1
  free : ∀ y ∈ scope.names, y.2 = .free → sn.lookup y.1 = some .cell ∨ sn.lookup y.1 = some .free
  own : ∀ y ∈ scope.names, y.2 = .local ∨ y.2 = .cell → y.1 ∈ own.map (·.1) ∨ y.1 ∉ N
theorem bok {N N' : List Str} {sn : List (Str × NameKind)} {sc scope : Scope} {own : List (Str × Nat)} (h : BlkN N sn scope own) (h1 : N' = N := by rfl) (h2 : sc.names = sn := by rfl) : BlkOk N' sc scope own := by
  subst h1 h2
  exact ⟨h.kind, h.uniq, h.ix, h.free, h.own⟩
/-- a list display that gives up what its items own -/
def dLstF (Tl : LT) : ET := fun ρ k => Tl ρ fun ρ1 ds => ds.length ≤ sizeLine ∧ k ρ1 (.lst true (ds.map fz))
theorem de_lstF {X : Cx} {es : List Expr} {Tl : LT} {pos : Pos} (h : DL X es Tl) : DE X (.List es pos) (dLstF Tl) := pe_imp (pe_lst h) fun σ H Q ⟨A, ρ, W, k, s, t, c⟩ => by
  refine ⟨A, ρ, W, _, s, t, fun ρ1 ds ⟨hz, q⟩ vs H1 W1 F s1 r g => ⟨by rw [rvs_length r]; exact hz, fun p hp => ?_⟩⟩
  have ext := ext_upd (o := HO.lst vs) hp
  have djf : Dj F A := dj_FA s.dj s.am g
  have r2 : RVs X.K H1 (Or2 W1 A) vs (ds.map fz) (fun _ => False) := r.fz fun a z => by
    rcases z with z | z
    · exact ⟨.inl z, fun y => s1.dj a z (.inl y)⟩
    · exact ⟨.inr (.inr z), fun y => djf a y z⟩
  have s0 : Std X.K A H1 σ ρ1 W1 := s1.weak fun a z => .inr z
  have s2 := s0.grow (F := fun a => a = p) ext (fun a z => by subst z; exact hp) fun a z => by subst z; rw [upd_same]; trivial
  refine c ρ1 _ q _ _ W1 (fun b => b = p) s2 (.lst1 (F := fun _ => False) upd_same (r2.ext ext fun a z => ?_) (fun z => z) fun b => ⟨.inl, fun z => z.elim id False.elim⟩) ⟨(g.left.trans (Go.ext W1 ext)).keep, fun a z => ?_⟩
  · rcases z with z | z | z
    · exact .inl (.inl z)
    · subst z; exact .inr hp
    · exact .inl (.inr z)
  · rcases z with z | z
    · exact g.new a (.inl z)
    · subst z; exact g.left.old hp s.wm
end Dl
/-! DLH: the law's end over promises of FnG; what is known of classes of errors, off the head. -/
namespace Dl
open PySem PySem.Spec L2 PyProof.Rows
/-! ### classes of errors -/
inductive Cv where
  | own (x : Str)
  | ty (n : String)
def Cv.v (K : PySem.W.Frag) : Cv → Value
  | .own x => .ref (He.ga K x)
  | .ty n => .type n
def excB (K : PySem.W.Frag) (D : Addr) : Bool :=
  (He.eqO (PySem.W.findIn K (.ref D) "__getattribute__") (some (some (.builtin "BaseException.__getattribute__"))) && He.eqO (PySem.W.findIn K (.ref D) "__getattr__") (some none)) &&
  ((decide (PySem.W.subIn K (.ref D) (.type "BaseException") = some true) && PySem.W.hasDictIn K D) && ((He.eqO (PySem.W.findIn K (.ref D) "__class__") (some (some (.builtin "object.__class__"))) &&
  He.eqO (PySem.W.specialIn K (.builtin "object.__class__") "__get__") (some (some (.builtin "getset_descriptor.__get__")))) && (decide (PySem.W.takesIn K (.builtin "object.__class__") = some true) && decide (PySem.W.mroIn K D (.type "object") = some true))))
theorem excB_ok {K : PySem.W.Frag} {D : Addr} (h : excB K D = true) : ExcC K D := by
  simp only [excB, Bool.and_eq_true, decide_eq_true_eq] at h
  obtain ⟨⟨a, b⟩, ⟨c, d⟩, ⟨e, f⟩, g, i⟩ := h
  exact { hg := He.eqO_ok a, hk := He.eqO_ok b, hs := c, hd := d, ha := He.eqO_ok e, hn := He.eqO_ok f, ht := g, hm := i }
abbrev SubL := List (Str × Cv × Bool)
def subB (l : SubL) (K : PySem.W.Frag) : Bool := l.all fun p => excB K (He.ga K p.1) && (decide (PySem.W.kitOne K (.ref (He.ga K p.1)) (p.2.1.v K) = some p.2.2) && decide (PySem.W.exmOne K (.ref (He.ga K p.1)) (p.2.1.v K) = some p.2.2))
def subOf (l : SubL) (K : PySem.W.Frag) (cls c : Value) : Option Bool := (l.find? fun p => decide (cls = .ref (He.ga K p.1)) && decide (c = p.2.1.v K)).map (·.2.2)
theorem subB_ok {l : SubL} {K : PySem.W.Frag} (h : subB l K = true) : SubOk K (subOf l K) := by
  have key : ∀ cls c b, subOf l K cls c = some b → ∃ p ∈ l, cls = .ref (He.ga K p.1) ∧ c = p.2.1.v K ∧ b = p.2.2 := fun cls c b e => by
    obtain ⟨p, hp, rfl⟩ := Option.map_eq_some_iff.mp e
    have h1 := List.find?_some hp
    simp only [Bool.and_eq_true, decide_eq_true_eq] at h1
    exact ⟨p, List.mem_of_find?_eq_some hp, h1.1, h1.2, rfl⟩
  have at_ : ∀ p ∈ l, ExcC K (He.ga K p.1) ∧ PySem.W.kitOne K (.ref (He.ga K p.1)) (p.2.1.v K) = some p.2.2 ∧ PySem.W.exmOne K (.ref (He.ga K p.1)) (p.2.1.v K) = some p.2.2 := fun p hp => by
    have h1 := List.all_eq_true.mp h p hp
    simp only [Bool.and_eq_true, decide_eq_true_eq] at h1
    exact ⟨excB_ok h1.1, h1.2.1, h1.2.2⟩
  constructor
  · intro cls c b e
    obtain ⟨p, hp, rfl, rfl, rfl⟩ := key cls c b e
    exact ⟨_, rfl, (at_ p hp).1, (at_ p hp).2.1⟩
  · intro cls c b e
    obtain ⟨p, hp, rfl, rfl, rfl⟩ := key cls c b e
    exact (at_ p hp).2.2
theorem subOf_mem {l : SubL} {K : PySem.W.Frag} (h : subB l K = true) {x : Str} {c : Cv} {b : Bool} (hm : (x, c, b) ∈ l) : subOf l K (.ref (He.ga K x)) (c.v K) = some b := by
  unfold subOf
  cases e : l.find? fun p => decide (Value.ref (He.ga K x) = .ref (He.ga K p.1)) && decide (c.v K = p.2.1.v K) with
  | none =>
    have := List.find?_eq_none.mp e _ hm
    simp at this
  | some p =>
    have h1 := List.find?_some e
    have hp := List.mem_of_find?_eq_some e
    simp only [Bool.and_eq_true, decide_eq_true_eq] at h1
    have a := List.all_eq_true.mp h _ hm
    have d := List.all_eq_true.mp h _ hp
    simp only [Bool.and_eq_true, decide_eq_true_eq] at a d
    rw [h1.1, h1.2, d.2.1] at a
    rw [Option.map_some, a.2.1]
/-! ### defs by the head's facts -/
theorem defOk_of {PP : Program} {w : World} {K : PySem.W.Frag} {mg : Str → Option Value} {base : Heap} {x qual : Str} {params : Arguments} {body : List Stmt} {scope : Scope} {fd : FuncData} {ps : List Str} {k n : Nat} {S : DSp}
    (F : FunD K x qual params body scope [] [] (He.ga K x) fd) (g : mg x = some (.ref (He.ga K x))) (G : FnG PP w K mg base k (He.ga K x) fd ps (spD K n S))
    (hb : ∀ (kV doc pm : Value) (an : Option Addr) (cdv ct : Value) (us : List Value), us.length = ps.length → bindArgs (PySem.W.fnOf x qual params body scope .none kV doc pm an cdv ct) ⟨us, []⟩ = pure (ps.zip us)) : DefOk PP w K mg base x k n S :=
  ⟨_, fd, ps, G, g, F.kp, F.bindsN hb⟩
theorem methOk_of {PP : Program} {w : World} {K : PySem.W.Frag} {mg : Str → Option Value} {base : Heap} {x qual : Str} {params : Arguments} {body : List Stmt} {scope : Scope} {fd : FuncData} {ps : List Str} {k n : Nat} {S : DSp} {C f : Addr}
    (F : FunD K x qual params body scope [] [] f fd) (g : Meth K C x f) (G : FnG PP w K mg base k f fd ps (spD K n S))
    (hb : ∀ (kV doc pm : Value) (an : Option Addr) (cdv ct : Value) (us : List Value), us.length = ps.length → bindArgs (PySem.W.fnOf x qual params body scope .none kV doc pm an cdv ct) ⟨us, []⟩ = pure (ps.zip us)) : MethOk PP w K mg base C x k n S :=
  ⟨f, fd, ps, G, g, F.bindsN hb⟩
theorem clsOk_of {PP : Program} {w : World} {K : PySem.W.Frag} {mg : Str → Option Value} {base : Heap} {c x qual : Str} {params : Arguments} {body : List Stmt} {scope : Scope} {fd : FuncData} {ps : List Str} {k n : Nat} {S : DSp} {C f : Addr}
    (F : FunD K x qual params body scope [] [] f fd) (g : mg c = some (.ref C)) (m : Mk K C f) (G : FnG PP w K mg base k f fd ps (spD K n S))
    (hb : ∀ (kV doc pm : Value) (an : Option Addr) (cdv ct : Value) (us : List Value), us.length = ps.length → bindArgs (PySem.W.fnOf x qual params body scope .none kV doc pm an cdv ct) ⟨us, []⟩ = pure (ps.zip us)) : ClsOk PP w K mg base c C k n S :=
  ⟨f, fd, ps, G, g, m, F.bindsN hb⟩
/-! ### the law's end -/
/-- no list among the module's objects -/
def noLst (K : PySem.W.Frag) : Bool := K.all fun p => !decide (p.2.cls = .type "list")
theorem noLst_ok {K : PySem.W.Frag} (h : noLst K = true) {a : Addr} {o : Obj} (e : K.lookup a = some o) : o.cls ≠ .type "list" := by
  have := List.all_eq_true.mp h _ (He.lookup_mem e)
  simpa using this
/-- the script as data -/
def scriptD (ns : List Int) : D := .lst false (ns.map D.int)
theorem rvs_scr {K : PySem.W.Frag} {H : Hp} {X : AS} : ∀ ns : List Int, RVs K H X (ns.map V.int) (ns.map D.int) (fun _ => False)
  | [] => .nil fun _ z => z
  | n :: ns => .cons (.int fun _ z => z) (rvs_scr ns) (fun _ z _ => z) fun b => ⟨False.elim, fun z => z.elim id id⟩
/-- how a call of the law ends -/
abbrev EndGood (s₁ : Shared) : Result → Shared → Prop := fun r s' => r = .ok (.ret (.bool true)) ∧ OldK s₁.heap s'.heap ∧ s'.os = s₁.os ∧ AllBare s'.gens
theorem law_callG {P : Program} {w : World} {K : PySem.W.Frag} {mg mb : Str → Option Value} {k : Nat} {fa a : Addr} {fd : FuncData} {x : Str} {sp : Sp} {s₁ : Shared} {vs : List Value} {ns : List Int}
    (kin : K.In s₁.heap) (glob : s₁.heap.Ns mainGlobals mg) (blt : s₁.heap.Ns builtinsNs mb) (boots : ∀ y : Str, y ≠ "__name__" → mb y = bootBuiltins y) (nl : s₁.heap.NoLimit) (noGens : s₁.gens = #[])
    (scr : s₁.heap.get? a = some { cls := .type "list", data := .seq vs.toArray }) (are : IntsAre vs ns) (len : ns.length ≤ sizeLine) (room : RoomG k callerA) (noL : noLst K = true)
    (keeps : ∀ base : Heap, K.In base → base.Ns mainGlobals mg → FnG P w K mg base k fa fd [x] sp) (bnd : ∀ (s : Shared) (u : Value), BindsTo s fd ⟨[u], []⟩ [(x, u)])
    (good : ∀ H : Hp, Rd H a (.lst (ns.map V.int)) → sp [.ref a] H (fun v _ => v = .bl true) fun _ _ _ => False)
    (noErr : ∀ H e s', L2.CX P w [] H s₁ (fun _ _ _ => False) e s' → False) : codeAny (model P w) callerA (.call (.ref fa) ⟨[.ref a], []⟩) (EndGood s₁) s₁ := by
  have own : K.lookup a = none := by
    cases z : K.lookup a with
    | none => rfl
    | some o =>
      have e := kin a o z
      rw [scr] at e
      cases e
      exact absurd rfl (noLst_ok noL z)
  -- the abstract heap: the script alone
  obtain ⟨H, hH⟩ : ∃ H : Hp, H = fun b => if b = a then some (.frz { cls := .type "list", data := .seq vs.toArray } (.lst (ns.map V.int))) else none := ⟨_, rfl⟩
  have atA : H a = some (.frz { cls := .type "list", data := .seq vs.toArray } (.lst (ns.map V.int))) := by rw [hH]; exact if_pos rfl
  have free : ∀ {b : Addr}, b ≠ a → H b = none := fun n => by rw [hH]; exact if_neg n
  have inBase : ∀ {b : Addr} {m : Str → Option Value}, s₁.heap.Ns b m → (hidT s₁.heap H).Ns b m := fun {b m} ⟨o, es, ep, e, d, r⟩ => by
    refine ⟨o, es, ep, hidT_get e (free ?_), d, r⟩
    rintro rfl
    rw [scr] at e
    cases e
    have d' : Data.seq vs.toArray _ = Data.dict es ep := d
    cases d'
  have kBase : K.In (hidT s₁.heap H) := fun b o e => hidT_get (kin b o e) (free fun z => by rw [z, own] at e; cases e)
  have okH : HOk P w H s₁.heap := fun b u z => by
    by_cases n : b = a
    · subst n
      rw [atA] at z
      cases z
      exact ⟨scr, by rw [List.length_map]; exact len, vs, _, vals_ints are, scr⟩
    · rw [free n] at z; cases z
  have md : Mod K mg (hidT s₁.heap H) := ⟨kBase, inBase glob, ⟨mb, inBase blt, boots⟩, nl.elim fun mc z => ⟨mc, inBase z.1, z.2⟩⟩
  have env : Env0 P w K mg (hidT s₁.heap H) callerA [] s₁ H := ⟨rfl, md, fun b o e => of_hidT e, Nat.le_of_eq (hidT_size _ _), trivial, fun b z => (List.not_mem_nil z).elim, okH, .of_eq noGens⟩
  have run := (keeps _ kBase (inBase glob)).run callerA [] s₁ H ⟨[.ref a], []⟩ [.ref a] [.ref a] _ _ room env (bnd s₁ (.ref a)) (.cons rfl .nil) (good H (.inr ⟨_, atA⟩))
  refine codeAny_mono run fun r s' h => ?_
  match r, h with
  | .error e, h => exact (noErr H e s' h).elim
  | .ok .next, h => exact False.elim h
  | .ok .brk, h => exact False.elim h
  | .ok .cont, h => exact False.elim h
  | .ok (.ret u), h =>
    obtain ⟨v, H', sameOs, bare, un, okH', rel, isTrue⟩ := h
    obtain rfl : v = .bl true := isTrue
    obtain rfl : u = Value.bool true := rel
    refine ⟨rfl, OldK.of_keep fun b o e => ?_, sameOs, bare⟩
    by_cases n : b = a
    · subst n
      have e1 := (okH b _ atA).1
      have e2 := (okH' b _ (un.frzs b _ _ atA)).1
      rw [e] at e1
      cases e1
      exact e2
    · exact un.keep b o e (free n) (fun z => List.not_mem_nil z) (by simp)
theorem walk_ofG {l : PySem.W.OpenLaw} {n k : Nat} {q : Program} {loose : List Str} {XP : (Str → Option Value) → Heap → Prop} {YP : World → Heap → Prop} {d : DefRec} {x : Str}
    (most : l.most = some n) (small : n ≤ sizeLine) (noDfl : d.params.defaults = []) (room : RoomG k callerA)
    (F : ∀ (w : World) (mg : Str → Option Value) (fa : Addr) (h : Heap), YP w h → h.Ns mainGlobals mg → mg d.name = some (.ref fa) →
      ∃ (K : PySem.W.Frag) (fd : FuncData) (S : DSp), K.In h ∧ noLst K = true ∧ (∀ (s : Shared) (u : Value), BindsTo s fd ⟨[u], []⟩ [(x, u)]) ∧
        (∀ (ns : List Int) (kx : Value → List (Str × D) → List D → Prop), ns.length ≤ n → S [scriptD ns] (fun v _ => v = .bl true) kx) ∧
        ∀ base : Heap, K.In base → base.Ns mainGlobals mg → FnG l.prog w K mg base k fa fd [x] (spD K 1 S))
    (noErr : ∀ (w : World) (H : Hp) (s : Shared) (e : Value) (s' : Shared), L2.CX l.prog w [] H s (fun _ _ _ => False) e s' → False) : PySem.W.WalkO q loose XP YP l.row.toRowW d [] (fun f vs => PySem.call f vs) := by
  refine Att.attach_call most noDfl fun w s₀ s₁ mg mb fa o pm cd doc a vs ns G Y _ _ _ hmg hobj hints hlen hg => ?_
  obtain ⟨K, fd, S, kin, noL, bnd, good, keeps⟩ := F w mg fa _ Y G.T.g hmg
  refine law_callG kin G.T.g G.T.b G.T.builtins G.T.nolimit hg hobj hints (Nat.le_trans hlen small) room noL keeps bnd (fun H rd => ?_) fun H e s' => noErr w H s₁ e s'
  refine ⟨rfl, fun _ => False, fun _ => False, [scriptD ns], fun v _ => v = .bl true, fun _ _ _ => False, ⟨?_, fun _ z _ => z, fun _ z => z.elim⟩, good ns _ hlen, fun d ds' e v H' W' F' _ r _ => ?_, fun _ _ _ z => z.elim⟩
  · exact .so (F := fun _ => False) (G := fun _ => False) (.lst0 rd (fun z => z.elim id id) (rvs_scr ns) fun _ z => z) (.nil fun _ z => z) (fun _ z _ => z) fun b => ⟨False.elim, fun z => z.elim id id⟩
  · subst e
    cases r
    rfl
end Dl
namespace Dl
open PySem PySem.Spec L2 PyProof.Rows
/-- all arguments are pinned -/
theorem holdD_all : ∀ (p : Nat → Bool) (ds : List D), (∀ i, i < ds.length → p i = true) → holdD p ds = true
  | _, [], _ => rfl
  | p, d :: ds, h => by
    have h0 : p 0 = true := h 0 (by simp)
    have h1 := holdD_all (fun i => p (i + 1)) ds fun i hi => h (i + 1) (by simpa using hi)
    simp only [holdD, h0, h1, Bool.true_or, Bool.and_self]
theorem hold_full {P : List Nat} {n : Nat} {ds : List D} (hl : ds.length = n) (h : ((List.range n).all fun i => P.contains i) = true) : holdD (pinP P) ds = true :=
  holdD_all _ _ fun i hi => List.all_eq_true.mp h i (List.mem_range.mpr (by omega))
theorem noErrCX {P : Program} {w : World} {H : Hp} {s : Shared} {e : Value} {s' : Shared} (h : L2.CX P w [] H s (fun _ _ _ => False) e s') : False := by
  obtain ⟨_, _, _, _, _, _, _, _, _, _, _, _, z⟩ := h
  exact z
end Dl
namespace K02
open PySem PySem.Spec L2 Dl
def top (i : Nat) : Stmt := PySem.Challenge.pw_pairorring_k02_whole_pairings_and_what_b.main.body.getD i (.Pass ⟨0, 0, 0, 0⟩)
abbrev s_is_integer : Stmt := top 1
abbrev s_is_below : Stmt := top 2
abbrev s_are_wishes : Stmt := top 14
abbrev s_first_bad : Stmt := top 15
abbrev s_Table_zz_initzz_ : Stmt := inClass (top 16) 0
abbrev s_law_tape : Stmt := top 18
abbrev s_law_pick : Stmt := top 19
abbrev s_law_any : Stmt := top 20
abbrev s_law_mixed : Stmt := top 21
abbrev s_law_wishes : Stmt := top 22
abbrev s_law_count : Stmt := top 23
abbrev s_law_all : Stmt := top 24
abbrev s_law_is_pairing : Stmt := top 25
abbrev s_law_drawn : Stmt := top 28
abbrev s_law_bent : Stmt := top 29
abbrev s_Table_many : Stmt := inClass (top 16) 2
abbrev s_is_pairing : Stmt := top 8
abbrev s_Table_is_dearer : Stmt := inClass (top 16) 3
abbrev s_raw_breaking : Stmt := top 9
abbrev s_is_stable : Stmt := top 11
abbrev s_law_rank : Stmt := top 26
abbrev s_law_breaking : Stmt := top 27
abbrev s_law_is_flag : Stmt := top 30
abbrev s_breaking : Stmt := top 10
abbrev s_law_refusal : Stmt := top 31
abbrev s_law_is_judged : Stmt := top 32
abbrev s_law_known_right : Stmt := top 33
abbrev s_law : Stmt := top 34
abbrev ns_BadTable : List Str := ["person"]
abbrev ns_Table : List Str := ["wishes", "ranks"]
/-- what the text says beside its defs -/
structure Tx (K : PySem.W.Frag) (mg : Str → Option Value) (C_NoPairing C_PairError C_Table : Addr) : Prop where
  m_ValueError : mg "ValueError" = none
  m_abs : mg "abs" = none
  m_all : mg "all" = none
  m_bool : mg "bool" = none
  m_enumerate : mg "enumerate" = none
  m_int : mg "int" = none
  m_isinstance : mg "isinstance" = none
  m_len : mg "len" = none
  m_list : mg "list" = none
  m_range : mg "range" = none
  m_repr : mg "repr" = none
  m_set : mg "set" = none
  m_sorted : mg "sorted" = none
  m_tuple : mg "tuple" = none
  c_MOST : GInt mg "MOST" 30
  g_NoPairing : mg "NoPairing" = some (.ref C_NoPairing)
  x_NoPairing : ExcOk K C_NoPairing
  g_PairError : mg "PairError" = some (.ref C_PairError)
  g_Table : mg "Table" = some (.ref C_Table)
  k_Table : Cls K C_Table
  a_Table_wishes : NoAttr K C_Table "wishes"
  a_Table_ranks : NoAttr K C_Table "ranks"
theorem sc_is_integer : FnScope ["thing"] ["thing"] (defScope s_is_integer) := ⟨rfl, rfl, rfl, by decide +kernel, rfl, by decide +kernel, by decide +kernel⟩
def T_is_integer : DSt :=
  (dRet (dAndV (dOpL oIsi (dCons (dNameV 0) (dCons (dC (.ty "int")) dNil))) (dNotV (dOpL oIsi (dCons (dNameV 0) (dCons (dC (.ty "bool")) dNil))))))
theorem d_is_integer {PP : Program} {w : World} {K : PySem.W.Frag} {mg : Str → Option Value} {base : Heap} {C_NoPairing C_PairError C_Table : Addr} (T : Tx K mg C_NoPairing C_PairError C_Table) {qual : Str} {f : Addr} {cdv : Value} {A : Around} {outer : List Env} {s : Shared} {H : Hp} {E : XK} (hr : RoomG 0 (A.deeper (PyProof.Rows.envOfC qual (defScope s_is_integer) s.heap.objs.size f cdv))) :
    DSs (cxOf (L2.CX PP w) PP w K mg base ["thing"] qual (defScope s_is_integer) f cdv A outer s H E) (fun c o _ h => E c o h) [0] (defBody s_is_integer) (T_is_integer ) := by
  have sc := sc_is_integer
  have tk := tkD (PP := PP) (w := w) (K := K) (mg := mg) (base := base) (N := ["thing"]) (qual := qual) (scope := defScope s_is_integer) (f := f) (cdv := cdv) (A := A) (outer := outer) (s := s) (H := H) (E := E)
  have hp := hpD (PP := PP) (w := w) (K := K) (mg := mg) (base := base) (N := ["thing"]) (qual := qual) (scope := defScope s_is_integer) (f := f) (cdv := cdv) (A := A) (outer := outer) (s := s) (H := H) (E := E)
  exact 
  (dss_one (ds_ret (dn_and (dn_callB call_isiAll rl_isi (by rfl) T.m_isinstance PyProof.Rows.Boot.«isinstance» (dlq_cons (dq_name (pv 0)) (dlq_cons (dn_gty (by rfl) T.m_int PyProof.Rows.Boot.«int»).dq dlq_nil))).dq (dn_one (dn_not (dn_callB call_isiAll rl_isi (by rfl) T.m_isinstance PyProof.Rows.Boot.«isinstance» (dlq_cons (dq_name (pv 0)) (dlq_cons (dn_gty (by rfl) T.m_bool PyProof.Rows.Boot.«bool»).dq dlq_nil))).dq))).de))
theorem sc_is_below : FnScope ["thing", "many"] ["thing", "many"] (defScope s_is_below) := ⟨rfl, rfl, rfl, by decide +kernel, rfl, by decide +kernel, by decide +kernel⟩
def T_is_below (S_is_integer : DSp) : DSt :=
  (dRet (dAndV (dCallQ 1 S_is_integer (dCons (dNameV 0) dNil)) (dChain oLe oLt (dC (.int 0)) (dNameV 0) (dNameV 1))))
theorem d_is_below {PP : Program} {w : World} {K : PySem.W.Frag} {mg : Str → Option Value} {base : Heap} {C_NoPairing C_PairError C_Table : Addr} {S_is_integer : DSp} (T : Tx K mg C_NoPairing C_PairError C_Table) (g_is_integer : DefOk PP w K mg base "is_integer" 1 1 S_is_integer) {qual : Str} {f : Addr} {cdv : Value} {A : Around} {outer : List Env} {s : Shared} {H : Hp} {E : XK} (hr : RoomG 1 (A.deeper (PyProof.Rows.envOfC qual (defScope s_is_below) s.heap.objs.size f cdv))) :
    DSs (cxOf (L2.CX PP w) PP w K mg base ["thing", "many"] qual (defScope s_is_below) f cdv A outer s H E) (fun c o _ h => E c o h) [0, 1] (defBody s_is_below) (T_is_below S_is_integer) := by
  have sc := sc_is_below
  have tk := tkD (PP := PP) (w := w) (K := K) (mg := mg) (base := base) (N := ["thing", "many"]) (qual := qual) (scope := defScope s_is_below) (f := f) (cdv := cdv) (A := A) (outer := outer) (s := s) (H := H) (E := E)
  have hp := hpD (PP := PP) (w := w) (K := K) (mg := mg) (base := base) (N := ["thing", "many"]) (qual := qual) (scope := defScope s_is_below) (f := f) (cdv := cdv) (A := A) (outer := outer) (s := s) (H := H) (E := E)
  exact 
  (dss_one (ds_ret (dn_and (dn_callQ g_is_integer hr (by decide) (by rfl) (dlq_cons (dq_name (pv 0)) dlq_nil)).dq (dn_one (dn_chain op_le op_lt r_le r_lt dn_int.dq (dq_name (pv 0)) (dq_name (pv 1))))).de))
theorem sc_are_wishes : FnScope ["thing", "person", "many", "one"] ["thing", "person", "many"] (defScope s_are_wishes) := ⟨rfl, rfl, rfl, by decide +kernel, rfl, by decide +kernel, by decide +kernel⟩
def T_are_wishes (S_is_below : DSp) : DSt :=
  (dSeq (dIfS (dOr (dNot (dTest (dOpL oIsi (dCons (dNameV 0) (dCons (dC (.ty "tuple")) dNil))))) (dNot (dTest (dOpL oAll (dCons (dLc (diSeq (dNameV 0)) (gN 3) dYes (dCallQ 2 S_is_below (dCons (dNameV 3) (dCons (dNameV 2) dNil))) [3]) dNil))))) 
      (dRet (dC (.bl false))) dNext)
  (dRet (dAndV (dOp2 oNotIn (dNameV 1) (dNameV 0)) (dOp2 oEq (dOp1 oLenSet (dNameV 0)) (dOpL oLen (dCons (dNameV 0) dNil))))))
theorem d_are_wishes {PP : Program} {w : World} {K : PySem.W.Frag} {mg : Str → Option Value} {base : Heap} {C_NoPairing C_PairError C_Table : Addr} {S_is_below : DSp} (T : Tx K mg C_NoPairing C_PairError C_Table) (g_is_below : DefOk PP w K mg base "is_below" 2 2 S_is_below) {qual : Str} {f : Addr} {cdv : Value} {A : Around} {outer : List Env} {s : Shared} {H : Hp} {E : XK} (hr : RoomG 2 (A.deeper (PyProof.Rows.envOfC qual (defScope s_are_wishes) s.heap.objs.size f cdv))) :
    DSs (cxOf (L2.CX PP w) PP w K mg base ["thing", "person", "many", "one"] qual (defScope s_are_wishes) f cdv A outer s H E) (fun c o _ h => E c o h) [0, 1, 2] (defBody s_are_wishes) (T_are_wishes S_is_below) := by
  have sc := sc_are_wishes
  have tk := tkD (PP := PP) (w := w) (K := K) (mg := mg) (base := base) (N := ["thing", "person", "many", "one"]) (qual := qual) (scope := defScope s_are_wishes) (f := f) (cdv := cdv) (A := A) (outer := outer) (s := s) (H := H) (E := E)
  have hp := hpD (PP := PP) (w := w) (K := K) (mg := mg) (base := base) (N := ["thing", "person", "many", "one"]) (qual := qual) (scope := defScope s_are_wishes) (f := f) (cdv := cdv) (A := A) (outer := outer) (s := s) (H := H) (E := E)
  exact 
  (dss_cons (ds_if (dwn_or (dtn_not (dtn_val (dn_callB call_isiAll rl_isi (by rfl) T.m_isinstance PyProof.Rows.Boot.«isinstance» (dlq_cons (dq_name (pv 0)) (dlq_cons (dn_gty (by rfl) T.m_tuple PyProof.Rows.Boot.«tuple»).dq dlq_nil))).dq)) (dwn_or1 (dtn_not (dtn_val (dn_callB (cr_all (by rfl)) rl_all (by rfl) T.m_all PyProof.Rows.Boot.«all» (dlq_cons (dn_lc rfl sc.nd (diq_seq (dq_name (pv 0))) (own := [("one", 3)]) (bok (N := ["thing", "person", "many", "one"]) (sn := [("thing", .local), ("person", .local), ("many", .cell), ("isinstance", .globalImplicit), ("tuple", .globalImplicit), ("all", .globalImplicit), ("len", .globalImplicit), ("set", .globalImplicit)]) ⟨rfl, by decide +kernel, by decide +kernel, by decide +kernel, by decide +kernel⟩) (fun s H C cl fp => (dg_name sc.nd rfl (.inl rfl))) (fun s H C cl fp => dpts_nil) (fun s H C cl fp => (dn_callQ g_is_below hr (by decide) (by rfl) (dlq_cons (dq_name (pv 3)) (dlq_cons (dq_name (pv 2)) dlq_nil))))).dq dlq_nil)).dq)))).pt.dt 
      (dss_one (ds_ret dn_bl.de)) dss_nil)
  (dss_one (ds_ret (dn_and (dn_cmp (op_notInAll hr.hu) r2_notIn (dq_name (pv 1)) (dq_name (pv 0)) (by with_unfolding_all rfl)).dq (dn_one (dn_cmp (op_eqD hr.hu64) r2_eq (dn_lenSet rfl (by rfl) T.m_len (by rfl) T.m_set (dq_name (pv 0))).dq (dn_callB call_lenAll rl_len (by rfl) T.m_len PyProof.Rows.Boot.«len» (dlq_cons (dq_name (pv 0)) dlq_nil)).dq (nomark _)))).de)))
theorem sc_first_bad : FnScope ["wishes", "person", "row", "one"] ["wishes"] (defScope s_first_bad) := ⟨rfl, rfl, rfl, by decide +kernel, rfl, by decide +kernel, by decide +kernel⟩
def T_first_bad (S_are_wishes : DSp) : DSt :=
  (dSeq (dIfS (dOr (dNot (dTest (dOpL oIsi (dCons (dNameV 0) (dCons (dC (.ty "tuple")) dNil))))) (dNot (dTest (dChain oLe oLe (dC (.int 1)) (dOpL oLen (dCons (dNameV 0) dNil)) (dC (.int 30)))))) 
      (dRet (dOp1 oNeg (dC (.int 1)))) dNext)
  (dSeq (dFor (diEnum (dCons (dFz (dNameV 0)) dNil)) (gTupD 2 (gConsD (gN 1) (gConsD (gN 2) gNilD))) 
      (dIfS (dNot (dTest (dCallQ 3 S_are_wishes (dCons (dNameV 2) (dCons (dNameV 1) (dCons (dOpL oLen (dCons (dNameV 0) dNil)) dNil)))))) 
          (dRet (dMove 1)) dNext))
  (dSeq (dFor (diEnum (dCons (dFz (dNameV 0)) dNil)) (gTupD 2 (gConsD (gN 1) (gConsD (gN 2) gNilD))) 
      (dIfS (dNot (dTest (dOpL oAll (dCons (dLc (diSeq (dNameV 2)) (gN 3) dYes (dOp2 oIn (dNameV 1) (dOp2 oIx (dNameV 0) (dNameV 3))) [3]) dNil)))) 
          (dRet (dMove 1)) dNext))
  (dRet (dC .non)))))
theorem d_first_bad {PP : Program} {w : World} {K : PySem.W.Frag} {mg : Str → Option Value} {base : Heap} {C_NoPairing C_PairError C_Table : Addr} {S_are_wishes : DSp} (T : Tx K mg C_NoPairing C_PairError C_Table) (g_are_wishes : DefOk PP w K mg base "are_wishes" 3 3 S_are_wishes) {qual : Str} {f : Addr} {cdv : Value} {A : Around} {outer : List Env} {s : Shared} {H : Hp} {E : XK} (hr : RoomG 3 (A.deeper (PyProof.Rows.envOfC qual (defScope s_first_bad) s.heap.objs.size f cdv))) :
    DSs (cxOf (L2.CX PP w) PP w K mg base ["wishes", "person", "row", "one"] qual (defScope s_first_bad) f cdv A outer s H E) (fun c o _ h => E c o h) [0] (defBody s_first_bad) (T_first_bad S_are_wishes) := by
  have sc := sc_first_bad
  have tk := tkD (PP := PP) (w := w) (K := K) (mg := mg) (base := base) (N := ["wishes", "person", "row", "one"]) (qual := qual) (scope := defScope s_first_bad) (f := f) (cdv := cdv) (A := A) (outer := outer) (s := s) (H := H) (E := E)
  have hp := hpD (PP := PP) (w := w) (K := K) (mg := mg) (base := base) (N := ["wishes", "person", "row", "one"]) (qual := qual) (scope := defScope s_first_bad) (f := f) (cdv := cdv) (A := A) (outer := outer) (s := s) (H := H) (E := E)
  exact 
  (dss_cons (ds_if (dwn_or (dtn_not (dtn_val (dn_callB call_isiAll rl_isi (by rfl) T.m_isinstance PyProof.Rows.Boot.«isinstance» (dlq_cons (dq_name (pv 0)) (dlq_cons (dn_gty (by rfl) T.m_tuple PyProof.Rows.Boot.«tuple»).dq dlq_nil))).dq)) (dwn_or1 (dtn_not (dtn_chain op_le op_le r_le r_le dn_int.dq (dn_callB call_lenAll rl_len (by rfl) T.m_len PyProof.Rows.Boot.«len» (dlq_cons (dq_name (pv 0)) dlq_nil)).dq (dn_gi (by rfl) T.c_MOST).dq)))).pt.dt 
      (dss_one (ds_ret (dn_neg dn_int.dq).de)) dss_nil)
  (dss_cons (ds_for (L := [1, 2]) (by decide) hp rfl (di_enum (by rfl) T.m_enumerate (dl_cons (dq_name (pv 0)).dn.de dl_nil)) (dg_tup rfl (dgs_cons (dg_name sc.nd rfl (.inr rfl)) (dgs_cons (dg_name sc.nd rfl (.inl rfl)) dgs_nil))) 
      (dss_one (ds_if (dtn_not (dtn_val (dn_callQ g_are_wishes hr (by decide) (by rfl) (dlq_cons (dq_name (pv 2)) (dlq_cons (dq_name (pv 1)) (dlq_cons (dn_callB call_lenAll rl_len (by rfl) T.m_len PyProof.Rows.Boot.«len» (dlq_cons (dq_name (pv 0)) dlq_nil)).dq dlq_nil)))).dq)).dt 
          (dss_one (ds_ret (de_move (pv 1)))) dss_nil)))
  (dss_cons (ds_for (L := [1, 2]) (by decide) hp rfl (di_enum (by rfl) T.m_enumerate (dl_cons (dq_name (pv 0)).dn.de dl_nil)) (dg_tup rfl (dgs_cons (dg_name sc.nd rfl (.inr rfl)) (dgs_cons (dg_name sc.nd rfl (.inl rfl)) dgs_nil))) 
      (dss_one (ds_if (dtn_not (dtn_val (dn_callB (cr_all (by rfl)) rl_all (by rfl) T.m_all PyProof.Rows.Boot.«all» (dlq_cons (dn_lc rfl sc.nd (diq_seq (dq_name (pv 2))) (own := [("one", 3)]) (bok (N := ["wishes", "person", "row", "one"]) (sn := [("wishes", .cell), ("person", .cell), ("row", .local), ("isinstance", .globalImplicit), ("tuple", .globalImplicit), ("len", .globalImplicit), ("MOST", .globalImplicit), ("enumerate", .globalImplicit), ("are_wishes", .globalImplicit), ("all", .globalImplicit)]) ⟨rfl, by decide +kernel, by decide +kernel, by decide +kernel, by decide +kernel⟩) (fun s H C cl fp => (dg_name sc.nd rfl (.inl rfl))) (fun s H C cl fp => dpts_nil) (fun s H C cl fp => (dn_cmp (op_inAll hr.hu) r2_in (dq_name (pv 1)) (dq_ix hr.hu1 (dq_name (pv 0)) (dq_name (pv 3)) (fun _ _ => rfl)) (by with_unfolding_all rfl)))).dq dlq_nil)).dq)).dt 
          (dss_one (ds_ret (de_move (pv 1)))) dss_nil)))
  (dss_one (ds_ret dn_non.de)))))
theorem sc_Table_zz_initzz_ : FnScope ["self", "wishes", "person", "row", "at", "one"] ["self", "wishes"] (defScope s_Table_zz_initzz_) := ⟨rfl, rfl, rfl, by decide +kernel, rfl, by decide +kernel, by decide +kernel⟩
def T_Table_zz_initzz_ (C_Table : Addr) (S_first_bad : DSp) : DSt :=
  (dSeq (dSetF 2 (dCallQ 1 S_first_bad (dCons (dNameV 1) dNil)))
  (dSeq (dIfS (dTest (dOp2 oNotN (dNameV 2) (dC .non))) 
      dNever dNext)
  (dSeq (dFldPut C_Table "wishes" (dFz (dNameV 1)) (lvN 0))
  (dFldPut C_Table "ranks" (dLc (diEnum (dCons (dNameV 1) dNil)) (gTupD 2 (gConsD (gN 2) (gConsD (gN 3) gNilD))) dYes (dDc (diEnum (dCons (dOp2 oAdd (dNameV 3) (dOpL oTup (dCons (dNameV 2) dNil))) dNil)) (gTupD 2 (gConsD (gN 4) (gConsD (gN 5) gNilD))) dYes (dNameV 5) (dNameV 4) [4,5]) [2,3]) (lvN 0)))))
theorem d_Table_zz_initzz_ {PP : Program} {w : World} {K : PySem.W.Frag} {mg : Str → Option Value} {base : Heap} {C_NoPairing C_PairError C_Table : Addr} {S_first_bad : DSp} (T : Tx K mg C_NoPairing C_PairError C_Table) (g_first_bad : DefOk PP w K mg base "first_bad" 4 1 S_first_bad) {qual : Str} {f : Addr} {cdv : Value} {A : Around} {outer : List Env} {s : Shared} {H : Hp} {E : XK} (hr : RoomG 4 (A.deeper (PyProof.Rows.envOfC qual (defScope s_Table_zz_initzz_) s.heap.objs.size f cdv))) :
    DSs (cxOf (L2.CX PP w) PP w K mg base ["self", "wishes", "person", "row", "at", "one"] qual (defScope s_Table_zz_initzz_) f cdv A outer s H E) (fun c o _ h => E c o h) [0, 1] (defBody s_Table_zz_initzz_) (T_Table_zz_initzz_ C_Table S_first_bad) := by
  have sc := sc_Table_zz_initzz_
  have tk := tkD (PP := PP) (w := w) (K := K) (mg := mg) (base := base) (N := ["self", "wishes", "person", "row", "at", "one"]) (qual := qual) (scope := defScope s_Table_zz_initzz_) (f := f) (cdv := cdv) (A := A) (outer := outer) (s := s) (H := H) (E := E)
  have hp := hpD (PP := PP) (w := w) (K := K) (mg := mg) (base := base) (N := ["self", "wishes", "person", "row", "at", "one"]) (qual := qual) (scope := defScope s_Table_zz_initzz_) (f := f) (cdv := cdv) (A := A) (outer := outer) (s := s) (H := H) (E := E)
  exact 
  (dss_cons (ds_setF (i := 2) (by decide) sc.nd rfl (.inl rfl) (dn_callQ g_first_bad hr (by decide) (by rfl) (dlq_cons (dq_name (pv 1)) dlq_nil)).de)
  (dss_cons (ds_if (dtn_cmp op_notN r_notN (dq_name (pv 2)) dn_non.dq (nomark _)).dt 
      (dss_one ds_never) dss_nil)
  (dss_cons (ds_fldPut T.k_Table T.a_Table_wishes (dq_name (pv 1)).dn.de (dp_name (pv 0)))
  (dss_one (ds_fldPut T.k_Table T.a_Table_ranks (dn_lc rfl sc.nd (diq_enum (by rfl) T.m_enumerate (dlq_cons (dq_name (pv 1)) dlq_nil)) (own := [("person", 2),("row", 3)]) (bok (N := ["self", "wishes", "person", "row", "at", "one"]) (sn := [("self", .local), ("wishes", .local), ("person", .local), ("first_bad", .globalImplicit), ("BadTable", .globalImplicit), ("enumerate", .globalImplicit)]) ⟨rfl, by decide +kernel, by decide +kernel, by decide +kernel, by decide +kernel⟩) (fun s H C cl fp => (dg_tup rfl (dgs_cons (dg_name sc.nd rfl (.inl rfl)) (dgs_cons (dg_name sc.nd rfl (.inl rfl)) dgs_nil)))) (fun s H C cl fp => dpts_nil) (fun s H C cl fp => (dn_dc rfl sc.nd (diq_enum (by rfl) T.m_enumerate (dlq_cons (dn_add (dq_name (pv 3)) (dn_tup (dlq_cons (dq_name (pv 2)) dlq_nil)).dq).dq dlq_nil)) (own := [("at", 4),("one", 5)]) (bok (N := ["self", "wishes", "person", "row", "at", "one"]) (sn := [(".0", .local), ("person", .local), ("row", .local), ("enumerate", .globalImplicit)]) ⟨rfl, by decide +kernel, by decide +kernel, by decide +kernel, by decide +kernel⟩) (fun s H C cl fp => (dg_tup rfl (dgs_cons (dg_name sc.nd rfl (.inl rfl)) (dgs_cons (dg_name sc.nd rfl (.inl rfl)) dgs_nil)))) (fun s H C cl fp => dpts_nil) (fun s H C cl fp => (dq_name (pv 5))) (fun s H C cl fp => (dq_name (pv 4)))))).de (dp_name (pv 0)))))))
theorem sc_law_tape : FnScope ["script", "cells", "cell"] ["script"] (defScope s_law_tape) := ⟨rfl, rfl, rfl, by decide +kernel, rfl, by decide +kernel, by decide +kernel⟩
def T_law_tape : DSt :=
  (dSeq (dSetF 1 (dLc (diSeq (dSl (dNameV 0) dNoPart (dPart (dC (.int 63))))) (gN 2) dYes (dOpL oAbs (dCons (dOpL oInt (dCons (dNameV 2) dNil)) dNil)) [2]))
  (dRet (dOpL oLst (dCons (dNameV 1) (dCons (dC (.int 0)) (dCons (dC (.int 0)) (dCons (dOp2 oAdd (dC (.int 31)) (dOpL oLen (dCons (dNameV 1) dNil))) (dCons (dC (.int 0)) dNil))))))))
theorem d_law_tape {PP : Program} {w : World} {K : PySem.W.Frag} {mg : Str → Option Value} {base : Heap} {C_NoPairing C_PairError C_Table : Addr} (T : Tx K mg C_NoPairing C_PairError C_Table) {qual : Str} {f : Addr} {cdv : Value} {A : Around} {outer : List Env} {s : Shared} {H : Hp} {E : XK} (hr : RoomG 0 (A.deeper (PyProof.Rows.envOfC qual (defScope s_law_tape) s.heap.objs.size f cdv))) :
    DSs (cxOf (L2.CX PP w) PP w K mg base ["script", "cells", "cell"] qual (defScope s_law_tape) f cdv A outer s H E) (fun c o _ h => E c o h) [0] (defBody s_law_tape) (T_law_tape ) := by
  have sc := sc_law_tape
  have tk := tkD (PP := PP) (w := w) (K := K) (mg := mg) (base := base) (N := ["script", "cells", "cell"]) (qual := qual) (scope := defScope s_law_tape) (f := f) (cdv := cdv) (A := A) (outer := outer) (s := s) (H := H) (E := E)
  have hp := hpD (PP := PP) (w := w) (K := K) (mg := mg) (base := base) (N := ["script", "cells", "cell"]) (qual := qual) (scope := defScope s_law_tape) (f := f) (cdv := cdv) (A := A) (outer := outer) (s := s) (H := H) (E := E)
  exact 
  (dss_cons (ds_setLcF (i := 1) (by decide) rfl sc.nd rfl rfl rfl (diq_seq (dn_slice (dq_name (pv 0)) dpo_none (dpo_some dn_int.dq)).dq) (own := [("cell", 2)]) (bok (N := ["script", "cells", "cell"]) (sn := [("script", .local), ("cells", .local), ("len", .globalImplicit)]) ⟨rfl, by decide +kernel, by decide +kernel, by decide +kernel, by decide +kernel⟩) (fun s H C cl fp => (dg_name sc.nd rfl (.inl rfl))) (fun s H C cl fp => dpts_nil) (fun s H C cl fp => (dn_callB call_abs rl_abs (by rfl) T.m_abs PyProof.Rows.Boot.«abs» (dlq_cons (dn_callTy call_int1 rl_int (by rfl) T.m_int PyProof.Rows.Boot.«int» (dlq_cons (dq_name (pv 2)) dlq_nil)).dq dlq_nil))))
  (dss_one (ds_ret (dn_lst (dlq_cons (dq_name (pv 1)) (dlq_cons dn_int.dq (dlq_cons dn_int.dq (dlq_cons (dn_add dn_int.dq (dn_callB call_lenAll rl_len (by rfl) T.m_len PyProof.Rows.Boot.«len» (dlq_cons (dq_name (pv 1)) dlq_nil)).dq).dq (dlq_cons dn_int.dq dlq_nil)))))).de)))
theorem sc_law_pick : FnScope ["tape", "many", "cell", "digit", "number"] ["tape", "many"] (defScope s_law_pick) := ⟨rfl, rfl, rfl, by decide +kernel, rfl, by decide +kernel, by decide +kernel⟩
def T_law_pick : DSt :=
  (dSeq (dIfS (dAnd (dTest (dOp2 oEq (dOp2 oIx (dNameV 0) (dC (.int 2))) (dC (.int 0)))) (dTest (dOp2 oLt (dOp2 oIx (dNameV 0) (dC (.int 1))) (dOpL oLen (dCons (dOp2 oIx (dNameV 0) (dC (.int 0))) dNil))))) 
      (dSeq (dSetF 2 (dFz (dOp2 oIx (dOp2 oIx (dNameV 0) (dC (.int 0))) (dOp2 oIx (dNameV 0) (dC (.int 1))))))
      (dSeq (dPut (dOp2 oAdd (dOp2 oIx (dNameV 0) (dC (.int 1))) (dC (.int 1))) (lvN 0) (dC (.int 1)))
      (dSeq (dPut (dOp2 oMod (dOpL oInt (dCons (dOp2 oAdd (dOp2 oAdd (dOp2 oMul (dOp2 oIx (dNameV 0) (dC (.int 3))) (dC (.int 69621))) (dNameV 2)) (dC (.int 11))) dNil)) (dC (.int 2147483629))) (lvN 0) (dC (.int 3)))
      (dIfS (dTest (dOp2 oGe (dNameV 2) (dOp2 oPow (dC (.int 10)) (dC (.int 18))))) 
          (dPut (dFz (dNameV 2)) (lvN 0) (dC (.int 2))) dNext)))) dNext)
  (dSeq (dIfS (dTest (dOp2 oGt (dOp2 oIx (dNameV 0) (dC (.int 2))) (dC (.int 0)))) 
      (dSeq (dSetF 3 (dOp2 oMod (dOpL oInt (dCons (dOp2 oIx (dNameV 0) (dC (.int 2))) dNil)) (dNameV 1)))
      (dSeq (dPut (dOp2 oFdiv (dOp2 oIx (dNameV 0) (dC (.int 2))) (dNameV 1)) (lvN 0) (dC (.int 2)))
      (dRet (dMove 3)))) dNext)
  (dSeq (dPut (dOp2 oAdd (dOp2 oIx (dNameV 0) (dC (.int 4))) (dC (.int 1))) (lvN 0) (dC (.int 4)))
  (dSeq (dSetF 4 (dOp2 oMod (dOpL oInt (dCons (dOp2 oMul (dOpL oInt (dCons (dOp2 oAdd (dOp2 oIx (dNameV 0) (dC (.int 3))) (dOp2 oMul (dC (.int 7919)) (dOp2 oIx (dNameV 0) (dC (.int 4))))) dNil)) (dC (.int 48271))) dNil)) (dC (.int 2147483647))))
  (dSeq (dSetF 4 (dOp2 oMod (dOpL oInt (dCons (dOp2 oMul (dNameV 4) (dOp2 oAdd (dOp2 oFdiv (dNameV 4) (dC (.int 1009))) (dC (.int 69621)))) dNil)) (dC (.int 2147483647))))
  (dSeq (dSetF 4 (dOp2 oMod (dOpL oInt (dCons (dOp2 oMul (dNameV 4) (dOp2 oAdd (dOp2 oFdiv (dNameV 4) (dC (.int 2003))) (dC (.int 40692)))) dNil)) (dC (.int 2147483399))))
  (dRet (dOp2 oMod (dOpL oInt (dCons (dOp2 oFdiv (dNameV 4) (dC (.int 16))) dNil)) (dNameV 1)))))))))
theorem d_law_pick {PP : Program} {w : World} {K : PySem.W.Frag} {mg : Str → Option Value} {base : Heap} {C_NoPairing C_PairError C_Table : Addr} (T : Tx K mg C_NoPairing C_PairError C_Table) {qual : Str} {f : Addr} {cdv : Value} {A : Around} {outer : List Env} {s : Shared} {H : Hp} {E : XK} (hr : RoomG 0 (A.deeper (PyProof.Rows.envOfC qual (defScope s_law_pick) s.heap.objs.size f cdv))) :
    DSs (cxOf (L2.CX PP w) PP w K mg base ["tape", "many", "cell", "digit", "number"] qual (defScope s_law_pick) f cdv A outer s H E) (fun c o _ h => E c o h) [0, 1] (defBody s_law_pick) (T_law_pick ) := by
  have sc := sc_law_pick
  have tk := tkD (PP := PP) (w := w) (K := K) (mg := mg) (base := base) (N := ["tape", "many", "cell", "digit", "number"]) (qual := qual) (scope := defScope s_law_pick) (f := f) (cdv := cdv) (A := A) (outer := outer) (s := s) (H := H) (E := E)
  have hp := hpD (PP := PP) (w := w) (K := K) (mg := mg) (base := base) (N := ["tape", "many", "cell", "digit", "number"]) (qual := qual) (scope := defScope s_law_pick) (f := f) (cdv := cdv) (A := A) (outer := outer) (s := s) (H := H) (E := E)
  exact 
  (dss_cons (ds_if (dwn_and (dtn_cmp (op_eqD hr.hu64) r2_eq (dq_ix hr.hu1 (dq_name (pv 0)) dn_int.dq (fun _ _ => rfl)) dn_int.dq (nomark _)) (dwn_and1 (dtn_cmp op_lt r_lt (dq_ix hr.hu1 (dq_name (pv 0)) dn_int.dq (fun _ _ => rfl)) (dn_callB call_lenAll rl_len (by rfl) T.m_len PyProof.Rows.Boot.«len» (dlq_cons (dq_ix hr.hu1 (dq_name (pv 0)) dn_int.dq (fun _ _ => rfl)) dlq_nil)).dq (nomark _)))).pt.dt 
      (dss_cons (ds_setF (i := 2) (by decide) sc.nd rfl (.inl rfl) (dq_ix hr.hu1 (dq_ix hr.hu1 (dq_name (pv 0)) dn_int.dq (fun _ _ => rfl)) (dq_ix hr.hu1 (dq_name (pv 0)) dn_int.dq (fun _ _ => rfl)) (fun _ _ => rfl)).dn.de)
      (dss_cons (ds_put hr.hu1 (dn_add (dq_ix hr.hu1 (dq_name (pv 0)) dn_int.dq (fun _ _ => rfl)) dn_int.dq).de (dp_name (pv 0)) dn_int.dq)
      (dss_cons (ds_put hr.hu1 (dn_mod (dn_callTy call_int1 rl_int (by rfl) T.m_int PyProof.Rows.Boot.«int» (dlq_cons (dn_add (dn_add (dn_mul (dq_ix hr.hu1 (dq_name (pv 0)) dn_int.dq (fun _ _ => rfl)) dn_int.dq).dq (dq_name (pv 2))).dq dn_int.dq).dq dlq_nil)).dq dn_int.dq).de (dp_name (pv 0)) dn_int.dq)
      (dss_one (ds_if (dtn_cmp op_ge r_ge (dq_name (pv 2)) (dn_pow dn_int.dq dn_int.dq).dq (nomark _)).dt 
          (dss_one (ds_put hr.hu1 (dq_name (pv 2)).dn.de (dp_name (pv 0)) dn_int.dq)) dss_nil))))) dss_nil)
  (dss_cons (ds_if (dtn_cmp op_gt r_gt (dq_ix hr.hu1 (dq_name (pv 0)) dn_int.dq (fun _ _ => rfl)) dn_int.dq (nomark _)).dt 
      (dss_cons (ds_setF (i := 3) (by decide) sc.nd rfl (.inl rfl) (dn_mod (dn_callTy call_int1 rl_int (by rfl) T.m_int PyProof.Rows.Boot.«int» (dlq_cons (dq_ix hr.hu1 (dq_name (pv 0)) dn_int.dq (fun _ _ => rfl)) dlq_nil)).dq (dq_name (pv 1))).de)
      (dss_cons (ds_put hr.hu1 (dn_fdiv (dq_ix hr.hu1 (dq_name (pv 0)) dn_int.dq (fun _ _ => rfl)) (dq_name (pv 1))).de (dp_name (pv 0)) dn_int.dq)
      (dss_one (ds_ret (de_move (pv 3)))))) dss_nil)
  (dss_cons (ds_put hr.hu1 (dn_add (dq_ix hr.hu1 (dq_name (pv 0)) dn_int.dq (fun _ _ => rfl)) dn_int.dq).de (dp_name (pv 0)) dn_int.dq)
  (dss_cons (ds_setF (i := 4) (by decide) sc.nd rfl (.inl rfl) (dn_mod (dn_callTy call_int1 rl_int (by rfl) T.m_int PyProof.Rows.Boot.«int» (dlq_cons (dn_mul (dn_callTy call_int1 rl_int (by rfl) T.m_int PyProof.Rows.Boot.«int» (dlq_cons (dn_add (dq_ix hr.hu1 (dq_name (pv 0)) dn_int.dq (fun _ _ => rfl)) (dn_mul dn_int.dq (dq_ix hr.hu1 (dq_name (pv 0)) dn_int.dq (fun _ _ => rfl))).dq).dq dlq_nil)).dq dn_int.dq).dq dlq_nil)).dq dn_int.dq).de)
  (dss_cons (ds_setF (i := 4) (by decide) sc.nd rfl (.inl rfl) (dn_mod (dn_callTy call_int1 rl_int (by rfl) T.m_int PyProof.Rows.Boot.«int» (dlq_cons (dn_mul (dq_name (pv 4)) (dn_add (dn_fdiv (dq_name (pv 4)) dn_int.dq).dq dn_int.dq).dq).dq dlq_nil)).dq dn_int.dq).de)
  (dss_cons (ds_setF (i := 4) (by decide) sc.nd rfl (.inl rfl) (dn_mod (dn_callTy call_int1 rl_int (by rfl) T.m_int PyProof.Rows.Boot.«int» (dlq_cons (dn_mul (dq_name (pv 4)) (dn_add (dn_fdiv (dq_name (pv 4)) dn_int.dq).dq dn_int.dq).dq).dq dlq_nil)).dq dn_int.dq).de)
  (dss_one (ds_ret (dn_mod (dn_callTy call_int1 rl_int (by rfl) T.m_int PyProof.Rows.Boot.«int» (dlq_cons (dn_fdiv (dq_name (pv 4)) dn_int.dq).dq dlq_nil)).dq (dq_name (pv 1))).de))))))))
theorem sc_law_any : FnScope ["tape", "things"] ["tape", "things"] (defScope s_law_any) := ⟨rfl, rfl, rfl, by decide +kernel, rfl, by decide +kernel, by decide +kernel⟩
def T_law_any (S_law_pick : DSp) : DSt :=
  (dRet (dOp2 oIxF (dFz (dNameV 1)) (dCallI 2 S_law_pick 0 (dCons (dOpL oLen (dCons (dNameV 1) dNil)) dNil))))
theorem d_law_any {PP : Program} {w : World} {K : PySem.W.Frag} {mg : Str → Option Value} {base : Heap} {C_NoPairing C_PairError C_Table : Addr} {S_law_pick : DSp} (T : Tx K mg C_NoPairing C_PairError C_Table) (g_law_pick : DefOk PP w K mg base "_law_pick" 1 2 S_law_pick) {qual : Str} {f : Addr} {cdv : Value} {A : Around} {outer : List Env} {s : Shared} {H : Hp} {E : XK} (hr : RoomG 1 (A.deeper (PyProof.Rows.envOfC qual (defScope s_law_any) s.heap.objs.size f cdv))) :
    DSs (cxOf (L2.CX PP w) PP w K mg base ["tape", "things"] qual (defScope s_law_any) f cdv A outer s H E) (fun c o _ h => E c o h) [0, 1] (defBody s_law_any) (T_law_any S_law_pick) := by
  have sc := sc_law_any
  have tk := tkD (PP := PP) (w := w) (K := K) (mg := mg) (base := base) (N := ["tape", "things"]) (qual := qual) (scope := defScope s_law_any) (f := f) (cdv := cdv) (A := A) (outer := outer) (s := s) (H := H) (E := E)
  have hp := hpD (PP := PP) (w := w) (K := K) (mg := mg) (base := base) (N := ["tape", "things"]) (qual := qual) (scope := defScope s_law_any) (f := f) (cdv := cdv) (A := A) (outer := outer) (s := s) (H := H) (E := E)
  exact 
  (dss_one (ds_ret (de_ix hr.hu1 (dq_name (pv 1)).dn.de (de_callDI 0 g_law_pick hr (by decide) (by rfl) (pv 0) (dl_cons (dn_callB call_lenAll rl_len (by rfl) T.m_len PyProof.Rows.Boot.«len» (dlq_cons (dq_name (pv 1)) dlq_nil)).de dl_nil)).view (fun _ _ => rfl))))
theorem sc_law_mixed : FnScope ["tape", "things", "left", "found"] ["tape", "things"] (defScope s_law_mixed) := ⟨rfl, rfl, rfl, by decide +kernel, rfl, by decide +kernel, by decide +kernel⟩
def T_law_mixed (S_law_pick : DSp) : DSt :=
  (dSeq (dParF 2 3 false false (dCons (dOpL oList (dCons (dNameV 1) dNil)) (dCons (dOpL oLst dNil) dNil)))
  (dSeq (dWhile (dTest (dOp2 oGt (dOpL oLen (dCons (dNameV 2) dNil)) (dC (.int 0)))) 
      (dDrop (dLm "list" mAppend 3 (dCons (dLm "list" mPopAt 2 (dCons (dCallI 2 S_law_pick 0 (dCons (dOpL oLen (dCons (dNameV 2) dNil)) dNil)) dNil)) dNil))))
  (dRet (dMove 3))))
theorem d_law_mixed {PP : Program} {w : World} {K : PySem.W.Frag} {mg : Str → Option Value} {base : Heap} {C_NoPairing C_PairError C_Table : Addr} {S_law_pick : DSp} (T : Tx K mg C_NoPairing C_PairError C_Table) (g_law_pick : DefOk PP w K mg base "_law_pick" 1 2 S_law_pick) {qual : Str} {f : Addr} {cdv : Value} {A : Around} {outer : List Env} {s : Shared} {H : Hp} {E : XK} (hr : RoomG 1 (A.deeper (PyProof.Rows.envOfC qual (defScope s_law_mixed) s.heap.objs.size f cdv))) :
    DSs (cxOf (L2.CX PP w) PP w K mg base ["tape", "things", "left", "found"] qual (defScope s_law_mixed) f cdv A outer s H E) (fun c o _ h => E c o h) [0, 1] (defBody s_law_mixed) (T_law_mixed S_law_pick) := by
  have sc := sc_law_mixed
  have tk := tkD (PP := PP) (w := w) (K := K) (mg := mg) (base := base) (N := ["tape", "things", "left", "found"]) (qual := qual) (scope := defScope s_law_mixed) (f := f) (cdv := cdv) (A := A) (outer := outer) (s := s) (H := H) (E := E)
  have hp := hpD (PP := PP) (w := w) (K := K) (mg := mg) (base := base) (N := ["tape", "things", "left", "found"]) (qual := qual) (scope := defScope s_law_mixed) (f := f) (cdv := cdv) (A := A) (outer := outer) (s := s) (H := H) (E := E)
  exact 
  (dss_cons (ds_parF (i := 2) (j := 3) false false (by decide) (by decide) rfl sc.nd rfl rfl (by decide) rfl rfl (dl_cons (dn_callTy call_list_of rl_list (by rfl) T.m_list PyProof.Rows.Boot.«list» (dlq_cons (dq_name (pv 1)) dlq_nil)).de (dl_cons (dn_lst dlq_nil).de dl_nil)) rfl)
  (dss_cons (ds_while hp (dtn_cmp op_gt r_gt (dn_callB call_lenAll rl_len (by rfl) T.m_len PyProof.Rows.Boot.«len» (dlq_cons (dq_name (pv 2)) dlq_nil)).dq dn_int.dq (nomark _)).dt 
      (dss_one (ds_expr (de_lm (i := 3) PySem.F.plainAttrs_list PySem.F.slot_list_append PySem.F.type_list_append (mt_of mt_append) md_append (pv 3) (dl_cons (de_lm (i := 2) PySem.F.plainAttrs_list PySem.F.slot_list_pop PySem.F.type_list_pop (mt_of mt_popAt) md_popAt (pv 2) (dl_cons (de_callDI 0 g_law_pick hr (by decide) (by rfl) (pv 0) (dl_cons (dn_callB call_lenAll rl_len (by rfl) T.m_len PyProof.Rows.Boot.«len» (dlq_cons (dq_name (pv 2)) dlq_nil)).de dl_nil)) dl_nil)) dl_nil)))))
  (dss_one (ds_ret (de_move (pv 3))))))
theorem sc_law_wishes : FnScope ["tape", "count", "share", "found", "one", "other", "person", "some"] ["tape", "count"] (defScope s_law_wishes) := ⟨rfl, rfl, rfl, by decide +kernel, rfl, by decide +kernel, by decide +kernel⟩
def T_law_wishes (S_law_pick S_law_mixed : DSp) : DSt :=
  (dSeq (dParF 2 3 true false (dCons (dOp2 oAdd (dC (.int 1)) (dCallI 2 S_law_pick 0 (dCons (dC (.int 4)) dNil))) (dCons (dLc (diRange1 (dCons (dNameV 1) dNil)) (gN 6) dYes (dOpL oLst dNil) [6]) dNil)))
  (dSeq (dFor (diRange1 (dCons (dFz (dNameV 1)) dNil)) (gN 4) 
      (dFor (diRange1 (dCons (dFz (dNameV 4)) dNil)) (gN 5) 
          (dIfS (dTest (dOp2 oLt (dCallI 2 S_law_pick 0 (dCons (dC (.int 4)) dNil)) (dNameV 2))) 
              (dSeq (dDrop (dLmP "list" mAppend (lvIx (lvN 3) (dNameV 4)) (dCons (dFz (dNameV 5)) dNil)))
              (dDrop (dLmP "list" mAppend (lvIx (lvN 3) (dNameV 5)) (dCons (dFz (dNameV 4)) dNil)))) dNext)))
  (dRet (dOpL oTuple (dCons (dLcE (diSeq (dName 3)) (gN 7) dYes (dOpL oTuple (dCons (dCallI 2 S_law_mixed 0 (dCons (dFz (dNameV 7)) dNil)) dNil)) [7]) dNil)))))
theorem d_law_wishes {PP : Program} {w : World} {K : PySem.W.Frag} {mg : Str → Option Value} {base : Heap} {C_NoPairing C_PairError C_Table : Addr} {S_law_pick S_law_mixed : DSp} (T : Tx K mg C_NoPairing C_PairError C_Table) (g_law_pick : DefOk PP w K mg base "_law_pick" 1 2 S_law_pick) (g_law_mixed : DefOk PP w K mg base "_law_mixed" 2 2 S_law_mixed) {qual : Str} {f : Addr} {cdv : Value} {A : Around} {outer : List Env} {s : Shared} {H : Hp} {E : XK} (hr : RoomG 2 (A.deeper (PyProof.Rows.envOfC qual (defScope s_law_wishes) s.heap.objs.size f cdv))) :
    DSs (cxOf (L2.CX PP w) PP w K mg base ["tape", "count", "share", "found", "one", "other", "person", "some"] qual (defScope s_law_wishes) f cdv A outer s H E) (fun c o _ h => E c o h) [0, 1] (defBody s_law_wishes) (T_law_wishes S_law_pick S_law_mixed) := by
  have sc := sc_law_wishes
  have tk := tkD (PP := PP) (w := w) (K := K) (mg := mg) (base := base) (N := ["tape", "count", "share", "found", "one", "other", "person", "some"]) (qual := qual) (scope := defScope s_law_wishes) (f := f) (cdv := cdv) (A := A) (outer := outer) (s := s) (H := H) (E := E)
  have hp := hpD (PP := PP) (w := w) (K := K) (mg := mg) (base := base) (N := ["tape", "count", "share", "found", "one", "other", "person", "some"]) (qual := qual) (scope := defScope s_law_wishes) (f := f) (cdv := cdv) (A := A) (outer := outer) (s := s) (H := H) (E := E)
  exact 
  (dss_cons (ds_parF (i := 2) (j := 3) true false (by decide) (by decide) rfl sc.nd rfl rfl (by decide) rfl rfl (dl_cons (de_add dn_int.de (de_callDI 0 g_law_pick hr (by decide) (by rfl) (pv 0) (dl_cons dn_int.de dl_nil)).view) (dl_cons (dn_lc rfl sc.nd (diq_range1 (by rfl) T.m_range (dlq_cons (dq_name (pv 1)) dlq_nil)) (own := [("person", 6)]) (bok (N := ["tape", "count", "share", "found", "one", "other", "person", "some"]) (sn := [("tape", .cell), ("count", .local), ("share", .local), ("found", .local), ("one", .local), ("other", .local), ("_law_pick", .globalImplicit), ("range", .globalImplicit), ("tuple", .globalImplicit)]) ⟨rfl, by decide +kernel, by decide +kernel, by decide +kernel, by decide +kernel⟩) (fun s H C cl fp => (dg_name sc.nd rfl (.inl rfl))) (fun s H C cl fp => dpts_nil) (fun s H C cl fp => (dn_lst dlq_nil))).de dl_nil)) rfl)
  (dss_cons (ds_for (L := [4]) (by decide) hp rfl (di_range1 (by rfl) T.m_range (dl_cons (dq_name (pv 1)).dn.de dl_nil)) (dg_name sc.nd rfl (.inl rfl)) 
      (dss_one (ds_for (L := [5]) (by decide) hp rfl (di_range1 (by rfl) T.m_range (dl_cons (dq_name (pv 4)).dn.de dl_nil)) (dg_name sc.nd rfl (.inl rfl)) 
          (dss_one (ds_if (dt_cmp op_lt r_lt (de_callDI 0 g_law_pick hr (by decide) (by rfl) (pv 0) (dl_cons dn_int.de dl_nil)) (dq_name (pv 2)).dv (nomark _)) 
              (dss_cons (ds_expr (de_lmP PySem.F.plainAttrs_list PySem.F.slot_list_append PySem.F.type_list_append (mt_of mt_append) md_append (dp_ix hr.hu1 (dp_name (pv 3)) (dq_name (pv 4)) (fun _ _ => rfl)) (dln_cons (dq_name (pv 5)).dn dln_nil)))
              (dss_one (ds_expr (de_lmP PySem.F.plainAttrs_list PySem.F.slot_list_append PySem.F.type_list_append (mt_of mt_append) md_append (dp_ix hr.hu1 (dp_name (pv 3)) (dq_name (pv 5)) (fun _ _ => rfl)) (dln_cons (dq_name (pv 4)).dn dln_nil))))) dss_nil)))))
  (dss_one (ds_ret (de_callTy call_tupOfZ rl_tuple (by rfl) T.m_tuple PyProof.Rows.Boot.«tuple» (dl_cons (de_lc rfl sc.nd (di_seq (de_name (pv 3))) (own := [("some", 7)]) (bok (N := ["tape", "count", "share", "found", "one", "other", "person", "some"]) (sn := [("tape", .cell), ("count", .local), ("share", .local), ("found", .local), ("one", .local), ("other", .local), ("_law_pick", .globalImplicit), ("range", .globalImplicit), ("tuple", .globalImplicit)]) ⟨rfl, by decide +kernel, by decide +kernel, by decide +kernel, by decide +kernel⟩) (fun s H C cl fp => (dg_name sc.nd rfl (.inl rfl))) (fun s H C cl fp => dptsE_nil) (fun s H C cl fp => (de_callTy call_tupOfZ rl_tuple (by rfl) T.m_tuple PyProof.Rows.Boot.«tuple» (dl_cons (de_callDI 0 g_law_mixed hr (by decide) (by rfl) (pv 0) (dl_cons (dq_name (pv 7)).dn.de dl_nil)) dl_nil)))) dl_nil))))))
theorem sc_law_count : FnScope ["tape"] ["tape"] (defScope s_law_count) := ⟨rfl, rfl, rfl, by decide +kernel, rfl, by decide +kernel, by decide +kernel⟩
def T_law_count (S_law_pick : DSp) : DSt :=
  (dRet (dIf (dTest (dOp2 oEq (dCallI 2 S_law_pick 0 (dCons (dC (.int 12)) dNil)) (dC (.int 0)))) (dOp2 oAdd (dC (.int 1)) (dCallI 2 S_law_pick 0 (dCons (dC (.int 30)) dNil))) (dOp2 oAdd (dC (.int 1)) (dCallI 2 S_law_pick 0 (dCons (dC (.int 7)) dNil)))))
theorem d_law_count {PP : Program} {w : World} {K : PySem.W.Frag} {mg : Str → Option Value} {base : Heap} {C_NoPairing C_PairError C_Table : Addr} {S_law_pick : DSp} (T : Tx K mg C_NoPairing C_PairError C_Table) (g_law_pick : DefOk PP w K mg base "_law_pick" 1 2 S_law_pick) {qual : Str} {f : Addr} {cdv : Value} {A : Around} {outer : List Env} {s : Shared} {H : Hp} {E : XK} (hr : RoomG 1 (A.deeper (PyProof.Rows.envOfC qual (defScope s_law_count) s.heap.objs.size f cdv))) :
    DSs (cxOf (L2.CX PP w) PP w K mg base ["tape"] qual (defScope s_law_count) f cdv A outer s H E) (fun c o _ h => E c o h) [0] (defBody s_law_count) (T_law_count S_law_pick) := by
  have sc := sc_law_count
  have tk := tkD (PP := PP) (w := w) (K := K) (mg := mg) (base := base) (N := ["tape"]) (qual := qual) (scope := defScope s_law_count) (f := f) (cdv := cdv) (A := A) (outer := outer) (s := s) (H := H) (E := E)
  have hp := hpD (PP := PP) (w := w) (K := K) (mg := mg) (base := base) (N := ["tape"]) (qual := qual) (scope := defScope s_law_count) (f := f) (cdv := cdv) (A := A) (outer := outer) (s := s) (H := H) (E := E)
  exact 
  (dss_one (ds_ret (de_ifExp (dt_cmp (op_eqD hr.hu64) r2_eq (de_callDI 0 g_law_pick hr (by decide) (by rfl) (pv 0) (dl_cons dn_int.de dl_nil)) dn_int.dq.dv (nomark _)) (de_add dn_int.de (de_callDI 0 g_law_pick hr (by decide) (by rfl) (pv 0) (dl_cons dn_int.de dl_nil)).view) (de_add dn_int.de (de_callDI 0 g_law_pick hr (by decide) (by rfl) (pv 0) (dl_cons dn_int.de dl_nil)).view))))
theorem sc_law_all : FnScope ["wishes", "found", "person", "longer", "row", "other", "mine"] ["wishes"] (defScope s_law_all) := ⟨rfl, rfl, rfl, by decide +kernel, rfl, by decide +kernel, by decide +kernel⟩
def T_law_all : DSt :=
  (dSeq (dSetF 1 (dOpL oLst (dCons (dOpL oTup dNil) dNil)))
  (dSeq (dFor (diRange1 (dCons (dOpL oLen (dCons (dNameV 0) dNil)) dNil)) (gN 2) 
      (dSeq (dSet 3 (dOpL oLst dNil))
      (dSeq (dFor (diSeq (dFz (dNameV 1))) (gN 4) 
          (dSeq (dSetF 6 (dLc (diRange1 (dCons (dNameV 2) dNil)) (gN 5) (dTest (dOp2 oEq (dOp2 oIx (dNameV 4) (dNameV 5)) (dNameV 2))) (dFz (dNameV 5)) [5]))
          (dSeq (dSetF 6 (dFz (dIf (dTest (dOp2 oGt (dOpL oLen (dCons (dNameV 6) dNil)) (dC (.int 0)))) (dNameV 6) (dOp2 oAdd (dOpL oTup (dCons (dNameV 2) dNil)) (dOp2 oIx (dNameV 0) (dNameV 2))))))
          (dFor (diSeq (dFz (dNameV 6))) (gN 5) 
              (dIfS (dOr (dTest (dOp2 oGe (dNameV 5) (dNameV 2))) (dTest (dOp2 oEq (dOp2 oIx (dNameV 4) (dNameV 5)) (dNameV 2)))) 
                  (dDrop (dLm "list" mAppend 3 (dCons (dOp2 oAdd (dNameV 4) (dOpL oTup (dCons (dNameV 5) dNil))) dNil))) dNext)))))
      (dSetF 1 (dName 3)))))
  (dRet (dLc (diSeq (dNameV 1)) (gN 4) (dTest (dOpL oAll (dCons (dLc (diRange1 (dCons (dOpL oLen (dCons (dNameV 0) dNil)) dNil)) (gN 2) dYes (dOp2 oEq (dOp2 oIx (dNameV 4) (dOp2 oIx (dNameV 4) (dNameV 2))) (dNameV 2)) [2]) dNil))) (dFz (dNameV 4)) [4]))))
theorem d_law_all {PP : Program} {w : World} {K : PySem.W.Frag} {mg : Str → Option Value} {base : Heap} {C_NoPairing C_PairError C_Table : Addr} (T : Tx K mg C_NoPairing C_PairError C_Table) {qual : Str} {f : Addr} {cdv : Value} {A : Around} {outer : List Env} {s : Shared} {H : Hp} {E : XK} (hr : RoomG 0 (A.deeper (PyProof.Rows.envOfC qual (defScope s_law_all) s.heap.objs.size f cdv))) :
    DSs (cxOf (L2.CX PP w) PP w K mg base ["wishes", "found", "person", "longer", "row", "other", "mine"] qual (defScope s_law_all) f cdv A outer s H E) (fun c o _ h => E c o h) [0] (defBody s_law_all) (T_law_all ) := by
  have sc := sc_law_all
  have tk := tkD (PP := PP) (w := w) (K := K) (mg := mg) (base := base) (N := ["wishes", "found", "person", "longer", "row", "other", "mine"]) (qual := qual) (scope := defScope s_law_all) (f := f) (cdv := cdv) (A := A) (outer := outer) (s := s) (H := H) (E := E)
  have hp := hpD (PP := PP) (w := w) (K := K) (mg := mg) (base := base) (N := ["wishes", "found", "person", "longer", "row", "other", "mine"]) (qual := qual) (scope := defScope s_law_all) (f := f) (cdv := cdv) (A := A) (outer := outer) (s := s) (H := H) (E := E)
  exact 
  (dss_cons (ds_setF (i := 1) (by decide) sc.nd rfl (.inl rfl) (dn_lst (dlq_cons (dn_tup dlq_nil).dq dlq_nil)).de)
  (dss_cons (ds_for (L := [2]) (by decide) hp rfl (di_range1 (by rfl) T.m_range (dl_cons (dn_callB call_lenAll rl_len (by rfl) T.m_len PyProof.Rows.Boot.«len» (dlq_cons (dq_name (pv 0)) dlq_nil)).de dl_nil)) (dg_name sc.nd rfl (.inr rfl)) 
      (dss_cons (ds_set (i := 3) (by decide) sc.nd rfl (.inl rfl) (dn_lst dlq_nil).de)
      (dss_cons (ds_for (L := [4]) (by decide) hp rfl (di_seq (dq_name (pv 1)).dn.de) (dg_name sc.nd rfl (.inr rfl)) 
          (dss_cons (ds_setLcF (i := 6) (by decide) rfl sc.nd rfl rfl rfl (diq_range1 (by rfl) T.m_range (dlq_cons (dq_name (pv 2)) dlq_nil)) (own := [("other", 5)]) (bok (N := ["wishes", "found", "person", "longer", "row", "other", "mine"]) (sn := [("wishes", .cell), ("found", .local), ("person", .cell), ("longer", .local), ("row", .cell), ("other", .local), ("mine", .local), ("range", .globalImplicit), ("len", .globalImplicit)]) ⟨rfl, by decide +kernel, by decide +kernel, by decide +kernel, by decide +kernel⟩) (fun s H C cl fp => (dg_name sc.nd rfl (.inl rfl))) (fun s H C cl fp => (dpts_one (dtn_cmp (op_eqD hr.hu64) r2_eq (dq_ix hr.hu1 (dq_name (pv 4)) (dq_name (pv 5)) (fun _ _ => rfl)) (dq_name (pv 2)) (nomark _)))) (fun s H C cl fp => (dq_name (pv 5)).dn))
          (dss_cons (ds_setF (i := 6) (by decide) sc.nd rfl (.inl rfl) (dq_ifExp (dtn_cmp op_gt r_gt (dn_callB call_lenAll rl_len (by rfl) T.m_len PyProof.Rows.Boot.«len» (dlq_cons (dq_name (pv 6)) dlq_nil)).dq dn_int.dq (nomark _)) (dq_name (pv 6)) (dn_add (dn_tup (dlq_cons (dq_name (pv 2)) dlq_nil)).dq (dq_ix hr.hu1 (dq_name (pv 0)) (dq_name (pv 2)) (fun _ _ => rfl))).dq).dn.de)
          (dss_one (ds_for (L := [5]) (by decide) hp rfl (di_seq (dq_name (pv 6)).dn.de) (dg_name sc.nd rfl (.inl rfl)) 
              (dss_one (ds_if (dwn_or (dtn_cmp op_ge r_ge (dq_name (pv 5)) (dq_name (pv 2)) (nomark _)) (dwn_or1 (dtn_cmp (op_eqD hr.hu64) r2_eq (dq_ix hr.hu1 (dq_name (pv 4)) (dq_name (pv 5)) (fun _ _ => rfl)) (dq_name (pv 2)) (nomark _)))).pt.dt 
                  (dss_one (ds_expr (de_lm (i := 3) PySem.F.plainAttrs_list PySem.F.slot_list_append PySem.F.type_list_append (mt_of mt_append) md_append (pv 3) (dl_cons (dn_add (dq_name (pv 4)) (dn_tup (dlq_cons (dq_name (pv 5)) dlq_nil)).dq).de dl_nil)))) dss_nil)))))))
      (dss_one (ds_setF (i := 1) (by decide) sc.nd rfl (.inl rfl) (de_name (pv 3)))))))
  (dss_one (ds_ret (dn_lc rfl sc.nd (diq_seq (dq_name (pv 1))) (own := [("row", 4)]) (bok (N := ["wishes", "found", "person", "longer", "row", "other", "mine"]) (sn := [("wishes", .cell), ("found", .local), ("person", .cell), ("longer", .local), ("row", .cell), ("other", .local), ("mine", .local), ("range", .globalImplicit), ("len", .globalImplicit)]) ⟨rfl, by decide +kernel, by decide +kernel, by decide +kernel, by decide +kernel⟩) (fun s H C cl fp => (dg_name sc.nd rfl (.inr rfl))) (fun s H C cl fp => (dpts_one (dtn_val (dn_callB (cr_all (by rfl)) rl_all (by rfl) T.m_all PyProof.Rows.Boot.«all» (dlq_cons (dn_lc rfl sc.nd (diq_range1 (by rfl) T.m_range (dlq_cons (dn_callB call_lenAll rl_len (by rfl) T.m_len PyProof.Rows.Boot.«len» (dlq_cons (dq_name (pv 0)) dlq_nil)).dq dlq_nil)) (own := [("person", 2)]) (bok (N := ["wishes", "found", "person", "longer", "row", "other", "mine"]) (sn := [(".0", .local), ("row", .cell), ("all", .globalImplicit), ("range", .globalImplicit), ("len", .globalImplicit), ("wishes", .cell)]) ⟨rfl, by decide +kernel, by decide +kernel, by decide +kernel, by decide +kernel⟩) (fun s H C cl fp => (dg_name sc.nd rfl (.inl rfl))) (fun s H C cl fp => dpts_nil) (fun s H C cl fp => (dn_cmp (op_eqD hr.hu64) r2_eq (dq_ix hr.hu1 (dq_name (pv 4)) (dq_ix hr.hu1 (dq_name (pv 4)) (dq_name (pv 2)) (fun _ _ => rfl)) (fun _ _ => rfl)) (dq_name (pv 2)) (nomark _)))).dq dlq_nil)).dq))) (fun s H C cl fp => (dq_name (pv 4)).dn)).de))))
theorem sc_law_is_pairing : FnScope ["wishes", "thing", "count", "one", "other"] ["wishes", "thing"] (defScope s_law_is_pairing) := ⟨rfl, rfl, rfl, by decide +kernel, rfl, by decide +kernel, by decide +kernel⟩
def T_law_is_pairing : DSt :=
  (dSeq (dSetF 2 (dOpL oLen (dCons (dNameV 0) dNil)))
  (dSeq (dIfS (dOr (dNot (dTest (dOpL oIsi (dCons (dNameV 1) (dCons (dC (.ty "tuple")) dNil))))) (dTest (dOp2 oNe (dOpL oLen (dCons (dNameV 1) dNil)) (dNameV 2)))) 
      (dRet (dC (.bl false))) dNext)
  (dSeq (dFor (diEnum (dCons (dFz (dNameV 1)) dNil)) (gTupD 2 (gConsD (gN 3) (gConsD (gN 4) gNilD))) 
      (dSeq (dIfS (dOr (dNot (dTest (dOpL oIsi (dCons (dNameV 4) (dCons (dC (.ty "int")) dNil))))) (dOr (dTest (dOpL oIsi (dCons (dNameV 4) (dCons (dC (.ty "bool")) dNil)))) (dNot (dTest (dChain oLe oLt (dC (.int 0)) (dNameV 4) (dNameV 2)))))) 
          (dRet (dC (.bl false))) dNext)
      (dIfS (dAnd (dTest (dOp2 oNe (dNameV 4) (dNameV 3))) (dTest (dOp2 oNotIn (dNameV 4) (dOp2 oIx (dNameV 0) (dNameV 3))))) 
          (dRet (dC (.bl false))) dNext)))
  (dRet (dOpL oAll (dCons (dLc (diEnum (dCons (dNameV 1) dNil)) (gTupD 2 (gConsD (gN 3) (gConsD (gN 4) gNilD))) dYes (dOp2 oEq (dOp2 oIx (dNameV 1) (dNameV 4)) (dNameV 3)) [3,4]) dNil))))))
theorem d_law_is_pairing {PP : Program} {w : World} {K : PySem.W.Frag} {mg : Str → Option Value} {base : Heap} {C_NoPairing C_PairError C_Table : Addr} (T : Tx K mg C_NoPairing C_PairError C_Table) {qual : Str} {f : Addr} {cdv : Value} {A : Around} {outer : List Env} {s : Shared} {H : Hp} {E : XK} (hr : RoomG 0 (A.deeper (PyProof.Rows.envOfC qual (defScope s_law_is_pairing) s.heap.objs.size f cdv))) :
    DSs (cxOf (L2.CX PP w) PP w K mg base ["wishes", "thing", "count", "one", "other"] qual (defScope s_law_is_pairing) f cdv A outer s H E) (fun c o _ h => E c o h) [0, 1] (defBody s_law_is_pairing) (T_law_is_pairing ) := by
  have sc := sc_law_is_pairing
  have tk := tkD (PP := PP) (w := w) (K := K) (mg := mg) (base := base) (N := ["wishes", "thing", "count", "one", "other"]) (qual := qual) (scope := defScope s_law_is_pairing) (f := f) (cdv := cdv) (A := A) (outer := outer) (s := s) (H := H) (E := E)
  have hp := hpD (PP := PP) (w := w) (K := K) (mg := mg) (base := base) (N := ["wishes", "thing", "count", "one", "other"]) (qual := qual) (scope := defScope s_law_is_pairing) (f := f) (cdv := cdv) (A := A) (outer := outer) (s := s) (H := H) (E := E)
  exact 
  (dss_cons (ds_setF (i := 2) (by decide) sc.nd rfl (.inl rfl) (dn_callB call_lenAll rl_len (by rfl) T.m_len PyProof.Rows.Boot.«len» (dlq_cons (dq_name (pv 0)) dlq_nil)).de)
  (dss_cons (ds_if (dwn_or (dtn_not (dtn_val (dn_callB call_isiAll rl_isi (by rfl) T.m_isinstance PyProof.Rows.Boot.«isinstance» (dlq_cons (dq_name (pv 1)) (dlq_cons (dn_gty (by rfl) T.m_tuple PyProof.Rows.Boot.«tuple»).dq dlq_nil))).dq)) (dwn_or1 (dtn_cmp (op_neD hr.hu64) r2_ne (dn_callB call_lenAll rl_len (by rfl) T.m_len PyProof.Rows.Boot.«len» (dlq_cons (dq_name (pv 1)) dlq_nil)).dq (dq_name (pv 2)) (nomark _)))).pt.dt 
      (dss_one (ds_ret dn_bl.de)) dss_nil)
  (dss_cons (ds_for (L := [3, 4]) (by decide) hp rfl (di_enum (by rfl) T.m_enumerate (dl_cons (dq_name (pv 1)).dn.de dl_nil)) (dg_tup rfl (dgs_cons (dg_name sc.nd rfl (.inl rfl)) (dgs_cons (dg_name sc.nd rfl (.inl rfl)) dgs_nil))) 
      (dss_cons (ds_if (dwn_or (dtn_not (dtn_val (dn_callB call_isiAll rl_isi (by rfl) T.m_isinstance PyProof.Rows.Boot.«isinstance» (dlq_cons (dq_name (pv 4)) (dlq_cons (dn_gty (by rfl) T.m_int PyProof.Rows.Boot.«int»).dq dlq_nil))).dq)) (dwn_or (dtn_val (dn_callB call_isiAll rl_isi (by rfl) T.m_isinstance PyProof.Rows.Boot.«isinstance» (dlq_cons (dq_name (pv 4)) (dlq_cons (dn_gty (by rfl) T.m_bool PyProof.Rows.Boot.«bool»).dq dlq_nil))).dq) (dwn_or1 (dtn_not (dtn_chain op_le op_lt r_le r_lt dn_int.dq (dq_name (pv 4)) (dq_name (pv 2))))))).pt.dt 
          (dss_one (ds_ret dn_bl.de)) dss_nil)
      (dss_one (ds_if (dwn_and (dtn_cmp (op_neD hr.hu64) r2_ne (dq_name (pv 4)) (dq_name (pv 3)) (nomark _)) (dwn_and1 (dtn_cmp (op_notInAll hr.hu) r2_notIn (dq_name (pv 4)) (dq_ix hr.hu1 (dq_name (pv 0)) (dq_name (pv 3)) (fun _ _ => rfl)) (by with_unfolding_all rfl)))).pt.dt 
          (dss_one (ds_ret dn_bl.de)) dss_nil))))
  (dss_one (ds_ret (dn_callB (cr_all (by rfl)) rl_all (by rfl) T.m_all PyProof.Rows.Boot.«all» (dlq_cons (dn_lc rfl sc.nd (diq_enum (by rfl) T.m_enumerate (dlq_cons (dq_name (pv 1)) dlq_nil)) (own := [("one", 3),("other", 4)]) (bok (N := ["wishes", "thing", "count", "one", "other"]) (sn := [("wishes", .local), ("thing", .cell), ("count", .local), ("one", .local), ("other", .local), ("len", .globalImplicit), ("isinstance", .globalImplicit), ("tuple", .globalImplicit), ("enumerate", .globalImplicit), ("int", .globalImplicit), ("bool", .globalImplicit), ("all", .globalImplicit)]) ⟨rfl, by decide +kernel, by decide +kernel, by decide +kernel, by decide +kernel⟩) (fun s H C cl fp => (dg_tup rfl (dgs_cons (dg_name sc.nd rfl (.inl rfl)) (dgs_cons (dg_name sc.nd rfl (.inl rfl)) dgs_nil)))) (fun s H C cl fp => dpts_nil) (fun s H C cl fp => (dn_cmp (op_eqD hr.hu64) r2_eq (dq_ix hr.hu1 (dq_name (pv 1)) (dq_name (pv 4)) (fun _ _ => rfl)) (dq_name (pv 3)) (nomark _)))).dq dlq_nil)).de)))))
theorem sc_law_drawn : FnScope ["tape", "wishes", "found", "row", "one", "other", "free"] ["tape", "wishes"] (defScope s_law_drawn) := ⟨rfl, rfl, rfl, by decide +kernel, rfl, by decide +kernel, by decide +kernel⟩
def T_law_drawn (S_law_mixed S_law_pick S_law_any : DSp) : DSt :=
  (dSeq (dSet 2 (dRgL1 (dOpL oLen (dCons (dNameV 1) dNil))))
  (dSeq (dSetF 3 (dCallI 2 S_law_mixed 0 (dCons (dOpL oList (dCons (dNameV 2) dNil)) dNil)))
  (dSeq (dFor (diSeq (dFz (dNameV 3))) (gN 4) 
      (dSeq (dSetF 6 (dLc (diSeq (dOp2 oIx (dNameV 1) (dNameV 4))) (gN 5) (dTest (dOp2 oEq (dOp2 oIx (dNameV 2) (dNameV 5)) (dNameV 5))) (dFz (dNameV 5)) [5]))
      (dIfS (dAnd (dTest (dOp2 oEq (dOp2 oIx (dNameV 2) (dNameV 4)) (dNameV 4))) (dAnd (dTest (dOp2 oGt (dOpL oLen (dCons (dNameV 6) dNil)) (dC (.int 0)))) (dTest (dOp2 oGt (dCallI 2 S_law_pick 0 (dCons (dC (.int 5)) dNil)) (dC (.int 0)))))) 
          (dSeq (dSetF 5 (dCallI 2 S_law_any 0 (dCons (dFz (dNameV 6)) dNil)))
          (dAsgT (dOpL oTup (dCons (dNameV 5) (dCons (dNameV 4) dNil))) (gTupD 2 (gConsD (gPut (lvN 2) (dNameV 4)) (gConsD (gPut (lvN 2) (dNameV 5)) gNilD))))) dNext)))
  (dRet (dOpL oTuple (dCons (dNameV 2) dNil))))))
theorem d_law_drawn {PP : Program} {w : World} {K : PySem.W.Frag} {mg : Str → Option Value} {base : Heap} {C_NoPairing C_PairError C_Table : Addr} {S_law_mixed S_law_pick S_law_any : DSp} (T : Tx K mg C_NoPairing C_PairError C_Table) (g_law_mixed : DefOk PP w K mg base "_law_mixed" 2 2 S_law_mixed) (g_law_pick : DefOk PP w K mg base "_law_pick" 1 2 S_law_pick) (g_law_any : DefOk PP w K mg base "_law_any" 2 2 S_law_any) {qual : Str} {f : Addr} {cdv : Value} {A : Around} {outer : List Env} {s : Shared} {H : Hp} {E : XK} (hr : RoomG 2 (A.deeper (PyProof.Rows.envOfC qual (defScope s_law_drawn) s.heap.objs.size f cdv))) :
    DSs (cxOf (L2.CX PP w) PP w K mg base ["tape", "wishes", "found", "row", "one", "other", "free"] qual (defScope s_law_drawn) f cdv A outer s H E) (fun c o _ h => E c o h) [0, 1] (defBody s_law_drawn) (T_law_drawn S_law_mixed S_law_pick S_law_any) := by
  have sc := sc_law_drawn
  have tk := tkD (PP := PP) (w := w) (K := K) (mg := mg) (base := base) (N := ["tape", "wishes", "found", "row", "one", "other", "free"]) (qual := qual) (scope := defScope s_law_drawn) (f := f) (cdv := cdv) (A := A) (outer := outer) (s := s) (H := H) (E := E)
  have hp := hpD (PP := PP) (w := w) (K := K) (mg := mg) (base := base) (N := ["tape", "wishes", "found", "row", "one", "other", "free"]) (qual := qual) (scope := defScope s_law_drawn) (f := f) (cdv := cdv) (A := A) (outer := outer) (s := s) (H := H) (E := E)
  exact 
  (dss_cons (ds_set (i := 2) (by decide) sc.nd rfl (.inr rfl) (dn_listRg1 rfl (by rfl) T.m_list (by rfl) T.m_range (dn_callB call_lenAll rl_len (by rfl) T.m_len PyProof.Rows.Boot.«len» (dlq_cons (dq_name (pv 1)) dlq_nil)).dq).de)
  (dss_cons (ds_setF (i := 3) (by decide) sc.nd rfl (.inl rfl) (de_callDI 0 g_law_mixed hr (by decide) (by rfl) (pv 0) (dl_cons (dn_callTy call_list_of rl_list (by rfl) T.m_list PyProof.Rows.Boot.«list» (dlq_cons (dq_name (pv 2)) dlq_nil)).de dl_nil)))
  (dss_cons (ds_for (L := [4]) (by decide) hp rfl (di_seq (dq_name (pv 3)).dn.de) (dg_name sc.nd rfl (.inl rfl)) 
      (dss_cons (ds_setLcF (i := 6) (by decide) rfl sc.nd rfl rfl rfl (diq_seq (dq_ix hr.hu1 (dq_name (pv 1)) (dq_name (pv 4)) (fun _ _ => rfl))) (own := [("other", 5)]) (bok (N := ["tape", "wishes", "found", "row", "one", "other", "free"]) (sn := [("tape", .local), ("wishes", .local), ("found", .cell), ("row", .local), ("one", .local), ("other", .local), ("free", .local), ("list", .globalImplicit), ("range", .globalImplicit), ("len", .globalImplicit), ("_law_mixed", .globalImplicit), ("_law_pick", .globalImplicit), ("_law_any", .globalImplicit), ("tuple", .globalImplicit)]) ⟨rfl, by decide +kernel, by decide +kernel, by decide +kernel, by decide +kernel⟩) (fun s H C cl fp => (dg_name sc.nd rfl (.inl rfl))) (fun s H C cl fp => (dpts_one (dtn_cmp (op_eqD hr.hu64) r2_eq (dq_ix hr.hu1 (dq_name (pv 2)) (dq_name (pv 5)) (fun _ _ => rfl)) (dq_name (pv 5)) (nomark _)))) (fun s H C cl fp => (dq_name (pv 5)).dn))
      (dss_one (ds_if (dw_and (dtn_cmp (op_eqD hr.hu64) r2_eq (dq_ix hr.hu1 (dq_name (pv 2)) (dq_name (pv 4)) (fun _ _ => rfl)) (dq_name (pv 4)) (nomark _)).dt (dw_and (dtn_cmp op_gt r_gt (dn_callB call_lenAll rl_len (by rfl) T.m_len PyProof.Rows.Boot.«len» (dlq_cons (dq_name (pv 6)) dlq_nil)).dq dn_int.dq (nomark _)).dt (dw_and1 (dt_cmp op_gt r_gt (de_callDI 0 g_law_pick hr (by decide) (by rfl) (pv 0) (dl_cons dn_int.de dl_nil)) dn_int.dq.dv (nomark _))))).pt 
          (dss_cons (ds_setF (i := 5) (by decide) sc.nd rfl (.inl rfl) (de_callDI 0 g_law_any hr (by decide) (by rfl) (pv 0) (dl_cons (dq_name (pv 6)).dn.de dl_nil)))
          (dss_one (ds_asgW (dn_tup (dlq_cons (dq_name (pv 5)) (dlq_cons (dq_name (pv 4)) dlq_nil))).de (dgw_tup rfl (dgws_cons (dgw_put hr.hu1 (dp_name (pv 2)) (dq_name (pv 4))) (dgws_cons (dgw_put hr.hu1 (dp_name (pv 2)) (dq_name (pv 5))) dgws_nil)))))) dss_nil))))
  (dss_one (ds_ret (dn_callTy call_tupOfZ rl_tuple (by rfl) T.m_tuple PyProof.Rows.Boot.«tuple» (dlq_cons (dq_name (pv 2)) dlq_nil)).de)))))
theorem sc_law_bent : FnScope ["tape", "pairing", "at", "other", "odd", "some", "turned"] ["tape", "pairing"] (defScope s_law_bent) := ⟨rfl, rfl, rfl, by decide +kernel, rfl, by decide +kernel, by decide +kernel⟩
def T_law_bent (S_law_pick S_law_any : DSp) : DSt :=
  (dSeq (dParF 2 3 true true (dCons (dCallI 2 S_law_pick 0 (dCons (dOpL oLen (dCons (dNameV 1) dNil)) dNil)) (dCons (dCallI 2 S_law_pick 0 (dCons (dOpL oLen (dCons (dNameV 1) dNil)) dNil)) dNil)))
  (dSeq (dSetF 4 (dCallI 2 S_law_any 0 (dCons (dLstF (dCons (dC .non) (dCons (dC (.bl true)) (dCons (dC (.bl false)) (dCons (dOp1 oNeg (dC (.int 1))) (dCons (dOpL oLen (dCons (dNameV 1) dNil)) (dCons (dC (.str "0")) (dCons (dOpL oTup (dCons (dC (.int 0)) dNil)) (dCons (dOpL oLst (dCons (dC (.int 0)) dNil)) (dCons (dOp2 oPow (dC (.int 10)) (dC (.int 30))) (dCons (dFz (dNameV 3)) (dCons (dFz (dNameV 3)) dNil)))))))))))) dNil)))
  (dSeq (dSetF 5 (dLstF (dCons (dOp2 oAdd (dOp2 oAdd (dSl (dNameV 1) dNoPart (dPart (dNameV 2))) (dOpL oTup (dCons (dNameV 4) dNil))) (dSl (dNameV 1) (dPart (dOp2 oAdd (dNameV 2) (dC (.int 1)))) dNoPart)) (dCons (dOp2 oAdd (dOp2 oAdd (dSl (dNameV 1) dNoPart (dPart (dNameV 2))) (dOpL oTup (dCons (dNameV 4) dNil))) (dSl (dNameV 1) (dPart (dNameV 2)) dNoPart)) (dCons (dOpL oList (dCons (dNameV 1) dNil)) (dCons (dSl (dNameV 1) (dPart (dC (.int 1))) dNoPart) dNil))))))
  (dSeq (dSet 6 (dOpL oList (dCons (dNameV 1) dNil)))
  (dSeq (dAsgT (dOpL oTup (dCons (dOp2 oIx (dNameV 1) (dNameV 3)) (dCons (dOp2 oIx (dNameV 1) (dNameV 2)) dNil))) (gTupD 2 (gConsD (gPut (lvN 6) (dNameV 2)) (gConsD (gPut (lvN 6) (dNameV 3)) gNilD))))
  (dRet (dCallI 2 S_law_any 0 (dCons (dOp2 oAdd (dFz (dNameV 5)) (dLstF (dCons (dOpL oTuple (dCons (dNameV 6) dNil)) (dCons (dOpL oTuple (dCons (dNameV 6) dNil)) (dCons (dC .non) (dCons (dC (.int 0)) (dCons (dOpL oTup dNil) (dCons (dC (.dct true [])) (dCons (dC (.str "pairing")) (dCons (dOp1 oRev (dNameV 1)) dNil)))))))))) dNil))))))))
theorem d_law_bent {PP : Program} {w : World} {K : PySem.W.Frag} {mg : Str → Option Value} {base : Heap} {C_NoPairing C_PairError C_Table : Addr} {S_law_pick S_law_any : DSp} (T : Tx K mg C_NoPairing C_PairError C_Table) (g_law_pick : DefOk PP w K mg base "_law_pick" 1 2 S_law_pick) (g_law_any : DefOk PP w K mg base "_law_any" 2 2 S_law_any) {qual : Str} {f : Addr} {cdv : Value} {A : Around} {outer : List Env} {s : Shared} {H : Hp} {E : XK} (hr : RoomG 2 (A.deeper (PyProof.Rows.envOfC qual (defScope s_law_bent) s.heap.objs.size f cdv))) :
    DSs (cxOf (L2.CX PP w) PP w K mg base ["tape", "pairing", "at", "other", "odd", "some", "turned"] qual (defScope s_law_bent) f cdv A outer s H E) (fun c o _ h => E c o h) [0, 1] (defBody s_law_bent) (T_law_bent S_law_pick S_law_any) := by
  have sc := sc_law_bent
  have tk := tkD (PP := PP) (w := w) (K := K) (mg := mg) (base := base) (N := ["tape", "pairing", "at", "other", "odd", "some", "turned"]) (qual := qual) (scope := defScope s_law_bent) (f := f) (cdv := cdv) (A := A) (outer := outer) (s := s) (H := H) (E := E)
  have hp := hpD (PP := PP) (w := w) (K := K) (mg := mg) (base := base) (N := ["tape", "pairing", "at", "other", "odd", "some", "turned"]) (qual := qual) (scope := defScope s_law_bent) (f := f) (cdv := cdv) (A := A) (outer := outer) (s := s) (H := H) (E := E)
  exact 
  (dss_cons (ds_parF (i := 2) (j := 3) true true (by decide) (by decide) rfl sc.nd rfl rfl (by decide) rfl rfl (dl_cons (de_callDI 0 g_law_pick hr (by decide) (by rfl) (pv 0) (dl_cons (dn_callB call_lenAll rl_len (by rfl) T.m_len PyProof.Rows.Boot.«len» (dlq_cons (dq_name (pv 1)) dlq_nil)).de dl_nil)) (dl_cons (de_callDI 0 g_law_pick hr (by decide) (by rfl) (pv 0) (dl_cons (dn_callB call_lenAll rl_len (by rfl) T.m_len PyProof.Rows.Boot.«len» (dlq_cons (dq_name (pv 1)) dlq_nil)).de dl_nil)) dl_nil)) rfl)
  (dss_cons (ds_setF (i := 4) (by decide) sc.nd rfl (.inl rfl) (de_callDI 0 g_law_any hr (by decide) (by rfl) (pv 0) (dl_cons (de_lstF (dl_cons dn_non.de (dl_cons dn_bl.de (dl_cons dn_bl.de (dl_cons (dn_neg dn_int.dq).de (dl_cons (dn_callB call_lenAll rl_len (by rfl) T.m_len PyProof.Rows.Boot.«len» (dlq_cons (dq_name (pv 1)) dlq_nil)).de (dl_cons dn_str.de (dl_cons (dn_tup (dlq_cons dn_int.dq dlq_nil)).de (dl_cons (dn_lst (dlq_cons dn_int.dq dlq_nil)).de (dl_cons (dn_pow dn_int.dq dn_int.dq).de (dl_cons (dq_name (pv 3)).dn.de (dl_cons (dq_name (pv 3)).dn.de dl_nil)))))))))))) dl_nil)))
  (dss_cons (ds_setF (i := 5) (by decide) sc.nd rfl (.inl rfl) (de_lstF (dl_cons (dn_add (dn_add (dn_slice (dq_name (pv 1)) dpo_none (dpo_some (dq_name (pv 2)))).dq (dn_tup (dlq_cons (dq_name (pv 4)) dlq_nil)).dq).dq (dn_slice (dq_name (pv 1)) (dpo_some (dn_add (dq_name (pv 2)) dn_int.dq).dq) dpo_none).dq).de (dl_cons (dn_add (dn_add (dn_slice (dq_name (pv 1)) dpo_none (dpo_some (dq_name (pv 2)))).dq (dn_tup (dlq_cons (dq_name (pv 4)) dlq_nil)).dq).dq (dn_slice (dq_name (pv 1)) (dpo_some (dq_name (pv 2))) dpo_none).dq).de (dl_cons (dn_callTy call_list_of rl_list (by rfl) T.m_list PyProof.Rows.Boot.«list» (dlq_cons (dq_name (pv 1)) dlq_nil)).de (dl_cons (dn_slice (dq_name (pv 1)) (dpo_some dn_int.dq) dpo_none).de dl_nil))))))
  (dss_cons (ds_set (i := 6) (by decide) sc.nd rfl (.inl rfl) (dn_callTy call_list_of rl_list (by rfl) T.m_list PyProof.Rows.Boot.«list» (dlq_cons (dq_name (pv 1)) dlq_nil)).de)
  (dss_cons (ds_asgW (dn_tup (dlq_cons (dq_ix hr.hu1 (dq_name (pv 1)) (dq_name (pv 3)) (fun _ _ => rfl)) (dlq_cons (dq_ix hr.hu1 (dq_name (pv 1)) (dq_name (pv 2)) (fun _ _ => rfl)) dlq_nil))).de (dgw_tup rfl (dgws_cons (dgw_put hr.hu1 (dp_name (pv 6)) (dq_name (pv 2))) (dgws_cons (dgw_put hr.hu1 (dp_name (pv 6)) (dq_name (pv 3))) dgws_nil))))
  (dss_one (ds_ret (de_callDI 0 g_law_any hr (by decide) (by rfl) (pv 0) (dl_cons (de_add (dq_name (pv 5)).dn.de (de_lstF (dl_cons (dn_callTy call_tupOfZ rl_tuple (by rfl) T.m_tuple PyProof.Rows.Boot.«tuple» (dlq_cons (dq_name (pv 6)) dlq_nil)).de (dl_cons (dn_callTy call_tupOfZ rl_tuple (by rfl) T.m_tuple PyProof.Rows.Boot.«tuple» (dlq_cons (dq_name (pv 6)) dlq_nil)).de (dl_cons dn_non.de (dl_cons dn_int.de (dl_cons (dn_tup dlq_nil).de (dl_cons dn_dictK.de (dl_cons dn_str.de (dl_cons (dn_rev (dq_name (pv 1))).de dl_nil))))))))).view) dl_nil)))))))))
theorem sc_Table_many : FnScope ["self"] ["self"] (defScope s_Table_many) := ⟨rfl, rfl, rfl, by decide +kernel, rfl, by decide +kernel, by decide +kernel⟩
def T_Table_many (C_Table : Addr) : DSt :=
  (dRet (dOpL oLen (dCons (dOp1 (oFld C_Table ns_Table 0) (dNameV 0)) dNil)))
theorem d_Table_many {PP : Program} {w : World} {K : PySem.W.Frag} {mg : Str → Option Value} {base : Heap} {C_NoPairing C_PairError C_Table : Addr} (T : Tx K mg C_NoPairing C_PairError C_Table) {qual : Str} {f : Addr} {cdv : Value} {A : Around} {outer : List Env} {s : Shared} {H : Hp} {E : XK} (hr : RoomG 0 (A.deeper (PyProof.Rows.envOfC qual (defScope s_Table_many) s.heap.objs.size f cdv))) :
    DSs (cxOf (L2.CX PP w) PP w K mg base ["self"] qual (defScope s_Table_many) f cdv A outer s H E) (fun c o _ h => E c o h) [0] (defBody s_Table_many) (T_Table_many C_Table) := by
  have sc := sc_Table_many
  have tk := tkD (PP := PP) (w := w) (K := K) (mg := mg) (base := base) (N := ["self"]) (qual := qual) (scope := defScope s_Table_many) (f := f) (cdv := cdv) (A := A) (outer := outer) (s := s) (H := H) (E := E)
  have hp := hpD (PP := PP) (w := w) (K := K) (mg := mg) (base := base) (N := ["self"]) (qual := qual) (scope := defScope s_Table_many) (f := f) (cdv := cdv) (A := A) (outer := outer) (s := s) (H := H) (E := E)
  exact 
  (dss_one (ds_ret (dn_callB call_lenAll rl_len (by rfl) T.m_len PyProof.Rows.Boot.«len» (dlq_cons (dq_fld T.k_Table T.a_Table_wishes (by decide +kernel) (dq_name (pv 0)) rfl) dlq_nil)).de))
theorem sc_is_pairing : FnScope ["table", "thing", "many", "person", "other", "one"] ["table", "thing"] (defScope s_is_pairing) := ⟨rfl, rfl, rfl, by decide +kernel, rfl, by decide +kernel, by decide +kernel⟩
def T_is_pairing (C_Table : Addr) (S_Table_many S_is_below : DSp) : DSt :=
  (dSeq (dSetF 2 (dMethQ C_Table ns_Table 1 S_Table_many (dNameV 0) dNil))
  (dSeq (dIfS (dOr (dNot (dTest (dOpL oIsi (dCons (dNameV 1) (dCons (dC (.ty "tuple")) dNil))))) (dOr (dTest (dOp2 oNe (dOpL oLen (dCons (dNameV 1) dNil)) (dNameV 2))) (dNot (dTest (dOpL oAll (dCons (dLc (diSeq (dNameV 1)) (gN 5) dYes (dCallQ 2 S_is_below (dCons (dNameV 5) (dCons (dNameV 2) dNil))) [5]) dNil)))))) 
      (dRet (dC (.bl false))) dNext)
  (dSeq (dFor (diEnum (dCons (dFz (dNameV 1)) dNil)) (gTupD 2 (gConsD (gN 3) (gConsD (gN 4) gNilD))) 
      (dIfS (dOr (dTest (dOp2 oNotIn (dNameV 4) (dOp2 oIx (dOp1 (oFld C_Table ns_Table 1) (dNameV 0)) (dNameV 3)))) (dTest (dOp2 oNe (dOp2 oIx (dNameV 1) (dNameV 4)) (dNameV 3)))) 
          (dRet (dC (.bl false))) dNext))
  (dRet (dC (.bl true))))))
theorem d_is_pairing {PP : Program} {w : World} {K : PySem.W.Frag} {mg : Str → Option Value} {base : Heap} {C_NoPairing C_PairError C_Table : Addr} {S_Table_many S_is_below : DSp} (T : Tx K mg C_NoPairing C_PairError C_Table) (g_Table_many : MethOk PP w K mg base C_Table "many" 1 1 S_Table_many) (g_is_below : DefOk PP w K mg base "is_below" 2 2 S_is_below) {qual : Str} {f : Addr} {cdv : Value} {A : Around} {outer : List Env} {s : Shared} {H : Hp} {E : XK} (hr : RoomG 2 (A.deeper (PyProof.Rows.envOfC qual (defScope s_is_pairing) s.heap.objs.size f cdv))) :
    DSs (cxOf (L2.CX PP w) PP w K mg base ["table", "thing", "many", "person", "other", "one"] qual (defScope s_is_pairing) f cdv A outer s H E) (fun c o _ h => E c o h) [0, 1] (defBody s_is_pairing) (T_is_pairing C_Table S_Table_many S_is_below) := by
  have sc := sc_is_pairing
  have tk := tkD (PP := PP) (w := w) (K := K) (mg := mg) (base := base) (N := ["table", "thing", "many", "person", "other", "one"]) (qual := qual) (scope := defScope s_is_pairing) (f := f) (cdv := cdv) (A := A) (outer := outer) (s := s) (H := H) (E := E)
  have hp := hpD (PP := PP) (w := w) (K := K) (mg := mg) (base := base) (N := ["table", "thing", "many", "person", "other", "one"]) (qual := qual) (scope := defScope s_is_pairing) (f := f) (cdv := cdv) (A := A) (outer := outer) (s := s) (H := H) (E := E)
  exact 
  (dss_cons (ds_setF (i := 2) (by decide) sc.nd rfl (.inr rfl) (dn_methQ0 T.k_Table g_Table_many hr (by decide) (dq_name (pv 0)) (by decide +kernel)).de)
  (dss_cons (ds_if (dwn_or (dtn_not (dtn_val (dn_callB call_isiAll rl_isi (by rfl) T.m_isinstance PyProof.Rows.Boot.«isinstance» (dlq_cons (dq_name (pv 1)) (dlq_cons (dn_gty (by rfl) T.m_tuple PyProof.Rows.Boot.«tuple»).dq dlq_nil))).dq)) (dwn_or (dtn_cmp (op_neD hr.hu64) r2_ne (dn_callB call_lenAll rl_len (by rfl) T.m_len PyProof.Rows.Boot.«len» (dlq_cons (dq_name (pv 1)) dlq_nil)).dq (dq_name (pv 2)) (nomark _)) (dwn_or1 (dtn_not (dtn_val (dn_callB (cr_all (by rfl)) rl_all (by rfl) T.m_all PyProof.Rows.Boot.«all» (dlq_cons (dn_lc rfl sc.nd (diq_seq (dq_name (pv 1))) (own := [("one", 5)]) (bok (N := ["table", "thing", "many", "person", "other", "one"]) (sn := [("table", .local), ("thing", .local), ("many", .cell), ("person", .local), ("other", .local), ("isinstance", .globalImplicit), ("tuple", .globalImplicit), ("len", .globalImplicit), ("all", .globalImplicit), ("enumerate", .globalImplicit)]) ⟨rfl, by decide +kernel, by decide +kernel, by decide +kernel, by decide +kernel⟩) (fun s H C cl fp => (dg_name sc.nd rfl (.inl rfl))) (fun s H C cl fp => dpts_nil) (fun s H C cl fp => (dn_callQ g_is_below hr (by decide) (by rfl) (dlq_cons (dq_name (pv 5)) (dlq_cons (dq_name (pv 2)) dlq_nil))))).dq dlq_nil)).dq))))).pt.dt 
      (dss_one (ds_ret dn_bl.de)) dss_nil)
  (dss_cons (ds_for (L := [3, 4]) (by decide) hp rfl (di_enum (by rfl) T.m_enumerate (dl_cons (dq_name (pv 1)).dn.de dl_nil)) (dg_tup rfl (dgs_cons (dg_name sc.nd rfl (.inl rfl)) (dgs_cons (dg_name sc.nd rfl (.inl rfl)) dgs_nil))) 
      (dss_one (ds_if (dwn_or (dtn_cmp (op_notInAll hr.hu) r2_notIn (dq_name (pv 4)) (dq_ix hr.hu1 (dq_fld T.k_Table T.a_Table_ranks (by decide +kernel) (dq_name (pv 0)) rfl) (dq_name (pv 3)) (fun _ _ => rfl)) (by with_unfolding_all rfl)) (dwn_or1 (dtn_cmp (op_neD hr.hu64) r2_ne (dq_ix hr.hu1 (dq_name (pv 1)) (dq_name (pv 4)) (fun _ _ => rfl)) (dq_name (pv 3)) (nomark _)))).pt.dt 
          (dss_one (ds_ret dn_bl.de)) dss_nil)))
  (dss_one (ds_ret dn_bl.de)))))
theorem sc_Table_is_dearer : FnScope ["self", "person", "one", "other"] ["self", "person", "one", "other"] (defScope s_Table_is_dearer) := ⟨rfl, rfl, rfl, by decide +kernel, rfl, by decide +kernel, by decide +kernel⟩
def T_Table_is_dearer (C_Table : Addr) : DSt :=
  (dRet (dOp2 oLt (dOp2 oIx (dOp2 oIx (dOp1 (oFld C_Table ns_Table 1) (dNameV 0)) (dNameV 1)) (dNameV 2)) (dOp2 oIx (dOp2 oIx (dOp1 (oFld C_Table ns_Table 1) (dNameV 0)) (dNameV 1)) (dNameV 3))))
theorem d_Table_is_dearer {PP : Program} {w : World} {K : PySem.W.Frag} {mg : Str → Option Value} {base : Heap} {C_NoPairing C_PairError C_Table : Addr} (T : Tx K mg C_NoPairing C_PairError C_Table) {qual : Str} {f : Addr} {cdv : Value} {A : Around} {outer : List Env} {s : Shared} {H : Hp} {E : XK} (hr : RoomG 0 (A.deeper (PyProof.Rows.envOfC qual (defScope s_Table_is_dearer) s.heap.objs.size f cdv))) :
    DSs (cxOf (L2.CX PP w) PP w K mg base ["self", "person", "one", "other"] qual (defScope s_Table_is_dearer) f cdv A outer s H E) (fun c o _ h => E c o h) [0, 1, 2, 3] (defBody s_Table_is_dearer) (T_Table_is_dearer C_Table) := by
  have sc := sc_Table_is_dearer
  have tk := tkD (PP := PP) (w := w) (K := K) (mg := mg) (base := base) (N := ["self", "person", "one", "other"]) (qual := qual) (scope := defScope s_Table_is_dearer) (f := f) (cdv := cdv) (A := A) (outer := outer) (s := s) (H := H) (E := E)
  have hp := hpD (PP := PP) (w := w) (K := K) (mg := mg) (base := base) (N := ["self", "person", "one", "other"]) (qual := qual) (scope := defScope s_Table_is_dearer) (f := f) (cdv := cdv) (A := A) (outer := outer) (s := s) (H := H) (E := E)
  exact 
  (dss_one (ds_ret (dn_cmp op_lt r_lt (dq_ix hr.hu1 (dq_ix hr.hu1 (dq_fld T.k_Table T.a_Table_ranks (by decide +kernel) (dq_name (pv 0)) rfl) (dq_name (pv 1)) (fun _ _ => rfl)) (dq_name (pv 2)) (fun _ _ => rfl)) (dq_ix hr.hu1 (dq_ix hr.hu1 (dq_fld T.k_Table T.a_Table_ranks (by decide +kernel) (dq_name (pv 0)) rfl) (dq_name (pv 1)) (fun _ _ => rfl)) (dq_name (pv 3)) (fun _ _ => rfl)) (nomark _)).de))
theorem sc_raw_breaking : FnScope ["table", "pairing", "found", "person", "row", "dearer", "one", "pair"] ["table", "pairing"] (defScope s_raw_breaking) := ⟨rfl, rfl, rfl, by decide +kernel, rfl, by decide +kernel, by decide +kernel⟩
def T_raw_breaking (C_Table : Addr) (S_Table_is_dearer : DSp) : DSt :=
  (dSeq (dSet 2 (dOpL oLst dNil))
  (dSeq (dFor (diEnum (dCons (dFz (dOp1 (oFld C_Table ns_Table 0) (dNameV 0))) dNil)) (gTupD 2 (gConsD (gN 3) (gConsD (gN 4) gNilD))) 
      (dSeq (dSetF 5 (dSl (dNameV 4) dNoPart (dPart (dOp2 oIx (dOp2 oIx (dOp1 (oFld C_Table ns_Table 1) (dNameV 0)) (dNameV 3)) (dOp2 oIx (dNameV 1) (dNameV 3))))))
      (dDrop (dLm "list" mExtend 2 (dCons (dLc (diSeq (dOpL oSorted (dCons (dNameV 5) dNil))) (gN 6) (dTest (dMethQ C_Table ns_Table 4 S_Table_is_dearer (dNameV 0) (dCons (dNameV 6) (dCons (dNameV 3) (dCons (dOp2 oIx (dNameV 1) (dNameV 6)) dNil))))) (dOpL oTup (dCons (dNameV 3) (dCons (dNameV 6) dNil))) [6]) dNil)))))
  (dRet (dOpL oTuple (dCons (dLc (diSeq (dNameV 2)) (gN 7) (dTest (dOp2 oLt (dOp2 oIx (dNameV 7) (dC (.int 0))) (dOp2 oIx (dNameV 7) (dC (.int 1))))) (dFz (dNameV 7)) [7]) dNil)))))
theorem d_raw_breaking {PP : Program} {w : World} {K : PySem.W.Frag} {mg : Str → Option Value} {base : Heap} {C_NoPairing C_PairError C_Table : Addr} {S_Table_is_dearer : DSp} (T : Tx K mg C_NoPairing C_PairError C_Table) (g_Table_is_dearer : MethOk PP w K mg base C_Table "is_dearer" 1 4 S_Table_is_dearer) {qual : Str} {f : Addr} {cdv : Value} {A : Around} {outer : List Env} {s : Shared} {H : Hp} {E : XK} (hr : RoomG 1 (A.deeper (PyProof.Rows.envOfC qual (defScope s_raw_breaking) s.heap.objs.size f cdv))) :
    DSs (cxOf (L2.CX PP w) PP w K mg base ["table", "pairing", "found", "person", "row", "dearer", "one", "pair"] qual (defScope s_raw_breaking) f cdv A outer s H E) (fun c o _ h => E c o h) [0, 1] (defBody s_raw_breaking) (T_raw_breaking C_Table S_Table_is_dearer) := by
  have sc := sc_raw_breaking
  have tk := tkD (PP := PP) (w := w) (K := K) (mg := mg) (base := base) (N := ["table", "pairing", "found", "person", "row", "dearer", "one", "pair"]) (qual := qual) (scope := defScope s_raw_breaking) (f := f) (cdv := cdv) (A := A) (outer := outer) (s := s) (H := H) (E := E)
  have hp := hpD (PP := PP) (w := w) (K := K) (mg := mg) (base := base) (N := ["table", "pairing", "found", "person", "row", "dearer", "one", "pair"]) (qual := qual) (scope := defScope s_raw_breaking) (f := f) (cdv := cdv) (A := A) (outer := outer) (s := s) (H := H) (E := E)
  exact 
  (dss_cons (ds_set (i := 2) (by decide) sc.nd rfl (.inl rfl) (dn_lst dlq_nil).de)
  (dss_cons (ds_for (L := [3, 4]) (by decide) hp rfl (di_enum (by rfl) T.m_enumerate (dl_cons (dq_fld T.k_Table T.a_Table_wishes (by decide +kernel) (dq_name (pv 0)) rfl).dn.de dl_nil)) (dg_tup rfl (dgs_cons (dg_name sc.nd rfl (.inr rfl)) (dgs_cons (dg_name sc.nd rfl (.inl rfl)) dgs_nil))) 
      (dss_cons (ds_setF (i := 5) (by decide) sc.nd rfl (.inl rfl) (dn_slice (dq_name (pv 4)) dpo_none (dpo_some (dq_ix hr.hu1 (dq_ix hr.hu1 (dq_fld T.k_Table T.a_Table_ranks (by decide +kernel) (dq_name (pv 0)) rfl) (dq_name (pv 3)) (fun _ _ => rfl)) (dq_ix hr.hu1 (dq_name (pv 1)) (dq_name (pv 3)) (fun _ _ => rfl)) (fun _ _ => rfl)))).de)
      (dss_one (ds_expr (de_lm (i := 2) PySem.F.plainAttrs_list PySem.F.slot_list_extend PySem.F.type_list_extend mt_extendR md_extend (pv 2) (dl_cons (dn_lc rfl sc.nd (diq_seq (dn_callB (cr_sortB hr.room) rl_sorted (by rfl) T.m_sorted PyProof.Rows.Boot.«sorted» (dlq_cons (dq_name (pv 5)) dlq_nil)).dq) (own := [("one", 6)]) (bok (N := ["table", "pairing", "found", "person", "row", "dearer", "one", "pair"]) (sn := [("table", .cell), ("pairing", .cell), ("found", .local), ("person", .cell), ("row", .local), ("dearer", .local), ("enumerate", .globalImplicit), ("sorted", .globalImplicit), ("tuple", .globalImplicit)]) ⟨rfl, by decide +kernel, by decide +kernel, by decide +kernel, by decide +kernel⟩) (fun s H C cl fp => (dg_name sc.nd rfl (.inl rfl))) (fun s H C cl fp => (dpts_one (dtn_val (dn_methQ T.k_Table g_Table_is_dearer hr (by decide) (dq_name (pv 0)) (by decide +kernel) (dlq_cons (dq_name (pv 6)) (dlq_cons (dq_name (pv 3)) (dlq_cons (dq_ix hr.hu1 (dq_name (pv 1)) (dq_name (pv 6)) (fun _ _ => rfl)) dlq_nil)))).dq))) (fun s H C cl fp => (dn_tup (dlq_cons (dq_name (pv 3)) (dlq_cons (dq_name (pv 6)) dlq_nil))))).de dl_nil))))))
  (dss_one (ds_ret (dn_callTy call_tupOfZ rl_tuple (by rfl) T.m_tuple PyProof.Rows.Boot.«tuple» (dlq_cons (dn_lc rfl sc.nd (diq_seq (dq_name (pv 2))) (own := [("pair", 7)]) (bok (N := ["table", "pairing", "found", "person", "row", "dearer", "one", "pair"]) (sn := [("table", .cell), ("pairing", .cell), ("found", .local), ("person", .cell), ("row", .local), ("dearer", .local), ("enumerate", .globalImplicit), ("sorted", .globalImplicit), ("tuple", .globalImplicit)]) ⟨rfl, by decide +kernel, by decide +kernel, by decide +kernel, by decide +kernel⟩) (fun s H C cl fp => (dg_name sc.nd rfl (.inl rfl))) (fun s H C cl fp => (dpts_one (dtn_cmp op_lt r_lt (dq_ix hr.hu1 (dq_name (pv 7)) dn_int.dq (fun _ _ => rfl)) (dq_ix hr.hu1 (dq_name (pv 7)) dn_int.dq (fun _ _ => rfl)) (nomark _)))) (fun s H C cl fp => (dq_name (pv 7)).dn)).dq dlq_nil)).de))))
theorem sc_is_stable : FnScope ["table", "thing"] ["table", "thing"] (defScope s_is_stable) := ⟨rfl, rfl, rfl, by decide +kernel, rfl, by decide +kernel, by decide +kernel⟩
def T_is_stable (S_raw_breaking S_is_pairing : DSp) : DSt :=
  (dRet (dAndV (dCallQ 2 S_is_pairing (dCons (dNameV 0) (dCons (dNameV 1) dNil))) (dOp2 oEq (dOpL oLen (dCons (dCallQ 2 S_raw_breaking (dCons (dNameV 0) (dCons (dNameV 1) dNil))) dNil)) (dC (.int 0)))))
theorem d_is_stable {PP : Program} {w : World} {K : PySem.W.Frag} {mg : Str → Option Value} {base : Heap} {C_NoPairing C_PairError C_Table : Addr} {S_raw_breaking S_is_pairing : DSp} (T : Tx K mg C_NoPairing C_PairError C_Table) (g_raw_breaking : DefOk PP w K mg base "raw_breaking" 2 2 S_raw_breaking) (g_is_pairing : DefOk PP w K mg base "is_pairing" 3 2 S_is_pairing) {qual : Str} {f : Addr} {cdv : Value} {A : Around} {outer : List Env} {s : Shared} {H : Hp} {E : XK} (hr : RoomG 3 (A.deeper (PyProof.Rows.envOfC qual (defScope s_is_stable) s.heap.objs.size f cdv))) :
    DSs (cxOf (L2.CX PP w) PP w K mg base ["table", "thing"] qual (defScope s_is_stable) f cdv A outer s H E) (fun c o _ h => E c o h) [0, 1] (defBody s_is_stable) (T_is_stable S_raw_breaking S_is_pairing) := by
  have sc := sc_is_stable
  have tk := tkD (PP := PP) (w := w) (K := K) (mg := mg) (base := base) (N := ["table", "thing"]) (qual := qual) (scope := defScope s_is_stable) (f := f) (cdv := cdv) (A := A) (outer := outer) (s := s) (H := H) (E := E)
  have hp := hpD (PP := PP) (w := w) (K := K) (mg := mg) (base := base) (N := ["table", "thing"]) (qual := qual) (scope := defScope s_is_stable) (f := f) (cdv := cdv) (A := A) (outer := outer) (s := s) (H := H) (E := E)
  exact 
  (dss_one (ds_ret (dn_and (dn_callQ g_is_pairing hr (by decide) (by rfl) (dlq_cons (dq_name (pv 0)) (dlq_cons (dq_name (pv 1)) dlq_nil))).dq (dn_one (dn_cmp (op_eqD hr.hu64) r2_eq (dn_callB call_lenAll rl_len (by rfl) T.m_len PyProof.Rows.Boot.«len» (dlq_cons (dn_callQ g_raw_breaking hr (by decide) (by rfl) (dlq_cons (dq_name (pv 0)) (dlq_cons (dq_name (pv 1)) dlq_nil))).dq dlq_nil)).dq dn_int.dq (nomark _)))).de))
theorem sc_law_rank : FnScope ["wishes", "person", "other"] ["wishes", "person", "other"] (defScope s_law_rank) := ⟨rfl, rfl, rfl, by decide +kernel, rfl, by decide +kernel, by decide +kernel⟩
def T_law_rank : DSt :=
  (dRet (dIf (dTest (dOp2 oEq (dNameV 2) (dNameV 1))) (dOpL oLen (dCons (dOp2 oIx (dNameV 0) (dNameV 1)) dNil)) (dMq isSeqD oIndex (dOp2 oIx (dNameV 0) (dNameV 1)) (dCons (dNameV 2) dNil))))
theorem d_law_rank {PP : Program} {w : World} {K : PySem.W.Frag} {mg : Str → Option Value} {base : Heap} {C_NoPairing C_PairError C_Table : Addr} (T : Tx K mg C_NoPairing C_PairError C_Table) {qual : Str} {f : Addr} {cdv : Value} {A : Around} {outer : List Env} {s : Shared} {H : Hp} {E : XK} (hr : RoomG 0 (A.deeper (PyProof.Rows.envOfC qual (defScope s_law_rank) s.heap.objs.size f cdv))) :
    DSs (cxOf (L2.CX PP w) PP w K mg base ["wishes", "person", "other"] qual (defScope s_law_rank) f cdv A outer s H E) (fun c o _ h => E c o h) [0, 1, 2] (defBody s_law_rank) (T_law_rank ) := by
  have sc := sc_law_rank
  have tk := tkD (PP := PP) (w := w) (K := K) (mg := mg) (base := base) (N := ["wishes", "person", "other"]) (qual := qual) (scope := defScope s_law_rank) (f := f) (cdv := cdv) (A := A) (outer := outer) (s := s) (H := H) (E := E)
  have hp := hpD (PP := PP) (w := w) (K := K) (mg := mg) (base := base) (N := ["wishes", "person", "other"]) (qual := qual) (scope := defScope s_law_rank) (f := f) (cdv := cdv) (A := A) (outer := outer) (s := s) (H := H) (E := E)
  exact 
  (dss_one (ds_ret (dn_ifExp (dtn_cmp (op_eqD hr.hu64) r2_eq (dq_name (pv 2)) (dq_name (pv 1)) (nomark _)) (dn_callB call_lenAll rl_len (by rfl) T.m_len PyProof.Rows.Boot.«len» (dlq_cons (dq_ix hr.hu1 (dq_name (pv 0)) (dq_name (pv 1)) (fun _ _ => rfl)) dlq_nil)) (dn_index hr.hu (dq_ix hr.hu1 (dq_name (pv 0)) (dq_name (pv 1)) (fun _ _ => rfl)) (dlq_cons (dq_name (pv 2)) dlq_nil))).de))
theorem sc_law_breaking : FnScope ["wishes", "pairing", "found", "one", "other", "mine", "its"] ["wishes", "pairing"] (defScope s_law_breaking) := ⟨rfl, rfl, rfl, by decide +kernel, rfl, by decide +kernel, by decide +kernel⟩
def T_law_breaking (S_law_rank : DSp) : DSt :=
  (dSeq (dSet 2 (dOpL oLst dNil))
  (dSeq (dFor (diRange1 (dCons (dOpL oLen (dCons (dNameV 0) dNil)) dNil)) (gN 3) 
      (dFor (diSeq (dOpL oSorted (dCons (dLc (diSeq (dOp2 oIx (dNameV 0) (dNameV 3))) (gN 4) (dTest (dOp2 oGt (dNameV 4) (dNameV 3))) (dFz (dNameV 4)) [4]) dNil))) (gN 4) 
          (dSeq (dSetF 5 (dOpL oLst (dCons (dCallQ 3 S_law_rank (dCons (dNameV 0) (dCons (dNameV 3) (dCons (dNameV 4) dNil)))) (dCons (dCallQ 3 S_law_rank (dCons (dNameV 0) (dCons (dNameV 3) (dCons (dOp2 oIx (dNameV 1) (dNameV 3)) dNil)))) dNil))))
          (dSeq (dSetF 6 (dOpL oLst (dCons (dCallQ 3 S_law_rank (dCons (dNameV 0) (dCons (dNameV 4) (dCons (dNameV 3) dNil)))) (dCons (dCallQ 3 S_law_rank (dCons (dNameV 0) (dCons (dNameV 4) (dCons (dOp2 oIx (dNameV 1) (dNameV 4)) dNil)))) dNil))))
          (dIfS (dAnd (dTest (dOp2 oLt (dOp2 oIx (dNameV 5) (dC (.int 0))) (dOp2 oIx (dNameV 5) (dC (.int 1))))) (dTest (dOp2 oLt (dOp2 oIx (dNameV 6) (dC (.int 0))) (dOp2 oIx (dNameV 6) (dC (.int 1)))))) 
              (dDrop (dLm "list" mAppend 2 (dCons (dOpL oTup (dCons (dNameV 3) (dCons (dNameV 4) dNil))) dNil))) dNext)))))
  (dRet (dOpL oTuple (dCons (dNameV 2) dNil)))))
theorem d_law_breaking {PP : Program} {w : World} {K : PySem.W.Frag} {mg : Str → Option Value} {base : Heap} {C_NoPairing C_PairError C_Table : Addr} {S_law_rank : DSp} (T : Tx K mg C_NoPairing C_PairError C_Table) (g_law_rank : DefOk PP w K mg base "_law_rank" 1 3 S_law_rank) {qual : Str} {f : Addr} {cdv : Value} {A : Around} {outer : List Env} {s : Shared} {H : Hp} {E : XK} (hr : RoomG 1 (A.deeper (PyProof.Rows.envOfC qual (defScope s_law_breaking) s.heap.objs.size f cdv))) :
    DSs (cxOf (L2.CX PP w) PP w K mg base ["wishes", "pairing", "found", "one", "other", "mine", "its"] qual (defScope s_law_breaking) f cdv A outer s H E) (fun c o _ h => E c o h) [0, 1] (defBody s_law_breaking) (T_law_breaking S_law_rank) := by
  have sc := sc_law_breaking
  have tk := tkD (PP := PP) (w := w) (K := K) (mg := mg) (base := base) (N := ["wishes", "pairing", "found", "one", "other", "mine", "its"]) (qual := qual) (scope := defScope s_law_breaking) (f := f) (cdv := cdv) (A := A) (outer := outer) (s := s) (H := H) (E := E)
  have hp := hpD (PP := PP) (w := w) (K := K) (mg := mg) (base := base) (N := ["wishes", "pairing", "found", "one", "other", "mine", "its"]) (qual := qual) (scope := defScope s_law_breaking) (f := f) (cdv := cdv) (A := A) (outer := outer) (s := s) (H := H) (E := E)
  exact 
  (dss_cons (ds_set (i := 2) (by decide) sc.nd rfl (.inl rfl) (dn_lst dlq_nil).de)
  (dss_cons (ds_for (L := [3]) (by decide) hp rfl (di_range1 (by rfl) T.m_range (dl_cons (dn_callB call_lenAll rl_len (by rfl) T.m_len PyProof.Rows.Boot.«len» (dlq_cons (dq_name (pv 0)) dlq_nil)).de dl_nil)) (dg_name sc.nd rfl (.inr rfl)) 
      (dss_one (ds_for (L := [4]) (by decide) hp rfl (di_seq (dn_callB (cr_sortB hr.room) rl_sorted (by rfl) T.m_sorted PyProof.Rows.Boot.«sorted» (dlq_cons (dn_lc rfl sc.nd (diq_seq (dq_ix hr.hu1 (dq_name (pv 0)) (dq_name (pv 3)) (fun _ _ => rfl))) (own := [("other", 4)]) (bok (N := ["wishes", "pairing", "found", "one", "other", "mine", "its"]) (sn := [("wishes", .local), ("pairing", .local), ("found", .local), ("one", .cell), ("other", .local), ("mine", .local), ("its", .local), ("range", .globalImplicit), ("len", .globalImplicit), ("sorted", .globalImplicit), ("_law_rank", .globalImplicit), ("tuple", .globalImplicit)]) ⟨rfl, by decide +kernel, by decide +kernel, by decide +kernel, by decide +kernel⟩) (fun s H C cl fp => (dg_name sc.nd rfl (.inl rfl))) (fun s H C cl fp => (dpts_one (dtn_cmp op_gt r_gt (dq_name (pv 4)) (dq_name (pv 3)) (nomark _)))) (fun s H C cl fp => (dq_name (pv 4)).dn)).dq dlq_nil)).de) (dg_name sc.nd rfl (.inl rfl)) 
          (dss_cons (ds_setF (i := 5) (by decide) sc.nd rfl (.inl rfl) (dn_lst (dlq_cons (dn_callQ g_law_rank hr (by decide) (by rfl) (dlq_cons (dq_name (pv 0)) (dlq_cons (dq_name (pv 3)) (dlq_cons (dq_name (pv 4)) dlq_nil)))).dq (dlq_cons (dn_callQ g_law_rank hr (by decide) (by rfl) (dlq_cons (dq_name (pv 0)) (dlq_cons (dq_name (pv 3)) (dlq_cons (dq_ix hr.hu1 (dq_name (pv 1)) (dq_name (pv 3)) (fun _ _ => rfl)) dlq_nil)))).dq dlq_nil))).de)
          (dss_cons (ds_setF (i := 6) (by decide) sc.nd rfl (.inl rfl) (dn_lst (dlq_cons (dn_callQ g_law_rank hr (by decide) (by rfl) (dlq_cons (dq_name (pv 0)) (dlq_cons (dq_name (pv 4)) (dlq_cons (dq_name (pv 3)) dlq_nil)))).dq (dlq_cons (dn_callQ g_law_rank hr (by decide) (by rfl) (dlq_cons (dq_name (pv 0)) (dlq_cons (dq_name (pv 4)) (dlq_cons (dq_ix hr.hu1 (dq_name (pv 1)) (dq_name (pv 4)) (fun _ _ => rfl)) dlq_nil)))).dq dlq_nil))).de)
          (dss_one (ds_if (dwn_and (dtn_cmp op_lt r_lt (dq_ix hr.hu1 (dq_name (pv 5)) dn_int.dq (fun _ _ => rfl)) (dq_ix hr.hu1 (dq_name (pv 5)) dn_int.dq (fun _ _ => rfl)) (nomark _)) (dwn_and1 (dtn_cmp op_lt r_lt (dq_ix hr.hu1 (dq_name (pv 6)) dn_int.dq (fun _ _ => rfl)) (dq_ix hr.hu1 (dq_name (pv 6)) dn_int.dq (fun _ _ => rfl)) (nomark _)))).pt.dt 
              (dss_one (ds_expr (de_lm (i := 2) PySem.F.plainAttrs_list PySem.F.slot_list_append PySem.F.type_list_append (mt_of mt_append) md_append (pv 2) (dl_cons (dn_tup (dlq_cons (dq_name (pv 3)) (dlq_cons (dq_name (pv 4)) dlq_nil))).de dl_nil)))) dss_nil)))))))
  (dss_one (ds_ret (dn_callTy call_tupOfZ rl_tuple (by rfl) T.m_tuple PyProof.Rows.Boot.«tuple» (dlq_cons (dq_name (pv 2)) dlq_nil)).de))))
theorem sc_law_is_flag : FnScope ["told", "due"] ["told", "due"] (defScope s_law_is_flag) := ⟨rfl, rfl, rfl, by decide +kernel, rfl, by decide +kernel, by decide +kernel⟩
def T_law_is_flag : DSt :=
  (dRet (dAndV (dOpL oIsi (dCons (dNameV 0) (dCons (dC (.ty "bool")) dNil))) (dOp2 oEq (dNameV 0) (dNameV 1))))
theorem d_law_is_flag {PP : Program} {w : World} {K : PySem.W.Frag} {mg : Str → Option Value} {base : Heap} {C_NoPairing C_PairError C_Table : Addr} (T : Tx K mg C_NoPairing C_PairError C_Table) {qual : Str} {f : Addr} {cdv : Value} {A : Around} {outer : List Env} {s : Shared} {H : Hp} {E : XK} (hr : RoomG 0 (A.deeper (PyProof.Rows.envOfC qual (defScope s_law_is_flag) s.heap.objs.size f cdv))) :
    DSs (cxOf (L2.CX PP w) PP w K mg base ["told", "due"] qual (defScope s_law_is_flag) f cdv A outer s H E) (fun c o _ h => E c o h) [0, 1] (defBody s_law_is_flag) (T_law_is_flag ) := by
  have sc := sc_law_is_flag
  have tk := tkD (PP := PP) (w := w) (K := K) (mg := mg) (base := base) (N := ["told", "due"]) (qual := qual) (scope := defScope s_law_is_flag) (f := f) (cdv := cdv) (A := A) (outer := outer) (s := s) (H := H) (E := E)
  have hp := hpD (PP := PP) (w := w) (K := K) (mg := mg) (base := base) (N := ["told", "due"]) (qual := qual) (scope := defScope s_law_is_flag) (f := f) (cdv := cdv) (A := A) (outer := outer) (s := s) (H := H) (E := E)
  exact 
  (dss_one (ds_ret (dn_and (dn_callB call_isiAll rl_isi (by rfl) T.m_isinstance PyProof.Rows.Boot.«isinstance» (dlq_cons (dq_name (pv 0)) (dlq_cons (dn_gty (by rfl) T.m_bool PyProof.Rows.Boot.«bool»).dq dlq_nil))).dq (dn_one (dn_cmp (op_eqD hr.hu64) r2_eq (dq_name (pv 0)) (dq_name (pv 1)) (nomark _)))).de))
theorem sc_breaking : FnScope ["table", "pairing"] ["table", "pairing"] (defScope s_breaking) := ⟨rfl, rfl, rfl, by decide +kernel, rfl, by decide +kernel, by decide +kernel⟩
def T_breaking (C_NoPairing : Addr) (S_is_pairing S_raw_breaking : DSp) : DSt :=
  (dSeq (dIfS (dNot (dTest (dCallQ 2 S_is_pairing (dCons (dNameV 0) (dCons (dNameV 1) dNil))))) 
      (dRaise (.ref C_NoPairing)) dNext)
  (dRet (dCallQ 2 S_raw_breaking (dCons (dNameV 0) (dCons (dNameV 1) dNil)))))
theorem d_breaking {PP : Program} {w : World} {K : PySem.W.Frag} {mg : Str → Option Value} {base : Heap} {C_NoPairing C_PairError C_Table : Addr} {S_is_pairing S_raw_breaking : DSp} (T : Tx K mg C_NoPairing C_PairError C_Table) (g_is_pairing : DefOk PP w K mg base "is_pairing" 3 2 S_is_pairing) (g_raw_breaking : DefOk PP w K mg base "raw_breaking" 2 2 S_raw_breaking) {qual : Str} {f : Addr} {cdv : Value} {A : Around} {outer : List Env} {s : Shared} {H : Hp} {E : XK} (hr : RoomG 3 (A.deeper (PyProof.Rows.envOfC qual (defScope s_breaking) s.heap.objs.size f cdv))) :
    DSs (cxOf (L2.CX PP w) PP w K mg base ["table", "pairing"] qual (defScope s_breaking) f cdv A outer s H E) (fun c o _ h => E c o h) [0, 1] (defBody s_breaking) (T_breaking C_NoPairing S_is_pairing S_raw_breaking) := by
  have sc := sc_breaking
  have tk := tkD (PP := PP) (w := w) (K := K) (mg := mg) (base := base) (N := ["table", "pairing"]) (qual := qual) (scope := defScope s_breaking) (f := f) (cdv := cdv) (A := A) (outer := outer) (s := s) (H := H) (E := E)
  have hp := hpD (PP := PP) (w := w) (K := K) (mg := mg) (base := base) (N := ["table", "pairing"]) (qual := qual) (scope := defScope s_breaking) (f := f) (cdv := cdv) (A := A) (outer := outer) (s := s) (H := H) (E := E)
  exact 
  (dss_cons (ds_if (dtn_not (dtn_val (dn_callQ g_is_pairing hr (by decide) (by rfl) (dlq_cons (dq_name (pv 0)) (dlq_cons (dq_name (pv 1)) dlq_nil))).dq)).dt 
      (dss_one (ds_raise0 tk rfl PySem.F.excBase_ValueError T.x_NoPairing.ex T.g_NoPairing T.x_NoPairing.kp (T.x_NoPairing.raises _) (by rfl))) dss_nil)
  (dss_one (ds_ret (dn_callQ g_raw_breaking hr (by decide) (by rfl) (dlq_cons (dq_name (pv 0)) (dlq_cons (dq_name (pv 1)) dlq_nil))).de)))
theorem sc_law_refusal : FnScope ["table", "thing", "e"] ["table", "thing"] (defScope s_law_refusal) := ⟨rfl, rfl, rfl, by decide +kernel, rfl, by decide +kernel, by decide +kernel⟩
def T_law_refusal (C_NoPairing C_PairError : Addr) (sub : Value → Value → Option Bool) (S_breaking : DSp) : DSt :=
  (dTryAs sub (.ref C_PairError) 2 
      (dRetX (dCallX 2 S_breaking (dCons (dFz (dNameV 0)) (dCons (dFz (dNameV 1)) dNil)))) (fun a cls d => 
      (dRet (dIf (dAnd (dTest (dOpL (oIsE sub a cls d) (dCons (dNameV 2) (dCons (dC (.ref C_NoPairing)) dNil)))) (dTest (dOpL (oIsE sub a cls d) (dCons (dNameV 2) (dCons (dC (.ty "ValueError")) dNil))))) (dC (.str "none")) (dC (.str "other"))))))
theorem d_law_refusal {PP : Program} {w : World} {K : PySem.W.Frag} {mg : Str → Option Value} {base : Heap} {C_NoPairing C_PairError C_Table : Addr} {S_breaking : DSp} {sub : Value → Value → Option Bool} (so : SubOk K sub) (T : Tx K mg C_NoPairing C_PairError C_Table) (g_breaking : DefOk PP w K mg base "breaking" 4 2 S_breaking) {qual : Str} {f : Addr} {cdv : Value} {A : Around} {outer : List Env} {s : Shared} {H : Hp} {E : XK} (hr : RoomG 4 (A.deeper (PyProof.Rows.envOfC qual (defScope s_law_refusal) s.heap.objs.size f cdv))) :
    DSs (cxOf (L2.CX PP w) PP w K mg base ["table", "thing", "e"] qual (defScope s_law_refusal) f cdv A outer s H E) (fun c o _ h => E c o h) [0, 1] (defBody s_law_refusal) (T_law_refusal C_NoPairing C_PairError sub S_breaking) := by
  have sc := sc_law_refusal
  have tk := tkD (PP := PP) (w := w) (K := K) (mg := mg) (base := base) (N := ["table", "thing", "e"]) (qual := qual) (scope := defScope s_law_refusal) (f := f) (cdv := cdv) (A := A) (outer := outer) (s := s) (H := H) (E := E)
  have hp := hpD (PP := PP) (w := w) (K := K) (mg := mg) (base := base) (N := ["table", "thing", "e"]) (qual := qual) (scope := defScope s_law_refusal) (f := f) (cdv := cdv) (A := A) (outer := outer) (s := s) (H := H) (E := E)
  exact 
  (dss_one (ds_tryAs (i := 2) (by decide) rfl rfl sc.nd rfl rfl ⟨rfl, by decide, .inl T.g_PairError⟩ tk (fun C b z => so.exm C _ b z) (fun Vx pn xe tk hp => 
      (dss_one (ds_retX (dx_callD tk g_breaking hr (by decide) (by rfl) (dl_cons (dq_name (pv 0)).dn.de (dl_cons (dq_name (pv 1)).dn.de dl_nil)))))) (fun Y a cls d su => by obtain ⟨oe, pn, rfl, hz⟩ := id su; exact 
      (dss_one (ds_ret (dn_ifExp (dwn_and (dtn_val (dn_isE su so (by rfl) T.m_isinstance (dlq_cons (dq_name (pv 2)) (dlq_cons (dn_gref (by rfl) T.g_NoPairing).dq dlq_nil))).dq) (dwn_and1 (dtn_val (dn_isE su so (by rfl) T.m_isinstance (dlq_cons (dq_name (pv 2)) (dlq_cons (dn_gty (by rfl) T.m_ValueError PyProof.Rows.Boot.«ValueError»).dq dlq_nil))).dq))).pt dn_str dn_str).de)))))
theorem sc_law_is_judged : FnScope ["wishes", "table", "thing", "copy", "is_one", "due"] ["wishes", "table", "thing"] (defScope s_law_is_judged) := ⟨rfl, rfl, rfl, by decide +kernel, rfl, by decide +kernel, by decide +kernel⟩
def T_law_is_judged (S_law_is_pairing S_law_breaking S_law_refusal S_law_is_flag S_is_pairing S_is_stable : DSp) : DSt :=
  (dSeq (dParF 3 4 true true (dCons (dOpL oRepr (dCons (dNameV 2) dNil)) (dCons (dCallQ 2 S_law_is_pairing (dCons (dNameV 0) (dCons (dNameV 2) dNil))) dNil)))
  (dSeq (dSetF 5 (dIf (dTest (dNameV 4)) (dCallQ 2 S_law_breaking (dCons (dNameV 0) (dCons (dNameV 2) dNil))) (dC (.str "none"))))
  (dSeq (dIfS (dOr (dNot (dTest (dCallQ 2 S_law_is_flag (dCons (dCallQ 2 S_is_pairing (dCons (dNameV 1) (dCons (dNameV 2) dNil))) (dCons (dNameV 4) dNil))))) (dTest (dOp2 oNe (dOpL oRepr (dCons (dCallQ 2 S_law_refusal (dCons (dNameV 1) (dCons (dNameV 2) dNil))) dNil)) (dOpL oRepr (dCons (dNameV 5) dNil))))) 
      (dRet (dC (.bl false))) dNext)
  (dRet (dAndV (dCallQ 2 S_law_is_flag (dCons (dCallQ 2 S_is_stable (dCons (dNameV 1) (dCons (dNameV 2) dNil))) (dCons (dAndV (dNameV 4) (dOp2 oEq (dOpL oLen (dCons (dNameV 5) dNil)) (dC (.int 0)))) dNil))) (dOp2 oEq (dOpL oRepr (dCons (dNameV 2) dNil)) (dNameV 3)))))))
theorem d_law_is_judged {PP : Program} {w : World} {K : PySem.W.Frag} {mg : Str → Option Value} {base : Heap} {C_NoPairing C_PairError C_Table : Addr} {S_law_is_pairing S_law_breaking S_law_refusal S_law_is_flag S_is_pairing S_is_stable : DSp} (T : Tx K mg C_NoPairing C_PairError C_Table) (g_law_is_pairing : DefOk PP w K mg base "_law_is_pairing" 1 2 S_law_is_pairing) (g_law_breaking : DefOk PP w K mg base "_law_breaking" 2 2 S_law_breaking) (g_law_refusal : DefOk PP w K mg base "_law_refusal" 5 2 S_law_refusal) (g_law_is_flag : DefOk PP w K mg base "_law_is_flag" 1 2 S_law_is_flag) (g_is_pairing : DefOk PP w K mg base "is_pairing" 3 2 S_is_pairing) (g_is_stable : DefOk PP w K mg base "is_stable" 4 2 S_is_stable) {qual : Str} {f : Addr} {cdv : Value} {A : Around} {outer : List Env} {s : Shared} {H : Hp} {E : XK} (hr : RoomG 5 (A.deeper (PyProof.Rows.envOfC qual (defScope s_law_is_judged) s.heap.objs.size f cdv))) :
    DSs (cxOf (L2.CX PP w) PP w K mg base ["wishes", "table", "thing", "copy", "is_one", "due"] qual (defScope s_law_is_judged) f cdv A outer s H E) (fun c o _ h => E c o h) [0, 1, 2] (defBody s_law_is_judged) (T_law_is_judged S_law_is_pairing S_law_breaking S_law_refusal S_law_is_flag S_is_pairing S_is_stable) := by
  have sc := sc_law_is_judged
  have tk := tkD (PP := PP) (w := w) (K := K) (mg := mg) (base := base) (N := ["wishes", "table", "thing", "copy", "is_one", "due"]) (qual := qual) (scope := defScope s_law_is_judged) (f := f) (cdv := cdv) (A := A) (outer := outer) (s := s) (H := H) (E := E)
  have hp := hpD (PP := PP) (w := w) (K := K) (mg := mg) (base := base) (N := ["wishes", "table", "thing", "copy", "is_one", "due"]) (qual := qual) (scope := defScope s_law_is_judged) (f := f) (cdv := cdv) (A := A) (outer := outer) (s := s) (H := H) (E := E)
  exact 
  (dss_cons (ds_parF (i := 3) (j := 4) true true (by decide) (by decide) rfl sc.nd rfl rfl (by decide) rfl rfl (dl_cons (dn_callB (cr_repr hr) rl_repr (by rfl) T.m_repr PyProof.Rows.Boot.«repr» (dlq_cons (dq_name (pv 2)) dlq_nil)).de (dl_cons (dn_callQ g_law_is_pairing hr (by decide) (by rfl) (dlq_cons (dq_name (pv 0)) (dlq_cons (dq_name (pv 2)) dlq_nil))).de dl_nil)) rfl)
  (dss_cons (ds_setF (i := 5) (by decide) sc.nd rfl (.inl rfl) (dn_ifExp (dtn_val (dq_name (pv 4))) (dn_callQ g_law_breaking hr (by decide) (by rfl) (dlq_cons (dq_name (pv 0)) (dlq_cons (dq_name (pv 2)) dlq_nil))) dn_str).de)
  (dss_cons (ds_if (dwn_or (dtn_not (dtn_val (dn_callQ g_law_is_flag hr (by decide) (by rfl) (dlq_cons (dn_callQ g_is_pairing hr (by decide) (by rfl) (dlq_cons (dq_name (pv 1)) (dlq_cons (dq_name (pv 2)) dlq_nil))).dq (dlq_cons (dq_name (pv 4)) dlq_nil))).dq)) (dwn_or1 (dtn_cmp (op_neD hr.hu64) r2_ne (dn_callB (cr_repr hr) rl_repr (by rfl) T.m_repr PyProof.Rows.Boot.«repr» (dlq_cons (dn_callQ g_law_refusal hr (by decide) (by rfl) (dlq_cons (dq_name (pv 1)) (dlq_cons (dq_name (pv 2)) dlq_nil))).dq dlq_nil)).dq (dn_callB (cr_repr hr) rl_repr (by rfl) T.m_repr PyProof.Rows.Boot.«repr» (dlq_cons (dq_name (pv 5)) dlq_nil)).dq (nomark _)))).pt.dt 
      (dss_one (ds_ret dn_bl.de)) dss_nil)
  (dss_one (ds_ret (dn_and (dn_callQ g_law_is_flag hr (by decide) (by rfl) (dlq_cons (dn_callQ g_is_stable hr (by decide) (by rfl) (dlq_cons (dq_name (pv 1)) (dlq_cons (dq_name (pv 2)) dlq_nil))).dq (dlq_cons (dn_and (dq_name (pv 4)) (dn_one (dn_cmp (op_eqD hr.hu64) r2_eq (dn_callB call_lenAll rl_len (by rfl) T.m_len PyProof.Rows.Boot.«len» (dlq_cons (dq_name (pv 5)) dlq_nil)).dq dn_int.dq (nomark _)))).dq dlq_nil))).dq (dn_one (dn_cmp (op_eqD hr.hu64) r2_eq (dn_callB (cr_repr hr) rl_repr (by rfl) T.m_repr PyProof.Rows.Boot.«repr» (dlq_cons (dq_name (pv 2)) dlq_nil)).dq (dq_name (pv 3)) (nomark _)))).de)))))
theorem sc_law_known_right : FnScope ["ring", "cases", "wishes", "pairing", "due"] [] (defScope s_law_known_right) := ⟨rfl, rfl, rfl, by decide +kernel, rfl, by decide +kernel, by decide +kernel⟩
def T_law_known_right (C_Table : Addr) (S_breaking S_Table_zz_initzz_ S_is_stable : DSp) : DSt :=
  (dSeq (dSetF 0 (dOpL oTup (dCons (dOpL oTup (dCons (dC (.int 1)) (dCons (dC (.int 2)) (dCons (dC (.int 3)) dNil)))) (dCons (dOpL oTup (dCons (dC (.int 2)) (dCons (dC (.int 0)) (dCons (dC (.int 3)) dNil)))) (dCons (dOpL oTup (dCons (dC (.int 0)) (dCons (dC (.int 1)) (dCons (dC (.int 3)) dNil)))) (dCons (dOpL oTup (dCons (dC (.int 0)) (dCons (dC (.int 1)) (dCons (dC (.int 2)) dNil)))) dNil))))))
  (dSeq (dSetF 1 (dOpL oLst (dCons (dOpL oTup (dCons (dNameV 0) (dCons (dOpL oTup (dCons (dC (.int 1)) (dCons (dC (.int 0)) (dCons (dC (.int 3)) (dCons (dC (.int 2)) dNil))))) (dCons (dOpL oTup (dCons (dOpL oTup (dCons (dC (.int 1)) (dCons (dC (.int 2)) dNil))) dNil)) dNil)))) (dCons (dOpL oTup (dCons (dNameV 0) (dCons (dOpL oTup (dCons (dC (.int 2)) (dCons (dC (.int 3)) (dCons (dC (.int 0)) (dCons (dC (.int 1)) dNil))))) (dCons (dOpL oTup (dCons (dOpL oTup (dCons (dC (.int 0)) (dCons (dC (.int 1)) dNil))) dNil)) dNil)))) (dCons (dOpL oTup (dCons (dNameV 0) (dCons (dOpL oTup (dCons (dC (.int 3)) (dCons (dC (.int 2)) (dCons (dC (.int 1)) (dCons (dC (.int 0)) dNil))))) (dCons (dOpL oTup (dCons (dOpL oTup (dCons (dC (.int 0)) (dCons (dC (.int 2)) dNil))) dNil)) dNil)))) dNil)))))
  (dSeq (dSetF 1 (dOp2 oAdd (dNameV 1) (dOpL oLst (dCons (dOpL oTup (dCons (dNameV 0) (dCons (dOpL oTup (dCons (dC (.int 0)) (dCons (dC (.int 1)) (dCons (dC (.int 2)) (dCons (dC (.int 3)) dNil))))) (dCons (dOpL oTup (dCons (dOpL oTup (dCons (dC (.int 0)) (dCons (dC (.int 1)) dNil))) (dCons (dOpL oTup (dCons (dC (.int 0)) (dCons (dC (.int 2)) dNil))) (dCons (dOpL oTup (dCons (dC (.int 0)) (dCons (dC (.int 3)) dNil))) (dCons (dOpL oTup (dCons (dC (.int 1)) (dCons (dC (.int 2)) dNil))) (dCons (dOpL oTup (dCons (dC (.int 1)) (dCons (dC (.int 3)) dNil))) (dCons (dOpL oTup (dCons (dC (.int 2)) (dCons (dC (.int 3)) dNil))) dNil))))))) dNil)))) (dCons (dOpL oTup (dCons (dOpL oTup (dCons (dOpL oTup dNil) dNil)) (dCons (dOpL oTup (dCons (dC (.int 0)) dNil)) (dCons (dOpL oTup dNil) dNil)))) dNil)))))
  (dSeq (dSetF 1 (dOp2 oAdd (dNameV 1) (dOpL oLst (dCons (dOpL oTup (dCons (dOpL oTup (dCons (dOpL oTup (dCons (dC (.int 1)) (dCons (dC (.int 2)) dNil))) (dCons (dOpL oTup (dCons (dC (.int 0)) dNil)) (dCons (dOpL oTup (dCons (dC (.int 0)) dNil)) dNil)))) (dCons (dOpL oTup (dCons (dC (.int 1)) (dCons (dC (.int 0)) (dCons (dC (.int 2)) dNil)))) (dCons (dOpL oTup dNil) dNil)))) (dCons (dOpL oTup (dCons (dOpL oTup (dCons (dOpL oTup (dCons (dC (.int 1)) (dCons (dC (.int 2)) dNil))) (dCons (dOpL oTup (dCons (dC (.int 0)) dNil)) (dCons (dOpL oTup (dCons (dC (.int 0)) dNil)) dNil)))) (dCons (dOpL oTup (dCons (dC (.int 2)) (dCons (dC (.int 1)) (dCons (dC (.int 0)) dNil)))) (dCons (dOpL oTup (dCons (dOpL oTup (dCons (dC (.int 0)) (dCons (dC (.int 1)) dNil))) dNil)) dNil)))) dNil)))))
  (dSeq (dIfS (dNot (dTest (dOpL oAll (dCons (dLcE (diSeq (dFz (dNameV 1))) (gTupD 3 (gConsD (gN 2) (gConsD (gN 3) (gConsD (gN 4) gNilD)))) dYes (dOp2 oEq (dOpL oRepr (dCons (dCallE1 2 S_breaking (dCons (dMake C_Table 2 S_Table_zz_initzz_ (dCons (dFz (dNameV 2)) dNil)) (dCons (dFz (dNameV 3)) dNil))) dNil)) (dOpL oRepr (dCons (dNameV 4) dNil))) [2,3,4]) dNil)))) 
      (dRet (dC (.bl false))) dNext)
  (dRet (dAndV (dOp2 oIsB (dCallE1 2 S_is_stable (dCons (dMake C_Table 2 S_Table_zz_initzz_ (dCons (dFz (dNameV 0)) dNil)) (dCons (dOpL oTup (dCons (dC (.int 1)) (dCons (dC (.int 0)) (dCons (dC (.int 3)) (dCons (dC (.int 2)) dNil))))) dNil))) (dC (.bl false))) (dOp2 oIsB (dCallE1 2 S_is_stable (dCons (dMake C_Table 2 S_Table_zz_initzz_ (dCons (dOpL oTup (dCons (dOpL oTup (dCons (dC (.int 1)) dNil)) (dCons (dOpL oTup (dCons (dC (.int 0)) dNil)) dNil))) dNil)) (dCons (dOpL oTup (dCons (dC (.int 1)) (dCons (dC (.int 0)) dNil))) dNil))) (dC (.bl true))))))))))
theorem d_law_known_right {PP : Program} {w : World} {K : PySem.W.Frag} {mg : Str → Option Value} {base : Heap} {C_NoPairing C_PairError C_Table : Addr} {S_breaking S_Table_zz_initzz_ S_is_stable : DSp} (T : Tx K mg C_NoPairing C_PairError C_Table) (g_breaking : DefOk PP w K mg base "breaking" 4 2 S_breaking) (g_Table_zz_initzz_ : ClsOk PP w K mg base "Table" C_Table 5 2 S_Table_zz_initzz_) (g_is_stable : DefOk PP w K mg base "is_stable" 4 2 S_is_stable) {qual : Str} {f : Addr} {cdv : Value} {A : Around} {outer : List Env} {s : Shared} {H : Hp} {E : XK} (hr : RoomG 6 (A.deeper (PyProof.Rows.envOfC qual (defScope s_law_known_right) s.heap.objs.size f cdv))) :
    DSs (cxOf (L2.CX PP w) PP w K mg base ["ring", "cases", "wishes", "pairing", "due"] qual (defScope s_law_known_right) f cdv A outer s H E) (fun c o _ h => E c o h) [] (defBody s_law_known_right) (T_law_known_right C_Table S_breaking S_Table_zz_initzz_ S_is_stable) := by
  have sc := sc_law_known_right
  have tk := tkD (PP := PP) (w := w) (K := K) (mg := mg) (base := base) (N := ["ring", "cases", "wishes", "pairing", "due"]) (qual := qual) (scope := defScope s_law_known_right) (f := f) (cdv := cdv) (A := A) (outer := outer) (s := s) (H := H) (E := E)
  have hp := hpD (PP := PP) (w := w) (K := K) (mg := mg) (base := base) (N := ["ring", "cases", "wishes", "pairing", "due"]) (qual := qual) (scope := defScope s_law_known_right) (f := f) (cdv := cdv) (A := A) (outer := outer) (s := s) (H := H) (E := E)
  exact 
  (dss_cons (ds_setF (i := 0) (by decide) sc.nd rfl (.inl rfl) (dn_tup (dlq_cons (dn_tup (dlq_cons dn_int.dq (dlq_cons dn_int.dq (dlq_cons dn_int.dq dlq_nil)))).dq (dlq_cons (dn_tup (dlq_cons dn_int.dq (dlq_cons dn_int.dq (dlq_cons dn_int.dq dlq_nil)))).dq (dlq_cons (dn_tup (dlq_cons dn_int.dq (dlq_cons dn_int.dq (dlq_cons dn_int.dq dlq_nil)))).dq (dlq_cons (dn_tup (dlq_cons dn_int.dq (dlq_cons dn_int.dq (dlq_cons dn_int.dq dlq_nil)))).dq dlq_nil))))).de)
  (dss_cons (ds_setF (i := 1) (by decide) sc.nd rfl (.inl rfl) (dn_lst (dlq_cons (dn_tup (dlq_cons (dq_name (pv 0)) (dlq_cons (dn_tup (dlq_cons dn_int.dq (dlq_cons dn_int.dq (dlq_cons dn_int.dq (dlq_cons dn_int.dq dlq_nil))))).dq (dlq_cons (dn_tup (dlq_cons (dn_tup (dlq_cons dn_int.dq (dlq_cons dn_int.dq dlq_nil))).dq dlq_nil)).dq dlq_nil)))).dq (dlq_cons (dn_tup (dlq_cons (dq_name (pv 0)) (dlq_cons (dn_tup (dlq_cons dn_int.dq (dlq_cons dn_int.dq (dlq_cons dn_int.dq (dlq_cons dn_int.dq dlq_nil))))).dq (dlq_cons (dn_tup (dlq_cons (dn_tup (dlq_cons dn_int.dq (dlq_cons dn_int.dq dlq_nil))).dq dlq_nil)).dq dlq_nil)))).dq (dlq_cons (dn_tup (dlq_cons (dq_name (pv 0)) (dlq_cons (dn_tup (dlq_cons dn_int.dq (dlq_cons dn_int.dq (dlq_cons dn_int.dq (dlq_cons dn_int.dq dlq_nil))))).dq (dlq_cons (dn_tup (dlq_cons (dn_tup (dlq_cons dn_int.dq (dlq_cons dn_int.dq dlq_nil))).dq dlq_nil)).dq dlq_nil)))).dq dlq_nil)))).de)
  (dss_cons (ds_setF (i := 1) (by decide) sc.nd rfl (.inl rfl) (dn_add (dq_name (pv 1)) (dn_lst (dlq_cons (dn_tup (dlq_cons (dq_name (pv 0)) (dlq_cons (dn_tup (dlq_cons dn_int.dq (dlq_cons dn_int.dq (dlq_cons dn_int.dq (dlq_cons dn_int.dq dlq_nil))))).dq (dlq_cons (dn_tup (dlq_cons (dn_tup (dlq_cons dn_int.dq (dlq_cons dn_int.dq dlq_nil))).dq (dlq_cons (dn_tup (dlq_cons dn_int.dq (dlq_cons dn_int.dq dlq_nil))).dq (dlq_cons (dn_tup (dlq_cons dn_int.dq (dlq_cons dn_int.dq dlq_nil))).dq (dlq_cons (dn_tup (dlq_cons dn_int.dq (dlq_cons dn_int.dq dlq_nil))).dq (dlq_cons (dn_tup (dlq_cons dn_int.dq (dlq_cons dn_int.dq dlq_nil))).dq (dlq_cons (dn_tup (dlq_cons dn_int.dq (dlq_cons dn_int.dq dlq_nil))).dq dlq_nil))))))).dq dlq_nil)))).dq (dlq_cons (dn_tup (dlq_cons (dn_tup (dlq_cons (dn_tup dlq_nil).dq dlq_nil)).dq (dlq_cons (dn_tup (dlq_cons dn_int.dq dlq_nil)).dq (dlq_cons (dn_tup dlq_nil).dq dlq_nil)))).dq dlq_nil))).dq).de)
  (dss_cons (ds_setF (i := 1) (by decide) sc.nd rfl (.inl rfl) (dn_add (dq_name (pv 1)) (dn_lst (dlq_cons (dn_tup (dlq_cons (dn_tup (dlq_cons (dn_tup (dlq_cons dn_int.dq (dlq_cons dn_int.dq dlq_nil))).dq (dlq_cons (dn_tup (dlq_cons dn_int.dq dlq_nil)).dq (dlq_cons (dn_tup (dlq_cons dn_int.dq dlq_nil)).dq dlq_nil)))).dq (dlq_cons (dn_tup (dlq_cons dn_int.dq (dlq_cons dn_int.dq (dlq_cons dn_int.dq dlq_nil)))).dq (dlq_cons (dn_tup dlq_nil).dq dlq_nil)))).dq (dlq_cons (dn_tup (dlq_cons (dn_tup (dlq_cons (dn_tup (dlq_cons dn_int.dq (dlq_cons dn_int.dq dlq_nil))).dq (dlq_cons (dn_tup (dlq_cons dn_int.dq dlq_nil)).dq (dlq_cons (dn_tup (dlq_cons dn_int.dq dlq_nil)).dq dlq_nil)))).dq (dlq_cons (dn_tup (dlq_cons dn_int.dq (dlq_cons dn_int.dq (dlq_cons dn_int.dq dlq_nil)))).dq (dlq_cons (dn_tup (dlq_cons (dn_tup (dlq_cons dn_int.dq (dlq_cons dn_int.dq dlq_nil))).dq dlq_nil)).dq dlq_nil)))).dq dlq_nil))).dq).de)
  (dss_cons (ds_if (dt_not (dt_val (de_callB (cr_all (by rfl)) rl_all (by rfl) T.m_all PyProof.Rows.Boot.«all» (dl_cons (de_lc rfl sc.nd (di_seq (dq_name (pv 1)).dn.de) (own := [("wishes", 2),("pairing", 3),("due", 4)]) (bok (N := ["ring", "cases", "wishes", "pairing", "due"]) (sn := [("ring", .local), ("cases", .local), ("all", .globalImplicit), ("is_stable", .globalImplicit), ("Table", .globalImplicit)]) ⟨rfl, by decide +kernel, by decide +kernel, by decide +kernel, by decide +kernel⟩) (fun s H C cl fp => (dg_tup rfl (dgs_cons (dg_name sc.nd rfl (.inl rfl)) (dgs_cons (dg_name sc.nd rfl (.inl rfl)) (dgs_cons (dg_name sc.nd rfl (.inl rfl)) dgs_nil))))) (fun s H C cl fp => dptsE_nil) (fun s H C cl fp => (de_cmp (op_eqD hr.hu64) r2_eq (de_callB (cr_repr hr) rl_repr (by rfl) T.m_repr PyProof.Rows.Boot.«repr» (dl_cons (de_callD g_breaking hr (by decide) (by rfl) (dl_cons (de_makeD g_Table_zz_initzz_ hr (by decide) (by rfl) (dl_cons (dq_name (pv 2)).dn.de dl_nil)) (dl_cons (dq_name (pv 3)).dn.de dl_nil))) dl_nil)) (dn_callB (cr_repr hr) rl_repr (by rfl) T.m_repr PyProof.Rows.Boot.«repr» (dlq_cons (dq_name (pv 4)) dlq_nil)).dq.dv (nomark _)))) dl_nil)).view)) 
      (dss_one (ds_ret dn_bl.de)) dss_nil)
  (dss_one (ds_ret (de_and (de_cmp op_isBl r_isB (de_callD g_is_stable hr (by decide) (by rfl) (dl_cons (de_makeD g_Table_zz_initzz_ hr (by decide) (by rfl) (dl_cons (dq_name (pv 0)).dn.de dl_nil)) (dl_cons (dn_tup (dlq_cons dn_int.dq (dlq_cons dn_int.dq (dlq_cons dn_int.dq (dlq_cons dn_int.dq dlq_nil))))).de dl_nil))) dn_bl.dq.dv (nomark _)).view (de_one (de_cmp op_isBl r_isB (de_callD g_is_stable hr (by decide) (by rfl) (dl_cons (de_makeD g_Table_zz_initzz_ hr (by decide) (by rfl) (dl_cons (dn_tup (dlq_cons (dn_tup (dlq_cons dn_int.dq dlq_nil)).dq (dlq_cons (dn_tup (dlq_cons dn_int.dq dlq_nil)).dq dlq_nil))).de dl_nil)) (dl_cons (dn_tup (dlq_cons dn_int.dq (dlq_cons dn_int.dq dlq_nil))).de dl_nil))) dn_bl.dq.dv (nomark _)))))))))))
theorem sc_law : FnScope ["script", "tape", "turn", "wishes", "table", "every", "some", "pairing", "again"] ["script"] (defScope s_law) := ⟨rfl, rfl, rfl, by decide +kernel, rfl, by decide +kernel, by decide +kernel⟩
def T_law (C_Table : Addr) (S_law_tape S_law_known_right S_law_wishes S_law_pick S_law_all S_Table_zz_initzz_ S_law_any S_law_is_judged S_law_is_pairing S_law_bent S_law_count S_law_drawn : DSp) : DSt :=
  (dSeq (dSet 1 (dCallQ 1 S_law_tape (dCons (dNameV 0) dNil)))
  (dSeq (dIfS (dNot (dTest (dCallE1 0 S_law_known_right dNil))) 
      (dRet (dC (.bl false))) dNext)
  (dSeq (dFor (diRange1 (dCons (dC (.int 2)) dNil)) (gN 2) 
      (dSeq (dSetF 3 (dCallI 2 S_law_wishes 1 (dCons (dOp2 oAdd (dC (.int 1)) (dCallI 2 S_law_pick 1 (dCons (dC (.int 6)) dNil))) dNil)))
      (dSeq (dParF 4 5 true true (dCons (dMake C_Table 2 S_Table_zz_initzz_ (dCons (dFz (dNameV 3)) dNil)) (dCons (dCallQ 1 S_law_all (dCons (dNameV 3) dNil)) dNil)))
      (dSeq (dSetF 6 (dIf (dTest (dOp2 oLt (dOpL oLen (dCons (dNameV 5) dNil)) (dC (.int 20)))) (dFz (dNameV 5)) (dLcE (diRange1 (dCons (dC (.int 20)) dNil)) (gN 8) dYes (dCallI 2 S_law_any 1 (dCons (dFz (dNameV 5)) dNil)) [8])))
      (dSeq (dIfS (dNot (dTest (dOpL oAll (dCons (dLc (diSeq (dNameV 6)) (gN 7) dYes (dAndV (dCallQ 2 S_law_is_pairing (dCons (dNameV 3) (dCons (dNameV 7) dNil))) (dCallQ 3 S_law_is_judged (dCons (dNameV 3) (dCons (dNameV 4) (dCons (dNameV 7) dNil))))) [7]) dNil)))) 
          (dRet (dC (.bl false))) dNext)
      (dIfS (dNot (dTest (dOpL oAll (dCons (dLcE (diRange1 (dCons (dC (.int 8)) dNil)) (gN 8) dYes (dCallE1 3 S_law_is_judged (dCons (dFz (dNameV 3)) (dCons (dFz (dNameV 4)) (dCons (dCallI 2 S_law_bent 1 (dCons (dCallI 2 S_law_any 1 (dCons (dFz (dNameV 5)) dNil)) dNil)) dNil)))) [8]) dNil)))) 
          (dRet (dC (.bl false))) dNext))))))
  (dSeq (dSetF 3 (dCallI 2 S_law_wishes 1 (dCons (dCallI 1 S_law_count 1 dNil) dNil)))
  (dSeq (dSetFX 4 (dMakeX C_Table 2 S_Table_zz_initzz_ (dCons (dFz (dNameV 3)) dNil)))
  (dSeq (dFor (diRange1 (dCons (dC (.int 3)) dNil)) (gN 2) 
      (dSeq (dSetF 7 (dCallI 2 S_law_drawn 1 (dCons (dFz (dNameV 3)) dNil)))
      (dSeq (dIfS (dOr (dNot (dTest (dCallQ 2 S_law_is_pairing (dCons (dNameV 3) (dCons (dNameV 7) dNil))))) (dNot (dTest (dCallQ 3 S_law_is_judged (dCons (dNameV 3) (dCons (dNameV 4) (dCons (dNameV 7) dNil))))))) 
          (dRet (dC (.bl false))) dNext)
      (dIfS (dNot (dTest (dCallE1 3 S_law_is_judged (dCons (dFz (dNameV 3)) (dCons (dFz (dNameV 4)) (dCons (dCallI 2 S_law_bent 1 (dCons (dFz (dNameV 7)) dNil)) dNil)))))) 
          (dRet (dC (.bl false))) dNext))))
  (dRet (dC (.bl true)))))))))
theorem d_law {PP : Program} {w : World} {K : PySem.W.Frag} {mg : Str → Option Value} {base : Heap} {C_NoPairing C_PairError C_Table : Addr} {S_law_tape S_law_known_right S_law_wishes S_law_pick S_law_all S_Table_zz_initzz_ S_law_any S_law_is_judged S_law_is_pairing S_law_bent S_law_count S_law_drawn : DSp} (T : Tx K mg C_NoPairing C_PairError C_Table) (g_law_tape : DefOk PP w K mg base "_law_tape" 1 1 S_law_tape) (g_law_known_right : DefOk PP w K mg base "_law_known_right" 7 0 S_law_known_right) (g_law_wishes : DefOk PP w K mg base "_law_wishes" 3 2 S_law_wishes) (g_law_pick : DefOk PP w K mg base "_law_pick" 1 2 S_law_pick) (g_law_all : DefOk PP w K mg base "_law_all" 1 1 S_law_all) (g_Table_zz_initzz_ : ClsOk PP w K mg base "Table" C_Table 5 2 S_Table_zz_initzz_) (g_law_any : DefOk PP w K mg base "_law_any" 2 2 S_law_any) (g_law_is_judged : DefOk PP w K mg base "_law_is_judged" 6 3 S_law_is_judged) (g_law_is_pairing : DefOk PP w K mg base "_law_is_pairing" 1 2 S_law_is_pairing) (g_law_bent : DefOk PP w K mg base "_law_bent" 3 2 S_law_bent) (g_law_count : DefOk PP w K mg base "_law_count" 2 1 S_law_count) (g_law_drawn : DefOk PP w K mg base "_law_drawn" 3 2 S_law_drawn) {qual : Str} {f : Addr} {cdv : Value} {A : Around} {outer : List Env} {s : Shared} {H : Hp} {E : XK} (hr : RoomG 7 (A.deeper (PyProof.Rows.envOfC qual (defScope s_law) s.heap.objs.size f cdv))) :
    DSs (cxOf (L2.CX PP w) PP w K mg base ["script", "tape", "turn", "wishes", "table", "every", "some", "pairing", "again"] qual (defScope s_law) f cdv A outer s H E) (fun c o _ h => E c o h) [0] (defBody s_law) (T_law C_Table S_law_tape S_law_known_right S_law_wishes S_law_pick S_law_all S_Table_zz_initzz_ S_law_any S_law_is_judged S_law_is_pairing S_law_bent S_law_count S_law_drawn) := by
  have sc := sc_law
  have tk := tkD (PP := PP) (w := w) (K := K) (mg := mg) (base := base) (N := ["script", "tape", "turn", "wishes", "table", "every", "some", "pairing", "again"]) (qual := qual) (scope := defScope s_law) (f := f) (cdv := cdv) (A := A) (outer := outer) (s := s) (H := H) (E := E)
  have hp := hpD (PP := PP) (w := w) (K := K) (mg := mg) (base := base) (N := ["script", "tape", "turn", "wishes", "table", "every", "some", "pairing", "again"]) (qual := qual) (scope := defScope s_law) (f := f) (cdv := cdv) (A := A) (outer := outer) (s := s) (H := H) (E := E)
  exact 
  (dss_cons (ds_set (i := 1) (by decide) sc.nd rfl (.inr rfl) (dn_callQ g_law_tape hr (by decide) (by rfl) (dlq_cons (dq_name (pv 0)) dlq_nil)).de)
  (dss_cons (ds_if (dt_not (dt_val (de_callD0 g_law_known_right hr (by decide) (by rfl)).view)) 
      (dss_one (ds_ret dn_bl.de)) dss_nil)
  (dss_cons (ds_for (L := [2]) (by decide) hp rfl (di_range1 (by rfl) T.m_range (dl_cons dn_int.de dl_nil)) (dg_name sc.nd rfl (.inl rfl)) 
      (dss_cons (ds_setF (i := 3) (by decide) sc.nd rfl (.inr rfl) (de_callDI 1 g_law_wishes hr (by decide) (by rfl) (pv 1) (dl_cons (de_add dn_int.de (de_callDI 1 g_law_pick hr (by decide) (by rfl) (pv 1) (dl_cons dn_int.de dl_nil)).view) dl_nil)))
      (dss_cons (ds_parN (i := 4) (j := 5) true true (by decide) (by decide) rfl sc.nd rfl rfl (.inr rfl) (.inr rfl) (dl_cons (de_makeD g_Table_zz_initzz_ hr (by decide) (by rfl) (dl_cons (dq_name (pv 3)).dn.de dl_nil)) (dl_cons (dn_callQ g_law_all hr (by decide) (by rfl) (dlq_cons (dq_name (pv 3)) dlq_nil)).de dl_nil)))
      (dss_cons (ds_setF (i := 6) (by decide) sc.nd rfl (.inl rfl) (de_ifExp (dtn_cmp op_lt r_lt (dn_callB call_lenAll rl_len (by rfl) T.m_len PyProof.Rows.Boot.«len» (dlq_cons (dq_name (pv 5)) dlq_nil)).dq dn_int.dq (nomark _)).dt (dq_name (pv 5)).dn.de (de_lc rfl sc.nd (di_range1 (by rfl) T.m_range (dl_cons dn_int.de dl_nil)) (own := [("again", 8)]) (bok (N := ["script", "tape", "turn", "wishes", "table", "every", "some", "pairing", "again"]) (sn := [("script", .local), ("tape", .cell), ("turn", .local), ("wishes", .cell), ("table", .cell), ("every", .cell), ("some", .local), ("pairing", .local), ("_law_tape", .globalImplicit), ("_law_known_right", .globalImplicit), ("range", .globalImplicit), ("_law_wishes", .globalImplicit), ("_law_pick", .globalImplicit), ("Table", .globalImplicit), ("_law_all", .globalImplicit), ("len", .globalImplicit), ("all", .globalImplicit), ("_law_count", .globalImplicit), ("_law_drawn", .globalImplicit), ("_law_is_pairing", .globalImplicit), ("_law_is_judged", .globalImplicit), ("_law_bent", .globalImplicit)]) ⟨rfl, by decide +kernel, by decide +kernel, by decide +kernel, by decide +kernel⟩) (fun s H C cl fp => (dg_name sc.nd rfl (.inl rfl))) (fun s H C cl fp => dptsE_nil) (fun s H C cl fp => (de_callDI 1 g_law_any hr (by decide) (by rfl) (pv 1) (dl_cons (dq_name (pv 5)).dn.de dl_nil))))))
      (dss_cons (ds_if (dtn_not (dtn_val (dn_callB (cr_all (by rfl)) rl_all (by rfl) T.m_all PyProof.Rows.Boot.«all» (dlq_cons (dn_lc rfl sc.nd (diq_seq (dq_name (pv 6))) (own := [("pairing", 7)]) (bok (N := ["script", "tape", "turn", "wishes", "table", "every", "some", "pairing", "again"]) (sn := [("script", .local), ("tape", .cell), ("turn", .local), ("wishes", .cell), ("table", .cell), ("every", .cell), ("some", .local), ("pairing", .local), ("_law_tape", .globalImplicit), ("_law_known_right", .globalImplicit), ("range", .globalImplicit), ("_law_wishes", .globalImplicit), ("_law_pick", .globalImplicit), ("Table", .globalImplicit), ("_law_all", .globalImplicit), ("len", .globalImplicit), ("all", .globalImplicit), ("_law_count", .globalImplicit), ("_law_drawn", .globalImplicit), ("_law_is_pairing", .globalImplicit), ("_law_is_judged", .globalImplicit), ("_law_bent", .globalImplicit)]) ⟨rfl, by decide +kernel, by decide +kernel, by decide +kernel, by decide +kernel⟩) (fun s H C cl fp => (dg_name sc.nd rfl (.inl rfl))) (fun s H C cl fp => dpts_nil) (fun s H C cl fp => (dn_and (dn_callQ g_law_is_pairing hr (by decide) (by rfl) (dlq_cons (dq_name (pv 3)) (dlq_cons (dq_name (pv 7)) dlq_nil))).dq (dn_one (dn_callQ g_law_is_judged hr (by decide) (by rfl) (dlq_cons (dq_name (pv 3)) (dlq_cons (dq_name (pv 4)) (dlq_cons (dq_name (pv 7)) dlq_nil)))))))).dq dlq_nil)).dq)).dt 
          (dss_one (ds_ret dn_bl.de)) dss_nil)
      (dss_one (ds_if (dt_not (dt_val (de_callB (cr_all (by rfl)) rl_all (by rfl) T.m_all PyProof.Rows.Boot.«all» (dl_cons (de_lc rfl sc.nd (di_range1 (by rfl) T.m_range (dl_cons dn_int.de dl_nil)) (own := [("again", 8)]) (bok (N := ["script", "tape", "turn", "wishes", "table", "every", "some", "pairing", "again"]) (sn := [("script", .local), ("tape", .cell), ("turn", .local), ("wishes", .cell), ("table", .cell), ("every", .cell), ("some", .local), ("pairing", .local), ("_law_tape", .globalImplicit), ("_law_known_right", .globalImplicit), ("range", .globalImplicit), ("_law_wishes", .globalImplicit), ("_law_pick", .globalImplicit), ("Table", .globalImplicit), ("_law_all", .globalImplicit), ("len", .globalImplicit), ("all", .globalImplicit), ("_law_count", .globalImplicit), ("_law_drawn", .globalImplicit), ("_law_is_pairing", .globalImplicit), ("_law_is_judged", .globalImplicit), ("_law_bent", .globalImplicit)]) ⟨rfl, by decide +kernel, by decide +kernel, by decide +kernel, by decide +kernel⟩) (fun s H C cl fp => (dg_name sc.nd rfl (.inl rfl))) (fun s H C cl fp => dptsE_nil) (fun s H C cl fp => (de_callD g_law_is_judged hr (by decide) (by rfl) (dl_cons (dq_name (pv 3)).dn.de (dl_cons (dq_name (pv 4)).dn.de (dl_cons (de_callDI 1 g_law_bent hr (by decide) (by rfl) (pv 1) (dl_cons (de_callDI 1 g_law_any hr (by decide) (by rfl) (pv 1) (dl_cons (dq_name (pv 5)).dn.de dl_nil)) dl_nil)) dl_nil)))))) dl_nil)).view)) 
          (dss_one (ds_ret dn_bl.de)) dss_nil)))))))
  (dss_cons (ds_setF (i := 3) (by decide) sc.nd rfl (.inr rfl) (de_callDI 1 g_law_wishes hr (by decide) (by rfl) (pv 1) (dl_cons (de_callDI 1 g_law_count hr (by decide) (by rfl) (pv 1) dl_nil) dl_nil)))
  (dss_cons (ds_setFX (i := 4) (by decide) sc.nd rfl (.inr rfl) (dx_makeD tk g_Table_zz_initzz_ hr (by decide) (by rfl) (dl_cons (dq_name (pv 3)).dn.de dl_nil)))
  (dss_cons (ds_for (L := [2]) (by decide) hp rfl (di_range1 (by rfl) T.m_range (dl_cons dn_int.de dl_nil)) (dg_name sc.nd rfl (.inl rfl)) 
      (dss_cons (ds_setF (i := 7) (by decide) sc.nd rfl (.inl rfl) (de_callDI 1 g_law_drawn hr (by decide) (by rfl) (pv 1) (dl_cons (dq_name (pv 3)).dn.de dl_nil)))
      (dss_cons (ds_if (dwn_or (dtn_not (dtn_val (dn_callQ g_law_is_pairing hr (by decide) (by rfl) (dlq_cons (dq_name (pv 3)) (dlq_cons (dq_name (pv 7)) dlq_nil))).dq)) (dwn_or1 (dtn_not (dtn_val (dn_callQ g_law_is_judged hr (by decide) (by rfl) (dlq_cons (dq_name (pv 3)) (dlq_cons (dq_name (pv 4)) (dlq_cons (dq_name (pv 7)) dlq_nil)))).dq)))).pt.dt 
          (dss_one (ds_ret dn_bl.de)) dss_nil)
      (dss_one (ds_if (dt_not (dt_val (de_callD g_law_is_judged hr (by decide) (by rfl) (dl_cons (dq_name (pv 3)).dn.de (dl_cons (dq_name (pv 4)).dn.de (dl_cons (de_callDI 1 g_law_bent hr (by decide) (by rfl) (pv 1) (dl_cons (dq_name (pv 7)).dn.de dl_nil)) dl_nil)))).view)) 
          (dss_one (ds_ret dn_bl.de)) dss_nil)))))
  (dss_one (ds_ret dn_bl.de))))))))
end K02
/-! P1: reading off: rules for the plain half. -/
namespace Dl
open PySem PySem.Spec L2
/-- a loop, by an invariant over the number of items walked -/
theorem forD_nat {g : DTg} {T : DSt} {k : DEnds} {ds : List D} {ρ : DEnv} (n : Nat) (enc : Nat → D) (hn : ds.length = n) (hd : ∀ i, i < n → ds[i]? = some (enc i)) (I : Nat → DEnv → Prop) (h0 : I 0 ρ)
    (hs : ∀ i ρ, i < n → I i ρ → ∀ K : DEnv → Prop, (∀ ρ, I (i + 1) ρ → K ρ) → g (enc i) ρ fun ρ1 => T { k with nx := K, ct := K, bk := k.nx } ρ1) (he : ∀ ρ, I n ρ → k.nx ρ) : forD g T k ds ρ := by
  refine ⟨fun r ρ => ∃ i, i ≤ n ∧ r = ds.drop i ∧ I i ρ, ⟨0, Nat.zero_le _, rfl, h0⟩, fun d r ρ ⟨i, hi, e, h⟩ => ?_, fun ρ ⟨i, hi, e, h⟩ => ?_⟩
  · have hlt : i < ds.length := by
      rcases Nat.lt_or_ge i ds.length with z | z
      · exact z
      · rw [List.drop_eq_nil_of_le z] at e; cases e
    rw [List.drop_eq_getElem_cons hlt] at e
    have h2 := hd i (hn ▸ hlt)
    rw [List.getElem?_eq_getElem hlt] at h2
    injection e with e1 e2
    rw [e1, Option.some.inj h2]
    exact hs i ρ (hn ▸ hlt) h _ fun ρ' h' => ⟨i + 1, hn ▸ hlt, e2, h'⟩
  · have : ds.length ≤ i := List.drop_eq_nil_iff.mp e.symm
    have : i = n := by omega
    subst this
    exact he ρ h
/-- .. over a list of encoded things -/
theorem forD_list {α : Type} {g : DTg} {T : DSt} {k : DEnds} {ρ : DEnv} (enc : α → D) (xs : List α) (I : List α → List α → DEnv → Prop) (h0 : I [] xs ρ)
    (hs : ∀ p x r ρ, xs = p ++ x :: r → I p (x :: r) ρ → ∀ K : DEnv → Prop, (∀ ρ, I (p ++ [x]) r ρ → K ρ) → g (enc x) ρ fun ρ1 => T { k with nx := K, ct := K, bk := k.nx } ρ1) (he : ∀ ρ, I xs [] ρ → k.nx ρ) : forD g T k (xs.map enc) ρ := by
  refine ⟨fun r ρ => ∃ p q, xs = p ++ q ∧ r = q.map enc ∧ I p q ρ, ⟨[], xs, rfl, rfl, h0⟩, fun d r ρ ⟨p, q, e, e2, h⟩ => ?_, fun ρ ⟨p, q, e, e2, h⟩ => ?_⟩
  · cases q with
    | nil => cases e2
    | cons x q =>
      injection e2 with e3 e4
      subst e3 e4
      exact hs p x q ρ e h _ fun ρ' h' => ⟨p ++ [x], q, by rw [e, List.append_assoc]; rfl, rfl, h'⟩
  · cases q with
    | nil => rw [List.append_nil] at e; subst e; exact he ρ h
    | cons x q => cases e2
/-- a quiet comprehension: each item gives a thing, or is passed over -/
theorem compD_fn {α : Type} {g : DTg} {tt : TTd} {te : ET} {ρb : DEnv} {k : D → Prop} (enc : α → D) (f : α → Option D) (xs : List α) (hlen : xs.length ≤ sizeLine)
    (hs : ∀ x ∈ xs, ∀ Q : Option D → Prop, Q (f x) → g (enc x) ρb fun ρ1 => tt ρ1 fun _ b => match b with
      | true => te ρ1 fun _ y => Q (some y)
      | false => Q none) (hk : k (.lst true (xs.filterMap f))) : compD g tt te ρb k (xs.map enc) := by
  refine ⟨fun acc r => ∃ p q, xs = p ++ q ∧ r = q.map enc ∧ acc = p.filterMap f, ⟨[], xs, rfl, rfl, rfl⟩, fun acc d r ⟨p, q, e, e2, e3⟩ => ?_, fun acc ⟨p, q, e, e2, e3⟩ => ?_⟩
  · cases q with
    | nil => cases e2
    | cons x q =>
      injection e2 with e4 e5
      subst e4 e5
      have hx : x ∈ xs := by rw [e]; simp
      have hl : acc.length < sizeLine := by
        rw [e3]
        have h1 := List.length_filterMap_le f p
        have h2 : xs.length = p.length + (q.length + 1) := by rw [e, List.length_append, List.length_cons]
        omega
      refine hs x hx (fun o => match o with
        | some y => acc.length < sizeLine ∧ ∃ p' q', xs = p' ++ q' ∧ q.map enc = q'.map enc ∧ acc ++ [y] = p'.filterMap f
        | none => ∃ p' q', xs = p' ++ q' ∧ q.map enc = q'.map enc ∧ acc = p'.filterMap f) ?_
      have e6 : xs = (p ++ [x]) ++ q := by rw [e, List.append_assoc]; rfl
      cases hf : f x with
      | some y => exact ⟨hl, p ++ [x], q, e6, rfl, by rw [List.filterMap_append, e3]; simp [hf]⟩
      | none => exact ⟨p ++ [x], q, e6, rfl, by rw [List.filterMap_append, e3]; simp [hf]⟩
  · cases q with
    | nil => rw [List.append_nil] at e; subst e; rw [e3]; exact hk
    | cons x q => cases e2
/-- .. every item a thing -/
theorem compD_map {α : Type} {g : DTg} {te : ET} {ρb : DEnv} {k : D → Prop} (enc : α → D) (f : α → D) (xs : List α) (hlen : xs.length ≤ sizeLine)
    (hs : ∀ x ∈ xs, ∀ Q : D → Prop, Q (f x) → g (enc x) ρb fun ρ1 => te ρ1 fun _ y => Q y) (hk : k (.lst true (xs.map f))) : compD g dYes te ρb k (xs.map enc) :=
  compD_fn enc (fun x => some (f x)) xs hlen (fun x hx Q q => hs x hx (fun y => Q (some y)) q) (by rw [show xs.filterMap (fun x => some (f x)) = xs.map f from by simp [← List.filterMap_eq_map]]; exact hk)
/-- an effectful comprehension, by an invariant over the items walked -/
theorem compE_list {α : Type} {g : DTg} {tt : TTd} {te : ET} {own : List Nat} {k : DEnv → D → Prop} {ρ0 : DEnv} (enc : α → D) (xs : List α) (I : List α → List α → List D → DEnv → Prop) (hlen : xs.length ≤ sizeLine) (h0 : I [] xs [] ρ0)
    (hs : ∀ p x r acc ρ, xs = p ++ x :: r → I p (x :: r) acc ρ → ∀ K : Option D → DEnv → Prop, (∀ o ρ, I (p ++ [x]) r (acc ++ o.toList) ρ → K o ρ) → g (enc x) ρ fun ρ1 => tt ρ1 fun ρ2 b => match b with
      | true => te ρ2 fun ρ3 y => K (some y) (wipeD ρ3 own)
      | false => K none (wipeD ρ2 own)) (hl : ∀ p r acc ρ, I p r acc ρ → acc.length ≤ p.length) (he : ∀ acc ρ, I xs [] acc ρ → k (wipeD ρ own) (.lst true acc)) : compE g tt te own k (xs.map enc) ρ0 := by
  refine ⟨fun acc r ρ => ∃ p q, xs = p ++ q ∧ r = q.map enc ∧ I p q acc ρ, ⟨[], xs, rfl, rfl, h0⟩, fun acc d r ρ ⟨p, q, e, e2, h⟩ => ?_, fun acc ρ ⟨p, q, e, e2, h⟩ => ?_⟩
  · cases q with
    | nil => cases e2
    | cons x q =>
      injection e2 with e4 e5
      subst e4 e5
      have hlt : acc.length < sizeLine := by
        have h1 := hl _ _ _ _ h
        have h2 : xs.length = p.length + (q.length + 1) := by rw [e, List.length_append, List.length_cons]
        omega
      have e6 : xs = (p ++ [x]) ++ q := by rw [e, List.append_assoc]; rfl
      refine hs p x q acc ρ e h (fun o ρ' => match o with
        | some y => acc.length < sizeLine ∧ ∃ p' q', xs = p' ++ q' ∧ q.map enc = q'.map enc ∧ I p' q' (acc ++ [y]) ρ'
        | none => ∃ p' q', xs = p' ++ q' ∧ q.map enc = q'.map enc ∧ I p' q' acc ρ') fun o ρ' h' => ?_
      cases o with
      | some y => exact ⟨hlt, p ++ [x], q, e6, rfl, h'⟩
      | none => exact ⟨p ++ [x], q, e6, rfl, by simpa using h'⟩
  · cases q with
    | nil => rw [List.append_nil] at e; subst e; exact he acc ρ h
    | cons x q => cases e2
end Dl
/-! P1b: what a quiet reading comes to, rule by rule. -/
namespace Dl
open PySem PySem.Spec L2
def Ev (T : ET) (ρ : DEnv) (d : D) : Prop := ∀ k : DEnv → D → Prop, k ρ d → T ρ k
def EvT (T : TTd) (ρ : DEnv) (b : Bool) : Prop := ∀ k : DEnv → Bool → Prop, k ρ b → T ρ k
def EvL (T : DEnv → (DEnv → List D → Prop) → Prop) (ρ : DEnv) (ds : List D) : Prop := ∀ k : DEnv → List D → Prop, k ρ ds → T ρ k
def EvO (T : OTq) (ρ : DEnv) (o : Option Int) : Prop := ∀ k : Option Int → Prop, k o → T ρ k
def EvG (g : DTg) (d : D) (ρ ρ1 : DEnv) : Prop := ∀ k : DEnv → Prop, k ρ1 → g d ρ k
def EvGs (g : DTgs) (ds : List D) (ρ ρ1 : DEnv) : Prop := ∀ k : DEnv → Prop, k ρ1 → g ds ρ k
def O1 (f : D → (D → Prop) → Prop) (x z : D) : Prop := ∀ k : D → Prop, k z → f x k
def O2 (f : D → D → (D → Prop) → Prop) (x y z : D) : Prop := ∀ k : D → Prop, k z → f x y k
def OL (f : List D → (D → Prop) → Prop) (ds : List D) (z : D) : Prop := ∀ k : D → Prop, k z → f ds k
section
variable {ρ ρ1 ρ2 : DEnv} {d e x y z : D} {ds es : List D} {i j : Int} {n : Nat} {T Ta Tb Tc : ET} {t u : TTd} {Tl : LT} {b c : Bool}
theorem ev_c : Ev (dC d) ρ d := fun k h => h
theorem ev_name (h : ρ[n]? = some (some d)) : Ev (dNameV n) ρ d := fun k q => by show nameV ρ n (k ρ); unfold nameV; rw [h]; exact q
theorem ev_fz (h : Ev T ρ d) (hf : isFz d = true) : Ev (dFz T) ρ d := fun k q => h _ (by rw [hf]; exact q)
theorem ev_op1 {f} (ha : Ev Ta ρ x) (hf : O1 f x z) : Ev (dOp1 f Ta) ρ z := fun k q => ha _ (hf _ q)
theorem ev_op2 {f} (ha : Ev Ta ρ x) (hb : Ev Tb ρ y) (hf : O2 f x y z) : Ev (dOp2 f Ta Tb) ρ z := fun k q => ha _ (hb _ (hf _ q))
theorem ev_opL {f} (ha : EvL Tl ρ ds) (hf : OL f ds z) : Ev (dOpL f Tl) ρ z := fun k q => ha _ (hf _ q)
theorem evl_nil : EvL dNil ρ [] := fun k h => h
theorem evl_cons (ha : Ev Ta ρ x) (hl : EvL Tl ρ ds) : EvL (dCons Ta Tl) ρ (x :: ds) := fun k q => ha _ (hl _ q)
theorem ev_andV (ha : Ev Ta ρ (.bl b)) (hb : b = true → Ev Tb ρ (.bl c)) : Ev (dAndV Ta Tb) ρ (.bl (b && c)) := fun k q => ha _ (by
  cases b with
  | true => exact hb rfl _ q
  | false => exact q)
theorem ev_orV (ha : Ev Ta ρ (.bl b)) (hb : b = false → Ev Tb ρ (.bl c)) : Ev (dOrV Ta Tb) ρ (.bl (b || c)) := fun k q => ha _ (by
  cases b with
  | false => exact hb rfl _ q
  | true => exact q)
theorem ev_notV (ha : Ev Ta ρ (.bl b)) : Ev (dNotV Ta) ρ (.bl (!b)) := fun k q => ha _ q
theorem ev_chain {f f'} (ha : Ev Ta ρ x) (hb : Ev Tb ρ y) (hf : O2 f x y (.bl b)) (hc : b = true → Ev Tc ρ z ∧ O2 f' y z (.bl c)) : Ev (dChain f f' Ta Tb Tc) ρ (.bl (b && c)) := fun k q => ha _ (hb _ (hf _ (by
  cases b with
  | true => exact (hc rfl).1 _ ((hc rfl).2 _ q)
  | false => exact q)))
theorem ev_if (hc : EvT t ρ b) (ha : b = true → Ev Ta ρ x) (hb : b = false → Ev Tb ρ y) : Ev (dIf t Ta Tb) ρ (if b = true then x else y) := fun k q => hc _ (by
  cases b with
  | true => exact ha rfl _ q
  | false => exact hb rfl _ q)
theorem evt_test (h : Ev T ρ (.bl b)) : EvT (dTest T) ρ b := fun k q => h _ q
theorem evt_not (h : EvT t ρ b) : EvT (dNot t) ρ (!b) := fun k q => h _ q
theorem evt_and (ha : EvT t ρ b) (hb : b = true → EvT u ρ c) : EvT (dAnd t u) ρ (b && c) := fun k q => ha _ (by
  cases b with
  | true => exact hb rfl _ q
  | false => exact q)
theorem evt_or (ha : EvT t ρ b) (hb : b = false → EvT u ρ c) : EvT (dOr t u) ρ (b || c) := fun k q => ha _ (by
  cases b with
  | false => exact hb rfl _ q
  | true => exact q)
theorem evt_yes : EvT dYes ρ true := fun k q => q
/-! slices -/
theorem evo_none : EvO dNoPart ρ none := fun k q => q
theorem evo_some (h : Ev T ρ (.int i)) : EvO (dPart T) ρ (some i) := fun k q => h _ q
theorem ev_slT {Tlo Thi : OTq} {lo hi : Option Int} (h : Ev T ρ (.tup ds)) (hl : EvO Tlo ρ lo) (hh : EvO Thi ρ hi) : Ev (dSl T Tlo Thi) ρ (.tup (cutD ds lo hi)) := fun k q => h _ (hl _ (hh _ q))
theorem allFz_of {k : Prop} (h : ds.all isFz = true) (q : k) : allFz ds k := by unfold allFz; rw [h]; exact q
theorem ev_slL {Tlo Thi : OTq} {lo hi : Option Int} {m : Bool} (h : Ev T ρ (.lst m ds)) (hz : ds.all isFz = true) (hl : EvO Tlo ρ lo) (hh : EvO Thi ρ hi) : Ev (dSl T Tlo Thi) ρ (.lst true (cutD ds lo hi)) := fun k q => h _ (hl _ (hh _ (allFz_of hz q)))
/-! quiet calls -/
/-- what a pure def promises -/
def pureS (R : List D → D → Prop) : DSp := fun ds k _ => ∃ r, R ds r ∧ k r ds
theorem ev_callQ {R} {m : Nat} (hl : EvL Tl ρ ds) (hn : ds.length = m) (hr : R (ds.map fz) d) (ok : okD ds d = true) : Ev (dCallQ m (pureS R) Tl) ρ d := fun k q => hl _ ⟨hn, d, hr, ok, q⟩
theorem ev_methQ {R} {m : Nat} {C : Addr} {ns : List Str} {mm : Bool} {l : List D} (ha : Ev Ta ρ (.obj mm C ns l)) (hl : EvL Tl ρ ds) (hn : ds.length + 1 = m) (hr : R ((.obj mm C ns l :: ds).map fz) d) (ok : okD (.obj mm C ns l :: ds) d = true) : Ev (dMethQ C ns m (pureS R) Ta Tl) ρ d := fun k q => ha _ ⟨⟨rfl, rfl⟩, hl _ ⟨hn, d, hr, ok, q⟩⟩
/-! walked things -/
theorem evi_seqT (h : Ev T ρ (.tup ds)) : EvL (diSeq T) ρ ds := fun k q => h _ q
theorem evi_seqL {m : Bool} (h : Ev T ρ (.lst m ds)) (hz : ds.all isFz = true) : EvL (diSeq T) ρ ds := fun k q => h _ (allFz_of hz q)
theorem evi_enumT (h : EvL Tl ρ [.tup ds]) : EvL (diEnum Tl) ρ (enumD 0 ds) := fun k q => h _ q
theorem evi_enumL {m : Bool} (h : EvL Tl ρ [.lst m ds]) (hz : ds.all isFz = true) : EvL (diEnum Tl) ρ (enumD 0 ds) := fun k q => h _ (allFz_of hz q)
theorem evi_zipT (h : EvL Tl ρ [.tup ds, .tup es]) : EvL (diZip Tl) ρ (zipD ds es) := fun k q => h _ q
theorem evi_rg1 (h : EvL Tl ρ [.int i]) (hi : -(2 ^ 62) ≤ i ∧ i < 2 ^ 62) : EvL (diRange1 Tl) ρ (rangeD 0 i.toNat) := fun k q => h _ ⟨hi, q⟩
theorem evi_rg2 (h : EvL Tl ρ [.int i, .int j]) (hi : -(2 ^ 62) ≤ i ∧ i < 2 ^ 62 ∧ -(2 ^ 62) ≤ j ∧ j < 2 ^ 62) : EvL (diRange2 Tl) ρ (rangeD i (j - i).toNat) := fun k q => h _ ⟨hi, q⟩
/-! targets -/
theorem evg_n (h : n < ρ.length) : EvG (gN n) d ρ (ρ.set n (some d)) := fun k q => ⟨h, q⟩
theorem evg_tup {u : DTgs} {m : Nat} (hl : ds.length = m) (h : EvGs u ds ρ ρ1) : EvG (gTupD m u) (.tup ds) ρ ρ1 := fun k q => ⟨hl, h _ q⟩
theorem evg_key {u : DTgs} {m : Nat} (hl : ds.length = m) (h : EvGs u ds ρ ρ1) : EvG (gTupD m u) (.key ds) ρ ρ1 := fun k q => ⟨hl, h _ q⟩
theorem evgs_nil : EvGs gNilD [] ρ ρ := fun k q => ⟨rfl, q⟩
theorem evgs_cons {g : DTg} {u : DTgs} (h : EvG g d ρ ρ1) (h2 : EvGs u ds ρ1 ρ2) : EvGs (gConsD g u) (d :: ds) ρ ρ2 := fun k q => h _ (h2 _ q)
/-! comprehensions -/
theorem ev_lcF {α : Type} {I : DIt} {g : DTg} {own : List Nat} {xs : List α} (enc : α → D) (p : α → Bool) (f : α → D) (env : α → DEnv) (hI : EvL I ρ (xs.map enc)) (hlen : xs.length ≤ sizeLine)
    (hg : ∀ x ∈ xs, EvG g (enc x) (wipeD ρ own) (env x)) (ht : ∀ x ∈ xs, EvT t (env x) (p x)) (he : ∀ x ∈ xs, p x = true → Ev T (env x) (f x)) : Ev (dLc I g t T own) ρ (.lst true ((xs.filter p).map f)) := fun k q => hI _ (by
  refine compD_fn enc (fun x => if p x = true then some (f x) else none) xs hlen (fun x hx Q q' => hg x hx _ (ht x hx _ ?_)) ?_
  · cases hp : p x with
    | true => exact he x hx hp _ (by rw [hp, if_pos rfl] at q'; exact q')
    | false => rw [hp, if_neg Bool.false_ne_true] at q'; exact q'
  · have e : ∀ l : List α, l.filterMap (fun x => if p x = true then some (f x) else none) = (l.filter p).map f := fun l => by
      induction l with
      | nil => rfl
      | cons a l ih => cases hp : p a <;> simp [hp, ih]
    rw [e]; exact q)
theorem ev_lcM {α : Type} {I : DIt} {g : DTg} {own : List Nat} {xs : List α} (enc : α → D) (f : α → D) (env : α → DEnv) (hI : EvL I ρ (xs.map enc)) (hlen : xs.length ≤ sizeLine)
    (hg : ∀ x ∈ xs, EvG g (enc x) (wipeD ρ own) (env x)) (he : ∀ x ∈ xs, Ev T (env x) (f x)) : Ev (dLc I g dYes T own) ρ (.lst true (xs.map f)) := fun k q => hI _ (compD_map enc f xs hlen (fun x hx Q q' => hg x hx _ (he x hx _ q')) q)
/-! statements -/
variable {k : DEnds} {A B : DSt}
theorem w_seq (h : A { k with nx := fun ρ1 => B k ρ1 } ρ) : dSeq A B k ρ := h
theorem w_ret (h : Ev T ρ d) (q : k.rt ρ d) : dRet T k ρ := h _ q
theorem w_move (h : ρ[n]? = some (some d)) (q : k.rt (ρ.set n none) d) : dRet (dMove n) k ρ := by show nameV ρ n _; unfold nameV; rw [h]; exact q
theorem w_next (q : k.nx ρ) : dNext k ρ := q
theorem w_set (h : Ev T ρ d) (hn : n < ρ.length) (q : k.nx (ρ.set n (some d))) : dSet n T k ρ := h _ ⟨hn, q⟩
theorem w_setF (h : Ev T ρ d) (hn : n < ρ.length) (q : k.nx (ρ.set n (some (fz d)))) : dSetF n T k ρ := h _ ⟨hn, q⟩
theorem w_if (h : EvT t ρ b) (h1 : b = true → A k ρ) (h2 : b = false → B k ρ) : dIfS t A B k ρ := h _ (by
  cases b with
  | true => exact h1 rfl
  | false => exact h2 rfl)
theorem w_for {I : DIt} {g : DTg} (h : EvL I ρ ds) (q : forD g A k ds ρ) : dFor I g A k ρ := h _ q
theorem w_drop (q : T ρ fun ρ1 _ => k.nx ρ1) : dDrop T k ρ := q
end
end Dl
/-! P1c: the operations' worth on plain things. -/
namespace Dl
open PySem PySem.Spec L2
abbrev iL (l : List Int) : List D := l.map D.int
theorem toPs_ints : ∀ l : List Int, toPs (iL l) = some (l.map PyData.int)
  | [] => by simp [toPs]
  | x :: l => by simp only [iL, List.map_cons, toPs, toP] ; rw [show List.map D.int l = iL l from rfl, toPs_ints l]
theorem canLay_ints : ∀ l : List Int, PyData.canLayAll0 (l.map PyData.int) = true
  | [] => by simp [PyData.canLayAll0]
  | x :: l => by simp [PyData.canLayAll0, PyData.canLay0, canLay_ints l]
theorem depth_ints : ∀ l : List Int, PyData.depthAll (l.map PyData.int) = 0
  | [] => by simp [PyData.depthAll]
  | x :: l => by simp [PyData.depthAll, PyData.depth, depth_ints l]
theorem shaped_int (i : Int) : SeqAt.shaped (.int i) = true := by simp [SeqAt.shaped, PyData.canLay0, PyData.depth]
theorem shaped_ints (l : List Int) : SeqAt.shaped (.list (l.map .int)) = true := by simp [SeqAt.shaped, PyData.canLay0, PyData.depth, canLay_ints, depth_ints]
theorem shaped_intsT (l : List Int) : SeqAt.shaped (.tuple (l.map .int)) = true := by simp [SeqAt.shaped, PyData.canLay0, PyData.depth, canLay_ints, depth_ints]
theorem isFz_ints (l : List Int) : (iL l).all isFz = true := by
  rw [List.all_eq_true]
  intro d hd
  obtain ⟨i, _, rfl⟩ := List.mem_map.mp hd
  rfl
theorem map_fz_ints (l : List Int) : (iL l).map fz = iL l := by
  unfold iL
  rw [List.map_map]
  exact List.map_congr_left fun i _ => rfl
theorem eqv_int (i j : Int) : PyData.eqv (.int i) (.int j) = (i == j) := by simp [PyData.eqv]
section
variable {i j : Int} {l m : List Int} {ds es : List D} {d e x : D} {n : Nat} {b : Bool}
theorem o_eqI : O2 oEq (.int i) (.int j) (.bl (i == j)) := fun k q => by
  show optK (eqD (.int i) (.int j)) k
  have : eqD (.int i) (.int j) = some (i == j) := by
    show (if (SeqAt.shaped (.int i) && SeqAt.shaped (.int j)) = true then some (PyData.eqv (.int i) (.int j)) else none) = _
    rw [shaped_int, shaped_int, eqv_int]; rfl
  rw [this]; exact q
theorem o_neI : O2 oNe (.int i) (.int j) (.bl (!(i == j))) := fun k q => by
  show optK ((eqD (.int i) (.int j)).map (!·)) k
  have : eqD (.int i) (.int j) = some (i == j) := by
    show (if (SeqAt.shaped (.int i) && SeqAt.shaped (.int j)) = true then some (PyData.eqv (.int i) (.int j)) else none) = _
    rw [shaped_int, shaped_int, eqv_int]; rfl
  rw [this]; exact q
theorem inD_ints : inD (.int i) (iL l) = some (decide (i ∈ l)) := by
  unfold inD
  rw [toPs_ints]
  show (if (SeqAt.shaped (.int i) && SeqAt.shaped (.list (l.map .int))) = true then _ else none) = _
  rw [shaped_int, shaped_ints]
  simp only [Bool.and_self, if_pos]
  congr 1
  rw [Bool.eq_iff_iff, List.any_eq_true, decide_eq_true_iff]
  constructor
  · rintro ⟨z, hz, h⟩
    obtain ⟨y, hy, rfl⟩ := List.mem_map.mp hz
    rw [eqv_int] at h
    have := eq_of_beq h
    subst this; exact hy
  · intro h
    exact ⟨.int i, List.mem_map.mpr ⟨i, h, rfl⟩, by rw [eqv_int]; simp⟩
theorem o_inT : O2 oIn (.int i) (.tup (iL l)) (.bl (decide (i ∈ l))) := fun k q => by
  show optK (inD (.int i) (iL l)) k
  rw [inD_ints]; exact q
theorem o_inL {mm : Bool} : O2 oIn (.int i) (.lst mm (iL l)) (.bl (decide (i ∈ l))) := fun k q => by
  show optK (inD (.int i) (iL l)) k
  rw [inD_ints]; exact q
theorem o_notInT : O2 oNotIn (.int i) (.tup (iL l)) (.bl (!decide (i ∈ l))) := fun k q => by
  show optK ((inD (.int i) (iL l)).map (!·)) k
  rw [inD_ints]; exact q
theorem o_notInL {mm : Bool} : O2 oNotIn (.int i) (.lst mm (iL l)) (.bl (!decide (i ∈ l))) := fun k q => by
  show optK ((inD (.int i) (iL l)).map (!·)) k
  rw [inD_ints]; exact q
theorem o_lt : O2 oLt (.int i) (.int j) (.bl (decide (i < j))) := fun k q => q
theorem o_le : O2 oLe (.int i) (.int j) (.bl (decide (i ≤ j))) := fun k q => q
theorem o_gt : O2 oGt (.int i) (.int j) (.bl (decide (j < i))) := fun k q => q
theorem o_ge : O2 oGe (.int i) (.int j) (.bl (decide (j ≤ i))) := fun k q => q
theorem o_sub : O2 oSub (.int i) (.int j) (.int (i - j)) := fun k q => q
theorem o_addI : O2 oAdd (.int i) (.int j) (.int (i + j)) := fun k q => q
theorem o_addT (h : ds.length + es.length ≤ sizeLine) : O2 oAdd (.tup ds) (.tup es) (.tup (ds ++ es)) := fun k q => ⟨h, q⟩
theorem o_addL {a c : Bool} (h1 : ds.all isFz = true) (h2 : es.all isFz = true) (h : ds.length + es.length ≤ sizeLine) : O2 oAdd (.lst a ds) (.lst c es) (.lst true (ds ++ es)) := fun k q => ⟨⟨h1, h2⟩, h, q⟩
theorem o_mul (h : CMul i j) : O2 oMul (.int i) (.int j) (.int (i * j)) := fun k q => ⟨h, q⟩
theorem o_mod (h : 0 < j) : O2 oMod (.int i) (.int j) (.int (i % j)) := fun k q => ⟨h, q⟩
theorem o_fdiv (h : CDiv i j) : O2 oFdiv (.int i) (.int j) (.int (i / j)) := fun k q => ⟨h, q⟩
theorem o_pow (h : CPow i j) : O2 oPow (.int i) (.int j) (.int (i ^ j.toNat)) := fun k q => ⟨h, q⟩
theorem o_neg : O1 oNeg (.int i) (.int (-i)) := fun k q => q
theorem o_notN : O2 oNotN d .non (.bl (!isNonD d)) := fun k q => q
theorem o_isN : O2 oIsN d .non (.bl (isNonD d)) := fun k q => q
theorem ixN_nat {n : Nat} {a : Nat} (h : a < n) : ixN n (a : Int) = some a := by
  unfold ixN
  rw [if_pos (by omega), if_pos (by omega)]; simp
theorem o_ix (h : ixD d e = some x) : O2 oIx d e x := fun k q => by show (match ixD d e with | some x => k x | none => False); rw [h]; exact q
theorem o_ixF (h : ixD d e = some x) (hf : isFz x = true) : O2 oIxF d e x := fun k q => by
  show (match ixD d e with | some x => (match isFz x with | true => k x | false => False) | none => False)
  rw [h]; dsimp only; rw [hf]; exact q
theorem ix_tup {a : Nat} (h : ds[a]? = some x) : ixD (.tup ds) (.int a) = some x := by
  show atI ds a = some x
  unfold atI
  rw [ixN_nat (List.getElem?_eq_some_iff.mp h).1]; exact h
theorem ix_lst {a : Nat} {mm : Bool} (h : ds[a]? = some x) : ixD (.lst mm ds) (.int a) = some x := by
  show atI ds a = some x
  unfold atI
  rw [ixN_nat (List.getElem?_eq_some_iff.mp h).1]; exact h
theorem o_tup (h1 : ds.all isFz = true) (h : ds.length ≤ sizeLine) : OL oTup ds (.tup ds) := fun k q => allFz_of h1 ⟨h, q⟩
theorem o_lst (h1 : ds.all isFz = true) (h : ds.length ≤ sizeLine) : OL oLst ds (.lst true ds) := fun k q => allFz_of h1 ⟨h, q⟩
theorem o_key (h1 : ds.all isFz = true) (h : ds.length ≤ sizeLine) : OL oKey ds (.key ds) := fun k q => allFz_of h1 ⟨h, q⟩
theorem o_lenT : OL oLen [.tup ds] (.int ds.length) := fun k q => ⟨trivial, q⟩
theorem o_lenL {mm : Bool} : OL oLen [.lst mm ds] (.int ds.length) := fun k q => ⟨trivial, q⟩
theorem o_intI : OL oInt [.int i] (.int i) := fun k q => q
theorem o_absI : OL oAbs [.int i] (.int (if i < 0 then -i else i)) := fun k q => q
theorem o_tupleT : OL oTuple [.tup ds] (.tup ds) := fun k q => q
theorem o_tupleL {mm : Bool} (h : ds.all isFz = true) : OL oTuple [.lst mm ds] (.tup ds) := fun k q => allFz_of h q
theorem o_listT (h : ds.all isFz = true) : OL oList [.tup ds] (.lst true ds) := fun k q => ⟨h, q⟩
theorem o_listL {mm : Bool} (h : ds.all isFz = true) : OL oList [.lst mm ds] (.lst true ds) := fun k q => allFz_of h ⟨h, q⟩
theorem bls_map {α : Type} (f : α → Bool) : ∀ l : List α, blsD (l.map fun x => D.bl (f x)) = some (l.map f)
  | [] => rfl
  | a :: l => by show (blsD (l.map fun x => D.bl (f x))).map (f a :: ·) = _; rw [bls_map f l]; rfl
theorem o_all {α : Type} {mm : Bool} (f : α → Bool) (l : List α) : OL oAll [.lst mm (l.map fun x => D.bl (f x))] (.bl (l.all f)) := fun k q => by
  show (match blsD (l.map fun x => D.bl (f x)) with | some bs => k (.bl (bs.all id)) | none => False)
  rw [bls_map]
  have : (l.map f).all id = l.all f := by rw [List.all_map]; rfl
  show k (.bl ((l.map f).all id))
  rw [this]; exact q
theorem o_any {α : Type} {mm : Bool} (f : α → Bool) (l : List α) : OL oAny [.lst mm (l.map fun x => D.bl (f x))] (.bl (l.any f)) := fun k q => by
  show (match blsD (l.map fun x => D.bl (f x)) with | some bs => k (.bl (bs.any id)) | none => False)
  rw [bls_map]
  have : (l.map f).any id = l.any f := by rw [List.any_map]; rfl
  show k (.bl ((l.map f).any id))
  rw [this]; exact q
theorem o_isi {T : String} (h : isiD d T = some b) : OL oIsi [d, .ty T] (.bl b) := fun k q => by
  show optK (isiD d T) k
  rw [h]; exact q
theorem o_fld {C : Addr} {ns : List Str} {mm : Bool} (h : ds[n]? = some x) : O1 (oFld C ns n) (.obj mm C ns ds) x := fun k q => by
  show C = C ∧ ns = ns ∧ (match ds[n]? with | some x => k x | none => False)
  rw [h]; exact ⟨rfl, rfl, q⟩
end
end Dl
/-! P1d: stores, calls with effects. -/
namespace Dl
open PySem PySem.Spec L2
section
variable {ρ ρ1 ρ2 : DEnv} {d e x y z d0 : D} {ds es l : List D} {i j : Int} {n m : Nat} {T Ta Tb Tc Te Ti : ET} {t u : TTd} {Tl : LT} {b c : Bool} {S : DSp} {k : DEnds} {kd : DEnv → D → Prop} {A B : DSt}
theorem w_putL (he : Ev Te ρ e) (hn : ρ[n]? = some (some (.lst true l))) (hi : Ev Ti ρ (.int j)) (hm : ixN l.length j = some m) (q : k.nx (ρ.set n (some (.lst true (l.set m e))))) : dPut Te (lvN n) Ti k ρ := he _ (by
  show nameV ρ n _
  unfold nameV; rw [hn]
  refine hi _ ?_
  show (match ixN l.length j with | some m => k.nx (putD ρ n [] (.lst true (l.set m e))) | none => False)
  rw [hm]
  show k.nx (putD ρ n [] _)
  rw [put_nil hn]; exact q)
/-- a call with effects on the first argument; the others quiet -/
theorem w_callI (h0 : ρ[n]? = some (some d0)) (hl : EvL Tl ρ ds) (hn : ds.length + 1 = m) (q : S (d0 :: ds.map fz) (fun d ds' => match ds' with | d0' :: _ => kd (ρ.set n (some d0')) d | [] => False) (fun C l ds' => match ds' with | d0' :: _ => noKx C l (ρ.set n (some d0')) | [] => False)) : dCallI m S n Tl ρ kd := by
  show nameV ρ n _
  unfold nameV; rw [h0]
  refine hl _ ?_
  show nameV ρ n _
  unfold nameV; rw [h0]
  exact ⟨hn, q⟩
theorem w_callE (hl : EvL Tl ρ ds) (hn : ds.length = m) (q : S (ds.map fz) (fun d _ => kd ρ d) fun C l _ => noKx C l ρ) : dCallE1 m S Tl ρ kd := hl _ ⟨hn, q⟩
theorem w_op2 {f} (q : Ta ρ fun ρ1 x => Tb ρ1 fun ρ2 y => f x y (kd ρ2)) : dOp2 f Ta Tb ρ kd := q
theorem w_parF {f g : Bool} (h : EvL Tl ρ [d, e]) (hn : n < ρ.length) (hm : m < ρ.length) (q : k.nx ((ρ.set n (some (fzIf f d))).set m (some (fzIf g e)))) : dParF n m f g Tl k ρ := h _ ⟨hn, hm, q⟩
theorem w_ret0 (q : T ρ k.rt) : dRet T k ρ := q
theorem w_ev (h : Ev T ρ d) (q : kd ρ d) : T ρ kd := h _ q
theorem o_ixIL {cells : List Int} {a : Nat} {mm : Bool} (h : a < cells.length) : O2 oIx (.lst mm (iL cells)) (.int a) (.int cells[a]) := o_ix (ix_lst (by rw [List.getElem?_map, List.getElem?_eq_getElem h]; rfl))
theorem o_ixIT {cells : List Int} {a : Nat} (h : a < cells.length) : O2 oIx (.tup (iL cells)) (.int a) (.int cells[a]) := o_ix (ix_tup (by rw [List.getElem?_map, List.getElem?_eq_getElem h]; rfl))
end
end Dl
/-! Q1: the readings run forward: one rule a combinator, what is wanted stands behind. -/
namespace Dl
open PySem PySem.Spec L2
section
variable {ρ ρ' ρ1 : DEnv} {d e x y z d0 : D} {ds es l : List D} {i j : Int} {n m : Nat} {T Ta Tb Tc Te Ti : ET} {t u : TTd} {Tl : LT} {b c : Bool} {S : DSp} {k : DEnds} {K : DEnv → D → Prop} {KB : DEnv → Bool → Prop} {KL : DEnv → List D → Prop} {KE : DEnv → Prop} {kx : Value → List (Str × D) → DEnv → Prop} {A B : DSt} {C : Addr} {ns : List Str} {mm : Bool} {F : D → Prop}
/-! ends -/
def dnSeq (B : DSt) (k : DEnds) : DEnds := { k with nx := fun ρ1 => B k ρ1 }
def dnLoop (N : DEnv → Prop) (k : DEnds) : DEnds := { k with nx := N, ct := N, bk := k.nx }
theorem x_seq (h : A (dnSeq B k) ρ) : dSeq A B k ρ := h
theorem x_seq_nx (h : B k ρ) : (dnSeq B k).nx ρ := h
theorem x_seq_rt (h : k.rt ρ d) : (dnSeq B k).rt ρ d := h
theorem x_seq_bk (h : k.bk ρ) : (dnSeq B k).bk ρ := h
theorem x_seq_ct (h : k.ct ρ) : (dnSeq B k).ct ρ := h
theorem x_seq_ex {v : Value} {l : List (Str × D)} (h : k.ex v l ρ) : (dnSeq B k).ex v l ρ := h
theorem x_loop_nx {N : DEnv → Prop} (h : N ρ) : (dnLoop N k).nx ρ := h
theorem x_loop_ct {N : DEnv → Prop} (h : N ρ) : (dnLoop N k).ct ρ := h
theorem x_loop_bk {N : DEnv → Prop} (h : k.nx ρ) : (dnLoop N k).bk ρ := h
theorem x_loop_rt {N : DEnv → Prop} (h : k.rt ρ d) : (dnLoop N k).rt ρ d := h
theorem x_loop_ex {N : DEnv → Prop} {v : Value} {l : List (Str × D)} (h : k.ex v l ρ) : (dnLoop N k).ex v l ρ := h
theorem x_fn_rt {p : Nat → Bool} {kk : D → List D → Prop} {kz : Value → List (Str × D) → List D → Prop} (h : known (backD p ρ ds) = some es) (q : kk d es) : (fnEnds p ds kk kz).rt ρ d := by
  show (match known (backD p ρ ds) with | some ds' => kk d ds' | none => False)
  rw [h]; exact q
theorem x_fn_nx {p : Nat → Bool} {kk : D → List D → Prop} {kz : Value → List (Str × D) → List D → Prop} (h : known (backD p ρ ds) = some es) (q : kk .non es) : (fnEnds p ds kk kz).nx ρ := by
  show (match known (backD p ρ ds) with | some ds' => kk .non ds' | none => False)
  rw [h]; exact q
theorem x_fn_ex {p : Nat → Bool} {kk : D → List D → Prop} {kz : Value → List (Str × D) → List D → Prop} {v : Value} {l : List (Str × D)} (h : known (backD p ρ ds) = some es) (q : kz v l es) : (fnEnds p ds kk kz).ex v l ρ := by
  show (match known (backD p ρ ds) with | some ds' => kz v l ds' | none => False)
  rw [h]; exact q
/-! statements -/
theorem x_next (h : k.nx ρ) : dNext k ρ := h
theorem x_ret (h : T ρ k.rt) : dRet T k ρ := h
theorem x_retN (h : k.rt ρ .non) : dRetN k ρ := h
theorem x_break (h : k.bk ρ) : dBreak k ρ := h
theorem x_cont (h : k.ct ρ) : dCont k ρ := h
theorem x_drop (h : T ρ fun ρ1 _ => k.nx ρ1) : dDrop T k ρ := h
def kSet (n : Nat) (K : DEnv → Prop) (ρ : DEnv) (d : D) : Prop := n < ρ.length ∧ K (ρ.set n (some d))
def kSetF (n : Nat) (K : DEnv → Prop) (ρ : DEnv) (d : D) : Prop := n < ρ.length ∧ K (ρ.set n (some (fz d)))
theorem x_set (h : T ρ (kSet n k.nx)) : dSet n T k ρ := h
theorem x_setF (h : T ρ (kSetF n k.nx)) : dSetF n T k ρ := h
theorem x_kSet (hn : n < ρ.length) (h : KE (ρ.set n (some d))) : kSet n KE ρ d := ⟨hn, h⟩
theorem x_kSetF (hn : n < ρ.length) (h : KE (ρ.set n (some (fz d)))) : kSetF n KE ρ d := ⟨hn, h⟩
def kIf (A B : DSt) (k : DEnds) (ρ : DEnv) (b : Bool) : Prop := match b with
  | true => A k ρ
  | false => B k ρ
theorem x_if (h : t ρ (kIf A B k)) : dIfS t A B k ρ := h
theorem x_kIf (h1 : b = true → A k ρ) (h2 : b = false → B k ρ) : kIf A B k ρ b := by
  cases b with
  | true => exact h1 rfl
  | false => exact h2 rfl
theorem x_kIf1 (h1 : A k ρ) : kIf A B k ρ true := h1
theorem x_kIf0 (h1 : B k ρ) : kIf A B k ρ false := h1
theorem x_kIfD {p : Prop} [Decidable p] (h1 : p → A k ρ) (h2 : ¬ p → B k ρ) : kIf A B k ρ (decide p) := x_kIf (fun h => h1 (of_decide_eq_true h)) fun h => h2 (of_decide_eq_false h)
theorem x_for {I : DIt} {g : DTg} (h : I ρ fun ρ1 ds => forD g A k ds ρ1) : dFor I g A k ρ := h
def kParF (n m : Nat) (f g : Bool) (K : DEnv → Prop) (ρ : DEnv) (ds : List D) : Prop := match ds with
  | [d, e] => n < ρ.length ∧ m < ρ.length ∧ K ((ρ.set n (some (fzIf f d))).set m (some (fzIf g e)))
  | _ => False
theorem x_parF {f g : Bool} (h : Tl ρ (kParF n m f g k.nx)) : dParF n m f g Tl k ρ := h
theorem x_kParF {f g : Bool} (hn : n < ρ.length) (hm : m < ρ.length) (h : KE ((ρ.set n (some (fzIf f d))).set m (some (fzIf g e)))) : kParF n m f g KE ρ [d, e] := ⟨hn, hm, h⟩
theorem x_asgT {g : DTg} (h : T ρ fun ρ1 d => g (fz d) ρ1 k.nx) : dAsgT T g k ρ := h
/-! x[..] = ..; a.f = .. -/
def kPut (n : Nat) (p : List Nat) (c e : D) (K : DEnv → Prop) (ρ : DEnv) (y : D) : Prop := pAll c y e fun c' => K (putD ρ n p c')
theorem x_put {Tp : LvT} (h : Te ρ fun ρ1 e => Tp ρ1 fun n p c => Ti ρ1 fun _ y => kPut n p c e k.nx ρ1 y) : dPut Te Tp Ti k ρ := h
theorem x_lvN {K : Nat → List Nat → D → Prop} (h : ρ[n]? = some (some d)) (q : K n [] d) : lvN n ρ K := by show nameV ρ n _; unfold nameV; rw [h]; exact q
theorem x_kPutL {nx : DEnv → Prop} (h0 : ρ[n]? = some (some d0)) (hm : ixN l.length j = some m) (q : nx (ρ.set n (some (.lst true (l.set m e))))) : kPut n [] (.lst true l) e nx ρ (.int j) := by
  show (match ixN l.length j with | some m => nx (putD ρ n [] (.lst true (l.set m e))) | none => False)
  rw [hm]
  show nx (putD ρ n [] _)
  rw [put_nil h0]; exact q
theorem x_fldPut {f : Str} {Tp : LvT} (h : Te ρ fun ρ1 e => Tp ρ1 fun n p c => pFld C f c e fun c' => k.nx (putD ρ1 n p c')) : dFldPut C f Te Tp k ρ := h
theorem x_pFldN {f : Str} {ls : List D} (hl : ns.length < 1000) (hf : f ∉ ns) (q : F (.obj true C (ns ++ [f]) (ls ++ [e]))) : pFld C f (.obj true C ns ls) e F := by
  refine ⟨rfl, hl, ?_⟩
  rw [show decide (f ∈ ns) = false by simpa using hf]
  exact q
theorem x_putD0 (h0 : ρ[n]? = some (some d0)) (q : KE (ρ.set n (some d))) : KE (putD ρ n [] d) := by rw [put_nil h0]; exact q
/-! expressions -/
theorem x_c (h : K ρ d) : dC d ρ K := h
theorem x_name (h : ρ[n]? = some (some d)) (q : K ρ d) : dNameV n ρ K := by show nameV ρ n _; unfold nameV; rw [h]; exact q
theorem x_move (h : ρ[n]? = some (some d)) (q : K (ρ.set n none) d) : dMove n ρ K := by show nameV ρ n _; unfold nameV; rw [h]; exact q
def kFz (K : DEnv → D → Prop) (ρ : DEnv) (d : D) : Prop := match isFz d with | true => K ρ d | false => False
theorem x_fz (h : T ρ (kFz K)) : dFz T ρ K := h
theorem x_kFz (hz : isFz d = true) (h : K ρ d) : kFz K ρ d := by unfold kFz; rw [hz]; exact h
theorem x_op1 {f} (h : Ta ρ fun ρ1 x => f x (K ρ1)) : dOp1 f Ta ρ K := h
theorem x_op2 {f} (h : Ta ρ fun ρ1 x => Tb ρ1 fun ρ2 y => f x y (K ρ2)) : dOp2 f Ta Tb ρ K := h
theorem x_opL {f} (h : Tl ρ fun ρ1 x => f x (K ρ1)) : dOpL f Tl ρ K := h
theorem x_nil (h : KL ρ []) : dNil ρ KL := h
theorem x_cons (h : Ta ρ fun ρ1 x => Tl ρ1 fun ρ2 xs => KL ρ2 (x :: xs)) : dCons Ta Tl ρ KL := h
def kAndV (T : ET) (K : DEnv → D → Prop) (ρ : DEnv) (d : D) : Prop := match d with
  | .bl true => T ρ K
  | .bl false => K ρ (.bl false)
  | _ => False
def kOrV (T : ET) (K : DEnv → D → Prop) (ρ : DEnv) (d : D) : Prop := match d with
  | .bl false => T ρ K
  | .bl true => K ρ (.bl true)
  | _ => False
def kNotV (K : DEnv → D → Prop) (ρ : DEnv) (d : D) : Prop := match d with
  | .bl b => K ρ (.bl (!b))
  | _ => False
theorem x_andV (h : Ta ρ (kAndV Tb K)) : dAndV Ta Tb ρ K := h
theorem x_orV (h : Ta ρ (kOrV Tb K)) : dOrV Ta Tb ρ K := h
theorem x_notV (h : Ta ρ (kNotV K)) : dNotV Ta ρ K := h
theorem x_kNotV (h : K ρ (.bl (!b))) : kNotV K ρ (.bl b) := h
theorem x_kAndV (h1 : b = true → T ρ K) (h2 : b = false → K ρ (.bl false)) : kAndV T K ρ (.bl b) := by
  cases b with
  | true => exact h1 rfl
  | false => exact h2 rfl
theorem x_kOrV (h1 : b = false → T ρ K) (h2 : b = true → K ρ (.bl true)) : kOrV T K ρ (.bl b) := by
  cases b with
  | false => exact h1 rfl
  | true => exact h2 rfl
/-- and, its worth told -/
theorem x_kAndVE (c : Bool) (h : b = true → ∀ Q : DEnv → D → Prop, Q ρ (.bl c) → T ρ Q) (q : K ρ (.bl (b && c))) : kAndV T K ρ (.bl b) := by
  cases b with
  | true => exact h rfl K (by simpa using q)
  | false => exact q
theorem x_kOrVE (c : Bool) (h : b = false → ∀ Q : DEnv → D → Prop, Q ρ (.bl c) → T ρ Q) (q : K ρ (.bl (b || c))) : kOrV T K ρ (.bl b) := by
  cases b with
  | false => exact h rfl K (by simpa using q)
  | true => exact q
def kChain (f' : D → D → (D → Prop) → Prop) (Tc : ET) (K : DEnv → D → Prop) (ρ : DEnv) (y z : D) : Prop := match z with
  | .bl true => Tc ρ fun ρ3 w => f' y w (K ρ3)
  | .bl false => K ρ (.bl false)
  | _ => False
theorem x_chain {f f'} (h : Ta ρ fun ρ1 x => Tb ρ1 fun ρ2 y => f x y (kChain f' Tc K ρ2 y)) : dChain f f' Ta Tb Tc ρ K := h
theorem x_kChain {f'} (h1 : b = true → Tc ρ fun ρ3 w => f' y w (K ρ3)) (h2 : b = false → K ρ (.bl false)) : kChain f' Tc K ρ y (.bl b) := by
  cases b with
  | true => exact h1 rfl
  | false => exact h2 rfl
theorem x_kChainE {f'} (c : Bool) (h : b = true → ∀ Q : DEnv → D → Prop, Q ρ (.bl c) → Tc ρ fun ρ3 w => f' y w (Q ρ3)) (q : K ρ (.bl (b && c))) : kChain f' Tc K ρ y (.bl b) := by
  cases b with
  | true => exact h rfl K (by simpa using q)
  | false => exact q
def kIfE (Ta Tb : ET) (K : DEnv → D → Prop) (ρ : DEnv) (b : Bool) : Prop := match b with
  | true => Ta ρ K
  | false => Tb ρ K
theorem x_ifE (h : t ρ (kIfE Ta Tb K)) : dIf t Ta Tb ρ K := h
theorem x_kIfE (h1 : b = true → Ta ρ K) (h2 : b = false → Tb ρ K) : kIfE Ta Tb K ρ b := by
  cases b with
  | true => exact h1 rfl
  | false => exact h2 rfl
theorem x_kIfED {p : Prop} [Decidable p] (h1 : p → Ta ρ K) (h2 : ¬ p → Tb ρ K) : kIfE Ta Tb K ρ (decide p) := x_kIfE (fun h => h1 (of_decide_eq_true h)) fun h => h2 (of_decide_eq_false h)
/-! tests -/
def kTest (K : DEnv → Bool → Prop) (ρ : DEnv) (d : D) : Prop := match d with
  | .bl b => K ρ b
  | _ => False
theorem x_test (h : T ρ (kTest KB)) : dTest T ρ KB := h
theorem x_kTest (h : KB ρ b) : kTest KB ρ (.bl b) := h
theorem x_not (h : t ρ fun ρ1 b => KB ρ1 (!b)) : dNot t ρ KB := h
def kAnd (u : TTd) (K : DEnv → Bool → Prop) (ρ : DEnv) (b : Bool) : Prop := match b with
  | true => u ρ K
  | false => K ρ false
def kOr (u : TTd) (K : DEnv → Bool → Prop) (ρ : DEnv) (b : Bool) : Prop := match b with
  | true => K ρ true
  | false => u ρ K
theorem x_and (h : t ρ (kAnd u KB)) : dAnd t u ρ KB := h
theorem x_or (h : t ρ (kOr u KB)) : dOr t u ρ KB := h
theorem x_kAnd (h1 : b = true → u ρ KB) (h2 : b = false → KB ρ false) : kAnd u KB ρ b := by
  cases b with
  | true => exact h1 rfl
  | false => exact h2 rfl
theorem x_kOr (h1 : b = false → u ρ KB) (h2 : b = true → KB ρ true) : kOr u KB ρ b := by
  cases b with
  | true => exact h2 rfl
  | false => exact h1 rfl
theorem x_kAndE (c : Bool) (h : b = true → ∀ Q : DEnv → Bool → Prop, Q ρ c → u ρ Q) (q : KB ρ (b && c)) : kAnd u KB ρ b := by
  cases b with
  | true => exact h rfl KB (by simpa using q)
  | false => exact q
theorem x_kOrE (c : Bool) (h : b = false → ∀ Q : DEnv → Bool → Prop, Q ρ c → u ρ Q) (q : KB ρ (b || c)) : kOr u KB ρ b := by
  cases b with
  | false => exact h rfl KB (by simpa using q)
  | true => exact q
theorem x_yes (h : KB ρ true) : dYes ρ KB := h
/-! slices -/
theorem x_sl {Tlo Thi : OTq} (h : T ρ fun ρ1 d => Tlo ρ1 fun lo => Thi ρ1 fun hi => oSl d lo hi (K ρ1)) : dSl T Tlo Thi ρ K := h
theorem x_noPart {KO : Option Int → Prop} (h : KO none) : dNoPart ρ KO := h
def kPart (KO : Option Int → Prop) (d : D) : Prop := match d with
  | .int i => KO (some i)
  | _ => False
theorem x_part {KO : Option Int → Prop} (h : T ρ fun _ d => kPart KO d) : dPart T ρ KO := h
theorem x_kPart {KO : Option Int → Prop} (h : KO (some i)) : kPart KO (.int i) := h
theorem x_slT {lo hi : Option Int} (h : F (.tup (cutD ds lo hi))) : oSl (.tup ds) lo hi F := h
theorem x_slL {lo hi : Option Int} (hz : ds.all isFz = true) (h : F (.lst true (cutD ds lo hi))) : oSl (.lst mm ds) lo hi F := allFz_of hz h
/-! calls -/
def cQ (n : Nat) (S : DSp) (K : DEnv → D → Prop) (ρ : DEnv) (ds : List D) : Prop := ds.length = n ∧ S (ds.map fz) (fun d _ => okD ds d = true ∧ K ρ d) fun _ _ _ => False
def cX (n : Nat) (S : DSp) (K : DEnv → D → Prop) (kx : Value → List (Str × D) → DEnv → Prop) (ρ : DEnv) (ds : List D) : Prop := ds.length = n ∧ S (ds.map fz) (fun d _ => K ρ d) fun C l _ => kx C l ρ
def cI (n : Nat) (S : DSp) (i : Nat) (K : DEnv → D → Prop) (kx : Value → List (Str × D) → DEnv → Prop) (ρ : DEnv) (ds : List D) : Prop := nameV ρ i fun d0 => (d0 :: ds).length = n ∧
  S (d0 :: ds.map fz) (fun d ds' => match ds' with
    | d0' :: _ => K (ρ.set i (some d0')) d
    | [] => False) fun C l ds' => match ds' with
    | d0' :: _ => kx C l (ρ.set i (some d0'))
    | [] => False
def cMk (C : Addr) (n : Nat) (S : DSp) (K : DEnv → D → Prop) (kx : Value → List (Str × D) → DEnv → Prop) (ρ : DEnv) (ds : List D) : Prop := ds.length + 1 = n ∧ S (.obj true C [] [] :: ds.map fz) (fun d ds' => d = .non ∧ match ds' with
    | self :: _ => K ρ self
    | [] => False) fun C l _ => kx C l ρ
theorem x_callQ (h : Tl ρ (cQ n S K)) : dCallQ n S Tl ρ K := h
theorem x_callE1 (h : Tl ρ (cX n S K noKx)) : dCallE1 n S Tl ρ K := h
theorem x_callX (h : Tl ρ (cX n S K kx)) : dCallX n S Tl ρ K kx := h
theorem x_callI (h0 : ρ[m]? = some (some d0)) (h : Tl ρ (cI n S m K noKx)) : dCallI n S m Tl ρ K := by show nameV ρ m _; unfold nameV; rw [h0]; exact h
theorem x_callXI (h0 : ρ[m]? = some (some d0)) (h : Tl ρ (cI n S m K kx)) : dCallXI n S m Tl ρ K kx := by show nameV ρ m _; unfold nameV; rw [h0]; exact h
theorem x_cI (h0 : ρ[m]? = some (some d0)) (hn : ds.length + 1 = n) (q : S (d0 :: ds.map fz) (fun d ds' => match ds' with
    | d0' :: _ => K (ρ.set m (some d0')) d
    | [] => False) fun C l ds' => match ds' with
    | d0' :: _ => kx C l (ρ.set m (some d0'))
    | [] => False) : cI n S m K kx ρ ds := by unfold cI nameV; rw [h0]; exact ⟨hn, q⟩
theorem x_make (h : Tl ρ (cMk C n S K noKx)) : dMake C n S Tl ρ K := h
theorem x_makeX (h : Tl ρ (cMk C n S K kx)) : dMakeX C n S Tl ρ K kx := h
def kM (C : Addr) (ns : List Str) (n : Nat) (S : DSp) (Tl : LT) (K : DEnv → D → Prop) (ρ : DEnv) (o : D) : Prop := (match o with | .obj _ C' ns' _ => C' = C ∧ ns' = ns | _ => False) ∧ Tl ρ fun ρ2 ds => cQ n S K ρ2 (o :: ds)
theorem x_methQ (h : Ta ρ (kM C ns n S Tl K)) : dMethQ C ns n S Ta Tl ρ K := h
theorem x_kM {ls : List D} (h : Tl ρ fun ρ2 es => cQ n S K ρ2 (.obj mm C ns ls :: es)) : kM C ns n S Tl K ρ (.obj mm C ns ls) := ⟨⟨rfl, rfl⟩, h⟩
theorem c_pure {R : List D → D → Prop} (hn : ds.length = m) (hr : R (ds.map fz) d) (ok : okD ds d = true) (q : K ρ d) : cQ m (pureS R) K ρ ds := ⟨hn, d, hr, ok, q⟩
theorem x_retX {T : ETX} (h : T ρ k.rt k.ex) : dRetX T k ρ := h
theorem x_dropX {T : ETX} (h : T ρ (fun ρ1 _ => k.nx ρ1) k.ex) : dDropX T k ρ := h
theorem x_setX {T : ETX} (h : T ρ (kSet n k.nx) k.ex) : dSetX n T k ρ := h
theorem x_setFX {T : ETX} (h : T ρ (kSetF n k.nx) k.ex) : dSetFX n T k ρ := h
theorem x_raise {v : Value} (h : k.ex v [] ρ) : dRaise v k ρ := h
/-! list methods -/
def kLm (M : MD) (n : Nat) (K : DEnv → D → Prop) (ρ : DEnv) (ds : List D) : Prop := nameV ρ n fun d => M d ds fun d' e => K (ρ.set n (some e)) d'
theorem x_lm {ty : String} {M : MD} (h0 : ρ[n]? = some (some d)) (ht : tyD ty d = true) (h : Tl ρ (kLm M n K)) : dLm ty M n Tl ρ K := by show nameV ρ n _; unfold nameV; rw [h0]; exact ⟨ht, h⟩
theorem x_append {ls : List D} (h0 : ρ[n]? = some (some (.lst true ls))) (hl : ls.length < sizeLine) (q : K (ρ.set n (some (.lst true (ls ++ [x])))) .non) : kLm mAppend n K ρ [x] := by unfold kLm nameV; rw [h0]; exact ⟨hl, q⟩
theorem x_extend {ls : List D} (h0 : ρ[n]? = some (some (.lst true ls))) (hl : ls.length + es.length ≤ sizeLine) (q : K (ρ.set n (some (.lst true (ls ++ es)))) .non) : kLm mExtend n K ρ [.lst mm es] := by unfold kLm nameV; rw [h0]; exact ⟨hl, q⟩
theorem x_pop {ls : List D} (h0 : ρ[n]? = some (some (.lst true (ls ++ [x])))) (q : K (ρ.set n (some (.lst true ls))) x) : kLm mPop n K ρ [] := by
  unfold kLm nameV; rw [h0]
  show (match (ls ++ [x])[(ls ++ [x]).length - 1]? with | some x => _ | none => False)
  simp; exact q
theorem x_popAt {ls : List D} (h0 : ρ[n]? = some (some (.lst true ls))) (hm : m < ls.length) (hb : ls.length < 2 ^ 63) (hx : ls[m]? = some x) (q : K (ρ.set n (some (.lst true (ls.eraseIdx m)))) x) : kLm mPopAt n K ρ [.int (m : Nat)] := by
  unfold kLm nameV; rw [h0]
  refine ⟨by omega, by omega, ?_⟩
  show (match ixN ls.length (m : Int) with | some n => _ | none => False)
  rw [ixN_nat hm]
  show (match ls[m]? with | some x => _ | none => False)
  rw [hx]; exact q
/-! what is walked -/
theorem x_iSeq {KI : DEnv → List D → Prop} (h : T ρ fun ρ1 d => seqK d (KI ρ1)) : diSeq T ρ KI := h
theorem x_seqT {FL : List D → Prop} (h : FL ds) : seqK (.tup ds) FL := h
theorem x_seqL {FL : List D → Prop} (hz : ds.all isFz = true) (h : FL ds) : seqK (.lst mm ds) FL := allFz_of hz h
def kEnum (KI : DEnv → List D → Prop) (ρ : DEnv) (ds : List D) : Prop := match ds with
  | [d] => seqK d fun l => KI ρ (enumD 0 l)
  | _ => False
theorem x_iEnum {KI : DEnv → List D → Prop} (h : Tl ρ (kEnum KI)) : diEnum Tl ρ KI := h
theorem x_kEnum {KI : DEnv → List D → Prop} (h : seqK d fun l => KI ρ (enumD 0 l)) : kEnum KI ρ [d] := h
def kZip (KI : DEnv → List D → Prop) (ρ : DEnv) (ds : List D) : Prop := match ds with
  | [.tup l, .tup m] => KI ρ (zipD l m)
  | [.lst _ l, .lst _ m] => allFz l (allFz m (KI ρ (zipD l m)))
  | _ => False
theorem x_iZip {KI : DEnv → List D → Prop} (h : Tl ρ (kZip KI)) : diZip Tl ρ KI := h
theorem x_kZipT {KI : DEnv → List D → Prop} (h : KI ρ (zipD ds es)) : kZip KI ρ [.tup ds, .tup es] := h
def kRg1 (KI : DEnv → List D → Prop) (ρ : DEnv) (ds : List D) : Prop := match ds with
  | [.int n] => (-(2 ^ 62) ≤ n ∧ n < 2 ^ 62) ∧ KI ρ (rangeD 0 n.toNat)
  | _ => False
def kRg2 (KI : DEnv → List D → Prop) (ρ : DEnv) (ds : List D) : Prop := match ds with
  | [.int a, .int b] => (-(2 ^ 62) ≤ a ∧ a < 2 ^ 62 ∧ -(2 ^ 62) ≤ b ∧ b < 2 ^ 62) ∧ KI ρ (rangeD a (b - a).toNat)
  | _ => False
theorem x_iRg1 {KI : DEnv → List D → Prop} (h : Tl ρ (kRg1 KI)) : diRange1 Tl ρ KI := h
theorem x_iRg2 {KI : DEnv → List D → Prop} (h : Tl ρ (kRg2 KI)) : diRange2 Tl ρ KI := h
/-! targets -/
theorem x_gN (hn : n < ρ.length) (h : KE (ρ.set n (some d))) : gN n d ρ KE := ⟨hn, h⟩
theorem x_gTup {v : DTgs} (hl : ds.length = m) (h : v ds ρ KE) : gTupD m v (.tup ds) ρ KE := ⟨hl, h⟩
theorem x_gKey {v : DTgs} (hl : ds.length = m) (h : v ds ρ KE) : gTupD m v (.key ds) ρ KE := ⟨hl, h⟩
theorem x_gNil (h : KE ρ) : gNilD [] ρ KE := ⟨rfl, h⟩
theorem x_gCons {g : DTg} {v : DTgs} (h : g d ρ fun ρ1 => v ds ρ1 KE) : gConsD g v (d :: ds) ρ KE := h
/-! comprehensions -/
theorem x_lc {I : DIt} {g : DTg} {own : List Nat} (h : I ρ fun ρ1 ds => compD g t T (wipeD ρ1 own) (K ρ1) ds) : dLc I g t T own ρ K := h
def kC (te : ET) (ρ1 : DEnv) (Q : Bool → D → Prop) (b : Bool) : Prop := match b with
  | true => te ρ1 fun _ y => Q true y
  | false => Q false .non
theorem x_kC {Q : Bool → D → Prop} (h1 : b = true → T ρ fun _ y => Q true y) (h2 : b = false → Q false .non) : kC T ρ Q b := by
  cases b with
  | true => exact h1 rfl
  | false => exact h2 rfl
theorem lc_map {α : Type} {g : DTg} {te : ET} {ρb : DEnv} {enc : α → D} {xs : List α} (f : α → D) (hlen : xs.length ≤ sizeLine)
    (hs : ∀ x ∈ xs, ∀ Q : D → Prop, Q (f x) → g (enc x) ρb fun ρ1 => te ρ1 fun _ y => Q y) (hk : F (.lst true (xs.map f))) : compD g dYes te ρb F (xs.map enc) := compD_map enc f xs hlen hs hk
theorem lc_filter {α : Type} {g : DTg} {tt : TTd} {te : ET} {ρb : DEnv} {enc : α → D} {xs : List α} (p : α → Bool) (f : α → D) (hlen : xs.length ≤ sizeLine)
    (hs : ∀ x ∈ xs, ∀ Q : Bool → D → Prop, (p x = true → Q true (f x)) → (p x = false → Q false .non) → g (enc x) ρb fun ρ1 => tt ρ1 fun _ b => kC te ρ1 Q b) (hk : F (.lst true ((xs.filter p).map f))) : compD g tt te ρb F (xs.map enc) := by
  refine compD_fn enc (fun x => if p x = true then some (f x) else none) xs hlen (fun x hx Q q' => ?_) ?_
  · have := hs x hx (fun b y => match b with | true => Q (some y) | false => Q none) (fun h => by dsimp only; rw [h, if_pos rfl] at q'; exact q') fun h => by dsimp only; rw [h, if_neg (by simp)] at q'; exact q'
    exact this
  · have e : ∀ l : List α, l.filterMap (fun x => if p x = true then some (f x) else none) = (l.filter p).map f := fun l => by
      induction l with
      | nil => rfl
      | cons a l ih => cases hp : p a <;> simp [hp, ih]
    rw [e]; exact hk
end
end Dl
/-! Q2: the operations on plain things, run forward; persons are Nats. -/
namespace Dl
open PySem PySem.Spec L2
/-- numbers as data -/
abbrev nD (n : Nat) : D := .int (n : Int)
abbrev nL (l : List Nat) : List D := l.map fun (n : Nat) => D.int (n : Int)
abbrev tNat (l : List Nat) : D := .tup (nL l)
theorem nL_iL (l : List Nat) : nL l = iL (l.map fun (n : Nat) => (n : Int)) := by simp [nL, iL]
theorem isFz_nL (l : List Nat) : (nL l).all isFz = true := by rw [nL_iL]; exact isFz_ints _
theorem map_fz_nL (l : List Nat) : (nL l).map fz = nL l := by rw [nL_iL]; exact map_fz_ints _
section
variable {i j : Int} {a c n m : Nat} {l : List Nat} {ds es : List D} {d e x : D} {b b' : Bool} {F : D → Prop} {mm mn : Bool}
theorem x_eqI (h : F (.bl (i == j))) : oEq (.int i) (.int j) F := o_eqI _ h
theorem x_neI (h : F (.bl (!(i == j)))) : oNe (.int i) (.int j) F := o_neI _ h
theorem x_eqN (h : F (.bl (decide (a = c)))) : oEq (.int (a : Int)) (.int (c : Int)) F := x_eqI (by rw [show ((a : Int) == (c : Int)) = decide (a = c) from by rw [Bool.eq_iff_iff]; simp; omega]; exact h)
theorem x_neN (h : F (.bl (decide (a ≠ c)))) : oNe (.int (a : Int)) (.int (c : Int)) F := x_neI (by rw [show (!((a : Int) == (c : Int))) = decide (a ≠ c) from by rw [Bool.eq_iff_iff]; simp; omega]; exact h)
theorem x_ltI (h : F (.bl (decide (i < j)))) : oLt (.int i) (.int j) F := h
theorem x_leI (h : F (.bl (decide (i ≤ j)))) : oLe (.int i) (.int j) F := h
theorem x_gtI (h : F (.bl (decide (j < i)))) : oGt (.int i) (.int j) F := h
theorem x_geI (h : F (.bl (decide (j ≤ i)))) : oGe (.int i) (.int j) F := h
theorem x_ltN (h : F (.bl (decide (a < c)))) : oLt (.int (a : Int)) (.int (c : Int)) F := by show F (.bl (decide ((a : Int) < c))); simpa using h
theorem x_leN (h : F (.bl (decide (a ≤ c)))) : oLe (.int (a : Int)) (.int (c : Int)) F := by show F (.bl (decide ((a : Int) ≤ c))); simpa using h
theorem x_gtN (h : F (.bl (decide (c < a)))) : oGt (.int (a : Int)) (.int (c : Int)) F := by show F (.bl (decide ((c : Int) < a))); simpa using h
theorem x_geN (h : F (.bl (decide (c ≤ a)))) : oGe (.int (a : Int)) (.int (c : Int)) F := by show F (.bl (decide ((c : Int) ≤ a))); simpa using h
theorem x_addI (h : F (.int (i + j))) : oAdd (.int i) (.int j) F := h
theorem x_addN (h : F (.int ((a + c : Nat) : Int))) : oAdd (.int (a : Int)) (.int (c : Int)) F := by show F (.int ((a : Int) + c)); simpa using h
theorem x_addN1 (h : F (.int ((a + 1 : Nat) : Int))) : oAdd (.int (a : Int)) (.int 1) F := h
theorem x_add1N (h : F (.int ((1 + a : Nat) : Int))) : oAdd (.int 1) (.int (a : Int)) F := by
  have e : ((1 + a : Nat) : Int) = 1 + (a : Int) := by omega
  rw [e] at h; exact h
theorem x_subI (h : F (.int (i - j))) : oSub (.int i) (.int j) F := h
theorem x_addT (hz : ds.length + es.length ≤ sizeLine) (h : F (.tup (ds ++ es))) : oAdd (.tup ds) (.tup es) F := ⟨hz, h⟩
theorem x_addL (h1 : ds.all isFz = true) (h2 : es.all isFz = true) (hz : ds.length + es.length ≤ sizeLine) (h : F (.lst true (ds ++ es))) : oAdd (.lst mm ds) (.lst mn es) F := ⟨⟨h1, h2⟩, hz, h⟩
theorem x_mul (hc : CMul i j) (h : F (.int (i * j))) : oMul (.int i) (.int j) F := ⟨hc, h⟩
theorem x_mod (hc : 0 < j) (h : F (.int (i % j))) : oMod (.int i) (.int j) F := ⟨hc, h⟩
theorem x_fdiv (hc : CDiv i j) (h : F (.int (i / j))) : oFdiv (.int i) (.int j) F := ⟨hc, h⟩
theorem x_neg (h : F (.int (-i))) : oNeg (.int i) F := h
theorem x_notN (h : F (.bl (!isNonD d))) : oNotN d .non F := h
theorem x_isN (h : F (.bl (isNonD d))) : oIsN d .non F := h
theorem x_isB (h : F (.bl (decide (b = b')))) : oIsB (.bl b) (.bl b') F := h
/-! membership -/
theorem memC {a : Nat} {l : List Nat} : ((a : Int) ∈ l.map fun (n : Nat) => (n : Int)) ↔ a ∈ l := by
  rw [List.mem_map]
  constructor
  · rintro ⟨b, hb, e⟩
    have : b = a := by omega
    subst this; exact hb
  · exact fun h => ⟨a, h, rfl⟩
theorem x_inN (h : F (.bl (decide (a ∈ l)))) : oIn (.int (a : Int)) (.tup (nL l)) F := by
  rw [nL_iL]; refine o_inT _ ?_
  rw [show decide ((a : Int) ∈ l.map fun (n : Nat) => (n : Int)) = decide (a ∈ l) from by rw [Bool.eq_iff_iff, decide_eq_true_iff, decide_eq_true_iff, memC]]; exact h
theorem x_inNL (h : F (.bl (decide (a ∈ l)))) : oIn (.int (a : Int)) (.lst mm (nL l)) F := by
  rw [nL_iL]; refine o_inL _ ?_
  rw [show decide ((a : Int) ∈ l.map fun (n : Nat) => (n : Int)) = decide (a ∈ l) from by rw [Bool.eq_iff_iff, decide_eq_true_iff, decide_eq_true_iff, memC]]; exact h
theorem x_notInN (h : F (.bl (decide (a ∉ l)))) : oNotIn (.int (a : Int)) (.tup (nL l)) F := by
  rw [nL_iL]; refine o_notInT _ ?_
  rw [show (!decide ((a : Int) ∈ l.map fun (n : Nat) => (n : Int))) = decide (a ∉ l) from by rw [Bool.eq_iff_iff, Bool.not_eq_true', decide_eq_true_iff, decide_eq_false_iff_not, memC]]; exact h
theorem x_notInNL (h : F (.bl (decide (a ∉ l)))) : oNotIn (.int (a : Int)) (.lst mm (nL l)) F := by
  rw [nL_iL]; refine o_notInL _ ?_
  rw [show (!decide ((a : Int) ∈ l.map fun (n : Nat) => (n : Int))) = decide (a ∉ l) from by rw [Bool.eq_iff_iff, Bool.not_eq_true', decide_eq_true_iff, decide_eq_false_iff_not, memC]]; exact h
/-! items -/
theorem x_ix (hx : ixD d e = some x) (h : F x) : oIx d e F := o_ix hx _ h
theorem x_ixF (hx : ixD d e = some x) (hf : isFz x = true) (h : F x) : oIxF d e F := o_ixF hx hf _ h
theorem x_ixM {α : Type} {f : α → D} {xs : List α} {y : α} (hy : xs[a]? = some y) (h : F (f y)) : oIx (.tup (xs.map f)) (.int (a : Int)) F := o_ix (ix_tup (by rw [List.getElem?_map, hy]; rfl)) _ h
theorem x_ixML {α : Type} {f : α → D} {xs : List α} {y : α} (hy : xs[a]? = some y) (h : F (f y)) : oIx (.lst mm (xs.map f)) (.int (a : Int)) F := o_ix (ix_lst (by rw [List.getElem?_map, hy]; rfl)) _ h
theorem getD_some {α : Type} {xs : List α} {z : α} (ha : a < xs.length) : xs[a]? = some (xs.getD a z) := by rw [List.getD_eq_getElem?_getD, List.getElem?_eq_getElem ha]; rfl
theorem x_ixN (ha : a < l.length) (h : F (.int ((l.getD a 0 : Nat) : Int))) : oIx (.tup (nL l)) (.int (a : Int)) F := x_ixM (getD_some ha) h
theorem x_ixNL (ha : a < l.length) (h : F (.int ((l.getD a 0 : Nat) : Int))) : oIx (.lst mm (nL l)) (.int (a : Int)) F := x_ixML (getD_some ha) h
/-! built-ins -/
theorem x_tup (h1 : ds.all isFz = true) (hz : ds.length ≤ sizeLine) (h : F (.tup ds)) : oTup ds F := allFz_of h1 ⟨hz, h⟩
theorem x_lst (h1 : ds.all isFz = true) (hz : ds.length ≤ sizeLine) (h : F (.lst true ds)) : oLst ds F := allFz_of h1 ⟨hz, h⟩
theorem x_key (h1 : ds.all isFz = true) (hz : ds.length ≤ sizeLine) (h : F (.key ds)) : oKey ds F := allFz_of h1 ⟨hz, h⟩
theorem x_lenT (h : F (.int (ds.length : Nat))) : oLen [.tup ds] F := ⟨trivial, h⟩
theorem x_lenL (h : F (.int (ds.length : Nat))) : oLen [.lst mm ds] F := ⟨trivial, h⟩
theorem x_lenTM {α : Type} {f : α → D} {xs : List α} (h : F (.int (xs.length : Nat))) : oLen [.tup (xs.map f)] F := x_lenT (by rw [List.length_map]; exact h)
theorem x_lenLM {α : Type} {f : α → D} {xs : List α} (h : F (.int (xs.length : Nat))) : oLen [.lst mm (xs.map f)] F := x_lenL (by rw [List.length_map]; exact h)
theorem x_intI (h : F (.int i)) : oInt [.int i] F := h
theorem x_absI (h : F (.int (if i < 0 then -i else i))) : oAbs [.int i] F := h
theorem x_tupleT (h : F (.tup ds)) : oTuple [.tup ds] F := h
theorem x_tupleL (hz : ds.all isFz = true) (h : F (.tup ds)) : oTuple [.lst mm ds] F := allFz_of hz h
theorem x_listT (hz : ds.all isFz = true) (h : F (.lst true ds)) : oList [.tup ds] F := ⟨hz, h⟩
theorem x_listL (hz : ds.all isFz = true) (h : F (.lst true ds)) : oList [.lst mm ds] F := allFz_of hz ⟨hz, h⟩
theorem x_all {α : Type} {f : α → Bool} {xs : List α} (h : F (.bl (xs.all f))) : oAll [.lst mm (xs.map fun x => D.bl (f x))] F := o_all f xs _ h
theorem x_any {α : Type} {f : α → Bool} {xs : List α} (h : F (.bl (xs.any f))) : oAny [.lst mm (xs.map fun x => D.bl (f x))] F := o_any f xs _ h
theorem x_isi {t : String} (hb : isiD d t = some b) (h : F (.bl b)) : oIsi [d, .ty t] F := o_isi hb _ h
theorem x_fld {C : Addr} {ns : List Str} {n : Nat} (hx : ds[n]? = some x) (h : F x) : oFld C ns n (.obj mm C ns ds) F := by
  show C = C ∧ ns = ns ∧ (match ds[n]? with | some x => F x | none => False)
  rw [hx]; exact ⟨rfl, rfl, h⟩
theorem x_dRg1 {T : ET} {ρ : DEnv} {K : DEnv → D → Prop} (h : T ρ fun ρ1 d => match d with
  | .int n => RgOk 0 n ∧ K ρ1 (.lst true (rangeD 0 (n - 0).toNat))
  | _ => False) : dRgL1 T ρ K := h
theorem rangeD_nat (n : Nat) : rangeD 0 n = nL (List.range n) := by
  unfold rangeD nL; refine List.map_congr_left fun i _ => ?_; simp
theorem x_kRg1 {KI : DEnv → List D → Prop} {ρ : DEnv} (hn : n < 2 ^ 62) (h : KI ρ (nL (List.range n))) : kRg1 KI ρ [.int (n : Int)] := by
  refine ⟨by omega, ?_⟩
  rw [Int.toNat_natCast, rangeD_nat]; exact h
end
/-- enumerate, told by places -/
def enC {α : Type} (f : α → D) (p : Nat × α) : D := .key [.int (p.1 : Int), f p.2]
def enL {α : Type} : Nat → List α → List (Nat × α)
  | _, [] => []
  | n, x :: l => (n, x) :: enL (n + 1) l
theorem enumD_enL {α : Type} (f : α → D) : ∀ (l : List α) (n : Nat), enumD n (l.map f) = (enL n l).map (enC f)
  | [], n => rfl
  | x :: l, n => by
    show D.key [.int (n : Nat), f x] :: enumD (n + 1) (l.map f) = enC f (n, x) :: (enL (n + 1) l).map (enC f)
    rw [enumD_enL f l (n + 1)]; rfl
theorem enL_length {α : Type} : ∀ (l : List α) (n : Nat), (enL n l).length = l.length
  | [], n => rfl
  | x :: l, n => by simp [enL, enL_length l (n + 1)]
theorem enL_get {α : Type} : ∀ (l : List α) (n i : Nat), (enL n l)[i]? = (l[i]?).map fun x => (n + i, x)
  | [], n, i => by simp [enL]
  | x :: l, n, 0 => by simp [enL]
  | x :: l, n, i + 1 => by
    simp only [enL, List.getElem?_cons_succ, enL_get l (n + 1) i]
    congr 1; funext y; congr 1; omega
theorem mem_enL {α : Type} {l : List α} {i : Nat} {x : α} : (i, x) ∈ enL 0 l ↔ l[i]? = some x := by
  rw [List.mem_iff_getElem?]
  constructor
  · rintro ⟨j, h⟩
    rw [enL_get] at h
    cases e : l[j]? with
    | none => rw [e] at h; cases h
    | some y =>
      rw [e] at h
      simp at h
      obtain ⟨rfl, rfl⟩ := h
      exact e
  · intro h
    exact ⟨i, by rw [enL_get, h]; simp⟩
section
variable {ρ : DEnv} {KI : DEnv → List D → Prop} {α : Type} {f : α → D} {xs : List α} {mm : Bool}
theorem x_kEnumT (h : KI ρ ((enL 0 xs).map (enC f))) : kEnum KI ρ [.tup (xs.map f)] := by
  show KI ρ (enumD 0 (xs.map f))
  rw [enumD_enL]; exact h
theorem x_kEnumL (hz : (xs.map f).all isFz = true) (h : KI ρ ((enL 0 xs).map (enC f))) : kEnum KI ρ [.lst mm (xs.map f)] := allFz_of hz (by
  show KI ρ (enumD 0 (xs.map f))
  rw [enumD_enL]; exact h)
theorem x_gEn {x : Nat × α} {v : DTgs} {KE : DEnv → Prop} {n : Nat} (hn : 2 = n) (h : v [.int (x.1 : Int), f x.2] ρ KE) : gTupD n v (enC f x) ρ KE := ⟨hn, h⟩
end
theorem lc_mapD {F : D → Prop} {g : DTg} {te : ET} {ρb : DEnv} {l : List D} (f : D → D) (hlen : l.length ≤ sizeLine)
    (hs : ∀ x ∈ l, ∀ Q : D → Prop, Q (f x) → g x ρb fun ρ1 => te ρ1 fun _ y => Q y) (hk : F (.lst true (l.map f))) : compD g dYes te ρb F l := by
  have := lc_map (F := F) (g := g) (te := te) (ρb := ρb) (enc := id) (xs := l) f hlen hs hk
  rwa [List.map_id] at this
/-- a loop over encoded things; p: walked -/
theorem for_list {α : Type} {g : DTg} {T : DSt} {k : DEnds} {ρ : DEnv} {enc : α → D} {xs : List α} (I : List α → List α → DEnv → Prop) (h0 : I [] xs ρ)
    (hs : ∀ p x r ρ, xs = p ++ x :: r → I p (x :: r) ρ → ∀ N : DEnv → Prop, (∀ ρ, I (p ++ [x]) r ρ → N ρ) → g (enc x) ρ fun ρ1 => T (dnLoop N k) ρ1) (he : ∀ ρ, I xs [] ρ → k.nx ρ) : forD g T k (xs.map enc) ρ := forD_list enc xs I h0 hs he
/-- .. by the place -/
theorem for_nat {α : Type} {g : DTg} {T : DSt} {k : DEnds} {ρ : DEnv} {enc : α → D} {xs : List α} (I : Nat → DEnv → Prop) (h0 : I 0 ρ)
    (hs : ∀ i x ρ, xs[i]? = some x → I i ρ → ∀ N : DEnv → Prop, (∀ ρ, I (i + 1) ρ → N ρ) → g (enc x) ρ fun ρ1 => T (dnLoop N k) ρ1) (he : ∀ ρ, I xs.length ρ → k.nx ρ) : forD g T k (xs.map enc) ρ := by
  refine for_list (fun p r ρ => I p.length ρ) h0 (fun p x r ρ e h N hN => hs p.length x ρ (by rw [e]; simp) h N fun ρ' h' => hN ρ' (by rw [List.length_append]; exact h')) he
end Dl
namespace Dl
open PySem PySem.Spec L2
theorem sizeLine_ge20 : (2 : Nat) ^ 24 ≤ sizeLine := by decide
theorem fz_int (i : Int) : fz (.int i) = .int i := rfl
theorem fz_bl (i : Bool) : fz (.bl i) = .bl i := rfl
theorem fz_str (i : PySem.Str) : fz (.str i) = .str i := rfl
theorem fz_non : fz .non = .non := rfl
theorem fz_tup (l : List D) : fz (.tup l) = .tup l := rfl
theorem fz_lst0 (l : List D) : fz (.lst false l) = .lst false l := rfl
theorem fz_dct0 (l : List (Key × D)) : fz (.dct false l) = .dct false l := rfl
theorem fz_obj0 (C : PySem.Addr) (ns : List PySem.Str) (l : List D) : fz (.obj false C ns l) = .obj false C ns l := rfl
theorem fz_dct1 : fz (.dct true []) = .dct false [] := rfl
theorem frzL_map {α : Type} {f : α → D} {l : List α} (h : ∀ x, frz (f x) = f x) : frzL (l.map f) = l.map f := by
  rw [frzL_eq, List.map_map]; exact List.map_congr_left fun x _ => h x
theorem fz_nL (l : List Nat) : fz (.lst true (nL l)) = .lst false (nL l) := by
  show frz (.lst true (nL l)) = _
  rw [frz, frzL_map]; exact fun _ => rfl
theorem fzIf_t (d : D) : fzIf true d = fz d := rfl
theorem fzIf_f (d : D) : fzIf false d = d := rfl
/-- all the package's classes -/
structure CA where
  (BadTable NoPerson NoWish NoPairing NoDivision NoLot TooMany NoBounds NoName NoWishes NothingDone NoTables BadText NoLine PairError Table Turns Board Desk : PySem.Addr)
end Dl
namespace Dl
open PySem PySem.Spec L2
section
variable {ρ : DEnv} {K : DEnv → D → Prop} {Tl : LT} {ds : List D} {F : D → Prop}
def kLE (K : DEnv → D → Prop) (ρ : DEnv) (ds : List D) : Prop := ds.length ≤ sizeLine ∧ K ρ (.lst true ds)
def kLF (K : DEnv → D → Prop) (ρ : DEnv) (ds : List D) : Prop := ds.length ≤ sizeLine ∧ K ρ (.lst true (ds.map fz))
def kTE (K : DEnv → D → Prop) (ρ : DEnv) (ds : List D) : Prop := ds.length ≤ sizeLine ∧ K ρ (.tup (ds.map fz))
theorem x_lstE (h : Tl ρ (kLE K)) : dLstE Tl ρ K := h
theorem x_lstF (h : Tl ρ (kLF K)) : dLstF Tl ρ K := h
theorem x_tupE (h : Tl ρ (kTE K)) : dTupE Tl ρ K := h
theorem x_kLE (hz : ds.length ≤ sizeLine) (h : K ρ (.lst true ds)) : kLE K ρ ds := ⟨hz, h⟩
theorem x_kLF (hz : ds.length ≤ sizeLine) (h : K ρ (.lst true (ds.map fz))) : kLF K ρ ds := ⟨hz, h⟩
theorem x_kTE (hz : ds.length ≤ sizeLine) (h : K ρ (.tup (ds.map fz))) : kTE K ρ ds := ⟨hz, h⟩
theorem x_dct {l : List (Key × D)} {b : Bool} (h : F (.int (l.length : Nat))) : oLen [.dct b l] F := ⟨trivial, h⟩
theorem x_rev (h : F (.tup ds.reverse)) : oRev (.tup ds) F := h
theorem x_pow {i j : Int} (hc : CPow i j) (h : F (.int (i ^ j.toNat))) : oPow (.int i) (.int j) F := ⟨hc, h⟩
/-- a name of an effectful reading -/
theorem x_nameE {n : Nat} {d : D} (h : ρ[n]? = some (some d)) (hz : isFz d = true) (q : K ρ d) : dName n ρ K := by
  show nameV ρ n _; unfold nameV; rw [h]; dsimp only; rw [hz]; exact q
theorem x_nameE1 {n : Nat} {d : D} (h : ρ[n]? = some (some d)) (hz : isFz d = false) (q : K (ρ.set n (some (frz d))) (frz d)) : dName n ρ K := by
  show nameV ρ n _; unfold nameV; rw [h]; dsimp only; rw [hz]; exact q
theorem fz_eq {d : D} (hz : isFz d = true) : fz d = d := by unfold fz; rw [hz]
theorem frzL_id {l : List D} (h : ∀ d ∈ l, frz d = d) : frzL l = l := by
  rw [frzL_eq]; exact (List.map_congr_left h).trans (List.map_id l)
end
end Dl
/-! Q3: sorting persons. -/
namespace Dl
open PySem PySem.Spec L2
/-- the persons of a lot, ascending: of those below n -/
def srt (n : Nat) (l : List Nat) : List Nat := (List.range n).filter fun x => decide (x ∈ l)
theorem mem_srt {n : Nat} {l : List Nat} {x : Nat} : x ∈ srt n l ↔ x < n ∧ x ∈ l := by simp [srt]
theorem srt_sorted (n : Nat) (l : List Nat) : (srt n l).Pairwise (· < ·) := List.Pairwise.filter _ List.pairwise_lt_range
theorem srt_nodup (n : Nat) (l : List Nat) : (srt n l).Nodup := (srt_sorted n l).imp fun h => Nat.ne_of_lt h
theorem sorted_unique : ∀ {a b : List Nat}, a.Pairwise (· < ·) → b.Pairwise (· < ·) → (∀ x, x ∈ a ↔ x ∈ b) → a = b
  | [], [], _, _, _ => rfl
  | [], y :: b, _, _, h => by have := (h y).mpr (by simp); cases this
  | x :: a, [], _, _, h => by have := (h x).mp (by simp); cases this
  | x :: a, y :: b, ha, hb, h => by
    rw [List.pairwise_cons] at ha hb
    have e : x = y := by
      have h1 := (h x).mp (by simp)
      have h2 := (h y).mpr (by simp)
      rcases List.mem_cons.mp h1 with z | z
      · exact z
      · rcases List.mem_cons.mp h2 with w | w
        · exact w.symm
        · have := hb.1 _ z; have := ha.1 _ w; omega
    subst e
    congr 1
    refine sorted_unique ha.2 hb.2 fun z => ?_
    have hz := h z
    constructor
    · intro k
      have := hz.mp (List.mem_cons_of_mem _ k)
      rcases List.mem_cons.mp this with q | q
      · subst q; exact absurd (ha.1 _ k) (by omega)
      · exact q
    · intro k
      have := hz.mpr (List.mem_cons_of_mem _ k)
      rcases List.mem_cons.mp this with q | q
      · subst q; exact absurd (hb.1 _ k) (by omega)
      · exact q
theorem toPd_nL (l : List Nat) : (nL l).map toPd = l.map fun (n : Nat) => PyData.int (n : Int) := by
  rw [List.map_map]; rfl
theorem sortOk_nL (l : List Nat) : SortOk (nL l) := by
  refine ⟨fun d h => ?_, fun d h d' h' => ?_, .inr fun d h => ?_⟩
  · obtain ⟨n, _, rfl⟩ := List.mem_map.mp h
    exact ⟨rfl, by show PyData.depth (.int n) ≤ 64; simp [PyData.depth]⟩
  · rw [toPd_nL] at h h'
    obtain ⟨n, _, rfl⟩ := List.mem_map.mp h
    obtain ⟨m, _, rfl⟩ := List.mem_map.mp h'
    rfl
  · rw [toPd_nL] at h
    obtain ⟨n, _, rfl⟩ := List.mem_map.mp h
    exact ⟨by simp, by simp⟩
theorem sortD_nL (l : List Nat) : sortD (nL l) = nL (l.mergeSort fun a b => decide (a ≤ b)) := by
  unfold sortD nL
  rw [List.map_mergeSort]
  intro a _ b _
  have := congrFun (congrFun (PySem.W.dataLe_int (β := Nat) (fun n => (n : Int))) a) b
  have e : PySem.W.dataLe false toPd (D.int (a : Int)) (D.int (b : Int)) = PySem.W.dataLe false (fun (n : Nat) => PyData.int (n : Int)) a b := rfl
  rw [e, this]
  simp
theorem mergeSort_srt {l : List Nat} {n : Nat} (hn : l.Nodup) (hb : ∀ x ∈ l, x < n) : (l.mergeSort fun a b => decide (a ≤ b)) = srt n l := by
  have hp := List.mergeSort_perm l fun a b => decide (a ≤ b)
  have hs : (l.mergeSort fun a b => decide (a ≤ b)).Pairwise (fun a b => decide (a ≤ b) = true) := List.pairwise_mergeSort (fun a b c => by simp; omega) (fun a b => by simp; omega) l
  have hnd : (l.mergeSort fun a b => decide (a ≤ b)).Nodup := hp.nodup_iff.mpr hn
  refine sorted_unique ?_ (srt_sorted n l) fun x => ?_
  · have : (l.mergeSort fun a b => decide (a ≤ b)).Pairwise (fun a b => decide (a ≤ b) = true ∧ a ≠ b) := hs.and hnd
    exact this.imp fun ⟨h1, h2⟩ => by simp at h1; omega
  · rw [hp.mem_iff, mem_srt]
    exact ⟨fun h => ⟨hb x h, h⟩, fun h => h.2⟩
section
variable {F : D → Prop} {l : List Nat} {n : Nat} {mm : Bool}
theorem x_sortedT (hn : l.Nodup) (hb : ∀ x ∈ l, x < n) (h : F (.lst true (nL (srt n l)))) : oSorted [.tup (nL l)] F := by
  refine ⟨sortOk_nL l, isFz_nL l, ?_⟩
  rw [sortD_nL, mergeSort_srt hn hb]; exact h
theorem x_sortedL (hn : l.Nodup) (hb : ∀ x ∈ l, x < n) (h : F (.lst true (nL (srt n l)))) : oSorted [.lst mm (nL l)] F := by
  refine allFz_of (isFz_nL l) ⟨sortOk_nL l, isFz_nL l, ?_⟩
  rw [sortD_nL, mergeSort_srt hn hb]; exact h
end
theorem cut_to (l : List D) (k : Nat) : cutD l none (some (k : Int)) = l.take k := by
  unfold cutD
  rw [HT.sIx_none, HT.sIx_nat, List.drop_zero, Nat.sub_zero]
  rcases Nat.lt_or_ge k l.length with h | h
  · rw [Nat.min_eq_left (by omega)]
  · rw [Nat.min_eq_right h, List.take_of_length_le (Nat.le_refl _), List.take_of_length_le h]
theorem cut_from (l : List D) (k : Nat) : cutD l (some (k : Int)) none = l.drop k := by
  unfold cutD
  rw [HT.sIx_none, HT.sIx_nat]
  rcases Nat.lt_or_ge k l.length with h | h
  · rw [Nat.min_eq_left (by omega), List.take_of_length_le (by simp)]
  · rw [Nat.min_eq_right h, List.drop_of_length_le (Nat.le_refl _), List.drop_of_length_le h]; simp
end Dl
/-! Q4: paths, items by their places, effectful comprehensions; texts. -/
namespace Dl
open PySem PySem.Spec L2
section
variable {ρ ρ1 : DEnv} {d e x y c : D} {ds es ls : List D} {i j n m : Nat} {T Ta Tb Te Ti : ET} {Tl : LT} {b : Bool} {K : DEnv → D → Prop} {KE : DEnv → Prop} {KP : Nat → List Nat → D → Prop} {F : D → Prop} {M : MD} {ty : String} {p : List Nat} {k : DEnds}
def kP2 (M : MD) (K : DEnv → D → Prop) (i : Nat) (p : List Nat) (c : D) (ρ : DEnv) (ds : List D) : Prop := M c ds fun d' e => K (putD ρ i p e) d'
def kP1 (ty : String) (M : MD) (Tl : LT) (K : DEnv → D → Prop) (ρ : DEnv) (i : Nat) (p : List Nat) (c : D) : Prop := tyD ty c = true ∧ Tl ρ fun _ ds => kP2 M K i p c ρ ds
theorem x_lmP {Tp : LvT} (h : Tp ρ (kP1 ty M Tl K ρ)) : dLmP ty M Tp Tl ρ K := h
theorem x_kP1 (ht : tyD ty c = true) (h : Tl ρ fun _ ds => kP2 M K i p c ρ ds) : kP1 ty M Tl K ρ i p c := ⟨ht, h⟩
theorem x_kP2app (hl : ls.length < sizeLine) (h : K (putD ρ i p (.lst true (ls ++ [x]))) .non) : kP2 mAppend K i p (.lst true ls) ρ [x] := ⟨hl, h⟩
def kIx (KP : Nat → List Nat → D → Prop) (i : Nat) (p : List Nat) (c y : D) : Prop := match kidIx c y with
  | some n => (match getP [n] c with | some e => KP i (p ++ [n]) e | none => False)
  | none => False
theorem x_lvIx {Tp : LvT} (h : Tp ρ fun i p c => Tb ρ fun _ y => kIx KP i p c y) : lvIx Tp Tb ρ KP := h
theorem x_kIxL (hj : ls[j]? = some e) (q : KP i (p ++ [j]) e) : kIx KP i p (.lst true ls) (.int (j : Nat)) := by
  have hl : j < ls.length := (List.getElem?_eq_some_iff.mp hj).1
  show (match ixN ls.length (j : Int) with | some n => (match getP [n] (.lst true ls) with | some e => KP i (p ++ [n]) e | none => False) | none => False)
  rw [ixN_nat hl]
  show (match (ls[j]?).bind (getP []) with | some e => KP i (p ++ [j]) e | none => False)
  rw [hj]; exact q
theorem x_lvFld {C : Addr} {ns : List Str} {Tp : LvT} (h : Tp ρ fun i p c => match c with
  | .obj true C' ns' l => C' = C ∧ ns' = ns ∧ (match l[j]? with | some e => KP i (p ++ [j]) e | none => False)
  | _ => False) : lvFld C ns j Tp ρ KP := h
theorem modify_const {α : Type} (l : List α) (j : Nat) (e : α) : l.modify j (fun _ => e) = l.set j e := by
  refine List.ext_getElem? fun k => ?_
  rw [List.getElem?_modify, List.getElem?_set]
  by_cases h : j = k
  · subst h
    rcases Nat.lt_or_ge j l.length with z | z
    · rw [List.getElem?_eq_getElem z]; simp [z]
    · rw [List.getElem?_eq_none z]; simp; omega
  · simp [h]
theorem putD_1 (h0 : ρ[n]? = some (some (.lst true ls))) : putD ρ n [j] e = ρ.set n (some (.lst true (ls.set j e))) := by
  unfold putD
  rw [h0]
  show ρ.set n (some (.lst true (ls.modify j (setP [] e)))) = _
  have : setP [] e = fun _ => e := by funext d; rfl
  rw [this, modify_const]
theorem x_putD1 (h0 : ρ[n]? = some (some (.lst true ls))) (q : K (ρ.set n (some (.lst true (ls.set j e)))) d) : K (putD ρ n [j] e) d := by rw [putD_1 h0]; exact q
theorem x_kPutN {nx : DEnv → Prop} (h0 : ρ[n]? = some (some d)) (hm : j < ls.length) (q : nx (ρ.set n (some (.lst true (ls.set j e))))) : kPut n [] (.lst true ls) e nx ρ (.int (j : Nat)) := x_kPutL h0 (ixN_nat hm) q
theorem x_gPut {Tp : LvT} (h : Tp ρ fun n p c => Ti ρ fun _ y => kPut n p c d KE ρ y) : gPut Tp Ti d ρ KE := h
/-- an effectful comprehension, every item a thing -/
theorem x_lcE {I : DIt} {g : DTg} {t : TTd} {te : ET} {own : List Nat} (h : I ρ fun ρ1 ds => compE g t te own (fun ρ2 d => K (restD ρ1 ρ2 own) d) ds (wipeD ρ1 own)) : dLcE I g t te own ρ K := h
theorem lcE_map {α : Type} {g : DTg} {te : ET} {own : List Nat} {kk : DEnv → D → Prop} {ρ0 : DEnv} {enc : α → D} {xs : List α} (I : List α → List D → DEnv → Prop) (hlen : xs.length ≤ sizeLine) (h0 : I [] [] ρ0)
    (hs : ∀ p x r acc ρ, xs = p ++ x :: r → I p acc ρ → ∀ Q : DEnv → D → Prop, (∀ ρ' y, I (p ++ [x]) (acc ++ [y]) (wipeD ρ' own) → Q ρ' y) → g (enc x) ρ fun ρ1 => te ρ1 Q)
    (he : ∀ acc ρ, I xs acc ρ → acc.length = xs.length → kk (wipeD ρ own) (.lst true acc)) : compE g dYes te own kk (xs.map enc) ρ0 := by
  refine compE_list enc xs (fun p r acc ρ => acc.length = p.length ∧ I p acc ρ) hlen ⟨rfl, h0⟩ (fun p x r acc ρ e h N hN => ?_) (fun p r acc ρ h => Nat.le_of_eq h.1) fun acc ρ h => he acc ρ h.2 h.1
  exact hs p x r acc ρ e h.2 (fun ρ' y => N (some y) (wipeD ρ' own)) fun ρ' y h' => hN (some y) (wipeD ρ' own) ⟨by show (acc ++ [y]).length = _; rw [List.length_append, List.length_append, h.1]; rfl, h'⟩
theorem x_gTupZ {v : DTgs} (hl : ds.length = m) (h : v ds ρ KE) : gTupD m v (fz (.tup ds)) ρ KE := ⟨hl, h⟩
theorem x_slToM {α : Type} {f : α → D} {xs : List α} (h : F (.tup ((xs.take n).map f))) : oSl (.tup (xs.map f)) none (some (n : Int)) F := by
  show F (.tup (cutD _ _ _)); rw [cut_to, ← List.map_take]; exact h
theorem x_slFromM {α : Type} {f : α → D} {xs : List α} (h : F (.tup ((xs.drop n).map f))) : oSl (.tup (xs.map f)) (some (n : Int)) none F := by
  show F (.tup (cutD _ _ _)); rw [cut_from, ← List.map_drop]; exact h
theorem x_slFrom1 {α : Type} {f : α → D} {xs : List α} (h : F (.tup ((xs.drop 1).map f))) : oSl (.tup (xs.map f)) (some 1) none F := x_slFromM (n := 1) h
/-! texts -/
theorem eqD_str {x y : Str} (hx : PyData.strOk x = true) (hy : PyData.strOk y = true) : eqD (.str x) (.str y) = some (x == y) := by
  show (if (SeqAt.shaped (.str x) && SeqAt.shaped (.str y)) = true then some (PyData.eqv (.str x) (.str y)) else none) = _
  have : ∀ z : Str, PyData.strOk z = true → SeqAt.shaped (.str z) = true := fun z h => by simp [SeqAt.shaped, PyData.canLay0, PyData.depth, h]
  rw [this x hx, this y hy]
  simp [PyData.eqv]
theorem x_eqS {x y : Str} (hx : PyData.strOk x = true) (hy : PyData.strOk y = true) (h : F (.bl (x == y))) : oEq (.str x) (.str y) F := by show optK (eqD _ _) F; rw [eqD_str hx hy]; exact h
theorem x_neS {x y : Str} (hx : PyData.strOk x = true) (hy : PyData.strOk y = true) (h : F (.bl (!(x == y)))) : oNe (.str x) (.str y) F := by show optK ((eqD _ _).map (!·)) F; rw [eqD_str hx hy]; exact h
theorem x_repr {q : PyData} (hq : toR d = some q) (h1 : q.showable = true) (h2 : q.depth ≤ 64) (h3 : q.shown.length ≤ sizeLine) (h : F (.str q.shown)) : oRepr [d] F := by
  show (match toR d with | some p => p.showable = true ∧ p.depth ≤ 64 ∧ p.shown.length ≤ sizeLine ∧ F (.str p.shown) | none => False)
  rw [hq]; exact ⟨h1, h2, h3, h⟩
/-- a thing that can be shown -/
def RepOk (d : D) (x : Str) : Prop := ∃ q, toR d = some q ∧ q.showable = true ∧ q.depth ≤ 64 ∧ q.shown.length ≤ sizeLine ∧ x = q.shown
theorem x_reprO {z : Str} (hq : RepOk d z) (h : F (.str z)) : oRepr [d] F := by
  obtain ⟨q, a1, a2, a3, a4, rfl⟩ := hq
  exact x_repr a1 a2 a3 a4 h
end
end Dl
/-! Q5: what is shown of plain things: its size, its signs. -/
namespace Dl
open PySem PySem.Spec L2
abbrev sOk (x : Str) : Prop := PyData.strOk x = true
theorem sOk_iff {x : Str} : sOk x ↔ ∀ c ∈ x.cps.toList, c < 0x110000 := by
  unfold sOk PyData.strOk
  rw [Array.all_eq_true_iff_forall_mem]
  simp
theorem sOk_app {x y : Str} (hx : sOk x) (hy : sOk y) : sOk (x ++ y) := by
  rw [sOk_iff] at *
  intro c hc
  have e : (x ++ y).cps.toList = x.cps.toList ++ y.cps.toList := by show (x.cps ++ y.cps).toList = _; simp
  rw [e] at hc
  rcases List.mem_append.mp hc with z | z
  · exact hx c z
  · exact hy c z
theorem sOk_int (i : Int) : sOk (PyData.int i).shown := by
  rw [sOk_iff]
  intro c hc
  rcases Nat.lt_or_ge c 0x110000 with z | z
  · exact z
  · exact absurd hc (PyProof.Rows.shown_int_free' ⟨by omega, .inr (by omega)⟩ i)
theorem sOk_join : ∀ ts : List Str, (∀ t ∈ ts, sOk t) → sOk (Str.join ", " ts)
  | [], _ => by decide +kernel
  | [x], h => h x (by simp)
  | x :: y :: r, h => by
    show sOk (x ++ ", " ++ Str.join ", " (y :: r))
    exact sOk_app (sOk_app (h x (by simp)) (by decide +kernel)) (sOk_join (y :: r) fun t ht => h t (List.mem_cons_of_mem _ ht))
theorem sOk_from : ∀ (ts : List Str) (k : Nat) (acc : Str), sOk acc → (∀ t ∈ ts, sOk t) → sOk (textFrom k acc ts)
  | [], _, _, h, _ => h
  | t :: ts, k, acc, h, ht => by
    show sOk (textFrom (k + 1) (acc ++ (if k > 0 then ", " else "" : String) ++ t) ts)
    exact sOk_from ts (k + 1) _ (sOk_app (sOk_app h (by split <;> decide +kernel)) (ht t (by simp))) fun u hu => ht u (List.mem_cons_of_mem _ hu)
theorem len_join : ∀ ts : List Str, (Str.join ", " ts).length ≤ piled ts
  | [] => by decide +kernel
  | x :: r => by have := join_length_add (x :: r) (by simp); omega
theorem len_from : ∀ (ts : List Str) (k : Nat) (acc : Str), (textFrom k acc ts).length ≤ acc.length + piled ts
  | [], k, acc => by show acc.length ≤ acc.length + piled []; omega
  | t :: ts, k, acc => by
    have h := len_from ts (k + 1) (acc ++ (if k > 0 then ", " else "" : String) ++ t)
    rw [piled_cons]
    show (textFrom (k + 1) (acc ++ (if k > 0 then ", " else "" : String) ++ t) ts).length ≤ _
    rw [strLen_append, strLen_append] at h
    have e : ((if k > 0 then ", " else "" : String) : Str).length ≤ 2 := by split <;> decide
    omega
theorem len_int {i : Int} (h : i.natAbs.log2 < 1920) : (PyData.int i).shown.length ≤ 2000 := by
  rw [PyData.shown_int, ofString_length]
  exact Nat.le_trans (int_text_length_le (k := 1920) (by decide) h) (by decide)
mutual
/-- things whose showing is known: its size -/
def wtP : PyData → Nat
  | .none => 8
  | .bool _ => 8
  | .int _ => 2000
  | .str _ => 2000
  | .list l => 8 + wtPs l
  | .tuple l => 8 + wtPs l
  | .dict _ => 8
def wtPs : List PyData → Nat
  | [] => 0
  | d :: l => wtP d + 2 + wtPs l
end
mutual
def okP : PyData → Bool
  | .none => true
  | .bool _ => true
  | .int i => decide (i.natAbs.log2 < 1920)
  | .str x => decide ((reprText x).length ≤ 2000) && PyData.strOk (reprText x)
  | .list l => okPs l
  | .tuple l => okPs l
  | .dict l => l.isEmpty
def okPs : List PyData → Bool
  | [] => true
  | d :: l => okP d && okPs l
end
structure ShOk (d : PyData) : Prop where
  sh : d.showable = true
  len : d.shown.length ≤ wtP d
  ok : sOk d.shown
mutual
theorem shOk : ∀ {d : PyData}, okP d = true → ShOk d
  | .none, _ => ⟨rfl, by decide +kernel, by decide +kernel⟩
  | .bool b, _ => by cases b <;> exact ⟨rfl, by decide +kernel, by decide +kernel⟩
  | .int i, h => by
    have h2 : i.natAbs.log2 < 1920 := of_decide_eq_true (by simpa only [okP] using h)
    exact ⟨by simp only [PyData.showable]; exact decide_eq_true h2, by simp only [wtP]; exact len_int h2, sOk_int i⟩
  | .str x, h => by
    simp only [okP, Bool.and_eq_true, decide_eq_true_eq] at h
    refine ⟨by simp only [PyData.showable], ?_, ?_⟩
    · rw [PyData.shown_str]; simp only [wtP]; exact h.1
    · rw [PyData.shown_str]; exact h.2
  | .list l, h => by
    have h2 : okPs l = true := by simpa only [okP] using h
    obtain ⟨a, b, c⟩ := shOks h2
    refine ⟨by simp only [PyData.showable]; exact a, ?_, ?_⟩
    · have e : (PyData.list l).shown = listText (PyData.shownAll l) := by simp only [PyData.shown]
      rw [e]; unfold listText; rw [strLen_append]
      have := len_from (PyData.shownAll l) 0 "["
      have e1 : (("[" : String) : Str).length = 1 := rfl
      have e2 : (("]" : String) : Str).length = 1 := rfl
      simp only [wtP]; omega
    · have e : (PyData.list l).shown = listText (PyData.shownAll l) := by simp only [PyData.shown]
      rw [e]; exact sOk_app (sOk_from _ _ _ (by decide +kernel) c) (by decide +kernel)
  | .tuple l, h => by
    have h2 : okPs l = true := by simpa only [okP] using h
    obtain ⟨a, b, c⟩ := shOks h2
    have e : (PyData.tuple l).shown = tupleText (PyData.shownAll l) := by simp only [PyData.shown]
    refine ⟨by simp only [PyData.showable]; exact a, ?_, ?_⟩
    · rw [e]; unfold tupleText; rw [strLen_append, strLen_append]
      have := len_join (PyData.shownAll l)
      have e1 : (("(" : String) : Str).length = 1 := rfl
      have e2 : (((if (PyData.shownAll l).length == 1 then ",)" else ")" : String) : Str)).length ≤ 2 := by split <;> decide
      simp only [wtP]; omega
    · rw [e]; unfold tupleText
      exact sOk_app (sOk_app (by decide +kernel) (sOk_join _ c)) (by split <;> decide +kernel)
  | .dict l, h => by
    have : l = [] := by simpa [okP] using h
    subst this
    exact ⟨by simp [PyData.showable, PyData.showableKv], by decide +kernel, by decide +kernel⟩
theorem shOks : ∀ {l : List PyData}, okPs l = true → PyData.showableAll l = true ∧ piled (PyData.shownAll l) ≤ wtPs l ∧ ∀ t ∈ PyData.shownAll l, sOk t
  | [], _ => ⟨by simp only [PyData.showableAll], by simp [PyData.shownAll, piled, wtPs], by simp [PyData.shownAll]⟩
  | d :: l, h => by
    simp only [okPs, Bool.and_eq_true] at h
    obtain ⟨a, b, c⟩ := shOk h.1
    obtain ⟨a2, b2, c2⟩ := shOks h.2
    refine ⟨by simp only [PyData.showableAll, a, a2, Bool.and_self], ?_, ?_⟩
    · rw [PyData.shownAll_cons, piled_cons]; simp only [wtPs]; omega
    · rw [PyData.shownAll_cons]
      intro t ht
      rcases List.mem_cons.mp ht with rfl | ht
      · exact c
      · exact c2 t ht
end
/-- a thing that can be shown, and compared by what is shown -/
def RepD (d : D) (x : Str) : Prop := RepOk d x ∧ sOk x
theorem repD_of {d : D} {q : PyData} (hq : toR d = some q) (h : okP q = true) (h2 : q.depth ≤ 64) (h3 : wtP q ≤ 2 ^ 24) : ∃ x, RepD d x := by
  have s := shOk h
  have h4 := s.len
  have h5 : (2 : Nat) ^ 24 ≤ sizeLine := by decide
  exact ⟨q.shown, ⟨q, hq, s.sh, h2, Nat.le_trans h4 (Nat.le_trans h3 h5), rfl⟩, s.ok⟩
end Dl
section
open PySem PySem.Spec L2 Dl
local macro_rules | `(tactic| walk_at "s1") => `(tactic| first
  | with_reducible apply x_seq
  | with_reducible apply x_seq_nx
  | with_reducible apply x_seq_rt
  | with_reducible apply x_seq_bk
  | with_reducible apply x_seq_ct
  | with_reducible apply x_seq_ex
  | with_reducible apply x_loop_nx
  | with_reducible apply x_loop_ct
  | with_reducible apply x_loop_bk
  | with_reducible apply x_loop_rt
  | with_reducible apply x_loop_ex
  | with_reducible apply x_next
  | with_reducible apply x_ret
  | with_reducible apply x_retN
  | with_reducible apply x_break
  | with_reducible apply x_cont
  | with_reducible apply x_drop
  | with_reducible apply x_set
  | with_reducible apply x_setF
  | with_reducible apply x_if
  | with_reducible apply x_kIf1
  | with_reducible apply x_kIf0
  | with_reducible apply x_for
  | with_reducible apply x_parF
  | with_reducible apply x_asgT
  | with_reducible apply x_put
  | with_reducible apply x_fldPut
  | with_reducible apply x_c
  | with_reducible apply x_fz
  | with_reducible apply x_op1
  | with_reducible apply x_op2
  | with_reducible apply x_opL
  | with_reducible apply x_nil
  | with_reducible apply x_cons
  | with_reducible apply x_andV
  | with_reducible apply x_orV
  | with_reducible apply x_notV
  | with_reducible apply x_kNotV
  | with_reducible apply x_chain
  | with_reducible apply x_ifE
  | with_reducible apply x_test
  | with_reducible apply x_kTest
  | with_reducible apply x_not
  | with_reducible apply x_and
  | with_reducible apply x_or
  | with_reducible apply x_yes
  | with_reducible apply x_sl
  | with_reducible apply x_noPart
  | with_reducible apply x_part
  | with_reducible apply x_kPart
  | with_reducible apply x_slToM
  | with_reducible apply x_slFromM
  | with_reducible apply x_slFrom1
  | with_reducible apply x_slT
  | with_reducible apply x_callQ
  | with_reducible apply x_callE1
  | with_reducible apply x_callX
  | with_reducible apply x_make
  | with_reducible apply x_makeX
  | with_reducible apply x_methQ
  | with_reducible apply x_kM
  | with_reducible apply x_lstE
  | with_reducible apply x_lstF
  | with_reducible apply x_tupE
  | with_reducible apply x_rev
  | with_reducible apply x_lmP
  | with_reducible apply x_lvIx
  | with_reducible apply x_lcE
  | with_reducible apply x_gPut
  | with_reducible apply x_retX
  | with_reducible apply x_dropX
  | with_reducible apply x_setX
  | with_reducible apply x_setFX
  | with_reducible apply x_raise
  | with_reducible apply x_iSeq
  | with_reducible apply x_seqT
  | with_reducible apply x_iEnum
  | with_reducible apply x_kEnumT
  | with_reducible apply x_kEnum
  | with_reducible apply x_iZip
  | with_reducible apply x_kZipT
  | with_reducible apply x_iRg1
  | with_reducible apply x_iRg2
  | with_reducible apply x_gNil
  | with_reducible apply x_gCons
  | with_reducible apply x_lc
  | with_reducible apply x_eqN
  | with_reducible apply x_eqI
  | with_reducible apply x_neN
  | with_reducible apply x_neI
  | with_reducible apply x_ltN
  | with_reducible apply x_ltI
  | with_reducible apply x_leN
  | with_reducible apply x_leI
  | with_reducible apply x_gtN
  | with_reducible apply x_gtI
  | with_reducible apply x_geN
  | with_reducible apply x_geI
  | with_reducible apply x_addN
  | with_reducible apply x_addN1
  | with_reducible apply x_add1N
  | with_reducible apply x_addI
  | with_reducible apply x_subI
  | with_reducible apply x_neg
  | with_reducible apply x_notN
  | with_reducible apply x_isN
  | with_reducible apply x_isB
  | with_reducible apply x_inN
  | with_reducible apply x_inNL
  | with_reducible apply x_notInN
  | with_reducible apply x_notInNL
  | with_reducible apply x_lenTM
  | with_reducible apply x_lenLM
  | with_reducible apply x_lenT
  | with_reducible apply x_lenL
  | with_reducible apply x_intI
  | with_reducible apply x_absI
  | with_reducible apply x_tupleT
  | with_reducible apply x_all
  | with_reducible apply x_any
  | ((with_reducible apply x_name); exact rfl)
  | ((with_reducible apply x_lvN); exact rfl)
  | ((with_reducible apply x_fld); exact rfl)
  | ((with_reducible apply x_callI); exact rfl)
  | ((with_reducible apply x_callXI); exact rfl)
  | ((with_reducible apply x_gTup); exact rfl)
  | ((with_reducible apply x_gTupZ); exact rfl)
  | ((with_reducible apply x_gKey); exact rfl)
  | ((with_reducible apply x_gEn); exact rfl)
  | ((with_reducible apply x_move); exact rfl)
  | ((with_reducible apply x_fn_rt); exact rfl)
  | ((with_reducible apply x_fn_nx); exact rfl)
  | ((with_reducible apply x_fn_ex); exact rfl)
  | ((with_reducible apply x_kFz); first | exact rfl | assumption | simp only [isFz])
  | ((with_reducible apply x_isi); exact rfl)
  | ((with_reducible apply x_kSet); (focus (first | exact of_decide_eq_true rfl | simp)); walk_at "env")
  | ((with_reducible apply x_kSetF); (focus (first | exact of_decide_eq_true rfl | simp)); walk_at "env")
  | ((with_reducible apply x_gN); (focus (first | exact of_decide_eq_true rfl | simp)); walk_at "env")
  | ((with_reducible apply x_kParF); (focus (first | exact of_decide_eq_true rfl | simp)); (focus (first | exact of_decide_eq_true rfl | simp)); walk_at "env")
  | ((with_reducible apply x_seqL); (focus (walk_at "fz")))
  | ((with_reducible apply x_kEnumL); (focus (walk_at "fz")))
  | ((with_reducible apply x_slL); (focus (walk_at "fz")))
  | ((with_reducible apply x_listL); (focus (walk_at "fz")))
  | ((with_reducible apply x_listT); (focus (walk_at "fz")))
  | ((with_reducible apply x_tupleL); (focus (walk_at "fz")))
  | ((with_reducible apply x_tup); (focus (walk_at "fz")); (focus (walk_at "sz")))
  | ((with_reducible apply x_lst); (focus (walk_at "fz")); (focus (walk_at "sz")))
  | ((with_reducible apply x_key); (focus (walk_at "fz")); (focus (walk_at "sz")))
  | ((with_reducible apply x_kLE); (focus (walk_at "sz")); (try walk_at "env"))
  | ((with_reducible apply x_kLF); (focus (walk_at "sz")); (try walk_at "env"))
  | ((with_reducible apply x_kTE); (focus (walk_at "sz")); (try walk_at "env"))
  | ((with_reducible apply x_nameE); (focus (exact rfl)); (focus (exact rfl)))
  | ((with_reducible apply x_addT); (focus (walk_at "sz")))
  | ((with_reducible apply x_addL); (focus (walk_at "fz")); (focus (walk_at "fz")); (focus (walk_at "sz")))
  | ((with_reducible apply x_ixN); (focus (walk_at "lt"))) | ((with_reducible apply x_ixNL); (focus (walk_at "lt")))
  | ((with_reducible apply x_ix); (focus (first | exact ix_tup rfl | exact ix_lst rfl)))
  | ((with_reducible apply x_kRg1); (focus (walk_at "lt")))
  | ((with_reducible apply x_append); (focus (exact rfl)); (focus (walk_at "sz")); walk_at "env")
  | ((with_reducible apply x_kPutL); (focus (exact rfl)); (focus (exact rfl)); walk_at "env")
  | ((with_reducible apply x_pow); (focus (walk_at "cd")))
  | ((with_reducible apply x_kPutN); (focus (exact rfl)); (focus (walk_at "lt")); walk_at "env")
  | ((with_reducible apply x_kP1); (focus (exact rfl)))
  | ((with_reducible apply x_lm); (focus (exact rfl)); (focus (exact rfl)))
  | ((with_reducible apply x_mod); (focus (first | decide | omega))) | ((with_reducible apply x_fdiv); (focus (walk_at "cd"))) | ((with_reducible apply x_mul); (focus (walk_at "cd")))
  )
local macro_rules | `(tactic| walk_at "sx") => `(tactic| ((try walk_at "env"); repeat' (walk_at "s1")))
local macro_rules | `(tactic| walk_at "env") => `(tactic| simp only [List.map_cons, List.map_nil, List.cons_append, List.nil_append, List.replicate, List.set_cons_zero, List.set_cons_succ, wipeD, fz_int, fz_bl, fz_str, fz_non, fz_tup, fz_lst0, fz_nL, fz_dct0, fz_dct1, fz_obj0, fzIf_t, fzIf_f, Int.reduceToNat])
local macro_rules | `(tactic| walk_at "fz") => `(tactic| first | exact isFz_nL _ | exact rfl | exact isFz_ints _ | assumption | (simp only [List.all_cons, List.all_nil, Bool.and_true]; assumption) | (simp only [isFz, List.all_cons, List.all_nil, List.all_map, Bool.and_true]; done) | (simp [isFz]; done))
local macro_rules | `(tactic| walk_at "lt") => `(tactic| first | assumption | decide | omega | (simp only [List.length_map, List.length_set, List.length_append, List.length_cons, List.length_nil, List.length_range]; omega))
local macro_rules | `(tactic| walk_at "sz") => `(tactic| first | (refine Nat.le_trans ?_ sizeLine_ge20; first | decide | (simp only [List.length_map, List.length_cons, List.length_nil, List.length_append, List.length_take, List.length_drop, List.length_reverse, List.length_range, List.length_set]; omega)) | (refine Nat.lt_of_lt_of_le ?_ sizeLine_ge20; first | decide | (simp only [List.length_map, List.length_cons, List.length_nil, List.length_append, List.length_take, List.length_drop, List.length_reverse, List.length_range, List.length_set]; omega)))
local macro_rules | `(tactic| walk_at "cd") => `(tactic| first | omega | (apply And.intro <;> (first | decide | omega)) | (apply Or.inr; apply And.intro <;> (first | decide | omega)) | (apply Or.inl; apply And.intro <;> (first | decide | omega)))
namespace Dl
open PySem PySem.Spec L2
def isI : D → Bool
  | .int _ => true
  | _ => false
def isB (n : Int) : D → Bool
  | .int i => decide (0 ≤ i) && decide (i < n)
  | _ => false
def plB : D → Bool
  | .non => true
  | .bl _ => true
  | .int _ => true
  | .str _ => true
  | .tup _ => true
  | .lst _ _ => true
  | .dct _ _ => true
  | .dcT _ _ => true
  | _ => false
abbrev plainD (d : D) : Prop := plB d = true
theorem isi_int {d : D} (h : plainD d) : ∃ b, isiD d "int" = some b ∧ (∃ c, isiD d "bool" = some c ∧ (b && !c) = isI d) := by
  cases d <;> first | exact ⟨_, rfl, _, rfl, rfl⟩ | exact absurd h (by simp [plainD, plB])
theorem fz_cases (P : D → D → Prop) (d : D) (h0 : P d d) (h1 : ∀ l, P (.lst true l) (.lst false (frzL l))) (h2 : ∀ l, P (.dct true l) (.dct false (frzK l))) (h3 : ∀ l, P (.dcT true l) (.dcT false (frzT l))) (h4 : ∀ C ns l, P (.obj true C ns l) (.obj false C ns (frzL l))) : P d (fz d) := by
  cases d with
  | lst m l => cases m with | false => exact h0 | true => exact h1 l
  | dct m l => cases m with | false => exact h0 | true => exact h2 l
  | dcT m l => cases m with | false => exact h0 | true => exact h3 l
  | obj m C ns l => cases m with | false => exact h0 | true => exact h4 C ns l
  | _ => exact h0
theorem plB_fz (d : D) : plB (fz d) = plB d := fz_cases (fun d e => plB e = plB d) d rfl (fun _ => rfl) (fun _ => rfl) (fun _ => rfl) (fun _ _ _ => rfl)
theorem tyName_fz (d : D) : tyName (fz d) = tyName d := fz_cases (fun d e => tyName e = tyName d) d rfl (fun _ => rfl) (fun _ => rfl) (fun _ => rfl) (fun _ _ _ => rfl)
theorem isI_fz (d : D) : isI (fz d) = isI d := fz_cases (fun d e => isI e = isI d) d rfl (fun _ => rfl) (fun _ => rfl) (fun _ => rfl) (fun _ _ _ => rfl)
theorem isB_fz (n : Int) (d : D) : isB n (fz d) = isB n d := fz_cases (fun d e => isB n e = isB n d) d rfl (fun _ => rfl) (fun _ => rfl) (fun _ => rfl) (fun _ _ _ => rfl)
theorem okD_bl (ds : List D) (b : Bool) : okD ds (.bl b) = true := by unfold okD; simp [cleanD]
theorem okD_int (ds : List D) (i : Int) : okD ds (.int i) = true := by unfold okD; simp [cleanD]
def S_is_integer (_ : CA) : DSp := pureS fun ds r => ∃ d, ds = [d] ∧ plainD d ∧ r = .bl (isI d)
def S_is_below (_ : CA) : DSp := pureS fun ds r => ∃ d n, ds = [d, .int n] ∧ plainD d ∧ r = .bl (isB n d)
section
variable {ρ : DEnv} {K : DEnv → D → Prop} {d : D} {n : Int} {ca : CA}
theorem c_is_integer (h : plainD d) (q : K ρ (.bl (isI d))) : cQ 1 (S_is_integer ca) K ρ [d] := c_pure rfl ⟨_, rfl, by rw [plainD, plB_fz]; exact h, rfl⟩ (okD_bl _ _) (by rw [isI_fz]; exact q)
theorem c_is_below (h : plainD d) (q : K ρ (.bl (isB n d))) : cQ 2 (S_is_below ca) K ρ [d, .int n] := c_pure rfl ⟨_, _, rfl, by rw [plainD, plB_fz]; exact h, rfl⟩ (okD_bl _ _) (by rw [isB_fz]; exact q)
end
end Dl
namespace K02
open PySem PySem.Spec L2 Dl
theorem p_is_integer {ca : CA} {ds kk kx} (h : S_is_integer ca ds kk kx) : T_is_integer (fnEnds (pinP [0]) ds kk kx) (ds.map some ++ List.replicate 0 none) := by
  obtain ⟨r, ⟨d, rfl, hp, rfl⟩, hk⟩ := h
  obtain ⟨b, h1, c, h2, h3⟩ := isi_int hp
  unfold T_is_integer
  walk_at "sx"
  refine x_isi h1 ?_
  refine x_kAndVE (!c) ?_ ?_
  · intro _ Q q
    walk_at "sx"
    refine x_isi h2 ?_
    walk_at "sx"
    exact q
  · walk_at "sx"
    rw [h3]; exact hk
theorem p_is_below {ca : CA} {ds kk kx} (h : S_is_below ca ds kk kx) : T_is_below (S_is_integer ca) (fnEnds (pinP [0, 1]) ds kk kx) (ds.map some ++ List.replicate 0 none) := by
  obtain ⟨r, ⟨d, n, rfl, hp, rfl⟩, hk⟩ := h
  unfold T_is_below
  walk_at "sx"
  refine c_is_integer hp ?_
  refine x_kAndV (fun h => ?_) (fun h => ?_)
  · cases d with
    | int i =>
      walk_at "sx"
      refine x_kChainE (decide (i < n)) ?_ ?_
      · intro _ Q q
        walk_at "sx"
        exact q
      · walk_at "sx"
        exact hk
    | _ => cases h
  · walk_at "sx"
    have : isB n d = false := by cases d <;> first | rfl | cases h
    rw [this] at hk
    exact hk
end K02
namespace Dl
open PySem PySem.Spec L2
/-- wishes of a person that are some -/
def AreW (d : D) (p m : Nat) : Prop := ∃ ns : List Nat, d = tNat ns ∧ (∀ x ∈ ns, x < m) ∧ p ∉ ns ∧ ns.Nodup
def plainL (l : List D) : Prop := ∀ d ∈ l, plainD d
/-- a plain thing whose own things are plain, and not too many -/
def plain1 (d : D) : Prop := plainD d ∧ ∀ l, d = .tup l → plainL l ∧ l.length ≤ 4000
theorem isB_nats {m : Nat} : ∀ {l : List D}, l.all (isB m) = true → ∃ ns : List Nat, l = nL ns ∧ ∀ x ∈ ns, x < m
  | [], _ => ⟨[], rfl, fun _ h => (List.not_mem_nil h).elim⟩
  | d :: l, h => by
    rw [List.all_cons, Bool.and_eq_true] at h
    obtain ⟨ns, rfl, hn⟩ := isB_nats h.2
    cases d with
    | int i =>
      simp only [isB, Bool.and_eq_true, decide_eq_true_eq] at h
      refine ⟨i.toNat :: ns, ?_, fun x hx => ?_⟩
      · simp only [nL, List.map_cons]; congr 2; omega
      · rcases List.mem_cons.mp hx with rfl | hx
        · omega
        · exact hn x hx
    | _ => simp [isB] at h
theorem nats_isB {m : Nat} {ns : List Nat} (h : ∀ x ∈ ns, x < m) : (nL ns).all (isB m) = true := by
  rw [List.all_eq_true]
  intro d hd
  obtain ⟨x, hx, rfl⟩ := List.mem_map.mp hd
  have := h x hx
  simp [isB]; omega
def S_are_wishes (_ : CA) : DSp := pureS fun ds r => ∃ d p m b, ds = [d, .int (p : Nat), .int (m : Nat)] ∧ plain1 d ∧ (b = true ↔ AreW d p m) ∧ r = .bl b
theorem nL_inj : ∀ {a b : List Nat}, nL a = nL b → a = b
  | [], [], _ => rfl
  | [], _ :: _, h => by cases h
  | _ :: _, [], h => by cases h
  | x :: a, y :: b, h => by
    simp only [nL, List.map_cons, List.cons.injEq, D.int.injEq] at h
    rw [show x = y by omega, nL_inj h.2]
theorem o_lenSetN {l : List Nat} {F : D → Prop} (h : l.length ≤ 4000) (q : F (.int ((ddup (l.map fun (n : Nat) => (n : Int))).length : Nat))) : oLenSet (.tup (nL l)) F := by
  show (match intsD (nL l) with | some ns => ns.length ≤ 4000 ∧ F (.int ((ddup ns).length : Nat)) | none => False)
  rw [nL_iL, show intsD (iL (l.map fun (n : Nat) => (n : Int))) = some (l.map fun (n : Nat) => (n : Int)) from intsD_map _]
  exact ⟨by simpa using h, q⟩
theorem nodup_cast {l : List Nat} : (l.map fun (n : Nat) => (n : Int)).Nodup ↔ l.Nodup := by
  rw [List.nodup_iff_pairwise_ne, List.nodup_iff_pairwise_ne, List.pairwise_map]
  exact ⟨fun h => h.imp fun z e => z (by rw [e]), fun h => h.imp fun z e => z (by omega)⟩
end Dl
namespace K02
open PySem PySem.Spec L2 Dl
theorem p_are_wishes {ca : CA} {ds kk kx} (h : S_are_wishes ca ds kk kx) : T_are_wishes (S_is_below ca) (fnEnds (pinP [0, 1, 2]) ds kk kx) (ds.map some ++ List.replicate 1 none) := by
  obtain ⟨r, ⟨d, p, m, b, rfl, ⟨hp, hp1⟩, hb, rfl⟩, hk⟩ := h
  unfold T_are_wishes
  have no : ¬ AreW d p m → kk (.bl false) [d, .int (p : Nat), .int (m : Nat)] := fun n => by
    rw [show b = false by cases b with | true => exact absurd (hb.mp rfl) n | false => rfl] at hk; exact hk
  walk_at "sx"
  by_cases ht : ∃ l, d = .tup l
  · obtain ⟨l, rfl⟩ := ht
    obtain ⟨hpl, hll⟩ := hp1 l rfl
    walk_at "sx"
    refine x_kOr (fun _ => ?_) (fun h => by cases h)
    walk_at "sx"
    have e : l = l.map id := (List.map_id l).symm
    rw [e]
    refine lc_map (fun x => .bl (isB m x)) (by have := sizeLine_ge20; omega) (fun x hx Q q => ?_) ?_
    · walk_at "sx"
      exact c_is_below (hpl x hx) q
    rw [← e]
    walk_at "sx"
    refine x_kIf (fun h => ?_) (fun h => ?_)
    · walk_at "sx"
      refine no ?_
      rintro ⟨ns, e, h1, _⟩
      cases e
      rw [nats_isB h1] at h; cases h
    · simp only [Bool.not_eq_false'] at h
      obtain ⟨ns, rfl, hn⟩ := isB_nats h
      walk_at "sx"
      refine x_kAndVE (decide ns.Nodup) ?_ ?_
      · intro h1 Q q
        walk_at "sx"
        refine o_lenSetN (by simpa using hll) ?_
        walk_at "sx"
        have := length_ddup_iff (ns.map fun (n : Nat) => (n : Int))
        rw [show decide ((ddup (ns.map fun (n : Nat) => (n : Int))).length = ns.length) = decide ns.Nodup from by
          rw [Bool.eq_iff_iff, decide_eq_true_iff, decide_eq_true_iff, ← nodup_cast, ← this]; simp]
        exact q
      · walk_at "sx"
        have : (decide (p ∉ ns) && decide ns.Nodup) = b := by
          rw [Bool.eq_iff_iff, hb, Bool.and_eq_true, decide_eq_true_iff, decide_eq_true_iff]
          constructor
          · rintro ⟨a, c⟩; exact ⟨ns, rfl, hn, a, c⟩
          · rintro ⟨ms, e, _, a, c⟩
            cases nL_inj (D.tup.inj e)
            exact ⟨a, c⟩
        rw [this]; exact hk
  · refine x_isi (b := false) ?_ ?_
    · cases d <;> first | rfl | exact (ht ⟨_, rfl⟩).elim | exact absurd hp (by simp [plainD, plB])
    walk_at "sx"
    refine x_kOr (fun h => by cases h) (fun _ => ?_)
    walk_at "sx"
    exact no fun ⟨ns, e, _⟩ => ht ⟨_, e⟩
end K02
namespace Dl
open PySem PySem.Spec L2
/-- what holds ahead, what of the result -/
def relS (P : List D → Prop) (R : List D → D → Prop) : DSp := fun ds k _ => P ds ∧ ∀ r, R ds r → k r ds
theorem c_rel {P : List D → Prop} {R : List D → D → Prop} {ds : List D} {m : Nat} {K : DEnv → D → Prop} {ρ : DEnv} (hn : ds.length = m) (hp : P (ds.map fz)) (q : ∀ r, R (ds.map fz) r → okD ds r = true ∧ K ρ r) : cQ m (relS P R) K ρ ds := ⟨hn, hp, q⟩
theorem fz_plain {d : D} (h : isFz d = true) : fz d = d := by unfold fz; rw [h]
abbrev wishesD (W : List (List Nat)) : D := .tup (W.map tNat)
def rowW (W : List (List Nat)) (i : Nat) : List Nat := W.getD i []
theorem rowW_at {W : List (List Nat)} {i : Nat} (h : i < W.length) : W[i]? = some (rowW W i) := getD_some h
theorem x_ixW {W : List (List Nat)} {a : Nat} {F : D → Prop} (h : a < W.length) (q : F (tNat (rowW W a))) : oIx (.tup (W.map tNat)) (.int (a : Int)) F := x_ixM (rowW_at h) q
theorem wishesD_inj : ∀ {W V : List (List Nat)}, wishesD W = wishesD V → W = V
  | [], [], _ => rfl
  | [], _ :: _, h => by cases h
  | _ :: _, [], h => by cases h
  | a :: W, b :: V, h => by
    have e := D.tup.inj h
    simp only [List.map_cons, List.cons.injEq] at e
    rw [nL_inj (D.tup.inj e.1), wishesD_inj (congrArg D.tup e.2)]
/-- all rows are wishes -/
def RowsOk (W : List (List Nat)) : Prop := ∀ i, i < W.length → (∀ x ∈ rowW W i, x < W.length) ∧ i ∉ rowW W i ∧ (rowW W i).Nodup
def BackOk (W : List (List Nat)) (i : Nat) : Prop := ∀ x ∈ rowW W i, i ∈ rowW W x
/-- wishes that a table takes -/
structure OkW (W : List (List Nat)) : Prop where
  pos : 1 ≤ W.length
  top : W.length ≤ 30
  rows : RowsOk W
  back : ∀ i, i < W.length → BackOk W i
/-- the first person whose wishes are none -/
def FB (d r : D) : Prop := (r = .int (-1) ∧ ¬ ∃ l, d = .tup l ∧ 1 ≤ l.length ∧ l.length ≤ 30) ∨
  (∃ l i d', d = .tup l ∧ 1 ≤ l.length ∧ l.length ≤ 30 ∧ r = nD i ∧ l[i]? = some d' ∧ ¬ AreW d' i l.length ∧ ∀ j e, j < i → l[j]? = some e → AreW e j l.length) ∨
  (∃ W i, d = wishesD W ∧ 1 ≤ W.length ∧ W.length ≤ 30 ∧ RowsOk W ∧ i < W.length ∧ r = nD i ∧ ¬ BackOk W i ∧ ∀ j, j < i → BackOk W j) ∨
  (∃ W, d = wishesD W ∧ OkW W ∧ r = .non)
def plain2 (d : D) : Prop := plainD d ∧ ∀ l, d = .tup l → ∀ e ∈ l, plain1 e ∧ isFz e = true
def S_first_bad (_ : CA) : DSp := relS (fun ds => ∃ d, ds = [d] ∧ plain2 d) fun ds r => ∃ d, ds = [d] ∧ FB d r
theorem c_are_wishes {ρ : DEnv} {K : DEnv → D → Prop} {d : D} {p m : Nat} {ca : CA} (h : plain1 d) (hz : isFz d = true) (q : ∀ b, (b = true ↔ AreW d p m) → K ρ (.bl b)) : cQ 3 (S_are_wishes ca) K ρ [d, .int (p : Nat), .int (m : Nat)] := by
  by_cases z : AreW d p m
  · exact c_pure rfl ⟨d, p, m, true, by simp only [List.map_cons, List.map_nil, fz_plain hz, fz_int], h, by simp [z], rfl⟩ (okD_bl _ _) (q _ (by simp [z]))
  · exact c_pure rfl ⟨d, p, m, false, by simp only [List.map_cons, List.map_nil, fz_plain hz, fz_int], h, by simp [z], rfl⟩ (okD_bl _ _) (q _ (by simp [z]))
theorem Nodup_le {l : List Nat} {n : Nat} (h : l.Nodup) (b : ∀ x ∈ l, x < n) : l.length ≤ n := by
  have h2 : l.length ≤ (List.range n).length := List.Nodup.length_le_of_subset h fun x hx => List.mem_range.mpr (b x hx)
  simpa using h2
theorem enumD_id (l : List D) : enumD 0 l = (enL 0 l).map (enC fun d => d) := by
  have := enumD_enL (fun d => d) l 0
  rwa [List.map_id'] at this
theorem rows_map : ∀ (l : List D) (n m : Nat), (∀ i d, l[i]? = some d → AreW d (n + i) m) → ∃ W : List (List Nat), l = W.map tNat ∧ ∀ i, i < W.length → (∀ x ∈ rowW W i, x < m) ∧ (n + i) ∉ rowW W i ∧ (rowW W i).Nodup
  | [], n, m, _ => ⟨[], rfl, fun i h => by simp at h⟩
  | d :: l, n, m, h => by
    obtain ⟨ns, rfl, h1, h2, h3⟩ := h 0 d rfl
    obtain ⟨W, rfl, hW⟩ := rows_map l (n + 1) m fun i e he => by
      have := h (i + 1) e he
      rwa [show n + (i + 1) = n + 1 + i by omega] at this
    refine ⟨ns :: W, rfl, fun i hi => ?_⟩
    cases i with
    | zero => exact ⟨h1, h2, h3⟩
    | succ i =>
      have := hW i (by simpa using hi)
      rw [show n + 1 + i = n + (i + 1) by omega] at this
      exact this
end Dl
namespace K02
open PySem PySem.Spec L2 Dl
theorem p_first_bad {ca : CA} {ds kk kx} (h : S_first_bad ca ds kk kx) : T_first_bad (S_are_wishes ca) (fnEnds (pinP [0]) ds kk kx) (ds.map some ++ List.replicate 3 none) := by
  obtain ⟨⟨d, rfl, hp, hp2⟩, hk⟩ := h
  replace hk : ∀ r, FB d r → kk r [d] := fun r h => hk r ⟨d, rfl, h⟩
  unfold T_first_bad
  walk_at "sx"
  by_cases ht : ∃ l, d = .tup l
  case neg =>
    refine x_isi (b := false) (by cases d <;> first | rfl | exact (ht ⟨_, rfl⟩).elim | exact absurd hp (by simp [plainD, plB])) ?_
    walk_at "sx"
    refine x_kOr (fun h => by cases h) (fun _ => ?_)
    walk_at "sx"
    exact hk _ (.inl ⟨rfl, fun ⟨l, h, _⟩ => ht ⟨l, h⟩⟩)
  obtain ⟨l, rfl⟩ := ht
  have hp2 := hp2 l rfl
  walk_at "sx"
  refine x_kOr (fun _ => ?_) (fun h => by cases h)
  walk_at "sx"
  refine x_kChainE (decide ((l.length : Int) ≤ 30)) ?_ ?_
  · intro h1 Q q
    walk_at "sx"
    exact q
  walk_at "sx"
  refine x_kIf (fun h => ?_) (fun h => ?_)
  · walk_at "sx"
    refine hk _ (.inl ⟨rfl, ?_⟩)
    rintro ⟨l', e, h1, h2⟩
    cases e
    simp at h; omega
  simp only [Bool.not_eq_false', Bool.and_eq_true, decide_eq_true_eq] at h
  have h1 : 1 ≤ l.length := by omega
  have h2 : l.length ≤ 30 := by omega
  walk_at "sx"
  rw [enumD_id]
  refine for_nat (fun i ρ => (∃ a b, ρ = [some (.tup l), a, b, none]) ∧ ∀ j e, j < i → l[j]? = some e → AreW e j l.length) ⟨⟨none, none, rfl⟩, fun _ _ h => by omega⟩ ?_ ?_
  · rintro i ⟨a, d'⟩ ρ hi ⟨⟨a1, b1, rfl⟩, hA⟩ N hN
    rw [enL_get] at hi
    cases e2 : l[i]? with
    | none => rw [e2] at hi; cases hi
    | some d2 =>
    rw [e2] at hi
    simp only [Option.map_some, Option.some.injEq, Prod.mk.injEq, Nat.zero_add] at hi
    obtain ⟨rfl, rfl⟩ := hi
    have hd := hp2 d2 (List.mem_of_getElem? e2)
    walk_at "sx"
    refine c_are_wishes hd.1 hd.2 fun b hb => ?_
    walk_at "sx"
    refine x_kIf (fun h => ?_) (fun h => ?_)
    · walk_at "sx"
      refine hk _ (.inr (.inl ⟨l, i, d2, rfl, h1, h2, rfl, e2, ?_, hA⟩))
      intro z; rw [hb.mpr z] at h; cases h
    · walk_at "sx"
      refine hN _ ⟨⟨_, _, rfl⟩, fun j e hj he => ?_⟩
      by_cases hji : j = i
      · subst hji
        rw [e2] at he; cases he
        exact hb.mp (by simpa using h)
      · exact hA j e (by omega) he
  rw [enL_length]
  rintro ρ ⟨⟨a, b, rfl⟩, hA⟩
  obtain ⟨W, hW, hr⟩ := rows_map l 0 l.length fun i d h => by
    have := hA i d (List.getElem?_eq_some_iff.mp h).1 h
    rwa [Nat.zero_add]
  subst hW
  rw [List.length_map] at h1 h2
  simp only [List.length_map, Nat.zero_add] at hr
  walk_at "sx"
  refine for_nat (fun i ρ => (∃ a b, ρ = [some (.tup (W.map tNat)), a, b, none]) ∧ ∀ j, j < i → BackOk W j) ⟨⟨_, _, rfl⟩, fun _ h => by omega⟩ ?_ ?_
  · rintro i ⟨a, r⟩ ρ hi ⟨⟨a1, b1, rfl⟩, hB⟩ N hN
    rw [enL_get] at hi
    cases e2 : W[i]? with
    | none => rw [e2] at hi; cases hi
    | some r2 =>
    rw [e2] at hi
    simp only [Option.map_some, Option.some.injEq, Prod.mk.injEq, Nat.zero_add] at hi
    obtain ⟨rfl, rfl⟩ := hi
    have hl : i < W.length := (List.getElem?_eq_some_iff.mp e2).1
    have er : rowW W i = r2 := by rw [rowW_at hl] at e2; exact Option.some.inj e2
    subst er
    have hri := hr i hl
    walk_at "sx"
    have hlen : (rowW W i).length ≤ 30 := Nat.le_trans (Nodup_le hri.2.2 hri.1) h2
    refine lc_map (fun x => .bl (decide (i ∈ rowW W x))) (by have := sizeLine_ge20; omega) (fun x hx Q q => ?_) ?_
    · walk_at "sx"
      refine x_ixW (hri.1 x hx) ?_
      walk_at "sx"
      exact q
    walk_at "sx"
    refine x_kIf (fun h => ?_) (fun h => ?_)
    · walk_at "sx"
      refine hk _ (.inr (.inr (.inl ⟨W, i, rfl, h1, h2, hr, hl, rfl, ?_, hB⟩)))
      intro z
      have : (rowW W i).all (fun x => decide (i ∈ rowW W x)) = true := List.all_eq_true.mpr fun x hx => by simpa using z x hx
      rw [this] at h; cases h
    · walk_at "sx"
      refine hN _ ⟨⟨_, _, rfl⟩, fun j hj => ?_⟩
      by_cases hji : j = i
      · subst hji
        intro x hx
        simp only [Bool.not_eq_false'] at h
        simpa using List.all_eq_true.mp h x hx
      · exact hB j (by omega)
  rw [enL_length]
  rintro ρ ⟨⟨a, b, rfl⟩, hB⟩
  walk_at "sx"
  exact hk _ (.inr (.inr (.inr ⟨W, rfl, ⟨h1, h2, hr, fun i h => hB i h⟩, rfl⟩)))
end K02
namespace Dl
open PySem PySem.Spec L2
/-! ### dict comprehensions -/
theorem x_dc {ρ : DEnv} {K : DEnv → D → Prop} {I : DIt} {g : DTg} {t : TTd} {tk tv : ET} {own : List Nat} (h : I ρ fun ρ1 ds => compDc g t tk tv (wipeD ρ1 own) (K ρ1) ds) : dDc I g t tk tv own ρ K := h
theorem putKD_new {κ : Type} [DecidableEq κ] {l : List (κ × D)} {k : κ} {e : D} (h : k ∉ l.map (·.1)) : putKD l k e = l ++ [(k, e)] := by
  unfold putKD
  rw [if_neg]
  rw [List.any_eq_true]
  rintro ⟨p, hp, e⟩
  exact h (List.mem_map.mpr ⟨p, hp, of_decide_eq_true e⟩)
/-- its keys told apart -/
theorem dc_map {α : Type} {ρb : DEnv} {F : D → Prop} {g : DTg} {tk tv : ET} {xs : List α} {enc : α → D} (kd : α → D) (key : α → Key) (val : α → D) (hlen : xs.length ≤ sizeLine) (hn : (xs.map key).Nodup)
    (hk : ∀ x ∈ xs, keyD (kd x) = some (key x)) (hz : ∀ x ∈ xs, isFz (val x) = true)
    (hs : ∀ x ∈ xs, ∀ Q : D → D → Prop, Q (kd x) (val x) → g (enc x) ρb fun ρ1 => tk ρ1 fun _ y => tv ρ1 fun _ z => Q y z) (hq : F (.dct true (xs.map fun x => (key x, val x)))) : compDc g dYes tk tv ρb F (xs.map enc) := by
  refine ⟨fun acc r => ∃ p s, xs = p ++ s ∧ r = s.map enc ∧ acc = p.map fun x => (key x, val x), ⟨[], xs, rfl, rfl, rfl⟩, ?_, ?_⟩
  · rintro acc d r ⟨p, s, e, e2, e3⟩
    cases s with
    | nil => cases e2
    | cons x s =>
      injection e2 with e4 e5
      have hx : x ∈ xs := by rw [e]; simp
      have hl : xs.length = p.length + (s.length + 1) := by rw [e, List.length_append, List.length_cons]
      subst e4
      refine hs x hx (fun y z => match keyD y with
        | some key => acc.length < sizeLine ∧ isFz z = true ∧ _
        | none => False) ?_
      rw [hk x hx]
      refine ⟨by rw [e3, List.length_map]; omega, hz x hx, p ++ [x], s, by rw [e, List.append_assoc]; rfl, e5, ?_⟩
      rw [putKD_new, e3, List.map_append]; rfl
      rw [e3, List.map_map]
      rw [e, List.map_append, List.map_cons] at hn
      intro hc
      exact (List.nodup_append.mp hn).2.2 _ hc _ (List.mem_cons_self) rfl
  · rintro acc ⟨p, s, e, e2, e3⟩
    cases s with
    | nil => rw [List.append_nil] at e; subst e; rw [e3]; exact hq
    | cons x s => cases e2
/-! ### tables -/
/-- ranks: by a person, its place -/
def rkL (r : List Nat) : List (Key × D) := (enL 0 r).map fun p => (Sum.inl (p.2 : Int), nD p.1)
/-- the wishes of a person, itself behind -/
def rowP (W : List (List Nat)) (i : Nat) : List Nat := rowW W i ++ [i]
def ranksL (m : Bool) (W : List (List Nat)) : List D := (enL 0 W).map fun p => D.dct m (rkL (p.2 ++ [p.1]))
def tableD (ca : CA) (m : Bool) (W : List (List Nat)) : D := .obj m ca.Table ["wishes", "ranks"] [wishesD W, .lst m (ranksL m W)]
theorem frz_table (ca : CA) (W : List (List Nat)) : frz (tableD ca true W) = tableD ca false W := by
  unfold tableD
  simp only [frz, frzL, wishesD, frzL_eq, ranksL, List.map_map]
  congr 4
  refine List.map_congr_left fun i _ => ?_
  show frz (D.dct true _) = D.dct false _
  simp only [frz, frzK_eq, rkL, List.map_map]
  congr 1
theorem isFz_table (ca : CA) (W : List (List Nat)) : isFz (tableD ca false W) = true := rfl
theorem fz_tableF (ca : CA) (W : List (List Nat)) : fz (tableD ca false W) = tableD ca false W := rfl
theorem fz_tableT (ca : CA) (W : List (List Nat)) : fz (tableD ca true W) = tableD ca false W := frz_table ca W
theorem keys_rk (r : List Nat) : ((enL 0 r).map fun p => (Sum.inl (p.2 : Int) : Key)) = r.map fun (x : Nat) => Sum.inl (x : Int) := by
  have : ∀ (r : List Nat) (n : Nat), ((enL n r).map fun p => (Sum.inl (p.2 : Int) : Key)) = r.map fun (x : Nat) => Sum.inl (x : Int) := fun r => by
    induction r with
    | nil => intro n; rfl
    | cons x r ih => intro n; simp only [enL, List.map_cons, ih]
  exact this r 0
theorem keys_nodup {l : List Nat} (h : l.Nodup) : (l.map fun (x : Nat) => (Sum.inl (x : Int) : Key)).Nodup := by
  rw [List.nodup_iff_pairwise_ne, List.pairwise_map]
  exact h.imp fun {a b} hab hc => hab (by have := Sum.inl.inj hc; omega)
theorem OkW.rowP {W : List (List Nat)} (o : OkW W) {i : Nat} (h : i < W.length) : (Dl.rowP W i).Nodup := by
  obtain ⟨_, h2, h3⟩ := o.rows i h
  exact List.nodup_append.mpr ⟨h3, by simp, fun a ha b hb e => by simp at hb; subst hb; subst e; exact h2 ha⟩
theorem OkW.lt {W : List (List Nat)} (o : OkW W) {i x : Nat} (h : i < W.length) (hx : x ∈ rowW W i) : x < W.length := (o.rows i h).1 x hx
theorem OkW.ne {W : List (List Nat)} (o : OkW W) {i x : Nat} (h : i < W.length) (hx : x ∈ rowW W i) : x ≠ i := fun e => (o.rows i h).2.1 (e ▸ hx)
theorem OkW.sym {W : List (List Nat)} (o : OkW W) {i x : Nat} (h : i < W.length) (hx : x ∈ rowW W i) : i ∈ rowW W x := o.back i h x hx
theorem OkW.len {W : List (List Nat)} (o : OkW W) {i : Nat} (h : i < W.length) : (rowW W i).length ≤ 30 := Nat.le_trans (Nodup_le (o.rows i h).2.2 (o.rows i h).1) o.top
/-- the rank of another for a person: its place; of itself how many there are -/
def rk (W : List (List Nat)) (p x : Nat) : Nat := (rowP W p).idxOf x
theorem lookK_rk : ∀ (r : List Nat) (n x : Nat), x ∈ r → lookK ((enL n r).map fun p => ((Sum.inl (p.2 : Int) : Key), nD p.1)) (Sum.inl (x : Int)) = some (nD (n + r.idxOf x))
  | [], n, x, h => by cases h
  | y :: r, n, x, h => by
    unfold lookK
    simp only [enL, List.map_cons, List.find?_cons]
    by_cases e : y = x
    · subst e; simp
    · have e2 : decide ((Sum.inl (y : Int) : Key) = Sum.inl (x : Int)) = false := by simp; omega
      rw [e2]
      have hx : x ∈ r := by
        rcases List.mem_cons.mp h with z | z
        · exact absurd z.symm e
        · exact z
      have := lookK_rk r (n + 1) x hx
      unfold lookK at this
      dsimp only
      rw [this]
      have e3 : (y == x) = false := by simpa using e
      rw [List.idxOf_cons, e3]
      simp only [cond_false]
      congr 2; omega
theorem lookK_none : ∀ (r : List Nat) (n x : Nat), x ∉ r → lookK ((enL n r).map fun p => ((Sum.inl (p.2 : Int) : Key), nD p.1)) (Sum.inl (x : Int)) = none
  | [], n, x, h => rfl
  | y :: r, n, x, h => by
    unfold lookK
    simp only [enL, List.map_cons, List.find?_cons]
    have e2 : decide ((Sum.inl (y : Int) : Key) = Sum.inl (x : Int)) = false := by
      simp; intro e; exact h (by rw [show x = y by omega]; simp)
    rw [e2]
    have := lookK_none r (n + 1) x fun z => h (List.mem_cons_of_mem _ z)
    unfold lookK at this
    exact this
theorem ixD_rk {r : List Nat} {m : Bool} {x : Nat} (h : x ∈ r) : ixD (.dct m (rkL r)) (.int (x : Int)) = some (nD (r.idxOf x)) := by
  show (getD (.dct m (rkL r)) (.int (x : Int))).join = _
  show (some (lookK (rkL r) (.inl (x : Int)))).join = _
  unfold rkL
  rw [lookK_rk r 0 x h, Nat.zero_add]; rfl
theorem x_ixRk {r : List Nat} {m : Bool} {x : Nat} {F : D → Prop} (h : x ∈ r) (q : F (nD (r.idxOf x))) : oIx (.dct m (rkL r)) (.int (x : Int)) F := o_ix (ixD_rk h) _ q
theorem inB_rk {r : List Nat} {m : Bool} {x : Nat} : inB (.int (x : Int)) (.dct m (rkL r)) = some (decide (x ∈ r)) := by
  show (some (lookK (rkL r) (.inl (x : Int)))).map (·.isSome) = _
  unfold rkL
  by_cases h : x ∈ r
  · rw [lookK_rk r 0 x h]; simp [h]
  · rw [lookK_none r 0 x h]; simp [h]
theorem x_inRk {r : List Nat} {m : Bool} {x : Nat} {F : D → Prop} (q : F (.bl (decide (x ∈ r)))) : oIn (.int (x : Int)) (.dct m (rkL r)) F := by
  show optK _ F; rw [inB_rk]; exact q
theorem x_notInRk {r : List Nat} {m : Bool} {x : Nat} {F : D → Prop} (q : F (.bl (decide (x ∉ r)))) : oNotIn (.int (x : Int)) (.dct m (rkL r)) F := by
  show optK _ F; rw [inB_rk]; show F (.bl (!decide (x ∈ r))); simpa using q
theorem x_ixRks {W : List (List Nat)} {m mm : Bool} {x : Nat} {F : D → Prop} (h : x < W.length) (q : F (.dct m (rkL (rowP W x)))) : oIx (.lst mm (ranksL m W)) (.int (x : Int)) F := by
  refine x_ixML (f := fun p : Nat × List Nat => D.dct m (rkL (p.2 ++ [p.1]))) (y := (x, rowW W x)) ?_ q
  rw [enL_get, rowW_at h]; simp
def S_Table_zz_initzz_ (ca : CA) : DSp := fun ds k _ => ∃ W, ds = [.obj true ca.Table [] [], wishesD W] ∧ OkW W ∧ k .non [tableD ca true W, wishesD W]
def S_Table_many (ca : CA) : DSp := pureS fun ds r => ∃ W, ds = [tableD ca false W] ∧ r = nD W.length
def S_Table_is_dearer (ca : CA) : DSp := pureS fun ds r => ∃ W p x y, ds = [tableD ca false W, nD p, nD x, nD y] ∧ p < W.length ∧ x ∈ rowP W p ∧ y ∈ rowP W p ∧ r = .bl (decide (rk W p x < rk W p y))
section
variable {ca : CA} {W : List (List Nat)} {ρ : DEnv} {K : DEnv → D → Prop} {kx : Value → List (Str × D) → DEnv → Prop} {m : Bool} {p x y : Nat} {d : D} {F : D → Prop}
theorem FB_ok (o : OkW W) {r : D} (h : FB (wishesD W) r) : r = .non := by
  have hl : (W.map tNat).length = W.length := List.length_map _
  rcases h with ⟨_, n⟩ | ⟨l, i, d', e, _, _, _, hi, hn, _⟩ | ⟨W', i, e, _, _, hr, hi, _, hn, _⟩ | ⟨W', _, _, e⟩
  · exact absurd ⟨_, rfl, by rw [hl]; exact o.pos, by rw [hl]; exact o.top⟩ n
  · cases D.tup.inj e
    rw [List.getElem?_map] at hi
    have hlt : i < W.length := by
      rcases Nat.lt_or_ge i W.length with z | z
      · exact z
      · rw [List.getElem?_eq_none z] at hi; cases hi
    rw [rowW_at hlt] at hi
    simp only [Option.map_some, Option.some.injEq] at hi
    subst hi
    rw [hl] at hn
    exact absurd ⟨_, rfl, o.rows i hlt⟩ hn
  · have : W = W' := wishesD_inj e
    subst this
    exact absurd (o.back i hi) hn
  · exact e
theorem plain_wishes (W : List (List Nat)) (h : ∀ r ∈ W, r.length ≤ 4000) : plain2 (wishesD W) := by
  refine ⟨rfl, fun l e d hd => ?_⟩
  cases D.tup.inj e
  obtain ⟨r, hr, rfl⟩ := List.mem_map.mp hd
  refine ⟨⟨rfl, fun l e => ?_⟩, rfl⟩
  cases D.tup.inj e
  refine ⟨fun d hd => ?_, by simpa using h r hr⟩
  obtain ⟨x, _, rfl⟩ := List.mem_map.mp hd
  rfl
theorem OkW.plain (o : OkW W) : plain2 (wishesD W) := plain_wishes W fun r hr => by
  obtain ⟨i, hi, rfl⟩ := List.mem_iff_getElem.mp hr
  have := o.len hi
  unfold rowW at this
  rw [List.getD_eq_getElem?_getD, List.getElem?_eq_getElem hi] at this
  exact Nat.le_trans this (by decide)
theorem c_many (q : K ρ (nD W.length)) (hd : fz d = tableD ca false W) : cQ 1 (S_Table_many ca) K ρ [d] := c_pure rfl ⟨W, by rw [List.map_cons, hd]; rfl, rfl⟩ (okD_int _ _) q
theorem c_is_dearer (hp : p < W.length) (hx : x ∈ rowP W p) (hy : y ∈ rowP W p) (q : K ρ (.bl (decide (rk W p x < rk W p y)))) (hd : fz d = tableD ca false W) : cQ 4 (S_Table_is_dearer ca) K ρ [d, nD p, nD x, nD y] :=
  c_pure rfl ⟨W, p, x, y, by rw [List.map_cons, hd]; rfl, hp, hx, hy, rfl⟩ (okD_bl _ _) q
theorem x_tWishes (q : F (wishesD W)) : oFld ca.Table ["wishes", "ranks"] 0 (tableD ca m W) F := x_fld rfl q
theorem x_tRanks (q : F (.lst m (ranksL m W))) : oFld ca.Table ["wishes", "ranks"] 1 (tableD ca m W) F := x_fld rfl q
theorem x_kMt {n : Nat} {S : DSp} {Tl : LT} (h : Tl ρ fun ρ2 es => cQ n S K ρ2 (tableD ca m W :: es)) : kM ca.Table ["wishes", "ranks"] n S Tl K ρ (tableD ca m W) := ⟨⟨rfl, rfl⟩, h⟩
end
end Dl
namespace K02
open PySem PySem.Spec L2 Dl
theorem p_Table_zz_initzz_ {ca : CA} {ds kk kx} (h : S_Table_zz_initzz_ ca ds kk kx) : T_Table_zz_initzz_ ca.Table (S_first_bad ca) (fnEnds (pinP [0, 1]) ds kk kx) (ds.map some ++ List.replicate 4 none) := by
  obtain ⟨W, rfl, o, hk⟩ := h
  have h20 := sizeLine_ge20
  have ht := o.top
  unfold T_Table_zz_initzz_
  walk_at "sx"
  refine c_rel rfl ⟨_, rfl, o.plain⟩ fun r hr => ?_
  obtain ⟨_, hr1, hr⟩ := hr
  cases hr1
  cases FB_ok o hr
  refine ⟨rfl, ?_⟩
  walk_at "sx"
  refine x_kIf (fun h => by cases h) (fun _ => ?_)
  walk_at "sx"
  refine x_pFldN (by simp) (by simp) (x_putD0 rfl ?_)
  walk_at "sx"
  refine lc_map (fun p : Nat × List Nat => D.dct true (rkL (p.2 ++ [p.1]))) (xs := enL 0 W) (by rw [enL_length]; omega) ?_ ?_
  · rintro ⟨i, r⟩ hi Q q
    have hi := mem_enL.mp hi
    have hl : i < W.length := (List.getElem?_eq_some_iff.mp hi).1
    have er : rowW W i = r := by rw [rowW_at hl] at hi; exact Option.some.inj hi
    have hn := o.rowP hl
    have hlen := o.len hl
    unfold rowP at hn
    rw [er] at hn hlen
    walk_at "sx"
    refine x_dc ?_
    walk_at "sx"
    rw [show nL r ++ [D.int (i : Int)] = nL (r ++ [i]) from by simp [nL], enumD_enL]
    refine dc_map (fun p => nD p.2) (fun p => Sum.inl (p.2 : Int)) (fun p => nD p.1) (xs := enL 0 (r ++ [i])) (by rw [enL_length, List.length_append]; simp; omega) (by rw [keys_rk]; exact keys_nodup hn) (fun _ _ => rfl) (fun _ _ => rfl) ?_ ?_
    · rintro ⟨j, x⟩ hj Q q
      walk_at "sx"
      exact q
    · exact q
  walk_at "sx"
  refine x_pFldN (by simp) (by decide) (x_putD0 rfl ?_)
  walk_at "sx"
  exact hk
theorem p_Table_many {ca : CA} {ds kk kx} (h : S_Table_many ca ds kk kx) : T_Table_many ca.Table (fnEnds (pinP [0]) ds kk kx) (ds.map some ++ List.replicate 0 none) := by
  obtain ⟨r, ⟨W, rfl, rfl⟩, hk⟩ := h
  unfold T_Table_many
  walk_at "sx"
  refine x_tWishes ?_
  unfold wishesD
  walk_at "sx"
  exact hk
theorem p_Table_is_dearer {ca : CA} {ds kk kx} (h : S_Table_is_dearer ca ds kk kx) : T_Table_is_dearer ca.Table (fnEnds (pinP [0, 1, 2, 3]) ds kk kx) (ds.map some ++ List.replicate 0 none) := by
  obtain ⟨r, ⟨W, p, x, y, rfl, hp, hx, hy, rfl⟩, hk⟩ := h
  unfold T_Table_is_dearer
  walk_at "sx"
  refine x_tRanks ?_
  walk_at "sx"
  refine x_ixRks hp ?_
  walk_at "sx"
  refine x_ixRk hx ?_
  walk_at "sx"
  refine x_tRanks ?_
  walk_at "sx"
  refine x_ixRks hp ?_
  walk_at "sx"
  refine x_ixRk hy ?_
  walk_at "sx"
  exact hk
end K02
namespace Dl
open PySem PySem.Spec L2
/-! ### pairings -/
structure PairL (W : List (List Nat)) (p : List Nat) : Prop where
  len : p.length = W.length
  lt : ∀ i, i < W.length → p.getD i 0 < W.length
  ok : ∀ i, i < W.length → p.getD i 0 ∈ rowP W i
  inv : ∀ i, i < W.length → p.getD (p.getD i 0) 0 = i
def PairD (W : List (List Nat)) (d : D) : Prop := ∃ p, d = tNat p ∧ PairL W p
/-- the two break the pairing -/
def brk (W : List (List Nat)) (p : List Nat) (i x : Nat) : Prop := rk W i x < rk W i (p.getD i 0) ∧ rk W x i < rk W x (p.getD x 0)
instance (W p i x) : Decidable (brk W p i x) := inferInstanceAs (Decidable (_ ∧ _))
/-- the pairs that break it, the lesser first -/
def brkL (W : List (List Nat)) (p : List Nat) : List (Nat × Nat) := (List.range W.length).flatMap fun i => ((List.range W.length).filter fun x => decide (x ∈ rowW W i ∧ i < x ∧ brk W p i x)).map fun x => (i, x)
def prN (q : Nat × Nat) : D := .tup [nD q.1, nD q.2]
def S_is_pairing (ca : CA) : DSp := relS (fun ds => ∃ W d, ds = [tableD ca false W, d] ∧ OkW W ∧ plain1 d) fun ds r => ∃ W d b, ds = [tableD ca false W, d] ∧ (b = true ↔ PairD W d) ∧ r = .bl b
def S_raw_breaking (ca : CA) : DSp := pureS fun ds r => ∃ W p, ds = [tableD ca false W, tNat p] ∧ OkW W ∧ PairL W p ∧ r = .tup ((brkL W p).map prN)
def S_is_stable (ca : CA) : DSp := relS (fun ds => ∃ W d, ds = [tableD ca false W, d] ∧ OkW W ∧ plain1 d) fun ds r => ∃ W d b, ds = [tableD ca false W, d] ∧ (b = true ↔ ∃ p, d = tNat p ∧ PairL W p ∧ brkL W p = []) ∧ r = .bl b
def S_breaking (ca : CA) : DSp := fun ds kk kx => ∃ W d, ds = [tableD ca false W, d] ∧ OkW W ∧ plain1 d ∧ (∀ p, d = tNat p → PairL W p → kk (.tup ((brkL W p).map prN)) ds) ∧ (¬ PairD W d → kx (.ref ca.NoPairing) [] ds)
theorem tableD_inj {ca : CA} {m m' : Bool} {W V : List (List Nat)} (h : tableD ca m W = tableD ca m' V) : W = V := by
  unfold tableD at h
  injection h with _ _ _ h
  injection h with h _
  exact wishesD_inj h
section
variable {ca : CA} {W : List (List Nat)} {ρ : DEnv} {K : DEnv → D → Prop} {kx : Value → List (Str × D) → DEnv → Prop} {m : Bool} {p : List Nat} {x y : Nat} {d e : D} {F : D → Prop}
theorem plain1_fz (h : plain1 d) : plain1 (fz d) := by
  refine ⟨by have := h.1; rwa [plainD, plB_fz], fun l e => ?_⟩
  have : d = .tup l := by
    cases d with
    | lst m l => cases m <;> cases e
    | dct m l => cases m <;> cases e
    | dcT m l => cases m <;> cases e
    | obj m C ns l => cases m <;> cases e
    | _ => first | exact e | cases e
  exact h.2 l this
theorem fz_tup_eq {l : List D} (h : fz d = .tup l) : d = .tup l := by
  cases d with
  | lst m l => cases m <;> cases h
  | dct m l => cases m <;> cases h
  | dcT m l => cases m <;> cases h
  | obj m C ns l => cases m <;> cases h
  | _ => first | exact h | cases h
theorem PairD_fz : PairD W (fz d) ↔ PairD W d := ⟨fun ⟨p, e, h⟩ => ⟨p, fz_tup_eq e, h⟩, fun ⟨p, e, h⟩ => ⟨p, by subst e; rfl, h⟩⟩
theorem c_is_pairing (hd : fz e = tableD ca false W) (o : OkW W) (hp : plain1 d) (q : ∀ b, (b = true ↔ PairD W d) → K ρ (.bl b)) : cQ 2 (S_is_pairing ca) K ρ [e, d] :=
  c_rel rfl ⟨W, fz d, by rw [List.map_cons, hd]; rfl, o, plain1_fz hp⟩ fun r ⟨W', d', b, e1, hb, hr⟩ => by
    rw [List.map_cons, hd] at e1
    simp only [List.map_cons, List.map_nil, List.cons.injEq, and_true] at e1
    obtain ⟨e1, rfl⟩ := e1
    cases tableD_inj e1
    subst hr
    exact ⟨okD_bl _ _, q b (hb.trans PairD_fz)⟩
theorem c_is_stable (hd : fz e = tableD ca false W) (o : OkW W) (hp : plain1 d) (q : ∀ b, (b = true ↔ ∃ p, d = tNat p ∧ PairL W p ∧ brkL W p = []) → K ρ (.bl b)) : cQ 2 (S_is_stable ca) K ρ [e, d] :=
  c_rel rfl ⟨W, fz d, by rw [List.map_cons, hd]; rfl, o, plain1_fz hp⟩ fun r ⟨W', d', b, e1, hb, hr⟩ => by
    rw [List.map_cons, hd] at e1
    simp only [List.map_cons, List.map_nil, List.cons.injEq, and_true] at e1
    obtain ⟨e1, rfl⟩ := e1
    cases tableD_inj e1
    subst hr
    refine ⟨okD_bl _ _, q b (hb.trans ?_)⟩
    exact ⟨fun ⟨p, e, h⟩ => ⟨p, fz_tup_eq e, h⟩, fun ⟨p, e, h⟩ => ⟨p, by subst e; rfl, h⟩⟩
theorem clean_prs (l : List (Nat × Nat)) : cleanD.cleanL (l.map prN) = true := by
  induction l with
  | nil => simp [cleanD.cleanL]
  | cons a l ih => simp [cleanD.cleanL, ih, prN, cleanD]
theorem okD_prs (ds : List D) (l : List (Nat × Nat)) : okD ds (.tup (l.map prN)) = true := by unfold okD; simp [cleanD, clean_prs]
theorem c_raw_breaking (hd : fz e = tableD ca false W) (o : OkW W) (hp : PairL W p) (q : K ρ (.tup ((brkL W p).map prN))) : cQ 2 (S_raw_breaking ca) K ρ [e, tNat p] := c_pure rfl ⟨W, p, by rw [List.map_cons, hd]; rfl, o, hp, rfl⟩ (okD_prs _ _) q
theorem rowP_self (W : List (List Nat)) (i : Nat) : i ∈ rowP W i := by unfold rowP; simp
theorem rowP_row {i : Nat} (h : x ∈ rowW W i) : x ∈ rowP W i := by unfold rowP; simp [h]
theorem rowP_lt (o : OkW W) {i : Nat} (hi : i < W.length) (h : x ∈ rowP W i) : x < W.length := by
  unfold rowP at h
  rcases List.mem_append.mp h with z | z
  · exact o.lt hi z
  · simp at z; omega
theorem rk_lt {i : Nat} (h : x ∈ rowP W i) : rk W i x < (rowP W i).length := List.idxOf_lt_length_of_mem h
theorem take_rk (o : OkW W) {i : Nat} (hi : i < W.length) (hp : y ∈ rowP W i) : x ∈ (rowW W i).take (rk W i y) ↔ x ∈ rowW W i ∧ rk W i x < rk W i y := by
  have hn := o.rowP hi
  have hk : rk W i y ≤ (rowW W i).length := by have := rk_lt hp; unfold rowP at this; simp at this; omega
  have e : ∀ z, z ∈ rowW W i → rk W i z = (rowW W i).idxOf z := fun z hz => by unfold rk rowP; rw [List.idxOf_append, if_pos hz]
  constructor
  · intro h
    have hx := List.mem_of_mem_take h
    refine ⟨hx, ?_⟩
    rw [e x hx]
    obtain ⟨j, hj, rfl⟩ := List.mem_iff_getElem.mp h
    rw [List.length_take] at hj
    rw [List.getElem_take, (o.rows i hi).2.2.idxOf_getElem]
    omega
  · rintro ⟨hx, h⟩
    rw [e x hx] at h
    have hl := List.idxOf_lt_length_of_mem hx
    rw [List.mem_iff_getElem]
    exact ⟨(rowW W i).idxOf x, by rw [List.length_take]; omega, by rw [List.getElem_take, List.getElem_idxOf]⟩
end
end Dl
namespace K02
open PySem PySem.Spec L2 Dl
theorem p_is_pairing {ca : CA} {ds kk kx} (h : S_is_pairing ca ds kk kx) : T_is_pairing ca.Table (S_Table_many ca) (S_is_below ca) (fnEnds (pinP [0, 1]) ds kk kx) (ds.map some ++ List.replicate 4 none) := by
  obtain ⟨⟨W, d, rfl, o, hp, hp1⟩, hk⟩ := h
  replace hk : ∀ b, (b = true ↔ PairD W d) → kk (.bl b) [tableD ca false W, d] := fun b hb => hk _ ⟨W, d, b, rfl, hb, rfl⟩
  have h20 := sizeLine_ge20
  unfold T_is_pairing
  walk_at "sx"
  refine x_kMt ?_
  walk_at "sx"
  refine c_many ?_ rfl
  walk_at "sx"
  by_cases ht : ∃ l, d = .tup l
  case neg =>
    refine x_isi (b := false) (by cases d <;> first | rfl | exact (ht ⟨_, rfl⟩).elim | exact absurd hp (by simp [plainD, plB])) ?_
    walk_at "sx"
    refine x_kOr (fun h => by cases h) (fun _ => ?_)
    walk_at "sx"
    exact hk _ ⟨nofun, fun ⟨p, h, _⟩ => (ht ⟨_, h⟩).elim⟩
  obtain ⟨l, rfl⟩ := ht
  obtain ⟨hpl, hll⟩ := hp1 l rfl
  walk_at "sx"
  refine x_kOr (fun _ => ?_) (fun h => by cases h)
  walk_at "sx"
  refine x_kOr (fun h1 => ?_) (fun h1 => ?_)
  rotate_left
  · walk_at "sx"
    refine hk _ ⟨nofun, ?_⟩
    rintro ⟨p, e, h⟩
    cases e
    have := h.len
    simp at h1; omega
  simp only [ne_eq, decide_not, Bool.not_eq_false', decide_eq_true_eq] at h1
  walk_at "sx"
  refine lc_mapD (fun x => .bl (isB W.length x)) (by omega) (fun x hx Q q => ?_) ?_
  · walk_at "sx"
    exact c_is_below (hpl x hx) q
  walk_at "sx"
  refine x_kIf (fun h => ?_) (fun h => ?_)
  · walk_at "sx"
    refine hk _ ⟨nofun, ?_⟩
    rintro ⟨p, e, h2⟩
    cases e
    rw [nats_isB fun x hx => ?_] at h
    · cases h
    · obtain ⟨j, hj, rfl⟩ := List.mem_iff_getElem.mp hx
      have := h2.lt j (by rw [← h2.len]; exact hj)
      rwa [List.getD_eq_getElem?_getD, List.getElem?_eq_getElem hj] at this
  simp only [Bool.not_eq_false'] at h
  obtain ⟨p, rfl, hn⟩ := isB_nats h
  have hpl : p.length = W.length := by simpa using h1
  walk_at "sx"
  refine for_nat (fun i ρ => (∃ a b, ρ = [some (tableD ca false W), some (tNat p), some (nD W.length), a, b, none]) ∧ ∀ j, j < i → p.getD j 0 ∈ rowP W j ∧ p.getD (p.getD j 0) 0 = j) ⟨⟨_, _, rfl⟩, fun _ h => by omega⟩ ?_ ?_
  · rintro i ⟨a, x⟩ ρ hi ⟨⟨a1, b1, rfl⟩, hB⟩ N hN
    rw [enL_get] at hi
    cases e2 : p[i]? with
    | none => rw [e2] at hi; cases hi
    | some r2 =>
    rw [e2] at hi
    simp only [Option.map_some, Option.some.injEq, Prod.mk.injEq, Nat.zero_add] at hi
    obtain ⟨rfl, rfl⟩ := hi
    have hl : i < p.length := (List.getElem?_eq_some_iff.mp e2).1
    have er : p.getD i 0 = r2 := by rw [getD_some hl (z := 0)] at e2; exact Option.some.inj e2
    subst er
    have hx := hn _ (List.mem_of_getElem? e2)
    have hxl : p.getD i 0 < p.length := by omega
    walk_at "sx"
    refine x_tRanks ?_
    walk_at "sx"
    refine x_ixRks (by omega) ?_
    walk_at "sx"
    refine x_notInRk ?_
    walk_at "sx"
    refine x_kOr (fun h2 => ?_) (fun h2 => ?_)
    · walk_at "sx"
      refine x_kIfD (fun h3 => ?_) (fun h3 => ?_)
      · walk_at "sx"
        exact hk _ ⟨nofun, fun ⟨q, e, h⟩ => (h3 (by cases nL_inj (D.tup.inj e); exact h.inv i (by omega))).elim⟩
      · walk_at "sx"
        refine hN _ ⟨⟨_, _, rfl⟩, fun j hj => ?_⟩
        by_cases hji : j = i
        · subst hji
          exact ⟨by simpa using h2, by simpa using h3⟩
        · exact hB j (by omega)
    · walk_at "sx"
      simp only [decide_eq_true_eq] at h2
      exact hk _ ⟨nofun, fun ⟨q, e, h⟩ => (h2 (by cases nL_inj (D.tup.inj e); exact h.ok i (by omega))).elim⟩
  rw [enL_length]
  rintro ρ ⟨⟨a, b, rfl⟩, hB⟩
  walk_at "sx"
  refine hk _ ⟨fun _ => ⟨p, rfl, hpl, fun i h => ?_, fun i h => (hB i (by omega)).1, fun i h => (hB i (by omega)).2⟩, fun _ => rfl⟩
  have := getD_some (z := 0) (show i < p.length by omega)
  exact hn _ (List.mem_of_getElem? this)
theorem p_raw_breaking {ca : CA} {ds kk kx} (h : S_raw_breaking ca ds kk kx) : T_raw_breaking ca.Table (S_Table_is_dearer ca) (fnEnds (pinP [0, 1]) ds kk kx) (ds.map some ++ List.replicate 6 none) := by
  obtain ⟨r, ⟨W, p, rfl, o, hp, rfl⟩, hk⟩ := h
  have h20 := sizeLine_ge20
  have ht := o.top
  have hpl := hp.len
  unfold T_raw_breaking
  walk_at "sx"
  refine x_tWishes ?_
  walk_at "sx"
  -- what is found of one person
  let fnd : Nat → List (Nat × Nat) := fun i => ((List.range W.length).filter fun x => decide (x ∈ rowW W i ∧ brk W p i x)).map fun x => (i, x)
  have fl : ∀ n, ((List.range n).flatMap fnd).length ≤ n * 30 := fun n => by
    induction n with
    | zero => simp
    | succ n ih =>
      rw [List.range_succ, List.flatMap_append, List.length_append]
      simp only [List.flatMap_cons, List.flatMap_nil, List.append_nil]
      have h3 : (fnd n).length ≤ 30 := by
        show (List.map _ (List.filter _ _)).length ≤ 30
        rw [List.length_map]
        have := List.length_filter_le (fun x => decide (x ∈ rowW W n ∧ brk W p n x)) (List.range W.length)
        rw [List.length_range] at this
        omega
      omega
  refine for_nat (fun i ρ => i ≤ W.length ∧ ∃ a b c, ρ = [some (tableD ca false W), some (tNat p), some (.lst true (((List.range i).flatMap fnd).map prN)), a, b, c, none, none]) ⟨Nat.zero_le _, _, _, _, rfl⟩ ?_ ?_
  · rintro i ⟨a, x⟩ ρ hi ⟨_, a1, b1, c1, rfl⟩ N hN
    have hi2 : W[i]? = some x ∧ a = i := by
      rw [enL_get] at hi
      cases e2 : W[i]? with
      | none => rw [e2] at hi; cases hi
      | some r2 =>
        rw [e2] at hi
        simp only [Option.map_some, Option.some.injEq, Prod.mk.injEq, Nat.zero_add] at hi
        exact ⟨by rw [hi.2], hi.1.symm⟩
    obtain ⟨e2, rfl⟩ := hi2
    have hl : a < W.length := (List.getElem?_eq_some_iff.mp e2).1
    have er : rowW W a = x := by rw [rowW_at hl] at e2; exact Option.some.inj e2
    subst er
    have hap : a < p.length := by omega
    have hpa := hp.ok a hl
    walk_at "sx"
    refine x_tRanks ?_
    walk_at "sx"
    refine x_ixRks hl ?_
    walk_at "sx"
    refine x_ixRk hpa ?_
    walk_at "sx"
    have hr := o.rows a hl
    show oSorted [.tup (nL ((rowW W a).take (rk W a (p.getD a 0))))] _
    refine x_sortedT (n := W.length) (hr.2.2.sublist (List.take_sublist _ _)) (fun x hx => hr.1 x (List.mem_of_mem_take hx)) ?_
    walk_at "sx"
    refine lc_filter (xs := srt W.length ((rowW W a).take (rk W a (p.getD a 0)))) (fun x => decide (rk W x a < rk W x (p.getD x 0))) (fun x => .tup [nD a, nD x]) ?_ (fun x hx Q q1 q2 => ?_) ?_
    · have : (srt W.length ((rowW W a).take (rk W a (p.getD a 0)))).length ≤ W.length := by
        unfold srt
        have := List.length_filter_le (fun x => decide (x ∈ (rowW W a).take (rk W a (p.getD a 0)))) (List.range W.length)
        rwa [List.length_range] at this
      omega
    · have hx := (mem_srt.mp hx)
      have hxr := List.mem_of_mem_take hx.2
      have hxp : x < p.length := by omega
      walk_at "sx"
      refine x_kMt ?_
      walk_at "sx"
      refine c_is_dearer hx.1 (rowP_row (o.sym hl hxr)) (hp.ok x hx.1) ?_ rfl
      walk_at "sx"
      refine x_kC (fun h => ?_) (fun h => q2 h)
      walk_at "sx"
      exact q1 h
    have eq1 : ((srt W.length ((rowW W a).take (rk W a (p.getD a 0)))).filter fun x => decide (rk W x a < rk W x (p.getD x 0))).map (fun x => D.tup [nD a, nD x]) = (fnd a).map prN := by
      show _ = List.map prN (List.map _ (List.filter _ _))
      rw [List.map_map]
      unfold srt
      rw [List.filter_filter]
      congr 1
      refine List.filter_congr fun x hx => ?_
      rw [Bool.eq_iff_iff, Bool.and_eq_true, decide_eq_true_iff, decide_eq_true_iff, decide_eq_true_iff, take_rk o hl hpa]
      unfold brk
      constructor
      · rintro ⟨a, b, c⟩; exact ⟨b, c, a⟩
      · rintro ⟨a, b, c⟩; exact ⟨c, a, b⟩
    rw [eq1]
    have h3 := fl a
    have h4 := fl (a + 1)
    rw [List.range_succ, List.flatMap_append, List.length_append] at h4
    simp only [List.flatMap_cons, List.flatMap_nil, List.append_nil] at h4
    walk_at "sx"
    refine x_extend rfl (by rw [List.length_map, List.length_map]; omega) ?_
    walk_at "sx"
    have eq3 : ((List.range a).flatMap fnd).map prN ++ (fnd a).map prN = ((List.range (a + 1)).flatMap fnd).map prN := by
      rw [List.range_succ, List.flatMap_append, List.map_append]
      simp only [List.flatMap_cons, List.flatMap_nil, List.append_nil]
    rw [eq3]
    exact hN _ ⟨hl, _, _, _, rfl⟩
  rw [enL_length]
  rintro ρ ⟨_, a, b, c, rfl⟩
  walk_at "sx"
  have h3 := fl W.length
  refine x_seqL ?_ ?_
  · rw [List.all_map, List.all_eq_true]; intro q _; rfl
  refine lc_filter (xs := (List.range W.length).flatMap fnd) (fun q => decide (q.1 < q.2)) prN (by omega) (fun x hx Q q1 q2 => ?_) ?_
  · walk_at "sx"
    unfold prN at q1 ⊢
    walk_at "sx"
    refine x_kC (fun h => ?_) (fun h => q2 h)
    walk_at "sx"
    exact q1 h
  have eq2 : ((List.range W.length).flatMap fnd).filter (fun q => decide (q.1 < q.2)) = brkL W p := by
    unfold brkL
    rw [List.filter_flatMap]
    congr 1
    funext i
    show List.filter _ (List.map _ (List.filter _ _)) = _
    rw [List.filter_map, List.filter_filter]
    congr 1
    refine List.filter_congr fun x _ => ?_
    rw [Bool.eq_iff_iff, Bool.and_eq_true, decide_eq_true_iff, Function.comp, decide_eq_true_iff, decide_eq_true_iff]
    constructor
    · rintro ⟨a, b, c⟩; exact ⟨b, a, c⟩
    · rintro ⟨a, b, c⟩; exact ⟨b, a, c⟩
  rw [eq2]
  walk_at "sx"
  refine x_tupleL ?_ ?_
  · rw [List.all_map, List.all_eq_true]; intro q _; rfl
  walk_at "sx"
  exact hk
theorem p_is_stable {ca : CA} {ds kk kx} (h : S_is_stable ca ds kk kx) : T_is_stable (S_raw_breaking ca) (S_is_pairing ca) (fnEnds (pinP [0, 1]) ds kk kx) (ds.map some ++ List.replicate 0 none) := by
  obtain ⟨⟨W, d, rfl, o, hp⟩, hk⟩ := h
  replace hk : ∀ b, (b = true ↔ ∃ p, d = tNat p ∧ PairL W p ∧ brkL W p = []) → kk (.bl b) [tableD ca false W, d] := fun b hb => hk _ ⟨W, d, b, rfl, hb, rfl⟩
  unfold T_is_stable
  walk_at "sx"
  refine c_is_pairing rfl o hp fun b hb => ?_
  refine x_kAndV (fun h => ?_) (fun h => ?_)
  · obtain ⟨p, rfl, hpp⟩ := hb.mp h
    walk_at "sx"
    refine c_raw_breaking rfl o hpp ?_
    walk_at "sx"
    refine hk _ ?_
    simp only [beq_iff_eq]
    constructor
    · intro e
      exact ⟨p, rfl, hpp, List.eq_nil_of_length_eq_zero (by omega)⟩
    · rintro ⟨q, e, _, e2⟩
      cases nL_inj (D.tup.inj e)
      rw [e2]; rfl
  · walk_at "sx"
    refine hk _ ⟨nofun, ?_⟩
    rintro ⟨p, rfl, h2, _⟩
    rw [hb.mpr ⟨p, rfl, h2⟩] at h; cases h
theorem p_breaking {ca : CA} {ds kk kx} (h : S_breaking ca ds kk kx) : T_breaking ca.NoPairing (S_is_pairing ca) (S_raw_breaking ca) (fnEnds (pinP [0, 1]) ds kk kx) (ds.map some ++ List.replicate 0 none) := by
  obtain ⟨W, d, rfl, o, hp, hk, hx⟩ := h
  unfold T_breaking
  walk_at "sx"
  refine c_is_pairing rfl o hp fun b hb => ?_
  walk_at "sx"
  refine x_kIf (fun h => ?_) (fun h => ?_)
  · walk_at "sx"
    refine hx fun z => ?_
    rw [hb.mpr z] at h; cases h
  · obtain ⟨p, rfl, hpp⟩ := hb.mp (by simpa using h)
    walk_at "sx"
    refine c_raw_breaking rfl o hpp ?_
    walk_at "sx"
    exact hk p rfl hpp
end K02
namespace Dl
open PySem PySem.Spec L2
/-! ### the tape -/
def tapeD (cells : List Int) (a l s c : Int) : D := .lst true [.lst false (iL cells), .int a, .int l, .int s, .int c]
def TapeOk (d : D) : Prop := ∃ (cells : List Int) (a : Nat) (l s c : Int), d = tapeD cells a l s c
def scrD (ns : List Int) : D := .lst false (ns.map D.int)
def S_law_tape (_ : CA) : DSp := relS (fun ds => ∃ ns, ds = [scrD ns] ∧ ns.length ≤ 63) fun _ r => TapeOk r
def S_law_pick (_ : CA) : DSp := fun ds k _ => ∃ (t : D) (many : Nat), ds = [t, nD many] ∧ TapeOk t ∧ 1 ≤ many ∧ many < 2 ^ 20 ∧ ∀ (r : Nat) t', r < many → TapeOk t' → k (nD r) [t', nD many]
/-- one of the things, and the tape gone on -/
def S_law_any (_ : CA) : DSp := fun ds k _ => ∃ (t : D) (l : List D), (ds = [t, .tup l] ∨ ds = [t, .lst false l]) ∧ TapeOk t ∧ l.all isFz = true ∧ 1 ≤ l.length ∧ l.length < 2 ^ 20 ∧ ∀ x t', x ∈ l → TapeOk t' → k x (t' :: ds.tail)
/-- a mixing of the things -/
def S_law_mixed (_ : CA) : DSp := fun ds k _ => ∃ (t : D) (l : List D), (ds = [t, .tup l] ∨ ds = [t, .lst false l]) ∧ TapeOk t ∧ l.all isFz = true ∧ l.length < 2 ^ 20 ∧ ∀ l' t', l'.Perm l → TapeOk t' → k (.lst true l') (t' :: ds.tail)
section
variable {ρ : DEnv} {K : DEnv → D → Prop} {kx : Value → List (Str × D) → DEnv → Prop} {m : Nat} {t : D} {l : List D} {many : Nat} {ca : CA} {mm : Bool}
theorem c_pick (h0 : ρ[m]? = some (some t)) (ht : TapeOk t) (h1 : 1 ≤ many ∧ many < 2 ^ 20) (q : ∀ (r : Nat) t', r < many → TapeOk t' → K (ρ.set m (some t')) (nD r)) : cI 2 (S_law_pick ca) m K kx ρ [.int (many : Nat)] :=
  x_cI h0 rfl ⟨t, many, rfl, ht, h1.1, h1.2, fun r t' hr ht' => q r t' hr ht'⟩
theorem c_anyT (h0 : ρ[m]? = some (some t)) (ht : TapeOk t) (hz : l.all isFz = true) (h1 : 1 ≤ l.length ∧ l.length < 2 ^ 20) (q : ∀ x t', x ∈ l → TapeOk t' → K (ρ.set m (some t')) x) : cI 2 (S_law_any ca) m K kx ρ [.tup l] :=
  x_cI h0 rfl ⟨t, l, .inl rfl, ht, hz, h1.1, h1.2, fun r t' hr ht' => q r t' hr ht'⟩
theorem c_anyL (h0 : ρ[m]? = some (some t)) (ht : TapeOk t) (hf : fz (.lst mm l) = .lst false l) (hz : l.all isFz = true) (h1 : 1 ≤ l.length ∧ l.length < 2 ^ 20) (q : ∀ x t', x ∈ l → TapeOk t' → K (ρ.set m (some t')) x) : cI 2 (S_law_any ca) m K kx ρ [.lst mm l] :=
  x_cI h0 rfl ⟨t, l, .inr (by rw [List.map_cons, hf]; rfl), ht, hz, h1.1, h1.2, fun r t' hr ht' => q r t' hr ht'⟩
theorem c_mixedT (h0 : ρ[m]? = some (some t)) (ht : TapeOk t) (hz : l.all isFz = true) (h1 : l.length < 2 ^ 20) (q : ∀ l' t', l'.Perm l → TapeOk t' → K (ρ.set m (some t')) (.lst true l')) : cI 2 (S_law_mixed ca) m K kx ρ [.tup l] :=
  x_cI h0 rfl ⟨t, l, .inl rfl, ht, hz, h1, fun r t' hr ht' => q r t' hr ht'⟩
theorem c_mixedL (h0 : ρ[m]? = some (some t)) (ht : TapeOk t) (hf : fz (.lst mm l) = .lst false l) (hz : l.all isFz = true) (h1 : l.length < 2 ^ 20) (q : ∀ l' t', l'.Perm l → TapeOk t' → K (ρ.set m (some t')) (.lst true l')) : cI 2 (S_law_mixed ca) m K kx ρ [.lst mm l] :=
  x_cI h0 rfl ⟨t, l, .inr (by rw [List.map_cons, hf]; rfl), ht, hz, h1, fun r t' hr ht' => q r t' hr ht'⟩
theorem x_ixIL {cells : List Int} {a : Nat} {F : D → Prop} (h : a < cells.length) (q : F (.int cells[a])) : oIx (.lst mm (iL cells)) (.int (a : Nat)) F := x_ixML (List.getElem?_eq_getElem h) q
end
theorem perm_pop {l m : List D} {n : Nat} {x : D} (h : l[n]? = some x) : (m ++ [x] ++ l.eraseIdx n).Perm (m ++ l) := by
  obtain ⟨hn, rfl⟩ := List.getElem?_eq_some_iff.mp h
  rw [List.append_assoc]
  refine List.Perm.append_left m ?_
  rw [List.eraseIdx_eq_take_drop_succ]
  refine List.Perm.trans (List.perm_middle (l₁ := l.take n)).symm ?_
  rw [← List.drop_eq_getElem_cons hn, List.take_append_drop]
end Dl
namespace K02
open PySem PySem.Spec L2 Dl
theorem p_law_tape {ca : CA} {ds kk kx} (h : S_law_tape ca ds kk kx) : T_law_tape (fnEnds (pinP [0]) ds kk kx) (ds.map some ++ List.replicate 2 none) := by
  obtain ⟨⟨ns, rfl, hl⟩, hk⟩ := h
  have h20 := sizeLine_ge20
  unfold T_law_tape scrD at *
  walk_at "sx"
  rw [show (63 : Int) = ((63 : Nat) : Int) from rfl, cut_to, ← List.map_take]
  walk_at "sx"
  refine lc_map (enc := D.int) (fun i => .int (if i < 0 then -i else i)) (xs := ns.take 63) (by rw [List.length_take]; omega) (fun x hx Q q => ?_) ?_
  · walk_at "sx"
    exact q
  rw [show (ns.take 63).map (fun i => D.int (if i < 0 then -i else i)) = iL ((ns.take 63).map fun i => if i < 0 then -i else i) from by show _ = List.map D.int (List.map _ _); rw [List.map_map]; rfl]
  generalize (ns.take 63).map (fun i => if i < 0 then -i else i) = cells
  walk_at "sx"
  have e : fz (.lst true (iL cells)) = .lst false (iL cells) := by show frz (.lst true (iL cells)) = _; rw [frz, frzL_map]; exact fun _ => rfl
  rw [e]
  walk_at "sx"
  exact hk _ ⟨cells, 0, 0, _, 0, rfl⟩
theorem p_law_pick {ca : CA} {ds kk kx} (h : S_law_pick ca ds kk kx) : T_law_pick (fnEnds (pinP [0, 1]) ds kk kx) (ds.map some ++ List.replicate 3 none) := by
  obtain ⟨_, many, rfl, ⟨cells, a, l, s, c, rfl⟩, hm, hm2, hk0⟩ := h
  have hk : ∀ (r : Int) (a' : Nat) l' s' c', 0 ≤ r → r < many → kk (.int r) [tapeD cells a' l' s' c', nD many] := fun r a' l' s' c' h1 h2 => by
    have := hk0 r.toNat (tapeD cells a' l' s' c') (by omega) ⟨_, _, _, _, _, rfl⟩
    rwa [show nD r.toNat = .int r from by show D.int _ = _; congr 1; omega] at this
  clear hk0
  have hm1 : (0 : Int) < many := by omega
  have hm3 : (many : Int) < 1048576 := by omega
  walk_at "env"
  unfold tapeD at *
  -- the second half, from any tape
  have second : ∀ (a2 : Nat) (l2 s2 c2 : Int) (o : Option D), (dSeq (dIfS (dTest (dOp2 oGt (dOp2 oIx (dNameV 0) (dC (.int 2))) (dC (.int 0)))) 
      (dSeq (dSetF 3 (dOp2 oMod (dOpL oInt (dCons (dOp2 oIx (dNameV 0) (dC (.int 2))) dNil)) (dNameV 1)))
      (dSeq (dPut (dOp2 oFdiv (dOp2 oIx (dNameV 0) (dC (.int 2))) (dNameV 1)) (lvN 0) (dC (.int 2)))
      (dRet (dMove 3)))) dNext)
    (dSeq (dPut (dOp2 oAdd (dOp2 oIx (dNameV 0) (dC (.int 4))) (dC (.int 1))) (lvN 0) (dC (.int 4)))
    (dSeq (dSetF 4 (dOp2 oMod (dOpL oInt (dCons (dOp2 oMul (dOpL oInt (dCons (dOp2 oAdd (dOp2 oIx (dNameV 0) (dC (.int 3))) (dOp2 oMul (dC (.int 7919)) (dOp2 oIx (dNameV 0) (dC (.int 4))))) dNil)) (dC (.int 48271))) dNil)) (dC (.int 2147483647))))
    (dSeq (dSetF 4 (dOp2 oMod (dOpL oInt (dCons (dOp2 oMul (dNameV 4) (dOp2 oAdd (dOp2 oFdiv (dNameV 4) (dC (.int 1009))) (dC (.int 69621)))) dNil)) (dC (.int 2147483647))))
    (dSeq (dSetF 4 (dOp2 oMod (dOpL oInt (dCons (dOp2 oMul (dNameV 4) (dOp2 oAdd (dOp2 oFdiv (dNameV 4) (dC (.int 2003))) (dC (.int 40692)))) dNil)) (dC (.int 2147483399))))
    (dRet (dOp2 oMod (dOpL oInt (dCons (dOp2 oFdiv (dNameV 4) (dC (.int 16))) dNil)) (dNameV 1)))))))) (fnEnds (pinP [0, 1]) [.lst true [.lst false (iL cells), .int a, .int l, .int s, .int c], nD many] kk kx)
      [some (.lst true [.lst false (iL cells), .int a2, .int l2, .int s2, .int c2]), some (nD many), o, none, none] := by
    intro a2 l2 s2 c2 o
    walk_at "sx"
    refine x_kIfD (fun h1 => ?_) (fun h1 => ?_)
    · walk_at "sx"
      exact hk (l2 % many) a2 (l2 / many) s2 c2 (Int.emod_nonneg _ (by omega)) (Int.emod_lt_of_pos _ (by omega))
    · walk_at "sx"
      have g1 := Int.emod_nonneg ((s2 + 7919 * (c2 + 1)) * 48271) (show (2147483647 : Int) ≠ 0 by decide)
      have g2 := Int.emod_lt_of_pos ((s2 + 7919 * (c2 + 1)) * 48271) (show (0 : Int) < 2147483647 by decide)
      generalize (s2 + 7919 * (c2 + 1)) * 48271 % 2147483647 = x at g1 g2 ⊢
      walk_at "sx"
      have g3 := Int.emod_nonneg (x * (x / 1009 + 69621)) (show (2147483647 : Int) ≠ 0 by decide)
      have g4 := Int.emod_lt_of_pos (x * (x / 1009 + 69621)) (show (0 : Int) < 2147483647 by decide)
      generalize x * (x / 1009 + 69621) % 2147483647 = y at g3 g4 ⊢
      walk_at "sx"
      generalize y * (y / 2003 + 40692) % 2147483399 = z
      walk_at "sx"
      exact hk (z / 16 % many) a2 l2 s2 (c2 + 1) (Int.emod_nonneg _ (by omega)) (Int.emod_lt_of_pos _ (by omega))
  unfold T_law_pick
  refine x_seq ?_
  generalize hR : dnSeq _ _ = kR
  have hnx : ∀ (a2 : Nat) (l2 s2 c2 : Int) (o : Option D), kR.nx [some (.lst true [.lst false (iL cells), .int a2, .int l2, .int s2, .int c2]), some (nD many), o, none, none] := fun a2 l2 s2 c2 o => by
    rw [← hR]; exact second a2 l2 s2 c2 o
  walk_at "sx"
  refine x_kAnd (fun h1 => ?_) (fun h1 => ?_)
  · walk_at "sx"
    refine x_kIfD (fun h2 => ?_) (fun h2 => ?_)
    · walk_at "sx"
      refine x_ixIL h2 ?_
      walk_at "sx"
      refine x_kIfD (fun h3 => ?_) (fun h3 => ?_)
      · walk_at "sx"
        exact hnx (a + 1) _ _ _ _
      · walk_at "sx"
        exact hnx (a + 1) _ _ _ _
    · walk_at "sx"
      exact hnx a _ _ _ _
  · walk_at "sx"
    exact hnx a _ _ _ _
theorem p_law_any {ca : CA} {ds kk kx} (h : S_law_any ca ds kk kx) : T_law_any (S_law_pick ca) (fnEnds (pinP [0, 1]) ds kk kx) (ds.map some ++ List.replicate 0 none) := by
  obtain ⟨t, l, hd, ht, hf, h1, h2, hk⟩ := h
  unfold T_law_any
  have hz : ∀ r : Nat, r < l.length → ∃ x, l[r]? = some x ∧ x ∈ l ∧ isFz x = true := fun r h =>
    ⟨l[r], List.getElem?_eq_getElem h, List.getElem_mem h, List.all_eq_true.mp hf _ (List.getElem_mem h)⟩
  rcases hd with rfl | rfl
  · walk_at "sx"
    refine c_pick rfl ht ⟨h1, h2⟩ fun r t' hr ht' => ?_
    obtain ⟨x, e, hx, hfx⟩ := hz r hr
    refine x_ixF (ix_tup e) hfx ?_
    walk_at "sx"
    exact hk x t' hx ht'
  · walk_at "sx"
    refine c_pick rfl ht ⟨h1, h2⟩ fun r t' hr ht' => ?_
    obtain ⟨x, e, hx, hfx⟩ := hz r hr
    refine x_ixF (ix_lst e) hfx ?_
    walk_at "sx"
    exact hk x t' hx ht'
theorem p_law_mixed {ca : CA} {ds kk kx} (h : S_law_mixed ca ds kk kx) : T_law_mixed (S_law_pick ca) (fnEnds (pinP [0, 1]) ds kk kx) (ds.map some ++ List.replicate 2 none) := by
  obtain ⟨t, l, hd, ht, hf, h2, hk⟩ := h
  have h20 := sizeLine_ge20
  unfold T_law_mixed
  refine x_seq ?_
  generalize hR : dnSeq _ _ = kR
  have hnx : ∀ y, ds = [t, y] → kR.nx [some t, some y, some (.lst true l), some (.lst true [])] := by
    rintro y rfl
    rw [← hR]
    walk_at "sx"
    refine ⟨fun m ρ => ∃ (t' : D) (a b : List D), ρ = [some t', some y, some (.lst true a), some (.lst true b)] ∧ TapeOk t' ∧ a.length = m ∧ (b ++ a).Perm l ∧ a.all isFz = true, ⟨l.length, t, l, [], rfl, ht, rfl, List.Perm.refl _, hf⟩, ?_⟩
    rintro m ρ ⟨t', a, b, rfl, ht', rfl, hp, ha⟩
    have hl := hp.length_eq
    rw [List.length_append] at hl
    walk_at "sx"
    by_cases hz : 0 < a.length
    · rw [decide_eq_true (by omega)]
      dsimp only
      refine x_drop ?_
      walk_at "sx"
      refine c_pick rfl ht' ⟨hz, by omega⟩ fun r t2 hr ht2 => ?_
      walk_at "sx"
      have hx := List.getElem?_eq_getElem hr
      refine x_popAt rfl hr (by omega) hx ?_
      walk_at "sx"
      refine x_append rfl (by omega) ?_
      refine ⟨a.length - 1, by omega, t2, a.eraseIdx r, b ++ [a[r]], rfl, ht2, List.length_eraseIdx_of_lt hr, (perm_pop (m := b) hx).trans hp, ?_⟩
      rw [List.all_eq_true] at ha ⊢
      exact fun z hz => ha z (List.mem_of_mem_eraseIdx hz)
    · rw [decide_eq_false (by omega)]
      have e : a = [] := List.eq_nil_of_length_eq_zero (by omega)
      subst e
      dsimp only
      walk_at "sx"
      exact hk b t' (by simpa using hp) ht'
  rcases hd with rfl | rfl
  · walk_at "sx"
    exact hnx _ rfl
  · walk_at "sx"
    exact hnx _ rfl
end K02
namespace Dl
open PySem PySem.Spec L2
/-! ### drawn wishes -/
def lN (m : Bool) (l : List Nat) : D := .lst m (nL l)
def S_law_wishes (_ : CA) : DSp := fun ds k _ => ∃ (t : D) (n : Nat), ds = [t, nD n] ∧ TapeOk t ∧ 1 ≤ n ∧ n ≤ 30 ∧ ∀ W t', OkW W → W.length = n → TapeOk t' → k (wishesD W) [t', nD n]
def S_law_count (_ : CA) : DSp := fun ds k _ => ∃ (t : D), ds = [t] ∧ TapeOk t ∧ ∀ (r : Nat) t', 1 ≤ r → r ≤ 30 → TapeOk t' → k (nD r) [t']
/-- rows half drawn: the pairs ahead of (a, b) -/
structure HalfOk (n : Nat) (G : List (List Nat)) (a b : Nat) : Prop where
  len : G.length = n
  nd : ∀ i, i < n → (rowW G i).Nodup
  sym : ∀ i x, i < n → x ∈ rowW G i → x < n ∧ x ≠ i ∧ i ∈ rowW G x ∧ (max i x < a ∨ (max i x = a ∧ min i x < b))
theorem rowW_set {G : List (List Nat)} {i j : Nat} {r : List Nat} (h : i < G.length) : rowW (G.set i r) j = if i = j then r else rowW G j := by
  unfold rowW
  rw [List.getD_eq_getElem?_getD, List.getElem?_set, List.getD_eq_getElem?_getD]
  by_cases e : i = j
  · subst e; simp [h]
  · simp [e]
theorem HalfOk.step {n : Nat} {G : List (List Nat)} {a b : Nat} (h : HalfOk n G a b) (ha : a < n) (hb : b < a) : HalfOk n ((G.set a (rowW G a ++ [b])).set b (rowW G b ++ [a])) a (b + 1) := by
  have hl := h.len
  have r : ∀ j, rowW ((G.set a (rowW G a ++ [b])).set b (rowW G b ++ [a])) j = if b = j then rowW G b ++ [a] else if a = j then rowW G a ++ [b] else rowW G j := fun j => by
    rw [rowW_set (by rw [List.length_set]; omega), rowW_set (by omega)]
  have nab : b ∉ rowW G a := fun z => by have := (h.sym a b ha z).2.2.2; omega
  have nba : a ∉ rowW G b := fun z => by have := (h.sym b a (by omega) z).2.2.2; omega
  have nd2 : ∀ {l : List Nat} {x : Nat}, l.Nodup → x ∉ l → (l ++ [x]).Nodup := fun {l x} h1 h2 => List.nodup_append.mpr ⟨h1, by simp, fun y hy z hz e => by simp at hz; subst hz; subst e; exact h2 hy⟩
  have mem : ∀ i x, x ∈ rowW ((G.set a (rowW G a ++ [b])).set b (rowW G b ++ [a])) i ↔ x ∈ rowW G i ∨ (i = a ∧ x = b) ∨ (i = b ∧ x = a) := fun i x => by
    rw [r]
    by_cases e1 : b = i
    · subst e1
      rw [if_pos rfl, List.mem_append, List.mem_singleton]
      constructor
      · rintro (z | z)
        · exact .inl z
        · exact .inr (.inr ⟨rfl, z⟩)
      · rintro (z | ⟨z, _⟩ | ⟨_, z⟩)
        · exact .inl z
        · omega
        · exact .inr z
    · rw [if_neg e1]
      by_cases e2 : a = i
      · subst e2
        rw [if_pos rfl, List.mem_append, List.mem_singleton]
        constructor
        · rintro (z | z)
          · exact .inl z
          · exact .inr (.inl ⟨rfl, z⟩)
        · rintro (z | ⟨_, z⟩ | ⟨z, _⟩)
          · exact .inl z
          · exact .inr z
          · omega
      · rw [if_neg e2]
        constructor
        · exact .inl
        · rintro (z | ⟨z, _⟩ | ⟨z, _⟩)
          · exact z
          · omega
          · omega
  refine ⟨by simp [hl], fun i hi => ?_, fun i x hi hx => ?_⟩
  · rw [r]
    split
    · rename_i e; exact nd2 (h.nd b (by omega)) nba
    · split
      · exact nd2 (h.nd a ha) nab
      · exact h.nd i hi
  · rw [mem] at hx
    rw [mem]
    rcases hx with z | ⟨rfl, rfl⟩ | ⟨rfl, rfl⟩
    · have := h.sym i x hi z
      exact ⟨this.1, this.2.1, .inl this.2.2.1, by omega⟩
    · exact ⟨by omega, by omega, .inr (.inr ⟨rfl, rfl⟩), by omega⟩
    · exact ⟨by omega, by omega, .inr (.inl ⟨rfl, rfl⟩), by omega⟩
theorem HalfOk.mono {n : Nat} {G : List (List Nat)} {a b a' b' : Nat} (h : HalfOk n G a b) (hm : a < a' ∨ (a = a' ∧ b ≤ b')) : HalfOk n G a' b' :=
  ⟨h.len, h.nd, fun i x hi hx => by have := h.sym i x hi hx; exact ⟨this.1, this.2.1, this.2.2.1, by omega⟩⟩
theorem HalfOk.done {n : Nat} {G V : List (List Nat)} {a b : Nat} (h : HalfOk n G a b) (h1 : 1 ≤ n) (h2 : n ≤ 30) (hl : V.length = n) (hp : ∀ i, i < n → (rowW V i).Perm (rowW G i)) : OkW V := by
  refine ⟨by omega, by omega, fun i hi => ?_, fun i hi => ?_⟩
  · rw [hl] at hi
    have p := hp i hi
    refine ⟨fun x hx => by rw [hl]; exact (h.sym i x hi (p.mem_iff.mp hx)).1, fun z => (h.sym i i hi (p.mem_iff.mp z)).2.1 rfl, p.nodup_iff.mpr (h.nd i hi)⟩
  · rw [hl] at hi
    intro x hx
    have := h.sym i x hi ((hp i hi).mem_iff.mp hx)
    exact (hp x this.1).mem_iff.mpr this.2.2.1
section
variable {ρ : DEnv} {K : DEnv → D → Prop} {kx : Value → List (Str × D) → DEnv → Prop} {m n : Nat} {t : D} {ca : CA}
theorem c_wishes (h0 : ρ[m]? = some (some t)) (ht : TapeOk t) (h1 : 1 ≤ n ∧ n ≤ 30) (q : ∀ W t', OkW W → W.length = n → TapeOk t' → K (ρ.set m (some t')) (wishesD W)) : cI 2 (S_law_wishes ca) m K kx ρ [.int (n : Nat)] :=
  x_cI h0 rfl ⟨t, n, rfl, ht, h1.1, h1.2, fun W t' o hl ht' => q W t' o hl ht'⟩
theorem c_count (h0 : ρ[m]? = some (some t)) (ht : TapeOk t) (q : ∀ (r : Nat) t', 1 ≤ r → r ≤ 30 → TapeOk t' → K (ρ.set m (some t')) (nD r)) : cI 1 (S_law_count ca) m K kx ρ [] :=
  x_cI h0 rfl ⟨t, rfl, ht, fun r t' h1 h2 ht' => q r t' h1 h2 ht'⟩
end
theorem perm_nL {l : List D} {r : List Nat} (h : l.Perm (nL r)) : ∃ s, l = nL s ∧ s.Perm r := by
  have : ∀ d ∈ l, ∃ n : Nat, d = nD n := fun d hd => by
    obtain ⟨n, _, rfl⟩ := List.mem_map.mp (h.mem_iff.mp hd)
    exact ⟨n, rfl⟩
  obtain ⟨s, rfl⟩ : ∃ s, l = nL s := by
    clear h
    induction l with
    | nil => exact ⟨[], rfl⟩
    | cons d l ih =>
      obtain ⟨s, rfl⟩ := ih fun d hd => this d (List.mem_cons_of_mem _ hd)
      obtain ⟨n, rfl⟩ := this d (by simp)
      exact ⟨n :: s, rfl⟩
  refine ⟨s, rfl, ?_⟩
  have := h.map fun d => match d with | .int i => i.toNat | _ => 0
  simpa [nL, List.map_map, Function.comp_def] using this
end Dl
namespace K02
open PySem PySem.Spec L2 Dl
theorem p_law_wishes {ca : CA} {ds kk kx} (h : S_law_wishes ca ds kk kx) : T_law_wishes (S_law_pick ca) (S_law_mixed ca) (fnEnds (pinP [0, 1]) ds kk kx) (ds.map some ++ List.replicate 6 none) := by
  obtain ⟨t, n, rfl, ht, h1, h2, hk⟩ := h
  have h20 := sizeLine_ge20
  unfold T_law_wishes
  walk_at "sx"
  refine c_pick rfl ht (by decide) fun share t1 _ ht1 => ?_
  walk_at "sx"
  refine lc_map (enc := fun (i : Nat) => D.int (i : Int)) (xs := List.range n) (fun _ => lN true []) (by rw [List.length_range]; omega) (fun x hx Q q => ?_) ?_
  · walk_at "sx"
    exact q
  walk_at "sx"
  have e0 : (List.range n).map (fun _ => lN true []) = ((List.range n).map fun _ => ([] : List Nat)).map (lN true) := by rw [List.map_map]; rfl
  rw [e0]
  walk_at "sx"
  refine for_nat (fun a ρ => a ≤ n ∧ ∃ t G x y, ρ = [some t, some (nD n), some (.int (1 + share)), some (.lst true (G.map (lN true))), x, y, none, none] ∧ TapeOk t ∧ HalfOk n G a 0) ⟨Nat.zero_le _, t1, _, _, _, rfl, ht1, ?_⟩ ?_ ?_
  · refine ⟨by simp, fun i hi => ?_, fun i x hi hx => ?_⟩
    · have : rowW ((List.range n).map fun _ => ([] : List Nat)) i = [] := by
        unfold rowW; rw [List.getD_eq_getElem?_getD, List.getElem?_map, List.getElem?_range hi]; rfl
      rw [this]; simp
    · have : rowW ((List.range n).map fun _ => ([] : List Nat)) i = [] := by
        unfold rowW; rw [List.getD_eq_getElem?_getD, List.getElem?_map, List.getElem?_range hi]; rfl
      rw [this] at hx; cases hx
  · rintro a _ ρ ha ⟨_, t, G, x, y, rfl, ht, hG⟩ N hN
    have han : a < n := by
      rcases Nat.lt_or_ge a n with z | z
      · exact z
      · rw [List.getElem?_eq_none (by simpa using z)] at ha; cases ha
    rw [List.getElem?_range han] at ha
    cases ha
    walk_at "sx"
    refine for_nat (fun b ρ => b ≤ a ∧ ∃ t G y, ρ = [some t, some (nD n), some (.int (1 + share)), some (.lst true (G.map (lN true))), some (nD a), y, none, none] ∧ TapeOk t ∧ HalfOk n G a b) ⟨Nat.zero_le _, t, G, _, rfl, ht, hG⟩ ?_ ?_
    · rintro b _ ρ hb ⟨_, t, G, y, rfl, ht, hG⟩ N2 hN2
      have hba : b < a := by
        rcases Nat.lt_or_ge b a with z | z
        · exact z
        · rw [List.getElem?_eq_none (by simpa using z)] at hb; cases hb
      rw [List.getElem?_range hba] at hb
      cases hb
      have hgl := hG.len
      walk_at "sx"
      refine c_pick rfl ht (by decide) fun r t2 _ ht2 => ?_
      walk_at "sx"
      refine x_kIf (fun h3 => ?_) (fun h3 => ?_)
      · have hla : (rowW G a).length ≤ 30 := Nat.le_trans (Nodup_le (hG.nd a han) fun x hx => (hG.sym a x han hx).1) h2
        have hlb : (rowW G b).length ≤ 30 := Nat.le_trans (Nodup_le (hG.nd b (by omega)) fun x hx => (hG.sym b x (by omega) hx).1) h2
        have h4 := hG.step han hba
        walk_at "sx"
        refine x_kIxL (e := lN true (rowW G a)) (by rw [List.getElem?_map, rowW_at (by omega)]; rfl) ?_
        unfold lN
        walk_at "sx"
        refine x_kP2app (by rw [List.length_map]; omega) ?_
        rw [putD_1]
        rotate_left
        · rfl
        walk_at "sx"
        refine x_kIxL (e := lN true (rowW G b)) (by
          rw [List.getElem?_set, if_neg (by omega), List.getElem?_map, rowW_at (by omega)]; rfl) ?_
        unfold lN
        walk_at "sx"
        refine x_kP2app (by rw [List.length_map]; omega) ?_
        rw [putD_1]
        rotate_left
        · rfl
        walk_at "sx"
        have e2 : ((G.map (lN true)).set a (.lst true (nL (rowW G a) ++ [D.int (b : Int)]))).set b (.lst true (nL (rowW G b) ++ [nD a])) = ((G.set a (rowW G a ++ [b])).set b (rowW G b ++ [a])).map (lN true) := by
          rw [List.map_set, List.map_set]
          simp [lN, nL]
        have e3 : (List.map (fun l => D.lst true (nL l)) G) = G.map (lN true) := rfl
        try rw [e3]
        rw [e2]
        exact hN2 _ ⟨hba, t2, _, _, rfl, ht2, h4⟩
      · walk_at "sx"
        exact hN2 _ ⟨hba, t2, G, _, rfl, ht2, hG.mono (by omega)⟩
    · rw [List.length_range]
      rintro ρ ⟨_, t, G, y, rfl, ht, hG⟩
      walk_at "sx"
      exact hN _ ⟨han, t, G, _, _, rfl, ht, hG.mono (by omega)⟩
  rw [List.length_range]
  rintro ρ ⟨_, t, G, x, y, rfl, ht, hG⟩
  have hgl := hG.len
  walk_at "sx"
  refine x_nameE1 rfl rfl ?_
  have e1 : frz (.lst true (G.map (lN true))) = .lst false (G.map (lN false)) := by
    show D.lst false (frzL _) = _
    rw [frzL_eq, List.map_map]
    congr 1
    refine List.map_congr_left fun r _ => ?_
    show frz (.lst true (nL r)) = _
    rw [frz, frzL_map]; rfl
    exact fun _ => rfl
  rw [e1]
  walk_at "sx"
  refine x_seqL (by rw [List.all_map, List.all_eq_true]; intro _ _; rfl) ?_
  try walk_at "env"
  refine lcE_map (enc := lN false) (xs := G) (fun p acc ρ => ∃ t V, ρ = [some t, some (nD n), some (.int (1 + share)), some (.lst false (G.map (lN false))), x, y, none, none] ∧ TapeOk t ∧ acc = V.map tNat ∧ V.length = p.length ∧ ∀ i, i < p.length → (rowW V i).Perm (rowW G i)) (by omega) ⟨t, [], rfl, ht, rfl, rfl, fun i h => by simp at h⟩ ?_ ?_
  · rintro p r q acc ρ e ⟨t, V, rfl, ht, rfl, hl, hp⟩ Q hQ
    have hlen : (rowW G p.length).length ≤ 30 := Nat.le_trans (Nodup_le (hG.nd _ (by rw [← hgl, e]; simp)) fun x hx => (hG.sym _ x (by rw [← hgl, e]; simp) hx).1) h2
    have er : rowW G p.length = r := by unfold rowW; rw [List.getD_eq_getElem?_getD, e]; simp
    rw [er] at hlen
    unfold lN
    walk_at "sx"
    refine c_mixedL rfl ht rfl (isFz_nL r) (by rw [List.length_map]; omega) fun l' t' hp' ht' => ?_
    obtain ⟨s, rfl, hs⟩ := perm_nL hp'
    walk_at "sx"
    refine hQ _ _ ⟨t', V ++ [s], rfl, ht', by rw [List.map_append]; rfl, by simp [hl], fun i hi => ?_⟩
    rw [List.length_append] at hi
    by_cases hip : i < p.length
    · have : rowW (V ++ [s]) i = rowW V i := by unfold rowW; rw [List.getD_eq_getElem?_getD, List.getElem?_append_left (by omega), List.getD_eq_getElem?_getD]
      rw [this]; exact hp i hip
    · have hi2 : i = p.length := by simp at hi; omega
      subst hi2
      have : rowW (V ++ [s]) p.length = s := by unfold rowW; rw [List.getD_eq_getElem?_getD, ← hl]; simp
      rw [this, er]; exact hs
  · rintro acc ρ ⟨t, V, rfl, ht, rfl, hl, hp⟩ _
    simp only [restD, List.getElem?_cons_succ, List.getElem?_cons_zero, wipeD, List.set_cons_succ, List.set_cons_zero]
    walk_at "sx"
    refine hk V t (hG.done h1 h2 (hl.trans hgl) fun i hi => hp i (by omega)) (hl.trans hgl) ht
theorem p_law_count {ca : CA} {ds kk kx} (h : S_law_count ca ds kk kx) : T_law_count (S_law_pick ca) (fnEnds (pinP [0]) ds kk kx) (ds.map some ++ List.replicate 0 none) := by
  obtain ⟨t, rfl, ht, hk⟩ := h
  unfold T_law_count
  walk_at "sx"
  refine c_pick rfl ht (by decide) fun r t1 _ ht1 => ?_
  walk_at "sx"
  refine x_kIfE (fun h => ?_) (fun h => ?_)
  · walk_at "sx"
    refine c_pick rfl ht1 (by decide) fun r t2 hr ht2 => ?_
    walk_at "sx"
    exact hk (1 + r) t2 (by omega) (by have h30 : r < 30 := hr; omega) ht2
  · walk_at "sx"
    refine c_pick rfl ht1 (by decide) fun r t2 hr ht2 => ?_
    walk_at "sx"
    exact hk (1 + r) t2 (by omega) (by have h7 : r < 7 := hr; omega) ht2
end K02
namespace Dl
open PySem PySem.Spec L2
/-! ### all pairings, by the law's own going through -/
/-- whom a person may have, behind a row -/
def mineL (W : List (List Nat)) (k : Nat) (row : List Nat) : List Nat :=
  if 0 < ((List.range k).filter fun x => decide (row.getD x 0 = k)).length then (List.range k).filter fun x => decide (row.getD x 0 = k) else k :: rowW W k
def stepR (W : List (List Nat)) (k : Nat) (row : List Nat) : List (List Nat) := ((mineL W k row).filter fun x => decide (k ≤ x) || decide (row.getD x 0 = k)).map fun x => row ++ [x]
def allR (W : List (List Nat)) : Nat → List (List Nat)
  | 0 => [[]]
  | k + 1 => (allR W k).flatMap (stepR W k)
def allP (W : List (List Nat)) : List (List Nat) := (allR W W.length).filter fun r => (List.range W.length).all fun x => decide (r.getD (r.getD x 0) 0 = x)
theorem getD_app {l : List Nat} {x i : Nat} : (l ++ [x]).getD i 0 = if i < l.length then l.getD i 0 else if i = l.length then x else 0 := by
  rw [List.getD_eq_getElem?_getD]
  by_cases h : i < l.length
  · rw [if_pos h, List.getElem?_append_left h, List.getD_eq_getElem?_getD]
  · rw [if_neg h, List.getElem?_append_right (by omega)]
    by_cases h2 : i = l.length
    · subst h2; simp
    · rw [if_neg h2, List.getElem?_eq_none (by simp; omega)]; rfl
theorem mem_mine {W : List (List Nat)} (o : OkW W) {k x : Nat} {row : List Nat} (hk : k < W.length) (hr : ∀ i, i < k → row.getD i 0 ∈ rowP W i) (h : x ∈ mineL W k row) : x < W.length ∧ x ∈ rowP W k := by
  unfold mineL at h
  split at h
  · obtain ⟨h1, h2⟩ := List.mem_filter.mp h
    have h1 := List.mem_range.mp h1
    have h2 := of_decide_eq_true h2
    refine ⟨by omega, ?_⟩
    have := hr x h1
    rw [h2] at this
    unfold rowP at this
    rcases List.mem_append.mp this with z | z
    · exact rowP_row (o.sym (by omega) z)
    · simp at z; omega
  · rcases List.mem_cons.mp h with rfl | h
    · exact ⟨hk, rowP_self W x⟩
    · exact ⟨o.lt hk h, rowP_row h⟩
theorem allR_ok {W : List (List Nat)} (o : OkW W) : ∀ k, k ≤ W.length → ∀ r ∈ allR W k, r.length = k ∧ ∀ i, i < k → r.getD i 0 < W.length ∧ r.getD i 0 ∈ rowP W i
  | 0, _, r, h => by
    simp [allR] at h
    subst h
    exact ⟨rfl, fun i hi => by omega⟩
  | k + 1, hk, r, h => by
    obtain ⟨r0, h0, h1⟩ := List.mem_flatMap.mp h
    obtain ⟨x, hx, rfl⟩ := List.mem_map.mp h1
    obtain ⟨a, b⟩ := allR_ok o k (by omega) r0 h0
    refine ⟨by simp [a], fun i hi => ?_⟩
    rw [getD_app, a]
    by_cases hik : i < k
    · rw [if_pos hik]; exact b i hik
    · rw [if_neg hik, if_pos (by omega)]
      have : i = k := by omega
      subst this
      exact mem_mine o (by omega) (fun i hi => (b i hi).2) (List.mem_filter.mp hx).1
theorem mine_len {W : List (List Nat)} (o : OkW W) {k : Nat} {row : List Nat} (hk : k < W.length) : (mineL W k row).length ≤ W.length := by
  unfold mineL
  split
  · have := List.length_filter_le (fun x => decide (row.getD x 0 = k)) (List.range k)
    rw [List.length_range] at this; omega
  · have h := o.rowP hk
    have h2 : (k :: rowW W k).Nodup := List.nodup_cons.mpr ⟨(o.rows k hk).2.1, (o.rows k hk).2.2⟩
    exact Nodup_le h2 fun x hx => by
      rcases List.mem_cons.mp hx with rfl | hx
      · exact hk
      · exact o.lt hk hx
theorem step_len {W : List (List Nat)} (o : OkW W) {k : Nat} {row : List Nat} (hk : k < W.length) : (stepR W k row).length ≤ W.length := by
  unfold stepR
  rw [List.length_map]
  exact Nat.le_trans (List.length_filter_le _ _) (mine_len o hk)
theorem flat_len {α β : Type} {f : α → List β} {n : Nat} : ∀ {l : List α}, (∀ x ∈ l, (f x).length ≤ n) → (l.flatMap f).length ≤ l.length * n
  | [], _ => by simp
  | x :: l, h => by
    have h1 := h x (by simp)
    have h2 := flat_len (l := l) fun y hy => h y (List.mem_cons_of_mem _ hy)
    rw [List.flatMap_cons, List.length_append, List.length_cons, Nat.succ_mul]; omega
theorem allR_len {W : List (List Nat)} (o : OkW W) (h7 : W.length ≤ 7) : ∀ k, k ≤ W.length → (allR W k).length ≤ 7 ^ k
  | 0, _ => by simp [allR]
  | k + 1, hk => by
    have h := allR_len o h7 k (by omega)
    have h2 : (allR W (k + 1)).length ≤ (allR W k).length * 7 := flat_len fun r _ => Nat.le_trans (step_len o (by omega)) h7
    calc (allR W (k + 1)).length ≤ (allR W k).length * 7 := h2
      _ ≤ 7 ^ k * 7 := Nat.mul_le_mul_right 7 h
      _ = 7 ^ (k + 1) := (Nat.pow_succ 7 k).symm
theorem pow7 {k : Nat} (h : k ≤ 7) : 7 ^ k ≤ 823543 := Nat.le_trans (Nat.pow_le_pow_right (by decide) h) (by decide)
theorem range_getD {k i : Nat} (h : i < k) : (List.range k).getD i 0 = i := by rw [List.getD_eq_getElem?_getD, List.getElem?_range h]; rfl
theorem allR_id {W : List (List Nat)} : ∀ k, List.range k ∈ allR W k
  | 0 => by simp [allR]
  | k + 1 => by
    refine List.mem_flatMap.mpr ⟨List.range k, allR_id k, List.mem_map.mpr ⟨k, List.mem_filter.mpr ⟨?_, ?_⟩, (List.range_succ).symm⟩⟩
    · unfold mineL
      rw [if_neg]
      · simp
      · rw [List.filter_eq_nil_iff.mpr]
        · simp
        · intro x hx
          have hx := List.mem_range.mp hx
          rw [range_getD hx]; simp; omega
    · simp
theorem allP_pair {W : List (List Nat)} (o : OkW W) {r : List Nat} (h : r ∈ allP W) : PairL W r := by
  obtain ⟨h1, h2⟩ := List.mem_filter.mp h
  obtain ⟨a, b⟩ := allR_ok o _ (Nat.le_refl _) r h1
  refine ⟨a, fun i hi => (b i hi).1, fun i hi => (b i hi).2, fun i hi => ?_⟩
  have := List.all_eq_true.mp h2 i (List.mem_range.mpr hi)
  exact of_decide_eq_true this
theorem allP_id (W : List (List Nat)) : List.range W.length ∈ allP W := by
  refine List.mem_filter.mpr ⟨allR_id _, List.all_eq_true.mpr fun x hx => ?_⟩
  have hx := List.mem_range.mp hx
  rw [range_getD hx, range_getD hx]; simp
def S_law_all (_ : CA) : DSp := pureS fun ds r => ∃ W, ds = [wishesD W] ∧ OkW W ∧ W.length ≤ 7 ∧ r = .lst true ((allP W).map tNat)
theorem clean_ints (l : List Nat) : cleanD.cleanL (nL l) = true := by
  induction l with
  | nil => simp [cleanD.cleanL]
  | cons a l ih => simp only [List.map_cons, cleanD.cleanL, ih, cleanD, Bool.and_self]
theorem clean_rows (P : List (List Nat)) : cleanD.cleanL (P.map tNat) = true := by
  induction P with
  | nil => simp [cleanD.cleanL]
  | cons a l ih => simp only [List.map_cons, cleanD.cleanL, ih, cleanD, clean_ints, Bool.and_self]
theorem c_all {ρ : DEnv} {K : DEnv → D → Prop} {W : List (List Nat)} {ca : CA} (o : OkW W) (h7 : W.length ≤ 7) (q : K ρ (.lst true ((allP W).map tNat))) : cQ 1 (S_law_all ca) K ρ [wishesD W] :=
  c_pure rfl ⟨W, rfl, o, h7, rfl⟩ (by unfold okD; simp only [cleanD, clean_rows, Bool.or_true]) q
theorem frz_rows (P : List (List Nat)) : fz (.lst true (P.map tNat)) = .lst false (P.map tNat) := by
  show frz (.lst true (P.map tNat)) = _
  rw [frz, frzL_map]; exact fun _ => rfl
theorem isFz_rows (P : List (List Nat)) : (P.map tNat).all isFz = true := by rw [List.all_map, List.all_eq_true]; intro _ _; rfl
/-! ### pairings by the law's own look -/
def S_law_is_pairing (_ : CA) : DSp := relS (fun ds => ∃ W d, ds = [wishesD W, d] ∧ OkW W ∧ plain1 d) fun ds r => ∃ W d b, ds = [wishesD W, d] ∧ (b = true ↔ PairD W d) ∧ r = .bl b
theorem c_law_is_pairing {ρ : DEnv} {K : DEnv → D → Prop} {W : List (List Nat)} {d : D} {ca : CA} (o : OkW W) (hp : plain1 d) (q : ∀ b, (b = true ↔ PairD W d) → K ρ (.bl b)) : cQ 2 (S_law_is_pairing ca) K ρ [wishesD W, d] :=
  c_rel rfl ⟨W, fz d, rfl, o, plain1_fz hp⟩ fun r ⟨W', d', b, e1, hb, hr⟩ => by
    simp only [List.map_cons, List.map_nil, List.cons.injEq, and_true] at e1
    obtain ⟨e1, rfl⟩ := e1
    cases wishesD_inj e1
    subst hr
    exact ⟨okD_bl _ _, q b (hb.trans PairD_fz)⟩
end Dl
namespace K02
open PySem PySem.Spec L2 Dl
theorem p_law_all {ca : CA} {ds kk kx} (h : S_law_all ca ds kk kx) : T_law_all (fnEnds (pinP [0]) ds kk kx) (ds.map some ++ List.replicate 6 none) := by
  obtain ⟨r, ⟨W, rfl, o, h7, rfl⟩, hk⟩ := h
  have h20 := sizeLine_ge20
  unfold T_law_all
  walk_at "sx"
  have e0 : fz (.lst true [.tup []]) = .lst false ((allR W 0).map tNat) := rfl
  rw [e0]
  walk_at "sx"
  refine for_nat (fun k ρ => k ≤ W.length ∧ ∃ a b c x y, ρ = [some (wishesD W), some (.lst false ((allR W k).map tNat)), a, b, c, x, y]) ⟨Nat.zero_le _, _, _, _, _, _, rfl⟩ ?_ ?_
  · rintro k _ ρ hk1 ⟨_, a, b, c, x, y, rfl⟩ N hN
    have hkn : k < W.length := by
      rcases Nat.lt_or_ge k W.length with z | z
      · exact z
      · rw [List.getElem?_eq_none (by simpa using z)] at hk1; cases hk1
    rw [List.getElem?_range hkn] at hk1
    cases hk1
    have hok := allR_ok o k (by omega)
    have hln := allR_len o h7 k (by omega)
    have hln1 := allR_len o h7 (k + 1) (by omega)
    have hp7 := pow7 (k := k) (by omega)
    have hp71 := pow7 (k := k + 1) (by omega)
    walk_at "sx"
    refine for_list (fun p _ ρ => ∃ c x y, ρ = [some (wishesD W), some (.lst false ((allR W k).map tNat)), some (nD k), some (.lst true ((p.flatMap (stepR W k)).map tNat)), c, x, y]) ⟨_, _, _, rfl⟩ ?_ ?_
    · rintro p row r ρ e ⟨c, x, y, rfl⟩ N2 hN2
      obtain ⟨hrl, hrow⟩ := hok row (by rw [e]; simp)
      have hpl : (p.flatMap (stepR W k)).length ≤ p.length * 7 := flat_len fun r _ => Nat.le_trans (step_len o hkn) h7
      have hpl2 : p.length < (allR W k).length := by rw [e, List.length_append, List.length_cons]; omega
      walk_at "sx"
      refine lc_filter (enc := fun (i : Nat) => D.int (i : Int)) (xs := List.range k) (fun x => decide (row.getD x 0 = k)) (fun (x : Nat) => D.int (x : Int)) (by rw [List.length_range]; omega) (fun x hx Q q1 q2 => ?_) ?_
      · have hx := List.mem_range.mp hx
        walk_at "sx"
        refine x_kC (fun h => ?_) (fun h => q2 h)
        walk_at "sx"
        exact q1 h
      walk_at "sx"
      generalize hR : dnLoop N2 _ = kR
      have hkR : ∀ ρ, N2 ρ → kR.nx ρ := fun ρ h => by rw [← hR]; exact h
      have hml := mine_len o (row := row) hkn
      have hmm := fun x h => mem_mine (x := x) o (row := row) hkn (fun i hi => (hrow i hi).2) h
      have inner : ∀ six : D, forD (gN 5) (dIfS (dOr (dTest (dOp2 oGe (dNameV 5) (dNameV 2))) (dTest (dOp2 oEq (dOp2 oIx (dNameV 4) (dNameV 5)) (dNameV 2))))
          (dDrop (dLm "list" mAppend 3 (dCons (dOp2 oAdd (dNameV 4) (dOpL oTup (dCons (dNameV 5) dNil))) dNil))) dNext) kR (nL (mineL W k row))
          [some (wishesD W), some (.lst false ((allR W k).map tNat)), some (nD k), some (.lst true ((p.flatMap (stepR W k)).map tNat)), some (tNat row), x, some six] := by
        intro six
        refine for_list (fun q r ρ => ∃ y, ρ = [some (wishesD W), some (.lst false ((allR W k).map tNat)), some (nD k), some (.lst true ((p.flatMap (stepR W k)).map tNat ++ ((q.filter fun x => decide (k ≤ x) || decide (row.getD x 0 = k)).map fun x => row ++ [x]).map tNat)), some (tNat row), y, some six]) ⟨x, by simp⟩ ?_ ?_
        · rintro q z r2 ρ e2 ⟨y, rfl⟩ N3 hN3
          have hz : z ∈ mineL W k row := by rw [e2]; simp
          have hql : q.length < (mineL W k row).length := by rw [e2, List.length_append, List.length_cons]; omega
          have hfl := List.length_filter_le (fun x => decide (k ≤ x) || decide (row.getD x 0 = k)) q
          have app : (decide (k ≤ z) || decide (row.getD z 0 = k)) = true → N3 [some (wishesD W), some (.lst false ((allR W k).map tNat)), some (nD k), some (.lst true (((p.flatMap (stepR W k)).map tNat ++ ((q.filter fun x => decide (k ≤ x) || decide (row.getD x 0 = k)).map fun x => row ++ [x]).map tNat) ++ [.tup (nL row ++ [nD z])])), some (tNat row), some (nD z), some six] := by
            intro hc
            have e5 : (((p.flatMap (stepR W k)).map tNat ++ ((q.filter fun x => decide (k ≤ x) || decide (row.getD x 0 = k)).map fun x => row ++ [x]).map tNat) ++ [D.tup (nL row ++ [nD z])]) = (p.flatMap (stepR W k)).map tNat ++ (((q ++ [z]).filter fun x => decide (k ≤ x) || decide (row.getD x 0 = k)).map fun x => row ++ [x]).map tNat := by
              rw [List.filter_append, List.map_append, List.map_append, List.filter_cons, if_pos hc]
              simp [tNat, nL]
            rw [e5]
            exact hN3 _ ⟨_, rfl⟩
          walk_at "sx"
          refine x_kOr (fun h3 => ?_) (fun h3 => ?_)
          · walk_at "sx"
            have hzk : z < row.length := by have := of_decide_eq_false h3; omega
            refine x_ixN hzk ?_
            walk_at "sx"
            refine x_kIfD (fun h4 => ?_) (fun h4 => ?_)
            · walk_at "sx"
              exact app (by rw [decide_eq_true h4, Bool.or_true])
            · walk_at "sx"
              have e5 : (q ++ [z]).filter (fun x => decide (k ≤ x) || decide (row.getD x 0 = k)) = q.filter fun x => decide (k ≤ x) || decide (row.getD x 0 = k) := by
                rw [List.filter_append, List.filter_cons, if_neg (by rw [h3, decide_eq_false h4]; simp), List.filter_nil, List.append_nil]
              exact hN3 _ ⟨_, by rw [e5]⟩
          · walk_at "sx"
            exact app (by rw [h3, Bool.true_or])
        · rintro ρ ⟨y, rfl⟩
          have e6 : (p.flatMap (stepR W k)).map tNat ++ (((mineL W k row).filter fun x => decide (k ≤ x) || decide (row.getD x 0 = k)).map fun x => row ++ [x]).map tNat = ((p ++ [row]).flatMap (stepR W k)).map tNat := by
            rw [List.flatMap_append, List.map_append]
            simp only [List.flatMap_cons, List.flatMap_nil, List.append_nil]
            rfl
          rw [e6]
          exact hkR _ (hN2 _ ⟨_, _, _, rfl⟩)
      refine x_kIfED (fun h1 => ?_) (fun h1 => ?_)
      · have h1' : 0 < ((List.range k).filter fun x => decide (row.getD x 0 = k)).length := by omega
        have em : ((List.range k).filter fun x => decide (row.getD x 0 = k)) = mineL W k row := by unfold mineL; rw [if_pos h1']
        walk_at "sx"
        rw [em]
        exact inner _
      · have h1' : ¬ 0 < ((List.range k).filter fun x => decide (row.getD x 0 = k)).length := by omega
        have em : k :: rowW W k = mineL W k row := by unfold mineL; rw [if_neg h1']
        walk_at "sx"
        refine x_ixW hkn ?_
        have hl2 : (rowW W k).length ≤ 30 := o.len hkn
        walk_at "sx"
        have em2 : nD k :: nL (rowW W k) = nL (mineL W k row) := by rw [← em]; rfl
        rw [em2]
        exact inner _
    · rintro ρ ⟨c, x, y, rfl⟩
      walk_at "sx"
      refine x_nameE1 rfl rfl ?_
      have e2 : frz (.lst true (((allR W k).flatMap (stepR W k)).map tNat)) = .lst false ((allR W (k + 1)).map tNat) := frz_rows _
      rw [e2]
      walk_at "sx"
      exact hN _ ⟨hkn, _, _, _, _, _, rfl⟩
  · rw [List.length_range]
    rintro ρ ⟨_, a, b, c, x, y, rfl⟩
    have hok := allR_ok o _ (Nat.le_refl _)
    have hln := allR_len o h7 _ (Nat.le_refl _)
    have hp7 := pow7 h7
    walk_at "sx"
    refine lc_filter (enc := tNat) (xs := allR W W.length) (fun r => (List.range W.length).all fun x => decide (r.getD (r.getD x 0) 0 = x)) tNat (by omega) (fun r hr Q q1 q2 => ?_) ?_
    · obtain ⟨hrl, hrow⟩ := hok r hr
      walk_at "sx"
      refine lc_map (enc := fun (i : Nat) => D.int (i : Int)) (xs := List.range W.length) (fun x => .bl (decide (r.getD (r.getD x 0) 0 = x))) (by rw [List.length_range]; omega) (fun x hx Q q => ?_) ?_
      · have hx := List.mem_range.mp hx
        have h3 := (hrow x hx).1
        walk_at "sx"
        exact q
      walk_at "sx"
      refine x_kC (fun h => ?_) (fun h => q2 h)
      walk_at "sx"
      exact q1 h
    walk_at "sx"
    exact hk
end K02
namespace Dl
open PySem PySem.Spec L2
def S_law_drawn (_ : CA) : DSp := fun ds k _ => ∃ (t : D) (W : List (List Nat)), ds = [t, wishesD W] ∧ TapeOk t ∧ OkW W ∧ ∀ p t', PairL W p → TapeOk t' → k (tNat p) [t', wishesD W]
def S_law_rank (_ : CA) : DSp := pureS fun ds r => ∃ W p x, ds = [wishesD W, nD p, nD x] ∧ OkW W ∧ p < W.length ∧ x ∈ rowP W p ∧ r = nD (rk W p x)
def S_law_breaking (_ : CA) : DSp := pureS fun ds r => ∃ W p, ds = [wishesD W, tNat p] ∧ OkW W ∧ PairL W p ∧ r = .tup ((brkL W p).map prN)
def S_law_is_flag (_ : CA) : DSp := pureS fun ds r => ∃ b c, ds = [.bl b, .bl c] ∧ r = .bl (decide (b = c))
section
variable {ρ : DEnv} {K : DEnv → D → Prop} {kx : Value → List (Str × D) → DEnv → Prop} {m n p x : Nat} {t : D} {ca : CA} {W : List (List Nat)} {q : List Nat} {b c : Bool}
theorem c_drawn (h0 : ρ[m]? = some (some t)) (ht : TapeOk t) (o : OkW W) (q : ∀ p t', PairL W p → TapeOk t' → K (ρ.set m (some t')) (tNat p)) : cI 2 (S_law_drawn ca) m K kx ρ [wishesD W] :=
  x_cI h0 rfl ⟨t, W, rfl, ht, o, fun p t' hp ht' => q p t' hp ht'⟩
theorem c_law_rank (o : OkW W) (hp : p < W.length) (hx : x ∈ rowP W p) (h : K ρ (nD (rk W p x))) : cQ 3 (S_law_rank ca) K ρ [wishesD W, .int (p : Nat), .int (x : Nat)] := c_pure rfl ⟨W, p, x, rfl, o, hp, hx, rfl⟩ (okD_int _ _) h
theorem c_law_breaking (o : OkW W) (hp : PairL W q) (h : K ρ (.tup ((brkL W q).map prN))) : cQ 2 (S_law_breaking ca) K ρ [wishesD W, tNat q] := c_pure rfl ⟨W, q, rfl, o, hp, rfl⟩ (okD_prs _ _) h
theorem c_is_flag (h : K ρ (.bl (decide (b = c)))) : cQ 2 (S_law_is_flag ca) K ρ [.bl b, .bl c] := c_pure rfl ⟨b, c, rfl, rfl⟩ (okD_bl _ _) h
theorem idxD_nat {l : List Nat} {x : Nat} (h : x ∈ l) : idxD (nL l) (nD x) = some (l.idxOf x) := by
  unfold idxD
  rw [nL_iL, toPs_ints]
  show (if SeqAt.shaped (.list ((l.map fun (n : Nat) => (n : Int)).map PyData.int)) = true ∧ SeqAt.shaped (.int (x : Int)) = true then _ else none) = _
  rw [if_pos ⟨shaped_ints _, shaped_int _⟩, List.map_map]
  induction l with
  | nil => cases h
  | cons y l ih =>
    simp only [List.map_cons, Function.comp, List.findIdx?_cons, eqv_int]
    by_cases e : y = x
    · subst e; simp
    · have e2 : ((y : Int) == (x : Int)) = false := by simpa using fun z => e (by omega)
      have hx : x ∈ l := by
        rcases List.mem_cons.mp h with z | z
        · exact absurd z.symm e
        · exact z
      have e3 : (y == x) = false := by simpa using e
      rw [e2, if_neg (by simp), ih hx, List.idxOf_cons, e3]
      rfl
theorem x_index {l : List Nat} {F : D → Prop} (h : x ∈ l) (k : F (nD (l.idxOf x))) : oIndex (tNat l) [nD x] F := by
  show (match idxD (nL l) (nD x) with | some n => F (.int (n : Nat)) | none => False)
  rw [idxD_nat h]; exact k
def kMq (g : D → Bool) (f : D → List D → (D → Prop) → Prop) (Tl : LT) (K : DEnv → D → Prop) (ρ : DEnv) (d : D) : Prop := g d = true ∧ Tl ρ fun ρ2 ds => f d ds (K ρ2)
theorem x_mq {g : D → Bool} {f : D → List D → (D → Prop) → Prop} {T : ET} {Tl : LT} (h : T ρ (kMq g f Tl K)) : dMq g f T Tl ρ K := h
theorem x_kMq {g : D → Bool} {f : D → List D → (D → Prop) → Prop} {Tl : LT} {d : D} (hg : g d = true) (h : Tl ρ fun ρ2 ds => f d ds (K ρ2)) : kMq g f Tl K ρ d := ⟨hg, h⟩
end
theorem eqD_bl (b c : Bool) : eqD (.bl b) (.bl c) = some (decide (b = c)) := by
  show (if (SeqAt.shaped (.bool b) && SeqAt.shaped (.bool c)) = true then some (PyData.eqv (.bool b) (.bool c)) else none) = _
  have : ∀ z : Bool, SeqAt.shaped (.bool z) = true := fun z => by simp [SeqAt.shaped, PyData.canLay0, PyData.depth]
  rw [this, this]
  cases b <;> cases c <;> simp [PyData.eqv]
theorem x_eqB {b c : Bool} {F : D → Prop} (h : F (.bl (decide (b = c)))) : oEq (.bl b) (.bl c) F := by show optK (eqD _ _) F; rw [eqD_bl]; exact h
theorem PairL.id (W : List (List Nat)) : PairL W (List.range W.length) :=
  ⟨by simp, fun i h => by rw [range_getD h]; exact h, fun i h => by rw [range_getD h]; exact rowP_self W i, fun i h => by rw [range_getD h, range_getD h]⟩
theorem getD_set {l : List Nat} {i j x : Nat} (h : i < l.length) : (l.set i x).getD j 0 = if i = j then x else l.getD j 0 := by
  rw [List.getD_eq_getElem?_getD, List.getElem?_set, List.getD_eq_getElem?_getD]
  by_cases e : i = j
  · subst e; simp [h]
  · simp [e]
theorem PairL.tie {W : List (List Nat)} {f : List Nat} (h : PairL W f) (o : OkW W) {a b : Nat} (ha : a < W.length) (hb : b ∈ rowW W a) (fa : f.getD a 0 = a) (fb : f.getD b 0 = b) : PairL W ((f.set a b).set b a) := by
  have hbl := o.lt ha hb
  have hne := o.ne ha hb
  have hl := h.len
  have r : ∀ j, ((f.set a b).set b a).getD j 0 = if b = j then a else if a = j then b else f.getD j 0 := fun j => by
    rw [getD_set (by rw [List.length_set]; omega), getD_set (by omega)]
  have ff : ∀ i, i < W.length → i ≠ a → i ≠ b → f.getD i 0 ≠ a ∧ f.getD i 0 ≠ b := fun i hi na nb => by
    have := h.inv i hi
    exact ⟨fun e => by rw [e, fa] at this; omega, fun e => by rw [e, fb] at this; omega⟩
  refine ⟨by simp [hl], fun i hi => ?_, fun i hi => ?_, fun i hi => ?_⟩
  · rw [r]; split
    · exact ha
    · split
      · exact hbl
      · exact h.lt i hi
  · rw [r]; split
    · rename_i e; subst e; exact rowP_row (o.sym ha hb)
    · split
      · rename_i e; subst e; exact rowP_row hb
      · exact h.ok i hi
  · rw [r i]
    by_cases e1 : b = i
    · subst e1; rw [if_pos rfl, r, if_neg hne, if_pos rfl]
    · rw [if_neg e1]
      by_cases e2 : a = i
      · subst e2; rw [if_pos rfl, r, if_pos rfl]
      · have := ff i hi (fun z => e2 z.symm) (fun z => e1 z.symm)
        rw [if_neg e2, r, if_neg (fun z => this.2 z.symm), if_neg (fun z => this.1 z.symm)]
        exact h.inv i hi
end Dl
namespace K02
open PySem PySem.Spec L2 Dl
theorem p_law_is_pairing {ca : CA} {ds kk kx} (h : S_law_is_pairing ca ds kk kx) : T_law_is_pairing (fnEnds (pinP [0, 1]) ds kk kx) (ds.map some ++ List.replicate 3 none) := by
  obtain ⟨⟨W, d, rfl, o, hp, hp1⟩, hk⟩ := h
  replace hk : ∀ b, (b = true ↔ PairD W d) → kk (.bl b) [wishesD W, d] := fun b hb => hk _ ⟨W, d, b, rfl, hb, rfl⟩
  have h20 := sizeLine_ge20
  unfold T_law_is_pairing
  walk_at "sx"
  by_cases ht : ∃ l, d = .tup l
  case neg =>
    refine x_isi (b := false) (by cases d <;> first | rfl | exact (ht ⟨_, rfl⟩).elim | exact absurd hp (by simp [plainD, plB])) ?_
    walk_at "sx"
    refine x_kOr (fun h => by cases h) (fun _ => ?_)
    walk_at "sx"
    exact hk _ ⟨nofun, fun ⟨p, h, _⟩ => (ht ⟨_, h⟩).elim⟩
  obtain ⟨l, rfl⟩ := ht
  obtain ⟨hpl, hll⟩ := hp1 l rfl
  walk_at "sx"
  refine x_kOr (fun _ => ?_) (fun h => by cases h)
  walk_at "sx"
  refine x_kIfD (fun h1 => ?_) (fun h1 => ?_)
  · walk_at "sx"
    refine hk _ ⟨nofun, ?_⟩
    rintro ⟨p, e, h⟩
    cases e
    have := h.len
    simp at h1; omega
  have h1 : l.length = W.length := by simpa using h1
  walk_at "sx"
  rw [enumD_id]
  refine for_nat (fun i ρ => (∃ a b, ρ = [some (wishesD W), some (.tup l), some (nD W.length), a, b]) ∧ ∀ j, j < i → ∃ x : Nat, l[j]? = some (nD x) ∧ x < W.length ∧ x ∈ rowP W j) ⟨⟨_, _, rfl⟩, fun _ h => by omega⟩ ?_ ?_
  · rintro i ⟨a, d2⟩ ρ hi ⟨⟨a1, b1, rfl⟩, hB⟩ N hN
    rw [enL_get] at hi
    cases e2 : l[i]? with
    | none => rw [e2] at hi; cases hi
    | some d3 =>
    rw [e2] at hi
    simp only [Option.map_some, Option.some.injEq, Prod.mk.injEq, Nat.zero_add] at hi
    obtain ⟨rfl, rfl⟩ := hi
    have hl : i < l.length := (List.getElem?_eq_some_iff.mp e2).1
    have hd := hpl d3 (List.mem_of_getElem? e2)
    have no : (∀ x : Nat, d3 = nD x → x < W.length → x ∈ rowP W i → False) → kk (.bl false) [wishesD W, .tup l] := fun n => hk _ ⟨nofun, by
      rintro ⟨p, e, h⟩
      cases D.tup.inj e
      have hil : i < p.length := by rw [h.len]; omega
      rw [List.getElem?_map, getD_some (z := 0) hil] at e2
      exact (n _ (Option.some.inj e2).symm (h.lt i (by omega)) (h.ok i (by omega))).elim⟩
    walk_at "sx"
    by_cases hint : ∃ i, d3 = .int i
    case neg =>
      obtain ⟨b, k1, c, k2, k3⟩ := isi_int hd
      have k4 : isI d3 = false := by cases d3 <;> first | rfl | exact (hint ⟨_, rfl⟩).elim
      refine x_isi k1 ?_
      walk_at "sx"
      refine x_kOr (fun h => ?_) (fun h => ?_)
      · walk_at "sx"
        refine x_isi k2 ?_
        walk_at "sx"
        have : c = true := by cases b <;> cases c <;> simp_all
        subst this
        refine x_kOr (fun h => by cases h) (fun _ => ?_)
        walk_at "sx"
        exact no fun x e => (hint ⟨_, e⟩).elim
      · walk_at "sx"
        exact no fun x e => (hint ⟨_, e⟩).elim
    obtain ⟨z, rfl⟩ := hint
    walk_at "sx"
    refine x_kOr (fun _ => ?_) (fun h => by cases h)
    walk_at "sx"
    refine x_kOr (fun _ => ?_) (fun h => by cases h)
    walk_at "sx"
    refine x_kChainE (decide (z < (W.length : Int))) ?_ ?_
    · intro _ Q q
      walk_at "sx"
      exact q
    walk_at "sx"
    refine x_kIf (fun h => ?_) (fun h => ?_)
    · walk_at "sx"
      refine no fun x e hx _ => ?_
      cases e
      simp at h; omega
    simp only [Bool.not_eq_false', Bool.and_eq_true, decide_eq_true_eq] at h
    obtain ⟨x, rfl⟩ : ∃ x : Nat, z = x := ⟨z.toNat, by omega⟩
    have hx : x < W.length := by omega
    have good : x ∈ rowP W i → N [some (wishesD W), some (.tup l), some (nD W.length), some (nD i), some (nD x)] := fun hm => hN _ ⟨⟨_, _, rfl⟩, fun j hj => by
      by_cases e : j = i
      · subst e; exact ⟨x, e2, hx, hm⟩
      · exact hB j (by omega)⟩
    walk_at "sx"
    refine x_kAnd (fun h2 => ?_) (fun h2 => ?_)
    · have h2 := of_decide_eq_true h2
      walk_at "sx"
      refine x_ixW (by omega) ?_
      walk_at "sx"
      refine x_kIfD (fun h3 => ?_) (fun h3 => ?_)
      · walk_at "sx"
        refine no fun y e _ hm => ?_
        have : y = x := by cases e; rfl
        subst this
        unfold rowP at hm
        rcases List.mem_append.mp hm with k | k
        · exact h3 k
        · simp at k; omega
      · walk_at "sx"
        exact good (rowP_row (by simpa using h3))
    · have h2 := of_decide_eq_false h2
      walk_at "sx"
      refine good ?_
      have : x = i := by omega
      subst this
      exact rowP_self W x
  rw [enL_length]
  rintro ρ ⟨⟨a, b, rfl⟩, hB⟩
  have hall : l.all (isB W.length) = true := by
    rw [List.all_eq_true]
    intro d hd
    obtain ⟨j, hj, rfl⟩ := List.mem_iff_getElem.mp hd
    obtain ⟨x, e, hx, _⟩ := hB j hj
    rw [List.getElem?_eq_getElem hj] at e
    rw [Option.some.inj e]
    simp [isB]; omega
  obtain ⟨p, rfl, hpn⟩ := isB_nats hall
  have hpl2 : p.length = W.length := by simpa using h1
  have hat : ∀ j, j < p.length → p.getD j 0 < W.length ∧ p.getD j 0 ∈ rowP W j := fun j hj => by
    obtain ⟨x, e, hx, hm⟩ := hB j (by simpa using hj)
    rw [List.getElem?_map, getD_some (z := 0) hj] at e
    have : p.getD j 0 = x := by
      have := Option.some.inj e
      injection this with this; omega
    rw [this]; exact ⟨hx, hm⟩
  walk_at "sx"
  refine lc_map (enc := enC fun (x : Nat) => D.int (x : Int)) (fun q : Nat × Nat => .bl (decide (p.getD q.2 0 = q.1))) (xs := enL 0 p) (by rw [enL_length]; simp at hll; omega) ?_ ?_
  · rintro ⟨i, x⟩ hi Q q
    have hi := mem_enL.mp hi
    have hx := hpn x (List.mem_of_getElem? hi)
    walk_at "sx"
    exact q
  walk_at "sx"
  refine hk _ ?_
  rw [List.all_eq_true]
  constructor
  · intro h
    refine ⟨p, rfl, hpl2, fun i hi => (hat i (by omega)).1, fun i hi => (hat i (by omega)).2, fun i hi => ?_⟩
    have := h (i, p.getD i 0) (mem_enL.mpr (getD_some (by omega)))
    exact of_decide_eq_true this
  · rintro ⟨r, e, h⟩ ⟨i, x⟩ hi
    cases nL_inj (D.tup.inj e)
    have hi := mem_enL.mp hi
    have hl : i < p.length := (List.getElem?_eq_some_iff.mp hi).1
    have : x = p.getD i 0 := by rw [getD_some (z := 0) hl] at hi; exact (Option.some.inj hi).symm
    subst this
    exact decide_eq_true (h.inv i (by omega))
theorem p_law_rank {ca : CA} {ds kk kx} (h : S_law_rank ca ds kk kx) : T_law_rank (fnEnds (pinP [0, 1, 2]) ds kk kx) (ds.map some ++ List.replicate 0 none) := by
  obtain ⟨r, ⟨W, p, x, rfl, o, hp, hx, rfl⟩, hk⟩ := h
  unfold T_law_rank
  walk_at "sx"
  refine x_kIfED (fun h => ?_) (fun h => ?_)
  · subst h
    walk_at "sx"
    refine x_ixW hp ?_
    walk_at "sx"
    have : rk W x x = (rowW W x).length := by
      unfold rk rowP
      rw [List.idxOf_append, if_neg (o.rows x hp).2.1]; simp
    rw [this] at hk
    exact hk
  · have hx2 : x ∈ rowW W p := by
      unfold rowP at hx
      rcases List.mem_append.mp hx with z | z
      · exact z
      · simp at z; omega
    walk_at "sx"
    refine x_mq ?_
    walk_at "sx"
    refine x_ixW hp ?_
    refine x_kMq rfl ?_
    walk_at "sx"
    refine x_index hx2 ?_
    walk_at "sx"
    have : rk W p x = (rowW W p).idxOf x := by unfold rk rowP; rw [List.idxOf_append, if_pos hx2]
    rw [this] at hk
    exact hk
theorem p_law_is_flag {ca : CA} {ds kk kx} (h : S_law_is_flag ca ds kk kx) : T_law_is_flag (fnEnds (pinP [0, 1]) ds kk kx) (ds.map some ++ List.replicate 0 none) := by
  obtain ⟨r, ⟨b, c, rfl, rfl⟩, hk⟩ := h
  unfold T_law_is_flag
  walk_at "sx"
  refine x_kAndV (fun _ => ?_) (fun h => by cases h)
  walk_at "sx"
  refine x_eqB ?_
  walk_at "sx"
  exact hk
end K02
namespace K02
open PySem PySem.Spec L2 Dl
theorem p_law_drawn {ca : CA} {ds kk kx} (h : S_law_drawn ca ds kk kx) : T_law_drawn (S_law_mixed ca) (S_law_pick ca) (S_law_any ca) (fnEnds (pinP [0, 1]) ds kk kx) (ds.map some ++ List.replicate 5 none) := by
  obtain ⟨t, W, rfl, ht, o, hk⟩ := h
  have h20 := sizeLine_ge20
  have htop := o.top
  unfold T_law_drawn
  walk_at "sx"
  refine x_dRg1 ?_
  walk_at "sx"
  refine ⟨by unfold RgOk; omega, ?_⟩
  rw [show (((W.length : Nat) : Int) - 0).toNat = W.length by omega, rangeD_nat]
  walk_at "sx"
  refine c_mixedL rfl ht (fz_nL _) (isFz_nL _) (by simp; omega) fun l' t1 hp ht1 => ?_
  obtain ⟨r, rfl, hr⟩ := perm_nL hp
  walk_at "sx"
  refine for_list (fun _ _ ρ => ∃ t f x y z, ρ = [some t, some (wishesD W), some (.lst true (nL f)), some (.lst false (nL r)), x, y, z] ∧ TapeOk t ∧ PairL W f) ⟨t1, _, _, _, _, rfl, ht1, PairL.id W⟩ ?_ ?_
  · rintro p a q ρ e ⟨t, f, x, y, z, rfl, ht, hf⟩ N hN
    have ha : a < W.length := by
      have : a ∈ r := by rw [e]; simp
      exact List.mem_range.mp (hr.mem_iff.mp this)
    have hfl := hf.len
    have hrow := o.rows a ha
    have hrl := o.len ha
    walk_at "sx"
    refine x_ixW ha ?_
    walk_at "sx"
    refine lc_filter (enc := fun (i : Nat) => D.int (i : Int)) (xs := rowW W a) (fun x => decide (f.getD x 0 = x)) (fun (x : Nat) => D.int (x : Int)) (by omega) (fun x hx Q q1 q2 => ?_) ?_
    · have hx := hrow.1 x hx
      walk_at "sx"
      refine x_kC (fun h => ?_) (fun h => q2 h)
      walk_at "sx"
      exact q1 h
    have keep : ∀ t x y z, TapeOk t → N [some t, some (wishesD W), some (.lst true (nL f)), some (.lst false (nL r)), x, y, z] := fun t x y z ht => hN _ ⟨t, f, x, y, z, rfl, ht, hf⟩
    have hfr := List.length_filter_le (fun x => decide (f.getD x 0 = x)) (rowW W a)
    walk_at "sx"
    refine x_kAnd (fun h1 => ?_) (fun h1 => ?_)
    · have h1 := of_decide_eq_true h1
      walk_at "sx"
      refine x_kAnd (fun h2 => ?_) (fun h2 => ?_)
      · walk_at "sx"
        refine c_pick rfl ht (by decide) fun c t2 _ ht2 => ?_
        walk_at "sx"
        refine x_kIf (fun h3 => ?_) (fun h3 => ?_)
        · walk_at "sx"
          refine c_anyL rfl ht2 rfl (isFz_nL _) ⟨by rw [List.length_map]; have := of_decide_eq_true h2; omega, by rw [List.length_map]; omega⟩ fun v t3 hv ht3 => ?_
          obtain ⟨b, hb, rfl⟩ := List.mem_map.mp hv
          obtain ⟨hb1, hb2⟩ := List.mem_filter.mp hb
          have hbl := hrow.1 b hb1
          have h5 := hf.tie o ha hb1 h1 (of_decide_eq_true hb2)
          walk_at "sx"
          have e2 : ((nL f).set a (D.int (b : Int))).set b (nD a) = nL ((f.set a b).set b a) := by
            unfold nL; rw [List.map_set, List.map_set]
          rw [e2]
          exact hN _ ⟨t3, _, _, _, _, rfl, ht3, h5⟩
        · walk_at "sx"
          exact keep _ _ _ _ ht2
      · walk_at "sx"
        exact keep _ _ _ _ ht
    · walk_at "sx"
      exact keep _ _ _ _ ht
  · rintro ρ ⟨t, f, x, y, z, rfl, ht, hf⟩
    walk_at "sx"
    exact hk f t hf ht
theorem p_law_breaking {ca : CA} {ds kk kx} (h : S_law_breaking ca ds kk kx) : T_law_breaking (S_law_rank ca) (fnEnds (pinP [0, 1]) ds kk kx) (ds.map some ++ List.replicate 5 none) := by
  obtain ⟨r, ⟨W, p, rfl, o, hp, rfl⟩, hk⟩ := h
  have h20 := sizeLine_ge20
  have ht := o.top
  have hpl := hp.len
  unfold T_law_breaking
  walk_at "sx"
  let fnd : Nat → List (Nat × Nat) := fun i => ((List.range W.length).filter fun x => decide (x ∈ rowW W i ∧ i < x ∧ brk W p i x)).map fun x => (i, x)
  have fl : ∀ n, ((List.range n).flatMap fnd).length ≤ n * 30 := fun n => by
    have := flat_len (f := fnd) (n := 30) (l := List.range n) fun x _ => by
      show (List.map _ (List.filter _ _)).length ≤ 30
      rw [List.length_map]
      have := List.length_filter_le (fun y => decide (y ∈ rowW W x ∧ x < y ∧ brk W p x y)) (List.range W.length)
      rw [List.length_range] at this
      omega
    rwa [List.length_range] at this
  refine for_nat (fun i ρ => i ≤ W.length ∧ ∃ a b c d, ρ = [some (wishesD W), some (tNat p), some (.lst true (((List.range i).flatMap fnd).map prN)), a, b, c, d]) ⟨Nat.zero_le _, _, _, _, _, rfl⟩ ?_ ?_
  · rintro i _ ρ hi ⟨_, a1, b1, c1, d1, rfl⟩ N hN
    have hl : i < W.length := by
      rcases Nat.lt_or_ge i W.length with z | z
      · exact z
      · rw [List.getElem?_eq_none (by simpa using z)] at hi; cases hi
    rw [List.getElem?_range hl] at hi
    cases hi
    have hr := o.rows i hl
    have hrl := o.len hl
    have f1 := fl i
    walk_at "sx"
    refine x_ixW hl ?_
    walk_at "sx"
    refine lc_filter (enc := fun (i : Nat) => D.int (i : Int)) (xs := rowW W i) (fun x => decide (i < x)) (fun (x : Nat) => D.int (x : Int)) (by omega) (fun x hx Q q1 q2 => ?_) ?_
    · walk_at "sx"
      refine x_kC (fun h => ?_) (fun h => q2 h)
      walk_at "sx"
      exact q1 h
    walk_at "sx"
    refine x_sortedL (n := W.length) (hr.2.2.sublist List.filter_sublist) (fun x hx => hr.1 x (List.mem_filter.mp hx).1) ?_
    walk_at "sx"
    have es : srt W.length ((rowW W i).filter fun x => decide (i < x)) = (List.range W.length).filter fun x => decide (x ∈ rowW W i ∧ i < x) := by
      unfold srt
      refine List.filter_congr fun x _ => ?_
      rw [Bool.eq_iff_iff, decide_eq_true_iff, decide_eq_true_iff, List.mem_filter, decide_eq_true_iff]
    rw [es]
    refine for_list (fun q _ ρ => ∃ b c d, ρ = [some (wishesD W), some (tNat p), some (.lst true (((List.range i).flatMap fnd).map prN ++ ((q.filter fun x => decide (brk W p i x)).map fun x => (i, x)).map prN)), some (nD i), b, c, d]) ⟨b1, c1, d1, by simp⟩ ?_ ?_
    · rintro q x r2 ρ e ⟨b, c, d, rfl⟩ N2 hN2
      have hx : x ∈ (List.range W.length).filter fun x => decide (x ∈ rowW W i ∧ i < x) := by rw [e]; simp
      obtain ⟨hx1, hx2⟩ := List.mem_filter.mp hx
      have hx1 := List.mem_range.mp hx1
      have hx2 := of_decide_eq_true hx2
      have hql : q.length ≤ W.length := by
        have h3 := congrArg List.length e
        have h4 := List.length_filter_le (fun x => decide (x ∈ rowW W i ∧ i < x)) (List.range W.length)
        rw [List.length_append, List.length_cons] at h3
        rw [List.length_range] at h4
        omega
      have hfq := List.length_filter_le (fun x => decide (brk W p i x)) q
      walk_at "sx"
      refine c_law_rank o hl (rowP_row hx2.1) ?_
      walk_at "sx"
      refine c_law_rank o hl (hp.ok i hl) ?_
      walk_at "sx"
      refine c_law_rank o hx1 (rowP_row (o.sym hl hx2.1)) ?_
      walk_at "sx"
      refine c_law_rank o hx1 (hp.ok x hx1) ?_
      walk_at "sx"
      have ee : ((q ++ [x]).filter fun x => decide (brk W p i x)) = (q.filter fun x => decide (brk W p i x)) ++ if brk W p i x then [x] else [] := by
        rw [List.filter_append, List.filter_cons]; simp
      refine x_kAnd (fun h3 => ?_) (fun h3 => ?_)
      · have h3 : rk W i x < rk W i (p.getD i 0) := by have := of_decide_eq_true h3; omega
        walk_at "sx"
        refine x_kIfD (fun h4 => ?_) (fun h4 => ?_)
        · walk_at "sx"
          have hb : brk W p i x := ⟨h3, by omega⟩
          rw [if_pos hb] at ee
          have e5 : (((List.range i).flatMap fnd).map prN ++ ((q.filter fun x => decide (brk W p i x)).map fun x => (i, x)).map prN) ++ [D.tup [nD i, nD x]] = ((List.range i).flatMap fnd).map prN ++ (((q ++ [x]).filter fun x => decide (brk W p i x)).map fun x => (i, x)).map prN := by
            rw [ee]; simp [prN]
          rw [e5]
          exact hN2 _ ⟨_, _, _, rfl⟩
        · walk_at "sx"
          rw [if_neg (fun z => h4 (by have := z.2; omega)), List.append_nil] at ee
          exact hN2 _ ⟨_, _, _, by rw [ee]⟩
      · walk_at "sx"
        have h3 := of_decide_eq_false h3
        rw [if_neg (fun z => h3 (by have := z.1; omega)), List.append_nil] at ee
        exact hN2 _ ⟨_, _, _, by rw [ee]⟩
    · rintro ρ ⟨b, c, d, rfl⟩
      have e6 : ((List.range i).flatMap fnd).map prN ++ ((((List.range W.length).filter fun x => decide (x ∈ rowW W i ∧ i < x)).filter fun x => decide (brk W p i x)).map fun x => (i, x)).map prN = ((List.range (i + 1)).flatMap fnd).map prN := by
        rw [List.range_succ, List.flatMap_append, List.map_append]
        simp only [List.flatMap_cons, List.flatMap_nil, List.append_nil]
        congr 2
        show _ = List.map _ (List.filter _ _)
        rw [List.filter_filter]
        congr 1
        refine List.filter_congr fun x _ => ?_
        rw [Bool.eq_iff_iff, Bool.and_eq_true, decide_eq_true_iff, decide_eq_true_iff, decide_eq_true_iff]
        exact ⟨fun ⟨a, b, c⟩ => ⟨b, c, a⟩, fun ⟨a, b, c⟩ => ⟨c, a, b⟩⟩
      walk_at "sx"
      rw [e6]
      exact hN _ ⟨hl, _, _, _, _, rfl⟩
  · rw [List.length_range]
    rintro ρ ⟨_, a, b, c, d, rfl⟩
    walk_at "sx"
    refine x_tupleL (by rw [List.all_map, List.all_eq_true]; intro _ _; rfl) ?_
    walk_at "sx"
    exact hk
end K02
namespace Dl
open PySem PySem.Spec L2
/-! ### things that are judged -/
/-- a thing that may stand in a tuple -/
structure SmallOk (d : D) : Prop where
  fz : isFz d = true
  pl : plainD d
  ok : ∃ q, toP d = some q ∧ okP q = true ∧ q.depth ≤ 3 ∧ wtP q ≤ 5000
structure ThingOk (d : D) : Prop where
  fz : isFz d = true
  pl : plain1 d
  rep : ∃ s, RepD d s
theorem smalls : ∀ {l : List D}, (∀ d ∈ l, SmallOk d) → ∃ qs, toPs l = some qs ∧ okPs qs = true ∧ PyData.depthAll qs ≤ 3 ∧ wtPs qs ≤ l.length * 5002
  | [], _ => ⟨[], by simp [toPs], by simp [okPs], by simp [PyData.depthAll], by simp [wtPs]⟩
  | d :: l, h => by
    obtain ⟨q, h1, h2, h3, h4⟩ := (h d (by simp)).ok
    obtain ⟨qs, k1, k2, k3, k4⟩ := smalls (l := l) fun e he => h e (List.mem_cons_of_mem _ he)
    refine ⟨q :: qs, by simp only [toPs, h1, k1], by simp only [okPs, h2, k2, Bool.and_self], ?_, ?_⟩
    · simp only [PyData.depthAll]; omega
    · simp only [wtPs, List.length_cons]; omega
theorem small_int (i : Int) (h : i.natAbs.log2 < 1920) : SmallOk (.int i) := ⟨rfl, rfl, .int i, by simp [toP], by simp only [okP]; exact decide_eq_true h, by simp [PyData.depth], by simp only [wtP]; omega⟩
theorem log2_small {n : Nat} (h : n < 2 ^ 20) : n.log2 < 1920 := by
  rcases Nat.eq_zero_or_pos n with z | z
  · subst z; decide
  · have := (Nat.log2_lt (k := 20) (by omega)).mpr h; omega
theorem small_nat {n : Nat} (h : n < 2 ^ 20) : SmallOk (nD n) := small_int n (log2_small h)
theorem small_nats {l : List Nat} (h : ∀ x ∈ l, x < 2 ^ 20) : ∀ d ∈ nL l, SmallOk d := fun d hd => by
  obtain ⟨x, hx, rfl⟩ := List.mem_map.mp hd
  exact small_nat (h x hx)
theorem thing_tup {l : List D} (h : ∀ d ∈ l, SmallOk d) (hl : l.length ≤ 100) : ThingOk (.tup l) := by
  obtain ⟨qs, k1, k2, k3, k4⟩ := smalls h
  refine ⟨rfl, ⟨rfl, fun m e => ?_⟩, ?_⟩
  · cases e
    exact ⟨fun d hd => (h d hd).pl, by omega⟩
  · refine repD_of (q := .tuple qs) (by show (toPs l).map PyData.tuple = _; rw [k1]; rfl) (by simp only [okP]; exact k2) (by simp only [PyData.depth]; omega) (by simp only [wtP]; omega)
theorem thing_lst {l : List D} (h : ∀ d ∈ l, SmallOk d) (hl : l.length ≤ 100) : ThingOk (.lst false l) := by
  obtain ⟨qs, k1, k2, k3, k4⟩ := smalls h
  refine ⟨rfl, ⟨rfl, fun m e => by cases e⟩, ?_⟩
  refine repD_of (q := .list qs) (by show (toPs l).map PyData.list = _; rw [k1]; rfl) (by simp only [okP]; exact k2) (by simp only [PyData.depth]; omega) (by simp only [wtP]; omega)
theorem thing_of {d : D} (hz : isFz d = true) (hp : plainD d) (ht : ∀ l, d ≠ .tup l) {q : PyData} (h1 : toR d = some q) (h2 : okP q = true) (h3 : q.depth ≤ 64) (h4 : wtP q ≤ 2 ^ 24) : ThingOk d :=
  ⟨hz, ⟨hp, fun l e => absurd e (ht l)⟩, repD_of h1 h2 h3 h4⟩
theorem small_non : SmallOk .non := ⟨rfl, rfl, .none, by simp [toP], by simp [okP], by simp [PyData.depth], by simp [wtP]⟩
theorem small_bl (b : Bool) : SmallOk (.bl b) := ⟨rfl, rfl, .bool b, by simp [toP], by simp [okP], by simp [PyData.depth], by simp [wtP]⟩
theorem small_str {x : Str} (h : okP (.str x) = true) : SmallOk (.str x) := ⟨rfl, rfl, .str x, by simp [toP], h, by simp [PyData.depth], by simp [wtP]⟩
theorem small_tup1 : SmallOk (.tup [.int 0]) := ⟨rfl, rfl, .tuple [.int 0], by simp [toP, toPs], by decide +kernel, by simp [PyData.depth, PyData.depthAll], by simp [wtP, wtPs]⟩
theorem small_lst1 : SmallOk (.lst false [.int 0]) := ⟨rfl, rfl, .list [.int 0], by simp [toP, toPs], by decide +kernel, by simp [PyData.depth, PyData.depthAll], by simp [wtP, wtPs]⟩
theorem all_cons {P : D → Prop} {d : D} {l : List D} (h : P d) (k : ∀ e ∈ l, P e) : ∀ e ∈ d :: l, P e := fun e he => by
  rcases List.mem_cons.mp he with rfl | he
  · exact h
  · exact k e he
theorem all_nil {P : D → Prop} : ∀ e ∈ ([] : List D), P e := fun e he => (List.not_mem_nil he).elim
theorem all_app {P : D → Prop} {a b : List D} (h : ∀ e ∈ a, P e) (k : ∀ e ∈ b, P e) : ∀ e ∈ a ++ b, P e := fun e he => (List.mem_append.mp he).elim (h e) (k e)
theorem toPs_prs (l : List (Nat × Nat)) : toPs (l.map prN) = some (l.map fun q => .tuple [.int (q.1 : Nat), .int (q.2 : Nat)]) := by
  induction l with
  | nil => simp [toPs]
  | cons q l ih => simp only [List.map_cons, toPs, ih, prN, toP, Option.map_some]
theorem rep_prs {l : List (Nat × Nat)} (h : ∀ q ∈ l, q.1 < 2 ^ 20 ∧ q.2 < 2 ^ 20) (hl : l.length ≤ 1000) : ∃ s, RepD (.tup (l.map prN)) s := by
  refine repD_of (q := .tuple (l.map fun q => .tuple [.int (q.1 : Nat), .int (q.2 : Nat)])) ?_ ?_ ?_ ?_
  · show (toPs (l.map prN)).map PyData.tuple = _
    rw [toPs_prs]; rfl
  · simp only [okP]
    clear hl
    induction l with
    | nil => simp [okPs]
    | cons q l ih =>
      have h1 := h q (by simp)
      simp only [List.map_cons, okPs, okP, Bool.and_eq_true, decide_eq_true_eq]
      exact ⟨⟨log2_small h1.1, log2_small h1.2, trivial⟩, ih fun q hq => h q (List.mem_cons_of_mem _ hq)⟩
  · simp only [PyData.depth]
    have : ∀ l : List (Nat × Nat), PyData.depthAll (l.map fun q => PyData.tuple [.int (q.1 : Nat), .int (q.2 : Nat)]) ≤ 1 := fun l => by
      induction l with
      | nil => simp [PyData.depthAll]
      | cons q l ih => simp only [List.map_cons, PyData.depthAll, PyData.depth]; omega
    have := this l; omega
  · simp only [wtP]
    have : ∀ l : List (Nat × Nat), wtPs (l.map fun q => PyData.tuple [.int (q.1 : Nat), .int (q.2 : Nat)]) = l.length * 4014 := fun l => by
      induction l with
      | nil => simp [wtPs]
      | cons q l ih => simp only [List.map_cons, wtPs, wtP, ih, List.length_cons]; omega
    rw [this l]; omega
def S_law_bent (_ : CA) : DSp := fun ds k _ => ∃ (t : D) (p : List Nat), ds = [t, tNat p] ∧ TapeOk t ∧ 1 ≤ p.length ∧ p.length ≤ 30 ∧ (∀ x ∈ p, x < 30) ∧ ∀ d t', ThingOk d → TapeOk t' → k d [t', tNat p]
theorem c_bent {ρ : DEnv} {K : DEnv → D → Prop} {kx : Value → List (Str × D) → DEnv → Prop} {m : Nat} {t : D} {ca : CA} {p : List Nat} (h0 : ρ[m]? = some (some t)) (ht : TapeOk t) (h1 : 1 ≤ p.length ∧ p.length ≤ 30) (h2 : ∀ x ∈ p, x < 30)
    (q : ∀ d t', ThingOk d → TapeOk t' → K (ρ.set m (some t')) d) : cI 2 (S_law_bent ca) m K kx ρ [tNat p] := x_cI h0 rfl ⟨t, p, rfl, ht, h1.1, h1.2, h2, fun d t' hd ht' => q d t' hd ht'⟩
/-- what is known of the classes of errors -/
structure SubH (sub : Value → Value → Option Bool) (ca : CA) : Prop where
  pe : sub (.ref ca.NoPairing) (.ref ca.PairError) = some true
  np : sub (.ref ca.NoPairing) (.ref ca.NoPairing) = some true
  ve : sub (.ref ca.NoPairing) (.type "ValueError") = some true
def S_law_refusal (ca : CA) : DSp := fun ds kk _ => ∃ W d, ds = [tableD ca false W, d] ∧ OkW W ∧ isFz d = true ∧ plain1 d ∧ (∀ p, d = tNat p → PairL W p → kk (.tup ((brkL W p).map prN)) ds) ∧ (¬ PairD W d → kk (.str "none") ds)
def S_law_is_judged (ca : CA) : DSp := fun ds kk _ => ∃ W d, ds = [wishesD W, tableD ca false W, d] ∧ OkW W ∧ ThingOk d ∧ kk (.bl true) ds
section
variable {ca : CA} {W : List (List Nat)} {ρ : DEnv} {K : DEnv → D → Prop} {kx : Value → List (Str × D) → DEnv → Prop} {d e : D} {p : List Nat}
theorem isFz_fz (d : D) : isFz (fz d) = true := by
  cases d with
  | lst m l => cases m <;> rfl
  | dct m l => cases m <;> rfl
  | dcT m l => cases m <;> rfl
  | obj m C ns l => cases m <;> rfl
  | _ => rfl
theorem c_breakingX (hd : fz e = tableD ca false W) (o : OkW W) (hp : plain1 d) (q1 : ∀ p, d = tNat p → PairL W p → K ρ (.tup ((brkL W p).map prN))) (q2 : ¬ PairD W d → kx (.ref ca.NoPairing) [] ρ) : cX 2 (S_breaking ca) K kx ρ [e, d] := by
  refine ⟨rfl, W, fz d, by rw [List.map_cons, hd]; rfl, o, plain1_fz hp, fun p e h => q1 p (fz_tup_eq e) h, fun n => q2 fun z => n (PairD_fz.mpr z)⟩
theorem c_refusal (hd : fz e = tableD ca false W) (o : OkW W) (hp : plain1 d) (q1 : ∀ p, d = tNat p → PairL W p → K ρ (.tup ((brkL W p).map prN))) (q2 : ¬ PairD W d → K ρ (.str "none")) : cQ 2 (S_law_refusal ca) K ρ [e, d] := by
  refine ⟨rfl, W, fz d, by rw [List.map_cons, hd]; rfl, o, isFz_fz d, plain1_fz hp, fun p e h => ⟨okD_prs _ _, q1 p (fz_tup_eq e) h⟩, fun n => ⟨by unfold okD; simp [cleanD], q2 fun z => n (PairD_fz.mpr z)⟩⟩
theorem c_judged (hd : fz e = tableD ca false W) (o : OkW W) (hp : ThingOk d) (q : K ρ (.bl true)) : cQ 3 (S_law_is_judged ca) K ρ [wishesD W, e, d] := by
  refine ⟨rfl, W, d, ?_, o, hp, okD_bl _ _, q⟩
  rw [List.map_cons, List.map_cons, hd, List.map_cons, fz_eq hp.fz]; rfl
theorem c_judgedX (hd : fz e = tableD ca false W) (o : OkW W) (hp : ThingOk d) (q : K ρ (.bl true)) : cX 3 (S_law_is_judged ca) K kx ρ [wishesD W, e, d] := by
  refine ⟨rfl, W, d, ?_, o, hp, q⟩
  rw [List.map_cons, List.map_cons, hd, List.map_cons, fz_eq hp.fz]; rfl
theorem PairL.lt30 (o : OkW W) (h : PairL W p) : ∀ x ∈ p, x < 30 := fun x hx => by
  obtain ⟨j, hj, rfl⟩ := List.mem_iff_getElem.mp hx
  have := h.lt j (by rw [← h.len]; exact hj)
  rw [List.getD_eq_getElem?_getD, List.getElem?_eq_getElem hj] at this
  have h2 := o.top
  exact Nat.lt_of_lt_of_le this h2
theorem PairL.thing (o : OkW W) (h : PairL W p) : ThingOk (tNat p) := thing_tup (small_nats fun x hx => by have := h.lt30 o x hx; omega) (by rw [List.length_map, h.len]; have := o.top; omega)
theorem brkL_rep (o : OkW W) : ∃ s, RepD (.tup ((brkL W p).map prN)) s := by
  have ht := o.top
  refine rep_prs (fun q hq => ?_) ?_
  · obtain ⟨i, hi, hq⟩ := List.mem_flatMap.mp hq
    obtain ⟨x, hx, rfl⟩ := List.mem_map.mp hq
    have h1 := List.mem_range.mp hi
    have h2 := List.mem_range.mp (List.mem_filter.mp hx).1
    exact ⟨by dsimp only; omega, by dsimp only; omega⟩
  · have := flat_len (f := fun i => ((List.range W.length).filter fun x => decide (x ∈ rowW W i ∧ i < x ∧ brk W p i x)).map fun x => (i, x)) (n := 30) (l := List.range W.length) fun i _ => by
      rw [List.length_map]
      have := List.length_filter_le (fun x => decide (x ∈ rowW W i ∧ i < x ∧ brk W p i x)) (List.range W.length)
      rw [List.length_range] at this; omega
    rw [List.length_range] at this
    show ((List.range W.length).flatMap _).length ≤ 1000
    omega
theorem x_neqS {x : Str} {F : D → Prop} (hx : sOk x) (h : F (.bl false)) : oNe (.str x) (.str x) F := x_neS hx hx (by rw [beq_self_eq_true]; exact h)
theorem x_eqqS {x : Str} {F : D → Prop} (hx : sOk x) (h : F (.bl true)) : oEq (.str x) (.str x) F := x_eqS hx hx (by rw [beq_self_eq_true]; exact h)
theorem x_tryAs {sub : Value → Value → Option Bool} {c : Value} {i : Nat} {T : DSt} {Ts : Addr → Value → Option Addr → DSt} {k : DEnds} (h : T { k with ex := fun C l ρ' => match sub C c with
  | some true => i < ρ'.length ∧ ∀ a o, (l = [] → o = none) → Ts a C o { k with nx := fun ρ2 => k.nx (ρ2.set i none), bk := fun ρ2 => k.bk (ρ2.set i none), ct := fun ρ2 => k.ct (ρ2.set i none), ex := fun _ _ _ => False } (ρ'.set i (some (excD a o l)))
  | some false => k.ex C l ρ'
  | none => False } ρ) : dTryAs sub c i T Ts k ρ := h
theorem x_isE {sub : Value → Value → Option Bool} {a : Addr} {cls : Value} {ns : List Str} {ls : List D} {c : D} {cv : Value} {b : Bool} {F : D → Prop} (hc : (∃ C, c = .ref C ∧ cv = .ref C) ∨ ∃ n, c = .ty n ∧ cv = .type n) (hb : sub cls cv = some b) (h : F (.bl b)) : oIsE sub a cls none [.exc a none ns ls, c] F := by
  rcases hc with ⟨C, rfl, rfl⟩ | ⟨n, rfl, rfl⟩
  · refine ⟨rfl, rfl, rfl, ?_⟩
    show (match sub cls (.ref C) with | some b => F (.bl b) | none => False)
    rw [hb]; exact h
  · refine ⟨rfl, rfl, rfl, ?_⟩
    show (match sub cls (.type n) with | some b => F (.bl b) | none => False)
    rw [hb]; exact h
end
end Dl
namespace K02
open PySem PySem.Spec L2 Dl
theorem p_law_refusal {ca : CA} {sub : Value → Value → Option Bool} (sh : SubH sub ca) {ds kk kx} (h : S_law_refusal ca ds kk kx) : T_law_refusal ca.NoPairing ca.PairError sub (S_breaking ca) (fnEnds (pinP [0, 1]) ds kk kx) (ds.map some ++ List.replicate 1 none) := by
  obtain ⟨W, d, rfl, o, hz, hp, h1, h2⟩ := h
  unfold T_law_refusal
  walk_at "env"
  refine x_tryAs ?_
  refine x_retX ?_
  walk_at "sx"
  refine c_breakingX rfl o hp (fun p e hp => ?_) fun n => ?_
  · refine x_fn_rt rfl ?_
    exact h1 p e hp
  · show (match sub (.ref ca.NoPairing) (.ref ca.PairError) with | some true => _ | some false => _ | none => False)
    rw [sh.pe]
    refine ⟨by simp, fun a oo hoo => ?_⟩
    cases hoo rfl
    unfold excD
    walk_at "sx"
    refine x_isE (.inl ⟨_, rfl, rfl⟩) sh.np ?_
    walk_at "sx"
    refine x_kAnd (fun _ => ?_) (fun h => by cases h)
    walk_at "sx"
    refine x_isE (.inr ⟨_, rfl, rfl⟩) sh.ve ?_
    walk_at "sx"
    refine x_kIfE (fun _ => ?_) (fun h => by cases h)
    walk_at "sx"
    exact h2 n
theorem p_law_is_judged {ca : CA} {ds kk kx} (h : S_law_is_judged ca ds kk kx) : T_law_is_judged (S_law_is_pairing ca) (S_law_breaking ca) (S_law_refusal ca) (S_law_is_flag ca) (S_is_pairing ca) (S_is_stable ca) (fnEnds (pinP [0, 1, 2]) ds kk kx) (ds.map some ++ List.replicate 3 none) := by
  obtain ⟨W, d, rfl, o, hd, hk⟩ := h
  obtain ⟨s, hs⟩ := hd.rep
  unfold T_law_is_judged
  walk_at "sx"
  refine x_reprO hs.1 ?_
  walk_at "sx"
  refine c_law_is_pairing o hd.pl fun b hb => ?_
  walk_at "sx"
  by_cases hpd : PairD W d
  · have hb1 := hb.mpr hpd
    subst hb1
    obtain ⟨p, rfl, hp⟩ := hpd
    obtain ⟨s2, hs2⟩ := brkL_rep (p := p) o
    refine x_kIfE (fun _ => ?_) (fun h => by cases h)
    walk_at "sx"
    refine c_law_breaking o hp ?_
    walk_at "sx"
    refine c_is_pairing rfl o hd.pl fun b2 hb2 => ?_
    have hb3 := hb2.mpr ⟨p, rfl, hp⟩
    subst hb3
    walk_at "sx"
    refine c_is_flag ?_
    walk_at "sx"
    refine x_kOr (fun _ => ?_) (fun h => by cases h)
    walk_at "sx"
    refine c_refusal rfl o hd.pl (fun q e hq => ?_) fun n => absurd ⟨p, rfl, hp⟩ n
    cases nL_inj (D.tup.inj e)
    walk_at "sx"
    refine x_reprO hs2.1 ?_
    walk_at "sx"
    refine x_reprO hs2.1 ?_
    walk_at "sx"
    refine x_neqS hs2.2 ?_
    walk_at "sx"
    refine c_is_stable rfl o hd.pl fun b4 hb4 => ?_
    walk_at "sx"
    refine x_kAndV (fun _ => ?_) (fun h => by cases h)
    walk_at "sx"
    refine c_is_flag ?_
    have e4 : decide (b4 = ((((brkL W p).length : Nat) : Int) == 0)) = true := by
      rw [decide_eq_true_iff, Bool.eq_iff_iff, hb4, beq_iff_eq]
      constructor
      · rintro ⟨q, e, _, h⟩
        cases nL_inj (D.tup.inj e)
        rw [h]; rfl
      · intro h
        exact ⟨p, rfl, hp, List.eq_nil_of_length_eq_zero (by omega)⟩
    rw [e4]
    refine x_kAndV (fun _ => ?_) (fun h => by cases h)
    walk_at "sx"
    refine x_reprO hs.1 ?_
    walk_at "sx"
    refine x_eqqS hs.2 ?_
    walk_at "sx"
    exact hk
  · have hb1 : b = false := by cases b with | true => exact absurd (hb.mp rfl) hpd | false => rfl
    subst hb1
    refine x_kIfE (fun h => by cases h) (fun _ => ?_)
    walk_at "sx"
    refine c_is_pairing rfl o hd.pl fun b2 hb2 => ?_
    have hb3 : b2 = false := by cases b2 with | true => exact absurd (hb2.mp rfl) hpd | false => rfl
    subst hb3
    walk_at "sx"
    refine c_is_flag ?_
    walk_at "sx"
    refine x_kOr (fun _ => ?_) (fun h => by cases h)
    walk_at "sx"
    refine c_refusal rfl o hd.pl (fun q e hq => absurd ⟨q, e, hq⟩ hpd) fun _ => ?_
    obtain ⟨s2, hs2⟩ : ∃ s, RepD (.str "none") s := repD_of (q := .str "none") rfl (by decide +kernel) (by decide) (by decide)
    walk_at "sx"
    refine x_reprO hs2.1 ?_
    walk_at "sx"
    refine x_reprO hs2.1 ?_
    walk_at "sx"
    refine x_neqS hs2.2 ?_
    walk_at "sx"
    refine c_is_stable rfl o hd.pl fun b4 hb4 => ?_
    have hb5 : b4 = false := by cases b4 with | true => exact absurd (by obtain ⟨p, e, h, _⟩ := hb4.mp rfl; exact ⟨p, e, h⟩) hpd | false => rfl
    subst hb5
    walk_at "sx"
    refine x_kAndV (fun h => by cases h) (fun _ => ?_)
    walk_at "sx"
    refine c_is_flag ?_
    refine x_kAndV (fun _ => ?_) (fun h => by cases h)
    walk_at "sx"
    refine x_reprO hs.1 ?_
    walk_at "sx"
    refine x_eqqS hs.2 ?_
    walk_at "sx"
    exact hk
theorem p_law_bent {ca : CA} {ds kk kx} (h : S_law_bent ca ds kk kx) : T_law_bent (S_law_pick ca) (S_law_any ca) (fnEnds (pinP [0, 1]) ds kk kx) (ds.map some ++ List.replicate 5 none) := by
  obtain ⟨t, p, rfl, ht, h1, h2, h3, hk⟩ := h
  have h20 := sizeLine_ge20
  unfold T_law_bent
  walk_at "sx"
  refine c_pick rfl ht ⟨h1, by omega⟩ fun a t1 ha ht1 => ?_
  walk_at "sx"
  refine c_pick rfl ht1 ⟨h1, by omega⟩ fun b t2 hb ht2 => ?_
  walk_at "sx"
  have hbig : ∀ x ∈ p, x < 2 ^ 20 := fun x hx => by have := h3 x hx; omega
  have hoddS : ∀ d ∈ [D.non, D.bl true, D.bl false, D.int (-1), D.int p.length, D.str "0", D.tup [D.int 0], D.lst false [D.int 0], D.int (10 ^ 30), D.int b, D.int b], SmallOk d :=
    all_cons small_non (all_cons (small_bl _) (all_cons (small_bl _) (all_cons (small_int _ (by decide)) (all_cons (small_nat (by omega)) (all_cons (small_str (by decide +kernel)) (all_cons small_tup1 (all_cons small_lst1 (all_cons (small_int _ (by decide)) (all_cons (small_nat (by omega)) (all_cons (small_nat (by omega)) all_nil))))))))))
  refine c_anyL (l := [D.non, D.bl true, D.bl false, D.int (-1), D.int p.length, D.str "0", D.tup [D.int 0], D.lst false [D.int 0], D.int (10 ^ 30), D.int b, D.int b]) rfl ht2 rfl rfl (by simp) fun odd t3 hodd ht3 => ?_
  have so := hoddS odd hodd
  have hz := so.fz
  clear hoddS hodd
  walk_at "sx"
  rw [fz_eq hz]
  walk_at "sx"
  have e9 : fz (.lst true (nL p)) = .lst false (nL p) := fz_nL p
  have hgp : ∀ x, x < p.length → p.getD x 0 < 2 ^ 20 := fun x hx => hbig _ (List.mem_of_getElem? (getD_some hx))
  have hT1 : ∀ d ∈ (p.take a).map (fun (n : Nat) => D.int (n : Int)) ++ [odd] ++ (p.drop (a + 1)).map (fun (n : Nat) => D.int (n : Int)), SmallOk d :=
    all_app (all_app (small_nats fun x hx => hbig x (List.mem_of_mem_take hx)) (all_cons so all_nil)) (small_nats fun x hx => hbig x (List.mem_of_mem_drop hx))
  have hT2 : ∀ d ∈ (p.take a).map (fun (n : Nat) => D.int (n : Int)) ++ [odd] ++ (p.drop a).map (fun (n : Nat) => D.int (n : Int)), SmallOk d :=
    all_app (all_app (small_nats fun x hx => hbig x (List.mem_of_mem_take hx)) (all_cons so all_nil)) (small_nats fun x hx => hbig x (List.mem_of_mem_drop hx))
  walk_at "sx"
  have et : ((nL p).set a (D.int ((p.getD b 0 : Nat) : Int))).set b (D.int ((p.getD a 0 : Nat) : Int)) = nL ((p.set a (p.getD b 0)).set b (p.getD a 0)) := by unfold nL; rw [List.map_set, List.map_set]
  have hT3 : ∀ d ∈ nL ((p.set a (p.getD b 0)).set b (p.getD a 0)), SmallOk d := small_nats fun x hx => by
    rcases List.mem_or_eq_of_mem_set hx with z | rfl
    · rcases List.mem_or_eq_of_mem_set z with z | rfl
      · exact hbig x z
      · exact hgp b hb
    · exact hgp a ha
  have hT4 : ∀ d ∈ (p.drop 1).map (fun (n : Nat) => D.int (n : Int)), SmallOk d := small_nats fun x hx => hbig x (List.mem_of_mem_drop hx)
  have hT5 : ∀ d ∈ (nL p).reverse, SmallOk d := fun d hd => small_nats hbig d (List.mem_reverse.mp hd)
  have l3 : (nL ((p.set a (p.getD b 0)).set b (p.getD a 0))).length = p.length := by simp
  rw [et]
  generalize nL ((p.set a (p.getD b 0)).set b (p.getD a 0)) = C at hT3 l3 ⊢
  have l1 : ((p.take a).map (fun (n : Nat) => D.int (n : Int)) ++ [odd] ++ (p.drop (a + 1)).map (fun (n : Nat) => D.int (n : Int))).length ≤ 100 := by simp; omega
  have l2 : ((p.take a).map (fun (n : Nat) => D.int (n : Int)) ++ [odd] ++ (p.drop a).map (fun (n : Nat) => D.int (n : Int))).length ≤ 100 := by simp; omega
  have l4 : ((p.drop 1).map (fun (n : Nat) => D.int (n : Int))).length ≤ 100 := by simp; omega
  generalize (p.take a).map (fun (n : Nat) => D.int (n : Int)) ++ [odd] ++ (p.drop (a + 1)).map (fun (n : Nat) => D.int (n : Int)) = A at hT1 l1 ⊢
  generalize (p.take a).map (fun (n : Nat) => D.int (n : Int)) ++ [odd] ++ (p.drop a).map (fun (n : Nat) => D.int (n : Int)) = B at hT2 l2 ⊢
  generalize (p.drop 1).map (fun (n : Nat) => D.int (n : Int)) = E at hT4 l4 ⊢
  have el : frz (.lst false (nL p)) = .lst false (nL p) := by rw [frz, frzL_map]; exact fun _ => rfl
  have ef : fz (.lst true [D.tup A, D.tup B, D.lst false (nL p), D.tup E]) = .lst false [D.tup A, D.tup B, D.lst false (nL p), D.tup E] := by
    show frz (.lst true _) = _
    rw [frz, frzL_id]
    exact all_cons (by simp only [frz]) (all_cons (by simp only [frz]) (all_cons el (all_cons (by simp only [frz]) all_nil)))
  rw [ef]
  have c3 : C.all isFz = true := List.all_eq_true.mpr fun d hd => (hT3 d hd).fz
  walk_at "sx"
  refine c_anyL (l := [D.tup A, D.tup B, D.lst false (nL p), D.tup E] ++ [D.tup C, D.tup C, D.non, D.int 0, D.tup [], D.dct false [], D.str "pairing", D.tup (nL p).reverse]) rfl ht3 ?_ ?_ (by simp) fun d t4 hd ht4 => ?_
  · show frz (.lst true _) = _
    rw [frz, frzL_id]
    refine all_app (all_cons (by simp only [frz]) (all_cons (by simp only [frz]) (all_cons el (all_cons (by simp only [frz]) all_nil)))) ?_
    exact all_cons (by simp only [frz]) (all_cons (by simp only [frz]) (all_cons (by simp only [frz]) (all_cons (by simp only [frz]) (all_cons (by simp only [frz]) (all_cons (by simp only [frz, frzK]) (all_cons (by simp only [frz]) (all_cons (by simp only [frz]) all_nil)))))))
  · rfl
  have hthing : ∀ e ∈ [D.tup A, D.tup B, D.lst false (nL p), D.tup E] ++ [D.tup C, D.tup C, D.non, D.int 0, D.tup [], D.dct false [], D.str "pairing", D.tup (nL p).reverse], ThingOk e := by
    refine all_app (all_cons (thing_tup hT1 l1) (all_cons (thing_tup hT2 l2) (all_cons (thing_lst (small_nats hbig) (by simp; omega)) (all_cons (thing_tup hT4 l4) all_nil)))) ?_
    refine all_cons (thing_tup hT3 (by omega)) (all_cons (thing_tup hT3 (by omega)) (all_cons ?_ (all_cons ?_ (all_cons (thing_tup all_nil (by simp)) (all_cons ?_ (all_cons ?_ (all_cons (thing_tup hT5 (by simp; omega)) all_nil)))))))
    · exact thing_of rfl rfl (by simp) (q := .none) rfl (by decide) (by decide) (by decide)
    · exact thing_of rfl rfl (by simp) (q := .int 0) rfl (by decide) (by decide) (by decide)
    · exact thing_of rfl rfl (by simp) (q := .dict []) rfl (by decide) (by decide) (by decide)
    · exact thing_of rfl rfl (by simp) (q := .str "pairing") rfl (by decide +kernel) (by decide) (by decide)
  walk_at "sx"
  exact hk d t4 (hthing d hd) ht4
end K02
namespace Dl
open PySem PySem.Spec L2
/-! ### known cases -/
def okWB (W : List (List Nat)) : Bool := decide (1 ≤ W.length) && (decide (W.length ≤ 30) && ((List.range W.length).all fun i => ((rowW W i).all fun x => decide (x < W.length)) && (!(rowW W i).contains i && decide (rowW W i).Nodup)) && (List.range W.length).all fun i => (rowW W i).all fun x => (rowW W x).contains i)
theorem okWB_ok {W : List (List Nat)} (h : okWB W = true) : OkW W := by
  simp only [okWB, Bool.and_eq_true, decide_eq_true_eq, List.all_eq_true, List.mem_range, Bool.not_eq_true', List.contains_iff_mem] at h
  obtain ⟨h1, ⟨h2, h3⟩, h4⟩ := h
  refine ⟨h1, h2, fun i hi => ?_, fun i hi x hx => h4 i hi x hx⟩
  obtain ⟨a, b, c⟩ := h3 i hi
  exact ⟨a, (fun z => by rw [List.contains_iff_mem.mpr z] at b; cases b), c⟩
def pairB (W : List (List Nat)) (p : List Nat) : Bool := decide (p.length = W.length) && (List.range W.length).all fun i => decide (p.getD i 0 < W.length) && ((rowP W i).contains (p.getD i 0) && decide (p.getD (p.getD i 0) 0 = i))
theorem pairB_ok {W : List (List Nat)} {p : List Nat} (h : pairB W p = true) : PairL W p := by
  simp only [pairB, Bool.and_eq_true, decide_eq_true_eq, List.all_eq_true, List.mem_range, List.contains_iff_mem] at h
  exact ⟨h.1, fun i hi => (h.2 i hi).1, fun i hi => (h.2 i hi).2.1, fun i hi => (h.2 i hi).2.2⟩
abbrev Known := List (List Nat) × List Nat × List (Nat × Nat)
def enK (c : Known) : D := .tup [wishesD c.1, tNat c.2.1, .tup (c.2.2.map prN)]
def ringW : List (List Nat) := [[1, 2, 3], [2, 0, 3], [0, 1, 3], [0, 1, 2]]
def knownL : List Known := [(ringW, [1, 0, 3, 2], [(1, 2)]), (ringW, [2, 3, 0, 1], [(0, 1)]), (ringW, [3, 2, 1, 0], [(0, 2)]), (ringW, [0, 1, 2, 3], [(0, 1), (0, 2), (0, 3), (1, 2), (1, 3), (2, 3)]), ([[]], [0], []),
  ([[1, 2], [0], [0]], [1, 0, 2], []), ([[1, 2], [0], [0]], [2, 1, 0], [(0, 1)])]
theorem known_ok : ∀ c ∈ knownL, OkW c.1 ∧ PairL c.1 c.2.1 ∧ brkL c.1 c.2.1 = c.2.2 := by
  have h : (knownL.all fun c => okWB c.1 && (pairB c.1 c.2.1 && decide (brkL c.1 c.2.1 = c.2.2))) = true := by decide +kernel
  intro c hc
  have := List.all_eq_true.mp h c hc
  simp only [Bool.and_eq_true, decide_eq_true_eq] at this
  exact ⟨okWB_ok this.1, pairB_ok this.2.1, this.2.2⟩
def S_law_known_right (_ : CA) : DSp := fun ds kk _ => ds = [] ∧ kk (.bl true) []
def S_law (_ : CA) : DSp := fun ds kk _ => ∃ ns, ds = [scrD ns] ∧ ns.length ≤ 63 ∧ ∀ ds', kk (.bl true) ds'
section
variable {ca : CA} {W : List (List Nat)} {ρ : DEnv} {K : DEnv → D → Prop} {kx : Value → List (Str × D) → DEnv → Prop} {d e : D} {p : List Nat}
theorem fz_lst1 (l : List D) : fz (.lst true l) = .lst false (frzL l) := rfl
theorem c_make (o : OkW W) (q : K ρ (tableD ca true W)) : cMk ca.Table 2 (S_Table_zz_initzz_ ca) K kx ρ [wishesD W] := ⟨rfl, W, rfl, o, rfl, q⟩
theorem c_known (q : K ρ (.bl true)) : cX 0 (S_law_known_right ca) K kx ρ [] := ⟨rfl, rfl, q⟩
theorem c_tape {ns : List Int} (h : ns.length ≤ 63) (q : ∀ t, TapeOk t → K ρ t) : cQ 1 (S_law_tape ca) K ρ [scrD ns] := c_rel rfl ⟨ns, rfl, h⟩ fun r hr => ⟨rfl, q r hr⟩
theorem c_is_stableX (hd : fz e = tableD ca false W) (o : OkW W) (hp : plain1 d) (q : ∀ b, (b = true ↔ ∃ p, d = tNat p ∧ PairL W p ∧ brkL W p = []) → K ρ (.bl b)) : cX 2 (S_is_stable ca) K kx ρ [e, d] := by
  refine ⟨rfl, ⟨W, fz d, by rw [List.map_cons, hd]; rfl, o, plain1_fz hp⟩, fun r ⟨W', d', b, e1, hb, hr⟩ => ?_⟩
  rw [List.map_cons, hd] at e1
  simp only [List.map_cons, List.map_nil, List.cons.injEq, and_true] at e1
  obtain ⟨e1, rfl⟩ := e1
  cases tableD_inj e1
  subst hr
  refine q b (hb.trans ?_)
  exact ⟨fun ⟨p, e, h⟩ => ⟨p, fz_tup_eq e, h⟩, fun ⟨p, e, h⟩ => ⟨p, by subst e; rfl, h⟩⟩
end
end Dl
namespace K02
open PySem PySem.Spec L2 Dl
theorem p_law_known_right {ca : CA} {ds kk kx} (h : S_law_known_right ca ds kk kx) : T_law_known_right ca.Table (S_breaking ca) (S_Table_zz_initzz_ ca) (S_is_stable ca) (fnEnds (pinP []) ds kk kx) (ds.map some ++ List.replicate 5 none) := by
  obtain ⟨rfl, hk⟩ := h
  have h20 := sizeLine_ge20
  unfold T_law_known_right
  walk_at "sx"
  simp only [fz_lst1, frzL, frz]
  walk_at "sx"
  simp only [fz_lst1, frzL, frz]
  walk_at "sx"
  simp only [fz_lst1, frzL, frz]
  walk_at "sx"
  refine lcE_map (enc := enK) (xs := knownL) (fun p acc ρ => ρ = [some (wishesD ringW), some (.lst false (knownL.map enK)), none, none, none] ∧ acc = p.map fun _ => .bl true) (Nat.le_trans (show knownL.length ≤ 2 ^ 24 by decide) h20) ⟨rfl, rfl⟩ ?_ ?_
  · rintro q c r acc ρ e ⟨rfl, rfl⟩ Q hQ
    obtain ⟨o, hp, hb⟩ := known_ok c (by rw [e]; simp)
    obtain ⟨s, hs⟩ := brkL_rep (p := c.2.1) o
    have hth := hp.thing o
    unfold enK
    walk_at "sx"
    refine c_make o ?_
    walk_at "sx"
    refine c_breakingX (fz_tableT ca _) o hth.pl (fun p e hp' => ?_) fun n => absurd ⟨_, rfl, hp⟩ n
    cases nL_inj (D.tup.inj e)
    walk_at "sx"
    refine x_reprO hs.1 ?_
    walk_at "sx"
    rw [← hb]
    refine x_reprO hs.1 ?_
    walk_at "sx"
    refine x_eqqS hs.2 ?_
    walk_at "sx"
    exact hQ _ _ ⟨rfl, by rw [List.map_append]; rfl⟩
  · rintro acc ρ ⟨rfl, rfl⟩ _
    simp only [restD, List.getElem?_cons_succ, List.getElem?_cons_zero, wipeD, List.set_cons_succ, List.set_cons_zero]
    walk_at "sx"
    refine x_kIf (fun h => absurd h (by decide)) (fun _ => ?_)
    walk_at "sx"
    refine c_make (W := ringW) (okWB_ok (by decide +kernel)) ?_
    walk_at "sx"
    have hp1 : PairL ringW [1, 0, 3, 2] := pairB_ok (by decide +kernel)
    have o1 : OkW ringW := okWB_ok (by decide +kernel)
    refine c_is_stableX (d := tNat [1, 0, 3, 2]) (fz_tableT ca _) o1 (hp1.thing o1).pl fun b hb => ?_
    have : b = false := by
      cases b with
      | false => rfl
      | true =>
        obtain ⟨p, e, _, e2⟩ := hb.mp rfl
        cases nL_inj (D.tup.inj e)
        exact absurd e2 (by decide +kernel)
    subst this
    walk_at "sx"
    refine x_kAndV (fun _ => ?_) (fun h => by cases h)
    walk_at "sx"
    have o2 : OkW [[1], [0]] := okWB_ok (by decide +kernel)
    have hp2 : PairL [[1], [0]] [1, 0] := pairB_ok (by decide +kernel)
    refine c_make (W := [[1], [0]]) o2 ?_
    walk_at "sx"
    refine c_is_stableX (d := tNat [1, 0]) (fz_tableT ca _) o2 (hp2.thing o2).pl fun b hb => ?_
    have : b = true := hb.mpr ⟨_, rfl, hp2, by decide +kernel⟩
    subst this
    walk_at "sx"
    exact hk
theorem p_law {ca : CA} {ds kk kx} (h : S_law ca ds kk kx) : T_law ca.Table (S_law_tape ca) (S_law_known_right ca) (S_law_wishes ca) (S_law_pick ca) (S_law_all ca) (S_Table_zz_initzz_ ca) (S_law_any ca) (S_law_is_judged ca) (S_law_is_pairing ca) (S_law_bent ca) (S_law_count ca) (S_law_drawn ca) (fnEnds (pinP [0]) ds kk kx) (ds.map some ++ List.replicate 8 none) := by
  obtain ⟨ns, rfl, hn, hk⟩ := h
  have h20 := sizeLine_ge20
  unfold T_law
  walk_at "sx"
  refine c_tape hn fun t ht => ?_
  walk_at "sx"
  refine c_known ?_
  walk_at "sx"
  refine x_kIf (fun h => absurd h (by decide)) (fun _ => ?_)
  walk_at "sx"
  refine x_kRg1 (n := 2) (by decide) ?_
  refine for_nat (fun _ ρ => ∃ t a b c d e f, ρ = [some (scrD ns), some t, a, b, c, d, e, f, none] ∧ TapeOk t) ⟨t, _, _, _, _, _, _, rfl, ht⟩ ?_ ?_
  · rintro i x ρ _ ⟨t, a, b, c, d, e, f, rfl, ht⟩ N hN
    walk_at "sx"
    refine c_pick rfl ht (by decide) fun n t1 hn6 ht1 => ?_
    have hn6 : n < 6 := hn6
    walk_at "sx"
    refine c_wishes rfl ht1 ⟨by omega, by omega⟩ fun W t2 o hWl ht2 => ?_
    have h7 : W.length ≤ 7 := by omega
    walk_at "sx"
    refine c_make o ?_
    walk_at "sx"
    refine c_all o h7 ?_
    walk_at "sx"
    rw [fz_tableT, frz_rows]
    have hall : ∀ r ∈ allP W, PairL W r := fun r hr => allP_pair o hr
    have hlen : (allP W).length ≤ 823543 := Nat.le_trans (List.length_filter_le _ _) (Nat.le_trans (allR_len o h7 _ (Nat.le_refl _)) (pow7 h7))
    have hpos : 1 ≤ (allP W).length := List.length_pos_of_mem (allP_id W)
    walk_at "sx"
    generalize hKK : kSetF 6 _ = KK
    have rest : ∀ (R : List (List Nat)) (m : Bool) t x6 x7, (∀ r ∈ R, PairL W r) → R.length ≤ 1000000 → TapeOk t →
        KK [some (scrD ns), some t, some (nD x), some (wishesD W), some (tableD ca false W), some (.lst false ((allP W).map tNat)), x6, x7, none] (.lst m (R.map tNat)) := by
      intro R m t x6 x7 hR hRl ht
      rw [← hKK]
      have ef : fz (.lst m (R.map tNat)) = .lst false (R.map tNat) := by cases m with | true => exact frz_rows R | false => rfl
      refine x_kSetF (by exact of_decide_eq_true rfl) ?_
      rw [ef]
      walk_at "sx"
      refine lc_map (enc := tNat) (fun _ => .bl true) (by omega) (fun r hr Q q => ?_) ?_
      · have hp := hR r hr
        have hth := hp.thing o
        walk_at "sx"
        refine c_law_is_pairing o hth.pl fun b hb => ?_
        have : b = true := hb.mpr ⟨r, rfl, hp⟩
        subst this
        walk_at "sx"
        refine x_kAndV (fun _ => ?_) (fun h => by cases h)
        walk_at "sx"
        refine c_judged rfl o hth ?_
        exact q
      walk_at "sx"
      refine x_kIf (fun h => ?_) (fun _ => ?_)
      · have : (R.all fun _ => true) = true := List.all_eq_true.mpr fun _ _ => rfl
        rw [this] at h; cases h
      walk_at "sx"
      refine x_kRg1 (n := 8) (by decide) ?_
      walk_at "env"
      refine lcE_map (fun p acc ρ => ∃ t, ρ = [some (scrD ns), some t, some (nD x), some (wishesD W), some (tableD ca false W), some (.lst false ((allP W).map tNat)), some (.lst false (R.map tNat)), x7, none] ∧ TapeOk t ∧ acc = p.map fun _ => .bl true) (by decide) ⟨t, rfl, ht, rfl⟩ ?_ ?_
      · rintro p i r acc ρ _ ⟨t, rfl, ht, rfl⟩ Q hQ
        walk_at "sx"
        refine c_anyL rfl ht rfl (isFz_rows _) ⟨by rw [List.length_map]; omega, by rw [List.length_map]; omega⟩ fun v t3 hv ht3 => ?_
        obtain ⟨r, hr, rfl⟩ := List.mem_map.mp hv
        have hp := hall r hr
        walk_at "sx"
        refine c_bent rfl ht3 ⟨by rw [hp.len]; exact o.pos, by rw [hp.len]; exact o.top⟩ (hp.lt30 o) fun d t4 hd ht4 => ?_
        walk_at "sx"
        refine c_judgedX rfl o hd ?_
        exact hQ _ _ ⟨t4, rfl, ht4, by rw [List.map_append]; rfl⟩
      · rintro acc ρ ⟨t, rfl, ht, rfl⟩ _
        simp only [restD, List.getElem?_cons_succ, List.getElem?_cons_zero, wipeD, List.set_cons_succ, List.set_cons_zero]
        walk_at "sx"
        refine x_kIf (fun h => absurd h (by decide)) (fun _ => ?_)
        walk_at "sx"
        exact hN _ ⟨t, _, _, _, _, _, _, rfl, ht⟩
    refine x_kIfE (fun h => ?_) (fun h => ?_)
    · walk_at "sx"
      exact rest _ _ _ _ _ hall (by omega) ht2
    · walk_at "sx"
      refine x_kRg1 (n := 20) (by decide) ?_
      walk_at "env"
      refine lcE_map (fun p acc ρ => ∃ t R, ρ = [some (scrD ns), some t, some (nD x), some (wishesD W), some (tableD ca false W), some (.lst false ((allP W).map tNat)), e, f, none] ∧ TapeOk t ∧ (∀ r ∈ R, PairL W r) ∧ acc = R.map tNat) (by decide) ⟨t2, [], rfl, ht2, by simp, rfl⟩ ?_ ?_
      · rintro p i r acc ρ _ ⟨t, R, rfl, ht, hR, rfl⟩ Q hQ
        walk_at "sx"
        refine c_anyL rfl ht rfl (isFz_rows _) ⟨by rw [List.length_map]; omega, by rw [List.length_map]; omega⟩ fun v t3 hv ht3 => ?_
        obtain ⟨r, hr, rfl⟩ := List.mem_map.mp hv
        walk_at "sx"
        refine hQ _ _ ⟨t3, R ++ [r], rfl, ht3, fun z hz => ?_, by rw [List.map_append]; rfl⟩
        rcases List.mem_append.mp hz with k | k
        · exact hR z k
        · rw [List.mem_singleton.mp k]; exact hall r hr
      · rintro acc ρ ⟨t, R, rfl, ht, hR, rfl⟩ hl
        simp only [restD, List.getElem?_cons_succ, List.getElem?_cons_zero, wipeD, List.set_cons_succ, List.set_cons_zero]
        refine rest _ _ _ _ _ hR ?_ ht
        rw [List.length_map, List.length_range] at hl; omega
  · rintro ρ ⟨t, a, b, c, d, e, f, rfl, ht⟩
    walk_at "sx"
    refine c_count rfl ht fun n t1 hn1 hn2 ht1 => ?_
    walk_at "sx"
    refine c_wishes rfl ht1 ⟨hn1, hn2⟩ fun W t2 o hWl ht2 => ?_
    walk_at "sx"
    refine c_make o ?_
    walk_at "sx"
    rw [fz_tableT]
    refine x_kRg1 (n := 3) (by decide) ?_
    refine for_nat (fun _ ρ => ∃ t b c d e f, ρ = [some (scrD ns), some t, b, some (wishesD W), some (tableD ca false W), c, d, e, f] ∧ TapeOk t) ⟨t2, _, _, _, _, _, rfl, ht2⟩ ?_ ?_
    · rintro i x ρ _ ⟨t, b, c, d, e, f, rfl, ht⟩ N hN
      walk_at "sx"
      refine c_drawn rfl ht o fun p t3 hp ht3 => ?_
      have hth := hp.thing o
      walk_at "sx"
      refine c_law_is_pairing o hth.pl fun b hb => ?_
      have : b = true := hb.mpr ⟨p, rfl, hp⟩
      subst this
      walk_at "sx"
      refine x_kOr (fun _ => ?_) (fun h => by cases h)
      walk_at "sx"
      refine c_judged rfl o hth ?_
      walk_at "sx"
      refine x_kIf (fun h => by cases h) (fun _ => ?_)
      walk_at "sx"
      refine c_bent rfl ht3 ⟨by rw [hp.len]; exact o.pos, by rw [hp.len]; exact o.top⟩ (hp.lt30 o) fun d t4 hd ht4 => ?_
      walk_at "sx"
      refine c_judgedX rfl o hd ?_
      walk_at "sx"
      refine x_kIf (fun h => by cases h) (fun _ => ?_)
      walk_at "sx"
      exact hN _ ⟨t4, _, _, _, _, _, rfl, ht4⟩
    · rintro ρ ⟨t, b, c, d, e, f, rfl, ht⟩
      walk_at "sx"
      exact hk _
end K02
end
namespace K02
open PySem PySem.Spec L2 Dl
def dd_is_integer : He.DefD := ⟨("is_integer", none), "is_integer", "is_integer", defArgs s_is_integer, defBody s_is_integer, defScope s_is_integer, [], []⟩
def dd_is_below : He.DefD := ⟨("is_below", none), "is_below", "is_below", defArgs s_is_below, defBody s_is_below, defScope s_is_below, [], []⟩
def dd_are_wishes : He.DefD := ⟨("are_wishes", none), "are_wishes", "are_wishes", defArgs s_are_wishes, defBody s_are_wishes, defScope s_are_wishes, [], []⟩
def dd_first_bad : He.DefD := ⟨("first_bad", none), "first_bad", "first_bad", defArgs s_first_bad, defBody s_first_bad, defScope s_first_bad, [], []⟩
def dd_Table_zz_initzz_ : He.DefD := ⟨("Table", some "__init__"), "__init__", "Table.__init__", defArgs s_Table_zz_initzz_, defBody s_Table_zz_initzz_, defScope s_Table_zz_initzz_, [], []⟩
def dd_law_tape : He.DefD := ⟨("_law_tape", none), "_law_tape", "_law_tape", defArgs s_law_tape, defBody s_law_tape, defScope s_law_tape, [], []⟩
def dd_law_pick : He.DefD := ⟨("_law_pick", none), "_law_pick", "_law_pick", defArgs s_law_pick, defBody s_law_pick, defScope s_law_pick, [], []⟩
def dd_law_any : He.DefD := ⟨("_law_any", none), "_law_any", "_law_any", defArgs s_law_any, defBody s_law_any, defScope s_law_any, [], []⟩
def dd_law_mixed : He.DefD := ⟨("_law_mixed", none), "_law_mixed", "_law_mixed", defArgs s_law_mixed, defBody s_law_mixed, defScope s_law_mixed, [], []⟩
def dd_law_wishes : He.DefD := ⟨("_law_wishes", none), "_law_wishes", "_law_wishes", defArgs s_law_wishes, defBody s_law_wishes, defScope s_law_wishes, [], []⟩
def dd_law_count : He.DefD := ⟨("_law_count", none), "_law_count", "_law_count", defArgs s_law_count, defBody s_law_count, defScope s_law_count, [], []⟩
def dd_law_all : He.DefD := ⟨("_law_all", none), "_law_all", "_law_all", defArgs s_law_all, defBody s_law_all, defScope s_law_all, [], []⟩
def dd_law_is_pairing : He.DefD := ⟨("_law_is_pairing", none), "_law_is_pairing", "_law_is_pairing", defArgs s_law_is_pairing, defBody s_law_is_pairing, defScope s_law_is_pairing, [], []⟩
def dd_law_drawn : He.DefD := ⟨("_law_drawn", none), "_law_drawn", "_law_drawn", defArgs s_law_drawn, defBody s_law_drawn, defScope s_law_drawn, [], []⟩
def dd_law_bent : He.DefD := ⟨("_law_bent", none), "_law_bent", "_law_bent", defArgs s_law_bent, defBody s_law_bent, defScope s_law_bent, [], []⟩
def dd_Table_many : He.DefD := ⟨("Table", some "many"), "many", "Table.many", defArgs s_Table_many, defBody s_Table_many, defScope s_Table_many, [], []⟩
def dd_is_pairing : He.DefD := ⟨("is_pairing", none), "is_pairing", "is_pairing", defArgs s_is_pairing, defBody s_is_pairing, defScope s_is_pairing, [], []⟩
def dd_Table_is_dearer : He.DefD := ⟨("Table", some "is_dearer"), "is_dearer", "Table.is_dearer", defArgs s_Table_is_dearer, defBody s_Table_is_dearer, defScope s_Table_is_dearer, [], []⟩
def dd_raw_breaking : He.DefD := ⟨("raw_breaking", none), "raw_breaking", "raw_breaking", defArgs s_raw_breaking, defBody s_raw_breaking, defScope s_raw_breaking, [], []⟩
def dd_is_stable : He.DefD := ⟨("is_stable", none), "is_stable", "is_stable", defArgs s_is_stable, defBody s_is_stable, defScope s_is_stable, [], []⟩
def dd_law_rank : He.DefD := ⟨("_law_rank", none), "_law_rank", "_law_rank", defArgs s_law_rank, defBody s_law_rank, defScope s_law_rank, [], []⟩
def dd_law_breaking : He.DefD := ⟨("_law_breaking", none), "_law_breaking", "_law_breaking", defArgs s_law_breaking, defBody s_law_breaking, defScope s_law_breaking, [], []⟩
def dd_law_is_flag : He.DefD := ⟨("_law_is_flag", none), "_law_is_flag", "_law_is_flag", defArgs s_law_is_flag, defBody s_law_is_flag, defScope s_law_is_flag, [], []⟩
def dd_breaking : He.DefD := ⟨("breaking", none), "breaking", "breaking", defArgs s_breaking, defBody s_breaking, defScope s_breaking, [], []⟩
def dd_law_refusal : He.DefD := ⟨("_law_refusal", none), "_law_refusal", "_law_refusal", defArgs s_law_refusal, defBody s_law_refusal, defScope s_law_refusal, [], []⟩
def dd_law_is_judged : He.DefD := ⟨("_law_is_judged", none), "_law_is_judged", "_law_is_judged", defArgs s_law_is_judged, defBody s_law_is_judged, defScope s_law_is_judged, [], []⟩
def dd_law_known_right : He.DefD := ⟨("_law_known_right", none), "_law_known_right", "_law_known_right", defArgs s_law_known_right, defBody s_law_known_right, defScope s_law_known_right, [], []⟩
def dd_law : He.DefD := ⟨("law", none), "law", "law", defArgs s_law, defBody s_law, defScope s_law, [], []⟩
def fnL : List He.DefD := [dd_is_integer, dd_is_below, dd_are_wishes, dd_first_bad, dd_Table_zz_initzz_, dd_law_tape, dd_law_pick, dd_law_any, dd_law_mixed, dd_law_wishes, dd_law_count, dd_law_all, dd_law_is_pairing, dd_law_drawn, dd_law_bent, dd_Table_many, dd_is_pairing, dd_Table_is_dearer, dd_raw_breaking, dd_is_stable, dd_law_rank, dd_law_breaking, dd_law_is_flag, dd_breaking, dd_law_refusal, dd_law_is_judged, dd_law_known_right, dd_law]
def faL : List He.Fa := [.glo "is_integer", .glo "is_below", .glo "are_wishes", .glo "first_bad", .glo "_law_tape", .glo "_law_pick", .glo "_law_any", .glo "_law_mixed", .glo "_law_wishes", .glo "_law_count", .glo "_law_all", .glo "_law_is_pairing", .glo "_law_drawn", .glo "_law_bent", .glo "is_pairing", .glo "raw_breaking", .glo "is_stable", .glo "_law_rank", .glo "_law_breaking", .glo "_law_is_flag", .glo "breaking", .glo "_law_refusal", .glo "_law_is_judged", .glo "_law_known_right", .glo "law", .glo "NoPairing", .glo "PairError", .glo "Table", .free "ValueError", .free "abs", .free "all", .free "bool", .free "enumerate", .free "int", .free "isinstance", .free "len", .free "list", .free "range", .free "repr", .free "set", .free "sorted", .free "tuple", .int "MOST" 30, .exc "NoPairing", .cls "Table", .noat "Table" "wishes", .noat "Table" "ranks", .mkr "Table", .meth "Table" "many", .meth "Table" "is_dearer"]
def subL : SubL := [("NoPairing", .own "PairError", true), ("NoPairing", .own "NoPairing", true), ("NoPairing", .ty "ValueError", true)]
def exL (K : PySem.W.Frag) : Bool := subB subL K && noLst K
abbrev Rw : PySem.W.OpenRow := PySem.W.OpenLaw.row PySem.Challenge.rw_pairorring_k02_whole_pairings_and_what_b
abbrev hkL : PySem.W.Hook := He.hookX 5 faL fnL [] [] exL
def obL (s : PySem.W.SharedT) : He.AlX := He.obsX 5 faL fnL [] [] exL (HandSHeadRun.getT s)
theorem obL_eq (s : PySem.W.SharedT) : obL s = hkL.obs s.abs := He.obsX_eq (HandSHeadRun.getT_eq s)
def lsL : List Str := ["__name__", "is_integer", "is_below", "PairError", "BadTable", "NoPairing", "is_pairing", "raw_breaking", "breaking", "is_stable", "MOST", "are_wishes", "first_bad", "Table", "_law_tape", "_law_pick", "_law_any", "_law_mixed", "_law_wishes", "_law_count", "_law_all", "_law_is_pairing", "_law_rank", "_law_breaking", "_law_drawn", "_law_bent", "_law_is_flag", "_law_refusal", "_law_is_judged", "_law_known_right"]
theorem runL (w : World) : HandSHeadRun.RunEq Rw (PySem.W.view Rw.prog [34]) hkL obL 4000 lsL w := by
  intro os
  kernel_rfl
def caL (K : PySem.W.Frag) : CA := { BadTable := He.ga K "BadTable", NoPerson := He.ga K "NoPerson", NoWish := He.ga K "NoWish", NoPairing := He.ga K "NoPairing", NoDivision := He.ga K "NoDivision", NoLot := He.ga K "NoLot", TooMany := He.ga K "TooMany", NoBounds := He.ga K "NoBounds", NoName := He.ga K "NoName", NoWishes := He.ga K "NoWishes", NothingDone := He.ga K "NothingDone", NoTables := He.ga K "NoTables", BadText := He.ga K "BadText", NoLine := He.ga K "NoLine", PairError := He.ga K "PairError", Table := He.ga K "Table", Turns := He.ga K "Turns", Board := He.ga K "Board", Desk := He.ga K "Desk" }
theorem lawL {P : Program} {w : World} {K : PySem.W.Frag} {h : Heap} {mg : Str → Option Value} {f : Addr} (X : K.In h) (G : h.Ns mainGlobals mg) (hfa : mg ("law" : Str) = some (.ref f)) (c : He.SaysX faL fnL [] [] exL w h K) :
    ∃ fd : FuncData, (∀ (s : Shared) (v : Value), BindsTo s fd ⟨[v], []⟩ [("script", v)]) ∧ ∀ base : Heap, K.In base → base.Ns mainGlobals mg → FnG P w K mg base 8 f fd ["script"] (spD K 1 (S_law (caL K))) := by
  have cd := c.t.d
  have so : SubOk K (subOf subL K) := subB_ok (Bool.and_eq_true_iff.mp c.more).1
  have sh : SubH (subOf subL K) (caL K) := ⟨subOf_mem (Bool.and_eq_true_iff.mp c.more).1 (x := "NoPairing") (c := .own "PairError") (b := true) (by simp [subL]), subOf_mem (Bool.and_eq_true_iff.mp c.more).1 (x := "NoPairing") (c := .own "NoPairing") (b := true) (by simp [subL]), subOf_mem (Bool.and_eq_true_iff.mp c.more).1 (x := "NoPairing") (c := .ty "ValueError") (b := true) (by simp [subL])⟩
  have T : Tx K mg (He.ga K "NoPairing") (He.ga K "PairError") (He.ga K "Table") := {
    m_ValueError := He.free_ok X G (cd.fact 28 (f := .free "ValueError") rfl),
    m_abs := He.free_ok X G (cd.fact 29 (f := .free "abs") rfl),
    m_all := He.free_ok X G (cd.fact 30 (f := .free "all") rfl),
    m_bool := He.free_ok X G (cd.fact 31 (f := .free "bool") rfl),
    m_enumerate := He.free_ok X G (cd.fact 32 (f := .free "enumerate") rfl),
    m_int := He.free_ok X G (cd.fact 33 (f := .free "int") rfl),
    m_isinstance := He.free_ok X G (cd.fact 34 (f := .free "isinstance") rfl),
    m_len := He.free_ok X G (cd.fact 35 (f := .free "len") rfl),
    m_list := He.free_ok X G (cd.fact 36 (f := .free "list") rfl),
    m_range := He.free_ok X G (cd.fact 37 (f := .free "range") rfl),
    m_repr := He.free_ok X G (cd.fact 38 (f := .free "repr") rfl),
    m_set := He.free_ok X G (cd.fact 39 (f := .free "set") rfl),
    m_sorted := He.free_ok X G (cd.fact 40 (f := .free "sorted") rfl),
    m_tuple := He.free_ok X G (cd.fact 41 (f := .free "tuple") rfl),
    c_MOST := (He.int_ok X G (cd.fact 42 (f := .int "MOST" 30) rfl)).elim fun t e => ⟨_, e, ⟨t, rfl⟩⟩,
    g_NoPairing := He.glo_ok X G (cd.fact 25 (f := .glo "NoPairing") rfl),
    x_NoPairing := ⟨(He.exc_ok (cd.fact 43 (f := .exc "NoPairing") rfl)).1, (He.exc_ok (cd.fact 43 (f := .exc "NoPairing") rfl)).2.1, (He.exc_ok (cd.fact 43 (f := .exc "NoPairing") rfl)).2.2.2, (He.exc_ok (cd.fact 43 (f := .exc "NoPairing") rfl)).2.2.1⟩,
    g_PairError := He.glo_ok X G (cd.fact 26 (f := .glo "PairError") rfl),
    g_Table := He.glo_ok X G (cd.fact 27 (f := .glo "Table") rfl),
    k_Table := He.cls_ok (cd.fact 44 (f := .cls "Table") rfl),
    a_Table_wishes := He.noat_ok (cd.fact 45 (f := .noat "Table" "wishes") rfl),
    a_Table_ranks := He.noat_ok (cd.fact 46 (f := .noat "Table" "ranks") rfl) }
  obtain ⟨fd_is_integer, F_is_integer⟩ := cd.def_ 0 (d := dd_is_integer) rfl
  obtain ⟨fd_is_below, F_is_below⟩ := cd.def_ 1 (d := dd_is_below) rfl
  obtain ⟨fd_are_wishes, F_are_wishes⟩ := cd.def_ 2 (d := dd_are_wishes) rfl
  obtain ⟨fd_first_bad, F_first_bad⟩ := cd.def_ 3 (d := dd_first_bad) rfl
  obtain ⟨fd_Table_zz_initzz_, F_Table_zz_initzz_⟩ := cd.def_ 4 (d := dd_Table_zz_initzz_) rfl
  obtain ⟨fd_law_tape, F_law_tape⟩ := cd.def_ 5 (d := dd_law_tape) rfl
  obtain ⟨fd_law_pick, F_law_pick⟩ := cd.def_ 6 (d := dd_law_pick) rfl
  obtain ⟨fd_law_any, F_law_any⟩ := cd.def_ 7 (d := dd_law_any) rfl
  obtain ⟨fd_law_mixed, F_law_mixed⟩ := cd.def_ 8 (d := dd_law_mixed) rfl
  obtain ⟨fd_law_wishes, F_law_wishes⟩ := cd.def_ 9 (d := dd_law_wishes) rfl
  obtain ⟨fd_law_count, F_law_count⟩ := cd.def_ 10 (d := dd_law_count) rfl
  obtain ⟨fd_law_all, F_law_all⟩ := cd.def_ 11 (d := dd_law_all) rfl
  obtain ⟨fd_law_is_pairing, F_law_is_pairing⟩ := cd.def_ 12 (d := dd_law_is_pairing) rfl
  obtain ⟨fd_law_drawn, F_law_drawn⟩ := cd.def_ 13 (d := dd_law_drawn) rfl
  obtain ⟨fd_law_bent, F_law_bent⟩ := cd.def_ 14 (d := dd_law_bent) rfl
  obtain ⟨fd_Table_many, F_Table_many⟩ := cd.def_ 15 (d := dd_Table_many) rfl
  obtain ⟨fd_is_pairing, F_is_pairing⟩ := cd.def_ 16 (d := dd_is_pairing) rfl
  obtain ⟨fd_Table_is_dearer, F_Table_is_dearer⟩ := cd.def_ 17 (d := dd_Table_is_dearer) rfl
  obtain ⟨fd_raw_breaking, F_raw_breaking⟩ := cd.def_ 18 (d := dd_raw_breaking) rfl
  obtain ⟨fd_is_stable, F_is_stable⟩ := cd.def_ 19 (d := dd_is_stable) rfl
  obtain ⟨fd_law_rank, F_law_rank⟩ := cd.def_ 20 (d := dd_law_rank) rfl
  obtain ⟨fd_law_breaking, F_law_breaking⟩ := cd.def_ 21 (d := dd_law_breaking) rfl
  obtain ⟨fd_law_is_flag, F_law_is_flag⟩ := cd.def_ 22 (d := dd_law_is_flag) rfl
  obtain ⟨fd_breaking, F_breaking⟩ := cd.def_ 23 (d := dd_breaking) rfl
  obtain ⟨fd_law_refusal, F_law_refusal⟩ := cd.def_ 24 (d := dd_law_refusal) rfl
  obtain ⟨fd_law_is_judged, F_law_is_judged⟩ := cd.def_ 25 (d := dd_law_is_judged) rfl
  obtain ⟨fd_law_known_right, F_law_known_right⟩ := cd.def_ 26 (d := dd_law_known_right) rfl
  obtain ⟨fd_law, F_law⟩ := cd.def_ 27 (d := dd_law) rfl
  have e := hfa.symm.trans (He.glo_ok X G (cd.fact 24 (f := .glo "law") rfl))
  cases e
  have b := FunD.bindsA (ps := ["script"]) F_law fun _ _ _ _ _ _ us hl => match us, hl with | [_], _ => rfl
  refine ⟨fd_law, fun s v => b s [v] rfl, fun base _ _ => ?_⟩
  have g_is_integer : DefOk P w K mg base "is_integer" 1 1 (S_is_integer (caL K)) := defOk_of F_is_integer (He.glo_ok X G (cd.fact 0 (f := .glo "is_integer") rfl)) (fnD F_is_integer sc_is_integer (fun ds kk kx hl _ => hold_full (n := 1) hl (by decide)) fun cdv A outer s H E hr => ⟨_, d_is_integer T  hr, fun ds kk kx hl h => p_is_integer (ca := caL K) h⟩) (fun _ _ _ _ _ _ us hl => match us, hl with | [_], _ => rfl)
  have g_is_below : DefOk P w K mg base "is_below" 2 2 (S_is_below (caL K)) := defOk_of F_is_below (He.glo_ok X G (cd.fact 1 (f := .glo "is_below") rfl)) (fnD F_is_below sc_is_below (fun ds kk kx hl _ => hold_full (n := 2) hl (by decide)) fun cdv A outer s H E hr => ⟨_, d_is_below T g_is_integer hr, fun ds kk kx hl h => p_is_below (ca := caL K) h⟩) (fun _ _ _ _ _ _ us hl => match us, hl with | [_, _], _ => rfl)
  have g_are_wishes : DefOk P w K mg base "are_wishes" 3 3 (S_are_wishes (caL K)) := defOk_of F_are_wishes (He.glo_ok X G (cd.fact 2 (f := .glo "are_wishes") rfl)) (fnD F_are_wishes sc_are_wishes (fun ds kk kx hl _ => hold_full (n := 3) hl (by decide)) fun cdv A outer s H E hr => ⟨_, d_are_wishes T g_is_below hr, fun ds kk kx hl h => p_are_wishes (ca := caL K) h⟩) (fun _ _ _ _ _ _ us hl => match us, hl with | [_, _, _], _ => rfl)
  have g_first_bad : DefOk P w K mg base "first_bad" 4 1 (S_first_bad (caL K)) := defOk_of F_first_bad (He.glo_ok X G (cd.fact 3 (f := .glo "first_bad") rfl)) (fnD F_first_bad sc_first_bad (fun ds kk kx hl _ => hold_full (n := 1) hl (by decide)) fun cdv A outer s H E hr => ⟨_, d_first_bad T g_are_wishes hr, fun ds kk kx hl h => p_first_bad (ca := caL K) h⟩) (fun _ _ _ _ _ _ us hl => match us, hl with | [_], _ => rfl)
  have g_Table_zz_initzz_ : ClsOk P w K mg base "Table" (He.ga K "Table") 5 2 (S_Table_zz_initzz_ (caL K)) := clsOk_of F_Table_zz_initzz_ (He.glo_ok X G (cd.fact 27 (f := .glo "Table") rfl)) (He.mkr_ok (cd.fact 47 (f := .mkr "Table") rfl)) (fnD F_Table_zz_initzz_ sc_Table_zz_initzz_ (fun ds kk kx hl _ => hold_full (n := 2) hl (by decide)) fun cdv A outer s H E hr => ⟨_, d_Table_zz_initzz_ T g_first_bad hr, fun ds kk kx hl h => p_Table_zz_initzz_ (ca := caL K) h⟩) (fun _ _ _ _ _ _ us hl => match us, hl with | [_, _], _ => rfl)
  have g_law_tape : DefOk P w K mg base "_law_tape" 1 1 (S_law_tape (caL K)) := defOk_of F_law_tape (He.glo_ok X G (cd.fact 4 (f := .glo "_law_tape") rfl)) (fnD F_law_tape sc_law_tape (fun ds kk kx hl _ => hold_full (n := 1) hl (by decide)) fun cdv A outer s H E hr => ⟨_, d_law_tape T  hr, fun ds kk kx hl h => p_law_tape (ca := caL K) h⟩) (fun _ _ _ _ _ _ us hl => match us, hl with | [_], _ => rfl)
  have g_law_pick : DefOk P w K mg base "_law_pick" 1 2 (S_law_pick (caL K)) := defOk_of F_law_pick (He.glo_ok X G (cd.fact 5 (f := .glo "_law_pick") rfl)) (fnD F_law_pick sc_law_pick (fun ds kk kx hl _ => hold_full (n := 2) hl (by decide)) fun cdv A outer s H E hr => ⟨_, d_law_pick T  hr, fun ds kk kx hl h => p_law_pick (ca := caL K) h⟩) (fun _ _ _ _ _ _ us hl => match us, hl with | [_, _], _ => rfl)
  have g_law_any : DefOk P w K mg base "_law_any" 2 2 (S_law_any (caL K)) := defOk_of F_law_any (He.glo_ok X G (cd.fact 6 (f := .glo "_law_any") rfl)) (fnD F_law_any sc_law_any (fun ds kk kx hl _ => hold_full (n := 2) hl (by decide)) fun cdv A outer s H E hr => ⟨_, d_law_any T g_law_pick hr, fun ds kk kx hl h => p_law_any (ca := caL K) h⟩) (fun _ _ _ _ _ _ us hl => match us, hl with | [_, _], _ => rfl)
  have g_law_mixed : DefOk P w K mg base "_law_mixed" 2 2 (S_law_mixed (caL K)) := defOk_of F_law_mixed (He.glo_ok X G (cd.fact 7 (f := .glo "_law_mixed") rfl)) (fnD F_law_mixed sc_law_mixed (fun ds kk kx hl _ => hold_full (n := 2) hl (by decide)) fun cdv A outer s H E hr => ⟨_, d_law_mixed T g_law_pick hr, fun ds kk kx hl h => p_law_mixed (ca := caL K) h⟩) (fun _ _ _ _ _ _ us hl => match us, hl with | [_, _], _ => rfl)
  have g_law_wishes : DefOk P w K mg base "_law_wishes" 3 2 (S_law_wishes (caL K)) := defOk_of F_law_wishes (He.glo_ok X G (cd.fact 8 (f := .glo "_law_wishes") rfl)) (fnD F_law_wishes sc_law_wishes (fun ds kk kx hl _ => hold_full (n := 2) hl (by decide)) fun cdv A outer s H E hr => ⟨_, d_law_wishes T g_law_pick g_law_mixed hr, fun ds kk kx hl h => p_law_wishes (ca := caL K) h⟩) (fun _ _ _ _ _ _ us hl => match us, hl with | [_, _], _ => rfl)
  have g_law_count : DefOk P w K mg base "_law_count" 2 1 (S_law_count (caL K)) := defOk_of F_law_count (He.glo_ok X G (cd.fact 9 (f := .glo "_law_count") rfl)) (fnD F_law_count sc_law_count (fun ds kk kx hl _ => hold_full (n := 1) hl (by decide)) fun cdv A outer s H E hr => ⟨_, d_law_count T g_law_pick hr, fun ds kk kx hl h => p_law_count (ca := caL K) h⟩) (fun _ _ _ _ _ _ us hl => match us, hl with | [_], _ => rfl)
  have g_law_all : DefOk P w K mg base "_law_all" 1 1 (S_law_all (caL K)) := defOk_of F_law_all (He.glo_ok X G (cd.fact 10 (f := .glo "_law_all") rfl)) (fnD F_law_all sc_law_all (fun ds kk kx hl _ => hold_full (n := 1) hl (by decide)) fun cdv A outer s H E hr => ⟨_, d_law_all T  hr, fun ds kk kx hl h => p_law_all (ca := caL K) h⟩) (fun _ _ _ _ _ _ us hl => match us, hl with | [_], _ => rfl)
  have g_law_is_pairing : DefOk P w K mg base "_law_is_pairing" 1 2 (S_law_is_pairing (caL K)) := defOk_of F_law_is_pairing (He.glo_ok X G (cd.fact 11 (f := .glo "_law_is_pairing") rfl)) (fnD F_law_is_pairing sc_law_is_pairing (fun ds kk kx hl _ => hold_full (n := 2) hl (by decide)) fun cdv A outer s H E hr => ⟨_, d_law_is_pairing T  hr, fun ds kk kx hl h => p_law_is_pairing (ca := caL K) h⟩) (fun _ _ _ _ _ _ us hl => match us, hl with | [_, _], _ => rfl)
  have g_law_drawn : DefOk P w K mg base "_law_drawn" 3 2 (S_law_drawn (caL K)) := defOk_of F_law_drawn (He.glo_ok X G (cd.fact 12 (f := .glo "_law_drawn") rfl)) (fnD F_law_drawn sc_law_drawn (fun ds kk kx hl _ => hold_full (n := 2) hl (by decide)) fun cdv A outer s H E hr => ⟨_, d_law_drawn T g_law_mixed g_law_pick g_law_any hr, fun ds kk kx hl h => p_law_drawn (ca := caL K) h⟩) (fun _ _ _ _ _ _ us hl => match us, hl with | [_, _], _ => rfl)
  have g_law_bent : DefOk P w K mg base "_law_bent" 3 2 (S_law_bent (caL K)) := defOk_of F_law_bent (He.glo_ok X G (cd.fact 13 (f := .glo "_law_bent") rfl)) (fnD F_law_bent sc_law_bent (fun ds kk kx hl _ => hold_full (n := 2) hl (by decide)) fun cdv A outer s H E hr => ⟨_, d_law_bent T g_law_pick g_law_any hr, fun ds kk kx hl h => p_law_bent (ca := caL K) h⟩) (fun _ _ _ _ _ _ us hl => match us, hl with | [_, _], _ => rfl)
  have g_Table_many : MethOk P w K mg base (He.ga K "Table") "many" 1 1 (S_Table_many (caL K)) := methOk_of F_Table_many (He.meth_ok (cd.fact 48 (f := .meth "Table" "many") rfl)) (fnD F_Table_many sc_Table_many (fun ds kk kx hl _ => hold_full (n := 1) hl (by decide)) fun cdv A outer s H E hr => ⟨_, d_Table_many T  hr, fun ds kk kx hl h => p_Table_many (ca := caL K) h⟩) (fun _ _ _ _ _ _ us hl => match us, hl with | [_], _ => rfl)
  have g_is_pairing : DefOk P w K mg base "is_pairing" 3 2 (S_is_pairing (caL K)) := defOk_of F_is_pairing (He.glo_ok X G (cd.fact 14 (f := .glo "is_pairing") rfl)) (fnD F_is_pairing sc_is_pairing (fun ds kk kx hl _ => hold_full (n := 2) hl (by decide)) fun cdv A outer s H E hr => ⟨_, d_is_pairing T g_Table_many g_is_below hr, fun ds kk kx hl h => p_is_pairing (ca := caL K) h⟩) (fun _ _ _ _ _ _ us hl => match us, hl with | [_, _], _ => rfl)
  have g_Table_is_dearer : MethOk P w K mg base (He.ga K "Table") "is_dearer" 1 4 (S_Table_is_dearer (caL K)) := methOk_of F_Table_is_dearer (He.meth_ok (cd.fact 49 (f := .meth "Table" "is_dearer") rfl)) (fnD F_Table_is_dearer sc_Table_is_dearer (fun ds kk kx hl _ => hold_full (n := 4) hl (by decide)) fun cdv A outer s H E hr => ⟨_, d_Table_is_dearer T  hr, fun ds kk kx hl h => p_Table_is_dearer (ca := caL K) h⟩) (fun _ _ _ _ _ _ us hl => match us, hl with | [_, _, _, _], _ => rfl)
  have g_raw_breaking : DefOk P w K mg base "raw_breaking" 2 2 (S_raw_breaking (caL K)) := defOk_of F_raw_breaking (He.glo_ok X G (cd.fact 15 (f := .glo "raw_breaking") rfl)) (fnD F_raw_breaking sc_raw_breaking (fun ds kk kx hl _ => hold_full (n := 2) hl (by decide)) fun cdv A outer s H E hr => ⟨_, d_raw_breaking T g_Table_is_dearer hr, fun ds kk kx hl h => p_raw_breaking (ca := caL K) h⟩) (fun _ _ _ _ _ _ us hl => match us, hl with | [_, _], _ => rfl)
  have g_is_stable : DefOk P w K mg base "is_stable" 4 2 (S_is_stable (caL K)) := defOk_of F_is_stable (He.glo_ok X G (cd.fact 16 (f := .glo "is_stable") rfl)) (fnD F_is_stable sc_is_stable (fun ds kk kx hl _ => hold_full (n := 2) hl (by decide)) fun cdv A outer s H E hr => ⟨_, d_is_stable T g_raw_breaking g_is_pairing hr, fun ds kk kx hl h => p_is_stable (ca := caL K) h⟩) (fun _ _ _ _ _ _ us hl => match us, hl with | [_, _], _ => rfl)
  have g_law_rank : DefOk P w K mg base "_law_rank" 1 3 (S_law_rank (caL K)) := defOk_of F_law_rank (He.glo_ok X G (cd.fact 17 (f := .glo "_law_rank") rfl)) (fnD F_law_rank sc_law_rank (fun ds kk kx hl _ => hold_full (n := 3) hl (by decide)) fun cdv A outer s H E hr => ⟨_, d_law_rank T  hr, fun ds kk kx hl h => p_law_rank (ca := caL K) h⟩) (fun _ _ _ _ _ _ us hl => match us, hl with | [_, _, _], _ => rfl)
  have g_law_breaking : DefOk P w K mg base "_law_breaking" 2 2 (S_law_breaking (caL K)) := defOk_of F_law_breaking (He.glo_ok X G (cd.fact 18 (f := .glo "_law_breaking") rfl)) (fnD F_law_breaking sc_law_breaking (fun ds kk kx hl _ => hold_full (n := 2) hl (by decide)) fun cdv A outer s H E hr => ⟨_, d_law_breaking T g_law_rank hr, fun ds kk kx hl h => p_law_breaking (ca := caL K) h⟩) (fun _ _ _ _ _ _ us hl => match us, hl with | [_, _], _ => rfl)
  have g_law_is_flag : DefOk P w K mg base "_law_is_flag" 1 2 (S_law_is_flag (caL K)) := defOk_of F_law_is_flag (He.glo_ok X G (cd.fact 19 (f := .glo "_law_is_flag") rfl)) (fnD F_law_is_flag sc_law_is_flag (fun ds kk kx hl _ => hold_full (n := 2) hl (by decide)) fun cdv A outer s H E hr => ⟨_, d_law_is_flag T  hr, fun ds kk kx hl h => p_law_is_flag (ca := caL K) h⟩) (fun _ _ _ _ _ _ us hl => match us, hl with | [_, _], _ => rfl)
  have g_breaking : DefOk P w K mg base "breaking" 4 2 (S_breaking (caL K)) := defOk_of F_breaking (He.glo_ok X G (cd.fact 20 (f := .glo "breaking") rfl)) (fnD F_breaking sc_breaking (fun ds kk kx hl _ => hold_full (n := 2) hl (by decide)) fun cdv A outer s H E hr => ⟨_, d_breaking T g_is_pairing g_raw_breaking hr, fun ds kk kx hl h => p_breaking (ca := caL K) h⟩) (fun _ _ _ _ _ _ us hl => match us, hl with | [_, _], _ => rfl)
  have g_law_refusal : DefOk P w K mg base "_law_refusal" 5 2 (S_law_refusal (caL K)) := defOk_of F_law_refusal (He.glo_ok X G (cd.fact 21 (f := .glo "_law_refusal") rfl)) (fnD F_law_refusal sc_law_refusal (fun ds kk kx hl _ => hold_full (n := 2) hl (by decide)) fun cdv A outer s H E hr => ⟨_, d_law_refusal (sub := subOf subL K) so T g_breaking hr, fun ds kk kx hl h => p_law_refusal (ca := caL K) sh h⟩) (fun _ _ _ _ _ _ us hl => match us, hl with | [_, _], _ => rfl)
  have g_law_is_judged : DefOk P w K mg base "_law_is_judged" 6 3 (S_law_is_judged (caL K)) := defOk_of F_law_is_judged (He.glo_ok X G (cd.fact 22 (f := .glo "_law_is_judged") rfl)) (fnD F_law_is_judged sc_law_is_judged (fun ds kk kx hl _ => hold_full (n := 3) hl (by decide)) fun cdv A outer s H E hr => ⟨_, d_law_is_judged T g_law_is_pairing g_law_breaking g_law_refusal g_law_is_flag g_is_pairing g_is_stable hr, fun ds kk kx hl h => p_law_is_judged (ca := caL K) h⟩) (fun _ _ _ _ _ _ us hl => match us, hl with | [_, _, _], _ => rfl)
  have g_law_known_right : DefOk P w K mg base "_law_known_right" 7 0 (S_law_known_right (caL K)) := defOk_of F_law_known_right (He.glo_ok X G (cd.fact 23 (f := .glo "_law_known_right") rfl)) (fnD F_law_known_right sc_law_known_right (fun ds kk kx hl _ => hold_full (n := 0) hl (by decide)) fun cdv A outer s H E hr => ⟨_, d_law_known_right T g_breaking g_Table_zz_initzz_ g_is_stable hr, fun ds kk kx hl h => p_law_known_right (ca := caL K) h⟩) (fun _ _ _ _ _ _ us hl => match us, hl with | [], _ => rfl)
  exact fnD F_law sc_law (fun ds kk kx hl _ => hold_full (n := 1) hl (by decide)) fun cdv A outer s H E hr => ⟨_, d_law T g_law_tape g_law_known_right g_law_wishes g_law_pick g_law_all g_Table_zz_initzz_ g_law_any g_law_is_judged g_law_is_pairing g_law_bent g_law_count g_law_drawn hr, fun ds kk kx hl h => p_law (ca := caL K) h⟩
end K02
open PySem PySem.W PySem.Calls PyProof.Rows
set_option maxRecDepth 100000 in
set_option maxHeartbeats 0 in
theorem PySem.Challenge.cw_pairorring_k02_whole_pairings_and_what_b_holds : PySem.Challenge.rw_pairorring_k02_whole_pairings_and_what_b.Holds := by
  w_on; o_law
  refine HandSHeadRun.head_any (r := K02.Rw) (q := view K02.Rw.prog [34]) (H := K02.hkL) (ob := K02.obL) (M := 4000) (loose := K02.lsL) (d := HandSHeadRun.topDef K02.Rw.prog 34) (kwd := []) K02.obL_eq
    (by kernel_rfl) (fun s => by kernel_rfl) K02.runL (by kernel_rfl) (by kernel_rfl) (by kernel_rfl) (by rfl) (by first | assumption | decide +kernel) (by decide +kernel) ⟨rfl, rfl, rfl, rfl, rfl, by decide +kernel⟩ ?hw ?hc
  case hw => w_witness2
  case hc =>
    refine Dl.walk_ofG (l := PySem.Challenge.rw_pairorring_k02_whole_pairings_and_what_b) (n := 63) (k := 8) (x := "script") rfl (by decide) (by kernel_rfl) ⟨⟨rfl, by decide, by decide⟩, rfl⟩ ?F fun w H s e s' h => Dl.noErrCX h
    intro w mg fa h Y G hmg0
    obtain ⟨K, KX, c⟩ := Y
    have hmg : mg ("law" : PySem.Str) = some (.ref fa) := by
      have e : (HandSHeadRun.topDef K02.Rw.prog 34).name = ("law" : PySem.Str) := by kernel_rfl
      rw [← e]
      exact hmg0
    obtain ⟨fd, hb, hF⟩ := K02.lawL (P := (PySem.Challenge.rw_pairorring_k02_whole_pairings_and_what_b).prog) (w := w) KX G hmg c
    exact ⟨K, fd, Dl.S_law (K02.caL K), KX, (Bool.and_eq_true_iff.mp c.more).2, hb, fun ns kx hl => ⟨ns, rfl, hl, fun _ => rfl⟩, hF⟩
