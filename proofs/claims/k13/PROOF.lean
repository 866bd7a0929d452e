import PyProof.Rows.All
import Wide.All
import OpenK.AllK
import Wide.FinOn
import HandS.ForMost
import HandS.Walk
import HandS.IsInst
import HandS.Deep
import KE.DataEq
import HandS.TupAny
import HandS.TupMul
import HandS.RaiseMore
import KE.KRevSl
import HandS.Style
import HandS.More
import PyProof.ReprReads
import PyProof.ReprRoads
import PyProof.ReprDict
import HandS.Zip
import HandS.Iter
import KE.GoesEnum
import KE.GoesMore
import KE.KStar
import HandS.Conv
import HandS.Comp
import HandS.Exc
import HandS.Defaults
import HandS.Words
import HandS.Head0
import HandS.Head1
import HandS.Head2
import HandS.HeadEnd
import HandS.HeadHook1
import HandS.HeadHook2
import HandS.HeadHook4
import PySem.Challenge.RW_guardbooks_k13_whole_known_books
set_option Elab.async false
set_option linter.all false
set_option maxRecDepth 100000
set_option maxHeartbeats 0
namespace GB
open PySem PySem.Spec L2

/-! ## 1. owned trees, footprints -/
/-- a value of the evaluator: data that never changes, or a list or a dict that one owner may still change -/
inductive O where
  | dat (d : PyData)
  | lst (xs : List O)
  | dic (kvs : List (Key × O))

def keyD : Key → PyData
  | .inl i => .int i
  | .inr x => .str x

mutual
def O.toD : O → PyData
  | .dat d => d
  | .lst xs => .list (O.toDs xs)
  | .dic kvs => .dict (O.toDk kvs)
def O.toDs : List O → List PyData
  | [] => []
  | x :: r => O.toD x :: O.toDs r
def O.toDk : List (Key × O) → List (PyData × PyData)
  | [] => []
  | (k, x) :: r => (keyD k, O.toD x) :: O.toDk r
end

abbrev Fp := Addr → Prop
def Dj (F G : Fp) : Prop := ∀ a, F a → G a → False
theorem Dj.symm {F G : Fp} (h : Dj F G) : Dj G F := fun a x y => h a y x
theorem Dj.mono {F G F' G' : Fp} (h : Dj F G) (a : ∀ b, F' b → F b) (c : ∀ b, G' b → G b) : Dj F' G' := fun b x y => h b (a b x) (c b y)
abbrev F0 : Fp := fun _ => False

/-- what an owned address holds -/
def isOwn : HO → Bool
  | .lst _ => true
  | .dK _ => true
  | _ => false
def Ow (H : Hp) (b : Addr) : Prop := ∃ o, H b = some o ∧ isOwn o = true

/-- the module's own list or tuple -/
def KSeq (T : String) (K : PySem.W.Frag) (a : Addr) (xs : List V) : Prop :=
  ∃ (o : Obj) (its : Array Value) (n : Nat), K.lookup a = some o ∧ o.cls = .type T ∧ (T = "list" → o.dict = none) ∧ o.data = .seq its n ∧ its.size ≤ sizeLine ∧ Vals xs its.toList
def FzL (_K : PySem.W.Frag) (H : Hp) (a : Addr) (xs : List V) : Prop := ∃ o, H a = some (.frz o (.lst xs))
def RdL (_K : PySem.W.Frag) (H : Hp) (a : Addr) (xs : List V) : Prop := Rd H a (.lst xs)
def RdT (K : PySem.W.Frag) (H : Hp) (a : Addr) (xs : List V) : Prop := H a = some (.tup xs) ∨ KSeq "tuple" K a xs
theorem RdL.sq {K : PySem.W.Frag} {H : Hp} {a : Addr} {xs : List V} (h : RdL K H a xs) : SqL K H a xs := by
  exact .inl h
theorem RdT.sq {K : PySem.W.Frag} {H : Hp} {a : Addr} {xs : List V} (h : RdT K H a xs) : SqT K H a xs := by
  rcases h with h | ⟨o, its, n, h1, h2, h3, h4⟩
  · exact .inl (.inl h)
  · exact .inr ⟨o, its, n, h1, h2, h4⟩
theorem FzL.rd {K : PySem.W.Frag} {H : Hp} {a : Addr} {xs : List V} (h : FzL K H a xs) : RdL K H a xs := by
  obtain ⟨o, h⟩ := h
  exact .inr ⟨o, h⟩

def LQ (b : Bool) (K : PySem.W.Frag) (H : Hp) (a : Addr) (xs : List V) : Prop := if b = true then FzL K H a xs else RdL K H a xs
def DQ (b : Bool) (H : Hp) (a : Addr) (kvs : List (Key × V)) : Prop := if b = true then ∃ o, H a = some (.frz o (.dK kvs)) else Rd H a (.dK kvs)

mutual
/-- v tells the data d; b: nothing of it can change any more -/
inductive DV (b : Bool) (K : PySem.W.Frag) (H : Hp) : V → PyData → Prop
  | non : DV b K H .non .none
  | bl (c : Bool) : DV b K H (.bl c) (.bool c)
  | int (i : Int) : DV b K H (.int i) (.int i)
  | str (x : Str) : DV b K H (.str x) (.str x)
  | lst {a : Addr} {xs : List V} {ds : List PyData} : LQ b K H a xs → DVs b K H xs ds → DV b K H (.ref a) (.list ds)
  | tup {a : Addr} {xs : List V} {ds : List PyData} : RdT K H a xs → DVs b K H xs ds → DV b K H (.ref a) (.tuple ds)
  | dic {a : Addr} {kvs : List (Key × V)} {ds : List (PyData × PyData)} : DQ b H a kvs → DVk b K H kvs ds → DV b K H (.ref a) (.dict ds)
inductive DVs (b : Bool) (K : PySem.W.Frag) (H : Hp) : List V → List PyData → Prop
  | nil : DVs b K H [] []
  | cons {v : V} {vs : List V} {d : PyData} {ds : List PyData} : DV b K H v d → DVs b K H vs ds → DVs b K H (v :: vs) (d :: ds)
inductive DVk (b : Bool) (K : PySem.W.Frag) (H : Hp) : List (Key × V) → List (PyData × PyData) → Prop
  | nil : DVk b K H [] []
  | cons {k : Key} {v : V} {vs : List (Key × V)} {d : PyData} {ds : List (PyData × PyData)} : DV b K H v d → DVk b K H vs ds → DVk b K H ((k, v) :: vs) ((keyD k, d) :: ds)
end

mutual
/-- v tells the owned tree o, whose own objects stand at F -/
inductive OT (K : PySem.W.Frag) (H : Hp) : V → O → Fp → Prop
  | dat {v : V} {d : PyData} {F : Fp} : DV true K H v d → OT K H v (.dat d) F
  | lst {a : Addr} {xs : List V} {os : List O} {F G : Fp} : H a = some (.lst xs) → F a → OTs K H xs os G → (∀ b, G b → F b ∧ b ≠ a) → OT K H (.ref a) (.lst os) F
  | dic {a : Addr} {kvs : List (Key × V)} {os : List (Key × O)} {F G : Fp} : H a = some (.dK kvs) → F a → OTk K H kvs os G → (∀ b, G b → F b ∧ b ≠ a) → OT K H (.ref a) (.dic os) F
inductive OTs (K : PySem.W.Frag) (H : Hp) : List V → List O → Fp → Prop
  | nil {F : Fp} : OTs K H [] [] F
  | cons {v : V} {vs : List V} {o : O} {os : List O} {F F1 F2 : Fp} : OT K H v o F1 → OTs K H vs os F2 → Dj F1 F2 → (∀ b, F1 b ∨ F2 b → F b) → OTs K H (v :: vs) (o :: os) F
inductive OTk (K : PySem.W.Frag) (H : Hp) : List (Key × V) → List (Key × O) → Fp → Prop
  | nil {F : Fp} : OTk K H [] [] F
  | cons {k : Key} {v : V} {vs : List (Key × V)} {o : O} {os : List (Key × O)} {F F1 F2 : Fp} : OT K H v o F1 → OTk K H vs os F2 → Dj F1 F2 → (∀ b, F1 b ∨ F2 b → F b) → OTk K H ((k, v) :: vs) ((k, o) :: os) F
end

mutual
/-- v tells the tree o, to be read -/
inductive BT (K : PySem.W.Frag) (H : Hp) : V → O → Prop
  | dat {v : V} {d : PyData} : DV true K H v d → BT K H v (.dat d)
  | lst {a : Addr} {xs : List V} {os : List O} : RdL K H a xs → BTs K H xs os → BT K H (.ref a) (.lst os)
  | dic {a : Addr} {kvs : List (Key × V)} {os : List (Key × O)} : Rd H a (.dK kvs) → BTk K H kvs os → BT K H (.ref a) (.dic os)
inductive BTs (K : PySem.W.Frag) (H : Hp) : List V → List O → Prop
  | nil : BTs K H [] []
  | cons {v : V} {vs : List V} {o : O} {os : List O} : BT K H v o → BTs K H vs os → BTs K H (v :: vs) (o :: os)
inductive BTk (K : PySem.W.Frag) (H : Hp) : List (Key × V) → List (Key × O) → Prop
  | nil : BTk K H [] []
  | cons {k : Key} {v : V} {vs : List (Key × V)} {o : O} {os : List (Key × O)} : BT K H v o → BTk K H vs os → BTk K H ((k, v) :: vs) ((k, o) :: os)
end

/-! ### what stays -/
/-- outside S all that is tracked stays -/
def Kp (S : Fp) (H H' : Hp) : Prop := ∀ b o, H b = some o → ¬ S b → H' b = some o
/-- nothing changes but that it is frozen -/
def Le (H H' : Hp) : Prop := ∀ b o, H b = some o → H' b = some o ∨ (isOwn o = true ∧ ∃ ob, H' b = some (.frz ob o))
theorem Kp.refl {S : Fp} {H : Hp} : Kp S H H := fun _ _ h _ => h
theorem Le.refl {H : Hp} : Le H H := fun _ _ h => .inl h
theorem Le.trans {H H1 H2 : Hp} (a : Le H H1) (b : Le H1 H2) : Le H H2 := fun c o h => by
  rcases a c o h with h1 | ⟨w, ob, h1⟩
  · exact b c o h1
  · rcases b c _ h1 with h2 | ⟨w2, _⟩
    · exact .inr ⟨w, ob, h2⟩
    · simp [isOwn] at w2
def OwS (S : Fp) (H : Hp) : Prop := ∀ b, S b → Ow H b
theorem OwS.not {S : Fp} {H : Hp} (h : OwS S H) {b : Addr} {o : HO} (e : H b = some o) (n : isOwn o = false) : ¬ S b := fun s => by
  obtain ⟨o', e', w⟩ := h b s
  rw [e] at e'; cases e'; rw [n] at w; cases w

section
variable {K : PySem.W.Frag} {H H' : Hp} {S : Fp}
theorem LQ.keep {a : Addr} {xs : List V} (h : LQ true K H a xs) (o : OwS S H) (k : Kp S H H') : LQ true K H' a xs := by
  obtain ⟨ob, h⟩ := (show FzL K H a xs from h)
  exact ⟨ob, k _ _ h (o.not h rfl)⟩
theorem RdT.keep {a : Addr} {xs : List V} (h : RdT K H a xs) (o : OwS S H) (k : Kp S H H') : RdT K H' a xs := by
  rcases h with h | h
  · exact .inl (k _ _ h (o.not h rfl))
  · exact .inr h
theorem DQ.keep {a : Addr} {kvs : List (Key × V)} (h : DQ true H a kvs) (o : OwS S H) (k : Kp S H H') : DQ true H' a kvs := by
  obtain ⟨ob, h⟩ := (show ∃ ob, H a = some (.frz ob (.dK kvs)) from h)
  exact ⟨ob, k _ _ h (o.not h rfl)⟩
mutual
theorem DV.keep (o : OwS S H) (k : Kp S H H') : ∀ (d : PyData) (v : V), DV true K H v d → DV true K H' v d
  | .none, _, h => by cases h; exact .non
  | .bool b, _, h => by cases h; exact .bl b
  | .int b, _, h => by cases h; exact .int b
  | .str b, _, h => by cases h; exact .str b
  | .list ds, _, h => by cases h with | lst h1 h2 => exact .lst (h1.keep o k) (DVs.keep o k ds _ h2)
  | .tuple ds, _, h => by cases h with | tup h1 h2 => exact .tup (h1.keep o k) (DVs.keep o k ds _ h2)
  | .dict ds, _, h => by cases h with | dic h1 h2 => exact .dic (h1.keep o k) (DVk.keep o k ds _ h2)
theorem DVs.keep (o : OwS S H) (k : Kp S H H') : ∀ (d : List PyData) (v : List V), DVs true K H v d → DVs true K H' v d
  | [], _, h => by cases h; exact .nil
  | d :: ds, _, h => by cases h with | cons h1 h2 => exact .cons (DV.keep o k d _ h1) (DVs.keep o k ds _ h2)
theorem DVk.keep (o : OwS S H) (k : Kp S H H') : ∀ (d : List (PyData × PyData)) (v : List (Key × V)), DVk true K H v d → DVk true K H' v d
  | [], _, h => by cases h; exact .nil
  | (_, d) :: ds, _, h => by cases h with | cons h1 h2 => exact .cons (DV.keep o k d _ h1) (DVk.keep o k ds _ h2)
end
theorem LQ.le {b : Bool} {a : Addr} {xs : List V} (h : LQ b K H a xs) (k : Le H H') : LQ b K H' a xs := by
  cases b with
  | true =>
    obtain ⟨ob, h⟩ := (show FzL K H a xs from h)
    rcases k _ _ h with h | ⟨w, _⟩
    · exact ⟨ob, h⟩
    · simp [isOwn] at w
  | false =>
    rcases (show RdL K H a xs from h) with h | ⟨ob, h⟩
    · rcases k _ _ h with h | ⟨w, ob, h⟩
      · exact (show RdL K H' a xs from .inl h)
      · exact (show RdL K H' a xs from .inr ⟨ob, h⟩)
    · rcases k _ _ h with h | ⟨w, _⟩
      · exact (show RdL K H' a xs from .inr ⟨ob, h⟩)
      · simp [isOwn] at w
theorem RdT.le {a : Addr} {xs : List V} (h : RdT K H a xs) (k : Le H H') : RdT K H' a xs := by
  rcases h with h | h
  · rcases k _ _ h with h | ⟨w, _⟩
    · exact .inl h
    · simp [isOwn] at w
  · exact .inr h
theorem DQ.le {b : Bool} {a : Addr} {kvs : List (Key × V)} (h : DQ b H a kvs) (k : Le H H') : DQ b H' a kvs := by
  cases b with
  | true =>
    obtain ⟨ob, h⟩ := (show ∃ ob, H a = some (.frz ob (.dK kvs)) from h)
    rcases k _ _ h with h | ⟨w, _⟩
    · exact ⟨ob, h⟩
    · simp [isOwn] at w
  | false =>
    rcases (show Rd H a (.dK kvs) from h) with h | ⟨ob, h⟩
    · rcases k _ _ h with h | ⟨w, ob, h⟩
      · exact (show Rd H' a (.dK kvs) from .inl h)
      · exact (show Rd H' a (.dK kvs) from .inr ⟨ob, h⟩)
    · rcases k _ _ h with h | ⟨w, _⟩
      · exact (show Rd H' a (.dK kvs) from .inr ⟨ob, h⟩)
      · simp [isOwn] at w
mutual
theorem DV.le {b : Bool} (k : Le H H') : ∀ (d : PyData) (v : V), DV b K H v d → DV b K H' v d
  | .none, _, h => by cases h; exact .non
  | .bool b, _, h => by cases h; exact .bl b
  | .int b, _, h => by cases h; exact .int b
  | .str b, _, h => by cases h; exact .str b
  | .list ds, _, h => by cases h with | lst h1 h2 => exact .lst (h1.le k) (DVs.le k ds _ h2)
  | .tuple ds, _, h => by cases h with | tup h1 h2 => exact .tup (h1.le k) (DVs.le k ds _ h2)
  | .dict ds, _, h => by cases h with | dic h1 h2 => exact .dic (h1.le k) (DVk.le k ds _ h2)
theorem DVs.le {b : Bool} (k : Le H H') : ∀ (d : List PyData) (v : List V), DVs b K H v d → DVs b K H' v d
  | [], _, h => by cases h; exact .nil
  | d :: ds, _, h => by cases h with | cons h1 h2 => exact .cons (DV.le k d _ h1) (DVs.le k ds _ h2)
theorem DVk.le {b : Bool} (k : Le H H') : ∀ (d : List (PyData × PyData)) (v : List (Key × V)), DVk b K H v d → DVk b K H' v d
  | [], _, h => by cases h; exact .nil
  | (_, d) :: ds, _, h => by cases h with | cons h1 h2 => exact .cons (DV.le k d _ h1) (DVk.le k ds _ h2)
end
mutual
theorem DV.weak : ∀ (d : PyData) (v : V), DV true K H v d → DV false K H v d
  | .none, _, h => by cases h; exact .non
  | .bool b, _, h => by cases h; exact .bl b
  | .int b, _, h => by cases h; exact .int b
  | .str b, _, h => by cases h; exact .str b
  | .list ds, _, h => by cases h with | lst h1 h2 => exact .lst (FzL.rd (K := K) h1) (DVs.weak ds _ h2)
  | .tuple ds, _, h => by cases h with | tup h1 h2 => exact .tup h1 (DVs.weak ds _ h2)
  | .dict ds, _, h => by
    cases h with
    | dic h1 h2 =>
      obtain ⟨ob, h1⟩ := (show ∃ ob, H _ = some (.frz ob (.dK _)) from h1)
      exact .dic (show Rd H _ (.dK _) from .inr ⟨ob, h1⟩) (DVk.weak ds _ h2)
theorem DVs.weak : ∀ (d : List PyData) (v : List V), DVs true K H v d → DVs false K H v d
  | [], _, h => by cases h; exact .nil
  | d :: ds, _, h => by cases h with | cons h1 h2 => exact .cons (DV.weak d _ h1) (DVs.weak ds _ h2)
theorem DVk.weak : ∀ (d : List (PyData × PyData)) (v : List (Key × V)), DVk true K H v d → DVk false K H v d
  | [], _, h => by cases h; exact .nil
  | (_, d) :: ds, _, h => by cases h with | cons h1 h2 => exact .cons (DV.weak d _ h1) (DVk.weak ds _ h2)
end
mutual
theorem BT.le (k : Le H H') : ∀ (o : O) (v : V), BT K H v o → BT K H' v o
  | .dat d, _, h => by cases h with | dat h => exact .dat (DV.le k d _ h)
  | .lst os, _, h => by cases h with | lst h1 h2 => exact .lst (LQ.le (K := K) (b := false) h1 k) (BTs.le k os _ h2)
  | .dic os, _, h => by cases h with | dic h1 h2 => exact .dic (DQ.le (b := false) h1 k) (BTk.le k os _ h2)
theorem BTs.le (k : Le H H') : ∀ (o : List O) (v : List V), BTs K H v o → BTs K H' v o
  | [], _, h => by cases h; exact .nil
  | o :: os, _, h => by cases h with | cons h1 h2 => exact .cons (BT.le k o _ h1) (BTs.le k os _ h2)
theorem BTk.le (k : Le H H') : ∀ (o : List (Key × O)) (v : List (Key × V)), BTk K H v o → BTk K H' v o
  | [], _, h => by cases h; exact .nil
  | (_, o) :: os, _, h => by cases h with | cons h1 h2 => exact .cons (BT.le k o _ h1) (BTk.le k os _ h2)
end
mutual
theorem BT.dv : ∀ (o : O) (v : V), BT K H v o → DV false K H v o.toD
  | .dat d, _, h => by cases h with | dat h => simp only [O.toD]; exact DV.weak d _ h
  | .lst os, _, h => by cases h with | lst h1 h2 => simp only [O.toD]; exact .lst h1 (BTs.dv os _ h2)
  | .dic os, _, h => by cases h with | dic h1 h2 => simp only [O.toD]; exact .dic h1 (BTk.dv os _ h2)
theorem BTs.dv : ∀ (o : List O) (v : List V), BTs K H v o → DVs false K H v (O.toDs o)
  | [], _, h => by cases h; simp only [O.toDs]; exact .nil
  | o :: os, _, h => by cases h with | cons h1 h2 => simp only [O.toDs]; exact .cons (BT.dv o _ h1) (BTs.dv os _ h2)
theorem BTk.dv : ∀ (o : List (Key × O)) (v : List (Key × V)), BTk K H v o → DVk false K H v (O.toDk o)
  | [], _, h => by cases h; simp only [O.toDk]; exact .nil
  | (_, o) :: os, _, h => by cases h with | cons h1 h2 => simp only [O.toDk]; exact .cons (BT.dv o _ h1) (BTk.dv os _ h2)
end
mutual
theorem OT.bt : ∀ (o : O) (v : V) (F : Fp), OT K H v o F → BT K H v o
  | .dat d, _, _, h => by cases h with | dat h => exact .dat h
  | .lst os, _, _, h => by cases h with | lst h1 h2 h3 h4 => exact .lst (.inl h1) (OTs.bt os _ _ h3)
  | .dic os, _, _, h => by cases h with | dic h1 h2 h3 h4 => exact .dic (.inl h1) (OTk.bt os _ _ h3)
theorem OTs.bt : ∀ (o : List O) (v : List V) (F : Fp), OTs K H v o F → BTs K H v o
  | [], _, _, h => by cases h; exact .nil
  | o :: os, _, _, h => by cases h with | cons h1 h2 h3 h4 => exact .cons (OT.bt o _ _ h1) (OTs.bt os _ _ h2)
theorem OTk.bt : ∀ (o : List (Key × O)) (v : List (Key × V)) (F : Fp), OTk K H v o F → BTk K H v o
  | [], _, _, h => by cases h; exact .nil
  | (_, o) :: os, _, _, h => by cases h with | cons h1 h2 h3 h4 => exact .cons (OT.bt o _ _ h1) (OTk.bt os _ _ h2)
end
mutual
theorem OT.keep (w : OwS S H) (k : Kp S H H') : ∀ (o : O) (v : V) (F : Fp), OT K H v o F → Dj F S → OT K H' v o F
  | .dat d, _, _, h, _ => by cases h with | dat h => exact .dat (DV.keep w k d _ h)
  | .lst os, _, _, h, j => by cases h with | lst h1 h2 h3 h4 => exact .lst (k _ _ h1 (fun z => j _ h2 z)) h2 (OTs.keep w k os _ _ h3 (j.mono (fun b hb => (h4 b hb).1) fun _ z => z)) h4
  | .dic os, _, _, h, j => by cases h with | dic h1 h2 h3 h4 => exact .dic (k _ _ h1 (fun z => j _ h2 z)) h2 (OTk.keep w k os _ _ h3 (j.mono (fun b hb => (h4 b hb).1) fun _ z => z)) h4
theorem OTs.keep (w : OwS S H) (k : Kp S H H') : ∀ (o : List O) (v : List V) (F : Fp), OTs K H v o F → Dj F S → OTs K H' v o F
  | [], _, _, h, _ => by cases h; exact .nil
  | o :: os, _, _, h, j => by cases h with | cons h1 h2 h3 h4 => exact .cons (OT.keep w k o _ _ h1 (j.mono (fun b hb => h4 b (.inl hb)) fun _ z => z)) (OTs.keep w k os _ _ h2 (j.mono (fun b hb => h4 b (.inr hb)) fun _ z => z)) h3 h4
theorem OTk.keep (w : OwS S H) (k : Kp S H H') : ∀ (o : List (Key × O)) (v : List (Key × V)) (F : Fp), OTk K H v o F → Dj F S → OTk K H' v o F
  | [], _, _, h, _ => by cases h; exact .nil
  | (_, o) :: os, _, _, h, j => by cases h with | cons h1 h2 h3 h4 => exact .cons (OT.keep w k o _ _ h1 (j.mono (fun b hb => h4 b (.inl hb)) fun _ z => z)) (OTk.keep w k os _ _ h2 (j.mono (fun b hb => h4 b (.inr hb)) fun _ z => z)) h3 h4
end
/-- a greater footprint does no harm -/
theorem OT.wide {o : O} {v : V} {F F' : Fp} (h : OT K H v o F) (s : ∀ b, F b → F' b) : OT K H v o F' := by
  cases h with
  | dat h => exact .dat h
  | lst h1 h2 h3 h4 => exact .lst h1 (s _ h2) h3 fun b hb => ⟨s b (h4 b hb).1, (h4 b hb).2⟩
  | dic h1 h2 h3 h4 => exact .dic h1 (s _ h2) h3 fun b hb => ⟨s b (h4 b hb).1, (h4 b hb).2⟩
theorem OTs.wide {o : List O} {v : List V} {F F' : Fp} (h : OTs K H v o F) (s : ∀ b, F b → F' b) : OTs K H v o F' := by
  cases h with
  | nil => exact .nil
  | cons h1 h2 h3 h4 => exact .cons h1 h2 h3 fun b hb => s b (h4 b hb)
theorem OTk.wide {o : List (Key × O)} {v : List (Key × V)} {F F' : Fp} (h : OTk K H v o F) (s : ∀ b, F b → F' b) : OTk K H v o F' := by
  cases h with
  | nil => exact .nil
  | cons h1 h2 h3 h4 => exact .cons h1 h2 h3 fun b hb => s b (h4 b hb)
theorem OTs.length : ∀ {o : List O} {v : List V} {F : Fp}, OTs K H v o F → v.length = o.length
  | [], _, _, h => by cases h; rfl
  | _ :: _, _, _, h => by cases h with | cons h1 h2 h3 h4 => simp [OTs.length h2]
theorem DVs.length {b : Bool} : ∀ {d : List PyData} {v : List V}, DVs b K H v d → v.length = d.length
  | [], _, h => by cases h; rfl
  | _ :: _, _, h => by cases h with | cons h1 h2 => simp [DVs.length h2]
theorem BTs.length : ∀ {d : List O} {v : List V}, BTs K H v d → v.length = d.length
  | [], _, h => by cases h; rfl
  | _ :: _, _, h => by cases h with | cons h1 h2 => simp [BTs.length h2]
theorem OTk.keys : ∀ {o : List (Key × O)} {v : List (Key × V)} {F : Fp}, OTk K H v o F → v.map (·.1) = o.map (·.1)
  | [], _, _, h => by cases h; rfl
  | (_, _) :: _, _, _, h => by cases h with | cons h1 h2 h3 h4 => simp [OTk.keys h2]
theorem DVs.get {b : Bool} : ∀ {d : List PyData} {v : List V} {i : Nat} {x : PyData}, DVs b K H v d → d[i]? = some x → ∃ y, v[i]? = some y ∧ DV b K H y x
  | [], _, _, _, _, e => by simp at e
  | _ :: _, _, 0, _, h, e => by cases h with | cons h1 h2 => simp at e; subst e; exact ⟨_, rfl, h1⟩
  | _ :: _, _, i + 1, x, h, e => by
    cases h with
    | cons h1 h2 =>
      obtain ⟨y, q, r⟩ := DVs.get (i := i) (x := x) h2 (by simpa using e)
      exact ⟨y, by simpa using q, r⟩
theorem DVs.of_get {b : Bool} : ∀ {d : List PyData} {v : List V} {i : Nat} {y : V}, DVs b K H v d → v[i]? = some y → ∃ x, d[i]? = some x ∧ DV b K H y x
  | [], _, _, _, h, e => by cases h; simp at e
  | _ :: _, _, 0, _, h, e => by cases h with | cons h1 h2 => simp at e; subst e; exact ⟨_, rfl, h1⟩
  | _ :: _, _, i + 1, x, h, e => by
    cases h with
    | cons h1 h2 =>
      obtain ⟨y, q, r⟩ := DVs.of_get (i := i) (y := x) h2 (by simpa using e)
      exact ⟨y, by simpa using q, r⟩
theorem BTs.get : ∀ {d : List O} {v : List V} {i : Nat} {x : O}, BTs K H v d → d[i]? = some x → ∃ y, v[i]? = some y ∧ BT K H y x
  | [], _, _, _, _, e => by simp at e
  | _ :: _, _, 0, _, h, e => by cases h with | cons h1 h2 => simp at e; subst e; exact ⟨_, rfl, h1⟩
  | _ :: _, _, i + 1, x, h, e => by
    cases h with
    | cons h1 h2 =>
      obtain ⟨y, q, r⟩ := BTs.get (i := i) (x := x) h2 (by simpa using e)
      exact ⟨y, by simpa using q, r⟩
end
end GB

namespace GB
open PySem PySem.Spec L2

/-! ## 2. freezing -/
section
variable {X : Cx} {pins : List (Addr × Obj)} {σ : St} {H : Hp} {s : Shared} {a : Addr} {u : HO}
theorem frz1 (I : Inv X pins σ H s) (h : H a = some u) (w : isOwn u = true) : ∃ ob, Inv X pins σ (upd H a (.frz ob u)) s := by
  have hob : ∃ ob, s.heap.get? a = some ob := by
    have q := I.hok a u h
    cases u with
    | lst xs => obtain ⟨_, its, n, _, e⟩ := q; exact ⟨_, e⟩
    | dK kvs => obtain ⟨_, _, vs, _, o, _, _, e, _⟩ := q; exact ⟨_, e⟩
    | _ => simp [isOwn] at w
  obtain ⟨ob, e⟩ := hob
  refine ⟨ob, ?_⟩
  have ne : ∀ b o, H b = some o → isOwn o = false → b ≠ a := fun b o q n z => by rw [z, h] at q; cases q; rw [w] at n; cases n
  have nn : ∀ b, H b = none → b ≠ a := fun b q z => by rw [z, h] at q; cases q
  refine ⟨I.ok, I.os, I.bare, ⟨I.base.keep, I.base.slot, fun b o q n hx => by rw [upd_ne (nn b (I.base.free b o q n hx))]; exact I.base.free b o q n hx, I.base.there,
    fun b xs q => by rw [upd_ne (ne b _ (I.base.tups b xs q) rfl)]; exact I.base.tups b xs q, fun b o xs q => by rw [upd_ne (ne b _ (I.base.frzs b o xs q) rfl)]; exact I.base.frzs b o xs q,
    fun b ps q => ?_⟩, I.loc, I.cell, by rw [upd_ne (nn _ I.free)]; exact I.free, fun x c q => by rw [upd_ne (nn _ (I.freeC x c q))]; exact I.freeC x c q, fun p hp => ?_, fun b o q => ?_, I.len⟩
  · obtain ⟨m, e1⟩ := I.base.tbls b ps q
    exact ⟨m, by rw [upd_ne (ne b _ e1 rfl)]; exact e1⟩
  · obtain ⟨e1, e2, e3⟩ := I.pin p hp
    exact ⟨e1, by rw [upd_ne (nn _ e2)]; exact e2, e3⟩
  · have st : ∀ c o', H c = some o' → ObjOk X.prog X.w (upd H a (.frz ob u)) s.heap c o' := fun c o' q' =>
      (I.hok c o' q').stay (fun _ _ _ z => z) (fun d z => by rw [upd_ne (ne d _ z rfl)]; exact z) fun d xs z => by rw [upd_ne (ne d _ z rfl)]; exact z
    by_cases hb : b = a
    · subst hb
      rw [upd_same] at q; cases q
      exact ⟨e, st b u h⟩
    · rw [upd_ne hb] at q
      exact st b o q
theorem le_frz {ob : Obj} (h : H a = some u) (w : isOwn u = true) : Le H (upd H a (.frz ob u)) := fun b o e => by
  by_cases hb : b = a
  · subst hb
    rw [h] at e; cases e
    exact .inr ⟨w, ob, upd_same⟩
  · exact .inl (by rw [upd_ne hb]; exact e)
theorem kp_upd {o : HO} {F : Fp} (f : F a) : Kp F H (upd H a o) := fun b o e n => by rw [upd_ne (fun z => n (by rw [z]; exact f))]; exact e
theorem Kp.trans {F G : Fp} {H1 H2 : Hp} (x : Kp F H H1) (y : Kp G H1 H2) (g : ∀ b, G b → F b) : Kp F H H2 := fun b o e n => y b o (x b o e n) fun z => n (g b z)
mutual
theorem OT.freeze : ∀ (o : O) (v : V) (F : Fp) (H : Hp), OT X.K H v o F → OwS F H → Inv X pins σ H s → ∃ H', Inv X pins σ H' s ∧ DV true X.K H' v o.toD ∧ Kp F H H' ∧ Le H H'
  | .dat d, v, F, H, h, w, I => by
    cases h with
    | dat h => exact ⟨H, I, by simp only [O.toD]; exact h, .refl, .refl⟩
  | .lst os, v, F, H, h, w, I => by
    cases h with
    | lst h1 h2 h3 h4 =>
      rename_i a xs G
      obtain ⟨H1, I1, d1, k1, l1⟩ := OTs.freeze os _ G H h3 (fun b hb => w b (h4 b hb).1) I
      have e1 : H1 a = some (.lst xs) := k1 _ _ h1 fun z => (h4 a z).2 rfl
      obtain ⟨ob, I2⟩ := frz1 I1 e1 rfl
      refine ⟨_, I2, ?_, (fun b o e n => ?_), l1.trans (le_frz e1 rfl)⟩
      · simp only [O.toD]
        exact .lst (show FzL X.K _ _ _ from ⟨ob, upd_same⟩) (DVs.le (le_frz e1 rfl) _ _ d1)
      · rw [upd_ne (fun z => n (by rw [z]; exact h2))]
        exact k1 b o e fun z => n (h4 b z).1
  | .dic os, v, F, H, h, w, I => by
    cases h with
    | dic h1 h2 h3 h4 =>
      rename_i a xs G
      obtain ⟨H1, I1, d1, k1, l1⟩ := OTk.freeze os _ G H h3 (fun b hb => w b (h4 b hb).1) I
      have e1 : H1 a = some (.dK xs) := k1 _ _ h1 fun z => (h4 a z).2 rfl
      obtain ⟨ob, I2⟩ := frz1 I1 e1 rfl
      refine ⟨_, I2, ?_, (fun b o e n => ?_), l1.trans (le_frz e1 rfl)⟩
      · simp only [O.toD]
        exact .dic (show ∃ o, _ from ⟨ob, upd_same⟩) (DVk.le (le_frz e1 rfl) _ _ d1)
      · rw [upd_ne (fun z => n (by rw [z]; exact h2))]
        exact k1 b o e fun z => n (h4 b z).1
theorem OTs.freeze : ∀ (o : List O) (v : List V) (F : Fp) (H : Hp), OTs X.K H v o F → OwS F H → Inv X pins σ H s → ∃ H', Inv X pins σ H' s ∧ DVs true X.K H' v (O.toDs o) ∧ Kp F H H' ∧ Le H H'
  | [], v, F, H, h, w, I => by cases h; exact ⟨H, I, by simp only [O.toDs]; exact .nil, .refl, .refl⟩
  | o :: os, v, F, H, h, w, I => by
    cases h with
    | cons h1 h2 h3 h4 =>
      rename_i F1 F2
      have w1 : OwS F1 H := fun b hb => w b (h4 b (.inl hb))
      obtain ⟨H1, I1, d1, k1, l1⟩ := OT.freeze o _ F1 H h1 w1 I
      have w2 : OwS F2 H1 := fun b hb => by
        obtain ⟨o', e', q⟩ := w b (h4 b (.inr hb))
        exact ⟨o', k1 b o' e' fun z => h3 b z hb, q⟩
      obtain ⟨H2, I2, d2, k2, l2⟩ := OTs.freeze os _ F2 H1 (OTs.keep w1 k1 os _ _ h2 h3.symm) w2 I1
      exact ⟨H2, I2, by simp only [O.toDs]; exact .cons (DV.le l2 _ _ d1) d2, fun b o e n => k2 b o (k1 b o e fun z => n (h4 b (.inl z))) fun z => n (h4 b (.inr z)), l1.trans l2⟩
theorem OTk.freeze : ∀ (o : List (Key × O)) (v : List (Key × V)) (F : Fp) (H : Hp), OTk X.K H v o F → OwS F H → Inv X pins σ H s → ∃ H', Inv X pins σ H' s ∧ DVk true X.K H' v (O.toDk o) ∧ Kp F H H' ∧ Le H H'
  | [], v, F, H, h, w, I => by cases h; exact ⟨H, I, by simp only [O.toDk]; exact .nil, .refl, .refl⟩
  | (k, o) :: os, v, F, H, h, w, I => by
    cases h with
    | cons h1 h2 h3 h4 =>
      rename_i F1 F2
      have w1 : OwS F1 H := fun b hb => w b (h4 b (.inl hb))
      obtain ⟨H1, I1, d1, k1, l1⟩ := OT.freeze o _ F1 H h1 w1 I
      have w2 : OwS F2 H1 := fun b hb => by
        obtain ⟨o', e', q⟩ := w b (h4 b (.inr hb))
        exact ⟨o', k1 b o' e' fun z => h3 b z hb, q⟩
      obtain ⟨H2, I2, d2, k2, l2⟩ := OTk.freeze os _ F2 H1 (OTk.keep w1 k1 os _ _ h2 h3.symm) w2 I1
      exact ⟨H2, I2, by simp only [O.toDk]; exact .cons (DV.le l2 _ _ d1) d2, fun b o e n => k2 b o (k1 b o e fun z => n (h4 b (.inl z))) fun z => n (h4 b (.inr z)), l1.trans l2⟩
end
end

/-! ## 3. slots -/
abbrev SO := List (Option O)
inductive SL (K : PySem.W.Frag) (H : Hp) : SO → St → Fp → Prop
  | nil {S : Fp} : SL K H [] [] S
  | non {τ : SO} {σ : St} {x : Option V} {S : Fp} : SL K H τ σ S → SL K H (none :: τ) (x :: σ) S
  | som {τ : SO} {σ : St} {o : O} {v : V} {F S1 S : Fp} : OT K H v o F → SL K H τ σ S1 → Dj F S1 → (∀ b, F b ∨ S1 b → S b) → SL K H (some o :: τ) (some v :: σ) S
section
variable {K : PySem.W.Frag} {H H' : Hp}
theorem SL.length : ∀ {τ : SO} {σ : St} {S : Fp}, SL K H τ σ S → τ.length = σ.length
  | _, _, _, .nil => rfl
  | _, _, _, .non h => by simp [h.length]
  | _, _, _, .som _ h _ _ => by simp [h.length]
theorem SL.wide : ∀ {τ : SO} {σ : St} {S S' : Fp}, SL K H τ σ S → (∀ b, S b → S' b) → SL K H τ σ S'
  | _, _, _, _, .nil, _ => .nil
  | _, _, _, _, .non h, z => .non (h.wide z)
  | _, _, _, _, .som a h j q, z => .som a h j fun b hb => z b (q b hb)
theorem SL.keep {T : Fp} (w : OwS T H) (k : Kp T H H') : ∀ {τ : SO} {σ : St} {S : Fp}, SL K H τ σ S → Dj S T → SL K H' τ σ S
  | _, _, _, .nil, _ => .nil
  | _, _, _, .non h, j => .non (h.keep w k j)
  | _, _, _, .som a h j q, z => .som (OT.keep w k _ _ _ a (z.mono (fun b hb => q b (.inl hb)) fun _ y => y)) (h.keep w k (z.mono (fun b hb => q b (.inr hb)) fun _ y => y)) j q
/-- a slot's tree taken out -/
theorem SL.take : ∀ {τ : SO} {σ : St} {S : Fp} {i : Nat} {o : O}, SL K H τ σ S → τ[i]? = some (some o) →
    ∃ v F S1, σ[i]? = some (some v) ∧ OT K H v o F ∧ SL K H (τ.set i none) σ S1 ∧ Dj F S1 ∧ ∀ b, F b ∨ S1 b → S b
  | _, _, _, _, _, .nil, e => by simp at e
  | _, _, _, 0, _, .non h, e => by simp at e
  | _, _, _, i + 1, _, .non h, e => by
    obtain ⟨v, F, S1, h1, h2, h3, h4, h5⟩ := h.take (i := i) (by simpa using e)
    exact ⟨v, F, S1, by simpa using h1, h2, .non h3, h4, h5⟩
  | _, _, _, 0, _, .som a h j q, e => by
    simp at e; subst e
    exact ⟨_, _, _, rfl, a, .non h, j, q⟩
  | _, _, S, i + 1, _, @SL.som _ _ τ σ o' v' F' S' _ a h j q, e => by
    obtain ⟨v, F, S1, h1, h2, h3, h4, h5⟩ := h.take (i := i) (by simpa using e)
    refine ⟨v, F, fun b => F' b ∨ S1 b, by simpa using h1, h2, .som a h3 (j.mono (fun _ z => z) fun b hb => h5 b (.inr hb)) fun _ z => z, fun b x y => ?_, fun b hb => ?_⟩
    · rcases y with y | y
      · exact j b y (h5 b (.inl x))
      · exact h4 b x y
    · rcases hb with x | x | x
      · exact q b (.inr (h5 b (.inl x)))
      · exact q b (.inl x)
      · exact q b (.inr (h5 b (.inr x)))
/-- a tree put into a slot -/
theorem SL.put {o : O} {v : V} {F : Fp} (a : OT K H v o F) : ∀ {τ : SO} {σ : St} {S : Fp} {i : Nat}, SL K H τ σ S → Dj F S → SL K H (τ.set i (some o)) (σ.set i (some v)) fun b => F b ∨ S b
  | _, _, _, _, .nil, _ => .nil
  | _, _, _, 0, .non h, j => .som a h j fun _ z => z
  | _, _, _, i + 1, .non h, j => .non (h.put a (i := i) j)
  | _, _, _, 0, .som a' h j' q, j => .som a h (j.mono (fun _ z => z) fun b hb => q b (.inr hb)) fun b hb => hb.elim .inl fun z => .inr (q b (.inr z))
  | _, _, _, i + 1, .som a' h j' q, j => by
    refine .som a' (h.put a (i := i) (j.mono (fun _ z => z) fun b hb => q b (.inr hb))) (fun b x y => ?_) fun b hb => ?_
    · rcases y with y | y
      · exact j b y (q b (.inl x))
      · exact j' b x y
    · rcases hb with x | x | x
      · exact .inr (q b (.inl x))
      · exact .inl x
      · exact .inr (q b (.inr x))
/-- a slot forgotten -/
theorem SL.drop : ∀ {τ : SO} {σ : St} {S : Fp} {i : Nat} (x : Option V), SL K H τ σ S → SL K H (τ.set i none) (σ.set i x) S
  | _, _, _, _, _, .nil => .nil
  | _, _, _, 0, _, .non h => .non h
  | _, _, _, i + 1, x, .non h => .non (h.drop (i := i) x)
  | _, _, _, 0, _, .som a h j q => .non (h.wide fun b hb => q b (.inr hb))
  | _, _, _, i + 1, x, .som a h j q => .som a (h.drop (i := i) x) j q
theorem SL.dropO : ∀ {τ : SO} {σ : St} {S : Fp} {i : Nat}, SL K H τ σ S → SL K H (τ.set i none) σ S
  | _, _, _, _, .nil => .nil
  | _, _, _, 0, .non h => .non h
  | _, _, _, i + 1, .non h => .non (h.dropO (i := i))
  | _, _, _, 0, .som a h j q => .non (h.wide fun b hb => q b (.inr hb))
  | _, _, _, i + 1, .som a h j q => .som a (h.dropO (i := i)) j q
/-- a tree put back where its value still stands -/
theorem SL.back {o : O} {v : V} {F : Fp} {τ : SO} {σ : St} {S : Fp} {i : Nat} (a : OT K H v o F) (h : SL K H τ σ S) (j : Dj F S) (e : σ[i]? = some (some v)) : SL K H (τ.set i (some o)) σ fun b => F b ∨ S b := by
  have q := h.put a (i := i) j
  have e2 : σ.set i (some v) = σ := by
    apply List.ext_getElem?
    intro n
    rw [List.getElem?_set]
    split
    · subst_vars
      obtain ⟨hl, _⟩ := List.getElem?_eq_some_iff.mp e
      rw [if_pos hl, e]
    · rfl
  rwa [e2] at q
theorem SL.at : ∀ {τ : SO} {σ : St} {S : Fp} {i : Nat} {o : O}, SL K H τ σ S → τ[i]? = some (some o) → ∃ v F, σ[i]? = some (some v) ∧ OT K H v o F ∧ ∀ b, F b → S b := fun {τ σ S i o} h e => by
  obtain ⟨v, F, S1, h1, h2, _, _, h5⟩ := h.take e
  exact ⟨v, F, h1, h2, fun b hb => h5 b (.inl hb)⟩
end

/-! ## 4. steps -/
/-- what an evaluation leaves: S the slots' own objects ahead, S' behind, F those of the value; q: nothing but freezing -/
structure Pst (q : Bool) (H : Hp) (S : Fp) (H' : Hp) (S' F : Fp) : Prop where
  keep : Kp S H H'
  own : ∀ b, S' b ∨ F b → Ow H' b
  new : ∀ b, S' b ∨ F b → S b ∨ H b = none
  dj : Dj F S'
  le : q = true → Le H H'
section
variable {q q' : Bool} {H H1 H2 : Hp} {S S1 S2 F F1 F2 : Fp}
theorem Pst.refl (w : OwS S H) : Pst q H S H S F0 := ⟨.refl, fun b hb => hb.elim (w b) False.elim, fun b hb => .inl (hb.elim id False.elim), fun _ z _ => z, fun _ => .refl⟩
theorem Pst.oS (p : Pst q H S H1 S1 F1) : OwS S1 H1 := fun b hb => p.own b (.inl hb)
theorem Pst.oF (p : Pst q H S H1 S1 F1) : OwS F1 H1 := fun b hb => p.own b (.inr hb)
theorem Pst.new2 (p : Pst q H S H1 S1 F1) {b : Addr} (h : S1 b ∨ H1 b = none) : S b ∨ H b = none := by
  rcases h with h | h
  · exact p.new b (.inl h)
  · by_cases hs : S b
    · exact .inl hs
    · cases e : H b with
      | none => exact .inr rfl
      | some o => rw [p.keep b o e hs] at h; cases h
/-- one behind another: the first value's own objects stay apart -/
theorem Pst.trans (p : Pst q H S H1 S1 F1) (r : Pst q' H1 S1 H2 S2 F2) : Pst (q && q') H S H2 S2 (fun b => F1 b ∨ F2 b) where
  keep := fun b o e n => r.keep b o (p.keep b o e n) fun z => by
    rcases p.new b (.inl z) with h | h
    · exact n h
    · rw [e] at h; cases h
  own := fun b hb => by
    rcases hb with h | h | h
    · exact r.own b (.inl h)
    · obtain ⟨o, e, w⟩ := p.oF b h
      exact ⟨o, r.keep b o e fun z => p.dj b h z, w⟩
    · exact r.own b (.inr h)
  new := fun b hb => by
    rcases hb with h | h | h
    · exact p.new2 (r.new b (.inl h))
    · exact p.new b (.inr h)
    · exact p.new2 (r.new b (.inr h))
  dj := fun b x y => by
    rcases x with x | x
    · rcases r.new b (.inl y) with h | h
      · exact p.dj b x h
      · obtain ⟨o, e, _⟩ := p.oF b x
        rw [e] at h; cases h
    · exact r.dj b x y
  le := fun z => by
    simp only [Bool.and_eq_true] at z
    exact (p.le z.1).trans (r.le z.2)
theorem Pst.dj2 (p : Pst q H S H1 S1 F1) (r : Pst q' H1 S1 H2 S2 F2) : Dj F1 F2 := fun b x y => by
  rcases r.new b (.inr y) with h | h
  · exact p.dj b x h
  · obtain ⟨o, e, _⟩ := p.oF b x
    rw [e] at h; cases h
theorem Pst.less (p : Pst q H S H1 S1 F1) {S' F' : Fp} (a : ∀ b, S' b → S1 b) (c : ∀ b, F' b → F1 b) : Pst q H S H1 S' F' :=
  ⟨p.keep, fun b hb => p.own b (hb.imp (a b) (c b)), fun b hb => p.new b (hb.imp (a b) (c b)), p.dj.mono c a, p.le⟩
theorem Pst.weak (p : Pst q H S H1 S1 F1) (z : q' = true → q = true) : Pst q' H S H1 S1 F1 := ⟨p.keep, p.own, p.new, p.dj, fun h => p.le (z h)⟩
/-- the value's own objects move anywhere within -/
theorem Pst.move (p : Pst q H S H1 S1 F1) {S' F' : Fp} (a : ∀ b, S' b ∨ F' b → S1 b ∨ F1 b) (c : Dj F' S') : Pst q H S H1 S' F' :=
  ⟨p.keep, fun b hb => p.own b (a b hb), fun b hb => p.new b (a b hb), c, p.le⟩
/-- a new object -/
theorem Pst.fresh {p : Addr} {o : HO} (w : OwS S H) (n : H p = none) : Pst q H S (upd H p o) S F0 where
  keep := fun b o' e _ => by rw [upd_ne (ne_of_none e n)]; exact e
  own := fun b hb => by
    obtain ⟨o', e, w'⟩ := w b (hb.elim id False.elim)
    exact ⟨o', by rw [upd_ne (ne_of_none e n)]; exact e, w'⟩
  new := fun b hb => .inl (hb.elim id False.elim)
  dj := fun _ z _ => z
  le := fun _ b o' e => .inl (by rw [upd_ne (ne_of_none e n)]; exact e)
/-- a new owned object p that takes over F -/
theorem Pst.laid {p : Addr} {o : HO} (r : Pst q H S H1 S1 F) (n : H1 p = none) (w : isOwn o = true) : Pst q H S (upd H1 p o) S1 (fun b => F b ∨ b = p) where
  keep := fun b o' e x => by
    have h := r.keep b o' e x
    rw [upd_ne (ne_of_none h n)]; exact h
  own := fun b hb => by
    by_cases hp : b = p
    · subst hp; exact ⟨o, upd_same, w⟩
    · obtain ⟨o', e, w'⟩ := r.own b (hb.imp id fun z => z.elim id fun y => absurd y hp)
      exact ⟨o', by rw [upd_ne hp]; exact e, w'⟩
  new := fun b hb => by
    rcases hb with h | h | h
    · exact r.new b (.inl h)
    · exact r.new b (.inr h)
    · subst h; exact r.new2 (.inr n)
  dj := fun b x y => by
    rcases x with x | x
    · exact r.dj b x y
    · subst x
      obtain ⟨o', e, _⟩ := r.oS b y
      rw [n] at e; cases e
  le := fun z b o' e => by
    rcases r.le z b o' e with h | ⟨h1, ob, h2⟩
    · exact .inl (by rw [upd_ne (ne_of_none h n)]; exact h)
    · exact .inr ⟨h1, ob, by rw [upd_ne (ne_of_none h2 n)]; exact h2⟩
end
end GB

namespace GB
open PySem PySem.Spec L2

/-! ## 5. the little language -/
inductive Prim where
  | add | sub | mul | fdiv | mod | pow
  | eq | ne | lt | le | gt | ge | isin | notin | isN | notN
  | neg | len | toint | abs | tolist | totuple | repr | all_
  | isi (T : String)
  | slc (lo hi : Bool)
  | rev
  | lrange
  deriving DecidableEq

inductive Mut where
  | append | extend | insert | pop0 | pop1 | set
  deriving DecidableEq

inductive Tg where
  | nm (i : Nat)
  | tup (is : List Nat)
  deriving DecidableEq

def Tg.slots : Tg → List Nat
  | .nm i => [i]
  | .tup is => is

inductive ItK where
  | seq | rng1 | rng2 | enum | zip
  deriving DecidableEq

mutual
inductive Ex where
  | k (d : PyData)
  | v (i : Nat)
  | g (x : Str)
  | and (a b : Ex)
  | or (a b : Ex)
  | not (a : Ex)
  | ife (c a b : Ex)
  | chain (p q : Prim) (a b c : Ex)
  | pr (p : Prim) (as : Exs)
  | ix (a i : Ex)
  | call (f : Str) (io : List Bool) (as : Exs)
  | callk (f : Str) (pm : List Nat) (as : Exs)
  | mut (m : Mut) (i : Nat) (ks : Exs) (as : Exs)
  | tup (as : Exs)
  | lst (as : Exs)
  | dic (ks : List Key) (as : Exs)
  | lc (e : Ex) (t : Tg) (ik : ItK) (it : Exs) (cond : Ex) (own : List Nat)
  | bad
inductive Exs where
  | nil
  | cons (e : Ex) (r : Exs)
  | star (e : Ex) (r : Exs)
end

mutual
inductive Sm where
  | asg (t : Tg) (e : Ex)
  | par (is : List Nat) (as : Exs)
  | set (i : Nat) (ks : Exs) (e : Ex)
  | ife (c : Ex) (a b : Sms)
  | for_ (t : Tg) (ik : ItK) (it : Exs) (body : Sms)
  | whl (c : Ex) (body : Sms)
  | ret (e : Ex)
  | retv (i : Nat)
  | ex (e : Ex)
  | pas | brk | cont | bad
inductive Sms where
  | nil
  | cons (s : Sm) (r : Sms)
end

/-! ### nothing but freezing -/
def Exs.isNil : Exs → Bool
  | .nil => true
  | _ => false
mutual
def Ex.quiet : Ex → Bool
  | .k _ => true
  | .v _ => true
  | .g _ => true
  | .and a b => a.quiet && b.quiet
  | .or a b => a.quiet && b.quiet
  | .not a => a.quiet
  | .ife c a b => c.quiet && a.quiet && b.quiet
  | .chain _ _ a b c => a.quiet && b.quiet && c.quiet
  | .pr _ as => as.quiet
  | .ix a i => a.quiet && i.quiet
  | .call _ io as => io.all (! ·) && as.quiet
  | .callk _ _ as => as.quiet
  | .mut _ _ _ _ => false
  | .tup as => as.quiet
  | .lst as => as.quiet
  | .dic _ as => as.quiet
  | .lc e _ _ it c _ => e.quiet && it.quiet && c.quiet
  | .bad => true
def Exs.quiet : Exs → Bool
  | .nil => true
  | .cons e r => e.quiet && r.quiet
  | .star e r => e.quiet && r.quiet
end

/-! ### no change at all -/
mutual
def Ex.still : Ex → Bool
  | .k _ => true
  | .v _ => true
  | .g _ => true
  | .pr _ as => as.still
  | .ix a i => a.still && i.still
  | _ => false
def Exs.still : Exs → Bool
  | .nil => true
  | .cons e r => e.still && r.still
  | .star _ _ => false
end
/-! ### values -/
def O.dat? : O → Option PyData
  | .dat d => some d
  | _ => none
def O.items : O → Option (List PyData)
  | .dat (.list ds) => some ds
  | .dat (.tuple ds) => some ds
  | .lst os => os.mapM O.dat?
  | _ => none
def O.isList : O → Bool
  | .dat (.list _) => true
  | .lst _ => true
  | _ => false
def O.isTup : O → Bool
  | .dat (.tuple _) => true
  | _ => false
def O.int? : O → Option Int
  | .dat (.int i) => some i
  | _ => none
def O.bool? : O → Option Bool
  | .dat (.bool i) => some i
  | _ => none
def O.str? : O → Option Str
  | .dat (.str i) => some i
  | _ => none
abbrev oI (i : Int) : O := .dat (.int i)
abbrev oB (b : Bool) : O := .dat (.bool b)
abbrev oL (ds : List PyData) : O := .lst (ds.map O.dat)
abbrev oT (ds : List PyData) : O := .dat (.tuple ds)

/-- == is known to the model -/
def eqOk (a b : PyData) : Bool := a.plain && b.plain && decide (min a.depth b.depth ≤ 64)
def eqEv (a b : PyData) : Option Bool := if eqOk a b = true then some (PyData.eqv a b) else none
def inOk (x : PyData) (xs : List PyData) : Bool := x.plain && PyData.plainAll xs && decide (min (PyData.depthAll xs) x.depth ≤ 64)
def inEv (x : PyData) (xs : List PyData) : Option Bool := if inOk x xs = true then some (xs.any fun z => PyData.eqv z x) else none
def tyD : PyData → String
  | .none => "NoneType"
  | .bool _ => "bool"
  | .int _ => "int"
  | .str _ => "str"
  | .list _ => "list"
  | .tuple _ => "tuple"
  | .dict _ => "dict"
def isiD (T : String) (d : PyData) : Bool := tyD d == T || (T == "int" && tyD d == "bool")
def cutL {α : Type} (xs : List α) (lo hi : Option Int) : List α :=
  (xs.drop (HT.sIx xs.length 0 lo)).take (HT.sIx xs.length xs.length hi - HT.sIx xs.length 0 lo)
/-- how deep and how long a text's data may be -/
def showOk (d : PyData) : Bool := d.showable && decide (d.depth ≤ 64) && decide (d.shown.length ≤ sizeLine)

def intOp (f : Int → Int → Option Int) (a b : O) : Option O :=
  match a.int?, b.int? with
  | some i, some j => (f i j).map oI
  | _, _ => none
def cmpI (f : Int → Int → Bool) (a b : O) : Option O :=
  match a.int?, b.int? with
  | some i, some j => some (oB (f i j))
  | _, _ => none
def ltEv (a b : O) : Option O :=
  match a, b with
  | .dat (.str x), .dat (.str y) => some (oB (decide (x.cps.toList < y.cps.toList)))
  | a, b => cmpI (fun i j => decide (i < j)) a b
def addEv (a b : O) : Option O :=
  match a, b with
  | .dat (.int i), .dat (.int j) => some (oI (i + j))
  | .dat (.str x), .dat (.str y) => if x.length + y.length ≤ sizeLine then some (.dat (.str (x ++ y))) else none
  | .dat (.tuple xs), .dat (.tuple ys) => if xs.length + ys.length ≤ sizeLine then some (oT (xs ++ ys)) else none
  | a, b =>
    if a.isList && b.isList then
      match a.items, b.items with
      | some xs, some ys => if xs.length + ys.length ≤ sizeLine then some (oL (xs ++ ys)) else none
      | _, _ => none
    else none
def mulOk (i j : Int) : Bool := (decide (-(2 ^ 64) < i) && decide (i < 2 ^ 64)) || (decide (-(2 ^ 64) < j) && decide (j < 2 ^ 64))
def mulEv (a b : O) : Option O :=
  match a, b with
  | .dat (.int i), .dat (.int j) => if mulOk i j then some (oI (i * j)) else none
  | .dat (.tuple xs), .dat (.int j) => if -(2 ^ 62) < j ∧ j ≤ 1000 ∧ xs.length ≤ 1000 then some (oT (List.replicate j.toNat xs).flatten) else none
  | a, .dat (.int j) =>
    if a.isList then
      match a.items with
      | some xs => if -(2 ^ 62) < j ∧ j < 2 ^ 62 ∧ xs.length * j.toNat ≤ sizeLine then some (oL (List.replicate j.toNat xs).flatten) else none
      | none => none
    else none
  | _, _ => none
def lenEv : O → Option Nat
  | .dat (.list ds) => some ds.length
  | .dat (.tuple ds) => some ds.length
  | .dat (.str x) => if x.length ≤ sizeLine then some x.length else none
  | .lst os => some os.length
  | _ => none
/-- the j-th place that an index tells -/
def ixOf (n : Nat) (i : Int) : Option Nat := L2.ixN n i

def bools : List PyData → Option (List Bool)
  | [] => some []
  | .bool b :: r => (bools r).map (b :: ·)
  | _ => none

def primEv : Prim → List O → Option O
  | .add, [a, b] => addEv a b
  | .sub, [a, b] => intOp (fun i j => some (i - j)) a b
  | .mul, [a, b] => mulEv a b
  | .fdiv, [a, b] => intOp (fun i j => if 0 < j ∧ j < 1073741824 then some (i / j) else none) a b
  | .mod, [a, b] => intOp (fun i j => if 0 < j then some (i % j) else none) a b
  | .pow, [a, b] => intOp (fun i j => if 0 ≤ j ∧ j ≤ 1000000 ∧ i.natAbs < 2 ^ 64 then some (i ^ j.toNat) else none) a b
  | .eq, [a, b] => (eqEv a.toD b.toD).map oB
  | .ne, [a, b] => (eqEv a.toD b.toD).map fun c => oB (!c)
  | .lt, [a, b] => ltEv a b
  | .le, [a, b] => cmpI (fun i j => decide (i ≤ j)) a b
  | .gt, [a, b] => cmpI (fun i j => decide (j < i)) a b
  | .ge, [a, b] => cmpI (fun i j => decide (j ≤ i)) a b
  | .isin, [a, b] => if b.isList || b.isTup then b.items.bind fun xs => (inEv a.toD xs).map oB else none
  | .notin, [a, b] => if b.isList || b.isTup then b.items.bind fun xs => (inEv a.toD xs).map fun c => oB (!c) else none
  | .isN, [a] => some (oB (match a with | .dat .none => true | _ => false))
  | .notN, [a] => some (oB (match a with | .dat .none => false | _ => true))
  | .neg, [a] => a.int?.map fun i => oI (-i)
  | .len, [a] => (lenEv a).map fun n => oI (n : Nat)
  | .toint, [a] => (match a with | .dat (.int i) => some (oI i) | .dat (.bool c) => some (oI (if c then 1 else 0)) | _ => none)
  | .abs, [a] => a.int?.map fun i => oI (if i < 0 then -i else i)
  | .tolist, [a] => a.items.map oL
  | .totuple, [a] => a.items.map oT
  | .repr, [a] => if showOk a.toD then some (.dat (.str a.toD.shown)) else none
  | .isi T, [a] => some (oB (isiD T a.toD))
  | .all_, [a] => if a.isList then (a.items.bind bools).map fun bs => oB (bs.all id) else none
  | .lrange, [a] => a.int?.bind fun n => if decide (0 ≤ n) && decide (n ≤ 1000000) then some (oL ((List.range n.toNat).map fun i => .int (i : Nat))) else none
  | .slc lo hi, a :: ps =>
    match lo, hi, ps with
    | true, true, [.dat (.int i), .dat (.int j)] => sliceOf a (some i) (some j)
    | true, false, [.dat (.int i)] => sliceOf a (some i) none
    | false, true, [.dat (.int j)] => sliceOf a none (some j)
    | false, false, [] => sliceOf a none none
    | _, _, _ => none
  | .rev, [a] => if a.isTup then a.items.map fun ds => oT ds.reverse else none
  | _, _ => none
where
  sliceOf (a : O) (lo hi : Option Int) : Option O :=
    match a with
    | .dat (.tuple ds) => some (oT (cutL ds lo hi))
    | .dat (.list ds) => some (oL (cutL ds lo hi))
    | .lst os => (os.mapM O.dat?).map fun ds => oL (cutL ds lo hi)
    | _ => none

def truO : O → Option Bool
  | .dat .none => some false
  | .dat (.bool b) => some b
  | .dat (.int i) => some (i != 0)
  | .dat (.str x) => if x.length ≤ sizeLine then some (x.length != 0) else none
  | .dat (.list ds) => some (!ds.isEmpty)
  | .dat (.tuple ds) => some (!ds.isEmpty)
  | .lst os => some (!os.isEmpty)
  | _ => none

def keyOf : O → Option Key
  | .dat (.int i) => some (.inl i)
  | .dat (.str x) => some (.inr x)
  | _ => none

/-- an item to be read -/
def ixEv (a i : O) : Option O :=
  match a, i with
  | .dat (.list ds), .dat (.int j) => (ixOf ds.length j).bind fun n => ds[n]?.map .dat
  | .dat (.tuple ds), .dat (.int j) => (ixOf ds.length j).bind fun n => ds[n]?.map .dat
  | .lst os, .dat (.int j) => (ixOf os.length j).bind fun n => os[n]?
  | .dic kvs, i => (keyOf i).bind fun k => (kvs.find? fun p => decide (p.1 = k)).map (·.2)
  | _, _ => none

/-! ### what changes -/
def putKv (k : Key) (x : O) : List (Key × O) → List (Key × O)
  | [] => [(k, x)]
  | (j, y) :: r => if j = k then (j, x) :: r else (j, y) :: putKv k x r
/-- a change of a container, what it hands back -/
def mutEv : Mut → List O → O → Option (O × O)
  | .append, [x], .lst os => if os.length < sizeLine then some (.dat .none, .lst (os ++ [x])) else none
  | .extend, [x], .lst os => if x.isList then x.items.bind fun ds => if os.length + ds.length ≤ sizeLine then some (.dat .none, .lst (os ++ ds.map .dat)) else none else none
  | .insert, [.dat (.int i), x], .lst os => if os.length < sizeLine ∧ 0 ≤ i ∧ i < 2 ^ 63 then some (.dat .none, .lst (os.take i.toNat ++ [x] ++ os.drop i.toNat)) else none
  | .pop0, [], .lst os => os[os.length - 1]?.map fun x => (x, .lst os.dropLast)
  | .pop1, [.dat (.int i)], .lst os => if -(2 ^ 63) ≤ i ∧ i < 2 ^ 63 then (ixOf os.length i).bind fun n => os[n]?.map fun x => (x, .lst (os.eraseIdx n)) else none
  | .set, [i, x], .lst os => i.int?.bind fun j => (ixOf os.length j).map fun n => (.dat .none, .lst (os.set n x))
  | .set, [i, x], .dic kvs => (keyOf i).bind fun k => if kvs.length < sizeLine then some (.dat .none, .dic (putKv k x kvs)) else none
  | _, _, _ => none
/-- the tree at a place within -/
def pathO : List O → O → Option O
  | [], o => some o
  | i :: r, .lst os => i.int?.bind fun j => (ixOf os.length j).bind fun n => os[n]?.bind fun x => pathO r x
  | i :: r, .dic kvs => (keyOf i).bind fun k => (kvs.find? fun p => decide (p.1 = k)).bind fun q => pathO r q.2
  | _ :: _, .dat _ => none
/-- another tree put there -/
def putO : List O → O → O → Option O
  | [], x, _ => some x
  | i :: r, x, .lst os => i.int?.bind fun j => (ixOf os.length j).bind fun n => os[n]?.bind fun y => (putO r x y).map fun z => .lst (os.set n z)
  | i :: r, x, .dic kvs => (keyOf i).bind fun k => (kvs.find? fun p => decide (p.1 = k)).bind fun q => (putO r x q.2).map fun z => .dic (putKv k z kvs)
  | _ :: _, _, .dat _ => none
/-- a change at a place within -/
def mutAt (f : O → Option (O × O)) (kv : List O) (o : O) : Option (O × O) :=
  (pathO kv o).bind fun x => (f x).bind fun p => (putO kv p.2 o).map fun z => (p.1, z)
def pathIn (t : SO) (i : Nat) (kv : List O) : Option O :=
  match t[i]? with
  | some (some o) => pathO kv o
  | _ => none

/-! ### what is walked -/
def itEv : ItK → List O → Option (List PyData)
  | .seq, [a] => (match a with | .dat (.list ds) => some ds | .dat (.tuple ds) => some ds | _ => none)
  | .rng1, [a] => a.int?.bind fun n => if decide (-(2 ^ 62) ≤ n) && decide (n < 2 ^ 62) then some ((List.range n.toNat).map fun i => .int (i : Nat)) else none
  | .rng2, [a, b] => a.int?.bind fun n => b.int?.bind fun m => if decide (-(2 ^ 62) ≤ n) && decide (n < 2 ^ 62) && decide (-(2 ^ 62) ≤ m) && decide (m < 2 ^ 62) then some ((List.range (m - n).toNat).map fun i => .int (n + (i : Nat))) else none
  | .enum, [a] => (match a with | .dat (.list ds) => some (ds.mapIdx fun i d => .tuple [.int (i : Nat), d]) | .dat (.tuple ds) => some (ds.mapIdx fun i d => .tuple [.int (i : Nat), d]) | _ => none)
  | .zip, [a, b] => (match a, b with
    | .dat (.list xs), .dat (.list ys) => some (xs.zipWith (fun x y => .tuple [x, y]) ys)
    | .dat (.tuple xs), .dat (.tuple ys) => some (xs.zipWith (fun x y => .tuple [x, y]) ys)
    | _, _ => none)
  | _, _ => none

def bnd {α β : Type} (m : Option (α × SO)) (f : α → SO → Option (β × SO)) : Option (β × SO) :=
  match m with
  | none => none
  | some (a, t) => f a t
@[simp] theorem bnd_some {α β : Type} (a : α) (t : SO) (f : α → SO → Option (β × SO)) : bnd (some (a, t)) f = f a t := rfl
@[simp] theorem bnd_none {α β : Type} (f : α → SO → Option (β × SO)) : bnd none f = none := rfl
def lft {α : Type} (m : Option α) (t : SO) : Option (α × SO) := m.map (·, t)
@[simp] theorem lft_some {α : Type} (a : α) (t : SO) : lft (some a) t = some (a, t) := rfl
@[simp] theorem lft_none {α : Type} (t : SO) : lft (none : Option α) t = none := rfl

structure Tb where
  ap : Str → List O → Option (O × List O)
  gc : Str → Option PyData

def setAll : List Nat → List PyData → SO → Option SO
  | [], [], t => some t
  | i :: r, d :: ds, t => setAll r ds (t.set i (some (.dat d)))
  | _, _, _ => none
def tgEv : Tg → PyData → SO → Option SO
  | .nm i, d, t => some (t.set i (some (.dat d)))
  | .tup is, .tuple ds, t => setAll is ds t
  | .tup _, _, _ => none
def wipeO (t : SO) : List Nat → SO
  | [] => t
  | v :: vs => (wipeO t vs).set v none
/-- the block's own names behind it: what was there, if it was data -/
def restO (t0 : SO) : SO → List Nat → SO
  | t, [] => t
  | t, v :: vs => (restO t0 (t.set v none) vs).set v (match t0[v]? with | some (some (.dat d)) => some (.dat d) | _ => none)

/-- written order to the parameters' order -/
def permL {α : Type} (pm : List Nat) (l : List α) : List α := pm.filterMap fun j => l[j]?
/-- a marked argument that is a name -/
def Ex.nm? : Ex → Option Nat
  | .v i => some i
  | _ => none
/-- take what the marked arguments own -/
def ioIn : List Bool → Exs → List O → SO → Option (List O × SO)
  | [], .nil, [], t => some ([], t)
  | b :: io, .cons e r, os, t =>
    match b, e.nm?, os with
    | true, some i, os => (match t[i]? with
      | some (some o) => (ioIn io r os (t.set i none)).map fun p => (o :: p.1, p.2)
      | _ => none)
    | _, _, o :: os => (ioIn io r os t).map fun p => (o :: p.1, p.2)
    | _, _, [] => none
  | _, _, _, _ => none
/-- .. and give back what the call left of it -/
def ioOut : List Bool → Exs → List O → SO → Option SO
  | [], .nil, [], t => some t
  | b :: io, .cons e r, os, t =>
    match b, e.nm?, os with
    | false, _, os => ioOut io r os t
    | true, some i, o :: os => ioOut io r os (t.set i (some o))
    | true, none, _ :: os => ioOut io r os t
    | true, _, [] => none
  | _, _, _, _ => none

inductive Md where | own | bor | tst
  deriving DecidableEq
def fin (m : Md) (o : O) : Option O :=
  match m with
  | .tst => (truO o).map oB
  | _ => some o

def compL (f : PyData → SO → Option (Option O × SO)) : List PyData → SO → Option (List O × SO)
  | [], t => some ([], t)
  | x :: xs, t => bnd (f x t) fun o t1 => bnd (compL f xs t1) fun r t2 => some (match o with | some o => o :: r | none => r, t2)

mutual
def ev (T : Tb) : Md → Ex → SO → Option (O × SO)
  | m, .k d, t => (fin m (.dat d)).map (·, t)
  | m, .v i, t =>
    match t[i]? with
    | some (some o) => (match m with
      | .own => (match o with
        | .dat d => some (.dat d, t)
        | o => some (.dat o.toD, t.set i (some (.dat o.toD))))
      | .bor => some (o, t)
      | .tst => (truO o).map fun b => (oB b, t))
    | _ => none
  | _, .bad, _ => none
  | m, .g x, t => (T.gc x).bind fun d => (fin m (.dat d)).map (·, t)
  | m, .and a b, t =>
    match m with
    | .tst => bnd (ev T .tst a t) fun x t1 => if x.bool? = some true then ev T .tst b t1 else some (oB false, t1)
    | _ => bnd (ev T .own a t) fun x t1 => (match x.bool? with
      | some true => ev T .own b t1
      | some false => some (oB false, t1)
      | none => none)
  | m, .or a b, t =>
    match m with
    | .tst => bnd (ev T .tst a t) fun x t1 => if x.bool? = some true then some (oB true, t1) else ev T .tst b t1
    | _ => bnd (ev T .own a t) fun x t1 => (match x.bool? with
      | some true => some (oB true, t1)
      | some false => ev T .own b t1
      | none => none)
  | m, .not a, t =>
    match m with
    | .tst => bnd (ev T .tst a t) fun x t1 => if x.bool? = some true then some (oB false, t1) else some (oB true, t1)
    | _ => bnd (ev T .own a t) fun x t1 => x.bool?.map fun c => (oB (!c), t1)
  | m, .ife c a b, t => bnd (ev T .tst c t) fun x t1 => if x.bool? = some true then ev T (if m = .tst then .tst else .own) a t1 else ev T (if m = .tst then .tst else .own) b t1
  | m, .chain p q a b c, t =>
    bnd (ev T (if b.quiet && c.quiet then .bor else .own) a t) fun x t1 =>
    bnd (ev T (if c.quiet then .bor else .own) b t1) fun y t2 =>
      match (primEv p [x, y]).bind O.bool? with
      | some true => bnd (ev T .bor c t2) fun z t3 => ((primEv q [y, z]).bind O.bool?).map fun w => (oB w, t3)
      | some false => some (oB false, t2)
      | none => none
  | m, .pr p as, t => bnd (evR T as t) fun os t1 => (primEv p os).bind fun o => (fin m o).map (·, t1)
  | m, .ix a i, t =>
    bnd (ev T (if i.quiet then .bor else .own) a t) fun x t1 =>
    bnd (ev T .bor i t1) fun y t2 => (ixEv x y).bind fun o =>
      match m with
      | .own => (match o with | .dat d => some (.dat d, t2) | _ => none)
      | .bor => some (o, t2)
      | .tst => (truO o).map fun b => (oB b, t2)
  | m, .call f io as, t =>
    bnd (evC T io as t) fun os t1 => (ioIn io as os t1).bind fun p => (T.ap f p.1).bind fun r => (ioOut io as r.2 p.2).bind fun t2 => (fin m r.1).map (·, t2)
  | m, .callk f pm as, t =>
    bnd (evO T as t) fun os t1 => if pm.all (fun j => decide (j < os.length)) then (T.ap f (permL pm os)).bind fun r => if r.2.isEmpty then (fin m r.1).map (·, t1) else none else none
  | m, .mut mt i ks as, t =>
    if ks.isNil || as.quiet then
      (evK T ks t).bind fun kv => (pathIn t i kv).bind fun on => if on.isList then bnd (evA T as t) fun os t2 =>
        match t2[i]? with
        | some (some o) => (mutAt (mutEv mt os) kv o).bind fun p => (fin m p.1).map (·, t2.set i (some p.2))
        | _ => none
      else none
    else none
  | m, .tup as, t => bnd (evA T as t) fun os t1 => if os.length ≤ sizeLine then (fin m (oT (O.toDs os))).map (·, t1) else none
  | m, .lst as, t => bnd (evA T as t) fun os t1 => if os.length ≤ sizeLine then (fin m (.lst os)).map (·, t1) else none
  | m, .dic ks as, t => bnd (evA T as t) fun os t1 => if decide ks.Nodup && decide (ks.length = os.length) && decide (ks.length ≤ 15) then (fin m (.dic (ks.zip os))).map (·, t1) else none
  | m, .lc e tg ik it c own, t =>
    bnd (evO T it t) fun os t1 => (itEv ik os).bind fun xs =>
      bnd (compL (fun x t2 => (tgEv tg x t2).bind fun t3 => bnd (ev T .tst c t3) fun b t4 =>
        if b.bool? = some true then bnd (ev T .own e t4) fun o t5 => some (some o, wipeO t5 own) else some (none, wipeO t4 own)) xs (wipeO t1 own)) fun rs t2 =>
        if rs.length ≤ sizeLine then (fin m (.lst rs)).map (·, restO t1 t2 own) else none
/-- arguments to be read -/
def evR (T : Tb) : Exs → SO → Option (List O × SO)
  | .nil, t => some ([], t)
  | .cons e r, t => bnd (ev T (if r.quiet then .bor else .own) e t) fun o t1 => bnd (evR T r t1) fun os t2 => some (o :: os, t2)
  | .star _ _, _ => none
/-- keys of a place: nothing changes while they come -/
def evK (T : Tb) : Exs → SO → Option (List O)
  | .nil, _ => some []
  | .cons e r, t => if e.still then (ev T .bor e t).bind fun p => (evK T r t).map (p.1 :: ·) else none
  | .star _ _, _ => none
/-- arguments that are handed over -/
def evA (T : Tb) : Exs → SO → Option (List O × SO)
  | .nil, t => some ([], t)
  | .cons e r, t => bnd (ev T .own e t) fun o t1 => bnd (evA T r t1) fun os t2 => some (o :: os, t2)
  | .star e r, t => bnd (ev T .own e t) fun o t1 => o.items.bind fun ds => bnd (evA T r t1) fun os t2 => some (ds.map O.dat ++ os, t2)
/-- .. and frozen (what a loop walks) -/
def evO (T : Tb) : Exs → SO → Option (List O × SO)
  | .nil, t => some ([], t)
  | .cons e r, t => bnd (ev T .own e t) fun o t1 => bnd (evO T r t1) fun os t2 => some (.dat o.toD :: os, t2)
  | .star _ _, _ => none
/-- a call's arguments but those that stay the caller's; what is not marked freezes -/
def evC (T : Tb) : List Bool → Exs → SO → Option (List O × SO)
  | [], .nil, t => some ([], t)
  | b :: io, .cons e r, t =>
    match b, e.nm? with
    | true, some i => (match t[i]? with
      | some (some _) => evC T io r t
      | _ => none)
    | true, none => bnd (ev T .own e t) fun o t1 => bnd (evC T io r t1) fun os t2 => some (o :: os, t2)
    | false, _ => bnd (ev T .own e t) fun o t1 => bnd (evC T io r t1) fun os t2 => some (.dat o.toD :: os, t2)
  | _, _, _ => none
end

/-! ### statements -/
inductive Fl where
  | nx | bk | ct
  | rt (o : O)
def forL (f : PyData → SO → Option (Fl × SO)) : List PyData → SO → Option (Fl × SO)
  | [], t => some (.nx, t)
  | x :: xs, t => bnd (f x t) fun r t1 => match r with
    | .nx => forL f xs t1
    | .ct => forL f xs t1
    | .bk => some (.nx, t1)
    | .rt o => some (.rt o, t1)
def whl (c : SO → Option (O × SO)) (f : SO → Option (Fl × SO)) : Nat → SO → Option (Fl × SO)
  | 0, _ => none
  | n + 1, t => bnd (c t) fun b t1 => if b.bool? = some true then bnd (f t1) fun r t2 => (match r with
    | .nx => whl c f n t2
    | .ct => whl c f n t2
    | .bk => some (.nx, t2)
    | .rt o => some (.rt o, t2)) else some (.nx, t1)
def fuel : Nat := 1000000000
def setOs : List Nat → List O → SO → Option SO
  | [], [], t => some t
  | i :: r, o :: os, t => setOs r os (t.set i (some o))
  | _, _, _ => none

mutual
def ev1 (T : Tb) : Sm → SO → Option (Fl × SO)
  | .asg (.nm i) e, t => bnd (ev T .own e t) fun o t1 => some (.nx, t1.set i (some o))
  | .asg (.tup is) e, t => bnd (ev T .own e t) fun o t1 => (tgEv (.tup is) o.toD t1).map (Fl.nx, ·)
  | .par is as, t => bnd (evA T as t) fun os t1 => (setOs is os t1).map (Fl.nx, ·)
  | .set i ks e, t => bnd (ev T .own e t) fun o t1 => (evK T ks t1).bind fun kv =>
        match t1[i]?, kv.getLast? with
        | some (some c), some j => (mutAt (mutEv .set [j, o]) kv.dropLast c).map fun p => (Fl.nx, t1.set i (some p.2))
        | _, _ => none
  | .ife c a b, t => bnd (ev T .tst c t) fun x t1 => if x.bool? = some true then evS T a t1 else evS T b t1
  | .for_ tg ik it body, t => bnd (evO T it t) fun os t1 => (itEv ik os).bind fun xs => forL (fun x t2 => (tgEv tg x t2).bind fun t3 => evS T body t3) xs t1
  | .whl c body, t => whl (fun t => ev T .tst c t) (fun t => evS T body t) fuel t
  | .ret e, t => bnd (ev T .own e t) fun o t1 => some (.rt o, t1)
  | .retv i, t => (match t[i]? with | some (some o) => some (.rt o, t.set i none) | _ => none)
  | .ex e, t => bnd (ev T .own e t) fun _ t1 => some (.nx, t1)
  | .pas, t => some (.nx, t)
  | .brk, t => some (.bk, t)
  | .cont, t => some (.ct, t)
  | .bad, _ => none
def evS (T : Tb) : Sms → SO → Option (Fl × SO)
  | .nil, t => some (.nx, t)
  | .cons s r, t => bnd (ev1 T s t) fun f t1 => match f with
    | .nx => evS T r t1
    | f => some (f, t1)
end

/-- a def: how many slots, which parameters stay the caller's, the body -/
structure Fn where
  n : Nat
  io : List Bool
  body : Sms
def outsOf : List Bool → SO → Option (List O)
  | [], _ => some []
  | true :: io, some o :: t => (outsOf io t).map (o :: ·)
  | false :: io, _ :: t => outsOf io t
  | _, _ => none
def evF (T : Tb) (f : Fn) (as : List O) : Option (O × List O) :=
  if as.length = f.io.length then
    match evS T f.body (as.map some ++ List.replicate (f.n - as.length) none) with
    | some (.rt o, t) => (outsOf f.io t).map (o, ·)
    | some (.nx, t) => (outsOf f.io t).map (.dat .none, ·)
    | _ => none
  else none
end GB

namespace GB
open PySem PySem.Spec L2

/-! ## 6. from the text to the little language -/
/-- parameters, which stay the caller's, how keywords are written -/
abbrev Sg := List Str × List Bool × List (Nat × List Str)
structure TC where
  N : List Str
  sc : Scope
  prot : List Nat
  sg : Str → Option Sg
  gl : Str → Bool
  st : Str → Bool

def TC.blk (C : TC) (scope : Scope) : TC := { C with sc := relS scope C.sc, st := fun x => match scope.names.lookup x with
  | some .local => true
  | some .cell => true
  | _ => false }
def slot (N : List Str) (x : Str) : Option Nat := N.idxOf? x
def isVis (sc : Scope) (x : Str) : Bool :=
  match sc.names.lookup x with
  | some .local => true
  | some .cell => true
  | some .free => true
  | _ => false
def isLoc (sc : Scope) (x : Str) : Bool :=
  match sc.names.lookup x with
  | some .local => true
  | some .cell => true
  | _ => false
def isGl (sc : Scope) (x : Str) : Bool :=
  match sc.names.lookup x with
  | some .globalImplicit => true
  | _ => false
def odd (x : Str) : Bool := x == ("__debug__" : Str) || x == ("__classdict__" : Str) || x == ("__name__" : Str)

def cmpPrim : CmpOp → Option Prim
  | .Eq => some .eq
  | .NotEq => some .ne
  | .Lt => some .lt
  | .LtE => some .le
  | .Gt => some .gt
  | .GtE => some .ge
  | .In => some .isin
  | .NotIn => some .notin
  | _ => none
def binPrim : Operator → Option Prim
  | .Add => some .add
  | .Sub => some .sub
  | .Mult => some .mul
  | .FloorDiv => some .fdiv
  | .Mod => some .mod
  | .Pow => some .pow
  | _ => none
/-- built-ins of one argument -/
def bltPrim (x : Str) : Option Prim :=
  if x == ("len" : Str) then some .len
  else if x == ("int" : Str) then some .toint
  else if x == ("abs" : Str) then some .abs
  else if x == ("list" : Str) then some .tolist
  else if x == ("tuple" : Str) then some .totuple
  else if x == ("repr" : Str) then some .repr
  else if x == ("all" : Str) then some .all_
  else none
def tyNames : List (Str × String) := [("int", "int"), ("bool", "bool"), ("str", "str"), ("tuple", "tuple"), ("list", "list"), ("dict", "dict")]
def mutOf (m : Str) (n : Nat) : Option Mut :=
  if m == ("append" : Str) && n == 1 then some .append
  else if m == ("extend" : Str) && n == 1 then some .extend
  else if m == ("insert" : Str) && n == 2 then some .insert
  else if m == ("pop" : Str) && n == 0 then some .pop0
  else if m == ("pop" : Str) && n == 1 then some .pop1
  else none
def keyC : Option Expr → Option Key
  | some (.Constant (.str x) _ _) => some (.inr x)
  | some (.Constant (.int i) _ _) => some (.inl i)
  | _ => none
def keysC : List (Option Expr) → Option (List Key)
  | [] => some []
  | e :: r => match keyC e, keysC r with
    | some k, some ks => some (k :: ks)
    | _, _ => none
/-- a name or items within it: the slot and the keys, the outermost first -/
def pathOf (C : TC) : Expr → Option (Nat × List Expr)
  | .Name x _ => if isVis C.sc x && !odd x then (slot C.N x).map (·, []) else none
  | .Subscript e i _ => (match i with
    | .Slice _ _ _ _ => none
    | _ => (pathOf C e).map fun p => (p.1, p.2 ++ [i]))
  | _ => none
def exsOf : List Ex → Exs
  | [] => .nil
  | e :: r => .cons e (exsOf r)
/-- the slots of plain names -/
def nmSlots (C : TC) : List Expr → Option (List Nat)
  | [] => some []
  | .Name x _ :: r => if isLoc C.sc x && !odd x && C.st x then (match slot C.N x, nmSlots C r with
    | some i, some is => if i ∈ C.prot then none else some (i :: is)
    | _, _ => none) else none
  | _ :: _ => none
def trTg (C : TC) : Expr → Option Tg
  | .Name x _ => if isLoc C.sc x && !odd x && C.st x then (match slot C.N x with
    | some i => if i ∈ C.prot then none else some (.nm i)
    | none => none) else none
  | .Tuple es _ _ => (nmSlots C es).map .tup
  | _ => none
def ownOf (N : List Str) : List (Str × NameKind) → List (Str × Nat)
  | [] => []
  | (x, k) :: r => match k, N.idxOf? x with
    | .local, some i => (x, i) :: ownOf N r
    | .cell, some i => (x, i) :: ownOf N r
    | _, _ => ownOf N r

def isLC : Expr → Bool
  | .ListComp .. => true
  | .SetComp .. => true
  | .DictComp .. => true
  | _ => false

def notStar : Expr → Bool
  | .Starred .. => false
  | _ => true
def noSet : Expr → Bool
  | .Set .. => false
  | _ => true
def isTupE : Expr → Bool
  | .Tuple .. => true
  | _ => false
def exsMap (f : Expr → Ex) : List Expr → Exs
  | [] => .nil
  | .Starred e _ :: r => .star (f e) (exsMap f r)
  | e :: r => .cons (f e) (exsMap f r)
/-- a name that is built in, nothing in its way -/
def isB (C : TC) (f : Str) : Bool := isGl C.sc f && (C.sg f).isNone && !C.gl f
/-- what a for walks; tup: its target is a tuple -/
def trIt (f : Expr → Ex) (C : TC) (tup : Bool) (e : Expr) : ItK × Exs := match e with
  | .Call (.Name g _) [a] [] _ =>
    if isB C g && g == ("range" : Str) && notStar a then (.rng1, .cons (f a) .nil)
    else if isB C g && g == ("enumerate" : Str) && notStar a && tup then (.enum, .cons (f a) .nil)
    else (.seq, .cons (f e) .nil)
  | .Call (.Name g _) [a, b] [] _ =>
    if isB C g && g == ("range" : Str) && notStar a && notStar b then (.rng2, .cons (f a) (.cons (f b) .nil))
    else if isB C g && g == ("zip" : Str) && notStar a && notStar b && tup then (.zip, .cons (f a) (.cons (f b) .nil))
    else (.seq, .cons (f e) .nil)
  | _ => (.seq, .cons (f e) .nil)
def slcOf : Option Expr → Option Expr → Option Expr → Option (Bool × Bool × List Expr)
  | none, none, none => some (false, false, [])
  | some l, none, none => some (true, false, [l])
  | none, some h, none => some (false, true, [h])
  | some l, some h, none => some (true, true, [l, h])
  | _, _, _ => none
def isRev : Option Expr → Option Expr → Option Expr → Bool
  | none, none, some (.UnaryOp .USub (.Constant (.int 1) _ _) _) => true
  | _, _, _ => false
def Exs.app : Exs → Exs → Exs
  | .nil, r => r
  | .cons e s, r => .cons e (s.app r)
  | .star e s, r => .star e (s.app r)
def ksOf : List Keyword → Option (List Str)
  | [] => some []
  | ⟨some k, _, _⟩ :: r => (ksOf r).map (k :: ·)
  | ⟨none, _, _⟩ :: _ => none
/-- where each parameter's argument is written -/
def pmOf (ps : List Str) (n : Nat) (ks : List Str) : List Nat := (List.range ps.length).map fun i => if i < n then i else n + ks.idxOf (ps.getD i (Str.ofString ""))
/-- a name that is called -/
def trCall (f : Expr → Ex) (C : TC) (g : Str) (args : List Expr) (kws : List Keyword) : Ex :=
  if odd g || !isGl C.sc g then .bad
  else match C.sg g with
    | some (ps, io, sh) => (match kws with
      | [] => if args.length == ps.length && io.length == ps.length && args.all notStar then .call g io (exsMap f args) else .bad
      | _ => (match ksOf kws with
        | some ks => if sh.contains (args.length, ks) && io.all (! ·) && io.length == ps.length && args.all notStar && (kws.map (·.value)).all notStar then .callk g (pmOf ps args.length ks) ((exsMap f args).app (exsMap f (kws.map (·.value)))) else .bad
        | none => .bad))
    | none => if C.gl g then .bad else (match kws, args with
      | [], [a] => if notStar a then
          (match bltPrim g with
          | some p => .pr p (.cons (f a) .nil)
          | none => .bad) else .bad
      | [], [a, .Name t _] => if g == ("isinstance" : Str) && isB C t && notStar a then (match tyNames.lookup t with | some T => .pr (.isi T) (.cons (f a) .nil) | none => .bad) else .bad
      | _, _ => .bad)
/-- list(range(a)) -/
def lrOf (C : TC) : Expr → Option Expr
  | .Call (.Name g _) [.Call (.Name h _) [a] [] _] [] _ => if g == ("list" : Str) && isB C g && h == ("range" : Str) && isB C h && notStar a then some a else none
  | _ => none

/-- a comprehension -/
def lcOf (g : TC → Expr → Ex) (f : Expr → Ex) (C : TC) (elt tg it : Expr) (ifs : List Expr) (scope : Scope) : Ex :=
  if blkC C.N C.sc scope (ownOf C.N scope.names) && (ownOf C.N scope.names).all (fun p => !(p.2 ∈ C.prot)) && noSet it then
    match trTg (C.blk scope) tg, ifs with
    | some t, [] => if t.slots.all (fun j => j ∈ (ownOf C.N scope.names).map (·.2)) then .lc (g (C.blk scope) elt) t (trIt f C (isTupE tg) it).1 (trIt f C (isTupE tg) it).2 (.k (.bool true)) ((ownOf C.N scope.names).map (·.2)) else .bad
    | some t, [c] => if t.slots.all (fun j => j ∈ (ownOf C.N scope.names).map (·.2)) then .lc (g (C.blk scope) elt) t (trIt f C (isTupE tg) it).1 (trIt f C (isTupE tg) it).2 (g (C.blk scope) c) ((ownOf C.N scope.names).map (·.2)) else .bad
    | _, _ => .bad
  else .bad
def tr : Nat → TC → Expr → Ex
  | 0, _, _ => .bad
  | n + 1, C, e => match e with
    | .Constant c _ _ => (match c with
      | .none => .k .none
      | .bool b => .k (.bool b)
      | .int i => .k (.int i)
      | .str x => .k (.str x)
      | _ => .bad)
    | .Name x _ =>
      if odd x then .bad
      else if isVis C.sc x then (match slot C.N x with | some i => .v i | none => .bad)
      else if isGl C.sc x && C.gl x then .g x else .bad
    | .BoolOp op vs pos => (match op, vs with
      | .And, [a] => tr n C a
      | .And, a :: b :: r => .and (tr n C a) (tr n C (.BoolOp .And (b :: r) pos))
      | .Or, [a] => tr n C a
      | .Or, a :: b :: r => .or (tr n C a) (tr n C (.BoolOp .Or (b :: r) pos))
      | _, _ => .bad)
    | .UnaryOp op a _ => (match op with
      | .Not => .not (tr n C a)
      | .USub => .pr .neg (.cons (tr n C a) .nil)
      | _ => .bad)
    | .BinOp a op b _ => (match binPrim op with | some p => .pr p (.cons (tr n C a) (.cons (tr n C b) .nil)) | none => .bad)
    | .IfExp c a b _ => .ife (tr n C c) (tr n C a) (tr n C b)
    | .Compare a ops cs _ => (match ops, cs with
      | [op], [b] => (match op, b with
        | .Is, .Constant .none _ _ => .pr .isN (.cons (tr n C a) .nil)
        | .IsNot, .Constant .none _ _ => .pr .notN (.cons (tr n C a) .nil)
        | op, b => if noSet b then (match cmpPrim op with
          | some p => .pr p (.cons (tr n C a) (.cons (tr n C b) .nil))
          | none => .bad) else .bad)
      | [op, op'], [b, c] => if noSet b && noSet c then (match cmpPrim op, cmpPrim op' with
        | some p, some q => .chain p q (tr n C a) (tr n C b) (tr n C c)
        | _, _ => .bad) else .bad
      | _, _ => .bad)
    | .Tuple es _ _ => .tup (exsMap (tr n C) es)
    | .List es _ => .lst (exsMap (tr n C) es)
    | .Dict ks vs _ => (match keysC ks with
      | some kl => if ks.length == vs.length && vs.all notStar then .dic kl (exsMap (tr n C) vs) else .bad
      | none => .bad)
    | .Subscript a s _ => (match s with
      | .Slice l h st _ => (match slcOf l h st with
        | some (bl, bh, ps) => .pr (.slc bl bh) (.cons (tr n C a) (exsOf (ps.map (tr n C))))
        | none => if isRev l h st then .pr .rev (.cons (tr n C a) .nil) else .bad)
      | _ => .ix (tr n C a) (tr n C s))
    | .Call f args kws pos => (match lrOf C (.Call f args kws pos) with
      | some a => .pr .lrange (.cons (tr n C a) .nil)
      | none => (match f with
        | .Name g _ => trCall (tr n C) C g args kws
        | .Attribute o m apos =>
          if kws.isEmpty && apos.endLine == pos.line && decide (args.length < 20) && args.all notStar then
            match mutOf m args.length, pathOf C o with
            | some mt, some (i, ks) => if ks.all notStar then .mut mt i (exsMap (tr n C) ks) (exsMap (tr n C) args) else .bad
            | _, _ => .bad
          else .bad
        | _ => .bad))
    | .ListComp elt gs scope _ => (match gs with
      | [⟨tg, it, ifs, 0⟩] => lcOf (tr n) (tr n C) C elt tg it ifs scope
      | _ => .bad)
    | _ => .bad

def nameOf : Expr → Option Str
  | .Name x _ => some x
  | _ => none
/-- a local name on that line -/
def isHere (C : TC) (line : Nat) : Expr → Bool
  | .Name x p => C.sc.names.lookup x == some .local && p.line == line
  | _ => false
/-- a, b = x, y: 1 through a tuple, 2 stored from the right, 0 not covered -/
def parK (C : TC) (us es : List Expr) : Nat :=
  if us.length == es.length && es.all notStar && decide (us.length < 100) then
    if us.length == 2 || us.length == 3 then
      if us.all (isHere C ((us.head?.map (·.pos.line)).getD 0)) then
        if !(es.all (foldedForSure 8)) && !(es.all (constantsAlone 8)) && decide ((us.filterMap nameOf).Nodup) then 2 else 0
      else 1
    else 1
  else 0
def smsOf (f : Stmt → Sm) : List Stmt → Sms
  | [] => .nil
  | s :: r => .cons (f s) (smsOf f r)
def trS : Nat → TC → Stmt → Sm
  | 0, _, _ => .bad
  | n + 1, C, s => match s with
    | .Assign ts e _ => (match ts with
      | [t] => (match t with
        | .Name x p => (match trTg C t with | some tg => .asg tg (tr n C e) | none => .bad)
        | .Tuple us _ _ => (match e with
          | .Tuple es _ _ => if parK C us es == 0 then .bad else (match nmSlots C us with
            | some is => .par is (exsMap (tr n C) es)
            | none => .bad)
          | _ => if isLC e then .bad else (match trTg C t with | some tg => .asg tg (tr n C e) | none => .bad))
        | .Subscript _ _ _ => if isLC e then .bad else (match pathOf C t with
          | some (i, ks) => if ks.all notStar then .set i (exsMap (tr n C) ks) (tr n C e) else .bad
          | none => .bad)
        | _ => .bad)
      | _ => .bad)
    | .If c a b _ => .ife (tr n C c) (smsOf (trS n C) a) (smsOf (trS n C) b)
    | .For tg it body els _ => if noSet it && els.isEmpty then (match trTg C tg with
      | some t => .for_ t (trIt (tr n C) C (isTupE tg) it).1 (trIt (tr n C) C (isTupE tg) it).2 (smsOf (trS n C) body)
      | none => .bad) else .bad
    | .While c body els _ => if els.isEmpty then .whl (tr n C c) (smsOf (trS n C) body) else .bad
    | .Return e _ => (match e with
      | some e => (match tr n C e with
        | .v i => if i ∈ C.prot then .ret (.v i) else .retv i
        | x => .ret x)
      | none => .ret (.k .none))
    | .Expr e _ => if isLC e then .bad else .ex (tr n C e)
    | .Pass _ => .pas
    | .Break _ => .brk
    | .Continue _ => .cont
    | _ => .bad
end GB

namespace GB
open PySem PySem.Spec L2

/-! ## 7. what the little language promises of the text -/
section
variable {X : Cx} {e : Expr} {t t' : TE}
theorem _root_.L2.PE.mono (h : PE X e t) (f : ∀ σ H Q, t' σ H Q → t σ H Q) : PE X e t' := ⟨fun pins s σ H Q I q => h.run pins s σ H Q I (f σ H Q q)⟩
theorem _root_.L2.PE.ghost (h : PE X e t) (f : ∀ σ H Q, t' σ H Q → t σ H fun v H1 => ∀ pins s, Inv X pins σ H1 s → ∃ H2, Inv X pins σ H2 s ∧ Q v H2) : PE X e t' :=
  ⟨fun pins s σ H Q I q => thn (h.run pins s σ H _ I (f σ H Q q)) fun u s1 ⟨v, H1, I1, r, g⟩ => by
    obtain ⟨H2, I2, q2⟩ := g pins s1 I1
    exact ⟨v, H2, I2, r, q2⟩⟩
theorem _root_.L2.PT.mono {u u' : TT} (h : PT X e u) (f : ∀ σ H Q, u' σ H Q → u σ H Q) : PT X e u' := ⟨fun pins s σ H Q I q => h.run pins s σ H Q I (f σ H Q q)⟩
theorem _root_.L2.PA.mono {es : List Expr} {u u' : TA} (h : PA X es u) (f : ∀ σ H Q, u' σ H Q → u σ H Q) : PA X es u' := ⟨fun pos pins s σ H Q I q => h.run pos pins s σ H Q I (f σ H Q q)⟩
theorem _root_.L2.PA.ghost {es : List Expr} {u u' : TA} (h : PA X es u) (f : ∀ σ H Q, u' σ H Q → u σ H fun v H1 => ∀ pins s, Inv X pins σ H1 s → ∃ H2, Inv X pins σ H2 s ∧ Q v H2) : PA X es u' :=
  ⟨fun pos pins s σ H Q I q => thn (h.run pos pins s σ H _ I (f σ H Q q)) fun u s1 ⟨v, H1, I1, r, g⟩ => by
    obtain ⟨H2, I2, q2⟩ := g pins s1 I1
    exact ⟨v, H2, I2, r, q2⟩⟩
theorem _root_.L2.PE.bad : PE X e (fun _ _ _ => False) := ⟨fun _ _ _ _ _ _ h => h.elim⟩
theorem _root_.L2.PT.bad : PT X e (fun _ _ _ => False) := ⟨fun _ _ _ _ _ _ h => h.elim⟩
end

/-- what comes of a value -/
def Res (K : PySem.W.Frag) (H : Hp) (m : Md) (v : V) (o : O) (F : Fp) : Prop :=
  match m with
  | .own => OT K H v o F
  | _ => BT K H v o
def tE (T : Tb) (K : PySem.W.Frag) (m : Md) (x : Ex) : TE := fun σ H Q => ∃ τ S o τ', OwS S H ∧ SL K H τ σ S ∧ ev T m x τ = some (o, τ') ∧
  ∀ v H' S' F, Pst x.quiet H S H' S' F → SL K H' τ' σ S' → Res K H' m v o F → Q v H'
def tT (T : Tb) (K : PySem.W.Frag) (x : Ex) : TT := fun σ H Q => ∃ τ S b τ', OwS S H ∧ SL K H τ σ S ∧ ev T .tst x τ = some (oB b, τ') ∧
  ∀ H' S', Pst x.quiet H S H' S' F0 → SL K H' τ' σ S' → Q b H'
def tR (T : Tb) (K : PySem.W.Frag) (as : Exs) : TA := fun σ H Q => ∃ τ S os τ', OwS S H ∧ SL K H τ σ S ∧ evR T as τ = some (os, τ') ∧
  ∀ vs H' S', Pst as.quiet H S H' S' F0 → SL K H' τ' σ S' → BTs K H' vs os → Q vs H'
def tA (T : Tb) (K : PySem.W.Frag) (as : Exs) : TA := fun σ H Q => ∃ τ S os τ', OwS S H ∧ SL K H τ σ S ∧ evA T as τ = some (os, τ') ∧
  ∀ vs H' S' F, Pst as.quiet H S H' S' F → SL K H' τ' σ S' → OTs K H' vs os F → Q vs H'
/-- a value that an operation makes: the slots and all else stay -/
def New (K : PySem.W.Frag) (H : Hp) (v : V) (r : O) (H' : Hp) : Prop := ∃ F, OT K H' v r F ∧ ∀ S, OwS S H → Pst true H S H' S F

section
variable {K : PySem.W.Frag} {H H' H1 H2 : Hp} {S S1 S2 : Fp} {v w : V} {o r : O} {F F1 : Fp}
theorem New.dat {d : PyData} (h : DV true K H v d) : New K H v (.dat d) H := ⟨F0, .dat h, fun _ w => .refl w⟩
theorem New.tup {p : Addr} {xs : List V} {ds : List PyData} (h : DVs true K H xs ds) (n : H p = none) : New K H (.ref p) (oT ds) (upd H p (.tup xs)) := by
  refine ⟨F0, .dat (.tup (.inl upd_same) (DVs.keep (S := F0) (fun _ z => z.elim) (fun b o' e _ => ?_) _ _ h)), fun S w => .fresh w n⟩
  rw [upd_ne (ne_of_none e n)]; exact e
theorem OTs.dats {F : Fp} : ∀ {xs : List V} {ds : List PyData}, DVs true K H xs ds → OTs K H xs (ds.map O.dat) F
  | _, [], h => by cases h; exact .nil
  | _, d :: ds, h => by
    cases h with
    | cons h1 h2 => exact .cons (F1 := F0) (F2 := F0) (.dat h1) (OTs.dats h2) (fun _ z _ => z) fun b hb => hb.elim False.elim False.elim
theorem keep_new {p : Addr} {u : HO} (n : H p = none) : Kp F0 H (upd H p u) := fun b o' e _ => by rw [upd_ne (ne_of_none e n)]; exact e
theorem New.lst {p : Addr} {xs : List V} {ds : List PyData} (h : DVs true K H xs ds) (n : H p = none) : New K H (.ref p) (oL ds) (upd H p (.lst xs)) := by
  refine ⟨fun b => b = p, .lst (G := F0) upd_same rfl (OTs.dats (DVs.keep (S := F0) (fun _ z => z.elim) (keep_new n) _ _ h)) (fun b z => z.elim), fun S w => ?_⟩
  exact ((Pst.refl (q := true) w).laid n rfl).less (fun _ z => z) fun _ z => .inr z
/-- what the value behind New gives in each mode -/
theorem New.res {m : Md} (hm : m ≠ .tst) (h : New K H v r H') : ∃ F, Res K H' m v r F ∧ ∀ S, OwS S H → Pst true H S H' S F := by
  obtain ⟨F, h1, h2⟩ := h
  cases m with
  | own => exact ⟨F, h1, h2⟩
  | bor => exact ⟨F, OT.bt _ _ _ h1, h2⟩
  | tst => exact absurd rfl hm
/-- a value that waited while others came -/
theorem res_wait {q q' : Bool} (h : Res K H1 (if q' = true then .bor else .own) v o F) (p : Pst q H S H1 S1 F) (p2 : Pst q' H1 S1 H2 S2 F1) : BT K H2 v o := by
  cases q' with
  | true => exact BT.le (p2.le rfl) _ _ (show BT K H1 v o from h)
  | false => exact OT.bt _ _ _ (OT.keep p.oS p2.keep _ _ _ (show OT K H1 v o F from h) p.dj)
end
end GB

namespace GB
open PySem PySem.Spec L2

/-! ## 8. operations by values -/
section
variable {K : PySem.W.Frag} {H : Hp} {v : V} {o : O}
theorem BT.of_dat {d : PyData} (h : BT K H v (.dat d)) : DV true K H v d := by cases h with | dat h => exact h
theorem BT.of_int {i : Int} (h : BT K H v (.dat (.int i))) : v = .int i := by cases h with | dat h => cases h; rfl
theorem BT.of_bool {i : Bool} (h : BT K H v (.dat (.bool i))) : v = .bl i := by cases h with | dat h => cases h; rfl
theorem BT.of_str {i : Str} (h : BT K H v (.dat (.str i))) : v = .str i := by cases h with | dat h => cases h; rfl
theorem BT.of_none (h : BT K H v (.dat .none)) : v = .non := by cases h with | dat h => cases h; rfl
theorem int?_eq {o : O} {i : Int} (h : o.int? = some i) : o = .dat (.int i) := by
  unfold O.int? at h
  split at h
  · cases h; rfl
  · cases h
theorem bool?_eq {o : O} {i : Bool} (h : o.bool? = some i) : o = .dat (.bool i) := by
  unfold O.bool? at h
  split at h
  · cases h; rfl
  · cases h
theorem mapM_dat : ∀ {os : List O} {ds : List PyData}, os.mapM O.dat? = some ds → os = ds.map O.dat
  | [], ds, h => by
    simp at h; subst h; rfl
  | o :: os, ds, h => by
    rw [List.mapM_cons] at h
    cases o with
    | dat d =>
      simp only [O.dat?, Option.bind_eq_bind, Option.bind_some] at h
      cases e : os.mapM O.dat? with
      | none => rw [e] at h; cases h
      | some r =>
        rw [e] at h
        simp at h
        subst h
        rw [mapM_dat e]; rfl
    | lst _ => simp [O.dat?] at h
    | dic _ => simp [O.dat?] at h
theorem BTs.dats : ∀ {ds : List PyData} {xs : List V}, BTs K H xs (ds.map O.dat) → DVs true K H xs ds
  | [], _, h => by cases h; exact .nil
  | d :: ds, _, h => by cases h with | cons h1 h2 => exact .cons (BT.of_dat h1) (BTs.dats h2)
/-- a list's items -/
theorem BT.list {ds : List PyData} (h : BT K H v o) (l : o.isList = true) (e : o.items = some ds) : ∃ a xs, v = .ref a ∧ Rd H a (.lst xs) ∧ DVs true K H xs ds := by
  cases o with
  | dat d =>
    cases d with
    | list es =>
      simp only [O.items, Option.some.injEq] at e
      subst e
      cases (BT.of_dat h) with
      | lst h1 h2 =>
        obtain ⟨ob, h1⟩ := (show FzL K H _ _ from h1)
        exact ⟨_, _, rfl, .inr ⟨ob, h1⟩, h2⟩
    | _ => simp [O.isList] at l
  | lst os =>
    have e' := mapM_dat (show os.mapM O.dat? = some ds from e)
    subst e'
    cases h with
    | lst h1 h2 => exact ⟨_, _, rfl, h1, BTs.dats h2⟩
  | dic _ => simp [O.isList] at l
theorem BT.tup {ds : List PyData} (h : BT K H v o) (l : o.isTup = true) (e : o.items = some ds) : ∃ a xs, v = .ref a ∧ RdT K H a xs ∧ DVs true K H xs ds := by
  cases o with
  | dat d =>
    cases d with
    | tuple es =>
      simp only [O.items, Option.some.injEq] at e
      subst e
      cases (BT.of_dat h) with
      | tup h1 h2 => exact ⟨_, _, rfl, h1, h2⟩
    | _ => simp [O.isTup] at l
  | lst os => simp [O.isTup] at l
  | dic _ => simp [O.isTup] at l
theorem items_kind {ds : List PyData} (e : o.items = some ds) : o.isList = true ∨ o.isTup = true := by
  unfold O.items at e
  split at e
  · exact .inl rfl
  · exact .inr rfl
  · exact .inl rfl
  · cases e
theorem DVs.append {b : Bool} : ∀ {xs ys : List V} {ds es : List PyData}, DVs b K H xs ds → DVs b K H ys es → DVs b K H (xs ++ ys) (ds ++ es)
  | _, _, [], _, h, g => by cases h; exact g
  | _, _, _ :: _, _, h, g => by cases h with | cons h1 h2 => exact .cons h1 (DVs.append h2 g)
theorem DVs.rep {b : Bool} {xs : List V} {ds : List PyData} (h : DVs b K H xs ds) : ∀ n : Nat, DVs b K H (List.replicate n xs).flatten (List.replicate n ds).flatten
  | 0 => .nil
  | n + 1 => by rw [List.replicate_succ, List.replicate_succ, List.flatten_cons, List.flatten_cons]; exact h.append (DVs.rep h n)
theorem DVs.take {b : Bool} : ∀ {xs : List V} {ds : List PyData} (n : Nat), DVs b K H xs ds → DVs b K H (xs.take n) (ds.take n)
  | _, _, 0, _ => by simp; exact .nil
  | _, [], _ + 1, h => by cases h; simp; exact .nil
  | _, _ :: _, n + 1, h => by cases h with | cons h1 h2 => simp only [List.take_succ_cons]; exact .cons h1 (DVs.take n h2)
theorem DVs.drop {b : Bool} : ∀ {xs : List V} {ds : List PyData} (n : Nat), DVs b K H xs ds → DVs b K H (xs.drop n) (ds.drop n)
  | _, _, 0, h => by simp; exact h
  | _, [], _ + 1, h => by cases h; simp; exact .nil
  | _, _ :: _, n + 1, h => by cases h with | cons h1 h2 => simp only [List.drop_succ_cons]; exact DVs.drop n h2
theorem DVs.rev {b : Bool} : ∀ {xs : List V} {ds : List PyData}, DVs b K H xs ds → DVs b K H xs.reverse ds.reverse
  | _, [], h => by cases h; exact .nil
  | _, _ :: _, h => by cases h with | cons h1 h2 => rw [List.reverse_cons, List.reverse_cons]; exact (DVs.rev h2).append (.cons h1 .nil)
theorem DVs.cut {xs : List V} {ds : List PyData} {b : Bool} (h : DVs b K H xs ds) (lo hi : Option Int) : DVs b K H (cutV xs lo hi) (cutL ds lo hi) := by
  unfold cutV cutL
  rw [h.length]
  exact (h.drop _).take _
end

/-- what an operation of two values must do -/
def rP (K : PySem.W.Frag) (p : Prim) : R2 := fun x y H Q => ∃ a b r, BT K H x a ∧ BT K H y b ∧ primEv p [a, b] = some r ∧ ∀ v H', New K H v r H' → Q v H'
def rP1 (K : PySem.W.Frag) (p : Prim) : V → Hp → VK → Prop := fun x H Q => ∃ a r, BT K H x a ∧ primEv p [a] = some r ∧ ∀ v H', New K H v r H' → Q v H'
/-- a built-in's call -/
def rC (K : PySem.W.Frag) (p : Prim) : List V → Hp → VK → Prop := fun xs H Q => ∃ os r, BTs K H xs os ∧ primEv p os = some r ∧ ∀ v H', New K H v r H' → Q v H'

section
variable {X : Cx}
theorem op_list_cat {pins : List (Addr × Obj)} {s : Shared} {σ : L2.St} {H : Hp} {l b : Addr} {xs zs : List V} {Q : VK} (I : Inv X pins σ H s) (hH : Rd H l (.lst xs)) (hB : Rd H b (.lst zs)) (hz : xs.length + zs.length ≤ sizeLine)
    (q : ∀ p, H p = none → Q (.ref p) (upd H p (.lst (xs ++ zs)))) : wpAny (model X.prog X.w) X.A (binaryOp .Add (.ref l) (.ref b)) (EP X pins σ Q) X.xe s := by
  obtain ⟨z, its, n, r, e⟩ := hH.ok I.hok
  obtain ⟨z2, its2, n2, r2, e2⟩ := hB.ok I.hok
  have hl := r.length
  have hl2 := r2.length
  refine PySem.P.add_list e e2 ?_ (by rw [List.size_toArray, List.size_toArray]; omega)
  have ea : its.toArray ++ its2.toArray = (its ++ its2).toArray := by simp
  rw [ea]
  exact ⟨.ref _, _, I.lnew (t' := s.toks) (r.append r2) (by rw [List.length_append]; omega), rfl, q _ I.fresh⟩
theorem op_addP : OpR X (binaryOp .Add) (rP X.K .add) := by
  intro pins s σ H x y v u Q I rx ry h
  obtain ⟨a, b, r, ha, hb, he, q⟩ := h
  simp only [primEv] at he
  unfold addEv at he
  split at he
  · cases he
    rw [BT.of_int ha] at rx
    rw [BT.of_int hb] at ry
    exact op_add pins s σ H _ _ v u Q I rx ry ⟨_, _, rfl, rfl, q _ _ (.dat (.int _))⟩
  · split at he
    · cases he
      rename_i hl
      rw [BT.of_str ha] at rx
      rw [BT.of_str hb] at ry
      exact op_add_str pins s σ H _ _ v u Q I rx ry ⟨_, _, rfl, rfl, hl, q _ _ (.dat (.str _))⟩
    · cases he
  · split at he
    · cases he
      rename_i hl
      obtain ⟨p, xs, rfl, t1, d1⟩ := ha.tup rfl rfl
      obtain ⟨p2, ys, rfl, t2, d2⟩ := hb.tup rfl rfl
      refine op_catA pins s σ H _ _ v u Q I rx ry ⟨p, p2, xs, ys, rfl, rfl, t1.sq, t2.sq, by rw [d1.length, d2.length]; exact hl, fun e => ?_, fun _ e => ?_, fun _ _ z n => ?_⟩
      · subst e
        refine q _ _ (.dat (.tup t2 ?_))
        have := d1.append d2
        exact this
      · subst e
        refine q _ _ (.dat (.tup t1 ?_))
        have := d1.append d2
        rwa [List.append_nil] at this
      · exact q _ _ (.tup (d1.append d2) n)
    · cases he
  · split at he
    · rename_i hl
      simp only [Bool.and_eq_true] at hl
      split at he
      · rename_i ds es e1 e2
        split at he
        · cases he
          rename_i hz
          obtain ⟨p, xs, rfl, t1, d1⟩ := ha.list hl.1 e1
          obtain ⟨p2, ys, rfl, t2, d2⟩ := hb.list hl.2 e2
          cases rx
          cases ry
          exact op_list_cat I t1 t2 (by rw [d1.length, d2.length]; exact hz) fun p n => q _ _ (.lst (d1.append d2) n)
        · cases he
      · cases he
    · cases he
theorem intOp_inv {f : Int → Int → Option Int} {a b r : O} (h : intOp f a b = some r) : ∃ i j k, a = .dat (.int i) ∧ b = .dat (.int j) ∧ f i j = some k ∧ r = oI k := by
  unfold intOp at h
  split at h
  · rename_i i j e1 e2
    cases e : f i j with
    | none => rw [e] at h; cases h
    | some k => rw [e] at h; cases h; exact ⟨i, j, k, int?_eq e1, int?_eq e2, e, rfl⟩
  · cases h
theorem cmpI_inv {f : Int → Int → Bool} {a b r : O} (h : cmpI f a b = some r) : ∃ i j, a = .dat (.int i) ∧ b = .dat (.int j) ∧ r = oB (f i j) := by
  unfold cmpI at h
  split at h
  · rename_i i j e1 e2
    cases h; exact ⟨i, j, int?_eq e1, int?_eq e2, rfl⟩
  · cases h
/-- an operation of two whole numbers -/
theorem op_intP {f : Value → Value → Sem Value} {p : Prim} {C : Int → Int → Prop} {g : Int → Int → Int} (h : OpR X f (rI C fun i j => .int (g i j)))
    (e : ∀ a b r, primEv p [a, b] = some r → ∃ i j, a = .dat (.int i) ∧ b = .dat (.int j) ∧ C i j ∧ r = oI (g i j)) : OpR X f (rP X.K p) := by
  intro pins s σ H x y v u Q I rx ry hh
  obtain ⟨a, b, r, ha, hb, he, q⟩ := hh
  obtain ⟨i, j, rfl, rfl, c, rfl⟩ := e a b r he
  rw [BT.of_int ha] at rx
  rw [BT.of_int hb] at ry
  exact h pins s σ H _ _ v u Q I rx ry ⟨_, _, rfl, rfl, c, q _ _ (.dat (.int _))⟩
theorem op_intP0 {f : Value → Value → Sem Value} {p : Prim} {g : Int → Int → Int} (h : OpR X f (rI0 fun i j => .int (g i j)))
    (e : ∀ a b r, primEv p [a, b] = some r → ∃ i j, a = .dat (.int i) ∧ b = .dat (.int j) ∧ r = oI (g i j)) : OpR X f (rP X.K p) := by
  intro pins s σ H x y v u Q I rx ry hh
  obtain ⟨a, b, r, ha, hb, he, q⟩ := hh
  obtain ⟨i, j, rfl, rfl, rfl⟩ := e a b r he
  rw [BT.of_int ha] at rx
  rw [BT.of_int hb] at ry
  exact h pins s σ H _ _ v u Q I rx ry ⟨_, _, rfl, rfl, q _ _ (.dat (.int _))⟩
theorem op_cmpP {f : Value → Value → Sem Value} {p : Prim} {g : Int → Int → Bool} (h : OpR X f (rI0 fun i j => .bl (g i j)))
    (e : ∀ a b r, primEv p [a, b] = some r → ∃ i j, a = .dat (.int i) ∧ b = .dat (.int j) ∧ r = oB (g i j)) : OpR X f (rP X.K p) := by
  intro pins s σ H x y v u Q I rx ry hh
  obtain ⟨a, b, r, ha, hb, he, q⟩ := hh
  obtain ⟨i, j, rfl, rfl, rfl⟩ := e a b r he
  rw [BT.of_int ha] at rx
  rw [BT.of_int hb] at ry
  exact h pins s σ H _ _ v u Q I rx ry ⟨_, _, rfl, rfl, q _ _ (.dat (.bl _))⟩
theorem op_subP : OpR X (binaryOp .Sub) (rP X.K .sub) := op_intP0 op_sub fun a b r h => by
  obtain ⟨i, j, k, h1, h2, h3, h4⟩ := intOp_inv (show intOp _ a b = some r from h)
  cases h3
  exact ⟨i, j, h1, h2, h4⟩
theorem op_fdivP : OpR X (binaryOp .FloorDiv) (rP X.K .fdiv) := op_intP op_fdiv fun a b r h => by
  obtain ⟨i, j, k, h1, h2, h3, h4⟩ := intOp_inv (show intOp _ a b = some r from h)
  split at h3
  · cases h3; rename_i c; exact ⟨i, j, h1, h2, c, h4⟩
  · cases h3
theorem op_modP : OpR X (binaryOp .Mod) (rP X.K .mod) := op_intP op_mod fun a b r h => by
  obtain ⟨i, j, k, h1, h2, h3, h4⟩ := intOp_inv (show intOp _ a b = some r from h)
  split at h3
  · cases h3; rename_i c; exact ⟨i, j, h1, h2, c, h4⟩
  · cases h3
theorem op_powP : OpR X (binaryOp .Pow) (rP X.K .pow) := op_intP op_pow fun a b r h => by
  obtain ⟨i, j, k, h1, h2, h3, h4⟩ := intOp_inv (show intOp _ a b = some r from h)
  split at h3
  · cases h3; rename_i c; exact ⟨i, j, h1, h2, c, h4⟩
  · cases h3
theorem ltEv_inv {a b r : O} (h : ltEv a b = some r) : (∃ x y, a = .dat (.str x) ∧ b = .dat (.str y) ∧ r = oB (decide (x.cps.toList < y.cps.toList))) ∨ cmpI (fun i j => decide (i < j)) a b = some r := by
  unfold ltEv at h
  split at h
  · cases h; exact .inl ⟨_, _, rfl, rfl, rfl⟩
  · exact .inr h
theorem op_ltP : OpR X (compareOp .Lt) (rP X.K .lt) := by
  intro pins s σ H x y v u Q I rx ry h
  obtain ⟨a, b, r, ha, hb, he, q⟩ := h
  rcases ltEv_inv (show ltEv a b = some r from he) with ⟨m, n, rfl, rfl, rfl⟩ | he
  · rw [ha.of_str] at rx
    rw [hb.of_str] at ry
    exact op_lt_str pins s σ H _ _ v u Q I rx ry ⟨m, n, rfl, rfl, q _ H (New.dat (.bl _))⟩
  · obtain ⟨i, j, rfl, rfl, rfl⟩ := cmpI_inv he
    rw [ha.of_int] at rx
    rw [hb.of_int] at ry
    exact op_lt pins s σ H _ _ v u Q I rx ry ⟨i, j, rfl, rfl, q _ H (New.dat (.bl _))⟩
theorem op_leP : OpR X (compareOp .LtE) (rP X.K .le) := op_cmpP op_le fun a b r h => cmpI_inv h
theorem op_gtP : OpR X (compareOp .Gt) (rP X.K .gt) := op_cmpP op_gt fun a b r h => cmpI_inv h
theorem op_geP : OpR X (compareOp .GtE) (rP X.K .ge) := op_cmpP op_ge fun a b r h => cmpI_inv h

/-! ### data as it is read -/
mutual
theorem DV.reads {b : Bool} {pins : List (Addr × Obj)} {σ : L2.St} {H : Hp} {s : Shared} (I : Inv X pins σ H s) : ∀ (d : PyData) (v : V) (u : Value), d.plain = true → DV b X.K H v d → RelV v u → ∃ as, Reads s.heap u d as
  | .none, _, _, _, h, r => by cases h; cases r; exact ⟨_, Reads.none⟩
  | .bool c, _, _, _, h, r => by cases h; cases r; exact ⟨_, Reads.bool c⟩
  | .int i, _, _, _, h, r => by cases h; obtain ⟨t, rfl⟩ := r; exact ⟨_, Reads.int i t⟩
  | .str x, _, _, _, h, r => by cases h; obtain ⟨t, rfl⟩ := r; exact ⟨_, Reads.str x t⟩
  | .list ds, _, _, p, h, r => by
    cases h with
    | lst hs ha =>
      rename_i a xs
      cases r
      have hs' : SqL X.K H a xs := by
        cases b with
        | true => exact (FzL.rd (K := X.K) hs).sq
        | false => exact (show RdL X.K H _ _ from hs).sq
      obtain ⟨its, rv, ⟨o, n, ho, hc, _, hd⟩, _⟩ := I.list hs'
      obtain ⟨as, hr⟩ := DVs.reads I ds _ its (by simpa [PyData.plain] using p) ha rv
      exact ⟨_, Reads.list ho hc hd hr⟩
  | .tuple ds, _, _, p, h, r => by
    cases h with
    | tup hs ha =>
      cases r
      obtain ⟨its, rv, ⟨o, ho, hc, n, hd⟩, _⟩ := I.tuple hs.sq
      obtain ⟨as, hr⟩ := DVs.reads I ds _ its (by simpa [PyData.plain] using p) ha rv
      exact ⟨_, Reads.tuple ho hc hd hr⟩
  | .dict _, _, _, p, _, _ => by simp [PyData.plain] at p
theorem DVs.reads {b : Bool} {pins : List (Addr × Obj)} {σ : L2.St} {H : Hp} {s : Shared} (I : Inv X pins σ H s) : ∀ (ds : List PyData) (vs : List V) (us : List Value), PyData.plainAll ds = true → DVs b X.K H vs ds → Vals vs us → ∃ as, ReadsAll s.heap us ds as
  | [], _, _, _, h, r => by cases h; cases r; exact ⟨_, ReadsAll.nil⟩
  | d :: ds, _, _, p, h, r => by
    simp only [PyData.plainAll, Bool.and_eq_true] at p
    cases h with
    | cons h1 h2 =>
      cases r with
      | cons r1 r2 =>
        obtain ⟨as, q1⟩ := DV.reads I d _ _ p.1 h1 r1
        obtain ⟨bs, q2⟩ := DVs.reads I ds _ _ p.2 h2 r2
        exact ⟨_, ReadsAll.cons q1 q2⟩
end
theorem eqEv_inv {a b : PyData} {c : Bool} (h : eqEv a b = some c) : a.plain = true ∧ b.plain = true ∧ min a.depth b.depth ≤ 64 ∧ c = PyData.eqv a b := by
  unfold eqEv at h
  split at h
  · rename_i e
    simp only [eqOk, Bool.and_eq_true, decide_eq_true_eq] at e
    cases h
    exact ⟨e.1.1, e.1.2, e.2, rfl⟩
  · cases h
theorem inEv_inv {a : PyData} {xs : List PyData} {c : Bool} (h : inEv a xs = some c) : a.plain = true ∧ PyData.plainAll xs = true ∧ min (PyData.depthAll xs) a.depth ≤ 64 ∧ c = xs.any fun z => PyData.eqv z a := by
  unfold inEv at h
  split at h
  · rename_i e
    simp only [inOk, Bool.and_eq_true, decide_eq_true_eq] at e
    cases h
    exact ⟨e.1.1, e.1.2, e.2, rfl⟩
  · cases h
theorem op_eqP (hu : X.A.units + 64 < cLine) : OpR X (compareOp .Eq) (rP X.K .eq) := by
  intro pins s σ H x y v u Q I rx ry hh
  obtain ⟨a, b, r, ha, hb, he, q⟩ := hh
  obtain ⟨c, e, rfl⟩ := Option.map_eq_some_iff.mp (show (eqEv a.toD b.toD).map oB = some r from he)
  obtain ⟨p1, p2, p3, rfl⟩ := eqEv_inv e
  obtain ⟨as, r1⟩ := DV.reads I _ x v p1 (BT.dv a x ha) rx
  obtain ⟨bs, r2⟩ := DV.reads I _ y u p2 (BT.dv b y hb) ry
  exact SeqAt.eq_plain r1 r2 p1 p2 (by omega) ⟨.bl _, H, I, rfl, q _ _ (.dat (.bl _))⟩
theorem op_neP (hu : X.A.units + 64 < cLine) : OpR X (compareOp .NotEq) (rP X.K .ne) := by
  intro pins s σ H x y v u Q I rx ry hh
  obtain ⟨a, b, r, ha, hb, he, q⟩ := hh
  obtain ⟨c, e, rfl⟩ := Option.map_eq_some_iff.mp (show (eqEv a.toD b.toD).map (fun c => oB (!c)) = some r from he)
  obtain ⟨p1, p2, p3, rfl⟩ := eqEv_inv e
  obtain ⟨as, r1⟩ := DV.reads I _ x v p1 (BT.dv a x ha) rx
  obtain ⟨bs, r2⟩ := DV.reads I _ y u p2 (BT.dv b y hb) ry
  exact SeqAt.ne_plain r1 r2 p1 p2 (by omega) ⟨.bl _, H, I, rfl, q _ _ (.dat (.bl _))⟩
theorem items_toD {o : O} {ds : List PyData} (e : o.items = some ds) : o.toD = .list ds ∨ o.toD = .tuple ds := by
  cases o with
  | dat d =>
    cases d with
    | list _ => simp only [O.items, Option.some.injEq] at e; subst e; exact .inl rfl
    | tuple _ => simp only [O.items, Option.some.injEq] at e; subst e; exact .inr rfl
    | _ => simp [O.items] at e
  | lst os =>
    have e' := mapM_dat (show os.mapM O.dat? = some ds from e)
    subst e'
    left
    simp only [O.toD]
    congr 1
    clear e
    induction ds with
    | nil => rfl
    | cons d ds ih => simp only [List.map_cons, O.toDs, O.toD, ih]
  | dic _ => simp [O.items] at e
theorem op_inP (hu : X.A.units + 66 < cLine) : OpR X (compareOp .In) (rP X.K .isin) := by
  intro pins s σ H x y v u Q I rx ry hh
  obtain ⟨a, b, r, ha, hb, he, q⟩ := hh
  simp only [primEv] at he
  split at he
  · obtain ⟨ds, e1, he⟩ := Option.bind_eq_some_iff.mp he
    obtain ⟨c, e, rfl⟩ := Option.map_eq_some_iff.mp he
    obtain ⟨p1, p2, p3, rfl⟩ := inEv_inv e
    obtain ⟨as, r1⟩ := DV.reads I _ x v p1 (BT.dv a x ha) rx
    have d2 := BT.dv b y hb
    have fin : EP X pins σ Q (.bool (ds.any fun z => PyData.eqv z a.toD)) s := ⟨.bl _, H, I, rfl, q _ _ (.dat (.bl _))⟩
    rcases items_toD e1 with z | z
    · rw [z] at d2
      obtain ⟨bs, r2⟩ := DV.reads I _ y u (by simpa [PyData.plain] using p2) d2 ry
      exact SeqAt.in_list_data r2 r1 p2 p1 (by omega) fin
    · rw [z] at d2
      obtain ⟨bs, r2⟩ := DV.reads I _ y u (by simpa [PyData.plain] using p2) d2 ry
      exact SeqAt.in_tuple_data r2 r1 p2 p1 (by omega) fin
  · cases he
theorem op_notinP (hu : X.A.units + 66 < cLine) : OpR X (compareOp .NotIn) (rP X.K .notin) := by
  intro pins s σ H x y v u Q I rx ry hh
  obtain ⟨a, b, r, ha, hb, he, q⟩ := hh
  simp only [primEv] at he
  split at he
  · obtain ⟨ds, e1, he⟩ := Option.bind_eq_some_iff.mp he
    obtain ⟨c, e, rfl⟩ := Option.map_eq_some_iff.mp he
    obtain ⟨p1, p2, p3, rfl⟩ := inEv_inv e
    obtain ⟨as, r1⟩ := DV.reads I _ x v p1 (BT.dv a x ha) rx
    have d2 := BT.dv b y hb
    have fin : EP X pins σ Q (.bool (!ds.any fun z => PyData.eqv z a.toD)) s := ⟨.bl _, H, I, rfl, q _ _ (.dat (.bl _))⟩
    rcases items_toD e1 with z | z
    · rw [z] at d2
      obtain ⟨bs, r2⟩ := DV.reads I _ y u (by simpa [PyData.plain] using p2) d2 ry
      exact SeqAt.notIn_list_data r2 r1 p2 p1 (by omega) fin
    · rw [z] at d2
      obtain ⟨bs, r2⟩ := DV.reads I _ y u (by simpa [PyData.plain] using p2) d2 ry
      exact SeqAt.notIn_tuple_data r2 r1 p2 p1 (by omega) fin
  · cases he
end
end GB

namespace GB
open PySem PySem.Spec PyProof.Rows L2

/-! ## 9. further operations by values -/
section
theorem tuple_mul_same (l : Addr) (items : Array Value) (n : Nat) (dd : Option Addr) (sl : Array (Option Value)) (x : Int) (u : Tok) (c0 : (decide (x < -(2 ^ 63)) || decide (x ≥ 2 ^ 63)) = false) (c1 : (items.isEmpty || x == 1) = true) :
    Meets (Builtin.«tuple.__mul__» ⟨[.ref l, .int x u], []⟩) (fun _ R s => s.heap.get? l = some { cls := .type "tuple", dict := dd, data := .seq items n, slots := sl } ∧
      R (.ok (.ret (Value.ref l))) s) :=
  .of_wp fun prog w A R s h => by
    obtain ⟨hp, g, d, tk, os⟩ := s
    obtain ⟨hl, h⟩ := h
    have f1 := AutoSeq1.idx_int
    wp_walk using wpAny_loadPart' hl
    repeat (first
      | (refine wpAny_ite_false (decide_eq_false (by rw [c0]; exact Bool.false_ne_true)) ?_; wp_walk using wpAny_loadPart' hl)
      | (refine wpAny_ite_true (decide_eq_true c1) ?_; wp_walk using wpAny_loadPart' hl))
    exact ⟨_, rfl, h⟩
theorem tuple_mul_none (l : Addr) (items : Array Value) (n : Nat) (dd : Option Addr) (sl : Array (Option Value)) (x : Int) (u : Tok) (c0 : (decide (x < -(2 ^ 63)) || decide (x ≥ 2 ^ 63)) = false) (c1 : (items.isEmpty || x == 1) = false) (c2 : (decide (x ≤ 0) || items.isEmpty) = true) :
    Meets (Builtin.«tuple.__mul__» ⟨[.ref l, .int x u], []⟩) (fun _ R s => s.heap.get? l = some { cls := .type "tuple", dict := dd, data := .seq items n, slots := sl } ∧
      R (.ok (.ret (Value.ref s.heap.objs.size))) { s with heap := s.heap.push { cls := Value.type "tuple", data := Data.seq #[] }, toks := s.toks }) :=
  .of_wp fun prog w A R s h => by
    obtain ⟨hp, g, d, tk, os⟩ := s
    obtain ⟨hl, h⟩ := h
    have f1 := AutoSeq1.idx_int
    wp_walk using wpAny_loadPart' hl
    repeat (first
      | (refine wpAny_ite_false (decide_eq_false (by rw [c0]; exact Bool.false_ne_true)) ?_; wp_walk using wpAny_loadPart' hl)
      | (refine wpAny_ite_false (decide_eq_false (by rw [c1]; exact Bool.false_ne_true)) ?_; wp_walk using wpAny_loadPart' hl)
      | (refine wpAny_ite_true (decide_eq_true c2) ?_; wp_walk using wpAny_loadPart' hl))
    exact ⟨_, rfl, h⟩
end
section
variable {X : Cx}
theorem op_tup_mul {pins : List (Addr × Obj)} {s : Shared} {σ : L2.St} {H : Hp} {l : Addr} {xs : List V} {k : Int} {t : Tok} {Q : VK} (I : Inv X pins σ H s) (hT : RdT X.K H l xs) (h1 : -(2 ^ 62) < k) (h2 : k ≤ 1000) (hz : xs.length ≤ 1000)
    (q1 : (List.replicate k.toNat xs).flatten = xs → Q (.ref l) H) (q2 : ∀ p, H p = none → Q (.ref p) (upd H p (.tup (List.replicate k.toNat xs).flatten))) : wpAny (model X.prog X.w) X.A (binaryOp .Mult (.ref l) (.int k t)) (EP X pins σ Q) X.xe s := by
  obtain ⟨its, r, ⟨⟨cls, dd, data, sl⟩, ho, hc, n, hd⟩, hs⟩ := I.tuple hT.sq
  simp only at hc hd
  subst hc hd
  have hle : its.length = xs.length := r.length.symm
  have c0 : (decide (k < -(2 ^ 63)) || decide (k ≥ 2 ^ 63)) = false := by
    rw [decide_eq_false (by omega), decide_eq_false (by omega)] <;> rfl
  cases c1 : (its.toArray.isEmpty || k == 1) with
  | true =>
    have e : (List.replicate k.toNat xs).flatten = xs := by
      rcases Bool.or_eq_true_iff.mp c1 with z | z
      · have : its = [] := by simpa using z
        subst this
        have : xs = [] := List.eq_nil_of_length_eq_zero hle.symm
        subst this
        simp
      · have : k = 1 := by simpa using z
        subst this
        simp
    exact wpAny_binaryOp_repeat_ref (T := "tuple") (U := "int") (by decide) ⟨_, ho, rfl⟩ (fun s' => typeIs_int s' k t) noFill_tuple_mul F.fills_int_mul F.slot_int_rmul repeat_tuple F.slot_int_index.lookup
      (call_meets F.slot_int_rmul (typeIs_int s k t) F.entry_int_rmul (F.args_int_rmul_2 _ _) (int_rmul_tuple k t l its.toArray n dd sl)
        ⟨ho, rfl, ⟨_, ho, rfl⟩, call_meets F.slot_tuple_mul ⟨_, ho, rfl⟩ F.entry_tuple_mul (F.args_tuple_mul_2 _ _) (tuple_mul_same l its.toArray n dd sl k t c0 c1) ⟨ho, ⟨.ref l, H, I, rfl, q1 e⟩⟩⟩)
  | false =>
    have hne : its ≠ [] := fun z => by subst z; simp at c1
    have hk1 : k ≠ 1 := fun z => by subst z; simp at c1
    cases c2 : (decide (k ≤ 0) || its.toArray.isEmpty) with
    | true =>
      have hk : k ≤ 0 := by
        rcases Bool.or_eq_true_iff.mp c2 with z | z
        · simpa using z
        · exact absurd (by simpa using z) hne
      refine wpAny_binaryOp_repeat_ref (T := "tuple") (U := "int") (by decide) ⟨_, ho, rfl⟩ (fun s' => typeIs_int s' k t) noFill_tuple_mul F.fills_int_mul F.slot_int_rmul repeat_tuple F.slot_int_index.lookup
        (call_meets F.slot_int_rmul (typeIs_int s k t) F.entry_int_rmul (F.args_int_rmul_2 _ _) (int_rmul_tuple k t l its.toArray n dd sl)
          ⟨ho, rfl, ⟨_, ho, rfl⟩, call_meets F.slot_tuple_mul ⟨_, ho, rfl⟩ F.entry_tuple_mul (F.args_tuple_mul_2 _ _) (tuple_mul_none l its.toArray n dd sl k t c0 c1 c2) ⟨ho, ?_⟩⟩)
      have e : (List.replicate k.toNat xs).flatten = [] := by
        have : k.toNat = 0 := by omega
        rw [this]; rfl
      rw [e] at q2
      refine ⟨.ref s.heap.objs.size, _, I.laid (t' := s.toks) (o := .tup []) (fun b ob q => Heap.get?_push_of_some _ q) (Nat.le_refl _) ?_, rfl, q2 _ (I.hok.fresh (Nat.le_refl _))⟩
      exact ⟨Nat.zero_le _, [], .nil, IsTup.new _ _⟩
    | false =>
      have hk : 2 ≤ k := by
        have : ¬ k ≤ 0 := fun z => by rw [decide_eq_true z] at c2; simp at c2
        omega
      have hx : xs ≠ [] := fun z => hne (by subst z; exact List.eq_nil_of_length_eq_zero hle)
      exact op_repT pins s σ H (.ref l) (.int k) (.ref l) (.int k t) Q I rfl ⟨t, rfl⟩ ⟨l, k, xs, rfl, rfl, hT.sq, hx, hk, h2, hz, q2⟩
theorem op_list_mul {pins : List (Addr × Obj)} {s : Shared} {σ : L2.St} {H : Hp} {l : Addr} {xs : List V} {k : Int} {t : Tok} {Q : VK} (I : Inv X pins σ H s) (hH : Rd H l (.lst xs)) (h1 : -(2 ^ 62) < k) (h2 : k < 2 ^ 62) (hz : xs.length * k.toNat ≤ sizeLine)
    (q : ∀ p, H p = none → Q (.ref p) (upd H p (.lst (List.replicate k.toNat xs).flatten))) : wpAny (model X.prog X.w) X.A (binaryOp .Mult (.ref l) (.int k t)) (EP X pins σ Q) X.xe s := by
  obtain ⟨z, its, n, r, e⟩ := hH.ok I.hok
  have hl := r.length
  have hlen : its.toArray.size * k.toNat ≤ sizeLine := by rw [List.size_toArray, ← hl]; exact hz
  have hcap : ¬ its.toArray.size * k.toNat > (2 ^ 63 - 1) / 8 := by
    have : (sizeLine : Nat) ≤ (2 ^ 63 - 1) / 8 := by decide
    omega
  have hfit : ¬ (!Builtin.List.listFitsIndex k) = true := by
    rw [fitsIndex_both (by omega) (by omega)]; exact Bool.false_ne_true
  have hlong : ¬ Builtin.List.listTooLong (its.toArray.size * k.toNat) = true := by
    rw [notLongL hlen]; exact Bool.false_ne_true
  have hnew : List.foldl (fun x1 x2 => x1 ++ x2) #[] (List.replicate (if its.toArray.isEmpty = true then 0 else k.toNat) its.toArray) = (List.replicate k.toNat its).flatten.toArray := by
    rw [size_rep]
    cases its with
    | nil => simp
    | cons a r' => rw [if_neg (by simp)]
  refine wpAny_binaryOp_repeat_ref (T := "list") (U := "int") (by decide) ⟨_, e, rfl⟩ (fun s' => typeIs_int s' k t) noFill_list_mul F.fills_int_mul F.slot_int_rmul repeat_list F.slot_int_index.lookup
    (call_meets F.slot_int_rmul (typeIs_int s k t) F.entry_int_rmul (F.args_int_rmul_2 _ _) (int___rmul___int_list k t l its.toArray n)
      ⟨e, rfl, ⟨_, e, rfl⟩, call_meets F.slot_list_mul ⟨_, e, rfl⟩ F.entry_list_mul (F.args_list_mul_2 _ _) (AutoListH.list___mul___list_int_3 l its.toArray n k t hfit hcap hlong) ⟨e, ?_⟩⟩)
  rw [hnew]
  exact ⟨.ref _, _, I.lnew (t' := s.toks) (r.rep k.toNat) (by rw [lm_len_rep_flat, Nat.mul_comm]; exact hz), rfl, q _ I.fresh⟩
theorem op_mulP : OpR X (binaryOp .Mult) (rP X.K .mul) := by
  intro pins s σ H x y v u Q I rx ry h
  obtain ⟨a, b, r, ha, hb, he, q⟩ := h
  simp only [primEv] at he
  unfold mulEv at he
  split at he
  · split at he
    · rename_i c
      cases he
      rw [BT.of_int ha] at rx
      rw [BT.of_int hb] at ry
      refine op_mul pins s σ H _ _ v u Q I rx ry ⟨_, _, rfl, rfl, ?_, q _ _ (.dat (.int _))⟩
      simpa [mulOk, CMul, Bool.or_eq_true, Bool.and_eq_true] using c
    · cases he
  · split at he
    · rename_i c
      cases he
      obtain ⟨p, xs, rfl, t1, d1⟩ := ha.tup rfl rfl
      rw [BT.of_int hb] at ry
      cases rx
      obtain ⟨t, rfl⟩ := ry
      refine op_tup_mul I t1 c.1 c.2.1 (by rw [d1.length]; exact c.2.2) (fun e => q _ _ (.dat (.tup t1 ?_))) fun p n => q _ _ (.tup (d1.rep _) n)
      have := d1.rep (Int.toNat ‹Int›)
      rwa [e] at this
    · cases he
  · split at he
    · rename_i l
      split at he
      · rename_i ds e1
        split at he
        · rename_i c
          cases he
          obtain ⟨p, xs, rfl, t1, d1⟩ := ha.list l e1
          rw [BT.of_int hb] at ry
          cases rx
          obtain ⟨t, rfl⟩ := ry
          exact op_list_mul I t1 c.1 c.2.1 (by rw [d1.length]; exact c.2.2) fun p n => q _ _ (.lst (d1.rep _) n)
        · cases he
      · cases he
    · cases he
  · cases he
end
end GB

namespace GB
open PySem PySem.Spec PyProof.Rows L2

/-! ## 10. built-in calls, items, truth -/
section
variable {X : Cx}
theorem bts1 {K : PySem.W.Frag} {H : Hp} {xs : List V} {a : O} (h : BTs K H xs [a]) : ∃ x, xs = [x] ∧ BT K H x a := by
  cases h with | cons h1 h2 => cases h2; exact ⟨_, rfl, h1⟩
theorem bts2 {K : PySem.W.Frag} {H : Hp} {xs : List V} {a b : O} (h : BTs K H xs [a, b]) : ∃ x y, xs = [x, y] ∧ BT K H x a ∧ BT K H y b := by
  cases h with | cons h1 h2 => cases h2 with | cons h3 h4 => cases h4; exact ⟨_, _, rfl, h1, h3⟩
/-- a built-in of one argument -/
theorem rC1 {f : Value} {p : Prim} (hp : ∀ os r, primEv p os = some r → ∃ a, os = [a])
    (h : ∀ (pins : List (Addr × Obj)) (s : Shared) (σ : L2.St) (H : Hp) (x : V) (us : List Value) (Q : VK) (a r : O), Inv X pins σ H s → Vals [x] us → BT X.K H x a → primEv p [a] = some r → (∀ v H', New X.K H v r H' → Q v H') →
      wpAny (model X.prog X.w) X.A (call f us) (EP X pins σ Q) X.xe s) : CallR X f (rC X.K p) := by
  intro pins s σ H xs us Q I r hh
  obtain ⟨os, o, hb, he, q⟩ := hh
  obtain ⟨a, rfl⟩ := hp os o he
  obtain ⟨x, rfl, hx⟩ := bts1 hb
  exact h pins s σ H x us Q a o I r hx he q
theorem call_lenP : CallR X (.builtin "len") (rC X.K .len) := rC1 (fun os r h => by unfold primEv at h; split at h <;> first | exact ⟨_, rfl⟩ | (rename_i z; cases z) | cases h | simp_all) fun pins s σ H x us Q a r I rv hx he q => by
  simp only [primEv] at he
  obtain ⟨n, e, rfl⟩ := Option.map_eq_some_iff.mp he
  refine call_len pins s σ H _ us Q I rv ⟨x, n, rfl, ?_, q _ _ (.dat (.int _))⟩
  unfold lenEv at e
  split at e
  · cases e
    obtain ⟨p, ys, rfl, t, d⟩ := hx.list rfl rfl
    exact .inl ⟨_, .inl t, by rw [d.length]⟩
  · cases e
    obtain ⟨p, ys, rfl, t, d⟩ := hx.tup rfl rfl
    exact .inr ⟨_, t.sq, by rw [d.length]⟩
  · split at e
    · cases e
      rename_i z
      rw [hx.of_str]
      exact ⟨z, rfl⟩
    · cases e
  · cases e
    cases hx with
    | lst h1 h2 => exact .inl ⟨_, .inl h1, by rw [h2.length]⟩
  · cases e
theorem call_intP : CallR X (.type "int") (rC X.K .toint) := rC1 (fun os r h => by unfold primEv at h; split at h <;> first | exact ⟨_, rfl⟩ | (rename_i z; cases z) | cases h | simp_all) fun pins s σ H x us Q a r I rv hx he q => by
  simp only [primEv] at he
  split at he
  · cases he
    have := hx.of_int
    subst this
    exact call_int1 pins s σ H _ us Q I rv (.inl ⟨_, rfl, q _ _ (.dat (.int _))⟩)
  · cases he
    have := hx.of_bool
    subst this
    exact call_int1 pins s σ H _ us Q I rv (.inr ⟨_, rfl, q _ _ (.dat (.int _))⟩)
  · cases he
theorem call_absP : CallR X (.builtin "abs") (rC X.K .abs) := rC1 (fun os r h => by unfold primEv at h; split at h <;> first | exact ⟨_, rfl⟩ | (rename_i z; cases z) | cases h | simp_all) fun pins s σ H x us Q a r I rv hx he q => by
  simp only [primEv] at he
  obtain ⟨n, e, rfl⟩ := Option.map_eq_some_iff.mp he
  have := int?_eq e
  subst this
  have := hx.of_int
  subst this
  exact call_abs pins s σ H _ us Q I rv ⟨_, rfl, q _ _ (.dat (.int _))⟩
theorem call_listP : CallR X (.type "list") (rC X.K .tolist) := rC1 (fun os r h => by unfold primEv at h; split at h <;> first | exact ⟨_, rfl⟩ | (rename_i z; cases z) | cases h | simp_all) fun pins s σ H x us Q a r I rv hx he q => by
  simp only [primEv] at he
  obtain ⟨ds, e, rfl⟩ := Option.map_eq_some_iff.mp he
  rcases items_kind e with l | l
  · obtain ⟨p, ys, rfl, t, d⟩ := hx.list l e
    exact call_list_of pins s σ H _ us Q I rv ⟨p, ys, rfl, .inl (.inl t), fun l n => q _ _ (.lst d n)⟩
  · obtain ⟨p, ys, rfl, t, d⟩ := hx.tup l e
    exact call_list_of pins s σ H _ us Q I rv ⟨p, ys, rfl, .inr t.sq, fun l n => q _ _ (.lst d n)⟩
theorem call_tupleP : CallR X (.type "tuple") (rC X.K .totuple) := rC1 (fun os r h => by unfold primEv at h; split at h <;> first | exact ⟨_, rfl⟩ | (rename_i z; cases z) | cases h | simp_all) fun pins s σ H x us Q a r I rv hx he q => by
  simp only [primEv] at he
  obtain ⟨ds, e, rfl⟩ := Option.map_eq_some_iff.mp he
  rcases items_kind e with l | l
  · obtain ⟨p, ys, rfl, t, d⟩ := hx.list l e
    exact call_tuple_of pins s σ H _ us Q I rv ⟨p, ys, rfl, .inl ⟨.inl t, fun l n => q _ _ (.tup d n)⟩⟩
  · obtain ⟨p, ys, rfl, t, d⟩ := hx.tup l e
    exact call_tuple_of pins s σ H _ us Q I rv ⟨p, ys, rfl, .inr ⟨t.sq, q _ _ (.dat (.tup t d))⟩⟩
theorem bools_eq : ∀ {ds : List PyData} {bs : List Bool}, bools ds = some bs → ds = bs.map PyData.bool
  | [], bs, h => by cases h; rfl
  | d :: r, bs, h => by
    cases d with
    | bool b =>
      obtain ⟨cs, e, rfl⟩ := Option.map_eq_some_iff.mp (show (bools r).map (b :: ·) = some bs from h)
      rw [bools_eq e]; rfl
    | _ => cases h
theorem DVs.bls {b : Bool} {K : PySem.W.Frag} {H : Hp} : ∀ {bs : List Bool} {xs : List V}, DVs b K H xs (bs.map PyData.bool) → xs = bs.map V.bl
  | [], _, h => by cases h; rfl
  | c :: r, _, h => by
    cases h with
    | cons h1 h2 => cases h1; rw [DVs.bls h2]; rfl
theorem call_allP (hc : X.calm = true) : CallR X (.builtin "all") (rC X.K .all_) := rC1 (fun os r h => by unfold primEv at h; split at h <;> first | exact ⟨_, rfl⟩ | (rename_i z; cases z) | cases h | simp_all) fun pins s σ H x us Q a r I rv hx he q => by
  simp only [primEv] at he
  split at he
  · rename_i l
    obtain ⟨bs, e, rfl⟩ := Option.map_eq_some_iff.mp he
    obtain ⟨ds, e1, e2⟩ := Option.bind_eq_some_iff.mp e
    obtain ⟨p, ys, rfl, t, d⟩ := hx.list l e1
    have := bools_eq e2
    subst this
    have := DVs.bls d
    subst this
    exact cr_all hc pins s σ H _ us Q I rv ⟨p, bs, rfl, .inl t, q _ _ (.dat (.bl _))⟩
  · cases he
/-! ### isinstance -/
theorem ty_of {K : PySem.W.Frag} {H : Hp} {x : V} {d : PyData} (h : DV false K H x d) : TyX K H x (.type (tyD d)) := by
  cases h with
  | non => exact .base .non
  | bl c => exact .base (.bl c)
  | int i => exact .base (.int i)
  | str z => exact .base (.str z)
  | lst h1 h2 =>
    rename_i a xs ds
    rcases (show Rd H a (.lst xs) from h1) with h | ⟨o, h⟩
    · exact .base (.lst h)
    · exact .base (.frz h)
  | tup h1 h2 =>
    rcases h1 with h | ⟨o, its, n, k, c, _⟩
    · exact .base (.tup h)
    · exact .kTuple k c
  | dic h1 h2 =>
    rename_i a kvs ds
    rcases (show Rd H a (.dK kvs) from h1) with h | ⟨o, h⟩
    · exact .base (.dK h)
    · exact .fDict h
def tyAll : List String := ["NoneType", "bool", "int", "str", "list", "tuple", "dict"]
theorem kitAll : ∀ a ∈ tyAll, ∀ T ∈ tyNames.map (·.2), kitB a T = some (a == T || (T == "int" && a == "bool")) := by decide +kernel
theorem kitD (T : String) (hT : T ∈ tyNames.map (·.2)) (d : PyData) : kitB (tyD d) T = some (isiD T d) :=
  kitAll _ (by cases d <;> simp [tyD, tyAll]) T hT
def rIs (K : PySem.W.Frag) (T : String) : List V → Hp → VK → Prop := fun xs H Q => ∃ x a r, xs = [x, .ty T] ∧ BT K H x a ∧ primEv (.isi T) [a] = some r ∧ ∀ v H', New K H v r H' → Q v H'
theorem call_isiP {T : String} (hT : T ∈ tyNames.map (·.2)) : CallR X (.builtin "isinstance") (rIs X.K T) := by
  intro pins s σ H xs us Q I r hh
  obtain ⟨x, a, o, rfl, hx, he, q⟩ := hh
  simp only [primEv] at he
  cases he
  exact call_isi pins s σ H _ us Q I r ⟨x, .ty T, .type (tyD a.toD), .type T, isiD T a.toD, rfl, .ty T, ty_of (BT.dv a x hx), kit_ty (kitD T hT _), q _ _ (.dat (.bl _))⟩

/-! ### truth -/
theorem empty_len {α β : Type} {xs : List α} {ys : List β} (h : xs.length = ys.length) : (!ys.isEmpty) = !xs.isEmpty := by
  cases xs <;> cases ys <;> first | rfl | (simp at h)
theorem nat_bne (n : Nat) : (n != 0) = ((n : Int) != 0) := by
  cases n with
  | zero => rfl
  | succ n =>
    have h1 : (n + 1 != 0) = true := by simp
    have h2 : (((n + 1 : Nat) : Int) != 0) = true := by
      rw [bne_iff_ne]; omega
    rw [h1, h2]
theorem tru_of {K : PySem.W.Frag} {H : Hp} {x : V} {o : O} {b : Bool} (h : BT K H x o) (e : truO o = some b) : TruV K x H b := by
  unfold truO at e
  split at e
  · cases e; rw [h.of_none]; rfl
  · cases e; rw [h.of_bool]; rfl
  · cases e; rw [h.of_int]; rfl
  · split at e
    · cases e
      rename_i z
      rw [h.of_str]
      refine ⟨z, ?_⟩
      exact nat_bne _
    · cases e
  · cases e
    obtain ⟨p, ys, rfl, t, d⟩ := h.list rfl rfl
    exact .inl ⟨ys, .inl t, empty_len d.length⟩
  · cases e
    obtain ⟨p, ys, rfl, t, d⟩ := h.tup rfl rfl
    exact .inr (.inl ⟨ys, t.sq, empty_len d.length⟩)
  · cases e
    cases h with
    | lst h1 h2 =>
      rename_i p ys
      exact .inl ⟨ys, .inl h1, empty_len h2.length⟩
  · cases e

/-! ### items -/
theorem ixN_some {n : Nat} {i : Int} {j : Nat} (h : ixOf n i = some j) : ixN n i = some j := h
/-- a's item i, where it stands -/
def rI_ (K : PySem.W.Frag) : R2 := fun x y H Q => ∃ a i o, BT K H x a ∧ BT K H y i ∧ ixEv a i = some o ∧ ∀ v, BT K H v o → Q v H
end
end GB

namespace GB
open PySem PySem.Spec PyProof.Rows L2

/-! ## 11. items and slices -/
section
variable {K : PySem.W.Frag} {H : Hp}
theorem key_of {y : V} {i : O} {k : Key} (h : BT K H y i) (e : keyOf i = some k) : y = kV k := by
  unfold keyOf at e
  split at e
  · cases e; exact h.of_int
  · cases e; exact h.of_str
  · cases e
theorem BTk.find {k : Key} : ∀ {kvs : List (Key × V)} {os : List (Key × O)} {p : Key × O}, BTk K H kvs os → (os.find? fun p => decide (p.1 = k)) = some p → ∃ v, valV kvs k = some v ∧ BT K H v p.2
  | _, [], _, h, e => by simp at e
  | _, (j, o) :: os, p, h, e => by
    cases h with
    | cons h1 h2 =>
      by_cases hj : j = k
      · subst hj
        simp at e
        subst e
        exact ⟨_, by simp [valV], h1⟩
      · simp [hj] at e
        obtain ⟨v, e1, e2⟩ := BTk.find h2 e
        exact ⟨v, by simpa [valV, hj] using e1, e2⟩
theorem at_ix {xs : List V} {i : Int} {n : Nat} {v : V} (e : ixOf xs.length i = some n) (h : xs[n]? = some v) : atI xs i = some v := by
  unfold atI
  rw [show ixN xs.length i = some n from e]
  exact h
end
section
variable {X : Cx}
theorem ixP (hu : X.A.units + 1 < cLine) : IxR X (rI_ X.K) := by
  intro value slice pins s σ H x y v u Q I rx ry h hs
  obtain ⟨a, i, o, ha, hi, e, q⟩ := h
  unfold ixEv at e
  split at e
  · obtain ⟨n, e1, e2⟩ := Option.bind_eq_some_iff.mp e
    obtain ⟨d, e3, rfl⟩ := Option.map_eq_some_iff.mp e2
    obtain ⟨p, xs, rfl, t, dd⟩ := ha.list rfl rfl
    obtain ⟨z, e4, dz⟩ := dd.get e3
    rw [hi.of_int] at ry
    exact ix_list value slice pins s σ H _ _ v u Q I rx ry ⟨p, xs, _, z, rfl, rfl, .inl t, at_ix (by rw [dd.length]; exact e1) e4, q _ (.dat dz)⟩ hs
  · obtain ⟨n, e1, e2⟩ := Option.bind_eq_some_iff.mp e
    obtain ⟨d, e3, rfl⟩ := Option.map_eq_some_iff.mp e2
    obtain ⟨p, xs, rfl, t, dd⟩ := ha.tup rfl rfl
    obtain ⟨z, e4, dz⟩ := dd.get e3
    rw [hi.of_int] at ry
    exact ix_tup value slice pins s σ H _ _ v u Q I rx ry ⟨p, xs, _, z, rfl, rfl, t.sq, at_ix (by rw [dd.length]; exact e1) e4, q _ (.dat dz)⟩ hs
  · obtain ⟨n, e1, e2⟩ := Option.bind_eq_some_iff.mp e
    cases ha with
    | lst h1 h2 =>
      obtain ⟨z, e4, dz⟩ := h2.get e2
      rw [hi.of_int] at ry
      exact ix_list value slice pins s σ H _ _ v u Q I rx ry ⟨_, _, _, z, rfl, rfl, .inl h1, at_ix (by rw [h2.length]; exact e1) e4, q _ dz⟩ hs
  · obtain ⟨k, e1, e2⟩ := Option.bind_eq_some_iff.mp e
    obtain ⟨p, e3, rfl⟩ := Option.map_eq_some_iff.mp e2
    have := key_of hi e1
    subst this
    cases ha with
    | dic h1 h2 =>
      obtain ⟨z, e4, dz⟩ := BTk.find h2 e3
      cases rx
      rename_i kvs
      have g : DGet H _ (kV k) (some z) := .inl ⟨kvs, k, h1, rfl, e4.symm⟩
      exact tail_any (dict_typeIs I g) PySem.F.slot_dict_getitem.lookup (d_getItem hu I g ry fun w' s3 I3 rw' => ⟨z, H, I3, rw', q _ dz⟩) hs
  · cases e

/-! ### slices -/
def rS_ (K : PySem.W.Frag) : V → Option Int → Option Int → Hp → VK → Prop := fun x lo hi H Q => ∃ a r, BT K H x a ∧ primEv.sliceOf a lo hi = some r ∧ ∀ v H', New K H v r H' → Q v H'
theorem slP : SlR X (rS_ X.K) := by
  intro pins s σ H x v vl vu lo hi sl Q I rx hs pl pu h
  obtain ⟨a, r, ha, e, q⟩ := h
  unfold primEv.sliceOf at e
  split at e
  · cases e
    obtain ⟨p, xs, rfl, t, d⟩ := ha.tup rfl rfl
    refine sl_tupA pins s σ H _ v vl vu lo hi sl Q I rx hs pl pu ⟨p, xs, rfl, t.sq, fun w => q _ _ (.dat (.tup t ?_)), fun _ p' n => q _ _ (.tup (d.cut lo hi) n)⟩
    have := d.cut lo hi
    have e : cutV xs lo hi = xs := by
      unfold cutV
      rw [w.1, w.2]; simp
    rwa [e] at this
  · cases e
    obtain ⟨p, xs, rfl, t, d⟩ := ha.list rfl rfl
    exact sl_list pins s σ H _ v vl vu lo hi sl Q I rx hs pl pu ⟨p, xs, rfl, .inl t, fun p' n => q _ _ (.lst (d.cut lo hi) n)⟩
  · obtain ⟨ds, e1, rfl⟩ := Option.map_eq_some_iff.mp e
    obtain ⟨p, xs, rfl, t, d⟩ := ha.list (ds := ds) rfl e1
    exact sl_list pins s σ H _ v vl vu lo hi sl Q I rx hs pl pu ⟨p, xs, rfl, .inl t, fun p' n => q _ _ (.lst (d.cut lo hi) n)⟩
  · cases e

/-! ### t[::-1] -/
section
variable {prog : Program} {w : World} {A : Around} {E : Value → Shared → Prop} {s : Shared}
theorem sliceApplied_back {sl : Addr} {vl vu vs : Value} {n : Nat} {Q : Int × Int × Nat → Shared → Prop} (hs : s.heap.IsSliceOf sl vl vu vs) (pl : IsPart vl none) (pu : IsPart vu none) (ps : IsPart vs (some (-1)))
    (h : Q ((n : Int) - 1, -1, n) s) : wpAny (model prog w) A (Builtin.Slice.sliceApplied (.ref sl) (pure (n : Int))) Q E s := by
  obtain ⟨os, hos, hcs, hds⟩ := id hs
  unfold Builtin.Slice.sliceApplied Builtin.Slice.sliceFields
  refine wpAny_bind (wpAny_bind (wpAny_field hos hds (x := vl) rfl (wpAny_bind (wpAny_field hos hds (x := vu) rfl (wpAny_bind (wpAny_field hos hds (x := vs) rfl (wpAny_pure ?_)))))))
  refine wpAny_bind (HT.slicePart_ ps ?_)
  show wpAny _ _ (if ((-1 : Int) == 0) = true then _ else _) _ _ s
  rw [if_neg (by decide)]
  refine wpAny_bind (HT.slicePart_ pl (wpAny_bind (HT.slicePart_ pu (wpAny_bind (wpAny_pure ?_)))))
  show wpAny _ _ (match Builtin.Slice.sliceAdjust none none (-1) (n : Int) with | (lo, hi) => pure (lo, (-1 : Int), Builtin.Slice.slicePlaces lo hi (-1))) _ _ s
  have e1 : Builtin.Slice.sliceAdjust none none (-1) (n : Int) = ((n : Int) - 1, -1) := by
    unfold Builtin.Slice.sliceAdjust
    simp
  rw [e1]
  have e2 : Builtin.Slice.slicePlaces ((n : Int) - 1) (-1) (-1) = n := by
    unfold Builtin.Slice.slicePlaces
    simp only [show ¬ ((-1 : Int) > 0) by decide, if_false, show (- (-1) : Int) = 1 by decide, Int.ediv_one]
    split <;> omega
  show wpAny _ _ (pure ((n : Int) - 1, (-1 : Int), Builtin.Slice.slicePlaces ((n : Int) - 1) (-1) (-1))) _ _ s
  rw [e2]
  exact wpAny_pure h
theorem getItem_tup_back {t sl : Addr} {items : Array Value} {vl vu vs : Value} {Q : Value → Shared → Prop} (ht : IsTup s.heap t items) (hs : s.heap.IsSliceOf sl vl vu vs) (pl : IsPart vl none) (pu : IsPart vu none) (ps : IsPart vs (some (-1)))
    (h : Q (.ref s.heap.objs.size) { s with heap := s.heap.push { cls := .type "tuple", data := .seq items.toList.reverse.toArray } }) (hsz : items.size ≤ sizeLine) : wpAny (model prog w) A (getItem (.ref t) (.ref sl)) Q E s := by
  have htake : sizeOk (.seq items.toList.reverse.toArray) := by
    show items.toList.reverse.toArray.size ≤ sizeLine
    rw [List.size_toArray, List.length_reverse, Array.length_toList]
    exact hsz
  obtain ⟨os, hos, hcs, hds⟩ := id hs
  have hTs : s.TypeIs (.ref sl) "slice" := ⟨os, hos, hcs⟩
  unfold getItem
  try with_reducible refine wpAny_holding ?_
  first | refine wpAny_bind (wpAny_pure ?_) | skip
  refine wpAny_bind (wpAny_sequenceKey ht.typeIs (by decide) ?_)
  refine wpAny_bind (wpAny_callSpecial?_slot (name := Str.ofString "__getitem__") ht.typeIs slot_tuple_getitem (wpAny_call_entry slot_tuple_getitem ht.typeIs entry_tuple_getitem ?_ (args_tuple_getitem _ _)))
  show wpAny _ _ (Builtin.Tuple.tupleItemsOf (.ref t) >>= _) _ _ s
  refine wpAny_bind (tupleItemsOf_ ht ?_)
  refine wpAny_bind (wpAny_typeOf hTs ?_)
  rw [if_pos (by decide)]
  refine wpAny_bind (sliceApplied_back hs pl pu ps ?_)
  have hno : ¬ ((((items.size : Nat) : Int) - 1 == 0 && (-1 : Int) == 1 && items.size == items.size) = true) := by
    intro q
    rw [Bool.and_eq_true, Bool.and_eq_true] at q
    exact absurd q.1.2 (by decide)
  have hp : ((List.range items.size).filterMap fun (m : Nat) => items[((((items.size : Nat) : Int) - 1) + (m : Int) * (-1)).toNat]?).toArray = items.toList.reverse.toArray := by
    have e : (fun (m : Nat) => items[((((items.size : Nat) : Int) - 1) + (m : Int) * (-1)).toNat]?) = fun (m : Nat) => items[(((items.size : Nat) : Int) - 1 - (m : Int)).toNat]? := by
      funext m
      have : ((((items.size : Nat) : Int) - 1) + (m : Int) * (-1)).toNat = (((items.size : Nat) : Int) - 1 - (m : Int)).toNat := by omega
      rw [this]
    rw [e]
    congr 1
    apply List.ext_getElem?
    intro i
    have key : ∀ (k : Nat), k ≤ items.size → (List.range k).filterMap (fun (m : Nat) => items[(((items.size : Nat) : Int) - 1 - (m : Int)).toNat]?) = (items.toList.reverse).take k := by
      intro k hk
      induction k with
      | zero => simp
      | succ k ih =>
        rw [List.range_succ, List.filterMap_append, ih (by omega), List.take_add_one]
        congr 1
        have e1 : (((items.size : Nat) : Int) - 1 - (k : Int)).toNat = items.size - 1 - k := by omega
        rw [List.getElem?_reverse (by rw [Array.length_toList]; omega)]
        simp only [List.filterMap_cons, List.filterMap_nil, e1, Array.length_toList]
        have e2 : items[items.size - 1 - k]? = items.toList[items.size - 1 - k]? := by simp
        rw [e2]
        cases items.toList[items.size - 1 - k]? <;> rfl
    rw [key items.size (Nat.le_refl _), List.take_of_length_le (by simp)]
  show wpAny _ _ (if ((((items.size : Nat) : Int) - 1 == 0 && (-1 : Int) == 1 && items.size == items.size)) = true then _ else _) _ _ s
  rw [if_neg hno, hp]
  first
    | exact wpAny_bind (m := Builtin.Tuple.tupleExact _) (wpAny_newObj_type (wpAny_pure ⟨_, rfl, wpAny_pure h⟩) htake)
    | exact wpAny_bind (m := Builtin.Tuple.tupleExact _) (wpAny_newObj_type (wpAny_bind (wpAny_pure (wpAny_pure ⟨_, rfl, wpAny_pure h⟩))) htake)
    | exact wpAny_bind (wpAny_bind (m := Builtin.Tuple.tupleExact _) (wpAny_newObj_type (wpAny_pure (wpAny_pure ⟨_, rfl, wpAny_pure h⟩)) htake))
end
def tRv (K : PySem.W.Frag) (te : TE) : TE := fun σ H Q => te σ H fun x H1 => ∃ a r, BT K H1 x a ∧ primEv .rev [a] = some r ∧ ∀ v H', New K H1 v r H' → Q v H'
theorem pe_revP {e : Expr} {te : TE} {k : Nat} {p1 p2 p3 pos : Pos} (he : PE X e te) : PE X (.Subscript e (.Slice none none (some (.UnaryOp .USub (.Constant (.int 1) k p1) p2)) p3) pos) (tRv X.K te) := by
  refine ⟨fun pins s σ H Q I h => ?_⟩
  refine Subscript_ (thn (he.run pins s σ H _ I h) fun v s1 ⟨x, H1, I1, r1, q1⟩ => ?_)
  obtain ⟨a, o, ha, ee, q⟩ := q1
  simp only [primEv] at ee
  split at ee
  · rename_i l
    obtain ⟨ds, e1, rfl⟩ := Option.map_eq_some_iff.mp ee
    obtain ⟨p, xs, rfl, t, d⟩ := ha.tup l e1
    cases r1
    have hst : PO X (some (.UnaryOp .USub (.Constant (.int 1) k p1) p2)) (tPart (tUn (rU fun i => .int (-i)) (tC (.int 1)))) := po_some (pe_un un_neg pe_int)
    refine wpAny_Slice (thn (po_none.run pins s1 σ H1 (fun o H2 => o = none ∧ H2 = H1) I1 ⟨rfl, rfl⟩) fun vl s2 ⟨l, H2, I2, pl, el, e2⟩ => ?_)
    subst el e2
    refine thn (po_none.run pins s2 σ H2 (fun o H3 => o = none ∧ H3 = H2) I2 ⟨rfl, rfl⟩) fun vu s3 ⟨u, H3, I3, pu, eu, e3⟩ => ?_
    subst eu e3
    refine thn (hst.run pins s3 σ H3 (fun o H4 => o = some (-1) ∧ H4 = H3) I3 ⟨1, rfl, -1, rfl, rfl, rfl⟩) fun vs s4 ⟨o, H4, I4, ps, eo, e4⟩ => ?_
    subst eo e4
    have I5 : Inv X pins σ H4 { s4 with heap := s4.heap.push { cls := .type "slice", data := .fields #[vl, vu, vs] } } := I4.kept (t' := s4.toks) fun b ob q => Heap.get?_push_of_some _ q
    obtain ⟨its, r, ht, hz⟩ := I5.tuple t.sq
    have hlen := r.length
    show wpAny (model X.prog X.w) X.A (subscriptTail e (.Slice none none (some (.UnaryOp .USub (.Constant (.int 1) k p1) p2)) p3) (.ref p) (.ref s4.heap.objs.size)) (EP X pins σ Q) X.xe { s4 with heap := s4.heap.push { cls := .type "slice", data := .fields #[vl, vu, vs] } }
    refine tail_any (ops := [.ref p, .ref s4.heap.objs.size]) ht.typeIs slot_tuple_getitem.lookup ?_ (by with_unfolding_all rfl)
    refine getItem_tup_back ht (Heap.IsSliceOf.new _ vl vu vs) pl pu ps ?_ (by rw [List.size_toArray]; omega)
    refine ⟨.ref _, _, I5.laid (t' := s4.toks) (o := .tup xs.reverse) (fun b ob q => Heap.get?_push_of_some _ q) (Nat.le_refl _) ?_, rfl, q _ _ (.tup d.rev (I5.hok.fresh (Nat.le_refl _)))⟩
    exact ⟨by rw [List.length_reverse]; exact hz, _, r.reverse, IsTup.new _ _⟩
  · cases ee
end
end GB

namespace GB
open PySem PySem.Spec PyProof.Rows L2

/-! ## 12. places within a tree -/
section
variable {K : PySem.W.Frag} {H H' : Hp}
/-- the value at a place -/
inductive PathV (K : PySem.W.Frag) (H : Hp) : V → List V → V → Prop
  | nil {v : V} : PathV K H v [] v
  | lst {a : Addr} {xs : List V} {i : Int} {n : Nat} {y w : V} {r : List V} : Rd H a (.lst xs) → ixN xs.length i = some n → xs[n]? = some y → PathV K H y r w → PathV K H (.ref a) (.int i :: r) w
  | dic {a : Addr} {kvs : List (Key × V)} {k : Key} {y w : V} {r : List V} : Rd H a (.dK kvs) → valV kvs k = some y → PathV K H y r w → PathV K H (.ref a) (kV k :: r) w
theorem OTs.at : ∀ {os : List O} {xs : List V} {F : Fp} {n : Nat} {o : O}, OTs K H xs os F → os[n]? = some o → ∃ y Fy Gy, xs[n]? = some y ∧ OT K H y o Fy ∧ (∀ b, Fy b ∨ Gy b → F b) ∧ Dj Fy Gy ∧
    ∀ (H' : Hp) (z : O) (Fz T : Fp), Kp T H H' → OwS T H → (∀ b, T b → Fy b) → OT K H' y z Fz → Dj Fz Gy → OTs K H' xs (os.set n z) fun b => Fz b ∨ Gy b
  | [], _, _, _, _, _, e => by simp at e
  | _ :: _, _, _, 0, _, h, e => by
    cases h with
    | cons h1 h2 h3 h4 =>
      simp at e; subst e
      exact ⟨_, _, _, rfl, h1, h4, h3, fun H' z Fz T k w t hz j => .cons hz (OTs.keep w k _ _ _ h2 (h3.symm.mono (fun _ z => z) t)) j fun _ z => z⟩
  | _ :: os, _, _, n + 1, o, h, e => by
    cases h with
    | cons h1 h2 h3 h4 =>
      rename_i F1 F2
      obtain ⟨y, Fy, Gy, e1, e2, e3, e4, e5⟩ := OTs.at (n := n) (o := o) h2 (by simpa using e)
      refine ⟨y, Fy, fun b => F1 b ∨ Gy b, by simpa using e1, e2, fun b hb => ?_, fun b x z => ?_, fun H' z Fz T k w t hz j => ?_⟩
      · rcases hb with q | q | q
        · exact h4 b (.inr (e3 b (.inl q)))
        · exact h4 b (.inl q)
        · exact h4 b (.inr (e3 b (.inr q)))
      · rcases z with z | z
        · exact h3 b z (e3 b (.inl x))
        · exact e4 b x z
      · refine .cons (F1 := F1) (F2 := fun b => Fz b ∨ Gy b) (OT.keep w k _ _ _ h1 (fun b x z => h3 b x (e3 b (.inl (t b z))))) (e5 H' z Fz T k w t hz (j.mono (fun _ z => z) fun b q => .inr q)) (fun b x z => ?_) fun b hb => ?_
        · rcases z with z | z
          · exact j b z (.inl x)
          · exact h3 b x (e3 b (.inr z))
        · rcases hb with q | q | q
          · exact .inr (.inl q)
          · exact .inl q
          · exact .inr (.inr q)
theorem OTk.at {k : Key} : ∀ {os : List (Key × O)} {xs : List (Key × V)} {F : Fp} {p : Key × O}, OTk K H xs os F → (os.find? fun p => decide (p.1 = k)) = some p → ∃ y Fy Gy, valV xs k = some y ∧ OT K H y p.2 Fy ∧ (∀ b, Fy b ∨ Gy b → F b) ∧ Dj Fy Gy ∧
    ∀ (H' : Hp) (z : O) (Fz T : Fp), Kp T H H' → OwS T H → (∀ b, T b → Fy b) → OT K H' y z Fz → Dj Fz Gy → OTk K H' xs (putKv k z os) fun b => Fz b ∨ Gy b
  | [], _, _, _, _, e => by simp at e
  | (j, o) :: os, _, _, p, h, e => by
    cases h with
    | cons h1 h2 h3 h4 =>
      rename_i F1 F2
      by_cases hj : j = k
      · subst hj
        simp at e; subst e
        refine ⟨_, _, _, by simp [valV], h1, h4, h3, fun H' z Fz T k w t hz j => ?_⟩
        simp only [putKv, if_true]
        exact .cons hz (OTk.keep w k _ _ _ h2 (h3.symm.mono (fun _ z => z) t)) j fun _ z => z
      · simp [hj] at e
        obtain ⟨y, Fy, Gy, e1, e2, e3, e4, e5⟩ := OTk.at h2 e
        refine ⟨y, Fy, fun b => F1 b ∨ Gy b, by simpa [valV, hj] using e1, e2, fun b hb => ?_, fun b x z => ?_, fun H' z Fz T k' w t hz j' => ?_⟩
        · rcases hb with q | q | q
          · exact h4 b (.inr (e3 b (.inl q)))
          · exact h4 b (.inl q)
          · exact h4 b (.inr (e3 b (.inr q)))
        · rcases z with z | z
          · exact h3 b z (e3 b (.inl x))
          · exact e4 b x z
        · simp only [putKv, hj, if_false]
          refine .cons (F1 := F1) (F2 := fun b => Fz b ∨ Gy b) (OT.keep w k' _ _ _ h1 (fun b x z => h3 b x (e3 b (.inl (t b z))))) (e5 H' z Fz T k' w t hz (j'.mono (fun _ z => z) fun b q => .inr q)) (fun b x z => ?_) fun b hb => ?_
          · rcases z with z | z
            · exact j' b z (.inl x)
            · exact h3 b x (e3 b (.inr z))
          · rcases hb with q | q | q
            · exact .inr (.inl q)
            · exact .inl q
            · exact .inr (.inr q)
/-- keys as values -/
def KeyVs (K : PySem.W.Frag) (H : Hp) : List V → List O → Prop := BTs K H
theorem OT.at : ∀ {kv : List O} {v : V} {o on : O} {F : Fp} {ks : List V}, OT K H v o F → BTs K H ks kv → pathO kv o = some on → ∃ vn Fn G, PathV K H v ks vn ∧ OT K H vn on Fn ∧ (∀ b, Fn b ∨ G b → F b) ∧ Dj Fn G ∧
    ∀ (H' : Hp) (z : O) (Fz T : Fp), Kp T H H' → OwS T H → (∀ b, T b → Fn b) → OT K H' vn z Fz → Dj Fz G → ∃ o', putO kv z o = some o' ∧ OT K H' v o' fun b => Fz b ∨ G b
  | [], v, o, on, F, ks, h, hk, e => by
    cases hk
    simp only [pathO, Option.some.injEq] at e
    subst e
    exact ⟨v, F, F0, .nil, h, fun b hb => hb.elim id False.elim, fun _ _ z => z, fun H' z Fz T _ _ _ hz _ => ⟨z, rfl, hz.wide fun b q => .inl q⟩⟩
  | i :: r, v, o, on, F, ks, h, hk, e => by
    cases hk with
    | cons hi hr =>
      cases h with
      | dat h => simp [pathO] at e
      | lst h1 h2 h3 h4 =>
        rename_i a xs os G0
        simp only [pathO] at e
        obtain ⟨j, ej, eA⟩ := Option.bind_eq_some_iff.mp e
        obtain ⟨n, en, eB⟩ := Option.bind_eq_some_iff.mp eA
        obtain ⟨y, ey, eC⟩ := Option.bind_eq_some_iff.mp eB
        have := int?_eq ej
        subst this
        have := hi.of_int
        subst this
        obtain ⟨yv, Fy, Gy, f1, f2, f3, f4, f5⟩ := OTs.at h3 ey
        obtain ⟨vn, Fn, G, g1, g2, g3, g4, g5⟩ := OT.at f2 hr eC
        refine ⟨vn, Fn, fun b => G b ∨ Gy b ∨ b = a, .lst (.inl h1) (by rw [h3.length]; exact en) f1 g1, g2, fun b hb => ?_, fun b x z => ?_, fun H' z Fz T k w t hz jz => ?_⟩
        · rcases hb with q | q | q | q
          · exact (h4 b (f3 b (.inl (g3 b (.inl q))))).1
          · exact (h4 b (f3 b (.inl (g3 b (.inr q))))).1
          · exact (h4 b (f3 b (.inr q))).1
          · subst q; exact h2
        · rcases z with z | z | z
          · exact g4 b x z
          · exact f4 b (g3 b (.inl x)) z
          · exact (h4 b (f3 b (.inl (g3 b (.inl x))))).2 z
        · obtain ⟨o', p1, p2⟩ := g5 H' z Fz T k w t hz (jz.mono (fun _ q => q) fun b q => .inl q)
          have tf : ∀ b, T b → Fy b := fun b q => g3 b (.inl (t b q))
          have q1 := f5 H' o' (fun b => Fz b ∨ G b) T k w tf p2 (fun b x y => by
            rcases x with x | x
            · exact jz b x (.inr (.inl y))
            · exact f4 b (g3 b (.inr x)) y)
          refine ⟨.lst (os.set n o'), ?_, ?_⟩
          · simp only [putO, O.int?, Option.bind_some]
            rw [en]
            simp only [Option.bind_some]
            rw [ey]
            simp only [Option.bind_some]
            rw [p1]
            rfl
          · refine .lst (k _ _ h1 fun q => (h4 a (f3 a (.inl (tf a q)))).2 rfl) (.inr (.inr (.inr rfl))) q1 fun b hb => ?_
            rcases hb with (q | q) | q
            · exact ⟨.inl q, fun z => jz b q (.inr (.inr z))⟩
            · exact ⟨.inr (.inl q), (h4 b (f3 b (.inl (g3 b (.inr q))))).2⟩
            · exact ⟨.inr (.inr (.inl q)), (h4 b (f3 b (.inr q))).2⟩
      | dic h1 h2 h3 h4 =>
        rename_i a kvs os G0
        simp only [pathO] at e
        obtain ⟨k, ek, eA⟩ := Option.bind_eq_some_iff.mp e
        obtain ⟨p, ep, eC⟩ := Option.bind_eq_some_iff.mp eA
        have := key_of hi ek
        subst this
        obtain ⟨yv, Fy, Gy, f1, f2, f3, f4, f5⟩ := OTk.at h3 ep
        obtain ⟨vn, Fn, G, g1, g2, g3, g4, g5⟩ := OT.at f2 hr eC
        refine ⟨vn, Fn, fun b => G b ∨ Gy b ∨ b = a, .dic (.inl h1) f1 g1, g2, fun b hb => ?_, fun b x z => ?_, fun H' z Fz T kk w t hz jz => ?_⟩
        · rcases hb with q | q | q | q
          · exact (h4 b (f3 b (.inl (g3 b (.inl q))))).1
          · exact (h4 b (f3 b (.inl (g3 b (.inr q))))).1
          · exact (h4 b (f3 b (.inr q))).1
          · subst q; exact h2
        · rcases z with z | z | z
          · exact g4 b x z
          · exact f4 b (g3 b (.inl x)) z
          · exact (h4 b (f3 b (.inl (g3 b (.inl x))))).2 z
        · obtain ⟨o', p1, p2⟩ := g5 H' z Fz T kk w t hz (jz.mono (fun _ q => q) fun b q => .inl q)
          have tf : ∀ b, T b → Fy b := fun b q => g3 b (.inl (t b q))
          have q1 := f5 H' o' (fun b => Fz b ∨ G b) T kk w tf p2 (fun b x y => by
            rcases x with x | x
            · exact jz b x (.inr (.inl y))
            · exact f4 b (g3 b (.inr x)) y)
          refine ⟨.dic (putKv k o' os), ?_, ?_⟩
          · simp only [putO]
            rw [ek]
            simp only [Option.bind_some]
            rw [ep]
            simp only [Option.bind_some]
            rw [p1]
            rfl
          · refine .dic (kk _ _ h1 fun q => (h4 a (f3 a (.inl (tf a q)))).2 rfl) (.inr (.inr (.inr rfl))) q1 fun b hb => ?_
            rcases hb with (q | q) | q
            · exact ⟨.inl q, fun z => jz b q (.inr (.inr z))⟩
            · exact ⟨.inr (.inl q), (h4 b (f3 b (.inl (g3 b (.inr q))))).2⟩
            · exact ⟨.inr (.inr (.inl q)), (h4 b (f3 b (.inr q))).2⟩
theorem PathV.le (l : Le H H') : ∀ {v : V} {ks : List V} {w : V}, PathV K H v ks w → PathV K H' v ks w
  | _, _, _, .nil => .nil
  | _, _, _, .lst h1 h2 h3 h4 => .lst (LQ.le (K := K) (b := false) h1 l) h2 h3 (h4.le l)
  | _, _, _, .dic h1 h2 h3 => .dic (DQ.le (b := false) h1 l) h2 (h3.le l)
theorem Rd.inj {a : Addr} {o u : HO} (h : Rd H a o) (h' : H a = some u) (w : isOwn u = true) (w' : isOwn o = true) : o = u := by
  rcases h with h | ⟨ob, h⟩
  · rw [h] at h'; exact Option.some.inj h'
  · rw [h] at h'; cases h'; simp [isOwn] at w
theorem kV_inj {k j : Key} (h : kV k = kV j) : k = j := by
  cases k <;> cases j <;> simp [kV] at h <;> rw [h]
/-- the value at a place is one, while the tree is owned -/
theorem PathV.one : ∀ {kv : List O} {v : V} {o on : O} {F : Fp} {ks : List V} {w w' : V}, OT K H v o F → BTs K H ks kv → pathO kv o = some on → PathV K H v ks w → PathV K H v ks w' → w = w'
  | [], _, _, _, _, _, _, _, _, hk, _, p, p' => by cases hk; cases p; cases p'; rfl
  | i :: r, v, o, on, F, ks, w, w', h, hk, e, p, p' => by
    cases hk with
    | cons hi hr =>
      cases h with
      | dat h => simp [pathO] at e
      | lst h1 h2 h3 h4 =>
        rename_i a xs os G0
        simp only [pathO] at e
        obtain ⟨j, ej, eA⟩ := Option.bind_eq_some_iff.mp e
        obtain ⟨n, en, eB⟩ := Option.bind_eq_some_iff.mp eA
        obtain ⟨y, ey, eC⟩ := Option.bind_eq_some_iff.mp eB
        have := int?_eq ej
        subst this
        have := hi.of_int
        subst this
        obtain ⟨yv, Fy, Gy, f1, f2, f3, f4, f5⟩ := OTs.at h3 ey
        rw [← h3.length] at en
        generalize hx : V.int j = kx at p p'
        cases p with
        | lst q1 q2 q3 q4 =>
          cases hx
          have := Rd.inj q1 h1 rfl rfl
          cases this
          rw [show ixN xs.length j = some n from en] at q2; cases q2
          rw [f1] at q3; cases q3
          generalize hx' : V.int j = kx' at p'
          cases p' with
          | lst u1 u2 u3 u4 =>
            cases hx'
            have := Rd.inj u1 h1 rfl rfl
            cases this
            rw [show ixN xs.length j = some n from en] at u2; cases u2
            rw [f1] at u3; cases u3
            exact PathV.one f2 hr eC q4 u4
          | dic u1 u2 u3 =>
            have := Rd.inj u1 h1 rfl rfl
            cases this
        | dic q1 q2 q3 =>
          have := Rd.inj q1 h1 rfl rfl
          cases this
      | dic h1 h2 h3 h4 =>
        rename_i a kvs os G0
        simp only [pathO] at e
        obtain ⟨k, ek, eA⟩ := Option.bind_eq_some_iff.mp e
        obtain ⟨pp, ep, eC⟩ := Option.bind_eq_some_iff.mp eA
        have := key_of hi ek
        subst this
        obtain ⟨yv, Fy, Gy, f1, f2, f3, f4, f5⟩ := OTk.at h3 ep
        generalize hx : kV k = kx at p p'
        cases p with
        | lst q1 q2 q3 q4 =>
          have := Rd.inj q1 h1 rfl rfl
          cases this
        | dic q1 q2 q3 =>
          have := Rd.inj q1 h1 rfl rfl
          cases this
          have := kV_inj hx
          subst this
          rw [f1] at q2; cases q2
          generalize hx' : kV k = kx' at p'
          cases p' with
          | lst u1 u2 u3 u4 =>
            have := Rd.inj u1 h1 rfl rfl
            cases this
          | dic u1 u2 u3 =>
            have := Rd.inj u1 h1 rfl rfl
            cases this
            have := kV_inj hx'
            subst this
            rw [f1] at u2; cases u2
            exact PathV.one f2 hr eC q3 u3
end
end GB

namespace GB
open PySem PySem.Spec PyProof.Rows L2

/-! ## 13. changes of one list or dict -/
section
variable {K : PySem.W.Frag} {H : Hp}
theorem OTs.split : ∀ (n : Nat) {xs : List V} {os : List O} {F : Fp}, OTs K H xs os F → ∃ F1 F2, OTs K H (xs.take n) (os.take n) F1 ∧ OTs K H (xs.drop n) (os.drop n) F2 ∧ Dj F1 F2 ∧ ∀ b, F1 b ∨ F2 b → F b
  | 0, xs, os, F, h => ⟨F0, F, by simp; exact .nil, by simpa using h, fun _ z _ => z, fun b hb => hb.elim False.elim id⟩
  | n + 1, _, [], F, h => by cases h; exact ⟨F0, F0, by simp; exact .nil, by simp; exact .nil, fun _ z _ => z, fun b hb => hb.elim False.elim False.elim⟩
  | n + 1, _, o :: os, F, h => by
    cases h with
    | cons h1 h2 h3 h4 =>
      rename_i G1 G2
      obtain ⟨F1, F2, a, b, c, d⟩ := OTs.split n h2
      refine ⟨fun x => G1 x ∨ F1 x, F2, ?_, by simpa using b, fun x y z => ?_, fun x hx => ?_⟩
      · simp only [List.take_succ_cons]
        exact .cons h1 a (h3.mono (fun _ z => z) fun x z => d x (.inl z)) fun _ z => z
      · rcases y with y | y
        · exact h3 x y (d x (.inr z))
        · exact c x y z
      · rcases hx with (y | y) | y
        · exact h4 x (.inl y)
        · exact h4 x (.inr (d x (.inl y)))
        · exact h4 x (.inr (d x (.inr y)))
theorem OTs.append : ∀ {os ps : List O} {xs ys : List V} {F1 F2 : Fp}, OTs K H xs os F1 → OTs K H ys ps F2 → Dj F1 F2 → OTs K H (xs ++ ys) (os ++ ps) fun b => F1 b ∨ F2 b
  | [], _, _, _, _, _, h, g, _ => by cases h; exact g.wide fun _ z => .inr z
  | o :: os, _, _, _, F1, F2, h, g, j => by
    cases h with
    | cons h1 h2 h3 h4 =>
      rename_i G1 G2
      refine .cons (F1 := G1) (F2 := fun b => G2 b ∨ F2 b) h1 (h2.append g (j.mono (fun x z => h4 x (.inr z)) fun _ z => z)) (fun x y z => ?_) fun x hx => ?_
      · rcases z with z | z
        · exact h3 x y z
        · exact j x (h4 x (.inl y)) z
      · rcases hx with y | y | y
        · exact .inl (h4 x (.inl y))
        · exact .inl (h4 x (.inr y))
        · exact .inr y
theorem OTs.one {v : V} {o : O} {F : Fp} (h : OT K H v o F) : OTs K H [v] [o] F := .cons (F2 := F0) h .nil (fun _ _ z => z) fun b hb => hb.elim id False.elim
theorem OTs.head {v : V} {vs : List V} {o : O} {os : List O} {F : Fp} (h : OTs K H (v :: vs) (o :: os) F) : ∃ F1 F2, OT K H v o F1 ∧ OTs K H vs os F2 ∧ Dj F1 F2 ∧ ∀ b, F1 b ∨ F2 b → F b := by
  cases h with | cons h1 h2 h3 h4 => exact ⟨_, _, h1, h2, h3, h4⟩
/-- the n-th item apart -/
theorem OTs.pick {n : Nat} {xs : List V} {os : List O} {F : Fp} {o : O} (h : OTs K H xs os F) (e : os[n]? = some o) : ∃ y Fy F1 F2, xs[n]? = some y ∧ OT K H y o Fy ∧ OTs K H (xs.take n) (os.take n) F1 ∧ OTs K H (xs.drop (n + 1)) (os.drop (n + 1)) F2 ∧
    Dj F1 F2 ∧ Dj Fy F1 ∧ Dj Fy F2 ∧ ∀ b, Fy b ∨ F1 b ∨ F2 b → F b := by
  obtain ⟨F1, G, a, b, c, d⟩ := OTs.split n h
  have hn : n < os.length := (List.getElem?_eq_some_iff.mp e).1
  have hx : n < xs.length := by rw [h.length]; exact hn
  rw [List.drop_eq_getElem_cons hn, List.drop_eq_getElem_cons hx] at b
  obtain ⟨Fy, F2, p, q, r, s⟩ := b.head
  have eo : os[n] = o := by
    have := List.getElem?_eq_getElem hn
    rw [this] at e; exact Option.some.inj e
  rw [eo] at p
  refine ⟨xs[n], Fy, F1, F2, List.getElem?_eq_getElem hx, p, a, q, c.mono (fun _ z => z) fun x z => s x (.inr z), fun x y z => c x z (s x (.inl y)), r, fun x hx => ?_⟩
  rcases hx with y | y | y
  · exact d x (.inr (s x (.inl y)))
  · exact d x (.inl y)
  · exact d x (.inr (s x (.inr y)))
/-- the list at a rewritten -/
theorem OT.relst {a : Addr} {xs ys : List V} {ps : List O} {F G : Fp} (h : H a = some (.lst xs)) (f : F a) (t : OTs K H ys ps G) (g : ∀ b, G b → F b ∧ b ≠ a) : OT K (upd H a (.lst ys)) (.ref a) (.lst ps) F := by
  refine .lst upd_same f (OTs.keep (S := fun b => b = a) (fun b e => by cases e; exact ⟨_, h, rfl⟩) (kp_upd rfl) _ _ _ t fun b x y => (g b x).2 y) g
theorem OT.redic {a : Addr} {xs ys : List (Key × V)} {ps : List (Key × O)} {F G : Fp} (h : H a = some (.dK xs)) (f : F a) (t : OTk K H ys ps G) (g : ∀ b, G b → F b ∧ b ≠ a) : OT K (upd H a (.dK ys)) (.ref a) (.dic ps) F := by
  refine .dic upd_same f (OTk.keep (S := fun b => b = a) (fun b e => by cases e; exact ⟨_, h, rfl⟩) (kp_upd rfl) _ _ _ t fun b x y => (g b x).2 y) g
theorem putK_eq {k : Key} {y v : V} {vs : List (Key × V)} (n : k ∉ vs.map (·.1)) : putK ((k, v) :: vs) k y = (k, y) :: vs := by
  unfold putK
  rw [if_pos (by simp)]
  rw [List.map_cons, if_pos rfl]
  congr 1
  have : ∀ (l : List (Key × V)), k ∉ l.map (·.1) → l.map (fun kv => if kv.1 = k then (kv.1, y) else kv) = l := by
    intro l
    induction l with
    | nil => intro _; rfl
    | cons p l ih =>
      intro hn
      simp only [List.map_cons, List.mem_cons, not_or] at hn
      rw [List.map_cons, if_neg (fun z => hn.1 z.symm), ih hn.2]
  exact this vs n
theorem putK_ne {i k : Key} {y v : V} {vs : List (Key × V)} (n : ¬ i = k) : putK ((i, v) :: vs) k y = (i, v) :: putK vs k y := by
  unfold putK
  have e : (((i, v) :: vs).any fun kv => decide (kv.1 = k)) = vs.any fun kv => decide (kv.1 = k) := by simp [n]
  rw [e]
  split
  · rw [List.map_cons, if_neg n]
  · rfl
theorem OTk.put {k : Key} {y : V} {o : O} {Fy : Fp} (hy : OT K H y o Fy) : ∀ {xs : List (Key × V)} {os : List (Key × O)} {F : Fp}, OTk K H xs os F → (xs.map (·.1)).Nodup → Dj Fy F → OTk K H (putK xs k y) (putKv k o os) fun b => Fy b ∨ F b
  | _, [], F, h, _, j => by
    cases h
    exact .cons (F2 := F) hy .nil j fun _ z => z
  | _, (i, p) :: os, F, h, nd, j => by
    cases h with
    | cons h1 h2 h3 h4 =>
      rename_i v vs G1 G2
      rw [List.map_cons, List.nodup_cons] at nd
      by_cases e : i = k
      · subst e
        rw [putK_eq nd.1]
        simp only [putKv, if_true]
        exact .cons hy h2 (j.mono (fun _ z => z) fun x z => h4 x (.inr z)) fun b hb => hb.elim (fun z => .inl z) fun z => .inr (h4 b (.inr z))
      · rw [putK_ne e]
        simp only [putKv, e, if_false]
        refine .cons (F1 := G1) (F2 := fun b => Fy b ∨ G2 b) h1 (h2.put hy nd.2 (j.mono (fun _ z => z) fun x z => h4 x (.inr z))) (fun x a c => ?_) fun b hb => ?_
        · rcases c with c | c
          · exact j x c (h4 x (.inl a))
          · exact h3 x a c
        · rcases hb with z | z | z
          · exact .inr (h4 b (.inl z))
          · exact .inl z
          · exact .inr (h4 b (.inr z))
end
section
variable {X : Cx} {pins : List (Addr × Obj)} {σ : L2.St} {H : Hp} {s : Shared}
theorem dict_nodup (I : Inv X pins σ H s) {a : Addr} {kvs : List (Key × V)} (h : H a = some (.dK kvs)) : (kvs.map (·.1)).Nodup := by
  obtain ⟨_, _, vs, r, _, _, _, _, _, _, _, _, nd⟩ := (show ObjOk X.prog X.w H s.heap a (.dK kvs) from I.hok a _ h)
  have e : ∀ {l : List (Key × V)} {m : List (Key × Value)}, KV l m → l.map (·.1) = m.map (·.1) := by
    intro l m r
    induction r with
    | nil => rfl
    | cons p _ ih => simp only [List.map_cons, ih, p.1]
  rw [e r]
  exact nd
/-- extend by a list that stands still -/
theorem extend_any {l b : Addr} {xs zs : List V} {Q : VK} (I : Inv X pins σ H s) (hH : H l = some (.lst xs)) (hB : Rd H b (.lst zs)) (hz : xs.length + zs.length ≤ sizeLine) (q : Q .non (upd H l (.lst (xs ++ zs)))) :
    wpAny (model X.prog X.w) X.A (call (.builtin "list.extend") [.ref l, .ref b]) (EP X pins σ Q) X.xe s := by
  obtain ⟨z, its, n, r, hl, e⟩ := I.lstM hH
  obtain ⟨z2, its2, n2, r2, e2⟩ := hB.ok I.hok
  have hl2 := r2.length
  have hsz : its.toArray.size + its2.toArray.size ≤ sizeLine := by rw [List.size_toArray, List.size_toArray]; omega
  have hlong : ¬ (!its.toArray.isEmpty && Builtin.List.listTooLong (its.toArray.size + its2.toArray.size)) = true := by
    rw [notLongL hsz, Bool.and_false]; exact Bool.false_ne_true
  refine call_meets F.slot_list_extend ⟨_, e, rfl⟩ F.entry_list_extend (F.args_list_extend_2 _ _)
    (AutoSeq1.list_extend_list_list_0 l its.toArray n b its2.toArray n2 hlong (by rw [List.size_toArray]; omega) (by omega)) ⟨e, e2, ?_⟩
  refine ⟨.non, _, I.lset (its' := its ++ its2) hH e (by simp) (r.append r2) (by rw [List.length_append]; omega), rfl, q⟩

/-- what a change leaves: F the tree's own objects, Fa those of the arguments -/
def MutPost (K : PySem.W.Frag) (H : Hp) (v : V) (F Fa : Fp) (r o' : O) : VK := fun w H' => ∃ Fr F', OT K H' w r Fr ∧ OT K H' v o' F' ∧ Dj Fr F' ∧ (∀ b, Fr b ∨ F' b → F b ∨ Fa b) ∧ Kp F H H' ∧ OwS (fun b => Fr b ∨ F' b) H'
def mutId : Mut → String
  | .append => "list.append"
  | .extend => "list.extend"
  | .insert => "list.insert"
  | .pop0 => "list.pop"
  | .pop1 => "list.pop"
  | .set => "list.__setitem__"
theorem own_upd {F : Fp} {a : Addr} {o : HO} (w : OwS F H) (i : isOwn o = true) : OwS F (upd H a o) := fun b hb => by
  by_cases e : b = a
  · subst e; exact ⟨o, upd_same, i⟩
  · obtain ⟨o', h, q⟩ := w b hb
    exact ⟨o', by rw [upd_ne e]; exact h, q⟩
theorem OT.upd {v : V} {o : O} {F : Fp} {a : Addr} {u u' : HO} (h : OT X.K H v o F) (e : H a = some u) (i : isOwn u = true) (n : ¬ F a) : OT X.K (upd H a u') v o F :=
  OT.keep (S := fun b => b = a) (fun b z => by cases z; exact ⟨_, e, i⟩) (kp_upd rfl) _ _ _ h fun b x y => n (by cases y; exact x)
end
end GB

namespace GB
open PySem PySem.Spec PyProof.Rows L2

section
variable {X : Cx} {pins : List (Addr × Obj)} {σ : L2.St} {H : Hp} {s : Shared}
theorem ots1 {K : PySem.W.Frag} {H : Hp} {xs : List V} {a : O} {F : Fp} (h : OTs K H xs [a] F) : ∃ x, xs = [x] ∧ OT K H x a F := by
  cases h with | cons h1 h2 h3 h4 => cases h2; exact ⟨_, rfl, h1.wide fun b z => h4 b (.inl z)⟩
theorem ots2 {K : PySem.W.Frag} {H : Hp} {xs : List V} {a b : O} {F : Fp} (h : OTs K H xs [a, b] F) : ∃ x y F1 F2, xs = [x, y] ∧ OT K H x a F1 ∧ OT K H y b F2 ∧ Dj F1 F2 ∧ ∀ c, F1 c ∨ F2 c → F c := by
  cases h with
  | cons h1 h2 h3 h4 =>
    obtain ⟨y, e, t⟩ := ots1 h2
    subst e
    exact ⟨_, _, _, _, rfl, h1, t, h3, h4⟩
theorem dat_none {K : PySem.W.Frag} {H : Hp} : OT K H .non (.dat .none) F0 := .dat .non
/-- the list at a becomes another one, None comes back -/
theorem post_list {a : Addr} {xs ys : List V} {os' : List O} {F Fa G : Fp} (h : H a = some (.lst xs)) (f : F a) (w : OwS F H) (wa : OwS Fa H) (t : OTs X.K H ys os' G) (g : ∀ b, G b → (F b ∨ Fa b) ∧ b ≠ a) :
    MutPost X.K H (.ref a) F Fa (.dat .none) (.lst os') .non (upd H a (.lst ys)) := by
  refine ⟨F0, fun b => F b ∨ Fa b, dat_none, .relst (F := fun b => F b ∨ Fa b) h (.inl f) t g, fun _ z _ => z, fun b hb => hb.elim False.elim id, kp_upd f, own_upd (fun b hb => ?_) rfl⟩
  rcases hb with z | z | z
  · exact z.elim
  · exact w b z
  · exact wa b z
theorem mut_ok {m : Mut} (hm : m ≠ .set) {v : V} {vv : Value} {ys : List V} {us : List Value} {o o' r : O} {as : List O} {F Fa : Fp} {Q : VK} (I : Inv X pins σ H s) (rv : RelV v vv) (ru : Vals ys us) (ho : OT X.K H v o F) (ha : OTs X.K H ys as Fa)
    (w : OwS F H) (wa : OwS Fa H) (dj : Dj F Fa) (e : mutEv m as o = some (r, o')) (q : ∀ x H', MutPost X.K H v F Fa r o' x H' → Q x H') :
    wpAny (model X.prog X.w) X.A (call (.builtin (mutId m)) (vv :: us)) (EP X pins σ Q) X.xe s := by
  unfold mutEv at e
  split at e
  · -- append
    split at e
    · cases e
      rename_i hz
      obtain ⟨y, rfl, hy⟩ := ots1 ha
      cases ho with
      | lst h1 h2 h3 h4 =>
        refine mt_append pins s σ H _ _ vv us Q I rv ru ⟨_, _, y, rfl, rfl, h1, by rw [h3.length]; exact hz, q _ _ (post_list h1 h2 w wa (OTs.append h3 (OTs.one hy) (dj.mono (fun b z => (h4 b z).1) fun _ z => z)) fun b hb => ?_)⟩
        rcases hb with z | z
        · exact ⟨.inl (h4 b z).1, (h4 b z).2⟩
        · exact ⟨.inr z, fun c => by subst c; exact dj _ h2 z⟩
    · cases e
  · -- extend
    split at e
    · rename_i hl
      obtain ⟨ds, e1, e2⟩ := Option.bind_eq_some_iff.mp e
      split at e2
      · cases e2
        rename_i hz
        obtain ⟨y, rfl, hy⟩ := ots1 ha
        obtain ⟨b, zs, rfl, t, d⟩ := (OT.bt _ _ _ hy).list hl e1
        cases ho with
        | lst h1 h2 h3 h4 =>
          cases rv
          obtain ⟨u1, rfl, r1⟩ := ru.one
          cases r1
          refine extend_any I h1 t (by rw [h3.length, d.length]; exact hz) (q _ _ (post_list h1 h2 w wa (OTs.append h3 (OTs.dats (F := F0) d) fun _ _ z => z) fun b hb => ?_))
          rcases hb with z | z
          · exact ⟨.inl (h4 b z).1, (h4 b z).2⟩
          · exact z.elim
      · cases e2
    · cases e
  · -- insert
    split at e
    · cases e
      rename_i hz
      obtain ⟨y0, y, F1, F2, rfl, t1, hy, _, g⟩ := ots2 ha
      cases (BT.of_int (OT.bt _ _ _ t1))
      cases ho with
      | lst h1 h2 h3 h4 =>
        obtain ⟨G1, G2, p1, p2, p3, p4⟩ := OTs.split (Int.toNat ‹Int›) h3
        refine mt_insert pins s σ H _ _ vv us Q I rv ru ⟨_, _, _, y, rfl, rfl, h1, by rw [h3.length]; exact hz.1, hz.2.1, hz.2.2, q _ _ (post_list h1 h2 w wa
          (OTs.append (OTs.append p1 (OTs.one hy) (dj.mono (fun b z => (h4 b (p4 b (.inl z))).1) fun b z => g b (.inr z))) p2 fun b x z => ?_) fun b hb => ?_)⟩
        · rcases x with x | x
          · exact p3 b x z
          · exact dj b (h4 b (p4 b (.inr z))).1 (g b (.inr x))
        · rcases hb with (z | z) | z
          · exact ⟨.inl (h4 b (p4 b (.inl z))).1, (h4 b (p4 b (.inl z))).2⟩
          · exact ⟨.inr (g b (.inr z)), fun c => by subst c; exact dj _ h2 (g _ (.inr z))⟩
          · exact ⟨.inl (h4 b (p4 b (.inr z))).1, (h4 b (p4 b (.inr z))).2⟩
    · cases e
  · -- pop()
    obtain ⟨x, e1, e2⟩ := Option.map_eq_some_iff.mp e
    cases e2
    cases ha
    cases ho with
    | lst h1 h2 h3 h4 =>
      rename_i a xs G
      obtain ⟨y, Fy, G1, G2, g1, g2, g3, g4, g5, g6, g7, g8⟩ := OTs.pick h3 e1
      refine mt_pop pins s σ H _ _ vv us Q I rv ru ⟨_, _, y, rfl, rfl, h1, by rw [h3.length]; exact g1, q _ _ ⟨Fy, fun b => G1 b ∨ b = a, ?_, ?_, fun b x z => ?_, fun b hb => ?_, kp_upd h2, own_upd (fun b hb => ?_) rfl⟩⟩
      · exact OT.upd g2 h1 rfl fun z => (h4 a (g8 a (.inl z))).2 rfl
      · rw [List.dropLast_eq_take, List.dropLast_eq_take, h3.length]
        exact .relst h1 (.inr rfl) g3 fun b z => ⟨.inl z, (h4 b (g8 b (.inr (.inl z)))).2⟩
      · rcases z with z | z
        · exact g6 b x z
        · subst z; exact (h4 _ (g8 _ (.inl x))).2 rfl
      · rcases hb with z | z | z
        · exact .inl (h4 b (g8 b (.inl z))).1
        · exact .inl (h4 b (g8 b (.inr (.inl z)))).1
        · subst z; exact .inl h2
      · rcases hb with z | z | z
        · exact w b (h4 b (g8 b (.inl z))).1
        · exact w b (h4 b (g8 b (.inr (.inl z)))).1
        · subst z; exact w _ h2
  · -- pop(i)
    split at e
    · rename_i hz
      obtain ⟨n, e1, e2⟩ := Option.bind_eq_some_iff.mp e
      obtain ⟨x, e3, e4⟩ := Option.map_eq_some_iff.mp e2
      cases e4
      obtain ⟨y0, rfl, t1⟩ := ots1 ha
      cases (BT.of_int (OT.bt _ _ _ t1))
      cases ho with
      | lst h1 h2 h3 h4 =>
        rename_i a xs G
        obtain ⟨y, Fy, G1, G2, g1, g2, g3, g4, g5, g6, g7, g8⟩ := OTs.pick h3 e3
        have hat : atI xs ‹Int› = some y := at_ix (by rw [h3.length]; exact e1) g1
        obtain ⟨j, k1, k2, k3, k4, k5⟩ := atI_get hat
        have hj : j = n := by
          have e5 : ixN xs.length ‹Int› = some n := by rw [h3.length]; exact e1
          unfold ixN at e5
          by_cases c : 0 ≤ ‹Int›
          · rw [if_pos c, if_pos k5] at e5
            cases e5
            rw [seqIndex_of c k5] at k1
            exact (Option.some.inj k1).symm
          · rw [if_neg c, if_pos k4] at e5
            cases e5
            rw [seqIndex_neg (by omega) k4] at k1
            exact (Option.some.inj k1).symm
        subst hj
        refine mt_popAt pins s σ H _ _ vv us Q I rv ru ⟨_, _, _, j, y, rfl, rfl, h1, hz.1, hz.2, k1, g1, q _ _ ⟨Fy, fun b => (G1 b ∨ G2 b) ∨ b = a, ?_, ?_, fun b x z => ?_, fun b hb => ?_, kp_upd h2, own_upd (fun b hb => ?_) rfl⟩⟩
        · exact OT.upd g2 h1 rfl fun z => (h4 a (g8 a (.inl z))).2 rfl
        · rw [List.eraseIdx_eq_take_drop_succ, List.eraseIdx_eq_take_drop_succ]
          refine .relst h1 (.inr rfl) (OTs.append g3 g4 g5) fun b z => ⟨.inl z, (h4 b (g8 b (.inr z))).2⟩
        · rcases z with (z | z) | z
          · exact g6 b x z
          · exact g7 b x z
          · subst z; exact (h4 _ (g8 _ (.inl x))).2 rfl
        · rcases hb with z | z | z
          · exact .inl (h4 b (g8 b (.inl z))).1
          · exact .inl (h4 b (g8 b (.inr z))).1
          · subst z; exact .inl h2
        · rcases hb with z | z | z
          · exact w b (h4 b (g8 b (.inl z))).1
          · exact w b (h4 b (g8 b (.inr z))).1
          · subst z; exact w _ h2
    · cases e
  · exact absurd rfl hm
  · exact absurd rfl hm
  · cases e
/-- o[i] = x -/
theorem set_ok (hu : X.A.units + 1 < cLine) {v i x : V} {vv iv xv : Value} {o o' oi ox r : O} {F Fx : Fp} {Q : Hp → Prop} (I : Inv X pins σ H s) (rv : RelV v vv) (ri : RelV i iv) (rx : RelV x xv) (ho : OT X.K H v o F) (hi : BT X.K H i oi) (hx : OT X.K H x ox Fx)
    (w : OwS F H) (wx : OwS Fx H) (dj : Dj F Fx) (e : mutEv .set [oi, ox] o = some (r, o')) (q : ∀ H', MutPost X.K H v F Fx (.dat .none) o' .non H' → Q H') :
    wpAny (model X.prog X.w) X.A (setItem vv iv xv) (fun _ s' => ∃ H', Inv X pins σ H' s' ∧ Q H') X.xe s := by
  cases o with
  | dat d => simp [mutEv] at e
  | lst os =>
    simp only [mutEv] at e
    obtain ⟨j, e1, e2⟩ := Option.bind_eq_some_iff.mp e
    obtain ⟨n, e3, e4⟩ := Option.map_eq_some_iff.mp e2
    cases e4
    have := int?_eq e1
    subst this
    have := hi.of_int
    subst this
    cases ho with
    | lst h1 h2 h3 h4 =>
      rename_i a xs G
      have hn : n < os.length := by
        have e5 : ixN os.length j = some n := e3
        unfold ixN at e5
        split at e5
        · split at e5
          · cases e5; omega
          · cases e5
        · split at e5
          · cases e5; omega
          · cases e5
      obtain ⟨y, Fy, G1, G2, g1, g2, g3, g4, g5, g6, g7, g8⟩ := OTs.pick h3 (List.getElem?_eq_getElem hn)
      have t0 : OTs X.K H (xs.set n x) (os.set n ox) fun b => (G1 b ∨ Fx b) ∨ G2 b := by
        rw [List.set_eq_take_append_cons_drop, List.set_eq_take_append_cons_drop, if_pos hn, if_pos (by rw [h3.length]; exact hn)]
        have t1 := OTs.append (OTs.append g3 (OTs.one hx) (dj.mono (fun b z => (h4 b (g8 b (.inr (.inl z)))).1) fun _ z => z)) g4 fun b c z => by
          rcases c with c | c
          · exact g5 b c z
          · exact dj b (h4 b (g8 b (.inr (.inr z)))).1 c
        simpa using t1
      refine set_list pins s σ H _ _ x vv iv xv Q I rv ri rx ⟨a, xs, j, n, rfl, rfl, h1, by rw [h3.length]; exact e3, q _ (post_list (F := F) (Fa := Fx) h1 h2 w wx t0 fun b hb => ?_)⟩
      rcases hb with (z | z) | z
      · exact ⟨.inl (h4 b (g8 b (.inr (.inl z)))).1, (h4 b (g8 b (.inr (.inl z)))).2⟩
      · exact ⟨.inr z, fun c => by subst c; exact dj _ h2 z⟩
      · exact ⟨.inl (h4 b (g8 b (.inr (.inr z)))).1, (h4 b (g8 b (.inr (.inr z)))).2⟩
  | dic os =>
    simp only [mutEv] at e
    obtain ⟨k, e1, e2⟩ := Option.bind_eq_some_iff.mp e
    split at e2
    · rename_i hz
      cases e2
      have := key_of hi e1
      subst this
      cases ho with
      | dic h1 h2 h3 h4 =>
        rename_i a kvs G
        have hl : kvs.length = os.length := by have := congrArg List.length h3.keys; simpa using this
        cases rv
        refine d_setItem hu I (show DPut H a (kV k) x (upd H a (.dK (putK kvs k x))) from .k h1 (by omega)) ri rx fun s' I' => ⟨_, I', q _ ⟨F0, fun b => F b ∨ Fx b, dat_none, ?_, fun _ z _ => z, fun b hb => hb.elim False.elim id, kp_upd h2, own_upd (fun b hb => ?_) rfl⟩⟩
        · refine .redic h1 (.inl h2) (OTk.put hx h3 (dict_nodup I h1) (dj.symm.mono (fun _ z => z) fun b z => (h4 b z).1)) fun b hb => ?_
          rcases hb with z | z
          · exact ⟨.inr z, fun c => by subst c; exact dj _ h2 z⟩
          · exact ⟨.inl (h4 b z).1, (h4 b z).2⟩
        · rcases hb with z | z | z
          · exact z.elim
          · exact w b z
          · exact wx b z
    · cases e2
end
end GB

namespace GB
open PySem PySem.Spec PyProof.Rows L2

/-! ## repr of data -/
section
variable {P : Program} {w : World} {h : Heap}
/-- what repr must know of a value, of a row of values -/
structure Sh1 (P : Program) (w : World) (h : Heap) (d : PyData) (u : Value) : Prop where
  r : ∃ as, Reads h u d as
  k : ∃ bs, ReadAtMost h d.depth bs ∧ ReprK P w bs h d.depth u d.shown
structure ShA (P : Program) (w : World) (h : Heap) (ds : List PyData) (us : List Value) : Prop where
  r : ∃ as, ReadsAll h us ds as
  k : ∃ bs, ReadAtMost h (PyData.depthAll ds) bs ∧ ReprAllK P w bs h (PyData.depthAll ds) us (PyData.shownAll ds)
theorem am_nil {n : Nat} : ReadAtMost h n [] := fun _ z => nomatch z
theorem ShA.nil : ShA P w h [] [] := ⟨⟨_, .nil⟩, [], am_nil, by simp only [PyData.shownAll]; exact .nil⟩
theorem ShA.cons {d : PyData} {ds : List PyData} {u : Value} {us : List Value} (a : Sh1 P w h d u) (b : ShA P w h ds us) : ShA P w h (d :: ds) (u :: us) := by
  obtain ⟨x, hx⟩ := a.r
  obtain ⟨y, hy⟩ := b.r
  obtain ⟨p, hp, kp⟩ := a.k
  obtain ⟨q, hq, kq⟩ := b.k
  have e : PyData.depthAll (d :: ds) = max d.depth (PyData.depthAll ds) := by simp only [PyData.depthAll]
  refine ⟨⟨_, .cons hx hy⟩, p ++ q, ?_, ?_⟩
  · rw [e]; exact (hp.mono (Nat.le_max_left _ _)).append (hq.mono (Nat.le_max_right _ _))
  · rw [e]
    simp only [PyData.shownAll]
    exact .cons ((kp.more fun c hc => List.mem_append_left _ hc).level_le (Nat.le_max_left _ _)) (kq.more_le (fun c hc => List.mem_append_right _ hc) (Nat.le_max_right _ _))
theorem Sh1.int {i : Int} {t : Tok} (z : i.natAbs.log2 < 1920) : Sh1 P w h (.int i) (.int i t) := ⟨⟨_, .int i t⟩, [], am_nil, by simp only [PyData.shown]; exact .of_is (ReprIs.int t z) _ _ _⟩
theorem Sh1.str {x : Str} {t : Tok} (z : (PyData.str x).shown.length ≤ sizeLine) : Sh1 P w h (.str x) (.str x t) := ⟨⟨_, .str x t⟩, [], am_nil, by simp only [PyData.shown]; exact .of_is (ReprIs.str x t (by simpa only [PyData.shown] using z)) _ _ _⟩
theorem Sh1.key {k : Key} {u : Value} (z : (mixKind P w).is k u = true) (s : (keyD k).showable = true) (l : (keyD k).shown.length ≤ sizeLine) : Sh1 P w h (keyD k) u := by
  rcases keyIs_shape (show keyIs k u = true from z) with ⟨i, t, rfl, rfl⟩ | ⟨x, t, rfl, rfl⟩
  · exact .int (by simpa [keyD, PyData.showable] using s)
  · exact .str l
/-- the list at a -/
theorem Sh1.list {a : Addr} {o : Obj} {us : List Value} {n : Nat} {ds : List PyData} (e : h.get? a = some o) (c : o.cls = .type "list") (dd : o.data = .seq us.toArray n) (b : ShA P w h ds us) : Sh1 P w h (.list ds) (.ref a) := by
  obtain ⟨as, hr⟩ := b.r
  obtain ⟨bs, hb, kk⟩ := b.k
  have r : Reads h (.ref a) (.list ds) _ := .list e c dd hr
  have hd : PyData.depthAll ds < (PyData.list ds).depth := by simp only [PyData.depth]; omega
  refine ⟨⟨_, r⟩, a :: bs, hb.cons r (Nat.le_of_lt hd), ?_⟩
  have no := not_mem_of_deeper r hd hb
  simp only [PyData.depth, PyData.shown]
  cases us with
  | nil =>
    cases (show ReadsAll h [] ds as from hr)
    simp only [PyData.shownAll, listText_nil]
    exact .listEmpty e c dd
  | cons y us => exact .list e c dd no (by simpa using kk.length_eq) fun i z q => kk.item i z (by simpa using q)
theorem Sh1.tuple {a : Addr} {o : Obj} {us : Array Value} {n : Nat} {ds : List PyData} (e : h.get? a = some o) (c : o.cls = .type "tuple") (dd : o.data = .seq us n) (b : ShA P w h ds us.toList) : Sh1 P w h (.tuple ds) (.ref a) := by
  obtain ⟨as, hr⟩ := b.r
  obtain ⟨bs, hb, kk⟩ := b.k
  have r : Reads h (.ref a) (.tuple ds) _ := .tuple e c dd hr
  have hd : PyData.depthAll ds < (PyData.tuple ds).depth := by simp only [PyData.depth]; omega
  refine ⟨⟨_, r⟩, a :: bs, hb.cons r (Nat.le_of_lt hd), ?_⟩
  simp only [PyData.depth, PyData.shown]
  exact .tuple e c dd (not_mem_of_deeper r hd hb) kk
theorem Sh1.dict {a : Addr} {o : Obj} {es : Array DictEntry} {n : Nat} {kds : List (PyData × PyData)} (e : h.get? a = some o) (c : o.cls = .type "dict") (dd : o.data = .dict es n) (ns : (a == sysModules) = false)
    (p : ShA P w h (kds.map (·.1)) (es.toList.map (·.key))) (q : ShA P w h (kds.map (·.2)) (es.toList.map (·.val))) : Sh1 P w h (.dict kds) (.ref a) := by
  obtain ⟨as, hr⟩ := p.r
  obtain ⟨as', hr'⟩ := q.r
  obtain ⟨b1, hb1, k1⟩ := p.k
  obtain ⟨b2, hb2, k2⟩ := q.k
  have r : Reads h (.ref a) (.dict kds) _ := .dict e c dd hr hr'
  have l1 := PyData.depthAll_keys_le kds
  have l2 := PyData.depthAll_vals_le kds
  have hb := (hb1.mono l1).append (hb2.mono l2)
  have hd : PyData.depthKv kds < (PyData.dict kds).depth := by simp only [PyData.depth]; omega
  refine ⟨⟨_, r⟩, a :: (b1 ++ b2), hb.cons r (Nat.le_of_lt hd), ?_⟩
  have no := not_mem_of_deeper r hd hb
  simp only [PyData.depth, PyData.shown, PyData.shownKv_eq]
  exact .dict e c dd ns no (.of_two _ _ _ (k1.more_le (fun z hz => List.mem_append_left _ hz) l1) (k2.more_le (fun z hz => List.mem_append_right _ hz) l2))
end
section
variable {X : Cx} {pins : List (Addr × Obj)} {σ : L2.St} {H : Hp} {s : Shared}
mutual
theorem DV.sh {b : Bool} (I : Inv X pins σ H s) : ∀ (d : PyData) (v : V) (u : Value), d.showable = true → d.shown.length ≤ sizeLine → DV b X.K H v d → RelV v u → Sh1 X.prog X.w s.heap d u
  | .none, _, _, _, _, h, r => by cases h; cases r; exact ⟨⟨_, .none⟩, [], am_nil, by simp only [PyData.shown]; exact .of_is ReprIs.none _ _ _⟩
  | .bool c, _, _, _, _, h, r => by cases h; cases r; exact ⟨⟨_, .bool c⟩, [], am_nil, by simp only [PyData.shown]; exact .of_is (ReprIs.bool c) _ _ _⟩
  | .int i, _, _, p, _, h, r => by cases h; obtain ⟨t, rfl⟩ := r; exact .int (by simpa [PyData.showable] using p)
  | .str x, _, _, _, l, h, r => by cases h; obtain ⟨t, rfl⟩ := r; exact .str l
  | .list ds, _, _, p, l, h, r => by
    cases h with
    | lst hs ha =>
      rename_i a xs
      cases r
      have hs' : SqL X.K H a xs := by
        cases b with
        | true => exact (FzL.rd (K := X.K) hs).sq
        | false => exact (show RdL X.K H _ _ from hs).sq
      obtain ⟨its, rv, ⟨o, n, ho, hc, _, hd⟩, _⟩ := I.list hs'
      refine .list ho hc hd (DVs.sh I ds _ its (by simpa [PyData.showable] using p) (fun t ht => ?_) ha rv)
      simp only [PyData.shown] at l
      exact Nat.le_trans (listText_mem_le ht) l
  | .tuple ds, _, _, p, l, h, r => by
    cases h with
    | tup hs ha =>
      cases r
      obtain ⟨its, rv, ⟨o, ho, hc, n, hd⟩, _⟩ := I.tuple hs.sq
      refine .tuple ho hc hd (DVs.sh I ds _ its (by simpa [PyData.showable] using p) (fun t ht => ?_) ha rv)
      simp only [PyData.shown] at l
      exact Nat.le_trans (tupleText_mem_le ht) l
  | .dict kds, _, _, p, l, h, r => by
    cases h with
    | dic hs ha =>
      rename_i a kvs
      cases r
      have hq : Rd H a (.dK kvs) := by
        cases b with
        | true => exact .inr hs
        | false => exact hs
      have ok : ObjOk X.prog X.w H s.heap a (.dK kvs) := by
        rcases hq with z | ⟨ob, z⟩
        · exact I.hok a _ z
        · exact (I.hok a _ z).2
      obtain ⟨_, ns, vs, kv, o, es, ep, ho, ex, hd, _, pr, _⟩ := ok
      simp only [PyData.shown] at l
      have z := DVk.sh I kds kvs es.toList vs (by simpa [PyData.showable] using p) (fun t ht => Nat.le_trans (dictText_mem_le ht) l) ha kv pr
      exact .dict ho ex.1 hd ns z.1 z.2
theorem DVs.sh {b : Bool} (I : Inv X pins σ H s) : ∀ (ds : List PyData) (vs : List V) (us : List Value), PyData.showableAll ds = true → (∀ t ∈ PyData.shownAll ds, t.length ≤ sizeLine) → DVs b X.K H vs ds → Vals vs us → ShA X.prog X.w s.heap ds us
  | [], _, _, _, _, h, r => by cases h; cases r; exact .nil
  | d :: ds, _, _, p, l, h, r => by
    simp only [PyData.showableAll, Bool.and_eq_true] at p
    simp only [PyData.shownAll] at l
    cases h with
    | cons h1 h2 =>
      cases r with
      | cons r1 r2 => exact .cons (DV.sh I d _ _ p.1 (l _ List.mem_cons_self) h1 r1) (DVs.sh I ds _ _ p.2 (fun t ht => l t (List.mem_cons_of_mem _ ht)) h2 r2)
theorem DVk.sh {b : Bool} (I : Inv X pins σ H s) : ∀ (kds : List (PyData × PyData)) (kvs : List (Key × V)) (es : List DictEntry) (vs : List (Key × Value)), PyData.showableKv kds = true → (∀ t ∈ PyData.shownKv kds, t.length ≤ sizeLine) → DVk b X.K H kvs kds → KV kvs vs → Pairs (mixKind X.prog X.w) es vs →
    ShA X.prog X.w s.heap (kds.map (·.1)) (es.map (·.key)) ∧ ShA X.prog X.w s.heap (kds.map (·.2)) (es.map (·.val))
  | [], _, _, _, _, _, h, r, pr => by cases h; cases r; cases pr; exact ⟨.nil, .nil⟩
  | (_, d) :: kds, _, _, _, p, l, h, r, pr => by
    simp only [PyData.showableKv, Bool.and_eq_true] at p
    simp only [PyData.shownKv] at l
    cases h with
    | cons h1 h2 =>
      cases r with
      | cons r1 r2 =>
        cases pr with
        | cons k1 k2 k3 =>
          rename_i kk vv vs' q bs e es'
          have l0 := l _ List.mem_cons_self
          rw [strLen_append, strLen_append] at l0
          obtain ⟨z1, z2⟩ := DVk.sh I kds _ _ _ p.2 (fun t ht => l t (List.mem_cons_of_mem _ ht)) h2 r2 k3
          have e1 := r1.1
          dsimp only at e1
          rw [← e1] at k1
          refine ⟨.cons (.key k1 p.1.1 (by omega)) z1, .cons ?_ z2⟩
          have r3 := r1.2
          dsimp only at r3 ⊢
          rw [k2]
          exact DV.sh I d _ _ p.1.2 (by omega) h1 r3
end
theorem call_reprP (hg : X.A.guards = some []) (hu : X.A.units + 66 < cLine) : CallR X (.builtin "repr") (rC X.K .repr) := rC1 (fun os r h => by unfold primEv at h; split at h <;> first | exact ⟨_, rfl⟩ | (rename_i z; cases z) | cases h | simp_all) fun pins s σ H x us Q a r I rv hx he q => by
  obtain ⟨u, rfl, ru⟩ := vals1 rv
  clear rv
  have he : (if showOk a.toD then some (O.dat (.str a.toD.shown)) else none) = some r := he
  split at he
  · rename_i hz
    cases he
    simp only [showOk, Bool.and_eq_true, decide_eq_true_eq] at hz
    obtain ⟨⟨hz1, hz2⟩, hz3⟩ := hz
    have dv := BT.dv a x hx
    generalize a.toD = d at hz1 hz2 hz3 q dv
    have fin : ∀ (u : Tok) (tk : Nat), EP X pins σ Q (.str d.shown u) { s with toks := tk } := fun u tk => ⟨.str d.shown, H, I.tok _, ⟨u, rfl⟩, q _ _ (New.dat (.str _))⟩
    have finH : ∀ (h' : Heap) (u : Tok) (tk : Nat), (∀ b o, s.heap.get? b = some o → h'.get? b = some o) → EP X pins σ Q (.str d.shown u) { s with heap := h', toks := tk } := fun h' u tk kp => ⟨.str d.shown, H, I.kept kp, ⟨u, rfl⟩, q _ _ (New.dat (.str _))⟩
    have gl : X.A.in1.guards = some [] := hg
    have un : X.A.in1.units = X.A.units + 1 := rfl
    cases d with
    | none =>
      cases dv; cases ru
      have z := fin s.toks (s.toks + 1)
      simp only [PyData.shown] at z
      exact PySem.P.repr_of_none z
    | bool c =>
      cases dv; cases ru
      have z := fin s.toks (s.toks + 1)
      simp only [PyData.shown] at z
      exact PySem.P.repr_of_bool z
    | int i =>
      cases dv
      obtain ⟨t, rfl⟩ := ru
      have z := fin s.toks (s.toks + 1)
      simp only [PyData.shown] at z
      exact PySem.P.repr_of_int (by simpa [PyData.showable] using hz1) z
    | str y =>
      cases dv
      obtain ⟨t, rfl⟩ := ru
      have z := fin s.toks (s.toks + 1)
      simp only [PyData.shown] at z
      exact PySem.P.repr_of_str z (by simpa only [PyData.shown] using hz3)
    | list ds =>
      cases dv with
      | lst hs ha =>
        rename_i p xs
        cases ru
        obtain ⟨its, rr, ⟨o, n, ho, hc, _, hd⟩, _⟩ := I.list (show RdL X.K H p xs from hs).sq
        simp only [PyData.shown] at hz3 finH
        simp only [PyData.depth] at hz2
        have B := DVs.sh I ds _ its (by simpa [PyData.showable] using hz1) (fun t ht => Nat.le_trans (listText_mem_le ht) hz3) ha rr
        obtain ⟨as, hr⟩ := B.r
        obtain ⟨bs, hb, kk⟩ := B.k
        have no := not_mem_of_deeper (.list ho hc hd hr) (by simp only [PyData.depth]; omega) hb
        refine call_repr_slot (by omega) ⟨o, ho, hc⟩ F.slot_list_repr.toG ?_
        cases its with
        | nil =>
          cases (show ReadsAll s.heap [] ds as from hr)
          have z := finH s.heap s.toks (s.toks + 1) fun _ _ e => e
          simp only [PyData.shownAll, listText_nil] at z
          exact call_list_repr_empty ⟨o, ho, hc⟩ ho hd ⟨_, _, rfl, z⟩
        | cons y its => exact call_list_reprK ho hc hd no (by simpa using kk.length_eq) (fun i z q => kk.item i z (by simpa using q)) gl (fun b _ => Clear.nil b) (by omega) (fun _ _ e => e) (fun h' u tk kp => ⟨_, _, rfl, finH h' u tk kp⟩) hz3
    | tuple ds =>
      cases dv with
      | tup hs ha =>
        cases ru
        obtain ⟨its, rr, ⟨o, ho, hc, n, hd⟩, _⟩ := I.tuple hs.sq
        simp only [PyData.shown] at hz3 finH
        simp only [PyData.depth] at hz2
        have B := DVs.sh I ds _ its (by simpa [PyData.showable] using hz1) (fun t ht => Nat.le_trans (tupleText_mem_le ht) hz3) ha rr
        obtain ⟨as, hr⟩ := B.r
        obtain ⟨bs, hb, kk⟩ := B.k
        have no := not_mem_of_deeper (.tuple ho hc hd hr) (by simp only [PyData.depth]; omega) hb
        exact call_repr_slot (by omega) ⟨o, ho, hc⟩ F.slot_tuple_repr (call_tuple_reprK ho hc hd no kk gl (fun b _ => Clear.nil b) (by omega) (fun _ _ e => e) (fun h' u tk kp => ⟨_, _, rfl, finH h' u tk kp⟩) hz3)
    | dict kds =>
      cases dv with
      | dic hs ha =>
        rename_i p kvs
        cases ru
        have ok : ObjOk X.prog X.w H s.heap p (.dK kvs) := by
          rcases (show Rd H p (.dK kvs) from hs) with z | ⟨ob, z⟩
          · exact I.hok p _ z
          · exact (I.hok p _ z).2
        obtain ⟨_, ns, vs, kv, o, es, ep, ho, ex, hd, _, pr, _⟩ := ok
        simp only [PyData.shown] at hz3 finH
        simp only [PyData.depth] at hz2
        have B := DVk.sh I kds kvs es.toList vs (by simpa [PyData.showable] using hz1) (fun t ht => Nat.le_trans (dictText_mem_le ht) hz3) ha kv pr
        obtain ⟨as, hr⟩ := B.1.r
        obtain ⟨as', hr'⟩ := B.2.r
        obtain ⟨b1, hb1, k1⟩ := B.1.k
        obtain ⟨b2, hb2, k2⟩ := B.2.k
        have l1 := PyData.depthAll_keys_le kds
        have l2 := PyData.depthAll_vals_le kds
        have hb := (hb1.mono l1).append (hb2.mono l2)
        have no := not_mem_of_deeper (.dict ho ex.1 hd hr hr') (by simp only [PyData.depth]; omega) hb
        have E := ReprEntriesK.of_two _ _ _ (k1.more_le (fun z hz => List.mem_append_left b2 hz) l1) (k2.more_le (fun z hz => List.mem_append_right b1 hz) l2)
        rw [← PyData.shownKv_eq] at E
        exact call_repr_slot (by omega) ⟨o, ho, ex.1⟩ F.slot_dict_repr (call_dict_reprK ho ex.1 hd ns no E gl (fun b _ => Clear.nil b) (by omega) (fun _ _ e => e) (fun h' u tk kp => ⟨_, _, rfl, finH h' u tk kp⟩) hz3)
  · cases he
end
end GB

namespace GB
open PySem PySem.Spec PyProof.Rows L2

/-! ## enumerate over tuples -/
theorem meets_enum1 {v : Value} {o : Obj} {H : Heap → Prop} (B : Begins v o H) :
    Meets (Builtin.«enumerate.__new__» ⟨[.type "enumerate", v], []⟩) (fun _ R s => H s.heap ∧
      R (.ok (.ret (.ref (s.heap.push o).objs.size))) { s with heap := (s.heap.push o).push { cls := .type "enumerate", data := .fields #[.none, .bool false, .ref s.heap.objs.size, rawInt 0, .none, .none] } }) :=
  .of_wp fun prog w A R s hh => by
    obtain ⟨hp, gg, dd, kk, oo⟩ := s
    obtain ⟨h1, h2⟩ := hh
    have sub := sub_enumerate
    have it1 : ∀ {A' : Around} {E : Value → Shared → Prop} {Q : Value → Shared → Prop}, Q (.ref hp.objs.size) ⟨hp.push o, gg, dd, kk, oo⟩ → wpAny (model prog w) A' (pyIter v) Q E ⟨hp, gg, dd, kk, oo⟩ :=
      fun q => B.iter prog w _ _ ⟨hp, gg, dd, kk, oo⟩ _ h1 q
    wp_walk using it1
    refine wpAny_stack_any fun st => wpAny_pure ?_
    split
    · rename_i c _ _ _ _ _
      cases (c == Value.type "enumerate") <;>
      · wp_walk using it1
        exact ⟨_, rfl, h2⟩
    · wp_walk using it1
      exact ⟨_, rfl, h2⟩
section
variable {prog : Program} {w : World} {A : Around} {E : Value → Shared → Prop} {s : Shared}
theorem call_enum1 {v : Value} {o : Obj} {H : Heap → Prop} {Q : Value → Shared → Prop} (B : Begins v o H) (h1 : H s.heap)
    (h : ∀ h', IsEnum h' (s.heap.objs.size + 1) s.heap.objs.size 0 .none → h'.get? s.heap.objs.size = some o → (∀ b u, s.heap.get? b = some u → h'.get? b = some u) → Q (.ref (s.heap.objs.size + 1)) { s with heap := h' }) :
    wpAny (model prog w) A (call (.type "enumerate") [v]) Q E s := by
  have hz : (s.heap.push o).objs.size = s.heap.objs.size + 1 := Heap.size_push ..
  refine callType_new F.called_enumerate (by decide) (F.typeCall_enumerate_1 _) (F.newCall_enumerate_1 _) (fun obj => F.args_object_init_2 obj _) F.entry_enumerate_new (meets_enum1 B) ⟨h1, ?_⟩
  show _ ∧ _
  rw [hz]
  have e := Heap.get?_push_size (s.heap.push o) (o := { cls := .type "enumerate", data := .fields #[.none, .bool false, .ref s.heap.objs.size, rawInt 0, .none, .none] }) rfl
  rw [hz] at e
  exact ⟨⟨_, e, rfl⟩, h _ e (Heap.get?_push_of_some _ (Heap.get?_push_size _ B.free)) fun b u x => Heap.get?_push_of_some _ (Heap.get?_push_of_some _ x)⟩
end
/-- the tuple at a, each item in a new pair -/
def IteT (K : PySem.W.Frag) (a : Addr) : It :=
  ⟨fun i H => ∃ (xs : List V) (x : V), SqT K H a xs ∧ xs[i]? = some x, fun i H v H' => ∃ T x, v = .ref T ∧ H T = none ∧ H' = upd H T (.tup [.int (i : Nat), x]) ∧ ∀ xs, SqT K H a xs → xs[i]? = some x, fun i H => ∃ xs : List V, SqT K H a xs ∧ xs.length = i⟩
theorem turn_enumT {P : Program} {w : World} {K : PySem.W.Frag} {elts : List Expr} {kk : Nat} {tpos : Pos} (a e it : Addr) (hai : a ≠ it) :
    Turn P w K (.Tuple elts kk tpos) (IteT K a) [e, it] e (fun i h => (∃ old, IsEnum h e it ((i : Nat) : Int) old) ∧ h.IsTupleIter it a i ∧ e ≠ it ∧ e ≠ a) where
  mem := by simp
  obj := fun i h ⟨⟨old, he⟩, ⟨o, ho, hc, hd⟩, _⟩ b hb => by
    have e' : b = e ∨ b = it := by simpa using hb
    rcases e' with z | z
    · rw [z]; exact ⟨_, he, fun v q => nomatch q⟩
    · rw [z]; exact ⟨o, ho, fun v q => by rw [hd] at q; cases q⟩
  keep := fun i h h' ⟨⟨old, he⟩, hi, hne⟩ k => ⟨⟨old, k e (by simp) _ he⟩, hi.at fun o q => k it (by simp) o q, hne⟩
  item := by
    intro X hP hw hK hc i pins s σ H E I hf ⟨⟨old, he⟩, hit, hne, hea⟩ ⟨xs, x, hq, hx⟩
    subst hP hw hK
    obtain ⟨its, rv, p, hz⟩ := I.tuple hq
    obtain ⟨u, hu, ru⟩ := rv.get hx
    have hel : e < s.heap.objs.size := Heap.lt_size he
    have hil : it < s.heap.objs.size := by obtain ⟨_, q, _⟩ := hit; exact Heap.lt_size q
    have hlt : i < its.toArray.size := by
      have := (List.getElem?_eq_some_iff.mp hu).1
      simpa using this
    have D := Draws.tuple (prog := X.prog) (w := X.w) (A := X.A.in1) (show X.A.in1.handled = none from I.ok.hd hc) it a hai its.toArray
    refine wpAny_pyNext_enum_itemD D he ⟨hit, show s.heap.IsTuple a its.toArray from p⟩ hlt hne (by simp [hne, hea]) fun y h' tk hy ho st hT hsz hk => ?_
    have ey : y = u := by
      have hu' : its.toArray[i]? = some u := by simpa using hu
      rw [hu'] at hy
      exact (Option.some.inj hy).symm
    subst ey
    refine ⟨_, rfl, wpAny_letOwnedTupleGo_enum (s := { s with heap := h', toks := tk + 1 }) ho fun h'' he' sb => ?_⟩
    have hT2 : h''.get? s.heap.objs.size = some { cls := .type "tuple", data := .seq #[.int i tk, y] } := (sb.2 _ (Nat.ne_of_gt hel)).trans hT
    have new : ObjOk X.prog X.w (upd H s.heap.objs.size (.tup [.int (i : Nat), x])) h'' s.heap.objs.size (.tup [.int (i : Nat), x]) :=
      ⟨by show 2 ≤ sizeLine; decide, [.int i tk, y], .cons ⟨_, rfl⟩ (.cons ru .nil), ⟨_, hT2, rfl, _, rfl⟩⟩
    have I1 : Inv X pins σ (upd H s.heap.objs.size (.tup [.int (i : Nat), x])) { s with heap := h'', toks := tk + 1 } :=
      I.turnedNew (ch := [e, it]) (fun b ob hb q => (sb.2 b fun z => hb (by simp [z])).trans (hk b ob (fun z => hb (by simp [z])) (fun z => hb (by simp [z])) q)) hf (Nat.le_refl _) new
    refine ⟨.ref s.heap.objs.size, _, I1, rfl, ⟨_, x, rfl, I.hok.fresh (Nat.le_refl _), rfl, fun ys hy => by rw [I.tuple_inj hy hq]; exact hx⟩, ⟨⟨y, ?_⟩, st.1.at fun o q => (sb.2 it (Ne.symm hne)).trans q, hne, hea⟩, fun b hb => ?_⟩
    · have e1 : ((i + 1 : Nat) : Int) = (i : Int) + 1 := by omega
      rw [e1]; exact he'
    · have hb' : b < s.heap.objs.size := by
        have e' : b = e ∨ b = it := by simpa using hb
        rcases e' with z | z <;> rw [z] <;> assumption
      rw [upd_ne (Nat.ne_of_lt hb')]
      exact (hf b hb).1
  done := by
    intro X hP hw hK hc i pins s σ H E I hf ⟨⟨old, he⟩, hit, hne, hea⟩ ⟨xs, hq, hx⟩
    subst hP hw hK
    obtain ⟨its, rv, p, hz⟩ := I.tuple hq
    obtain ⟨f0, f1, f2, f3, f4, f5⟩ := hf it (by simp)
    have hl := rv.length
    have D := Draws.tuple (prog := X.prog) (w := X.w) (A := X.A.in1) (show X.A.in1.handled = none from I.ok.hd hc) it a hai its.toArray
    refine wpAny_pyNext_enum_endD D he (show s.heap.IsTupleIter it a its.toArray.size ∧ s.heap.IsTuple a its.toArray from ⟨?_, p⟩) fun h' eb => ⟨rfl, I.turned (t' := s.toks) (fun b o hb q => eb b o hb q) f0 f1 f3 f4 f5⟩
    have : its.toArray.size = i := by simp; omega
    rw [this]; exact hit
  self := fun A i s Q E ⟨⟨_, he⟩, _⟩ h => wpAny_pyIter_enum he h

def iEnumT (K : PySem.W.Frag) (ta : TA) : TI := fun σ H R => ta σ H fun vs H1 => ∃ a xs, vs = [.ref a] ∧ ((SqL K H1 a xs ∧ R (Ite K a) H1) ∨ (SqT K H1 a xs ∧ R (IteT K a) H1))
/-- enumerate of a list or of a tuple -/
theorem pi_enumA {X : Cx} {e : Expr} {ta : TA} {p pos tpos : Pos} {elts : List Expr} {kk : Nat} (hg : Gl X "enumerate") (hm : X.mg "enumerate" = none) (ha : PA X [e] ta) (hs : starEach [e] X.env = [(false, eval e X.env)]) :
    PI X (.Tuple elts kk tpos) (.Call (.Name "enumerate" p) [e] [] pos) (iEnumT X.K ta) := by
  refine ⟨fun pins s σ H R I h => ?_⟩
  refine Call_ (ld_blt I hg hm boot_enumerate (PyProof.Rows.callWith_type1 (thn (ha.run pos pins s σ H _ I h) fun us s1 ⟨vs, H1, I1, r1, a, xs, ex, q1⟩ => ?_) hs rfl))
  subst ex
  obtain ⟨u, rfl, r⟩ := vals1 r1
  cases r
  have fp : ∀ b ∈ [s1.heap.objs.size + 1, s1.heap.objs.size], FpOk X pins H1 b := fun b hb => by
    have e' : b = s1.heap.objs.size + 1 ∨ b = s1.heap.objs.size := by simpa using hb
    have hle : s1.heap.objs.size ≤ b := by rcases e' with z | z <;> rw [z] <;> omega
    exact I1.fpOk hle (I1.hok.fresh hle)
  rcases q1 with ⟨hq, q⟩ | ⟨hq, q⟩
  · obtain ⟨its, rv, p', hz⟩ := I1.list hq
    refine call_enumerate_list p'.isList fun h' he hit hsz hk => wpAny_pyIter_enum he ?_
    exact ⟨s1.heap.objs.size + 1, [s1.heap.objs.size + 1, s1.heap.objs.size], _, _, H1, rfl, I1.kept (t' := s1.toks) hk, turn_enum a (s1.heap.objs.size + 1) s1.heap.objs.size, ⟨⟨.none, he⟩, hit, Nat.succ_ne_self _⟩, fp, q⟩
  · obtain ⟨its, rv, p', hz⟩ := I1.tuple hq
    obtain ⟨ob, hob, _⟩ := id p'
    have hal : a < s1.heap.objs.size := Heap.lt_size hob
    refine call_enum1 (begins_tuple a its.toArray) (show s1.heap.IsTuple a its.toArray from p') fun h' he hit hk => wpAny_pyIter_enum he ?_
    exact ⟨s1.heap.objs.size + 1, [s1.heap.objs.size + 1, s1.heap.objs.size], _, _, H1, rfl, I1.kept (t' := s1.toks) hk, turn_enumT a (s1.heap.objs.size + 1) s1.heap.objs.size (Nat.ne_of_lt hal), ⟨⟨.none, he⟩, ⟨_, hit, rfl, rfl⟩, Nat.succ_ne_self _, Nat.ne_of_gt (Nat.lt_succ_of_lt hal)⟩, fp, q⟩
end GB

namespace GB
open PySem PySem.Spec PyProof.Rows L2

/-! ## 14. expressions: one rule a form -/
section
variable {X : Cx} {T : Tb} {K : PySem.W.Frag}
theorem bnd_inv {α β : Type} {m : Option (α × SO)} {f : α → SO → Option (β × SO)} {r : β × SO} (h : bnd m f = some r) : ∃ a t, m = some (a, t) ∧ f a t = some r := by
  cases m with
  | none => cases h
  | some p => exact ⟨p.1, p.2, rfl, h⟩
theorem fin_own {m : Md} {o r : O} (hm : m ≠ .tst) (h : fin m o = some r) : r = o := by
  cases m with
  | own => exact (Option.some.inj h).symm
  | bor => exact (Option.some.inj h).symm
  | tst => exact absurd rfl hm
/-- what a mode leaves of a new value -/
theorem fin_new {m : Md} {q : Bool} {H H1 H2 : Hp} {S S1 : Fp} {F0' : Fp} {v : V} {o r : O} (hm : m ≠ .tst) (h : fin m o = some r) (p : Pst q H S H1 S1 F0') (n : New K H1 v o H2) (τ : SO) (σ : L2.St) (sl : SL K H1 τ σ S1) :
    ∃ F, Pst q H S H2 S1 F ∧ SL K H2 τ σ S1 ∧ Res K H2 m v r F := by
  have e := fin_own hm h
  subst e
  obtain ⟨F, hr, hp⟩ := n.res hm
  have p2 := hp S1 p.oS
  have p3 := (p.trans p2).weak (q' := q) (fun z => by simp [z])
  exact ⟨F, p3.less (fun _ z => z) fun _ z => .inr z, sl.keep (T := F0) (fun _ z => z.elim) (fun b o' e _ => by
    by_cases hs : S1 b
    · obtain ⟨o2, e2, w2⟩ := p2.own b (.inl hs)
      rcases p2.le rfl b o' e with z | ⟨_, ob, z⟩
      · exact z
      · rw [e2] at z; cases z; simp [isOwn] at w2
    · exact p2.keep b o' e hs) (fun _ _ z => z), hr⟩
theorem ge_const {d : PyData} {v : V} {e : Expr} (he : PE X e (tC v)) (hd : ∀ H, DV true X.K H v d) {m : Md} (hm : m ≠ .tst) : PE X e (tE T X.K m (.k d)) := he.mono fun σ H Q ⟨τ, S, o, τ', w, sl, h, q⟩ => by
  obtain ⟨r, h1, h2⟩ := Option.map_eq_some_iff.mp (show (fin m (.dat d)).map (·, τ) = some (o, τ') from h)
  cases h2
  have := fin_own hm h1
  subst this
  refine q v H S F0 (.refl w) sl ?_
  cases m with
  | own => exact .dat (hd H)
  | bor => exact .dat (hd H)
  | tst => exact absurd rfl hm
/-- a name of the def -/
theorem ge_var {i : Nat} {e : Expr} (he : PE X e (tVar i)) {m : Md} (hm : m ≠ .tst) : PE X e (tE T X.K m (.v i)) := he.ghost fun σ H Q ⟨τ, S, o, τ', w, sl, h, q⟩ => by
  have h' := h
  simp only [ev] at h'
  split at h'
  · rename_i o1 e1
    obtain ⟨v, F, S1, e2, t, sl1, dj, sub⟩ := sl.take e1
    cases m with
    | bor =>
      cases h'
      refine ⟨v, e2, fun pins s I => ⟨H, I, q v H S F0 (.refl w) sl (OT.bt _ _ _ t)⟩⟩
    | tst => exact absurd rfl hm
    | own =>
      cases o1 with
      | dat d =>
        cases h'
        refine ⟨v, e2, fun pins s I => ⟨H, I, q v H S F0 (.refl w) sl ?_⟩⟩
        cases t with | dat h => exact .dat h
      | lst os =>
        cases h'
        refine ⟨v, e2, fun pins s I => ?_⟩
        have wF : OwS F H := fun b hb => w b (sub b (.inl hb))
        obtain ⟨H2, I2, dv, k, l⟩ := OT.freeze _ v F H t wF I
        refine ⟨H2, I2, q v H2 S1 F0 ⟨fun b o e n => k b o e fun z => n (sub b (.inl z)), fun b hb => ?_, fun b hb => .inl (sub b (.inr (hb.elim id False.elim))), fun _ z _ => z, fun _ => l⟩ ?_ (.dat dv)⟩
        · obtain ⟨o', e', w'⟩ := w b (sub b (.inr (hb.elim id False.elim)))
          exact ⟨o', k b o' e' fun z => dj b z (hb.elim id False.elim), w'⟩
        · have sl2 := (sl1.keep wF k dj.symm).back (F := F0) (i := i) (.dat dv) (fun _ z _ => z) e2
          rw [List.set_set] at sl2
          exact sl2.wide fun b hb => hb.elim False.elim id
      | dic os =>
        cases h'
        refine ⟨v, e2, fun pins s I => ?_⟩
        have wF : OwS F H := fun b hb => w b (sub b (.inl hb))
        obtain ⟨H2, I2, dv, k, l⟩ := OT.freeze _ v F H t wF I
        refine ⟨H2, I2, q v H2 S1 F0 ⟨fun b o e n => k b o e fun z => n (sub b (.inl z)), fun b hb => ?_, fun b hb => .inl (sub b (.inr (hb.elim id False.elim))), fun _ z _ => z, fun _ => l⟩ ?_ (.dat dv)⟩
        · obtain ⟨o', e', w'⟩ := w b (sub b (.inr (hb.elim id False.elim)))
          exact ⟨o', k b o' e' fun z => dj b z (hb.elim id False.elim), w'⟩
        · have sl2 := (sl1.keep wF k dj.symm).back (F := F0) (i := i) (.dat dv) (fun _ z _ => z) e2
          rw [List.set_set] at sl2
          exact sl2.wide fun b hb => hb.elim False.elim id
  · cases h'
/-- a constant of the module -/
theorem ge_glob {x : Str} {e : Expr} (he : ∀ d, T.gc x = some d → ∃ v, PE X e (tC v) ∧ ∀ H, DV true X.K H v d) {m : Md} (hm : m ≠ .tst) : PE X e (tE T X.K m (.g x)) := by
  cases hg : T.gc x with
  | none =>
    refine (PE.bad (X := X) (e := e)).mono fun σ H Q ⟨τ, S, o, τ', w, sl, h, q⟩ => ?_
    have h' : ((T.gc x).bind fun d => (fin m (.dat d)).map (·, τ)) = some (o, τ') := h
    rw [hg] at h'; cases h'
  | some d =>
    obtain ⟨v, h1, h2⟩ := he d hg
    refine (ge_const (T := T) h1 h2 hm).mono fun σ H Q ⟨τ, S, o, τ', w, sl, h, q⟩ => ⟨τ, S, o, τ', w, sl, ?_, q⟩
    have h' : ((T.gc x).bind fun d => (fin m (.dat d)).map (·, τ)) = some (o, τ') := h
    rw [hg] at h'
    exact h'

/-! ### the operands -/
theorem opm_ne (b : Bool) : (if b = true then Md.bor else Md.own) ≠ .tst := by cases b <;> simp
theorem evR2 {a b : Ex} {τ : SO} {os : List O} {τ' : SO} (h : evR T (.cons a (.cons b .nil)) τ = some (os, τ')) :
    ∃ x t1 y, ev T (if b.quiet = true then .bor else .own) a τ = some (x, t1) ∧ ev T .bor b t1 = some (y, τ') ∧ os = [x, y] := by
  simp only [evR, Exs.quiet, Bool.and_true, if_true] at h
  obtain ⟨x, t1, h1, h2⟩ := bnd_inv h
  obtain ⟨ys, t2, h3, h4⟩ := bnd_inv h2
  obtain ⟨y, t3, h5, h6⟩ := bnd_inv h3
  simp only [bnd_some, Option.some.injEq, Prod.mk.injEq] at h6 h4
  obtain ⟨e1, e2⟩ := h6
  obtain ⟨e3, e4⟩ := h4
  subst e1 e2 e3 e4
  exact ⟨x, t1, y, h1, h5, rfl⟩
theorem evR1 {a : Ex} {τ : SO} {os : List O} {τ' : SO} (h : evR T (.cons a .nil) τ = some (os, τ')) : ∃ x, ev T .bor a τ = some (x, τ') ∧ os = [x] := by
  simp only [evR, Exs.quiet, if_true] at h
  obtain ⟨x, t1, h1, h2⟩ := bnd_inv h
  simp only [bnd_some, Option.some.injEq, Prod.mk.injEq] at h2
  obtain ⟨e1, e2⟩ := h2
  subst e1 e2
  exact ⟨x, h1, rfl⟩
/-- two operands, then P of the values -/
theorem two_ops {a b : Ex} {σ : L2.St} {H : Hp} {R : V → V → Hp → Prop} {τ τ' t1 : SO} {S : Fp} {x y : O} (w : OwS S H) (sl : SL K H τ σ S) (h1 : ev T (if b.quiet = true then .bor else .own) a τ = some (x, t1)) (h2 : ev T .bor b t1 = some (y, τ'))
    (k : ∀ u v H2 S2, Pst (a.quiet && b.quiet) H S H2 S2 F0 → SL K H2 τ' σ S2 → BT K H2 u x → BT K H2 v y → R u v H2) : tE T K (if b.quiet = true then .bor else .own) a σ H fun u H1 => tE T K .bor b σ H1 fun v H2 => R u v H2 := by
  refine ⟨τ, S, x, t1, w, sl, h1, fun u H1 S1 F1 p1 sl1 r1 => ⟨t1, S1, y, τ', p1.oS, sl1, h2, fun v H2 S2 F2 p2 sl2 r2 => ?_⟩⟩
  exact k u v H2 S2 ((p1.trans p2).less (fun _ z => z) fun _ z => z.elim) sl2 (res_wait r1 p1 p2) r2
theorem ge_bin {op : Operator} {p : Prim} {a b : Expr} {xa xb : Ex} {pos : Pos} (ho : OpR X (binaryOp op) (rP X.K p)) (ha : ∀ m, m ≠ .tst → PE X a (tE T X.K m xa)) (hb : ∀ m, m ≠ .tst → PE X b (tE T X.K m xb)) {m : Md} (hm : m ≠ .tst) :
    PE X (.BinOp a op b pos) (tE T X.K m (.pr p (.cons xa (.cons xb .nil)))) := (pe_op ho (ha _ (opm_ne xb.quiet)) (hb .bor (by simp))).mono fun σ H Q ⟨τ, S, o, τ', w, sl, h, q⟩ => by
  obtain ⟨os, t2, h1, h2⟩ := bnd_inv (show bnd (evR T _ τ) (fun os t1 => (primEv p os).bind fun o => (fin m o).map (·, t1)) = some (o, τ') from h)
  obtain ⟨r, h3, h4⟩ := Option.bind_eq_some_iff.mp h2
  obtain ⟨r', h5, h6⟩ := Option.map_eq_some_iff.mp h4
  cases h6
  obtain ⟨x, t1, y, e1, e2, rfl⟩ := evR2 h1
  refine two_ops w sl e1 e2 fun u v H2 S2 p2 sl2 b1 b2 => ⟨x, y, r, b1, b2, h3, fun z H' n => ?_⟩
  obtain ⟨F, p3, sl3, rs⟩ := fin_new hm h5 p2 n τ' σ sl2
  exact q z H' S2 F (p3.weak (fun z => by simpa [Ex.quiet, Exs.quiet] using z)) sl3 rs
theorem ge_cmp {op : CmpOp} {p : Prim} {a b : Expr} {xa xb : Ex} {pos : Pos} (ho : OpR X (compareOp op) (rP X.K p)) (hb' : behindInMarks op b = false) (ha : ∀ m, m ≠ .tst → PE X a (tE T X.K m xa)) (hb : ∀ m, m ≠ .tst → PE X b (tE T X.K m xb)) {m : Md} (hm : m ≠ .tst) :
    PE X (.Compare a [op] [b] pos) (tE T X.K m (.pr p (.cons xa (.cons xb .nil)))) := (pe_cmpR ho (ha _ (opm_ne xb.quiet)) (hb .bor (by simp)) hb').mono fun σ H Q ⟨τ, S, o, τ', w, sl, h, q⟩ => by
  obtain ⟨os, t2, h1, h2⟩ := bnd_inv (show bnd (evR T _ τ) (fun os t1 => (primEv p os).bind fun o => (fin m o).map (·, t1)) = some (o, τ') from h)
  obtain ⟨r, h3, h4⟩ := Option.bind_eq_some_iff.mp h2
  obtain ⟨r', h5, h6⟩ := Option.map_eq_some_iff.mp h4
  cases h6
  obtain ⟨x, t1, y, e1, e2, rfl⟩ := evR2 h1
  refine two_ops w sl e1 e2 fun u v H2 S2 p2 sl2 b1 b2 => ⟨x, y, r, b1, b2, h3, fun z H' n => ?_⟩
  obtain ⟨F, p3, sl3, rs⟩ := fin_new hm h5 p2 n τ' σ sl2
  exact q z H' S2 F (p3.weak (fun z => by simpa [Ex.quiet, Exs.quiet] using z)) sl3 rs
/-- a comparison as a test -/
theorem gt_cmp {op : CmpOp} {p : Prim} {a b : Expr} {xa xb : Ex} {pos : Pos} (ho : OpR X (compareOp op) (rP X.K p)) (hb' : behindInMarks op b = false) (hbool : ∀ os r, primEv p os = some r → ∃ c, r = oB c) (ha : ∀ m, m ≠ .tst → PE X a (tE T X.K m xa)) (hb : ∀ m, m ≠ .tst → PE X b (tE T X.K m xb)) :
    PT X (.Compare a [op] [b] pos) (tT T X.K (.pr p (.cons xa (.cons xb .nil)))) := (pt_cmpR ho (ha _ (opm_ne xb.quiet)) (hb .bor (by simp)) hb').mono fun σ H Q ⟨τ, S, c, τ', w, sl, h, q⟩ => by
  obtain ⟨os, t2, h1, h2⟩ := bnd_inv (show bnd (evR T _ τ) (fun os t1 => (primEv p os).bind fun o => (fin .tst o).map (·, t1)) = some (oB c, τ') from h)
  obtain ⟨r, h3, h4⟩ := Option.bind_eq_some_iff.mp h2
  obtain ⟨r', h5, h6⟩ := Option.map_eq_some_iff.mp h4
  cases h6
  obtain ⟨d, rfl⟩ := hbool _ _ h3
  have hd : d = c := by
    obtain ⟨z, e1, e2⟩ := Option.map_eq_some_iff.mp (show (truO (oB d)).map oB = some (oB c) from h5)
    cases e1; cases e2; rfl
  subst hd
  obtain ⟨x, t1, y, e1, e2, rfl⟩ := evR2 h1
  refine two_ops w sl e1 e2 fun u v H2 S2 p2 sl2 b1 b2 => ⟨x, y, _, b1, b2, h3, fun z H' n => ?_⟩
  obtain ⟨F, p3, sl3, rs⟩ := fin_new (m := .own) (by simp) rfl p2 n τ' σ sl2
  have hz : z = .bl d := by cases rs with | dat h => cases h; rfl
  subst hz
  exact ⟨d, rfl, q H' S2 ((p3.weak (fun z => by simpa [Ex.quiet, Exs.quiet] using z)).less (fun _ z => z) fun _ z => z.elim) sl3⟩
theorem ge_un {op : UnaryOp} {p : Prim} {a : Expr} {xa : Ex} {pos : Pos} (ho : UnR X (unaryOp op) (rP1 X.K p)) (ha : ∀ m, m ≠ .tst → PE X a (tE T X.K m xa)) {m : Md} (hm : m ≠ .tst) :
    PE X (.UnaryOp op a pos) (tE T X.K m (.pr p (.cons xa .nil))) := (pe_un ho (ha .bor (by simp))).mono fun σ H Q ⟨τ, S, o, τ', w, sl, h, q⟩ => by
  obtain ⟨os, t2, h1, h2⟩ := bnd_inv (show bnd (evR T _ τ) (fun os t1 => (primEv p os).bind fun o => (fin m o).map (·, t1)) = some (o, τ') from h)
  obtain ⟨r, h3, h4⟩ := Option.bind_eq_some_iff.mp h2
  obtain ⟨r', h5, h6⟩ := Option.map_eq_some_iff.mp h4
  cases h6
  obtain ⟨x, e1, rfl⟩ := evR1 h1
  refine ⟨τ, S, x, τ', w, sl, e1, fun u H1 S1 F1 p1 sl1 r1 => ⟨x, r, r1, h3, fun z H' n => ?_⟩⟩
  obtain ⟨F, p3, sl3, rs⟩ := fin_new hm h5 (p1.less (fun _ z => z) fun b (z : F0 b) => z.elim) n τ' σ sl1
  exact q z H' S1 F (p3.weak (fun z => by simpa [Ex.quiet, Exs.quiet] using z)) sl3 rs
/-- an expression whose test is its value's truth -/
theorem gt_plain {e : Expr} {x : Ex} (he : ∀ m, m ≠ .tst → PE X e (tE T X.K m x)) (hs : ∀ whole, isTrue e X.env whole = (do let v ← whole; standAt e.pos; holding [v] (truthy v)))
    (hx : ∀ τ b τ', ev T .tst x τ = some (oB b, τ') → ∃ o, ev T .bor x τ = some (o, τ') ∧ truO o = some b) : PT X e (tT T X.K x) := (pt_truth (he .bor (by simp)) hs).mono fun σ H Q ⟨τ, S, b, τ', w, sl, h, q⟩ => by
  obtain ⟨o, h1, h2⟩ := hx τ b τ' h
  exact ⟨τ, S, o, τ', w, sl, h1, fun v H' S' F p sl' r => ⟨b, tru_of r h2, q H' S' (p.less (fun _ z => z) fun _ z => z.elim) sl'⟩⟩
end
end GB

namespace GB
open PySem PySem.Spec PyProof.Rows L2

/-! ## 15. logic, chains, items -/
section
variable {X : Cx} {T : Tb} {K : PySem.W.Frag}
theorem star_plain {e : Expr} (h : notStar e = true) (es : List Expr) (env : Env) : starEach (e :: es) env = (false, eval e env) :: starEach es env := by
  cases e <;> first | rfl | cases h
theorem of_own {e : Expr} {x : Ex} (hx : ∀ τ, ev T .bor x τ = ev T .own x τ) (h : PE X e (tE T X.K .own x)) {m : Md} (hm : m ≠ .tst) : PE X e (tE T X.K m x) := by
  cases m with
  | own => exact h
  | bor => exact h.mono fun σ H Q ⟨τ, S, o, τ', w, sl, he, q⟩ => ⟨τ, S, o, τ', w, sl, (hx τ) ▸ he, fun v H' S' F p sl' r => q v H' S' F p sl' (OT.bt _ _ _ r)⟩
  | tst => exact absurd rfl hm
theorem ge_bad {e : Expr} {m : Md} : PE X e (tE T X.K m .bad) := PE.bad.mono fun σ H Q ⟨τ, S, o, τ', w, sl, h, q⟩ => by
  simp only [ev] at h; cases h
theorem gt_bad {e : Expr} : PT X e (tT T X.K .bad) := PT.bad.mono fun σ H Q ⟨τ, S, o, τ', w, sl, h, q⟩ => by
  simp only [ev] at h; cases h
theorem bl_of {H : Hp} {v : V} {F : Fp} {c : Bool} (h : OT K H v (.dat (.bool c)) F) : v = .bl c := by
  cases h with | dat h => cases h; rfl
theorem ge_and {a b : Expr} {rest : List Expr} {pos : Pos} {xa xb : Ex} (ha : PE X a (tE T X.K .own xa)) (hb : PE X (.BoolOp .And (b :: rest) pos) (tE T X.K .own xb)) {m : Md} (hm : m ≠ .tst) :
    PE X (.BoolOp .And (a :: b :: rest) pos) (tE T X.K m (.and xa xb)) := of_own (fun _ => by simp only [ev]) ((pe_and ha hb).mono fun σ H Q ⟨τ, S, o, τ', w, sl, h, q⟩ => by
  simp only [ev] at h
  obtain ⟨x, t1, h1, h2⟩ := bnd_inv h
  refine ⟨τ, S, x, t1, w, sl, h1, fun v H1 S1 F1 p1 sl1 r1 => ?_⟩
  split at h2
  · rename_i e
    rw [bool?_eq e] at r1
    refine ⟨true, bl_of r1, ?_⟩
    rw [if_pos rfl]
    exact ⟨t1, S1, o, τ', p1.oS, sl1, h2, fun u H2 S2 F2 p2 sl2 r2 => q u H2 S2 F2 (((p1.trans p2).less (fun _ z => z) fun _ z => .inr z).weak fun z => z) sl2 r2⟩
  · rename_i e
    rw [bool?_eq e] at r1
    cases h2
    refine ⟨false, bl_of r1, ?_⟩
    rw [if_neg (by decide)]
    exact q _ H1 S1 F0 ((p1.less (fun _ z => z) fun b (z : F0 b) => z.elim).weak fun z => by simp only [Ex.quiet, Bool.and_eq_true] at z; exact z.1) sl1 (.dat (.bl false))
  · cases h2) hm
theorem ge_or {a b : Expr} {rest : List Expr} {pos : Pos} {xa xb : Ex} (ha : PE X a (tE T X.K .own xa)) (hb : PE X (.BoolOp .Or (b :: rest) pos) (tE T X.K .own xb)) {m : Md} (hm : m ≠ .tst) :
    PE X (.BoolOp .Or (a :: b :: rest) pos) (tE T X.K m (.or xa xb)) := of_own (fun _ => by simp only [ev]) ((pe_or ha hb).mono fun σ H Q ⟨τ, S, o, τ', w, sl, h, q⟩ => by
  simp only [ev] at h
  obtain ⟨x, t1, h1, h2⟩ := bnd_inv h
  refine ⟨τ, S, x, t1, w, sl, h1, fun v H1 S1 F1 p1 sl1 r1 => ?_⟩
  split at h2
  · rename_i e
    rw [bool?_eq e] at r1
    obtain ⟨rfl, rfl⟩ : oB true = o ∧ t1 = τ' := by simpa using h2
    refine ⟨true, bl_of r1, ?_⟩
    rw [if_pos rfl]
    exact q _ H1 S1 F0 ((p1.less (fun _ z => z) fun b (z : F0 b) => z.elim).weak fun z => by simp only [Ex.quiet, Bool.and_eq_true] at z; exact z.1) sl1 (.dat (.bl true))
  · rename_i e
    rw [bool?_eq e] at r1
    refine ⟨false, bl_of r1, ?_⟩
    rw [if_neg (by decide)]
    exact ⟨t1, S1, o, τ', p1.oS, sl1, h2, fun u H2 S2 F2 p2 sl2 r2 => q u H2 S2 F2 (((p1.trans p2).less (fun _ z => z) fun _ z => .inr z).weak fun z => z) sl2 r2⟩
  · cases h2) hm
theorem ge_not {a : Expr} {pos : Pos} {xa : Ex} (ha : PE X a (tE T X.K .own xa)) {m : Md} (hm : m ≠ .tst) :
    PE X (.UnaryOp .Not a pos) (tE T X.K m (.not xa)) := of_own (fun _ => by simp only [ev]) ((pe_not ha).mono fun σ H Q ⟨τ, S, o, τ', w, sl, h, q⟩ => by
  simp only [ev] at h
  obtain ⟨x, t1, h1, h2⟩ := bnd_inv h
  obtain ⟨c, e, h3⟩ := Option.map_eq_some_iff.mp h2
  cases h3
  refine ⟨τ, S, x, _, w, sl, h1, fun v H1 S1 F1 p1 sl1 r1 => ?_⟩
  rw [bool?_eq e] at r1
  exact ⟨c, bl_of r1, q _ H1 S1 F0 (p1.less (fun _ z => z) fun b (z : F0 b) => z.elim) sl1 (.dat (.bl _))⟩) hm
theorem fin_bool {o r : O} (h : fin .tst o = some r) : ∃ c, r = oB c := by
  obtain ⟨c, _, e⟩ := Option.map_eq_some_iff.mp (show (truO o).map oB = some r from h)
  exact ⟨c, e.symm⟩
theorem lft_bool {o r : O} {t τ : SO} (h : (fin .tst o).map (·, t) = some (r, τ)) : ∃ c, r = oB c := by
  obtain ⟨r', h1, h2⟩ := Option.map_eq_some_iff.mp h
  cases h2
  exact fin_bool h1
/-- what a test tells is a bool -/
theorem tst_bool : ∀ (x : Ex) {τ τ' : SO} {r : O}, ev T .tst x τ = some (r, τ') → ∃ c, r = oB c
  | .k d, _, _, _, h => by simp only [ev] at h; exact lft_bool h
  | .v i, _, _, _, h => by
    simp only [ev] at h
    split at h
    · obtain ⟨c, _, e⟩ := Option.map_eq_some_iff.mp h
      cases e; exact ⟨c, rfl⟩
    · cases h
  | .g x, _, _, _, h => by
    simp only [ev] at h
    obtain ⟨d, _, h⟩ := Option.bind_eq_some_iff.mp h
    exact lft_bool h
  | .and a b, _, _, _, h => by
    simp only [ev] at h
    obtain ⟨x, t1, h1, h2⟩ := bnd_inv h
    split at h2
    · exact tst_bool b h2
    · cases h2; exact ⟨_, rfl⟩
  | .or a b, _, _, _, h => by
    simp only [ev] at h
    obtain ⟨x, t1, h1, h2⟩ := bnd_inv h
    split at h2
    · cases h2; exact ⟨_, rfl⟩
    · exact tst_bool b h2
  | .not a, _, _, _, h => by
    simp only [ev] at h
    obtain ⟨x, t1, h1, h2⟩ := bnd_inv h
    split at h2 <;> (cases h2; exact ⟨_, rfl⟩)
  | .ife c a b, _, _, _, h => by
    simp only [ev, if_true] at h
    obtain ⟨x, t1, h1, h2⟩ := bnd_inv h
    split at h2
    · exact tst_bool a h2
    · exact tst_bool b h2
  | .chain p q a b c, _, _, _, h => by
    simp only [ev] at h
    obtain ⟨x, t1, h1, h2⟩ := bnd_inv h
    obtain ⟨y, t2, h3, h4⟩ := bnd_inv h2
    split at h4
    · obtain ⟨z, t3, h5, h6⟩ := bnd_inv h4
      obtain ⟨w, _, h7⟩ := Option.map_eq_some_iff.mp h6
      cases h7; exact ⟨_, rfl⟩
    · cases h4; exact ⟨_, rfl⟩
    · cases h4
  | .pr p as, _, _, _, h => by
    simp only [ev] at h
    obtain ⟨x, t1, h1, h2⟩ := bnd_inv h
    obtain ⟨o, _, h3⟩ := Option.bind_eq_some_iff.mp h2
    exact lft_bool h3
  | .ix a i, _, _, _, h => by
    simp only [ev] at h
    obtain ⟨x, t1, h1, h2⟩ := bnd_inv h
    obtain ⟨y, t2, h3, h4⟩ := bnd_inv h2
    obtain ⟨o, _, h5⟩ := Option.bind_eq_some_iff.mp h4
    obtain ⟨c, _, e⟩ := Option.map_eq_some_iff.mp h5
    cases e; exact ⟨c, rfl⟩
  | .call f io as, _, _, _, h => by
    simp only [ev] at h
    obtain ⟨x, t1, h1, h2⟩ := bnd_inv h
    obtain ⟨o, _, h3⟩ := Option.bind_eq_some_iff.mp h2
    obtain ⟨o, _, h3⟩ := Option.bind_eq_some_iff.mp h3
    obtain ⟨o, _, h3⟩ := Option.bind_eq_some_iff.mp h3
    exact lft_bool h3
  | .callk f pm as, _, _, _, h => by
    simp only [ev] at h
    obtain ⟨x, t1, h1, h2⟩ := bnd_inv h
    split at h2
    · obtain ⟨o, _, h3⟩ := Option.bind_eq_some_iff.mp h2
      split at h3
      · exact lft_bool h3
      · cases h3
    · cases h2
  | .mut mt i ks as, _, _, _, h => by
    simp only [ev] at h
    split at h
    · obtain ⟨o, _, h2⟩ := Option.bind_eq_some_iff.mp h
      obtain ⟨o, _, h3⟩ := Option.bind_eq_some_iff.mp h2
      split at h3
      · obtain ⟨x, t1, h1, h4⟩ := bnd_inv h3
        split at h4
        · obtain ⟨o, _, h5⟩ := Option.bind_eq_some_iff.mp h4
          exact lft_bool h5
        · cases h4
      · cases h3
    · cases h
  | .tup as, _, _, _, h => by
    simp only [ev] at h
    obtain ⟨x, t1, h1, h2⟩ := bnd_inv h
    split at h2
    · exact lft_bool h2
    · cases h2
  | .lst as, _, _, _, h => by
    simp only [ev] at h
    obtain ⟨x, t1, h1, h2⟩ := bnd_inv h
    split at h2
    · exact lft_bool h2
    · cases h2
  | .dic ks as, _, _, _, h => by
    simp only [ev] at h
    obtain ⟨x, t1, h1, h2⟩ := bnd_inv h
    split at h2
    · exact lft_bool h2
    · cases h2
  | .lc e tg ik it c own, _, _, _, h => by
    simp only [ev] at h
    obtain ⟨x, t1, h1, h2⟩ := bnd_inv h
    obtain ⟨o, _, h3⟩ := Option.bind_eq_some_iff.mp h2
    obtain ⟨x, t1, h1, h4⟩ := bnd_inv h3
    split at h4
    · exact lft_bool h4
    · cases h4
  | .bad, _, _, _, h => by simp only [ev] at h; cases h
theorem gw_and {a b : Expr} {rest : List Expr} {pos : Pos} {xa xb : Ex} (ha : PT X a (tT T X.K xa)) (hb : PW X (.BoolOp .And (b :: rest) pos) (tT T X.K xb)) : PW X (.BoolOp .And (a :: b :: rest) pos) (tT T X.K (.and xa xb)) := by
  have h := pw_and ha hb
  refine ⟨fun wh pins s σ H Q I ⟨τ, S, o, τ', w, sl, he, q⟩ => h.run wh pins s σ H Q I ?_⟩
  simp only [ev] at he
  obtain ⟨x, t1, h1, h2⟩ := bnd_inv he
  cases ex : x.bool? with
  | none =>
    exfalso
    obtain ⟨c, rfl⟩ := tst_bool _ h1
    cases ex
  | some c =>
    have := bool?_eq ex
    subst this
    refine ⟨τ, S, c, t1, w, sl, h1, fun H1 S1 p1 sl1 => ?_⟩
    cases c with
    | true =>
      rw [if_pos (by rfl)] at h2
      show tT T X.K xb σ H1 Q
      exact ⟨t1, S1, o, τ', p1.oS, sl1, h2, fun H2 S2 p2 sl2 => q H2 S2 (((p1.trans p2).less (fun _ z => z) fun _ z => .inr z).weak fun z => z) sl2⟩
    | false =>
      rw [if_neg (by simp [O.bool?])] at h2
      cases h2
      show Q false H1
      exact q H1 S1 (p1.weak fun z => by simp only [Ex.quiet, Bool.and_eq_true] at z; exact z.1) sl1

theorem gw_or {a b : Expr} {rest : List Expr} {pos : Pos} {xa xb : Ex} (ha : PT X a (tT T X.K xa)) (hb : PW X (.BoolOp .Or (b :: rest) pos) (tT T X.K xb)) : PW X (.BoolOp .Or (a :: b :: rest) pos) (tT T X.K (.or xa xb)) := by
  have h := pw_or ha hb
  refine ⟨fun wh pins s σ H Q I ⟨τ, S, o, τ', w, sl, he, q⟩ => h.run wh pins s σ H Q I ?_⟩
  simp only [ev] at he
  obtain ⟨x, t1, h1, h2⟩ := bnd_inv he
  obtain ⟨c, rfl⟩ := tst_bool _ h1
  refine ⟨τ, S, c, t1, w, sl, h1, fun H1 S1 p1 sl1 => ?_⟩
  cases c with
  | false =>
    rw [if_neg (by simp [O.bool?])] at h2
    show tT T X.K xb σ H1 Q
    exact ⟨t1, S1, o, τ', p1.oS, sl1, h2, fun H2 S2 p2 sl2 => q H2 S2 (((p1.trans p2).less (fun _ z => z) fun _ z => .inr z).weak fun z => z) sl2⟩
  | true =>
    rw [if_pos (by rfl)] at h2
    cases h2
    show Q true H1
    exact q H1 S1 (p1.weak fun z => by simp only [Ex.quiet, Bool.and_eq_true] at z; exact z.1) sl1
theorem gt_not {a : Expr} {pos : Pos} {xa : Ex} (ha : PT X a (tT T X.K xa)) : PT X (.UnaryOp .Not a pos) (tT T X.K (.not xa)) := (pt_not ha).mono fun σ H Q ⟨τ, S, o, τ', w, sl, h, q⟩ => by
  simp only [ev] at h
  obtain ⟨x, t1, h1, h2⟩ := bnd_inv h
  obtain ⟨c, rfl⟩ := tst_bool _ h1
  refine ⟨τ, S, c, t1, w, sl, h1, fun H1 S1 p1 sl1 => ?_⟩
  cases c with
  | true => rw [if_pos (by rfl)] at h2; cases h2; exact q H1 S1 p1 sl1
  | false => rw [if_neg (by simp [O.bool?])] at h2; cases h2; exact q H1 S1 p1 sl1
/-- c, then a or b -/
theorem ge_ife {c a b : Expr} {pos : Pos} {xc xa xb : Ex} (hc : PT X c (tT T X.K xc)) (ha : PE X a (tE T X.K .own xa)) (hb : PE X b (tE T X.K .own xb)) {m : Md} (hm : m ≠ .tst) : PE X (.IfExp c a b pos) (tE T X.K m (.ife xc xa xb)) :=
  of_own (fun _ => by simp [ev]) ((pe_ifExp hc ha hb).mono fun σ H Q ⟨τ, S, o, τ', w, sl, h, q⟩ => by
  simp only [ev] at h
  obtain ⟨x, t1, h1, h2⟩ := bnd_inv h
  obtain ⟨d, rfl⟩ := tst_bool _ h1
  refine ⟨τ, S, d, t1, w, sl, h1, fun H1 S1 p1 sl1 => ?_⟩
  cases d with
  | true =>
    rw [if_pos (by rfl), if_neg (by simp)] at h2
    show tE T X.K .own xa σ H1 Q
    exact ⟨t1, S1, o, τ', p1.oS, sl1, h2, fun v H2 S2 F2 p2 sl2 r2 => q v H2 S2 F2 (((p1.trans p2).less (fun _ z => z) fun _ z => .inr z).weak fun z => by simp only [Ex.quiet, Bool.and_eq_true] at z; simp [z]) sl2 r2⟩
  | false =>
    rw [if_neg (by simp [O.bool?]), if_neg (by simp)] at h2
    show tE T X.K .own xb σ H1 Q
    exact ⟨t1, S1, o, τ', p1.oS, sl1, h2, fun v H2 S2 F2 p2 sl2 r2 => q v H2 S2 F2 (((p1.trans p2).less (fun _ z => z) fun _ z => .inr z).weak fun z => by simp only [Ex.quiet, Bool.and_eq_true] at z; simp [z]) sl2 r2⟩) hm
theorem pt_ifExp {c a b : Expr} {pos : Pos} {tc ta tb : TT} (hc : PT X c tc) (ha : PT X a ta) (hb : PT X b tb) : PT X (.IfExp c a b pos) (fun σ H Q => tc σ H fun d H1 => if d = true then ta σ H1 Q else tb σ H1 Q) := by
  refine ⟨fun pins s σ H Q I h => ?_⟩
  have e : ∀ w, isTrue (.IfExp c a b pos) X.env w = (isTrue c X.env (eval c X.env) >>= fun t => if t = true then isTrue a X.env (eval a X.env) else isTrue b X.env (eval b X.env)) := fun w => by
    first | rfl | (rw [isTrue])
  rw [e]
  refine wpAny_bind (thn (hc.run pins s σ H _ I h) fun d s1 ⟨H1, I1, q1⟩ => ?_)
  cases d with
  | true => rw [if_pos rfl]; exact ha.run pins s1 σ H1 Q I1 q1
  | false => rw [if_neg (by decide)]; exact hb.run pins s1 σ H1 Q I1 q1
theorem gt_ife {c a b : Expr} {pos : Pos} {xc xa xb : Ex} (hc : PT X c (tT T X.K xc)) (ha : PT X a (tT T X.K xa)) (hb : PT X b (tT T X.K xb)) : PT X (.IfExp c a b pos) (tT T X.K (.ife xc xa xb)) :=
  (pt_ifExp hc ha hb).mono fun σ H Q ⟨τ, S, o, τ', w, sl, h, q⟩ => by
  simp only [ev] at h
  obtain ⟨x, t1, h1, h2⟩ := bnd_inv h
  obtain ⟨d, rfl⟩ := tst_bool _ h1
  refine ⟨τ, S, d, t1, w, sl, h1, fun H1 S1 p1 sl1 => ?_⟩
  cases d with
  | true =>
    rw [if_pos (by rfl), if_pos trivial] at h2
    show tT T X.K xa σ H1 Q
    exact ⟨t1, S1, o, τ', p1.oS, sl1, h2, fun H2 S2 p2 sl2 => q H2 S2 (((p1.trans p2).less (fun _ z => z) fun _ z => .inr z).weak fun z => by simp only [Ex.quiet, Bool.and_eq_true] at z; simp [z]) sl2⟩
  | false =>
    rw [if_neg (by simp [O.bool?]), if_pos trivial] at h2
    show tT T X.K xb σ H1 Q
    exact ⟨t1, S1, o, τ', p1.oS, sl1, h2, fun H2 S2 p2 sl2 => q H2 S2 (((p1.trans p2).less (fun _ z => z) fun _ z => .inr z).weak fun z => by simp only [Ex.quiet, Bool.and_eq_true] at z; simp [z]) sl2⟩

/-! ### is None -/
def isNoneO : O → Bool
  | .dat .none => true
  | _ => false
theorem none_of {H : Hp} {v : V} {o : O} (h : BT K H v o) : decide (v = .non) = isNoneO o := by
  cases h with
  | dat h => cases h <;> simp [isNoneO]
  | lst _ _ => simp [isNoneO]
  | dic _ _ => simp [isNoneO]
theorem ge_isN {a : Expr} {xa : Ex} {k : Nat} {p2 pos : Pos} (ha : PE X a (tE T X.K .bor xa)) {m : Md} (hm : m ≠ .tst) : PE X (.Compare a [.Is] [.Constant .none k p2] pos) (tE T X.K m (.pr .isN (.cons xa .nil))) :=
  (pe_cmp (pc_isN ha) (nobehind _ (by decide) (by decide))).mono fun σ H Q ⟨τ, S, o, τ', w, sl, h, q⟩ => by
  obtain ⟨os, t2, h1, h2⟩ := bnd_inv (show bnd (evR T _ τ) (fun os t1 => (primEv .isN os).bind fun o => (fin m o).map (·, t1)) = some (o, τ') from h)
  obtain ⟨r, h3, h4⟩ := Option.bind_eq_some_iff.mp h2
  obtain ⟨r', h5, h6⟩ := Option.map_eq_some_iff.mp h4
  cases h6
  obtain ⟨x, e1, rfl⟩ := evR1 h1
  cases h3
  refine ⟨τ, S, x, τ', w, sl, e1, fun u H1 S1 F1 p1 sl1 r1 => ?_⟩
  have e := fin_own hm h5
  subst e
  show Q (.bl (decide (u = .non))) H1
  rw [none_of r1]
  refine q _ H1 S1 F0 ((p1.less (fun _ z => z) fun b (z : F0 b) => z.elim).weak fun z => by simpa [Ex.quiet, Exs.quiet] using z) sl1 ?_
  cases m with
  | own => exact .dat (.bl _)
  | bor => exact .dat (.bl _)
  | tst => exact absurd rfl hm
theorem ge_notN {a : Expr} {xa : Ex} {k : Nat} {p2 pos : Pos} (ha : PE X a (tE T X.K .bor xa)) {m : Md} (hm : m ≠ .tst) : PE X (.Compare a [.IsNot] [.Constant .none k p2] pos) (tE T X.K m (.pr .notN (.cons xa .nil))) :=
  (pe_cmp (pc_notN ha) (nobehind _ (by decide) (by decide))).mono fun σ H Q ⟨τ, S, o, τ', w, sl, h, q⟩ => by
  obtain ⟨os, t2, h1, h2⟩ := bnd_inv (show bnd (evR T _ τ) (fun os t1 => (primEv .notN os).bind fun o => (fin m o).map (·, t1)) = some (o, τ') from h)
  obtain ⟨r, h3, h4⟩ := Option.bind_eq_some_iff.mp h2
  obtain ⟨r', h5, h6⟩ := Option.map_eq_some_iff.mp h4
  cases h6
  obtain ⟨x, e1, rfl⟩ := evR1 h1
  have e3 : r = oB (!isNoneO x) := by
    have : primEv .notN [x] = some (oB (!isNoneO x)) := by
      unfold primEv isNoneO
      cases x with
      | dat d => cases d <;> rfl
      | _ => rfl
    rw [this] at h3
    exact (Option.some.inj h3).symm
  subst e3
  refine ⟨τ, S, x, τ', w, sl, e1, fun u H1 S1 F1 p1 sl1 r1 => ?_⟩
  have e := fin_own hm h5
  subst e
  show Q (.bl (!decide (u = .non))) H1
  rw [none_of r1]
  refine q _ H1 S1 F0 ((p1.less (fun _ z => z) fun b (z : F0 b) => z.elim).weak fun z => by simpa [Ex.quiet, Exs.quiet] using z) sl1 ?_
  cases m with
  | own => exact .dat (.bl _)
  | bor => exact .dat (.bl _)
  | tst => exact absurd rfl hm
end
end GB

namespace GB
open PySem PySem.Spec PyProof.Rows L2

/-! ## 16. chains, items, slices -/
section
variable {X : Cx} {T : Tb} {K : PySem.W.Frag}
/-- the slots stay under what makes a new value -/
theorem New.slots {H H1 : Hp} {S : Fp} {v : V} {o : O} {τ : SO} {σ : L2.St} (n : New K H v o H1) (w : OwS S H) (sl : SL K H τ σ S) : ∃ F, OT K H1 v o F ∧ Pst true H S H1 S F ∧ SL K H1 τ σ S := by
  obtain ⟨F, h, p⟩ := n
  have p2 := p S w
  refine ⟨F, h, p2, sl.keep (T := F0) (fun _ z => z.elim) (fun b o' e _ => ?_) (fun _ _ z => z)⟩
  by_cases hs : S b
  · obtain ⟨o2, e2, w2⟩ := p2.own b (.inl hs)
    rcases p2.le rfl b o' e with z | ⟨_, ob, z⟩
    · exact z
    · rw [e2] at z; cases z; simp [isOwn] at w2
  · exact p2.keep b o' e hs
theorem oB_of {r : O} {c : Bool} (h : r.bool? = some c) : r = oB c := bool?_eq h
theorem chain_run {p p' : Prim} {a b c : Ex} {m : Md} {σ : L2.St} {H : Hp} {Q : VK} {τ τ' : SO} {S : Fp} {o : O} (w : OwS S H) (sl : SL K H τ σ S) (h : ev T m (.chain p p' a b c) τ = some (o, τ'))
    (k : ∀ d, o = oB d → ∀ H' S', Pst (a.quiet && b.quiet && c.quiet) H S H' S' F0 → SL K H' τ' σ S' → Q (.bl d) H') :
    tChain (rP K p) (rP K p') (tE T K (if (b.quiet && c.quiet) = true then .bor else .own) a) (tE T K (if c.quiet = true then .bor else .own) b) (tE T K .bor c) σ H Q := by
  simp only [ev] at h
  obtain ⟨x, t1, h1, h2⟩ := bnd_inv h
  obtain ⟨y, t2, h3, h4⟩ := bnd_inv h2
  refine ⟨τ, S, x, t1, w, sl, h1, fun u H1 S1 F1 q1 sl1 r1 => ⟨t1, S1, y, t2, q1.oS, sl1, h3, fun v H2 S2 F2 q2 sl2 r2 => ?_⟩⟩
  have bx : BT K H2 u x := res_wait r1 q1 (q2.weak fun z => by simp only [Bool.and_eq_true] at z; exact z.1)
  have by_ : BT K H2 v y := by
    by_cases z : c.quiet = true
    · rw [if_pos z] at r2; exact r2
    · rw [if_neg z] at r2; exact OT.bt _ _ _ r2
  have q12 := q1.trans q2
  cases e : primEv p [x, y] with
  | none => rw [e] at h4; cases h4
  | some r =>
    rw [e] at h4
    refine ⟨x, y, r, bx, by_, e, fun z H3 n => ?_⟩
    cases eb : r.bool? with
    | none => rw [show (some r).bind O.bool? = r.bool? from rfl, eb] at h4; cases h4
    | some d =>
      rw [show (some r).bind O.bool? = r.bool? from rfl, eb] at h4
      have er := oB_of eb
      subst er
      obtain ⟨F3, o3, p3, sl3⟩ := n.slots q12.oS sl2
      refine ⟨d, bl_of o3, ?_⟩
      have q123 := (q12.less (F' := F0) (fun _ z => z) fun b (z : F0 b) => z.elim).trans (p3.less (F' := F0) (fun _ z => z) fun b (z : F0 b) => z.elim)
      cases d with
      | false =>
        rw [if_neg (by decide)]
        cases h4
        exact k false rfl H3 S2 ((q123.less (fun _ z => z) fun b (z : F0 b) => z.elim).weak fun z => by
          simp only [Bool.and_eq_true] at z
          simp [z]) sl3
      | true =>
        rw [if_pos rfl]
        obtain ⟨z2, t3, h5, h6⟩ := bnd_inv h4
        obtain ⟨dd, h7, h8⟩ := Option.map_eq_some_iff.mp h6
        cases h8
        refine ⟨t2, S2, z2, τ', p3.oS, sl3, h5, fun w2 H4 S4 F4 q4 sl4 r4 => ?_⟩
        have by3 : BT K H4 v y := by
          refine res_wait (q' := c.quiet) (F1 := F4) (K := K) (H1 := H3) (S1 := S2) (H := H1) (S := S1) (q := b.quiet) (F := F2) ?_ ?_ q4
          · by_cases z : c.quiet = true
            · rw [if_pos z] at r2 ⊢
              exact BT.le (p3.le rfl) _ _ r2
            · rw [if_neg z] at r2 ⊢
              refine OT.keep (S := F0) (fun _ z => z.elim) (fun bb o' e' _ => ?_) _ _ _ r2 (fun _ _ z => z)
              by_cases hs : S2 bb ∨ F2 bb
              · obtain ⟨o2, e2, w2⟩ := (q2.own bb hs)
                rw [e'] at e2; cases e2
                rcases hs with hs | hs
                · obtain ⟨o5, e5, w5⟩ := p3.own bb (.inl hs)
                  rcases p3.le rfl bb o' e' with z | ⟨_, ob, z⟩
                  · exact z
                  · rw [e5] at z; cases z; simp [isOwn] at w5
                · exact p3.keep bb o' e' fun z => q2.dj bb hs z
              · exact p3.keep bb o' e' fun z => hs (.inl z)
          · refine ⟨fun bb o' e' hn => ?_, fun bb hb => ?_, fun bb hb => q2.new bb hb, q2.dj, fun z => (q2.le z).trans (p3.le rfl)⟩
            · have e2 := q2.keep bb o' e' hn
              by_cases hs : S2 bb
              · obtain ⟨o5, e5, w5⟩ := p3.own bb (.inl hs)
                rcases p3.le rfl bb o' e2 with z | ⟨_, ob, z⟩
                · exact z
                · rw [e5] at z; cases z; simp [isOwn] at w5
              · exact p3.keep bb o' e2 hs
            · rcases hb with hb | hb
              · exact p3.own bb (.inl hb)
              · obtain ⟨o2, e2, w2⟩ := q2.own bb (.inr hb)
                exact ⟨o2, p3.keep bb o2 e2 fun z => q2.dj bb hb z, w2⟩
        cases e2 : primEv p' [y, z2] with
        | none => rw [e2] at h7; cases h7
        | some r2' =>
          rw [e2] at h7
          have er := oB_of (show r2'.bool? = some dd from h7)
          subst er
          refine ⟨y, z2, _, by3, r4, e2, fun z H5 n5 => ?_⟩
          obtain ⟨F5, o5, p5, sl5⟩ := n5.slots q4.oS sl4
          have := bl_of o5
          subst this
          have qa := (q123.trans (q4.less (F' := F0) (fun _ z => z) fun b (z : F0 b) => z.elim)).trans (p5.less (F' := F0) (fun _ z => z) fun b (z : F0 b) => z.elim)
          exact k dd rfl H5 S4 ((qa.less (fun _ z => z) fun b (z : F0 b) => z.elim).weak fun z => by
            simp only [Bool.and_eq_true] at z
            simp [z]) sl5
theorem ge_chain {op op' : CmpOp} {p p' : Prim} {a b c : Expr} {xa xb xc : Ex} {pos : Pos} (ho : OpR X (compareOp op) (rP X.K p)) (ho' : OpR X (compareOp op') (rP X.K p')) (hl : lastMarks [op, op'] [b, c] = false) (ha : ∀ m, m ≠ .tst → PE X a (tE T X.K m xa)) (hb : ∀ m, m ≠ .tst → PE X b (tE T X.K m xb)) (hc : ∀ m, m ≠ .tst → PE X c (tE T X.K m xc)) {m : Md} (hm : m ≠ .tst) :
    PE X (.Compare a [op, op'] [b, c] pos) (tE T X.K m (.chain p p' xa xb xc)) := (pe_chain ho ho' (ha _ (opm_ne (xb.quiet && xc.quiet))) (hb _ (opm_ne xc.quiet)) (hc .bor (by simp)) hl).mono fun σ H Q ⟨τ, S, o, τ', w, sl, h, q⟩ =>
  chain_run w sl h fun d e H' S' p sl' => by
    subst e
    refine q _ H' S' F0 (p.weak fun z => by simpa [Ex.quiet] using z) sl' ?_
    cases m with
    | own => exact .dat (.bl d)
    | bor => exact .dat (.bl d)
    | tst => exact absurd rfl hm
theorem gt_chain {op op' : CmpOp} {p p' : Prim} {a b c : Expr} {xa xb xc : Ex} {pos : Pos} (ho : OpR X (compareOp op) (rP X.K p)) (ho' : OpR X (compareOp op') (rP X.K p')) (hl : lastMarks [op, op'] [b, c] = false) (ha : ∀ m, m ≠ .tst → PE X a (tE T X.K m xa)) (hb : ∀ m, m ≠ .tst → PE X b (tE T X.K m xb)) (hc : ∀ m, m ≠ .tst → PE X c (tE T X.K m xc)) :
    PT X (.Compare a [op, op'] [b, c] pos) (tT T X.K (.chain p p' xa xb xc)) := (pt_chain ho ho' (ha _ (opm_ne (xb.quiet && xc.quiet))) (hb _ (opm_ne xc.quiet)) (hc .bor (by simp)) hl).mono fun σ H Q ⟨τ, S, o, τ', w, sl, h, q⟩ =>
  chain_run w sl h fun d e H' S' p sl' => by
    cases e
    exact ⟨_, rfl, q H' S' (p.weak fun z => by simpa [Ex.quiet] using z) sl'⟩

/-! ### items -/
theorem plain_ix {b : Expr} (h : ∀ l u st p, b ≠ .Slice l u st p) : PlainIx b := by
  intro o i
  cases b <;> first | rfl | exact absurd rfl (h _ _ _ _)
theorem ge_ix {a b : Expr} {xa xb : Ex} {pos : Pos} (hu : X.A.units + 1 < cLine) (hs : ∀ l u st p, b ≠ .Slice l u st p) (ha : ∀ m, m ≠ .tst → PE X a (tE T X.K m xa)) (hb : ∀ m, m ≠ .tst → PE X b (tE T X.K m xb)) {m : Md} (hm : m ≠ .tst) :
    PE X (.Subscript a b pos) (tE T X.K m (.ix xa xb)) := (pe_ix (ixP hu) (ha _ (opm_ne xb.quiet)) (hb .bor (by simp)) (plain_ix hs)).mono fun σ H Q ⟨τ, S, o, τ', w, sl, h, q⟩ => by
  simp only [ev] at h
  obtain ⟨x, t1, h1, h2⟩ := bnd_inv h
  obtain ⟨y, t2, h3, h4⟩ := bnd_inv h2
  obtain ⟨r, h5, h6⟩ := Option.bind_eq_some_iff.mp h4
  refine two_ops w sl h1 h3 fun u v H2 S2 p2 sl2 b1 b2 => ⟨x, y, r, b1, b2, h5, fun z hz => ?_⟩
  cases m with
  | tst => exact absurd rfl hm
  | bor => cases h6; exact q z H2 S2 F0 (p2.weak fun z => by simpa [Ex.quiet] using z) sl2 hz
  | own =>
    cases r with
    | dat d => cases h6; exact q z H2 S2 F0 (p2.weak fun z => by simpa [Ex.quiet] using z) sl2 (.dat hz.of_dat)
    | lst _ => cases h6
    | dic _ => cases h6

/-! ### slices -/
theorem int_of {H : Hp} {v : V} {F : Fp} {q : Bool} {i : Int} (h : Res K H (if q = true then .bor else .own) v (.dat (.int i)) F) : v = .int i := by
  cases q with
  | true => exact BT.of_int h
  | false => exact BT.of_int (OT.bt _ _ _ h)
theorem evR3 {a b c : Ex} {τ : SO} {os : List O} {τ' : SO} (h : evR T (.cons a (.cons b (.cons c .nil))) τ = some (os, τ')) :
    ∃ x t1 y t2 z, ev T (if (b.quiet && c.quiet) = true then .bor else .own) a τ = some (x, t1) ∧ ev T (if c.quiet = true then .bor else .own) b t1 = some (y, t2) ∧ ev T .bor c t2 = some (z, τ') ∧ os = [x, y, z] := by
  simp only [evR, Exs.quiet, Bool.and_true, if_true] at h
  obtain ⟨x, t1, h1, h2⟩ := bnd_inv h
  obtain ⟨ys, t2, h3, h4⟩ := bnd_inv h2
  obtain ⟨y, t3, h5, h6⟩ := bnd_inv h3
  obtain ⟨zs, t4, h7, h8⟩ := bnd_inv h6
  obtain ⟨z, t5, h9, h10⟩ := bnd_inv h7
  simp only [bnd_some, Option.some.injEq, Prod.mk.injEq] at h10 h8 h4
  obtain ⟨e1, e2⟩ := h10
  obtain ⟨e3, e4⟩ := h8
  obtain ⟨e5, e6⟩ := h4
  subst e1 e2 e3 e4 e5 e6
  exact ⟨x, t1, y, t3, z, h1, h5, h9, rfl⟩
theorem pr_inv {m : Md} {p : Prim} {as : Exs} {τ τ' : SO} {o : O} (h : ev T m (.pr p as) τ = some (o, τ')) : ∃ os r, evR T as τ = some (os, τ') ∧ primEv p os = some r ∧ fin m r = some o := by
  simp only [ev] at h
  obtain ⟨os, t1, h1, h2⟩ := bnd_inv h
  obtain ⟨r, h3, h4⟩ := Option.bind_eq_some_iff.mp h2
  obtain ⟨r', h5, h6⟩ := Option.map_eq_some_iff.mp h4
  cases h6
  exact ⟨os, r, h1, h3, h5⟩
theorem ge_sl0 {a : Expr} {xa : Ex} {p2 pos : Pos} (ha : PE X a (tE T X.K .bor xa)) {m : Md} (hm : m ≠ .tst) : PE X (.Subscript a (.Slice none none none p2) pos) (tE T X.K m (.pr (.slc false false) (.cons xa .nil))) :=
  (pe_slice slP ha po_none po_none).mono fun σ H Q ⟨τ, S, o, τ', w, sl, h, q⟩ => by
  obtain ⟨os, r, h1, h2, h3⟩ := pr_inv h
  obtain ⟨x, e1, rfl⟩ := evR1 h1
  refine ⟨τ, S, x, τ', w, sl, e1, fun u H1 S1 F1 p1 sl1 r1 => ⟨x, r, r1, h2, fun z H' n => ?_⟩⟩
  obtain ⟨F, p3, sl3, rs⟩ := fin_new hm h3 (p1.less (fun _ z => z) fun b (z : F0 b) => z.elim) n τ' σ sl1
  exact q z H' S1 F (p3.weak fun z => by simpa [Ex.quiet, Exs.quiet] using z) sl3 rs
theorem slc_lo {x y : O} {r : O} (h : primEv (.slc true false) [x, y] = some r) : ∃ i, y = .dat (.int i) ∧ primEv.sliceOf x (some i) none = some r := by
  cases y with
  | dat d => cases d with
    | int i => exact ⟨i, rfl, h⟩
    | _ => cases (show (none : Option O) = some r from h)
  | _ => cases (show (none : Option O) = some r from h)
theorem slc_hi {x y : O} {r : O} (h : primEv (.slc false true) [x, y] = some r) : ∃ i, y = .dat (.int i) ∧ primEv.sliceOf x none (some i) = some r := by
  cases y with
  | dat d => cases d with
    | int i => exact ⟨i, rfl, h⟩
    | _ => cases (show (none : Option O) = some r from h)
  | _ => cases (show (none : Option O) = some r from h)
theorem slc_lh {x y z : O} {r : O} (h : primEv (.slc true true) [x, y, z] = some r) : ∃ i j, y = .dat (.int i) ∧ z = .dat (.int j) ∧ primEv.sliceOf x (some i) (some j) = some r := by
  cases y with
  | dat d => cases d with
    | int i => cases z with
      | dat d => cases d with
        | int j => exact ⟨i, j, rfl, rfl, h⟩
        | _ => cases (show (none : Option O) = some r from h)
      | _ => cases (show (none : Option O) = some r from h)
    | _ => cases (show (none : Option O) = some r from h)
  | _ => cases (show (none : Option O) = some r from h)
theorem ge_sl1 {a l : Expr} {xa xl : Ex} {p2 pos : Pos} (ha : ∀ m, m ≠ .tst → PE X a (tE T X.K m xa)) (hl : ∀ m, m ≠ .tst → PE X l (tE T X.K m xl)) {m : Md} (hm : m ≠ .tst) : PE X (.Subscript a (.Slice (some l) none none p2) pos) (tE T X.K m (.pr (.slc true false) (.cons xa (.cons xl .nil)))) :=
  (pe_slice slP (ha _ (opm_ne xl.quiet)) (po_some (hl .bor (by simp))) po_none).mono fun σ H Q ⟨τ, S, o, τ', w, sl, h, q⟩ => by
  obtain ⟨os, r, h1, h2, h3⟩ := pr_inv h
  obtain ⟨x, t1, y, e1, e2, rfl⟩ := evR2 h1
  obtain ⟨i, rfl, h4⟩ := slc_lo h2
  refine two_ops w sl e1 e2 fun u v H2 S2 p2 sl2 b1 b2 => ⟨i, b2.of_int, x, r, b1, h4, fun z H' n => ?_⟩
  obtain ⟨F, p3, sl3, rs⟩ := fin_new hm h3 p2 n τ' σ sl2
  exact q z H' S2 F (p3.weak fun z => by simpa [Ex.quiet, Exs.quiet] using z) sl3 rs
theorem ge_sl2 {a l : Expr} {xa xl : Ex} {p2 pos : Pos} (ha : ∀ m, m ≠ .tst → PE X a (tE T X.K m xa)) (hl : ∀ m, m ≠ .tst → PE X l (tE T X.K m xl)) {m : Md} (hm : m ≠ .tst) : PE X (.Subscript a (.Slice none (some l) none p2) pos) (tE T X.K m (.pr (.slc false true) (.cons xa (.cons xl .nil)))) :=
  (pe_slice slP (ha _ (opm_ne xl.quiet)) po_none (po_some (hl .bor (by simp)))).mono fun σ H Q ⟨τ, S, o, τ', w, sl, h, q⟩ => by
  obtain ⟨os, r, h1, h2, h3⟩ := pr_inv h
  obtain ⟨x, t1, y, e1, e2, rfl⟩ := evR2 h1
  obtain ⟨i, rfl, h4⟩ := slc_hi h2
  refine two_ops w sl e1 e2 fun u v H2 S2 p2 sl2 b1 b2 => ⟨i, b2.of_int, x, r, b1, h4, fun z H' n => ?_⟩
  obtain ⟨F, p3, sl3, rs⟩ := fin_new hm h3 p2 n τ' σ sl2
  exact q z H' S2 F (p3.weak fun z => by simpa [Ex.quiet, Exs.quiet] using z) sl3 rs
theorem ge_sl3 {a l u : Expr} {xa xl xu : Ex} {p2 pos : Pos} (ha : ∀ m, m ≠ .tst → PE X a (tE T X.K m xa)) (hl : ∀ m, m ≠ .tst → PE X l (tE T X.K m xl)) (hu : ∀ m, m ≠ .tst → PE X u (tE T X.K m xu)) {m : Md} (hm : m ≠ .tst) : PE X (.Subscript a (.Slice (some l) (some u) none p2) pos) (tE T X.K m (.pr (.slc true true) (.cons xa (.cons xl (.cons xu .nil))))) :=
  (pe_slice slP (ha _ (opm_ne (xl.quiet && xu.quiet))) (po_some (hl _ (opm_ne xu.quiet))) (po_some (hu .bor (by simp)))).mono fun σ H Q ⟨τ, S, o, τ', w, sl, h, q⟩ => by
  obtain ⟨os, r, h1, h2, h3⟩ := pr_inv h
  obtain ⟨x, t1, y, t2, z, e1, e2, e3, rfl⟩ := evR3 h1
  obtain ⟨i, j, rfl, rfl, h4⟩ := slc_lh h2
  refine ⟨τ, S, x, t1, w, sl, e1, fun ux H1 S1 F1 p1 sl1 r1 => ⟨t1, S1, _, t2, p1.oS, sl1, e2, fun v H2 S2 F2 p2 sl2 r2 => ⟨i, int_of r2, t2, S2, _, τ', p2.oS, sl2, e3, fun v3 H3 S3 F3 p3 sl3 r3 => ⟨j, BT.of_int r3, x, r, ?_, h4, fun z H' n => ?_⟩⟩⟩⟩
  · exact res_wait (q' := xl.quiet && xu.quiet) r1 p1 ((p2.less (F' := F0) (fun _ z => z) fun b (z : F0 b) => z.elim).trans (p3.less (F' := F0) (fun _ z => z) fun b (z : F0 b) => z.elim))
  · have p := ((p1.less (F' := F0) (fun _ z => z) fun b (z : F0 b) => z.elim).trans (p2.less (F' := F0) (fun _ z => z) fun b (z : F0 b) => z.elim)).trans (p3.less (F' := F0) (fun _ z => z) fun b (z : F0 b) => z.elim)
    obtain ⟨F, p4, sl4, rs⟩ := fin_new hm h3 (p.less (fun _ z => z) fun b (z : F0 b) => z.elim) n τ' σ sl3
    exact q z H' S3 F (p4.weak fun z => by simpa [Ex.quiet, Exs.quiet, Bool.and_assoc] using z) sl4 rs
theorem ge_rev {a : Expr} {xa : Ex} {k : Nat} {p1 p2 p3 pos : Pos} (ha : PE X a (tE T X.K .bor xa)) {m : Md} (hm : m ≠ .tst) : PE X (.Subscript a (.Slice none none (some (.UnaryOp .USub (.Constant (.int 1) k p1) p2)) p3) pos) (tE T X.K m (.pr .rev (.cons xa .nil))) :=
  (pe_revP ha).mono fun σ H Q ⟨τ, S, o, τ', w, sl, h, q⟩ => by
  obtain ⟨os, r, h1, h2, h3⟩ := pr_inv h
  obtain ⟨x, e1, rfl⟩ := evR1 h1
  refine ⟨τ, S, x, τ', w, sl, e1, fun u H1 S1 F1 p1 sl1 r1 => ⟨x, r, r1, h2, fun z H' n => ?_⟩⟩
  obtain ⟨F, p3, sl3, rs⟩ := fin_new hm h3 (p1.less (fun _ z => z) fun b (z : F0 b) => z.elim) n τ' σ sl1
  exact q z H' S1 F (p3.weak fun z => by simpa [Ex.quiet, Exs.quiet] using z) sl3 rs
/-- -a -/
theorem op_negP : UnR X (unaryOp .USub) (rP1 X.K .neg) := fun pins s σ H x v Q I rx h => by
  obtain ⟨a, r, ba, h, q⟩ := h
  obtain ⟨i, e, h2⟩ := Option.map_eq_some_iff.mp (show (a.int?.map fun i => oI (-i)) = some r from h)
  subst h2
  rw [int?_eq e] at ba
  exact un_neg pins s σ H x v Q I rx ⟨i, ba.of_int, q _ H (New.dat (.int _))⟩
end
end GB

namespace GB
open PySem PySem.Spec PyProof.Rows L2

/-! ## 17. arguments -/
section
variable {X : Cx} {T : Tb} {K : PySem.W.Frag}
theorem vals_append : ∀ {xs ys : List V} {us ws : List Value}, Vals xs us → Vals ys ws → Vals (xs ++ ys) (us ++ ws)
  | _, _, _, _, .nil, h => h
  | _, _, _, _, .cons r t, h => .cons r (vals_append t h)
theorem ga_nilR : PA X [] (tR T X.K .nil) := pa_nil.mono fun σ H Q ⟨τ, S, os, τ', w, sl, h, q⟩ => by
  simp only [evR] at h
  cases h
  exact q [] H S (.refl w) sl .nil
theorem ga_nilA : PA X [] (tA T X.K .nil) := pa_nil.mono fun σ H Q ⟨τ, S, os, τ', w, sl, h, q⟩ => by
  simp only [evA] at h
  cases h
  exact q [] H S F0 (.refl w) sl .nil
theorem ga_consR {e : Expr} {es : List Expr} {x : Ex} {xs : Exs} (he : ∀ m, m ≠ .tst → PE X e (tE T X.K m x)) (hr : PA X es (tR T X.K xs)) (hs : notStar e = true) : PA X (e :: es) (tR T X.K (.cons x xs)) :=
  (pa_cons (he _ (opm_ne xs.quiet)) hr (star_plain hs es X.env)).mono fun σ H Q ⟨τ, S, os, τ', w, sl, h, q⟩ => by
  simp only [evR] at h
  obtain ⟨o, t1, h1, h2⟩ := bnd_inv h
  obtain ⟨os', t2, h3, h4⟩ := bnd_inv h2
  cases h4
  refine ⟨τ, S, o, t1, w, sl, h1, fun v H1 S1 F1 p1 sl1 r1 => ⟨t1, S1, os', _, p1.oS, sl1, h3, fun vs H2 S2 p2 sl2 r2 => ?_⟩⟩
  exact q (v :: vs) H2 S2 (((p1.less (F' := F0) (fun _ z => z) fun b (z : F0 b) => z.elim).trans p2).less (fun _ z => z) fun b (z : F0 b) => z.elim) sl2 (.cons (res_wait r1 p1 p2) r2)
theorem ga_consA {e : Expr} {es : List Expr} {x : Ex} {xs : Exs} (he : PE X e (tE T X.K .own x)) (hr : PA X es (tA T X.K xs)) (hs : notStar e = true) : PA X (e :: es) (tA T X.K (.cons x xs)) :=
  (pa_cons he hr (star_plain hs es X.env)).mono fun σ H Q ⟨τ, S, os, τ', w, sl, h, q⟩ => by
  simp only [evA] at h
  obtain ⟨o, t1, h1, h2⟩ := bnd_inv h
  obtain ⟨os', t2, h3, h4⟩ := bnd_inv h2
  cases h4
  refine ⟨τ, S, o, t1, w, sl, h1, fun v H1 S1 F1 p1 sl1 r1 => ⟨t1, S1, os', _, p1.oS, sl1, h3, fun vs H2 S2 F2 p2 sl2 r2 => ?_⟩⟩
  exact q (v :: vs) H2 S2 _ (p1.trans p2) sl2 (.cons (OT.keep p1.oS p2.keep _ _ _ r1 p1.dj) r2 (p1.dj2 p2) fun _ z => z)
/-- *e -/
def tStar (K : PySem.W.Frag) (te : TE) (t : TA) : TA := fun σ H Q => te σ H fun x H1 => ∃ a xs, x = .ref a ∧ (SqL K H1 a xs ∨ SqT K H1 a xs) ∧ t σ H1 fun vs H2 => Q (xs ++ vs) H2
theorem pa_star {e : Expr} {es : List Expr} {te : TE} {t : TA} {p : Pos} (he : PE X e te) (hr : PA X es t) : PA X (.Starred e p :: es) (tStar X.K te t) := by
  refine ⟨fun pos pins s σ H Q I h => ?_⟩
  refine PySem.W.items_star (thn (he.run pins s σ H _ I h) fun v s1 ⟨x, H1, I1, r1, a, xs, ex, hx, q1⟩ => ?_)
  subst ex
  cases r1
  have fin : ∀ (T : String), (T = "list" ∨ T = "tuple") → ∀ (o : Obj) (its : List Value) (n : Nat), s1.heap.get? a = some o → o.cls = .type T → o.data = .seq its.toArray n → its.length ≤ sizeLine → Vals xs its →
      wpAny (model X.prog X.w) X.A (collect (.ref a)) (fun here s₂ => wpAny (model X.prog X.w) X.A (spliced (backTo pos (starEach es X.env))) (fun vs s₃ => AP X pins σ Q (here ++ vs) s₃) X.xe s₂) X.xe s1 := fun T hT o its n e hc hd hz rv => by
    refine wpAny_collect_seq a hT e hc hd (fun h' hk => ?_) (by simpa using hz)
    have I2 : Inv X pins σ H1 { s1 with heap := h' } := I1.kept (t' := s1.toks) hk
    refine thn (hr.run pos pins _ σ H1 _ I2 q1) fun us s3 ⟨vs, H3, I3, r3, q3⟩ => ⟨xs ++ vs, H3, I3, ?_, q3⟩
    simpa using vals_append rv r3
  rcases hx with hx | hx
  · obtain ⟨its, rv, ⟨o, n, e, hc, _, hd⟩, hz⟩ := I1.list hx
    have hT' : s1.TypeIs (.ref a) "list" := ⟨o, e, hc⟩
    have z := fin "list" (.inl rfl) o its n e hc hd (by rw [← rv.length]; exact hz) rv
    unfold PySem.W.StarOf notIterableAtAll
    exact wpAny_bind (wpAny_specialOf hT' PySem.F.slot_list_iter.lookup (wpAny_pure ⟨rfl, z⟩))
  · obtain ⟨its, rv, ⟨o, e, hc, n, hd⟩, hz⟩ := I1.tuple hx
    have hT' : s1.TypeIs (.ref a) "tuple" := ⟨o, e, hc⟩
    have z := fin "tuple" (.inr rfl) o its n e hc hd (by rw [← rv.length]; exact hz) rv
    unfold PySem.W.StarOf notIterableAtAll
    exact wpAny_bind (wpAny_specialOf hT' PySem.F.slot_tuple_iter.lookup (wpAny_pure ⟨rfl, z⟩))
theorem ga_starA {e : Expr} {es : List Expr} {x : Ex} {xs : Exs} {p : Pos} (he : PE X e (tE T X.K .own x)) (hr : PA X es (tA T X.K xs)) : PA X (.Starred e p :: es) (tA T X.K (.star x xs)) :=
  (pa_star he hr).mono fun σ H Q ⟨τ, S, os, τ', w, sl, h, q⟩ => by
  simp only [evA] at h
  obtain ⟨o, t1, h1, h2⟩ := bnd_inv h
  obtain ⟨ds, hd, h2⟩ := Option.bind_eq_some_iff.mp h2
  obtain ⟨os', t2, h3, h4⟩ := bnd_inv h2
  cases h4
  refine ⟨τ, S, o, t1, w, sl, h1, fun v H1 S1 F1 p1 sl1 r1 => ?_⟩
  have b1 := OT.bt _ _ _ r1
  rcases items_kind hd with z | z
  · obtain ⟨a, ys, e, hR, dv⟩ := b1.list z hd
    refine ⟨a, ys, e, .inl (.inl hR), t1, S1, os', _, p1.oS, sl1, h3, fun vs H2 S2 F2 p2 sl2 r2 => ?_⟩
    exact q (ys ++ vs) H2 S2 F2 ((p1.trans p2).less (fun _ z => z) fun _ z => .inr z) sl2 ((OTs.append (F1 := F0) (OTs.dats (DVs.keep p1.oS p2.keep _ _ dv)) r2 fun _ z _ => z).wide fun b z => z.elim False.elim id)
  · obtain ⟨a, ys, e, hR, dv⟩ := b1.tup z hd
    refine ⟨a, ys, e, .inr hR.sq, t1, S1, os', _, p1.oS, sl1, h3, fun vs H2 S2 F2 p2 sl2 r2 => ?_⟩
    exact q (ys ++ vs) H2 S2 F2 ((p1.trans p2).less (fun _ z => z) fun _ z => .inr z) sl2 ((OTs.append (F1 := F0) (OTs.dats (DVs.keep p1.oS p2.keep _ _ dv)) r2 fun _ z _ => z).wide fun b z => z.elim False.elim id)
end
end GB

namespace GB
open PySem PySem.Spec PyProof.Rows L2

/-! ## 18. displays -/
section
variable {X : Cx} {T : Tb} {K : PySem.W.Frag}
/-- a tuple: its items freeze -/
theorem ge_tup {es : List Expr} {as : Exs} {k : Nat} {pos : Pos} (h : PA X es (tA T X.K as)) {m : Md} (hm : m ≠ .tst) : PE X (.Tuple es k pos) (tE T X.K m (.tup as)) :=
  (pe_tup h).ghost fun σ H Q ⟨τ, S, o, τ', w, sl, he, q⟩ => by
  simp only [ev] at he
  obtain ⟨os, t1, h1, h2⟩ := bnd_inv he
  split at h2
  · rename_i hz
    obtain ⟨r, h3, h4⟩ := Option.map_eq_some_iff.mp h2
    cases h4
    have e := fin_own hm h3
    subst e
    refine ⟨τ, S, os, τ', w, sl, h1, fun vs H1 S1 F p1 sl1 r1 => ⟨by rw [r1.length]; exact hz, fun p hp pins s I => ?_⟩⟩
    have k1 : Kp F0 H1 (upd H1 p (.tup vs)) := keep_new hp
    have r2 := OTs.keep (S := F0) (fun _ z => z.elim) k1 _ _ _ r1 (fun _ _ z => z)
    have wF : OwS F (upd H1 p (.tup vs)) := fun b hb => by
      obtain ⟨o2, e2, w2⟩ := p1.oF b hb
      exact ⟨o2, k1 b o2 e2 id, w2⟩
    have wS : OwS S1 (upd H1 p (.tup vs)) := fun b hb => by
      obtain ⟨o2, e2, w2⟩ := p1.oS b hb
      exact ⟨o2, k1 b o2 e2 id, w2⟩
    have sl2 := sl1.keep (T := F0) (fun _ z => z.elim) k1 (fun _ _ z => z)
    obtain ⟨H2, I2, dv, kk, ll⟩ := OTs.freeze _ _ F _ r2 wF I
    have l1 : Le H1 (upd H1 p (.tup vs)) := fun b o' e => .inl (k1 b o' e id)
    refine ⟨H2, I2, q (.ref p) H2 S1 F0 ⟨fun b o' e n => kk b o' (k1 b o' (p1.keep b o' e n) id) fun z => ?_, fun b hb => ?_, fun b hb => p1.new b (.inl (hb.elim id False.elim)), fun _ z _ => z, fun z => ((p1.le (by simpa [Ex.quiet] using z)).trans l1).trans ll⟩ (sl2.keep wF kk p1.dj.symm) ?_⟩
    · rcases p1.new b (.inr z) with z2 | z2
      · exact n z2
      · rw [e] at z2; cases z2
    · have hs := hb.elim id (fun z : F0 b => z.elim)
      obtain ⟨o2, e2, w2⟩ := wS b hs
      exact ⟨o2, kk b o2 e2 fun z => p1.dj b z hs, w2⟩
    · have d : DV true X.K H2 (.ref p) (.tuple (O.toDs os)) := by
        refine .tup (.inl (kk p _ upd_same fun z => ?_)) dv
        obtain ⟨o2, e2, w2⟩ := p1.oF p z
        rw [hp] at e2; cases e2
      cases m with
      | own => exact .dat d
      | bor => exact .dat d
      | tst => exact absurd rfl hm
  · cases h2
theorem res_of {H : Hp} {m : Md} (hm : m ≠ .tst) {v : V} {o : O} {F : Fp} (h : OT K H v o F) : Res K H m v o F := by
  cases m with
  | own => exact h
  | bor => exact OT.bt _ _ _ h
  | tst => exact absurd rfl hm
theorem ge_lst {es : List Expr} {as : Exs} {pos : Pos} (h : PA X es (tA T X.K as)) {m : Md} (hm : m ≠ .tst) : PE X (.List es pos) (tE T X.K m (.lst as)) :=
  (pe_lst h).mono fun σ H Q ⟨τ, S, o, τ', w, sl, he, q⟩ => by
  simp only [ev] at he
  obtain ⟨os, t1, h1, h2⟩ := bnd_inv he
  split at h2
  · rename_i hz
    obtain ⟨r, h3, h4⟩ := Option.map_eq_some_iff.mp h2
    cases h4
    have e := fin_own hm h3
    subst e
    refine ⟨τ, S, os, τ', w, sl, h1, fun vs H1 S1 F p1 sl1 r1 => ⟨by rw [r1.length]; exact hz, fun p hp => ?_⟩⟩
    have k1 : Kp F0 H1 (upd H1 p (.lst vs)) := keep_new hp
    refine q _ _ S1 _ ((p1.laid hp rfl).weak fun z => by simpa [Ex.quiet] using z) (sl1.keep (T := F0) (fun _ z => z.elim) k1 (fun _ _ z => z)) (res_of hm (.lst (G := F) upd_same (.inr rfl) (OTs.keep (S := F0) (fun _ z => z.elim) k1 _ _ _ r1 (fun _ _ z => z)) fun b hb => ⟨.inl hb, fun z => ?_⟩))
    subst z
    obtain ⟨o2, e2, w2⟩ := p1.oF b hb
    rw [hp] at e2; cases e2
  · cases h2

/-! ### dicts -/
inductive PEs (X : Cx) (T : Tb) : List Expr → Exs → Prop
  | nil : PEs X T [] .nil
  | cons {e : Expr} {es : List Expr} {x : Ex} {xs : Exs} : (∀ m, m ≠ .tst → PE X e (tE T X.K m x)) → PEs X T es xs → PEs X T (e :: es) (.cons x xs)
def trsOf (T : Tb) (K : PySem.W.Frag) : List Key → Exs → List (TE × TE)
  | k :: ks, .cons x xs => (tC (kV k), tE T K .own x) :: trsOf T K ks xs
  | _, _ => []
theorem pe_key {e : Expr} {k : Key} (h : keyC (some e) = some k) : PE X e (tC (kV k)) := by
  unfold keyC at h
  split at h
  · rename_i e1; cases e1; cases h; exact pe_str
  · rename_i e1; cases e1; cases h; exact pe_int
  · cases h
theorem pps_of {pos : Pos} : ∀ {ks : List Key} {kes : List (Option Expr)} {vals : List Expr} {xs : Exs}, keysC kes = some ks → PEs X T vals xs → kes.length = vals.length → PPs X pos kes vals (trsOf T X.K ks xs) ∧ (kes.all (·.isSome)) = true ∧ kes.length = ks.length
  | ks, [], vals, xs, h, p, l => by
    cases h
    cases p with
    | nil => exact ⟨pps_nil, rfl, rfl⟩
    | cons _ _ => simp at l
  | ks, e :: kes, vals, xs, h, p, l => by
    unfold keysC at h
    split at h
    · rename_i k ks' h1 h2
      cases h
      cases p with
      | nil => simp at l
      | cons p1 p2 =>
        obtain ⟨a, b, c⟩ := pps_of (pos := pos) h2 p2 (by simpa using l)
        cases e with
        | none => cases h1
        | some e => exact ⟨pps_cons (pe_key h1) (p1 .own (by simp)) a, by simpa using b, by simp [c]⟩
    · cases h
def noStar : Exs → Bool
  | .nil => true
  | .cons _ r => noStar r
  | .star _ _ => false
theorem pairs_run : ∀ (ks : List Key) {as : Exs} {σ : L2.St} {H : Hp} {S : Fp} {τ τ' : SO} {os : List O} {Q : List (V × V) → Hp → Prop}, OwS S H → SL K H τ σ S → evA T as τ = some (os, τ') → ks.length = os.length → noStar as = true →
    (∀ vs H' S' F, Pst as.quiet H S H' S' F → SL K H' τ' σ S' → OTs K H' vs os F → Q ((ks.zip vs).map fun p => (kV p.1, p.2)) H') → tPairs (trsOf T K ks as) σ H Q
  | [], .nil, σ, H, S, τ, τ', os, Q, w, sl, h, l, _, q => by
    simp only [evA] at h
    cases h
    exact q [] H S F0 (.refl w) sl .nil
  | [], .cons e r, σ, H, S, τ, τ', os, Q, w, sl, h, l, _, q => by
    simp only [evA] at h
    obtain ⟨o, t1, h1, h2⟩ := bnd_inv h
    obtain ⟨os', t2, h3, h4⟩ := bnd_inv h2
    cases h4
    simp at l
  | k :: ks, .nil, σ, H, S, τ, τ', os, Q, w, sl, h, l, _, q => by
    simp only [evA] at h
    cases h
    simp at l
  | k :: ks, .cons e r, σ, H, S, τ, τ', os, Q, w, sl, h, l, ns, q => by
    simp only [evA] at h
    obtain ⟨o, t1, h1, h2⟩ := bnd_inv h
    obtain ⟨os', t2, h3, h4⟩ := bnd_inv h2
    cases h4
    refine ⟨τ, S, o, t1, w, sl, h1, fun v H1 S1 F1 p1 sl1 r1 => ?_⟩
    refine pairs_run ks p1.oS sl1 h3 (by simpa using l) (by simpa [noStar] using ns) fun vs H2 S2 F2 p2 sl2 r2 => ?_
    exact q (v :: vs) H2 S2 _ (p1.trans p2) sl2 (.cons (OT.keep p1.oS p2.keep _ _ _ r1 p1.dj) r2 (p1.dj2 p2) fun _ z => z)
  | _, .star e r, _, _, _, _, _, _, _, _, _, _, _, ns, _ => by simp [noStar] at ns
theorem PEs.noStar : ∀ {es : List Expr} {xs : Exs}, PEs X T es xs → GB.noStar xs = true
  | _, _, .nil => rfl
  | _, _, .cons _ r => r.noStar
theorem putK_new {kvs : List (Key × V)} {k : Key} {v : V} (h : k ∉ kvs.map (·.1)) : putK kvs k v = kvs ++ [(k, v)] := by
  unfold putK
  rw [if_neg]
  intro z
  obtain ⟨p, hp, e⟩ := List.any_eq_true.mp z
  exact h (List.mem_map.mpr ⟨p, hp, of_decide_eq_true e⟩)
theorem mergeK_app : ∀ (more acc : List (Key × V)), ((acc ++ more).map (·.1)).Nodup → mergeK acc more = acc ++ more
  | [], acc, _ => by simp [mergeK]
  | p :: r, acc, h => by
    have e : mergeK acc (p :: r) = mergeK (putK acc p.1 p.2) r := rfl
    have h1 : p.1 ∉ acc.map (·.1) := fun z => by
      rw [List.map_append, List.map_cons] at h
      have := List.nodup_append.mp h
      exact this.2.2 _ z _ (by simp) rfl
    rw [e, putK_new h1, mergeK_app r _ (by simpa using h)]
    simp
theorem zip_keys : ∀ {ks : List Key} {vs : List V}, ks.length = vs.length → (ks.zip vs).map (·.1) = ks
  | [], [], _ => rfl
  | k :: ks, v :: vs, h => by simp [zip_keys (ks := ks) (vs := vs) (by simpa using h)]
  | [], _ :: _, h => by simp at h
  | _ :: _, [], h => by simp at h
theorem OTk.zip {H : Hp} : ∀ {ks : List Key} {vs : List V} {os : List O} {F : Fp}, OTs K H vs os F → OTk K H (ks.zip vs) (ks.zip os) F
  | [], vs, os, F, _ => by simp; exact .nil
  | k :: ks, [], os, F, h => by cases h; simp; exact .nil
  | k :: ks, v :: vs, os, F, h => by
    cases h with
    | cons h1 h2 h3 h4 => exact .cons h1 (OTk.zip h2) h3 h4
theorem ge_dic {kes : List (Option Expr)} {vals : List Expr} {ks : List Key} {xs : Exs} {pos : Pos} (hk : keysC kes = some ks) (hp : PEs X T vals xs) (hl : kes.length = vals.length) {m : Md} (hm : m ≠ .tst) : PE X (.Dict kes vals pos) (tE T X.K m (.dic ks xs)) := by
  obtain ⟨hpp, hall, hlen⟩ := pps_of (pos := pos) hk hp hl
  by_cases h0 : kes = []
  · subst h0
    cases hk
    cases hp with
    | cons _ _ => simp at hl
    | nil =>
      refine pe_dnewK.mono fun σ H Q ⟨τ, S, o, τ', w, sl, he, q⟩ p hn => ?_
      simp only [ev, evA, bnd_some] at he
      rw [if_pos (by simp)] at he
      obtain ⟨r, h3, h4⟩ := Option.map_eq_some_iff.mp he
      cases h4
      have e := fin_own hm h3
      subst e
      exact q _ _ S _ (((Pst.refl (q := true) w).laid hn rfl).weak fun _ => rfl) (sl.keep (T := F0) (fun _ z => z.elim) (keep_new hn) (fun _ _ z => z)) (res_of hm (.dic (G := F0) upd_same (.inr rfl) .nil fun b z => z.elim))
  · by_cases h15 : ks.length ≤ 15
    · refine (pe_disp hpp hall hl h0 (by rw [hlen]; exact h15)).mono fun σ H Q ⟨τ, S, o, τ', w, sl, he, q⟩ p hn => ?_
      simp only [ev] at he
      obtain ⟨os, t1, h1, h2⟩ := bnd_inv he
      split at h2
      · rename_i hz
        simp only [Bool.and_eq_true, decide_eq_true_eq] at hz
        obtain ⟨r, h3, h4⟩ := Option.map_eq_some_iff.mp h2
        cases h4
        have e := fin_own hm h3
        subst e
        have k0 : Kp F0 H (upd H p (.dK [])) := keep_new hn
        have w0 : OwS S (upd H p (.dK [])) := fun b hb => by
          obtain ⟨o2, e2, w2⟩ := w b hb
          exact ⟨o2, k0 b o2 e2 id, w2⟩
        refine pairs_run ks w0 (sl.keep (T := F0) (fun _ z => z.elim) k0 (fun _ _ z => z)) h1 hz.1.2 hp.noStar fun vs H2 S2 F p2 sl2 r2 => ?_
        have nS : ¬ S p := fun z => by
          obtain ⟨o2, e2, _⟩ := w p z
          rw [hn] at e2; cases e2
        have ep : H2 p = some (.dK []) := p2.keep p _ upd_same nS
        have nF : ∀ b, S2 b ∨ F b → b ≠ p := fun b hb z => by
          subst z
          rcases p2.new b hb with z | z
          · exact nS z
          · rw [upd_same] at z; cases z
        have hlv : ks.length = vs.length := by rw [r2.length]; exact hz.1.2
        refine ⟨ep, ks.zip vs, rfl, by rw [List.length_zip]; omega, ?_⟩
        have em : mergeK [] (ks.zip vs) = ks.zip vs := by
          have := mergeK_app (ks.zip vs) [] (by simpa [zip_keys hlv] using hz.1.1)
          simpa using this
        rw [em]
        have k2 : Kp (fun b => b = p) H2 (upd H2 p (.dK (ks.zip vs))) := kp_upd rfl
        have w2 : OwS (fun b => b = p) H2 := fun b hb => by subst hb; exact ⟨_, ep, rfl⟩
        refine q _ _ S2 (fun b => F b ∨ b = p) ⟨fun b o' e n => ?_, fun b hb => ?_, fun b hb => ?_, fun b hb hs => ?_, fun z b o' e => ?_⟩ (sl2.keep w2 k2 fun b hb z => nF b (.inl hb) z) (res_of hm (.dic (G := F) upd_same (.inr rfl) (OTk.zip (OTs.keep w2 k2 _ _ _ r2 fun b hb z => nF b (.inr hb) z)) fun b hb => ⟨.inl hb, nF b (.inr hb)⟩))
        · exact k2 b o' (p2.keep b o' (k0 b o' e id) n) fun z => by subst z; rw [hn] at e; cases e
        · by_cases hb' : b = p
          · subst hb'; exact ⟨_, upd_same, rfl⟩
          · obtain ⟨o2, e2, w3⟩ := p2.own b (hb.imp id fun z => z.elim id fun y => absurd y hb')
            exact ⟨o2, by rw [upd_ne hb']; exact e2, w3⟩
        · have f : ∀ c, S2 c ∨ F c → S c ∨ H c = none := fun c hc => by
            rcases p2.new c hc with z | z
            · exact .inl z
            · refine .inr ?_
              rw [upd_ne (nF c hc)] at z
              exact z
          rcases hb with h | h | h
          · exact f b (.inl h)
          · exact f b (.inr h)
          · subst h; exact .inr hn
        · rcases hb with h | h
          · exact p2.dj b h hs
          · exact nF b (.inl hs) h
        · have hb' : b ≠ p := fun z => by subst z; rw [hn] at e; cases e
          rcases p2.le (by simpa [Ex.quiet] using z) b o' (k0 b o' e id) with y | ⟨y1, ob, y2⟩
          · exact .inl (by rw [upd_ne hb']; exact y)
          · exact .inr ⟨y1, ob, by rw [upd_ne hb']; exact y2⟩
      · cases h2
    · refine PE.bad.mono fun σ H Q ⟨τ, S, o, τ', w, sl, he, q⟩ => ?_
      simp only [ev] at he
      obtain ⟨os, t1, h1, h2⟩ := bnd_inv he
      rw [if_neg (by simp [h15])] at h2
      cases h2
end
end GB

namespace GB
open PySem PySem.Spec PyProof.Rows L2

/-! ## 19. calls of what is built in -/
section
variable {X : Cx} {T : Tb} {K : PySem.W.Frag}
theorem pr_run {p : Prim} {as : Exs} {m : Md} (hm : m ≠ .tst) {σ : L2.St} {H : Hp} {Q : VK} (h : tE T K m (.pr p as) σ H Q) : tR T K as σ H fun vs H1 => rC K p vs H1 Q := by
  obtain ⟨τ, S, o, τ', w, sl, he, q⟩ := h
  obtain ⟨os, r, h1, h2, h3⟩ := pr_inv he
  refine ⟨τ, S, os, τ', w, sl, h1, fun vs H1 S1 p1 sl1 bs => ⟨os, r, bs, h2, fun z H' n => ?_⟩⟩
  obtain ⟨F, p3, sl3, rs⟩ := fin_new hm h3 p1 n τ' σ sl1
  exact q z H' S1 F (p3.weak fun z => by simpa [Ex.quiet] using z) sl3 rs
theorem ge_callB {p : Prim} {id : String} {f : Str} {e : Expr} {x : Ex} {fp pos : Pos} (hc : CallR X (.builtin id) (rC X.K p)) (hg : Gl X f) (hm : X.mg f = none) (hv : bootBuiltins f = some (.builtin id)) (hn : f ≠ "__name__") (hdb : (f == ("__debug__" : Str)) = false)
    (hs : notStar e = true) (he : ∀ m, m ≠ .tst → PE X e (tE T X.K m x)) {m : Md} (hmd : m ≠ .tst) : PE X (.Call (.Name f fp) [e] [] pos) (tE T X.K m (.pr p (.cons x .nil))) :=
  (pe_callB hc hg hm hv (ga_consR he ga_nilR hs) hn hdb (star_plain hs [] X.env) rfl).mono fun σ H Q h => pr_run hmd h
theorem ge_callT {p : Prim} {id : String} {f : Str} {e : Expr} {x : Ex} {fp pos : Pos} (hc : CallR X (.type id) (rC X.K p)) (hg : Gl X f) (hm : X.mg f = none) (hv : bootBuiltins f = some (.type id)) (hn : f ≠ "__name__") (hdb : (f == ("__debug__" : Str)) = false)
    (hs : notStar e = true) (he : ∀ m, m ≠ .tst → PE X e (tE T X.K m x)) {m : Md} (hmd : m ≠ .tst) : PE X (.Call (.Name f fp) [e] [] pos) (tE T X.K m (.pr p (.cons x .nil))) :=
  (pe_callTy hc hg hm hv (ga_consR he ga_nilR hs) hn hdb (star_plain hs [] X.env) rfl).mono fun σ H Q h => pr_run hmd h
/-- isinstance(e, T) -/
theorem ge_isi {U : String} {t : Str} {e : Expr} {x : Ex} {fp tp pos : Pos} (hU : U ∈ tyNames.map (·.2)) (hg : Gl X "isinstance") (hm : X.mg "isinstance" = none) (hgt : Gl X t) (hmt : X.mg t = none) (hbt : bootBuiltins t = some (.type U)) (hn : t ≠ "__name__") (hdb : (t == ("__debug__" : Str)) = false)
    (hs : notStar e = true) (he : PE X e (tE T X.K .bor x)) {m : Md} (hmd : m ≠ .tst) : PE X (.Call (.Name "isinstance" fp) [e, .Name t tp] [] pos) (tE T X.K m (.pr (.isi U) (.cons x .nil))) :=
  (pe_callB (call_isiP hU) hg hm boot_isinstance (pa_cons he (pa_cons (pe_bltn (v := .ty U) hgt hmt hbt rfl hn hdb) pa_nil) (star_plain hs _ X.env)) (by decide) (by decide) (star_plain hs _ X.env) rfl).mono fun σ H Q ⟨τ, S, o, τ', w, sl, h, q⟩ => by
  obtain ⟨os, r, h1, h2, h3⟩ := pr_inv h
  obtain ⟨y, e1, rfl⟩ := evR1 h1
  refine ⟨τ, S, y, τ', w, sl, e1, fun u H1 S1 F1 p1 sl1 r1 => ⟨u, y, r, rfl, r1, h2, fun z H' n => ?_⟩⟩
  obtain ⟨F, p3, sl3, rs⟩ := fin_new hmd h3 (p1.less (fun _ z => z) fun b (z : F0 b) => z.elim) n τ' σ sl1
  exact q z H' S1 F (p3.weak fun z => by simpa [Ex.quiet, Exs.quiet] using z) sl3 rs
theorem rg_dv {H : Hp} (n : Int) : DVs true K H (rgV 0 n) ((List.range n.toNat).map fun i => PyData.int (i : Nat)) := by
  unfold rgV
  have e : (n - 0).toNat = n.toNat := by simp
  rw [e]
  have : ∀ l : List Nat, DVs true K H (l.map fun i => V.int (0 + (i : Nat))) (l.map fun i => PyData.int (i : Nat)) := by
    intro l
    induction l with
    | nil => exact .nil
    | cons a l ih =>
      simp only [List.map_cons]
      refine .cons ?_ ih
      have : (0 : Int) + (a : Nat) = (a : Nat) := by simp
      rw [this]
      exact .int _
  exact this _
/-- list(range(e)) -/
theorem ge_lrange {e : Expr} {x : Ex} {fp gp p2 pos : Pos} (hc : X.calm = true) (hg : Gl X "list") (hm : X.mg "list" = none) (hg2 : Gl X "range") (hm2 : X.mg "range" = none) (hs : notStar e = true) (he : PE X e (tE T X.K .bor x)) {m : Md} (hmd : m ≠ .tst) :
    PE X (.Call (.Name "list" fp) [.Call (.Name "range" gp) [e] [] p2] [] pos) (tE T X.K m (.pr .lrange (.cons x .nil))) :=
  (pe_listRg hc hg hm (prg_1 hg2 hm2 he (star_plain hs [] X.env)) rfl).mono fun σ H Q ⟨τ, S, o, τ', w, sl, h, q⟩ => by
  obtain ⟨os, r, h1, h2, h3⟩ := pr_inv h
  obtain ⟨y, e1, rfl⟩ := evR1 h1
  obtain ⟨n, e2, h4⟩ := Option.bind_eq_some_iff.mp (show (y.int?.bind fun n => if decide (0 ≤ n) && decide (n ≤ 1000000) then some (oL ((List.range n.toNat).map fun i => .int (i : Nat))) else none) = some r from h2)
  have e3 := int?_eq e2
  subst e3
  split at h4
  · rename_i hz
    simp only [Bool.and_eq_true, decide_eq_true_eq] at hz
    cases h4
    refine ⟨τ, S, _, τ', w, sl, e1, fun u H1 S1 F1 p1 sl1 r1 => ⟨n, BT.of_int r1, .of_le (by omega) (by omega) (by omega) (by omega), fun p hp => ?_⟩⟩
    obtain ⟨F, p3, sl3, rs⟩ := fin_new hmd h3 (p1.less (fun _ z => z) fun b (z : F0 b) => z.elim) (New.lst (rg_dv n) hp) τ' σ sl1
    exact q _ _ S1 F (p3.weak fun z => by simpa [Ex.quiet, Exs.quiet] using z) sl3 rs
  · cases h4
end
end GB

namespace GB
open PySem PySem.Spec PyProof.Rows L2

/-! ## 20. places, methods that change -/
section
variable {X : Cx} {T : Tb} {K : PySem.W.Frag}
mutual
theorem still_quiet : ∀ (e : Ex), e.still = true → e.quiet = true
  | .k _, _ => rfl
  | .v _, _ => rfl
  | .g _, _ => rfl
  | .pr _ as, h => by simp only [Ex.still] at h; simp only [Ex.quiet]; exact stills_quiet as h
  | .ix a i, h => by
    simp only [Ex.still, Bool.and_eq_true] at h
    simp only [Ex.quiet, Bool.and_eq_true]
    exact ⟨still_quiet a h.1, still_quiet i h.2⟩
  | .and _ _, h => by simp [Ex.still] at h
  | .or _ _, h => by simp [Ex.still] at h
  | .not _, h => by simp [Ex.still] at h
  | .ife _ _ _, h => by simp [Ex.still] at h
  | .chain _ _ _ _ _, h => by simp [Ex.still] at h
  | .call _ _ _, h => by simp [Ex.still] at h
  | .callk _ _ _, h => by simp [Ex.still] at h
  | .mut _ _ _ _, h => by simp [Ex.still] at h
  | .tup _, h => by simp [Ex.still] at h
  | .lst _, h => by simp [Ex.still] at h
  | .dic _ _, h => by simp [Ex.still] at h
  | .lc _ _ _ _ _ _, h => by simp [Ex.still] at h
  | .bad, _ => rfl
theorem stills_quiet : ∀ (es : Exs), es.still = true → es.quiet = true
  | .nil, _ => rfl
  | .cons e r, h => by
    simp only [Exs.still, Bool.and_eq_true] at h
    simp only [Exs.quiet, Bool.and_eq_true]
    exact ⟨still_quiet e h.1, stills_quiet r h.2⟩
  | .star _ _, h => by simp [Exs.still] at h
end
mutual
theorem still_ev : ∀ (e : Ex) {τ τ' : SO} {o : O}, e.still = true → ev T .bor e τ = some (o, τ') → τ' = τ
  | .k d, τ, τ', o, _, h => by simp only [ev] at h; cases h; rfl
  | .v i, τ, τ', o, _, h => by
    simp only [ev] at h
    split at h
    · cases h; rfl
    · cases h
  | .g x, τ, τ', o, _, h => by
    simp only [ev] at h
    obtain ⟨d, _, h⟩ := Option.bind_eq_some_iff.mp h
    cases h; rfl
  | .pr p as, τ, τ', o, s, h => by
    obtain ⟨os, r, h1, _, _⟩ := pr_inv h
    simp only [Ex.still] at s
    exact still_evR as s h1
  | .ix a i, τ, τ', o, s, h => by
    simp only [Ex.still, Bool.and_eq_true] at s
    simp only [ev] at h
    obtain ⟨x, t1, h1, h2⟩ := bnd_inv h
    obtain ⟨y, t2, h3, h4⟩ := bnd_inv h2
    obtain ⟨r, h5, h6⟩ := Option.bind_eq_some_iff.mp h4
    cases h6
    rw [if_pos (still_quiet i s.2)] at h1
    rw [still_ev i s.2 h3, still_ev a s.1 h1]
  | .and _ _, _, _, _, h, _ => by simp [Ex.still] at h
  | .or _ _, _, _, _, h, _ => by simp [Ex.still] at h
  | .not _, _, _, _, h, _ => by simp [Ex.still] at h
  | .ife _ _ _, _, _, _, h, _ => by simp [Ex.still] at h
  | .chain _ _ _ _ _, _, _, _, h, _ => by simp [Ex.still] at h
  | .call _ _ _, _, _, _, h, _ => by simp [Ex.still] at h
  | .callk _ _ _, _, _, _, h, _ => by simp [Ex.still] at h
  | .mut _ _ _ _, _, _, _, h, _ => by simp [Ex.still] at h
  | .tup _, _, _, _, h, _ => by simp [Ex.still] at h
  | .lst _, _, _, _, h, _ => by simp [Ex.still] at h
  | .dic _ _, _, _, _, h, _ => by simp [Ex.still] at h
  | .lc _ _ _ _ _ _, _, _, _, h, _ => by simp [Ex.still] at h
  | .bad, _, _, _, _, h => by simp only [ev] at h; cases h
theorem still_evR : ∀ (es : Exs) {τ τ' : SO} {os : List O}, es.still = true → evR T es τ = some (os, τ') → τ' = τ
  | .nil, τ, τ', os, _, h => by simp only [evR] at h; cases h; rfl
  | .cons e r, τ, τ', os, s, h => by
    simp only [Exs.still, Bool.and_eq_true] at s
    simp only [evR] at h
    obtain ⟨o, t1, h1, h2⟩ := bnd_inv h
    obtain ⟨os', t2, h3, h4⟩ := bnd_inv h2
    cases h4
    rw [if_pos (stills_quiet r s.2)] at h1
    rw [still_evR r s.2 h3, still_ev e s.1 h1]
  | .star _ _, _, _, _, h, _ => by simp [Exs.still] at h
end
def rIP (K : PySem.W.Frag) : R2 := fun x y H Q => ∃ a i o, BT K H x a ∧ BT K H y i ∧ pathO [i] a = some o ∧ ∀ v, PathV K H x [y] v → Q v H
theorem ixPP (hu : X.A.units + 1 < cLine) : IxR X (rIP X.K) := by
  intro value slice pins s σ H x y v u Q I rx ry h hs
  obtain ⟨a, i, o, ha, hi, e, q⟩ := h
  cases a with
  | dat d => simp [pathO] at e
  | lst os =>
    simp only [pathO] at e
    obtain ⟨j, ej, eA⟩ := Option.bind_eq_some_iff.mp e
    obtain ⟨n, en, eB⟩ := Option.bind_eq_some_iff.mp eA
    obtain ⟨z, ez, _⟩ := Option.bind_eq_some_iff.mp eB
    rw [int?_eq ej] at hi
    have := hi.of_int
    subst this
    cases ha with
    | lst h1 h2 =>
      obtain ⟨zv, e4, dz⟩ := h2.get ez
      rw [← h2.length] at en
      exact ix_list value slice pins s σ H _ _ v u Q I rx ry ⟨_, _, _, zv, rfl, rfl, .inl h1, at_ix en e4, q _ (.lst h1 en e4 .nil)⟩ hs
  | dic kvs =>
    simp only [pathO] at e
    obtain ⟨k, e1, e2⟩ := Option.bind_eq_some_iff.mp e
    obtain ⟨p, e3, _⟩ := Option.bind_eq_some_iff.mp e2
    have := key_of hi e1
    subst this
    cases ha with
    | dic h1 h2 =>
      obtain ⟨z, e4, dz⟩ := BTk.find h2 e3
      cases rx
      rename_i kvs'
      have g : DGet H _ (kV k) (some z) := .inl ⟨kvs', k, h1, rfl, e4.symm⟩
      exact tail_any (dict_typeIs I g) PySem.F.slot_dict_getitem.lookup (d_getItem hu I g ry fun w' s3 I3 rw' => ⟨z, H, I3, rw', q _ (.dic h1 e4 .nil)⟩) hs
theorem PathV.snoc {H : Hp} : ∀ {v : V} {ks : List V} {w y z : V}, PathV K H v ks w → PathV K H w [y] z → PathV K H v (ks ++ [y]) z
  | _, _, _, _, _, .nil, h => h
  | _, _, _, _, _, .lst a b c d, h => .lst a b c (d.snoc h)
  | _, _, _, _, _, .dic a b d, h => .dic a b (d.snoc h)
theorem pathO_snoc : ∀ (kv : List O) (y : O) (o : O), pathO (kv ++ [y]) o = (pathO kv o).bind fun o0 => pathO [y] o0
  | [], y, o => by simp [pathO]
  | i :: r, y, .dat d => by simp [pathO]
  | i :: r, y, .lst os => by
    simp only [List.cons_append, pathO]
    cases i.int? with
    | none => rfl
    | some j =>
      simp only [Option.bind_some]
      cases ixOf os.length j with
      | none => rfl
      | some n =>
        simp only [Option.bind_some]
        cases os[n]? with
        | none => rfl
        | some x => simp only [Option.bind_some]; exact pathO_snoc r y x
  | i :: r, y, .dic kvs => by
    simp only [List.cons_append, pathO]
    cases keyOf i with
    | none => rfl
    | some k =>
      simp only [Option.bind_some]
      cases kvs.find? fun p => decide (p.1 = k) with
      | none => rfl
      | some q => simp only [Option.bind_some]; exact pathO_snoc r y q.2
def Exs.snoc : Exs → Ex → Exs
  | .nil, x => .cons x .nil
  | .cons e r, x => .cons e (r.snoc x)
  | .star e r, x => .star e (r.snoc x)
theorem evK_snoc : ∀ (ks : Exs) {x : Ex} {τ : SO} {kv : List O}, evK T (ks.snoc x) τ = some kv → ∃ kv0 y, kv = kv0 ++ [y] ∧ evK T ks τ = some kv0 ∧ x.still = true ∧ ev T .bor x τ = some (y, τ)
  | .nil, x, τ, kv, h => by
    simp only [Exs.snoc, evK] at h
    split at h
    · rename_i s
      obtain ⟨⟨y, t⟩, h1, h2⟩ := Option.bind_eq_some_iff.mp h
      cases h2
      have := still_ev x s h1
      subst this
      exact ⟨[], y, rfl, by simp only [evK], s, h1⟩
    · cases h
  | .cons e r, x, τ, kv, h => by
    simp only [Exs.snoc, evK] at h
    split at h
    · rename_i s
      obtain ⟨⟨y, t⟩, h1, h2⟩ := Option.bind_eq_some_iff.mp h
      obtain ⟨kv', h3, h4⟩ := Option.map_eq_some_iff.mp h2
      subst h4
      obtain ⟨kv0, z, e1, e2, e3, e4⟩ := evK_snoc r h3
      subst e1
      refine ⟨y :: kv0, z, rfl, ?_, e3, e4⟩
      simp only [evK]
      rw [if_pos s, h1]
      simp [e2]
    · cases h
  | .star _ _, _, _, _, h => by simp only [Exs.snoc, evK] at h; cases h
/-- the value at a place of a name -/
def tPath (T : Tb) (K : PySem.W.Frag) (i : Nat) (ks : Exs) : TE := fun σ H Q => ∃ τ S kv o on, OwS S H ∧ SL K H τ σ S ∧ evK T ks τ = some kv ∧ τ[i]? = some (some o) ∧ pathO kv o = some on ∧
  ∀ v ksv vn H' S', Pst true H S H' S' F0 → SL K H' τ σ S' → BTs K H' ksv kv → σ[i]? = some (some v) → PathV K H' v ksv vn → Q vn H'
theorem gp_nil {e : Expr} {i : Nat} (h : PE X e (tVar i)) : PE X e (tPath T X.K i .nil) := h.mono fun σ H Q ⟨τ, S, kv, o, on, w, sl, h1, h2, h3, q⟩ => by
  simp only [evK] at h1
  cases h1
  obtain ⟨v, F, e1, _, _⟩ := sl.at h2
  exact ⟨v, e1, q v [] v H S (.refl w) sl .nil e1 .nil⟩
theorem gp_snoc {e k : Expr} {i : Nat} {ks : Exs} {x : Ex} {pos : Pos} (hu : X.A.units + 1 < cLine) (hs : ∀ l u st p, k ≠ .Slice l u st p) (he : PE X e (tPath T X.K i ks)) (hk : PE X k (tE T X.K .bor x)) : PE X (.Subscript e k pos) (tPath T X.K i (ks.snoc x)) :=
  (pe_ix (ixPP hu) he hk (plain_ix hs)).mono fun σ H Q ⟨τ, S, kv, o, on, w, sl, h1, h2, h3, q⟩ => by
  obtain ⟨kv0, y, rfl, e1, e2, e3⟩ := evK_snoc ks h1
  rw [pathO_snoc] at h3
  obtain ⟨o0, h4, h5⟩ := Option.bind_eq_some_iff.mp h3
  refine ⟨τ, S, kv0, o, o0, w, sl, e1, h2, h4, fun v ksv vn H1 S1 p1 sl1 bs ev1 pv => ⟨τ, S1, y, τ, p1.oS, sl1, e3, fun yv H2 S2 F2 p2 sl2 r2 => ?_⟩⟩
  have l2 := p2.le (still_quiet x e2)
  obtain ⟨v2, F, ev2, ot, _⟩ := sl2.at h2
  rw [ev1] at ev2; cases ev2
  have bs2 := BTs.le l2 _ _ bs
  obtain ⟨vn2, Fn, G, pv2, on2, _⟩ := OT.at ot bs2 h4
  have := PathV.one ot bs2 h4 (pv.le l2) pv2
  subst this
  refine ⟨o0, y, on, OT.bt _ _ _ on2, r2, h5, fun z pz => ?_⟩
  have bapp : ∀ {xs : List V} {os : List O}, BTs X.K H2 xs os → BTs X.K H2 (xs ++ [yv]) (os ++ [y]) := fun {xs os} h => by
    induction xs generalizing os with
    | nil => cases h; exact .cons r2 .nil
    | cons a xs ih =>
      cases h with
      | cons h1 h2 => exact .cons h1 (ih h2)
  exact q v (ksv ++ [yv]) z H2 S2 (((p1.less (F' := F0) (fun _ z => z) fun b (z : F0 b) => z.elim).trans (p2.less (F' := F0) (fun _ z => z) fun b (z : F0 b) => z.elim)).less (fun _ z => z) (fun b (z : F0 b) => z.elim) |>.weak fun _ => by simp [still_quiet x e2]) sl2 (bapp bs2) ev1 ((pv.le l2).snoc pz)
end
end GB

namespace GB
open PySem PySem.Spec PyProof.Rows L2

/-! ## 21. methods that change a list -/
section
variable {X : Cx} {T : Tb} {K : PySem.W.Frag}
def rM (K : PySem.W.Frag) (m : Mut) : V → List V → Hp → VK → Prop := fun x ys H Q => ∃ o as r o' F Fa, OT K H x o F ∧ OTs K H ys as Fa ∧ OwS F H ∧ OwS Fa H ∧ Dj F Fa ∧ mutEv m as o = some (r, o') ∧ ∀ w H', MutPost K H x F Fa r o' w H' → Q w H'
theorem mtR {m : Mut} (hm : m ≠ .set) : MtR X (mutId m) (rM X.K m) := fun pins s σ H x xs v us Q I rx rs ⟨o, as, r, o', F, Fa, ho, ha, w, wa, dj, e, q⟩ => mut_ok hm I rx rs ho ha w wa dj e q
theorem pathO_dat {kv : List O} {d : PyData} {on : O} (h : pathO kv (.dat d) = some on) : kv = [] ∧ on = .dat d := by
  cases kv with
  | nil => simp only [pathO, Option.some.injEq] at h; exact ⟨rfl, h.symm⟩
  | cons i r => simp [pathO] at h
/-- what stands at a place, read -/
theorem path_bt {H : Hp} {S : Fp} {τ : SO} {σ : L2.St} {i : Nat} {o on : O} {kv : List O} {v vn : V} {ksv : List V} (sl : SL K H τ σ S) (hi : τ[i]? = some (some o)) (hp : pathO kv o = some on) (bs : BTs K H ksv kv) (e : σ[i]? = some (some v)) (pv : PathV K H v ksv vn) : BT K H vn on := by
  obtain ⟨v2, F, e2, ot, _⟩ := sl.at hi
  rw [e] at e2; cases e2
  obtain ⟨vn2, Fn, G, pv2, on2, _⟩ := OT.at ot bs hp
  have := PathV.one ot bs hp pv pv2
  subst this
  exact OT.bt _ _ _ on2
theorem mut_run {mt : Mut} {i : Nat} {ks as : Exs} {m : Md} (hm : m ≠ .tst) {σ : L2.St} {H : Hp} {Q : VK} (h : tE T K m (.mut mt i ks as) σ H Q) : tPath T K i ks σ H fun x H1 => tyV K "list" x H1 ∧ tA T K as σ H1 fun ys H2 => rM K mt x ys H2 Q := by
  obtain ⟨τ, S, r, τ', w, sl, he, q⟩ := h
  simp only [ev] at he
  split at he
  · rename_i hq
    obtain ⟨kv, hk, he⟩ := Option.bind_eq_some_iff.mp he
    obtain ⟨on, hon, he⟩ := Option.bind_eq_some_iff.mp he
    split at he
    · rename_i hl
      obtain ⟨os, t2, hA, he⟩ := bnd_inv he
      have ho : ∃ o, τ[i]? = some (some o) ∧ pathO kv o = some on := by
        unfold pathIn at hon
        split at hon
        · rename_i o e; exact ⟨o, e, hon⟩
        · cases hon
      obtain ⟨o, hi, hp⟩ := ho
      split at he
      · rename_i o2 hi2
        obtain ⟨⟨r0, z⟩, hM, he⟩ := Option.bind_eq_some_iff.mp he
        obtain ⟨x2, hp2, hM⟩ := Option.bind_eq_some_iff.mp hM
        obtain ⟨⟨r1, x2'⟩, hmu, hM⟩ := Option.bind_eq_some_iff.mp hM
        obtain ⟨z', hz, hM⟩ := Option.map_eq_some_iff.mp hM
        cases hM
        obtain ⟨r', hf, he⟩ := Option.map_eq_some_iff.mp he
        cases he
        have er := fin_own hm hf
        subst er
        refine ⟨τ, S, kv, o, on, w, sl, hk, hi, hp, fun v ksv vn H1 S1 p1 sl1 bs1 e1 pv1 => ⟨?_, τ, S1, os, t2, p1.oS, sl1, hA, fun ys H2 S2 Fa p2 sl2 r2 => ?_⟩⟩
        · have b := path_bt sl1 hi hp bs1 e1 pv1
          cases on with
          | dat d =>
            cases d with
            | list ds =>
              obtain ⟨a, xs, ea, t, _⟩ := b.list rfl rfl
              subst ea
              exact .inl ⟨rfl, xs, .inl t⟩
            | _ => simp [O.isList] at hl
          | lst os =>
            cases b with
            | lst h1 h2 => exact .inl ⟨rfl, _, .inl h1⟩
          | dic _ => simp [O.isList] at hl
        · obtain ⟨v', F, S3, e2, ot, sl3, dj, sub⟩ := sl2.take hi2
          rw [e1] at e2; cases e2
          have bs2 : BTs K H2 ksv kv := by
            by_cases hn : ks.isNil = true
            · cases ks with
              | nil =>
                simp only [evK] at hk
                cases hk
                cases bs1
                exact .nil
              | _ => simp [Exs.isNil] at hn
            · have : as.quiet = true := by simpa [hn] using hq
              exact BTs.le (p2.le this) _ _ bs1
          obtain ⟨vn2, Fn, G, pv2, on2, f1, f2, f3⟩ := OT.at ot bs2 hp2
          have ev2 : vn = vn2 := by
            by_cases hn : ks.isNil = true
            · cases ks with
              | nil =>
                simp only [evK] at hk
                cases hk
                cases bs1
                cases pv1
                cases pv2
                rfl
              | _ => simp [Exs.isNil] at hn
            · have : as.quiet = true := by simpa [hn] using hq
              exact PathV.one ot bs2 hp2 (pv1.le (p2.le this)) pv2
          subst ev2
          have wS2 := p2.oS
          have fnS : ∀ b, Fn b → S2 b := fun b hb => sub b (.inl (f1 b (.inl hb)))
          have gS : ∀ b, G b → S2 b := fun b hb => sub b (.inl (f1 b (.inr hb)))
          refine ⟨x2, os, _, x2', Fn, Fa, on2, r2, fun b hb => wS2 b (fnS b hb), p2.oF, fun b x y => p2.dj b y (fnS b x), hmu, fun u H' ⟨Fr, F', hr, ho', dj', sb, kp, ow⟩ => ?_⟩
          have djG : Dj F' G := fun b x y => by
            rcases sb b (.inr x) with z | z
            · exact f2 b z y
            · exact p2.dj b z (gS b y)
          obtain ⟨o', ep, ot'⟩ := f3 H' x2' F' Fn kp (fun b hb => wS2 b (fnS b hb)) (fun _ z => z) ho' djG
          rw [hz] at ep; cases ep
          have dS3 : Dj (fun b => F' b ∨ G b) S3 := fun b x y => by
            rcases x with x | x
            · rcases sb b (.inr x) with z | z
              · exact dj b (f1 b (.inl z)) y
              · exact p2.dj b z (sub b (.inr y))
            · exact dj b (f1 b (.inr x)) y
          have sl4 := (sl3.keep (T := Fn) (fun b hb => wS2 b (fnS b hb)) kp fun b x y => dj b (f1 b (.inl y)) x).back ot' dS3 e1
          rw [List.set_set] at sl4
          have p12 := (p1.less (F' := F0) (fun _ z => z) fun b (z : F0 b) => z.elim).trans p2
          have new2 : ∀ b, S2 b ∨ Fa b → S b ∨ H b = none := fun b hb => p12.new b (hb.imp id .inr)
          refine q u H' _ Fr ⟨fun b oo e n => ?_, fun b hb => ?_, fun b hb => ?_, fun b x y => ?_, fun z => by simp [Ex.quiet] at z⟩ sl4 (res_of hm hr)
          · refine kp b oo (p12.keep b oo e n) fun z => ?_
            rcases new2 b (.inl (fnS b z)) with y | y
            · exact n y
            · rw [e] at y; cases y
          · have stay : ∀ b, S2 b → ¬ Fn b → Ow H' b := fun b hb n => by
              obtain ⟨oo, e, w'⟩ := wS2 b hb
              exact ⟨oo, kp b oo e n, w'⟩
            rcases hb with ((h | h) | h) | h
            · exact ow b (.inr h)
            · exact stay b (gS b h) fun z => f2 b z h
            · exact stay b (sub b (.inr h)) fun z => dj b (f1 b (.inl z)) h
            · exact ow b (.inl h)
          · have inS : ∀ b, Fn b ∨ Fa b → S2 b ∨ Fa b := fun b hb => hb.imp (fnS b) id
            rcases hb with ((h | h) | h) | h
            · exact new2 b (inS b (sb b (.inr h)))
            · exact new2 b (.inl (gS b h))
            · exact new2 b (.inl (sub b (.inr h)))
            · exact new2 b (inS b (sb b (.inl h)))
          · rcases y with (y | y) | y
            · exact dj' b x y
            · rcases sb b (.inl x) with z | z
              · exact f2 b z y
              · exact p2.dj b z (gS b y)
            · rcases sb b (.inl x) with z | z
              · exact dj b (f1 b (.inl z)) y
              · exact p2.dj b z (sub b (.inr y))
      · cases he
    · cases he
  · cases he
theorem ga_nil_run {σ : L2.St} {H : Hp} {R : List V → Hp → Prop} (h : tA T K .nil σ H R) : R [] H := by
  obtain ⟨τ, S, os, τ', w, sl, he, q⟩ := h
  simp only [evA] at he
  cases he
  exact q [] H S F0 (.refl w) sl .nil
/-- the name of a changing method, its facts -/
theorem base_of {o : Expr} {m : Str} {env : Env} (h : ∀ f as kws p, o ≠ .Call f as kws p) : attributeBase o m env (eval o env) = eval o env := by
  cases o <;> first | rfl | exact absurd rfl (h _ _ _ _)
theorem star_all : ∀ {es : List Expr} {env : Env} {pos : Pos}, es.all notStar = true → (backTo pos (starEach es env)).any (·.1) = false ∧ (backTo pos (starEach es env)).all (fun x => !x.1) = true
  | [], _, _, _ => ⟨rfl, rfl⟩
  | e :: es, env, pos, h => by
    simp only [List.all_cons, Bool.and_eq_true] at h
    rw [star_plain h.1]
    obtain ⟨a, b⟩ := star_all (es := es) (env := env) (pos := pos) h.2
    exact ⟨by show (false || (backTo pos (starEach es env)).any (·.1)) = false; rw [a]; rfl, by show (!false && (backTo pos (starEach es env)).all (fun x => !x.1)) = true; rw [b]; rfl⟩
end
end GB

namespace GB
open PySem PySem.Spec PyProof.Rows L2

section
variable {X : Cx} {T : Tb} {K : PySem.W.Frag}
theorem ge_mutA {mt : Mut} {name : Str} {o e : Expr} {es : List Expr} {i : Nat} {ks as : Exs} {apos cpos : Pos} (hm : mt ≠ .set) (slot : Slot "list" name (mutId mt)) (hty : typeOf (.builtin (mutId mt)) = pure (.type "method_descriptor"))
    (hp : PE X o (tPath T X.K i ks)) (ha : PA X (e :: es) (tA T X.K as)) (hs : (e :: es).all notStar = true) (hn : (e :: es).length < 20) (hl : (apos.endLine == cpos.line) = true) (hc : ∀ f as kws p, o ≠ .Call f as kws p) {m : Md} (hmd : m ≠ .tst) :
    PE X (.Call (.Attribute o name apos) (e :: es) [] cpos) (tE T X.K m (.mut mt i ks as)) := by
  have hs' : notStar e = true ∧ es.all notStar = true := by simpa using hs
  refine (pe_bm F.plainAttrs_list slot hty (mtR hm) hp ha (base_of hc) ?_ hl (star_plain hs'.1 es X.env) (star_all hs'.2).1).mono fun σ H Q h => ?_
  · rw [(star_all (pos := cpos) hs).2]
    simp only [Bool.true_and, Bool.and_eq_true, decide_eq_true_eq]
    refine ⟨rfl, ?_⟩
    show (e :: es).length + 0 + 0 < 30
    omega
  · exact mut_run hmd h
theorem ge_mut0 {name : Str} {o : Expr} {i : Nat} {ks : Exs} {apos cpos : Pos} (slot : Slot "list" name "list.pop") (hty : typeOf (.builtin "list.pop") = pure (.type "method_descriptor"))
    (hp : PE X o (tPath T X.K i ks)) (hl : (apos.endLine == cpos.line) = true) (hc : ∀ f as kws p, o ≠ .Call f as kws p) {m : Md} (hmd : m ≠ .tst) :
    PE X (.Call (.Attribute o name apos) [] [] cpos) (tE T X.K m (.mut .pop0 i ks .nil)) := by
  refine (pe_bm0 F.plainAttrs_list slot hty (mtR (m := .pop0) (by simp)) hp (base_of hc) hl).mono fun σ H Q h => ?_
  have z := mut_run hmd h
  obtain ⟨τ, S, kv, o, on, w, sl, h1, h2, h3, q⟩ := z
  refine ⟨τ, S, kv, o, on, w, sl, h1, h2, h3, fun v ksv vn H1 S1 p1 sl1 bs e1 pv => ?_⟩
  obtain ⟨ty, r⟩ := q v ksv vn H1 S1 p1 sl1 bs e1 pv
  exact ⟨ty, ga_nil_run r⟩
theorem str_eq {a b : Str} (h : (a == b) = true) : a = b := eq_of_beq h
theorem ge_mut {mt : Mut} {name : Str} {o : Expr} {es : List Expr} {i : Nat} {ks as : Exs} {apos cpos : Pos} (hmo : mutOf name es.length = some mt)
    (hp : PE X o (tPath T X.K i ks)) (ha : PA X es (tA T X.K as)) (hs : es.all notStar = true) (hl : (apos.endLine == cpos.line) = true) (hc : ∀ f as kws p, o ≠ .Call f as kws p) (h0 : es = [] → as = .nil) {m : Md} (hmd : m ≠ .tst) :
    PE X (.Call (.Attribute o name apos) es [] cpos) (tE T X.K m (.mut mt i ks as)) := by
  unfold mutOf at hmo
  split at hmo
  · rename_i h
    cases hmo
    simp only [Bool.and_eq_true] at h
    have e1 := str_eq h.1
    have e2 : es.length = 1 := eq_of_beq h.2
    subst e1
    cases es with
    | nil => simp at e2
    | cons e es => exact ge_mutA (mt := .append) (by simp) F.slot_list_append F.type_list_append hp ha hs (by rw [e2]; decide) hl hc hmd
  · split at hmo
    · rename_i h
      cases hmo
      simp only [Bool.and_eq_true] at h
      have e1 := str_eq h.1
      have e2 : es.length = 1 := eq_of_beq h.2
      subst e1
      cases es with
      | nil => simp at e2
      | cons e es => exact ge_mutA (mt := .extend) (by simp) F.slot_list_extend F.type_list_extend hp ha hs (by rw [e2]; decide) hl hc hmd
    · split at hmo
      · rename_i h
        cases hmo
        simp only [Bool.and_eq_true] at h
        have e1 := str_eq h.1
        have e2 : es.length = 2 := eq_of_beq h.2
        subst e1
        cases es with
        | nil => simp at e2
        | cons e es => exact ge_mutA (mt := .insert) (by simp) F.slot_list_insert F.type_list_insert hp ha hs (by rw [e2]; decide) hl hc hmd
      · split at hmo
        · rename_i h
          cases hmo
          simp only [Bool.and_eq_true] at h
          have e1 := str_eq h.1
          have e2 : es.length = 0 := eq_of_beq h.2
          subst e1
          have := List.eq_nil_of_length_eq_zero e2
          subst this
          rw [h0 rfl]
          exact ge_mut0 F.slot_list_pop F.type_list_pop hp hl hc hmd
        · split at hmo
          · rename_i h
            cases hmo
            simp only [Bool.and_eq_true] at h
            have e1 := str_eq h.1
            have e2 : es.length = 1 := eq_of_beq h.2
            subst e1
            cases es with
            | nil => simp at e2
            | cons e es => exact ge_mutA (mt := .pop1) (by simp) F.slot_list_pop F.type_list_pop hp ha hs (by rw [e2]; decide) hl hc hmd
          · cases hmo
theorem PEs.snoc_inv : ∀ {es : List Expr} {k : Expr} {xs : Exs}, PEs X T (es ++ [k]) xs → ∃ xs0 xk, xs = xs0.snoc xk ∧ PEs X T es xs0 ∧ ∀ m, m ≠ .tst → PE X k (tE T X.K m xk)
  | [], k, xs, h => by
    cases h with
    | cons h1 h2 => cases h2; exact ⟨.nil, _, rfl, .nil, h1⟩
  | e :: es, k, xs, h => by
    cases h with
    | cons h1 h2 =>
      obtain ⟨xs0, xk, rfl, p, q⟩ := PEs.snoc_inv h2
      exact ⟨.cons _ xs0, xk, rfl, .cons h1 p, q⟩
/-- the place of a text -/
theorem ge_path {C : TC} (hu : X.A.units + 1 < cLine) (hv : ∀ (x : Str) (p : Pos) (i : Nat), isVis C.sc x = true → odd x = false → slot C.N x = some i → PE X (.Name x p) (tVar i)) : ∀ (o : Expr) {i : Nat} {es : List Expr} {xs : Exs}, pathOf C o = some (i, es) → PEs X T es xs → PE X o (tPath T X.K i xs)
  | .Name x p, i, es, xs, h, hp => by
    unfold pathOf at h
    split at h
    · rename_i hc
      simp only [Bool.and_eq_true, Bool.not_eq_true'] at hc
      obtain ⟨j, e1, e2⟩ := Option.map_eq_some_iff.mp h
      cases e2
      cases hp
      exact gp_nil (hv x p _ hc.1 hc.2 e1)
    · cases h
  | .Subscript e k p, i, es, xs, h, hp => by
    unfold pathOf at h
    split at h
    · cases h
    · rename_i hns
      obtain ⟨⟨j, es0⟩, e1, e2⟩ := Option.map_eq_some_iff.mp h
      cases e2
      obtain ⟨xs0, xk, rfl, p0, pk⟩ := hp.snoc_inv
      exact gp_snoc hu (fun l u st q => hns l u st q) (ge_path hu hv e e1 p0) (pk .bor (by simp))
theorem path_call {C : TC} {o : Expr} {p : Nat × List Expr} (h : pathOf C o = some p) : ∀ f as kws q, o ≠ .Call f as kws q := by
  rintro f as kws q rfl
  simp [pathOf] at h
end
end GB

namespace GB
open PySem PySem.Spec PyProof.Rows L2

/-! ## 22. calls of defs -/
section
variable {K : PySem.W.Frag} {H H1 H2 : Hp} {S S1 F : Fp} {q : Bool}
theorem Pst.frz (p : Pst q H S H1 S1 F) (k : Kp F H1 H2) (l : Le H1 H2) : Pst q H S H2 S1 F0 where
  keep := fun b o e n => k b o (p.keep b o e n) fun z => by
    rcases p.new b (.inr z) with y | y
    · exact n y
    · rw [e] at y; cases y
  own := fun b hb => by
    have hs := hb.elim id (fun z : F0 b => z.elim)
    obtain ⟨o, e, w⟩ := p.oS b hs
    exact ⟨o, k b o e fun z => p.dj b z hs, w⟩
  new := fun b hb => p.new b (.inl (hb.elim id False.elim))
  dj := fun _ z _ => z
  le := fun z => (p.le z).trans l
/-- the values at the marked places -/
def pick : List Bool → List V → List V
  | true :: io, v :: vs => v :: pick io vs
  | false :: io, _ :: vs => pick io vs
  | _, _ => []
inductive CArgs (K : PySem.W.Frag) (H : Hp) (σ : L2.St) : List Bool → Exs → List V → List O → Fp → Prop
  | nil {F : Fp} : CArgs K H σ [] .nil [] [] F
  | var {io : List Bool} {e : Ex} {r : Exs} {v : V} {vs : List V} {os : List O} {F : Fp} {i : Nat} : e.nm? = some i → σ[i]? = some (some v) → CArgs K H σ io r vs os F → CArgs K H σ (true :: io) (.cons e r) (v :: vs) os F
  | own {io : List Bool} {e : Ex} {r : Exs} {v : V} {vs : List V} {o : O} {os : List O} {F F1 F2 : Fp} : e.nm? = none → OT K H v o F1 → CArgs K H σ io r vs os F2 → Dj F1 F2 → (∀ b, F1 b ∨ F2 b → F b) → CArgs K H σ (true :: io) (.cons e r) (v :: vs) (o :: os) F
  | frz {io : List Bool} {e : Ex} {r : Exs} {v : V} {vs : List V} {d : PyData} {os : List O} {F : Fp} : DV true K H v d → CArgs K H σ io r vs os F → CArgs K H σ (false :: io) (.cons e r) (v :: vs) (.dat d :: os) F
theorem CArgs.keep {T : Fp} {σ : L2.St} (w : OwS T H) (k : Kp T H H1) : ∀ {io : List Bool} {as : Exs} {vs : List V} {os : List O} {F : Fp}, CArgs K H σ io as vs os F → Dj F T → CArgs K H1 σ io as vs os F
  | _, _, _, _, _, .nil, _ => .nil
  | _, _, _, _, _, .var a b c, j => .var a b (c.keep w k j)
  | _, _, _, _, _, .own a b c d e, j => .own a (OT.keep w k _ _ _ b (j.mono (fun x hx => e x (.inl hx)) fun _ z => z)) (c.keep w k (j.mono (fun x hx => e x (.inr hx)) fun _ z => z)) d e
  | _, _, _, _, _, .frz a c, j => .frz (DV.keep w k _ _ a) (c.keep w k j)
theorem CArgs.length {σ : L2.St} : ∀ {io : List Bool} {as : Exs} {vs : List V} {os : List O} {F : Fp}, CArgs K H σ io as vs os F → vs.length = io.length
  | _, _, _, _, _, .nil => rfl
  | _, _, _, _, _, .var _ _ c => by simp [c.length]
  | _, _, _, _, _, .own _ _ c _ _ => by simp [c.length]
  | _, _, _, _, _, .frz _ c => by simp [c.length]
theorem in_none {σ : L2.St} : ∀ {io : List Bool} {as : Exs} {vs : List V} {os args : List O} {F : Fp} {τ τ1 : SO}, CArgs K H σ io as vs os F → io.all (! ·) = true → ioIn io as os τ = some (args, τ1) → τ1 = τ ∧ OTs K H vs args F0
  | _, _, _, _, args, _, τ, τ1, .nil, _, h => by
    simp only [ioIn] at h
    cases h; exact ⟨rfl, .nil⟩
  | _, _, _, _, args, _, τ, τ1, .var _ _ c, a, h => by simp at a
  | _, _, _, _, args, _, τ, τ1, .own _ _ c _ _, a, h => by simp at a
  | _, _, _, _, args, _, τ, τ1, .frz a c, al, h => by
    simp only [ioIn] at h
    obtain ⟨p, h1, h2⟩ := Option.map_eq_some_iff.mp h
    cases h2
    obtain ⟨e1, e2⟩ := in_none c (by simpa using al) h1
    exact ⟨e1, .cons (F1 := F0) (F2 := F0) (.dat a) e2 (fun _ z _ => z) fun b hb => hb.elim id id⟩
theorem in_ok {σ : L2.St} : ∀ {io : List Bool} {as : Exs} {vs : List V} {os args : List O} {F S : Fp} {τ τ1 : SO}, CArgs K H σ io as vs os F → SL K H τ σ S → Dj F S → ioIn io as os τ = some (args, τ1) →
    ∃ F' S', OTs K H vs args F' ∧ SL K H τ1 σ S' ∧ Dj F' S' ∧ ∀ b, F' b ∨ S' b → F b ∨ S b
  | _, _, _, _, args, F, S, τ, τ1, .nil, sl, j, h => by
    simp only [ioIn] at h
    cases h
    exact ⟨F0, S, .nil, sl, fun _ z => z.elim, fun b hb => .inr (hb.elim False.elim id)⟩
  | _, _, _, _, args, F, S, τ, τ1, .var e1 e2 c, sl, j, h => by
    simp only [ioIn, e1] at h
    split at h
    · rename_i o eo
      obtain ⟨p, h1, h2⟩ := Option.map_eq_some_iff.mp h
      cases h2
      obtain ⟨v', Fv, S1, e3, ot, sl1, dj, sub⟩ := sl.take eo
      rw [e2] at e3; cases e3
      obtain ⟨F', S', o', sl', dj', sub'⟩ := in_ok c sl1 (j.mono (fun _ z => z) fun b z => sub b (.inr z)) h1
      have dF : Dj Fv F' := fun b x y => by
        rcases sub' b (.inl y) with z | z
        · exact j b z (sub b (.inl x))
        · exact dj b x z
      refine ⟨fun b => Fv b ∨ F' b, S', .cons ot o' dF fun _ z => z, sl', fun b x y => ?_, fun b hb => ?_⟩
      · rcases x with x | x
        · rcases sub' b (.inr y) with z | z
          · exact j b z (sub b (.inl x))
          · exact dj b x z
        · exact dj' b x y
      · rcases hb with (hb | hb) | hb
        · exact .inr (sub b (.inl hb))
        · exact (sub' b (.inl hb)).imp id fun z => sub b (.inr z)
        · exact (sub' b (.inr hb)).imp id fun z => sub b (.inr z)
    · cases h
  | _, _, _, _, args, F, S, τ, τ1, .own e1 a c d e, sl, j, h => by
    rename_i F1 F2
    simp only [ioIn, e1] at h
    obtain ⟨p, h1, h2⟩ := Option.map_eq_some_iff.mp h
    cases h2
    obtain ⟨F', S', o', sl', dj', sub'⟩ := in_ok c sl (j.mono (fun b z => e b (.inr z)) fun _ z => z) h1
    have dF : Dj F1 F' := fun b x y => by
      rcases sub' b (.inl y) with z | z
      · exact d b x z
      · exact j b (e b (.inl x)) z
    refine ⟨fun b => F1 b ∨ F' b, S', .cons a o' dF fun _ z => z, sl', fun b x y => ?_, fun b hb => ?_⟩
    · rcases x with x | x
      · rcases sub' b (.inr y) with z | z
        · exact d b x z
        · exact j b (e b (.inl x)) z
      · exact dj' b x y
    · rcases hb with (hb | hb) | hb
      · exact .inl (e b (.inl hb))
      · exact (sub' b (.inl hb)).imp (fun z => e b (.inr z)) id
      · exact (sub' b (.inr hb)).imp (fun z => e b (.inr z)) id
  | _, _, _, _, args, F, S, τ, τ1, .frz a c, sl, j, h => by
    simp only [ioIn] at h
    obtain ⟨p, h1, h2⟩ := Option.map_eq_some_iff.mp h
    cases h2
    obtain ⟨F', S', o', sl', dj', sub'⟩ := in_ok c sl j h1
    exact ⟨F', S', .cons (F1 := F0) (.dat a) o' (fun _ z => z.elim) fun b hb => hb.elim False.elim id, sl', dj', sub'⟩
theorem out_ok {σ : L2.St} {H0 : Hp} : ∀ {io : List Bool} {as : Exs} {vs : List V} {os outs : List O} {F Fo S : Fp} {τ τ1 : SO}, CArgs K H0 σ io as vs os F → SL K H τ σ S → OTs K H (pick io vs) outs Fo → Dj Fo S → ioOut io as outs τ = some τ1 → SL K H τ1 σ fun b => Fo b ∨ S b
  | _, _, _, _, outs, F, Fo, S, τ, τ1, .nil, sl, o, j, h => by
    simp only [pick] at o
    cases o
    simp only [ioOut] at h
    cases h
    exact sl.wide fun b z => .inr z
  | _, _, _, _, outs, F, Fo, S, τ, τ1, .var e1 e2 c, sl, o, j, h => by
    simp only [pick] at o
    cases o with
    | cons o1 o2 o3 o4 =>
      rename_i F1 F2
      simp only [ioOut, e1] at h
      have sl1 := sl.back (i := _) o1 (j.mono (fun b z => o4 b (.inl z)) fun _ z => z) e2
      have := out_ok c sl1 o2 (fun b x y => y.elim (fun z => o3 b z x) fun z => j b (o4 b (.inr x)) z) h
      exact this.wide fun b hb => hb.elim (fun z => .inl (o4 b (.inr z))) fun z => z.imp (fun z => o4 b (.inl z)) id
  | _, _, _, _, outs, F, Fo, S, τ, τ1, .own e1 a c d e, sl, o, j, h => by
    simp only [pick] at o
    cases o with
    | cons o1 o2 o3 o4 =>
      rename_i F1 F2
      simp only [ioOut, e1] at h
      have := out_ok c sl o2 (j.mono (fun b z => o4 b (.inr z)) fun _ z => z) h
      exact this.wide fun b hb => hb.imp (fun z => o4 b (.inr z)) id
  | _, _, _, _, outs, F, Fo, S, τ, τ1, .frz a c, sl, o, j, h => by
    simp only [pick] at o
    simp only [ioOut] at h
    exact out_ok c sl o j h
end

/-- behind a call -/
def CallPost (K : PySem.W.Frag) (H : Hp) (io : List Bool) (vs : List V) (F : Fp) (r : O) (outs : List O) (v : V) (H' : Hp) : Prop :=
  ∃ Fr Fo, OT K H' v r Fr ∧ OTs K H' (pick io vs) outs Fo ∧ Dj Fr Fo ∧ (∀ b, Fr b ∨ Fo b → F b ∨ H b = none) ∧ OwS (fun b => Fr b ∨ Fo b) H' ∧ Kp F H H'
def spOf (T : Tb) (K : PySem.W.Frag) (f : Str) (io : List Bool) : Sp := fun vs H Q _ => vs.length = io.length ∧ ∃ as F r outs, OTs K H vs as F ∧ OwS F H ∧ T.ap f as = some (r, outs) ∧ ∀ v H', CallPost K H io vs F r outs v H' → Q v H'

section
variable {X : Cx} {T : Tb} {K : PySem.W.Frag}
/-- an expression whose value freezes -/
def tF (T : Tb) (K : PySem.W.Frag) (x : Ex) : TE := fun σ H Q => ∃ τ S o τ', OwS S H ∧ SL K H τ σ S ∧ ev T .own x τ = some (o, τ') ∧
  ∀ v H' S', Pst x.quiet H S H' S' F0 → SL K H' τ' σ S' → DV true K H' v o.toD → Q v H'
theorem ge_frz {e : Expr} {x : Ex} (h : PE X e (tE T X.K .own x)) : PE X e (tF T X.K x) := h.ghost fun σ H Q ⟨τ, S, o, τ', w, sl, he, q⟩ => by
  refine ⟨τ, S, o, τ', w, sl, he, fun v H1 S1 F p sl1 r pins s I => ?_⟩
  obtain ⟨H2, I2, d, k, l⟩ := OT.freeze _ _ F _ (show OT X.K H1 v o F from r) p.oF I
  exact ⟨H2, I2, q v H2 S1 (p.frz k l) (sl1.keep p.oF k p.dj.symm) d⟩
def tCa (T : Tb) (K : PySem.W.Frag) (io : List Bool) (as : Exs) : TA := fun σ H Q => ∃ τ S os τ', OwS S H ∧ SL K H τ σ S ∧ evC T io as τ = some (os, τ') ∧
  ∀ vs H' S' F, Pst as.quiet H S H' S' F → SL K H' τ' σ S' → CArgs K H' σ io as vs os F → Q vs H'
inductive PCs (X : Cx) (T : Tb) : List Bool → List Expr → Exs → Prop
  | nil : PCs X T [] [] .nil
  | cons {b : Bool} {io : List Bool} {e : Expr} {es : List Expr} {x : Ex} {xs : Exs} : notStar e = true → PE X e (tE T X.K .own x) → (∀ i, x.nm? = some i → PE X e (tVar i)) → PCs X T io es xs → PCs X T (b :: io) (e :: es) (.cons x xs)
theorem nm_eq {x : Ex} {i : Nat} (h : x.nm? = some i) : x = .v i := by
  cases x <;> simp [Ex.nm?] at h
  rw [h]
theorem ga_C : ∀ {io : List Bool} {es : List Expr} {as : Exs}, PCs X T io es as → PA X es (tCa T X.K io as)
  | _, _, _, .nil => pa_nil.mono fun σ H Q ⟨τ, S, os, τ', w, sl, h, q⟩ => by
    simp only [evC] at h
    cases h
    exact q [] H S F0 (.refl w) sl .nil
  | b :: io, e :: es, .cons x xs, .cons hs he hv hr => by
    have ih := ga_C hr
    by_cases hb : b = true
    · subst hb
      cases hn : x.nm? with
      | some i =>
        refine (pa_cons (hv i hn) ih (star_plain hs es X.env)).mono fun σ H Q ⟨τ, S, os, τ', w, sl, h, q⟩ => ?_
        simp only [evC, hn] at h
        have hx : x.quiet = true := by rw [nm_eq hn]; rfl
        split at h
        · rename_i o eo
          obtain ⟨v, F, e1, _, _⟩ := sl.at eo
          refine ⟨v, e1, τ, S, os, τ', w, sl, h, fun vs H2 S2 F2 p2 sl2 c2 => ?_⟩
          exact q (v :: vs) H2 S2 F2 (p2.weak fun z => by simp only [Exs.quiet, Bool.and_eq_true] at z; exact z.2) sl2 (.var hn e1 c2)
        · cases h
      | none =>
        refine (pa_cons he ih (star_plain hs es X.env)).mono fun σ H Q ⟨τ, S, os, τ', w, sl, h, q⟩ => ?_
        simp only [evC, hn] at h
        obtain ⟨o, t1, h1, h2⟩ := bnd_inv h
        obtain ⟨os', t2, h3, h4⟩ := bnd_inv h2
        cases h4
        refine ⟨τ, S, o, t1, w, sl, h1, fun v H1 S1 F1 p1 sl1 r1 => ⟨t1, S1, os', _, p1.oS, sl1, h3, fun vs H2 S2 F2 p2 sl2 c2 => ?_⟩⟩
        exact q (v :: vs) H2 S2 _ (p1.trans p2) sl2 (.own hn (OT.keep p1.oS p2.keep _ _ _ r1 p1.dj) c2 (p1.dj2 p2) fun _ z => z)
    · have : b = false := by simpa using hb
      subst this
      refine (pa_cons (ge_frz he) ih (star_plain hs es X.env)).mono fun σ H Q ⟨τ, S, os, τ', w, sl, h, q⟩ => ?_
      simp only [evC] at h
      obtain ⟨o, t1, h1, h2⟩ := bnd_inv h
      obtain ⟨os', t2, h3, h4⟩ := bnd_inv h2
      cases h4
      refine ⟨τ, S, o, t1, w, sl, h1, fun v H1 S1 p1 sl1 r1 => ⟨t1, S1, os', _, p1.oS, sl1, h3, fun vs H2 S2 F2 p2 sl2 c2 => ?_⟩⟩
      exact q (v :: vs) H2 S2 F2 ((p1.trans p2).less (fun _ z => z) fun _ z => .inr z) sl2 (.frz (DV.keep p1.oS p2.keep _ _ r1) c2)

theorem CArgs.free {H : Hp} {σ : L2.St} : ∀ {io : List Bool} {as : Exs} {vs : List V} {os : List O} {F : Fp}, CArgs K H σ io as vs os F → True := fun _ => trivial
theorem call_run {f : Str} {io : List Bool} {as : Exs} {m : Md} (hm : m ≠ .tst) {E : XK} {σ : L2.St} {H : Hp} {Q : VK} (h : tE T K m (.call f io as) σ H Q) : tCall (spOf T K f io) [] E (tCa T K io as) σ H Q := by
  obtain ⟨τ, S, o, τ', w, sl, he, q⟩ := h
  simp only [ev] at he
  obtain ⟨os, t1, h1, he⟩ := bnd_inv he
  obtain ⟨⟨args, t2⟩, h2, he⟩ := Option.bind_eq_some_iff.mp he
  obtain ⟨⟨r, outs⟩, h3, he⟩ := Option.bind_eq_some_iff.mp he
  obtain ⟨t3, h4, he⟩ := Option.bind_eq_some_iff.mp he
  obtain ⟨r', h5, he⟩ := Option.map_eq_some_iff.mp he
  cases he
  have er := fin_own hm h5
  subst er
  refine ⟨τ, S, os, t1, w, sl, h1, fun vs H1 S1 F p1 sl1 ca => ?_⟩
  obtain ⟨F', S', oa, sl2, dj, sub, hq⟩ : ∃ F' S', OTs K H1 vs args F' ∧ SL K H1 t2 σ S' ∧ Dj F' S' ∧ (∀ b, F' b ∨ S' b → F b ∨ S1 b) ∧ (io.all (! ·) = true → ∀ b, ¬ F' b) := by
    by_cases al : io.all (! ·) = true
    · obtain ⟨e1, e2⟩ := in_none ca al h2
      have e1 : t2 = t1 := e1
      subst e1
      exact ⟨F0, S1, e2, sl1, fun _ z => z.elim, fun b hb => .inr (hb.elim False.elim id), fun _ b z => z⟩
    · obtain ⟨F', S', a, b, c, d⟩ := in_ok ca sl1 p1.dj h2
      exact ⟨F', S', a, b, c, d, fun z => absurd z al⟩
  have own1 : ∀ b, F b ∨ S1 b → Ow H1 b := fun b hb => hb.elim (p1.oF b) (p1.oS b)
  have new1 : ∀ b, F b ∨ S1 b → S b ∨ H b = none := fun b hb => p1.new b (hb.symm)
  rw [List.append_nil]
  refine ⟨ca.length, args, F', _, outs, oa, fun b hb => own1 b (sub b (.inl hb)), h3, fun v H' ⟨Fr, Fo, hr, ho, dro, sb, ow, kp⟩ => ?_⟩
  have sl3 := sl2.keep (fun b hb => own1 b (sub b (.inl hb))) kp dj.symm
  have dS : ∀ b, Fr b ∨ Fo b → ¬ S' b := fun b hb hs => by
    rcases sb b hb with z | z
    · exact dj b z hs
    · obtain ⟨oo, e, _⟩ := own1 b (sub b (.inr hs))
      rw [z] at e; cases e
  have sl4 := out_ok ca sl3 ho (fun b x y => dS b (.inr x) y) h4
  refine q v H' _ Fr ⟨fun b oo e n => ?_, fun b hb => ?_, fun b hb => ?_, fun b x y => ?_, fun z => ?_⟩ sl4 (res_of hm hr)
  · refine kp b oo (p1.keep b oo e n) fun z => ?_
    rcases new1 b (sub b (.inl z)) with y | y
    · exact n y
    · rw [e] at y; cases y
  · rcases hb with (hb | hb) | hb
    · exact ow b (.inr hb)
    · obtain ⟨oo, e, ww⟩ := own1 b (sub b (.inr hb))
      exact ⟨oo, kp b oo e fun z => dj b z hb, ww⟩
    · exact ow b (.inl hb)
  · have nf : ∀ b, Fr b ∨ Fo b → S b ∨ H b = none := fun b hb => by
      rcases sb b hb with z | z
      · exact new1 b (sub b (.inl z))
      · exact p1.new2 (.inr z)
    rcases hb with (hb | hb) | hb
    · exact nf b (.inr hb)
    · exact new1 b (sub b (.inr hb))
    · exact nf b (.inl hb)
  · rcases y with y | y
    · exact dro b x y
    · exact dS b (.inl x) y
  · simp only [Ex.quiet, Bool.and_eq_true] at z
    exact (p1.le z.2).trans fun b oo e => .inl (kp b oo e (hq z.1 b))
/-- a def's promise where no repr is under way -/
structure FnG (P : Program) (w : World) (K : PySem.W.Frag) (mg : Str → Option Value) (base : Heap) (CX : CXT) (k : Nat) (f : Addr) (fd : FuncData) (ps : List Str) (sp : Sp) : Prop where
  len : ∀ xs H Q E, sp xs H Q E → xs.length = ps.length
  go : ∀ (A : Around) (up : List Env) (s : Shared) (H : Hp) (ar : Args) (us : List Value) (xs : List V) (Q : VK) (E : XK), Room k A → A.guards = some [] → Env0 P w K mg base A up s H → BindsTo s fd ar (ps.zip us) → Vals xs us → sp xs H Q E →
    codeAny (model P w) A (.call (.ref f) ar) (CR CX up P w H s Q E) s
theorem FnG.up {P : Program} {w : World} {K : PySem.W.Frag} {mg : Str → Option Value} {base : Heap} {CX : CXT} {j k : Nat} {f : Addr} {fd : FuncData} {ps : List Str} {sp : Sp} (F : FnG P w K mg base CX j f fd ps sp) (h : j ≤ k) : FnG P w K mg base CX k f fd ps sp :=
  ⟨F.len, fun A up s H ar us xs Q E r => F.go A up s H ar us xs Q E (r.mono h)⟩
/-- no exception leaves a def -/
def noX : CXT := fun _ _ _ _ _ _ => False
theorem passes_no {X : Cx} {E : XK} : Passes noX X E := fun _ _ _ _ _ _ _ z => z.elim
theorem go_fn {X : Cx} {CX : CXT} {k : Nat} {f : Addr} {fd : FuncData} {ps : List Str} {sp : Sp} {E : XK} {pins : List (Addr × Obj)} {σ : L2.St} {H : Hp} {s : Shared} {Q : VK} {us : List Value} {xs : List V} (F : FnG X.prog X.w X.K X.mg X.base CX k f fd ps sp) (hr : Room k X.A) (hg : X.A.guards = some []) (hb : Binds X.K fd ps []) (hx : Passes CX X E)
    (I : Inv X pins σ H s) (r : Vals xs us) (h : sp xs H Q E) : wpAny (model X.prog X.w) X.A (call (.ref f) us) (EP X pins σ Q) X.xe s := by
  have hl : (us ++ ([] : List Value)).length = ps.length := by rw [List.append_nil, ← r.length]; exact F.len _ _ _ _ h
  have b := hb s us I.kIn hl
  rw [List.append_nil] at b
  refine wpAny_call (codeAny_mono (F.go X.A X.stack s H ⟨us, []⟩ us xs Q E hr hg I.env0 b r h) fun res s2 z => ?_)
  rcases res with e | fl
  · exact hx pins σ H s e s2 I z
  · cases fl <;> first | exact I.after z | exact False.elim z
theorem pe_callG {X : Cx} {CX : CXT} {k : Nat} {f : Addr} {fd : FuncData} {ps : List Str} {sp : Sp} {E : XK} {x : Str} {p pos : Pos} {e : Expr} {es : List Expr} {t : TA} (F : FnG X.prog X.w X.K X.mg X.base CX k f fd ps sp) (hr : Room k X.A) (hgd : X.A.guards = some []) (hg : Gl X x) (hm : X.mg x = some (.ref f)) (hk : PySem.W.keepIn X.K (.ref f) = true) (hb : Binds X.K fd ps []) (hx : Passes CX X E)
    (ha : PA X (e :: es) t) (hdb : (x == ("__debug__" : Str)) = false) (hst : notStar e = true ∧ es.all notStar = true) : PE X (.Call (.Name x p) (e :: es) [] pos) (tCall sp [] E t) := by
  refine ⟨fun pins s σ H Q I h => ?_⟩
  refine wpAny_Call_Name_kw (ld_glob I hg hm ?_ hdb)
  have hs' := hst
  refine PySem.W.callWith_K (h₀ := X.base) I.ok.mod.kin hk (thn (ha.run pos pins s σ H _ I h) fun us s1 ⟨xs, H1, I1, r, q⟩ => ⟨I1.kIn, ?_⟩) (star_plain hs'.1 es X.env) (star_all hs'.2).1
  have q : sp (xs ++ []) H1 Q E := q
  rw [List.append_nil] at q
  exact go_fn F hr hgd hb hx I1 r q
theorem pe_callG0 {X : Cx} {CX : CXT} {k : Nat} {f : Addr} {fd : FuncData} {ps : List Str} {sp : Sp} {E : XK} {x : Str} {p pos : Pos} (F : FnG X.prog X.w X.K X.mg X.base CX k f fd ps sp) (hr : Room k X.A) (hgd : X.A.guards = some []) (hg : Gl X x) (hm : X.mg x = some (.ref f)) (hk : PySem.W.keepIn X.K (.ref f) = true) (hb : Binds X.K fd ps []) (hx : Passes CX X E)
    (hdb : (x == ("__debug__" : Str)) = false) : PE X (.Call (.Name x p) [] [] pos) (tCall sp [] E tNil) := by
  refine ⟨fun pins s σ H Q I h => ?_⟩
  exact wpAny_Call_Name_kw (ld_glob I hg hm (PySem.W.callWith_K0 I.kIn hk (go_fn (us := []) F hr hgd hb hx I .nil h)) hdb)
end
end GB

namespace GB
open PySem PySem.Spec PyProof.Rows L2

/-! ## 23. what is walked -/
section
variable {K : PySem.W.Frag} {H H1 H2 : Hp}
/-- what cannot change any more stays -/
def Fx (H H' : Hp) : Prop := ∀ b o, H b = some o → isOwn o = false → H' b = some o
theorem Fx.refl : Fx H H := fun _ _ h _ => h
theorem Fx.trans (a : Fx H H1) (b : Fx H1 H2) : Fx H H2 := fun c o h n => b c o (a c o h n) n
theorem Fx.kp (h : Fx H H1) : Kp (Ow H) H H1 := fun b o e n => h b o e (by
  cases w : isOwn o with
  | false => rfl
  | true => exact absurd ⟨o, e, w⟩ n)
theorem Kp.fx {S : Fp} (w : OwS S H) (k : Kp S H H1) : Fx H H1 := fun b o e n => k b o e (w.not e n)
theorem Pst.fx {q : Bool} {S S1 F : Fp} (w : OwS S H) (p : Pst q H S H1 S1 F) : Fx H H1 := p.keep.fx w
theorem fx_new {p : Addr} {o : HO} (n : H p = none) : Fx H (upd H p o) := fun b o' e _ => by rw [upd_ne (ne_of_none e n)]; exact e
theorem DV.fx {d : PyData} {v : V} (h : DV true K H v d) (k : Fx H H1) : DV true K H1 v d := DV.keep (S := Ow H) (fun _ z => z) k.kp _ _ h
theorem DVs.fx {d : List PyData} {v : List V} (h : DVs true K H v d) (k : Fx H H1) : DVs true K H1 v d := DVs.keep (S := Ow H) (fun _ z => z) k.kp _ _ h
theorem FzL.fx {a : Addr} {xs : List V} (h : FzL K H a xs) (k : Fx H H1) : FzL K H1 a xs := let ⟨o, e⟩ := h; ⟨o, k a _ e rfl⟩
theorem RdT.fx {a : Addr} {xs : List V} (h : RdT K H a xs) (k : Fx H H1) : RdT K H1 a xs := h.imp (fun e => k a _ e rfl) id
/-- J walks the data xs -/
def Wk (K : PySem.W.Frag) (J : It) (xs : List PyData) (H : Hp) : Prop := ∀ H1, Fx H H1 → ∀ i, (∀ d, xs[i]? = some d → J.go i H1 ∧ ∀ x H2, J.yld i H1 x H2 → New K H1 x (.dat d) H2) ∧ (i = xs.length → J.stop i H1)
theorem New.of_new {p : Addr} {xs : List V} {ds : List PyData} (h : DVs true K H xs ds) (n : H p = none) : New K H (.ref p) (.dat (.tuple ds)) (upd H p (.tup xs)) := New.tup h n
theorem wk_list {a : Addr} {xs : List V} {ds : List PyData} (h : FzL K H a xs) (d : DVs true K H xs ds) : Wk K (Itl K a) ds H := fun H1 k i => by
  have h1 := h.fx k
  have d1 := d.fx k
  refine ⟨fun e he => ?_, fun he => ?_⟩
  · obtain ⟨y, e1, dy⟩ := d1.get he
    exact ⟨⟨xs, y, .inl h1.rd, e1⟩, fun x H2 ⟨e2, h2⟩ => by
      subst e2
      have := h2 xs (.inl h1.rd)
      rw [e1] at this; cases this
      exact .dat dy⟩
  · exact ⟨xs, .inl h1.rd, by rw [d1.length]; exact Nat.le_of_eq he.symm⟩
theorem wk_tup {a : Addr} {xs : List V} {ds : List PyData} (h : RdT K H a xs) (d : DVs true K H xs ds) : Wk K (Itt K a) ds H := fun H1 k i => by
  have h1 := h.fx k
  have d1 := d.fx k
  refine ⟨fun e he => ?_, fun he => ?_⟩
  · obtain ⟨y, e1, dy⟩ := d1.get he
    exact ⟨⟨xs, y, h1.sq, e1⟩, fun x H2 ⟨e2, h2⟩ => by
      subst e2
      have := h2 xs h1.sq
      rw [e1] at this; cases this
      exact .dat dy⟩
  · exact ⟨xs, h1.sq, by rw [d1.length]; exact Nat.le_of_eq he.symm⟩
theorem wk_range {lo : Int} {n : Nat} : Wk K (Itr lo n) ((List.range n).map fun i => .int (lo + (i : Nat))) H := fun H1 k i => by
  refine ⟨fun e he => ?_, fun he => ?_⟩
  · rw [List.getElem?_map] at he
    by_cases hi : i < n
    · rw [List.getElem?_range hi] at he
      cases he
      exact ⟨hi, fun x H2 ⟨e2, h2⟩ => by subst e2 h2; exact .dat (.int _)⟩
    · rw [List.getElem?_eq_none (by simpa using hi)] at he
      cases he
  · show n ≤ i
    rw [he]; simp
theorem wk_enum {a : Addr} {xs : List V} {ds : List PyData} (h : FzL K H a xs) (d : DVs true K H xs ds) : Wk K (Ite K a) (ds.mapIdx fun i d => .tuple [.int (i : Nat), d]) H := fun H1 k i => by
  have h1 := h.fx k
  have d1 := d.fx k
  refine ⟨fun e he => ?_, fun he => ?_⟩
  · rw [List.getElem?_mapIdx] at he
    obtain ⟨e0, he0, e3⟩ := Option.map_eq_some_iff.mp he
    subst e3
    obtain ⟨y, e1, dy⟩ := d1.get he0
    refine ⟨⟨xs, y, .inl h1.rd, e1⟩, fun x H2 ⟨p, z, ex, hp, eH, hz⟩ => ?_⟩
    subst ex eH
    have := hz xs (.inl h1.rd)
    rw [e1] at this; cases this
    exact New.tup (.cons (.int _) (.cons dy .nil)) hp
  · exact ⟨xs, .inl h1.rd, by rw [d1.length]; rw [he]; simp⟩
theorem wk_enumT {a : Addr} {xs : List V} {ds : List PyData} (h : RdT K H a xs) (d : DVs true K H xs ds) : Wk K (IteT K a) (ds.mapIdx fun i d => .tuple [.int (i : Nat), d]) H := fun H1 k i => by
  have h1 := h.fx k
  have d1 := d.fx k
  refine ⟨fun e he => ?_, fun he => ?_⟩
  · rw [List.getElem?_mapIdx] at he
    obtain ⟨e0, he0, e3⟩ := Option.map_eq_some_iff.mp he
    subst e3
    obtain ⟨y, e1, dy⟩ := d1.get he0
    refine ⟨⟨xs, y, h1.sq, e1⟩, fun x H2 ⟨p, z, ex, hp, eH, hz⟩ => ?_⟩
    subst ex eH
    have := hz xs h1.sq
    rw [e1] at this; cases this
    exact New.tup (.cons (.int _) (.cons dy .nil)) hp
  · exact ⟨xs, h1.sq, by rw [d1.length]; rw [he]; simp⟩
theorem wk_zipL {a b : Addr} {xs ys : List V} {ds es : List PyData} (h : FzL K H a xs) (d : DVs true K H xs ds) (h' : FzL K H b ys) (d' : DVs true K H ys es) : Wk K (Itz K a b) (ds.zipWith (fun x y => .tuple [x, y]) es) H := fun H1 k i => by
  have h1 := h.fx k
  have d1 := d.fx k
  have h2 := h'.fx k
  have d2 := d'.fx k
  refine ⟨fun e he => ?_, fun he => ?_⟩
  · rw [List.getElem?_zipWith] at he
    split at he
    · rename_i e1 e2 q1 q2
      cases he
      obtain ⟨y1, u1, w1⟩ := d1.get q1
      obtain ⟨y2, u2, w2⟩ := d2.get q2
      refine ⟨⟨xs, ys, y1, y2, .inl h1.rd, .inl h2.rd, u1, u2⟩, fun x H2 ⟨p, z1, z2, ex, hp, eH, g1, g2⟩ => ?_⟩
      subst ex eH
      have := g1 xs (.inl h1.rd)
      rw [u1] at this; cases this
      have := g2 ys (.inl h2.rd)
      rw [u2] at this; cases this
      exact New.tup (.cons w1 (.cons w2 .nil)) hp
    · cases he
  · refine ⟨xs, ys, .inl h1.rd, .inl h2.rd, ?_⟩
    rw [d1.length, d2.length]
    rw [List.length_zipWith] at he
    omega
theorem wk_zipT {a b : Addr} {xs ys : List V} {ds es : List PyData} (h : RdT K H a xs) (d : DVs true K H xs ds) (h' : RdT K H b ys) (d' : DVs true K H ys es) : Wk K (RZ.ItzT K a b) (ds.zipWith (fun x y => .tuple [x, y]) es) H := fun H1 k i => by
  have h1 := h.fx k
  have d1 := d.fx k
  have h2 := h'.fx k
  have d2 := d'.fx k
  refine ⟨fun e he => ?_, fun he => ?_⟩
  · rw [List.getElem?_zipWith] at he
    split at he
    · rename_i e1 e2 q1 q2
      cases he
      obtain ⟨y1, u1, w1⟩ := d1.get q1
      obtain ⟨y2, u2, w2⟩ := d2.get q2
      refine ⟨⟨xs, ys, y1, y2, h1.sq, h2.sq, u1, u2⟩, fun x H2 ⟨p, z1, z2, ex, hp, eH, g1, g2⟩ => ?_⟩
      subst ex eH
      have := g1 xs h1.sq
      rw [u1] at this; cases this
      have := g2 ys h2.sq
      rw [u2] at this; cases this
      exact New.tup (.cons w1 (.cons w2 .nil)) hp
    · cases he
  · refine ⟨xs, ys, h1.sq, h2.sq, ?_⟩
    rw [d1.length, d2.length]
    rw [List.length_zipWith] at he
    omega
end
section
variable {X : Cx} {T : Tb} {K : PySem.W.Frag} {tg : Expr}
/-- a frozen list or a tuple, whichever it is -/
def iSeq (K : PySem.W.Frag) (tl : TE) : TI := fun σ H R => tl σ H fun x H1 => ∃ a, x = .ref a ∧ (((∃ xs, SqL K H1 a xs) ∧ R (Itl K a) H1) ∨ ((∃ xs, SqT K H1 a xs) ∧ R (Itt K a) H1))
theorem pi_seq {l : Expr} {tl : TE} (hl : PE X l tl) : PI X tg l (iSeq X.K tl) := by
  refine ⟨fun pins s σ H R I h => ?_⟩
  refine thn (hl.run pins s σ H _ I h) fun v s1 ⟨x, H1, I1, r1, a, e, q1⟩ => ?_
  subst e
  cases r1
  have fp : ∀ b ∈ [s1.heap.objs.size], FpOk X pins H1 b := fun b hb => by
    have e : b = s1.heap.objs.size := by simpa using hb
    subst e
    exact I1.fpOk (Nat.le_refl _) (I1.hok.fresh (Nat.le_refl _))
  rcases q1 with ⟨⟨xs, hq⟩, q⟩ | ⟨⟨xs, hq⟩, q⟩
  · obtain ⟨its, rv, p, hz⟩ := I1.list hq
    refine wpAny_pyIter_list p.isList ?_
    exact ⟨s1.heap.objs.size, [s1.heap.objs.size], _, _, H1, rfl, I1.kept (t' := s1.toks) fun b o e => Heap.get?_push_of_some _ e, turn_list a _, ⟨_, Heap.get?_push_size _ rfl, rfl, rfl⟩, fp, q⟩
  · obtain ⟨its, rv, p, hz⟩ := I1.tuple hq
    refine wpAny_pyIter_tuple (show s1.heap.IsTuple a its.toArray from p) ?_
    exact ⟨s1.heap.objs.size, [s1.heap.objs.size], _, _, H1, rfl, I1.kept (t' := s1.toks) fun b o e => Heap.get?_push_of_some _ e, turn_tuple a _, ⟨_, Heap.get?_push_size _ rfl, rfl, rfl⟩, fp, q⟩
/-- the little language's walk -/
def iW (T : Tb) (K : PySem.W.Frag) (ik : ItK) (as : Exs) : TI := fun σ H R => ∃ τ S os τ' xs, OwS S H ∧ SL K H τ σ S ∧ evO T as τ = some (os, τ') ∧ itEv ik os = some xs ∧
  ∀ J H' S', Pst as.quiet H S H' S' F0 → SL K H' τ' σ S' → Wk K J xs H' → R J H'
theorem evO1 {x : Ex} {τ τ' : SO} {os : List O} (h : evO T (.cons x .nil) τ = some (os, τ')) : ∃ o, ev T .own x τ = some (o, τ') ∧ os = [.dat o.toD] := by
  simp only [evO] at h
  obtain ⟨o, t1, h1, h2⟩ := bnd_inv h
  cases h2
  exact ⟨o, h1, rfl⟩
theorem evO2 {x y : Ex} {τ τ' : SO} {os : List O} (h : evO T (.cons x (.cons y .nil)) τ = some (os, τ')) : ∃ o t1 o', ev T .own x τ = some (o, t1) ∧ ev T .own y t1 = some (o', τ') ∧ os = [.dat o.toD, .dat o'.toD] := by
  simp only [evO] at h
  obtain ⟨o, t1, h1, h2⟩ := bnd_inv h
  obtain ⟨os', t2, h3, h4⟩ := bnd_inv h2
  obtain ⟨o', t3, h5, h6⟩ := bnd_inv h3
  cases h6
  cases h4
  exact ⟨o, t1, o', h1, h5, rfl⟩
theorem q1 {x : Ex} (z : (Exs.cons x .nil).quiet = true) : x.quiet = true := by simpa [Exs.quiet] using z
theorem q2 {x y : Ex} (z : (Exs.cons x (.cons y .nil)).quiet = true) : (x.quiet && y.quiet) = true := by simpa [Exs.quiet] using z
theorem gi_seq {e : Expr} {x : Ex} (he : PE X e (tE T X.K .own x)) : PI X tg e (iW T X.K .seq (.cons x .nil)) := by
  have z := pi_seq (tg := tg) (ge_frz he)
  refine ⟨fun pins s σ H R I h => z.run pins s σ H R I ?_⟩
  obtain ⟨τ, S, os, τ', xs, w, sl, h1, h2, q⟩ := h
  obtain ⟨o, h3, rfl⟩ := evO1 h1
  refine ⟨τ, S, o, τ', w, sl, h3, fun v H1 S1 p1 sl1 d => ?_⟩
  generalize o.toD = dd at h2 d
  have pq := p1.weak (q' := (Exs.cons x .nil).quiet) q1
  cases dd with
  | list ds =>
    cases h2
    cases d with
    | lst f dv => exact ⟨_, rfl, .inl ⟨⟨_, .inl (FzL.rd (K := X.K) f)⟩, q _ H1 S1 pq sl1 (wk_list f dv)⟩⟩
  | tuple ds =>
    cases h2
    cases d with
    | tup f dv => exact ⟨_, rfl, .inr ⟨⟨_, f.sq⟩, q _ H1 S1 pq sl1 (wk_tup f dv)⟩⟩
  | _ => cases h2
theorem ga_F1 {e : Expr} {x : Ex} (he : PE X e (tF T X.K x)) (hs : notStar e = true) : PA X [e] (tCons (tF T X.K x) tNil) := pa_cons he pa_nil (star_plain hs [] X.env)
theorem gi_rng1 {e : Expr} {x : Ex} {p pos : Pos} (hg : Gl X "range") (hm : X.mg "range" = none) (hs : notStar e = true) (he : PE X e (tE T X.K .own x)) : PI X tg (.Call (.Name "range" p) [e] [] pos) (iW T X.K .rng1 (.cons x .nil)) := by
  have z := pi_range1 (tg := tg) (p := p) (pos := pos) hg hm (ga_F1 (ge_frz he) hs) (star_plain hs [] X.env)
  refine ⟨fun pins s σ H R I h => z.run pins s σ H R I ?_⟩
  obtain ⟨τ, S, os, τ', xs, w, sl, h1, h2, q⟩ := h
  obtain ⟨o, h3, rfl⟩ := evO1 h1
  refine ⟨τ, S, o, τ', w, sl, h3, fun v H1 S1 p1 sl1 d => ?_⟩
  obtain ⟨n, e1, h4⟩ := Option.bind_eq_some_iff.mp (show ((O.dat o.toD).int?.bind fun n => if decide (-(2 ^ 62) ≤ n) && decide (n < 2 ^ 62) then some ((List.range n.toNat).map fun i => .int (i : Nat)) else none) = some xs from h2)
  have e2 : o.toD = .int n := by have := int?_eq e1; injection this
  rw [e2] at d
  cases d
  split at h4
  · rename_i hz
    simp only [Bool.and_eq_true, decide_eq_true_eq] at hz
    cases h4
    refine ⟨n, rfl, hz.1, hz.2, q _ H1 S1 (p1.weak q1) sl1 ?_⟩
    have := wk_range (K := X.K) (H := H1) (lo := 0) (n := n.toNat)
    simpa using this
  · cases h4
theorem gi_rng2 {e e' : Expr} {x y : Ex} {p pos : Pos} (hg : Gl X "range") (hm : X.mg "range" = none) (hs : notStar e = true) (hs' : notStar e' = true) (he : PE X e (tE T X.K .own x)) (he' : PE X e' (tE T X.K .own y)) : PI X tg (.Call (.Name "range" p) [e, e'] [] pos) (iW T X.K .rng2 (.cons x (.cons y .nil))) := by
  have z := pi_range2 (tg := tg) (p := p) (pos := pos) hg hm (pa_cons (ge_frz he) (ga_F1 (ge_frz he') hs') (star_plain hs _ X.env)) (by rw [star_plain hs, star_plain hs']; rfl) (by rw [star_plain hs']; rfl)
  refine ⟨fun pins s σ H R I h => z.run pins s σ H R I ?_⟩
  obtain ⟨τ, S, os, τ', xs, w, sl, h1, h2, q⟩ := h
  obtain ⟨o, t1, o', h3, h4, rfl⟩ := evO2 h1
  refine ⟨τ, S, o, t1, w, sl, h3, fun v H1 S1 p1 sl1 d => ⟨t1, S1, o', τ', p1.oS, sl1, h4, fun v' H2 S2 p2 sl2 d' => ?_⟩⟩
  obtain ⟨n, e1, h5⟩ := Option.bind_eq_some_iff.mp (show ((O.dat o.toD).int?.bind fun n => (O.dat o'.toD).int?.bind fun m => if decide (-(2 ^ 62) ≤ n) && decide (n < 2 ^ 62) && decide (-(2 ^ 62) ≤ m) && decide (m < 2 ^ 62) then some ((List.range (m - n).toNat).map fun i => .int (n + (i : Nat))) else none) = some xs from h2)
  obtain ⟨m, e2, h5⟩ := Option.bind_eq_some_iff.mp h5
  have e3 : o.toD = .int n := by have := int?_eq e1; injection this
  have e4 : o'.toD = .int m := by have := int?_eq e2; injection this
  rw [e3] at d
  rw [e4] at d'
  cases d
  cases d'
  split at h5
  · rename_i hz
    simp only [Bool.and_eq_true, decide_eq_true_eq] at hz
    cases h5
    exact ⟨n, m, rfl, ⟨hz.1.1.1, hz.1.1.2, hz.1.2, hz.2⟩, q _ H2 S2 (((p1.trans p2).less (fun _ z => z) fun b (z : F0 b) => z.elim).weak q2) sl2 wk_range⟩
  · cases h5
theorem gi_enum {elts : List Expr} {kk : Nat} {tp : Pos} {e : Expr} {x : Ex} {p pos : Pos} (hg : Gl X "enumerate") (hm : X.mg "enumerate" = none) (hs : notStar e = true) (he : PE X e (tE T X.K .own x)) : PI X (.Tuple elts kk tp) (.Call (.Name "enumerate" p) [e] [] pos) (iW T X.K .enum (.cons x .nil)) := by
  have z := pi_enumA (elts := elts) (kk := kk) (tpos := tp) (p := p) (pos := pos) hg hm (ga_F1 (ge_frz he) hs) (star_plain hs [] X.env)
  refine ⟨fun pins s σ H R I h => z.run pins s σ H R I ?_⟩
  obtain ⟨τ, S, os, τ', xs, w, sl, h1, h2, q⟩ := h
  obtain ⟨o, h3, rfl⟩ := evO1 h1
  refine ⟨τ, S, o, τ', w, sl, h3, fun v H1 S1 p1 sl1 d => ?_⟩
  generalize o.toD = dd at h2 d
  cases dd with
  | list ds =>
    cases h2
    cases d with
    | lst f dv => exact ⟨_, _, rfl, .inl ⟨.inl (FzL.rd (K := X.K) f), q _ H1 S1 (p1.weak q1) sl1 (wk_enum f dv)⟩⟩
  | tuple ds =>
    cases h2
    cases d with
    | tup f dv => exact ⟨_, _, rfl, .inr ⟨f.sq, q _ H1 S1 (p1.weak q1) sl1 (wk_enumT f dv)⟩⟩
  | _ => cases h2
theorem gi_zip {elts : List Expr} {kk : Nat} {tp : Pos} {e e' : Expr} {x y : Ex} {p pos : Pos} (hg : Gl X "zip") (hm : X.mg "zip" = none) (hs : notStar e = true) (hs' : notStar e' = true) (he : PE X e (tE T X.K .own x)) (he' : PE X e' (tE T X.K .own y)) : PI X (.Tuple elts kk tp) (.Call (.Name "zip" p) [e, e'] [] pos) (iW T X.K .zip (.cons x (.cons y .nil))) := by
  have z := RZ.pi_zipA (elts := elts) (kk := kk) (tpos := tp) (p := p) (pos := pos) hg hm (pa_cons (ge_frz he) (ga_F1 (ge_frz he') hs') (star_plain hs _ X.env)) (star_plain hs _ X.env) (by rw [star_plain hs']; rfl)
  refine ⟨fun pins s σ H R I h => z.run pins s σ H R I ?_⟩
  obtain ⟨τ, S, os, τ', xs, w, sl, h1, h2, q⟩ := h
  obtain ⟨o, t1, o', h3, h4, rfl⟩ := evO2 h1
  refine ⟨τ, S, o, t1, w, sl, h3, fun v H1 S1 p1 sl1 d => ⟨t1, S1, o', τ', p1.oS, sl1, h4, fun v' H2 S2 p2 sl2 d' => ?_⟩⟩
  have d := d.fx (p2.fx p1.oS)
  have pq := ((p1.trans p2).less (F' := F0) (fun _ z => z) fun b (z : F0 b) => z.elim).weak (q' := (Exs.cons x (.cons y .nil)).quiet) q2
  generalize o.toD = dd at h2 d
  generalize o'.toD = dd' at h2 d'
  cases dd with
  | list ds =>
    cases dd' with
    | list es =>
      cases h2
      cases d with
      | lst f dv =>
        cases d' with
        | lst f' dv' => exact ⟨_, _, _, _, rfl, .inl ⟨.inl (FzL.rd (K := X.K) f), .inl (FzL.rd (K := X.K) f'), q _ H2 S2 pq sl2 (wk_zipL f dv f' dv')⟩⟩
    | _ => cases h2
  | tuple ds =>
    cases dd' with
    | tuple es =>
      cases h2
      cases d with
      | tup f dv =>
        cases d' with
        | tup f' dv' => exact ⟨_, _, _, _, rfl, .inr ⟨f.sq, f'.sq, q _ H2 S2 pq sl2 (wk_zipT f dv f' dv')⟩⟩
    | _ => cases h2
  | _ => cases h2
end
end GB

namespace GB
open PySem PySem.Spec PyProof.Rows L2

/-! ## 22b. calls by keywords -/
theorem app_quiet : ∀ {a b : Exs}, (a.app b).quiet = (a.quiet && b.quiet)
  | .nil, _ => by simp [Exs.app, Exs.quiet]
  | .cons e s, b => by simp [Exs.app, Exs.quiet, app_quiet (a := s), Bool.and_assoc]
  | .star e s, b => by simp [Exs.app, Exs.quiet, app_quiet (a := s), Bool.and_assoc]
section
variable {X : Cx} {T : Tb} {K : PySem.W.Frag}
theorem evO_app : ∀ {a b : Exs} {t t' : SO} {os : List O}, evO T (a.app b) t = some (os, t') → ∃ o1 t1 o2, evO T a t = some (o1, t1) ∧ evO T b t1 = some (o2, t') ∧ os = o1 ++ o2
  | .nil, b, t, t', os, h => ⟨[], t, os, by simp only [evO], h, rfl⟩
  | .cons e s, b, t, t', os, h => by
    simp only [Exs.app, evO] at h
    obtain ⟨o, t1, h1, h2⟩ := bnd_inv h
    obtain ⟨os', t2, h3, h4⟩ := bnd_inv h2
    cases h4
    obtain ⟨o1, t3, o2, q1, q2, rfl⟩ := evO_app h3
    exact ⟨_ :: o1, t3, o2, by simp only [evO, h1, bnd_some, q1], q2, rfl⟩
  | .star e s, b, t, t', os, h => by simp only [Exs.app, evO] at h; cases h
/-- arguments that freeze -/
def tFs (T : Tb) (K : PySem.W.Frag) (as : Exs) : TA := fun σ H Q => ∃ τ S os τ', OwS S H ∧ SL K H τ σ S ∧ evO T as τ = some (os, τ') ∧
  ∀ vs ds H' S', Pst as.quiet H S H' S' F0 → SL K H' τ' σ S' → os = ds.map O.dat → DVs true K H' vs ds → Q vs H'
theorem fs_nil {σ : L2.St} {H : Hp} {Q : List V → Hp → Prop} (h : tFs T K .nil σ H Q) : Q [] H := by
  obtain ⟨τ, S, os, τ', w, sl, e, q⟩ := h
  simp only [evO] at e
  cases e
  exact q [] [] H S (.refl w) sl rfl .nil
theorem fs_cons {x : Ex} {xs : Exs} {σ : L2.St} {H : Hp} {Q : List V → Hp → Prop} (h : tFs T K (.cons x xs) σ H Q) : tF T K x σ H fun v H1 => tFs T K xs σ H1 fun vs H2 => Q (v :: vs) H2 := by
  obtain ⟨τ, S, os, τ', w, sl, e, q⟩ := h
  simp only [evO] at e
  obtain ⟨o, t1, h1, h2⟩ := bnd_inv e
  obtain ⟨os', t2, h3, h4⟩ := bnd_inv h2
  cases h4
  refine ⟨τ, S, o, t1, w, sl, h1, fun v H1 S1 p1 sl1 d1 => ⟨t1, S1, os', _, p1.oS, sl1, h3, fun vs ds H2 S2 p2 sl2 e2 d2 => ?_⟩⟩
  exact q (v :: vs) (o.toD :: ds) H2 S2 ((p1.trans p2).less (fun _ z => z) fun b (z : F0 b) => z.elim) sl2 (by rw [e2]; rfl) (.cons (d1.fx (p2.fx p1.oS)) d2)
theorem fs_app {a b : Exs} {σ : L2.St} {H : Hp} {Q : List V → Hp → Prop} (h : tFs T K (a.app b) σ H Q) : tFs T K a σ H fun vs H1 => tFs T K b σ H1 fun zs H2 => Q (vs ++ zs) H2 := by
  obtain ⟨τ, S, os, τ', w, sl, e, q⟩ := h
  obtain ⟨o1, t1, o2, h1, h2, rfl⟩ := evO_app e
  refine ⟨τ, S, o1, t1, w, sl, h1, fun vs ds H1 S1 p1 sl1 e1 d1 => ⟨t1, S1, o2, _, p1.oS, sl1, h2, fun zs es H2 S2 p2 sl2 e2 d2 => ?_⟩⟩
  refine q (vs ++ zs) (ds ++ es) H2 S2 (((p1.trans p2).less (fun _ z => z) fun b (z : F0 b) => z.elim).weak fun z => by rw [app_quiet] at z; exact z) sl2 (by rw [e1, e2]; simp) ((d1.fx (p2.fx p1.oS)).append d2)
inductive PFs (X : Cx) (T : Tb) : List Expr → Exs → Prop
  | nil : PFs X T [] .nil
  | cons {e : Expr} {es : List Expr} {x : Ex} {xs : Exs} : notStar e = true → PE X e (tF T X.K x) → PFs X T es xs → PFs X T (e :: es) (.cons x xs)
theorem fs_mono {as : Exs} {σ : L2.St} {H : Hp} {Q Q' : List V → Hp → Prop} (h : tFs T K as σ H Q) (f : ∀ vs H, Q vs H → Q' vs H) : tFs T K as σ H Q' := by
  obtain ⟨τ, S, os, τ', w, sl, e, q⟩ := h
  exact ⟨τ, S, os, τ', w, sl, e, fun vs ds H1 S1 p1 sl1 e1 d1 => f _ _ (q vs ds H1 S1 p1 sl1 e1 d1)⟩
theorem PFs.pa : ∀ {es : List Expr} {xs : Exs}, PFs X T es xs → PA X es (fun σ H Q => tFs T X.K xs σ H fun vs H1 => vs.length = es.length → Q vs H1)
  | _, _, .nil => pa_nil.mono fun σ H Q h => fs_nil h rfl
  | _, _, .cons hs he hr => (pa_cons he hr.pa (star_plain hs _ X.env)).mono fun σ H Q h => by
    obtain ⟨τ, S, o, τ', w, sl, e, q⟩ := fs_cons h
    exact ⟨τ, S, o, τ', w, sl, e, fun v H1 S1 p1 sl1 d1 => fs_mono (q v H1 S1 p1 sl1 d1) fun vs H2 z l => z (by simp [l])⟩
theorem _root_.L2.PK.mono {kws : List Keyword} {u u' : TA} (h : PK X kws u) (f : ∀ σ H Q, u' σ H Q → u σ H Q) : PK X kws u' := ⟨fun pos pins s σ H Q I q => h.run pos pins s σ H Q I (f σ H Q q)⟩
theorem PFs.pk : ∀ {kws : List Keyword} {xs : Exs}, PFs X T (kws.map (·.value)) xs → PK X kws (fun σ H Q => tFs T X.K xs σ H fun vs H1 => vs.length = kws.length → Q vs H1)
  | [], xs, h => by cases h; exact pk_nil.mono fun σ H Q h => fs_nil h rfl
  | ⟨nm, e, kp⟩ :: kws, xs, h => by
    cases h with
    | cons hs he hr =>
      refine (pk_cons he (PFs.pk hr)).mono fun σ H Q h => ?_
      obtain ⟨τ, S, o, τ', w, sl, e, q⟩ := fs_cons h
      exact ⟨τ, S, o, τ', w, sl, e, fun v H1 S1 p1 sl1 d1 => fs_mono (q v H1 S1 p1 sl1 d1) fun vs H2 z l => z (by simp [l])⟩
theorem perm_vals {pm : List Nat} {vs : List V} {us : List Value} (h : Vals vs us) : Vals (permL pm vs) (permL pm us) := by
  induction pm with
  | nil => exact .nil
  | cons j pm ih =>
    unfold permL at ih ⊢
    rw [List.filterMap_cons, List.filterMap_cons]
    cases e : vs[j]? with
    | none =>
      have : us[j]? = none := by
        rw [List.getElem?_eq_none_iff] at e ⊢
        rw [← h.length]; exact e
      rw [this]; exact ih
    | some v =>
      obtain ⟨u, hu, r⟩ := h.get e
      rw [hu]
      exact .cons r ih
theorem perm_dvs {H : Hp} {pm : List Nat} {vs : List V} {ds : List PyData} (h : DVs true K H vs ds) : DVs true K H (permL pm vs) (permL pm ds) := by
  induction pm with
  | nil => exact .nil
  | cons j pm ih =>
    unfold permL at ih ⊢
    rw [List.filterMap_cons, List.filterMap_cons]
    cases e : ds[j]? with
    | none =>
      have : vs[j]? = none := by
        rw [List.getElem?_eq_none_iff] at e ⊢
        rw [h.length]; exact e
      rw [this]; exact ih
    | some d =>
      obtain ⟨v, hv, r⟩ := h.get e
      rw [hv]
      exact .cons r ih
theorem perm_dat {pm : List Nat} {ds : List PyData} : permL pm (ds.map O.dat) = (permL pm ds).map O.dat := by
  unfold permL
  rw [List.map_filterMap]
  congr 1
  funext j
  simp
/-- f(e, .., k = v, ..): no argument stays the caller's -/
theorem callk_run {f : Str} {io : List Bool} {pm : List Nat} {as : Exs} {m : Md} (hm : m ≠ .tst) {E : XK} {σ : L2.St} {H : Hp} {Q : VK} (hl : pm.length = io.length) (hio : io.all (! ·) = true) (h : tE T K m (.callk f pm as) σ H Q) :
    tFs T K as σ H fun vs H1 => vs.length = vs.length ∧ spOf T K f io (permL pm vs) H1 Q E := by
  obtain ⟨τ, S, o, τ', w, sl, he, q⟩ := h
  simp only [ev] at he
  obtain ⟨os, t1, h1, he⟩ := bnd_inv he
  split at he
  · rename_i hp
    obtain ⟨⟨r, outs⟩, h3, he⟩ := Option.bind_eq_some_iff.mp he
    split at he
    · rename_i hemp
      obtain ⟨r', h5, he⟩ := Option.map_eq_some_iff.mp he
      cases he
      have er := fin_own hm h5
      subst er
      refine ⟨τ, S, os, _, w, sl, h1, fun vs ds H1 S1 p1 sl1 e1 d1 => ⟨rfl, ?_, permL pm os, F0, _, outs, ?_, fun b z => z.elim, h3, fun v H' ⟨Fr, Fo, hr, ho, dro, sb, ow, kp⟩ => ?_⟩⟩
      · have : ∀ pm : List Nat, pm.all (fun j => decide (j < os.length)) = true → (permL pm vs).length = pm.length := by
          intro pm
          induction pm with
          | nil => intro _; rfl
          | cons j pm ih =>
            intro ha
            simp only [List.all_cons, Bool.and_eq_true, decide_eq_true_eq] at ha
            have hj : j < vs.length := by rw [d1.length]; rw [e1] at ha; simpa using ha.1
            have := ih ha.2
            unfold permL at this ⊢
            rw [List.filterMap_cons, List.getElem?_eq_getElem hj]
            simp [this]
        rw [this pm hp, hl]
      · rw [e1, perm_dat]
        exact OTs.dats (perm_dvs d1)
      · have hout : outs = [] := by simpa using hemp
        subst hout
        have kp' : Kp F0 H1 H' := kp
        have sl2 := sl1.keep (T := F0) (fun _ z => z.elim) kp' fun _ _ z => z
        have nF : ∀ b, Fr b → H1 b = none := fun b hb => (sb b (.inl hb)).elim False.elim id
        refine q v H' S1 Fr ⟨fun b oo e n => kp' b oo (p1.keep b oo e n) id, fun b hb => ?_, fun b hb => ?_, fun b x y => ?_, fun z => (p1.le (by simpa [Ex.quiet] using z)).trans fun b oo e => .inl (kp' b oo e id)⟩ sl2 (res_of hm hr)
        · rcases hb with hb | hb
          · obtain ⟨oo, e, ww⟩ := p1.oS b hb
            exact ⟨oo, kp' b oo e id, ww⟩
          · exact ow b (.inl hb)
        · rcases hb with hb | hb
          · exact p1.new b (.inl hb)
          · exact p1.new2 (.inr (nF b hb))
        · obtain ⟨oo, e, _⟩ := p1.oS b y
          rw [nF b x] at e; cases e
    · cases he
  · cases he
/-- how keywords bind -/
def KwOk (K : PySem.W.Frag) (fd : FuncData) (ps : List Str) (n : Nat) (ks : List Str) (pm : List Nat) : Prop := ∀ (s : Shared) (us ws : List Value), K.In s.heap → us.length = n → ws.length = ks.length → BindsTo s fd ⟨us, ks.zip ws⟩ (ps.zip (permL pm (us ++ ws)))
theorem kw_all : ∀ {kws : List Keyword} {ks : List Str} {env : Env} {pos : Pos}, kws.map (·.arg) = ks.map some → (backToKw pos (keywordEach kws env)).all (·.1.isSome) = true ∧ (backToKw pos (keywordEach kws env)).filterMap (·.1) = ks ∧ (backToKw pos (keywordEach kws env)).any (·.1.isNone) = false
  | [], [], _, _, _ => ⟨rfl, rfl, rfl⟩
  | [], _ :: _, _, _, h => by simp at h
  | _ :: _, [], _, _, h => by simp at h
  | ⟨nm, e, kp⟩ :: kws, k :: ks, env, pos, h => by
    simp only [List.map_cons, List.cons.injEq] at h
    obtain ⟨h1, h2⟩ := h
    subst h1
    obtain ⟨a, b, c⟩ := kw_all (env := env) (pos := pos) h2
    refine ⟨?_, ?_, ?_⟩
    · show ((some k).isSome && (backToKw pos (keywordEach kws env)).all (·.1.isSome)) = true
      rw [a]; rfl
    · show ((some k, _) :: backToKw pos (keywordEach kws env)).filterMap (·.1) = _
      rw [List.filterMap_cons]
      simp [b]
    · show ((some k).isNone || (backToKw pos (keywordEach kws env)).any (·.1.isNone)) = false
      rw [c]; rfl
theorem ge_callk {f : Str} {ps : List Str} {io : List Bool} {es : List Expr} {kws : List Keyword} {ks : List Str} {as bs : Exs} {pm : List Nat} {p pos : Pos} {k : Nat} {a : Addr} {fd : FuncData} (hgd : X.A.guards = some []) (hg : Gl X f) (hd : (f == ("__debug__" : Str)) = false)
    (F : FnG X.prog X.w X.K X.mg X.base noX k a fd ps (spOf T X.K f io)) (hr : Room k X.A) (hmg : X.mg f = some (.ref a)) (hk : PySem.W.keepIn X.K (.ref a) = true) (hb : KwOk X.K fd ps es.length ks pm) (hio : io.all (! ·) = true) (hpl : pm.length = io.length) (hn : kws.map (·.arg) = ks.map some)
    (he : PFs X T es as) (hw : PFs X T (kws.map (·.value)) bs) (hst : es.all notStar = true) {m : Md} (hm : m ≠ .tst) : PE X (.Call (.Name f p) es kws pos) (tE T X.K m (.callk f pm (as.app bs))) := by
  refine ⟨fun pins s σ H Q I h => ?_⟩
  have z := fs_app (callk_run (E := fun _ _ _ => False) hm hpl hio h)
  obtain ⟨k1, k2, k3⟩ := kw_all (env := X.env) (pos := pos) hn
  refine wpAny_Call_Name_kw (ld_glob I hg hmg ?_ hd)
  have fin : ∀ {us ws : List Value} {vs zs : List V} {H2 : Hp} {s2 : Shared}, us.length = es.length → ws.length = ks.length → Inv X pins σ H2 s2 → Vals vs us → Vals zs ws → spOf T X.K f io (permL pm (vs ++ zs)) H2 Q (fun _ _ _ => False) →
      wpAny (model X.prog X.w) X.A (call (.ref a) us (ks.zip ws)) (EP X pins σ Q) X.xe s2 := fun {us ws vs zs H2 s2} l1 l2 I2 r1 r2 q => by
    refine wpAny_call (codeAny_mono (F.go X.A X.stack s2 H2 ⟨us, ks.zip ws⟩ (permL pm (us ++ ws)) (permL pm (vs ++ zs)) Q _ hr hgd I2.env0 (hb s2 us ws I2.kIn l1 l2) (perm_vals (vals_append r1 r2)) q) fun res s3 y => ?_)
    rcases res with e | fl
    · exact False.elim y
    · cases fl <;> first | exact I2.after y | exact False.elim y
  have lk : kws.length = ks.length := by have := congrArg List.length hn; simpa using this
  have z1 : tFs T X.K as σ H fun vs H1 => vs.length = es.length → tFs T X.K bs σ H1 fun zs H2 => zs.length = kws.length → vs.length = es.length ∧ zs.length = ks.length ∧ spOf T X.K f io (permL pm (vs ++ zs)) H2 Q (fun _ _ _ => False) :=
    fs_mono z fun vs H1 y l => fs_mono y fun zs H2 y2 l2 => ⟨l, by rw [l2, lk], y2.2⟩
  have hA := he.pa.run pos pins s σ H _ I z1
  have hW : ∀ {us : List Value} {s1 : Shared}, AP X pins σ (fun vs H1 => tFs T X.K bs σ H1 fun zs H2 => zs.length = kws.length → vs.length = es.length ∧ zs.length = ks.length ∧ spOf T X.K f io (permL pm (vs ++ zs)) H2 Q (fun _ _ _ => False)) us s1 →
      wpAny (model X.prog X.w) X.A (evalAll ((backToKw pos (keywordEach kws X.env)).map (·.2))) (fun ws s₂ => X.K.In s₂.heap ∧ wpAny (model X.prog X.w) X.A (call (.ref a) us (ks.zip ws)) (EP X pins σ Q) X.xe s₂) X.xe s1 := fun {us s1} ⟨vs, H1, I1, r1, y⟩ => by
    exact thn (hw.pk.run pos pins s1 σ H1 _ I1 y) fun ws s2 ⟨zs, H2, I2, r2, l1, l2, y2⟩ => ⟨I2.kIn, fin (by rw [← r1.length]; exact l1) (by rw [← r2.length]; exact l2) I2 r1 r2 y2⟩
  cases es with
  | nil =>
    have hA' : AP X pins σ (fun vs H1 => tFs T X.K bs σ H1 fun zs H2 => zs.length = kws.length → vs.length = ([] : List Expr).length ∧ zs.length = ks.length ∧ spOf T X.K f io (permL pm (vs ++ zs)) H2 Q (fun _ _ _ => False)) [] s := by
      cases he
      exact ⟨[], H, I, .nil, fs_nil z1 rfl⟩
    refine PySem.W.callWith_KW0 I.kIn hk k1 (thn (hW hA') fun ws s2 y => ?_) (by rw [k3]; rfl)
    rw [k2]
    exact y
  | cons e es =>
    have hs' : notStar e = true ∧ es.all notStar = true := by simpa using hst
    refine PySem.W.callWith_KW (h₀ := X.base) I.ok.mod.kin hk k1 (thn hA fun us s1 y1 => thn (hW y1) fun ws s2 y => ?_) (by rw [(star_all (pos := pos) hst).1, k3]; rfl) (star_plain hs'.1 es X.env)
    rw [k2]
    exact y
/-- what a context knows of a def -/
structure FnAt (X : Cx) (T : Tb) (f : Str) (ps : List Str) (io : List Bool) (sh : List (Nat × List Str)) : Prop where
  ok : ∃ (k : Nat) (a : Addr) (fd : FuncData), FnG X.prog X.w X.K X.mg X.base noX k a fd ps (spOf T X.K f io) ∧ Room k X.A ∧ X.mg f = some (.ref a) ∧ PySem.W.keepIn X.K (.ref a) = true ∧ Binds X.K fd ps [] ∧ ∀ n ks, (n, ks) ∈ sh → KwOk X.K fd ps n ks (pmOf ps n ks)
theorem ge_call {f : Str} {ps : List Str} {io : List Bool} {sh : List (Nat × List Str)} {es : List Expr} {as : Exs} {p pos : Pos} (hgd : X.A.guards = some []) (hg : Gl X f) (hd : (f == ("__debug__" : Str)) = false) (F : FnAt X T f ps io sh) (h : PCs X T io es as) (hst : es.all notStar = true) {m : Md} (hm : m ≠ .tst) : PE X (.Call (.Name f p) es [] pos) (tE T X.K m (.call f io as)) := by
  obtain ⟨k, a, fd, F, hr, hmg, hk, hb, _⟩ := F.ok
  have hx : Passes noX X (fun _ _ _ => False) := passes_no
  cases es with
  | nil =>
    refine (pe_callG0 F hr hgd hg hmg hk hb hx hd).mono fun σ H Q q => ?_
    have z := call_run (E := fun _ _ _ => False) hm q
    obtain ⟨τ, S, os, τ', w, sl, h1, q⟩ := z
    cases h
    simp only [evC] at h1
    cases h1
    exact q [] H S F0 (.refl w) sl .nil
  | cons e es =>
    have hs' : notStar e = true ∧ es.all notStar = true := by simpa using hst
    exact (pe_callG F hr hgd hg hmg hk hb hx (ga_C h) hd hs').mono fun σ H Q q => call_run hm q
theorem ks_names : ∀ {kws : List Keyword} {ks : List Str}, ksOf kws = some ks → kws.map (·.arg) = ks.map some
  | [], ks, h => by cases h; rfl
  | ⟨some k, e, p⟩ :: r, ks, h => by
    obtain ⟨ks', h1, h2⟩ := Option.map_eq_some_iff.mp h
    subst h2
    simp [ks_names h1]
  | ⟨none, _, _⟩ :: _, _, h => by cases h
theorem pm_len {ps : List Str} {n : Nat} {ks : List Str} : (pmOf ps n ks).length = ps.length := by simp [pmOf]
end
end GB

namespace GB
open PySem PySem.Spec PyProof.Rows L2

/-! ## 24. targets -/
section
variable {K : PySem.W.Frag} {H H1 : Hp}
/-- only the slots is change -/
structure Only (is : List Nat) (σ σ' : L2.St) : Prop where
  len : σ'.length = σ.length
  at_ : ∀ j, j ∉ is → σ'[j]? = σ[j]?
theorem Only.refl {is : List Nat} {σ : L2.St} : Only is σ σ := ⟨rfl, fun _ _ => rfl⟩
theorem Only.trans {is js : List Nat} {σ σ1 σ2 : L2.St} (a : Only is σ σ1) (b : Only js σ1 σ2) : Only (is ++ js) σ σ2 := ⟨b.len.trans a.len, fun j h => by
  rw [b.at_ j fun z => h (List.mem_append_right _ z), a.at_ j fun z => h (List.mem_append_left _ z)]⟩
theorem Only.set {σ : L2.St} {i : Nat} {x : Option V} : Only [i] σ (σ.set i x) := ⟨by simp, fun j h => List.getElem?_set_ne (fun z => h (by simp [z]))⟩
theorem Only.mono {is js : List Nat} {σ σ' : L2.St} (a : Only is σ σ') (h : ∀ j ∈ is, j ∈ js) : Only js σ σ' := ⟨a.len, fun j n => a.at_ j fun z => n (h j z)⟩
theorem SL.dat {τ : SO} {σ : L2.St} {S : Fp} {i : Nat} {v : V} {d : PyData} (sl : SL K H τ σ S) (h : DV true K H v d) : SL K H (τ.set i (some (.dat d))) (σ.set i (some v)) S :=
  (sl.put (i := i) (OT.dat (F := F0) h) fun _ z _ => z).wide fun b z => z.elim False.elim id
end
section
variable {X : Cx} {T : Tb} {K : PySem.W.Frag}
def tTg (K : PySem.W.Frag) (tg : Tg) : TG := fun v σ H Q => ∃ τ S d τ', SL K H τ σ S ∧ DV true K H v d ∧ tgEv tg d τ = some τ' ∧ ∀ σ', Only tg.slots σ σ' → SL K H τ' σ' S → Q σ' H
theorem gt_name {i : Nat} {x : Str} {pos : Pos} (h : PG X (.Name x pos) (gName i)) : PG X (.Name x pos) (tTg X.K (.nm i)) := by
  refine ⟨fun pins s σ H v u Q I r ⟨τ, S, d, τ', sl, dv, e, q⟩ => h.run pins s σ H v u Q I r ?_⟩
  cases e
  exact q _ .set (sl.dat dv)
def gNames : List Nat → TGs
  | [] => gNil
  | i :: r => gCons (gName i) (gNames r)
theorem names_run : ∀ {is : List Nat} {vs : List V} {ds : List PyData} {τ τ' : SO} {σ : L2.St} {H : Hp} {S : Fp} {Q : L2.St → Hp → Prop}, SL K H τ σ S → DVs true K H vs ds → setAll is ds τ = some τ' → (∀ σ', Only is σ σ' → SL K H τ' σ' S → Q σ' H) → gNames is vs σ H Q
  | [], vs, ds, τ, τ', σ, H, S, Q, sl, dv, e, q => by
    cases dv with
    | nil => cases e; exact ⟨rfl, q σ .refl sl⟩
    | cons _ _ => cases e
  | i :: is, vs, ds, τ, τ', σ, H, S, Q, sl, dv, e, q => by
    cases dv with
    | nil => cases e
    | cons h1 h2 =>
      refine ⟨_, _, rfl, ?_⟩
      show gNames is _ (σ.set i (some _)) H Q
      exact names_run (sl.dat h1) h2 e fun σ' o sl' => q σ' ((Only.set.trans o).mono fun j hj => by simpa using hj) sl'
inductive PGn (X : Cx) : List Expr → List Nat → Prop
  | nil : PGn X [] []
  | cons {x : Str} {p : Pos} {es : List Expr} {i : Nat} {is : List Nat} : PG X (.Name x p) (gName i) → PGn X es is → PGn X (.Name x p :: es) (i :: is)
theorem PGn.pgs : ∀ {es : List Expr} {is : List Nat}, PGn X es is → PGs X es (gNames is) ∧ (assignEach es X.env).length = is.length ∧ (assignEach es X.env).findIdx? (·.1) = none
  | _, _, .nil => ⟨pgs_nil, rfl, rfl⟩
  | _, _, .cons h r => by
    obtain ⟨a, b, c⟩ := r.pgs
    refine ⟨pgs_cons h a rfl, ?_, ?_⟩
    · show (assignEach _ X.env).length + 1 = _
      rw [b]; rfl
    · rw [show assignEach (Expr.Name _ _ :: _) X.env = (false, _) :: assignEach _ X.env from rfl, List.findIdx?_cons, c]
      rfl
theorem gt_tup {es : List Expr} {is : List Nat} {k : Nat} {pos : Pos} (hc : X.calm = true) (h : PGn X es is) : PG X (.Tuple es k pos) (tTg X.K (.tup is)) := by
  obtain ⟨a, b, c⟩ := h.pgs
  have z := pg_tup (k := k) (pos := pos) hc a b c
  refine ⟨fun pins s σ H v u Q I r ⟨τ, S, d, τ', sl, dv, e, q⟩ => z.run pins s σ H v u Q I r ?_⟩
  cases d with
  | tuple ds =>
    cases dv with
    | tup f dvs =>
      have e : setAll is ds τ = some τ' := e
      refine ⟨_, _, rfl, f.sq, ?_, names_run sl dvs e q⟩
      rw [dvs.length]
      have : ∀ (is : List Nat) (ds : List PyData) (t t' : SO), setAll is ds t = some t' → ds.length = is.length := by
        intro is
        induction is with
        | nil => intro ds t t' h; cases ds with | nil => rfl | cons _ _ => cases h
        | cons i is ih => intro ds t t' h; cases ds with | nil => cases h | cons d ds => simp [ih ds _ _ h]
      exact this is ds τ τ' e
  | _ => cases e

/-! ## 25. comprehensions -/
theorem New.kp0 {H H1 : Hp} {v : V} {r : O} (n : New K H v r H1) : Kp F0 H H1 := fun b o e _ => by
  obtain ⟨F, h, p⟩ := n
  have p2 := p (Ow H) (fun _ z => z)
  by_cases hs : Ow H b
  · obtain ⟨o2, e2, w2⟩ := p2.own b (.inl hs)
    rcases p2.le rfl b o e with z | ⟨_, ob, z⟩
    · exact z
    · rw [e2] at z; cases z; simp [isOwn] at w2
  · exact p2.keep b o e hs
theorem New.dv {H H1 : Hp} {v : V} {d : PyData} (n : New K H v (.dat d) H1) : DV true K H1 v d := by
  obtain ⟨F, h, p⟩ := n
  cases h with | dat h => exact h
theorem SL.unset {H : Hp} : ∀ {τ : SO} {σ : L2.St} {S : Fp} {i : Nat} {x : Option V}, SL K H τ (σ.set i x) S → SL K H (τ.set i none) σ S
  | [], σ, S, i, x, h => by
    have := h.length
    cases σ with
    | nil => exact .nil
    | cons a σ => simp at this
  | o :: τ, [], S, i, x, h => by
    have := h.length
    simp at this
  | o :: τ, a :: σ, S, 0, x, h => by
    cases h with
    | non h => exact .non h
    | som a h j q => exact .non (h.wide fun b z => q b (.inr z))
  | o :: τ, a :: σ, S, i + 1, x, h => by
    rw [List.set_cons_succ] at h
    cases h with
    | non h => exact .non h.unset
    | som a h j q => exact .som a h.unset j q
theorem rest_ok {H : Hp} {t0 : SO} {σ : L2.St} : ∀ {own : List Nat} {t : SO} {S : Fp}, SL K H t (wipe σ own) S → (∀ v ∈ own, ∀ d, t0[v]? = some (some (.dat d)) → ∃ x, σ[v]? = some (some x) ∧ DV true K H x d) → SL K H (restO t0 t own) σ S
  | [], t, S, sl, _ => sl
  | v :: vs, t, S, sl, h => by
    have sl1 : SL K H (t.set v none) (wipe σ vs) S := SL.unset sl
    have sl2 := rest_ok (own := vs) sl1 fun w hw => h w (List.mem_cons_of_mem _ hw)
    simp only [restO]
    split
    · rename_i d e
      obtain ⟨x, e1, dv⟩ := h v List.mem_cons_self d e
      exact (sl2.back (i := v) (OT.dat (F := F0) dv) (fun _ z _ => z) e1).wide fun b z => z.elim False.elim id
    · exact sl2.dropO
theorem wipe_ok {H : Hp} {τ : SO} {σ : L2.St} {S : Fp} (sl : SL K H τ σ S) : ∀ own : List Nat, SL K H (wipeO τ own) (wipe σ own) S
  | [] => sl
  | v :: vs => (wipe_ok sl vs).drop none
theorem wipe_at (σ : L2.St) : ∀ (own : List Nat) (j : Nat), (wipe σ own)[j]? = if j ∈ own ∧ j < σ.length then some none else σ[j]?
  | [], j => by simp [wipe]
  | v :: vs, j => by
    show ((wipe σ vs).set v none)[j]? = _
    rw [List.getElem?_set, wipe_length, wipe_at σ vs j]
    by_cases hv : v = j
    · subst hv
      simp only [if_true, List.mem_cons, true_or, true_and]
      split
      · rfl
      · rename_i hl
        symm
        exact List.getElem?_eq_none (Nat.le_of_not_lt hl)
    · rw [if_neg hv]
      simp only [List.mem_cons, Ne.symm hv, Ne, show ¬ (j = v) from fun z => hv z.symm, false_or]
theorem wipe_only {σ σ' : L2.St} {is own : List Nat} (o : Only is σ σ') (h : ∀ j ∈ is, j ∈ own) : wipe σ' own = wipe σ own := by
  apply List.ext_getElem?
  intro j
  rw [wipe_at, wipe_at, o.len]
  by_cases hj : j ∈ own ∧ j < σ.length
  · rw [if_pos hj, if_pos hj]
  · rw [if_neg hj, if_neg hj]
    by_cases hi : j ∈ is
    · have hl : ¬ j < σ.length := fun z => hj ⟨h j hi, z⟩
      rw [List.getElem?_eq_none (by rw [o.len]; omega), List.getElem?_eq_none (by omega)]
    · exact o.at_ j hi
theorem wipe_wipe (σ : L2.St) (own : List Nat) : wipe (wipe σ own) own = wipe σ own := by
  apply List.ext_getElem?
  intro j
  rw [wipe_at, wipe_length, wipe_at]
  split <;> rfl
end
end GB

namespace GB
open PySem PySem.Spec PyProof.Rows L2

section
variable {X : Cx} {T : Tb} {K : PySem.W.Frag}
theorem Pst.upd {q : Bool} {H H1 : Hp} {S S1 F : Fp} {a : Addr} {u u' : HO} (p : Pst q H S H1 S1 F) (n : H a = none) (e : H1 a = some u) (w : isOwn u' = true) : Pst q H S (upd H1 a u') S1 F where
  keep := fun b o e1 hn => by rw [upd_ne (ne_of_none e1 n)]; exact p.keep b o e1 hn
  own := fun b hb => by
    by_cases hba : b = a
    · subst hba; exact ⟨u', upd_same, w⟩
    · obtain ⟨o, e1, w1⟩ := p.own b hb
      exact ⟨o, by rw [upd_ne hba]; exact e1, w1⟩
  new := p.new
  dj := p.dj
  le := fun z b o e1 => by
    have hba := ne_of_none e1 n
    rcases p.le z b o e1 with h | ⟨h1, ob, h2⟩
    · exact .inl (by rw [upd_ne hba]; exact h)
    · exact .inr ⟨h1, ob, by rw [upd_ne hba]; exact h2⟩
theorem lc_run {ik : ItK} {it : Exs} {t : Tg} {xc xe : Ex} {own : List Nat} (hsub : ∀ j ∈ t.slots, j ∈ own) {m : Md} (hm : m ≠ .tst) {σ : L2.St} {H : Hp} {Q : VK} (h : tE T K m (.lc xe t ik it xc own) σ H Q) :
    tLc (iW T K ik it) (tTg K t) (tT T K xc) (tE T K .own xe) own σ H Q := by
  obtain ⟨τ, S, o, τ', w, sl, he, q⟩ := h
  simp only [ev] at he
  obtain ⟨os, t1, h1, he⟩ := bnd_inv he
  obtain ⟨xs, h2, he⟩ := Option.bind_eq_some_iff.mp he
  obtain ⟨rs, t2, h3, he⟩ := bnd_inv he
  split at he
  · rename_i hz
    obtain ⟨r', h5, he⟩ := Option.map_eq_some_iff.mp he
    cases he
    have er := fin_own hm h5
    subst er
    refine ⟨τ, S, os, t1, xs, w, sl, h1, h2, fun J H1 S1 p1 sl1 wk D hD => ?_⟩
    revert h3
    generalize hf : (fun (x : PyData) (t2 : SO) => (tgEv t x t2).bind fun t3 => bnd (ev T .tst xc t3) fun b t4 => if b.bool? = some true then bnd (ev T .own xe t4) fun o t5 => some (some o, wipeO t5 own) else some (none, wipeO t4 own)) = f
    intro h3
    refine ⟨fun i n H => i ≤ xs.length ∧ n = xs.length - i ∧ ∃ t S' rs1 rs2 R, compL f (xs.drop i) t = some (rs2, t2) ∧ rs1 ++ rs2 = rs ∧ Pst (xc.quiet && xe.quiet) H1 S1 H S' R ∧ SL K H t (wipe σ own) S' ∧ OT K H (.ref D) (.lst rs1) R,
      ⟨xs.length, Nat.zero_le _, rfl, wipeO t1 own, S1, [], rs, _, h3, rfl, (Pst.refl p1.oS).laid hD rfl, (wipe_ok sl1 own).keep (T := F0) (fun _ z => z.elim) (keep_new hD) (fun _ _ z => z), .lst (G := F0) upd_same (.inr rfl) .nil fun b z => z.elim⟩, ?_⟩
    rintro i n H2 ⟨hi, hn, t', S', rs1, rs2, R, c1, c2, P, sl2, ot⟩
    subst hn
    have fx := P.fx p1.oS
    cases hx : xs[i]? with
    | none =>
      have hlen : xs.length ≤ i := List.getElem?_eq_none_iff.mp hx
      refine .inl ⟨(wk H2 fx i).2 (Nat.le_antisymm hi hlen), ?_⟩
      rw [List.drop_eq_nil_of_le hlen] at c1
      cases c1
      rw [List.append_nil] at c2
      subst c2
      have sl3 : SL K H2 (restO t1 t2 own) σ S' := rest_ok sl2 fun v hv d hd => by
        obtain ⟨x, F, e1, o1, _⟩ := sl1.at hd
        cases o1 with | dat dv => exact ⟨x, e1, dv.fx fx⟩
      exact q (.ref D) H2 S' R (((p1.trans P).less (fun _ z => z) fun _ z => .inr z).weak fun z => by
        simp only [Ex.quiet, Bool.and_eq_true] at z
        simp [z]) sl3 (res_of hm ot)
    | some d =>
      obtain ⟨hlt, hxi⟩ := List.getElem?_eq_some_iff.mp hx
      have hdrop : xs.drop i = d :: xs.drop (i + 1) := by rw [← hxi]; exact List.drop_eq_getElem_cons hlt
      rw [hdrop] at c1
      simp only [compL] at c1
      obtain ⟨oo, t3, f1, c7⟩ := bnd_inv c1
      obtain ⟨rr, t4, f2, c8⟩ := bnd_inv c7
      simp only [Option.some.injEq, Prod.mk.injEq] at c8
      obtain ⟨c9, rfl⟩ := c8
      refine .inr ⟨((wk H2 fx i).1 d hx).1, fun H' => i + 1 ≤ xs.length ∧ ∃ t S' rs1 rs2 R, compL f (xs.drop (i + 1)) t = some (rs2, t4) ∧ rs1 ++ rs2 = rs ∧ Pst (xc.quiet && xe.quiet) H1 S1 H' S' R ∧ SL K H' t (wipe σ own) S' ∧ OT K H' (.ref D) (.lst rs1) R,
        fun H' hN => ⟨xs.length - (i + 1), by omega, hN.1, rfl, hN.2⟩, fun x H3 y => ?_⟩
      have N := ((wk H2 fx i).1 d hx).2 x H3 y
      obtain ⟨F3, _, p3, sl3⟩ := N.slots P.oS sl2
      have P3 := ((P.trans p3).less (F' := R) (fun _ z => z) fun _ z => .inl z).weak (q' := xc.quiet && xe.quiet) (fun z => by simp [z])
      have ot3 := OT.keep (S := F0) (fun _ z => z.elim) N.kp0 _ _ _ ot (fun _ _ z => z)
      rw [← hf] at f1
      obtain ⟨t5, g1, f1⟩ := Option.bind_eq_some_iff.mp f1
      obtain ⟨b, t6, g2, f1⟩ := bnd_inv f1
      obtain ⟨cb, rfl⟩ := tst_bool _ g2
      refine ⟨t', S', d, t5, sl3, N.dv, g1, fun σ2 only sl4 => ?_⟩
      have hw : wipe σ2 own = wipe σ own := by rw [wipe_only only hsub, wipe_wipe]
      refine ⟨hw, t5, S', cb, t6, P3.oS, sl4, g2, fun H4 S4 p4 sl5 => ?_⟩
      have P4 := P3.trans p4
      have ot4 := OT.keep P3.oS p4.keep _ _ _ ot3 P3.dj
      cases cb with
      | false =>
        rw [if_neg (by simp [O.bool?])] at f1
        cases f1
        dsimp only
        rw [if_neg (by decide)]
        simp only at c9
        subst c9
        refine ⟨hlt, _, S4, rs1, _, R, f2, c2, (P4.less (fun _ z => z) fun _ z => .inl z).weak fun z => ?_, ?_, ot4⟩
        · simp only [Bool.and_eq_true] at z; simp [z]
        · have := wipe_ok sl5 own
          rw [hw] at this
          exact this
      | true =>
        rw [if_pos (by rfl)] at f1
        obtain ⟨oe, t7, g3, f1⟩ := bnd_inv f1
        cases f1
        dsimp only
        rw [if_pos rfl]
        simp only at c9
        subst c9
        refine ⟨t6, S4, oe, t7, p4.oS, sl5, g3, fun yv H5 S5 F5 p5 sl6 r5 => ?_⟩
        have P5 := P4.trans p5
        have dj4 : Dj R S4 := P4.dj.mono (fun _ z => .inl z) fun _ z => z
        have ot5 := OT.keep p4.oS p5.keep _ _ _ ot4 dj4
        have djR : Dj R F5 := fun b x y => P4.dj2 p5 b (.inl x) y
        cases ot5 with
        | lst e1 e2 e3 e4 =>
          rename_i acc G
          have hl : acc.length < sizeLine := by
            rw [e3.length]
            have : rs.length = rs1.length + (rr.length + 1) := by rw [← c2]; simp
            omega
          have hne : ∀ b, G b ∨ F5 b → b ≠ D := fun b hb z => by
            subst z
            rcases hb with z | z
            · exact (e4 b z).2 rfl
            · exact djR b e2 z
          refine ⟨acc, e1, hl, hlt, wipeO t7 own, S5, rs1 ++ [oe], rr, fun b => R b ∨ F5 b, f2, by rw [← c2]; simp, ((P5.less (F' := fun b => R b ∨ F5 b) (fun _ z => z) fun b hb => hb.imp .inl id).weak (q' := xc.quiet && xe.quiet) fun z => ?_).upd hD e1 rfl, ?_, ?_⟩
          · simp only [Bool.and_eq_true] at z; simp [z]
          · have := wipe_ok sl6 own
            rw [hw] at this
            refine this.keep (T := fun b => b = D) (fun b hb => by subst hb; exact ⟨_, e1, rfl⟩) (kp_upd rfl) fun b x y => ?_
            subst y
            exact P5.dj b (.inl (.inl e2)) x
          · refine .lst (G := fun b => G b ∨ F5 b) upd_same (.inl e2) ?_ fun b hb => ⟨hb.imp (fun z => (e4 b z).1) id, hne b hb⟩
            have ka : Kp (fun b => b = D) H5 (L2.upd H5 D (.lst (acc ++ [yv]))) := kp_upd rfl
            have wa : OwS (fun b => b = D) H5 := fun b hb => by subst hb; exact ⟨_, e1, rfl⟩
            exact OTs.append (OTs.keep wa ka _ _ _ e3 fun b x y => hne b (.inl x) y) (OTs.one (OT.keep wa ka _ _ _ r5 fun b x y => hne b (.inr x) y)) fun b x y => djR b (e4 b x).1 y
  · cases he
theorem ge_lc {elt tg iter : Expr} {ifs : List Expr} {scope : Scope} {own : List (Str × Nat)} {pos : Pos} {ik : ItK} {it : Exs} {t : Tg} {xc xe : Ex} (hc : X.calm = true) (hN : X.N.Nodup) (hi : PI X tg iter (iW T X.K ik it)) (ok : BlkOk X.N X.env.scope scope own)
    (hg : ∀ (s : Shared) (H : Hp) (C : Addr) (cl : List (Str × Addr)) (fp : List Addr), PG (X.blk s H scope (compEnvC scope cl C X.env) fp) tg (tTg X.K t)) (ht : ∀ (s : Shared) (H : Hp) (C : Addr) (cl : List (Str × Addr)) (fp : List Addr), PTs (X.blk s H scope (compEnvC scope cl C X.env) fp) ifs (tT T X.K xc))
    (he : ∀ (s : Shared) (H : Hp) (C : Addr) (cl : List (Str × Addr)) (fp : List Addr), PE (X.blk s H scope (compEnvC scope cl C X.env) fp) elt (tE T X.K .own xe)) (hs : ∀ x, foldedSetIterable iter X.env x = pure x) (hsub : ∀ j ∈ t.slots, j ∈ own.map (·.2)) {m : Md} (hm : m ≠ .tst) :
    PE X (.ListComp elt [⟨tg, iter, ifs, 0⟩] scope pos) (tE T X.K m (.lc xe t ik it xc (own.map (·.2)))) :=
  (pe_lc hc hN hi ok hg ht he hs).mono fun σ H Q h => lc_run hsub hm h
theorem PTs.mono {ifs : List Expr} {u u' : TT} (h : PTs X ifs u) (f : ∀ σ H Q, u' σ H Q → u σ H Q) : PTs X ifs u' := ⟨fun pins s σ H Q I q => h.run pins s σ H Q I (f σ H Q q)⟩
theorem gts_nil : PTs X [] (tT T X.K (.k (.bool true))) := PTs.mono pts_nil fun σ H Q ⟨τ, S, b, τ', w, sl, h, q⟩ => by
  simp only [ev] at h
  obtain ⟨r, h1, h2⟩ := Option.map_eq_some_iff.mp h
  cases h2
  cases h1
  exact q H S (.refl w) sl
end
end GB

namespace GB
open PySem PySem.Spec PyProof.Rows L2

/-! ## 26. contexts -/
def bltNames : List Str := ["repr", "len", "int", "abs", "list", "tuple", "all", "isinstance", "range", "enumerate", "zip", "bool", "str", "dict"]
structure XOk (X : Cx) (T : Tb) (C : TC) : Prop where
  N : X.N = C.N
  sc : X.env.scope = C.sc
  calm : X.calm = true
  nd : C.N.Nodup
  un : X.A.units + 130 < cLine
  gd : X.A.guards = some []
  st : ∀ x, C.st x = true → isLoc C.sc x = true → X.fn x = true ∨ X.env.scope.names.lookup x = some .local
  bl : ∀ f ∈ bltNames, (C.sg f).isNone = true → C.gl f = false → X.mg f = none
  gc : ∀ x d, C.gl x = true → T.gc x = some d → ∃ v u, X.mg x = some u ∧ RelV v u ∧ ∀ H, DV true X.K H v d
  fns : ∀ f ps io sh, C.sg f = some (ps, io, sh) → FnAt X T f ps io sh
section
variable {X : Cx} {T : Tb} {C : TC}
theorem isVis_ok {sc : Scope} {x : Str} (h : isVis sc x = true) : Vis sc x := by
  unfold isVis at h
  split at h
  · rename_i e; exact .inl e
  · rename_i e; exact .inr (.inl e)
  · rename_i e; exact .inr (.inr e)
  · cases h
theorem isLoc_ok {sc : Scope} {x : Str} (h : isLoc sc x = true) : Loc sc x := by
  unfold isLoc at h
  split at h
  · rename_i e; exact .inl e
  · rename_i e; exact .inr e
  · cases h
theorem isGl_ok (k : XOk X T C) {x : Str} (h : isGl C.sc x = true) : Gl X x := by
  unfold isGl at h
  split at h
  · rename_i e
    show X.env.scope.names.lookup x = _
    rw [k.sc]; exact e
  · cases h
theorem odd_no {x : Str} (h : odd x = false) : (x == ("__debug__" : Str)) = false ∧ (x == ("__classdict__" : Str)) = false ∧ x ≠ ("__name__" : Str) := by
  unfold odd at h
  simp only [Bool.or_eq_false_iff] at h
  refine ⟨h.1.1, h.1.2, fun z => ?_⟩
  rw [z] at h
  simp at h
theorem slot_ok {N : List Str} {x : Str} {i : Nat} (h : slot N x = some i) : N[i]? = some x := by
  unfold slot at h
  rw [List.idxOf?, List.findIdx?_eq_some_iff_getElem] at h
  obtain ⟨hl, e, _⟩ := h
  rw [List.getElem?_eq_getElem hl]
  exact congrArg some (eq_of_beq e)
theorem XOk.var (k : XOk X T C) (x : Str) (p : Pos) (i : Nat) (h1 : isVis C.sc x = true) (h2 : odd x = false) (h3 : slot C.N x = some i) : PE X (.Name x p) (tVar i) := by
  obtain ⟨a, b, c⟩ := odd_no h2
  exact pe_var (by rw [k.N]; exact slot_ok h3) (by rw [k.sc]; exact isVis_ok h1) a b
theorem XOk.store (k : XOk X T C) {x : Str} {p : Pos} {i : Nat} (h1 : isLoc C.sc x = true) (h3 : C.st x = true) (h4 : slot C.N x = some i) : PG X (.Name x p) (gName i) :=
  pg_name (by rw [k.N]; exact k.nd) (by rw [k.N]; exact slot_ok h4) (by rw [k.sc]; exact isLoc_ok h1) (k.st x h3 h1)
theorem XOk.blk (k : XOk X T C) (s : Shared) (H : Hp) (scope : Scope) (cl : List (Str × Addr)) (D : Addr) (fp : List Addr) : XOk (X.blk s H scope (compEnvC scope cl D X.env) fp) T (C.blk scope) where
  N := k.N
  sc := by
    show (compEnvC scope cl D X.env).scope = relS scope C.sc
    rw [← k.sc]; rfl
  calm := k.calm
  nd := k.nd
  un := k.un
  gd := k.gd
  st := fun x h1 h2 => by
    have h1 : (match scope.names.lookup x with
      | some .local => true
      | some .cell => true
      | _ => false) = true := h1
    split at h1
    · rename_i e
      exact .inr (lookup_relS_keep (by decide) e)
    · rename_i e
      refine .inl ?_
      show (scope.names.lookup x == some .cell) = true
      rw [e]; rfl
    · cases h1
  bl := k.bl
  gc := k.gc
  fns := fun f ps io sh h => by
    obtain ⟨kk, a, fd, F, hr, hm, hk, hb, hw⟩ := (k.fns f ps io sh h).ok
    exact ⟨⟨kk, a, fd, F, hr, hm, hk, hb, hw⟩⟩
theorem isB_ok (k : XOk X T C) {f : Str} (h : isB C f = true) (hf : f ∈ bltNames) : Gl X f ∧ X.mg f = none := by
  unfold isB at h
  simp only [Bool.and_eq_true, Bool.not_eq_true'] at h
  exact ⟨isGl_ok k h.1.1, k.bl f hf h.1.2 h.2⟩

/-! ### operators -/
theorem bin_ok {op : Operator} {p : Prim} (h : binPrim op = some p) : OpR X (binaryOp op) (rP X.K p) := by
  cases op <;> cases h
  · exact op_addP
  · exact op_subP
  · exact op_mulP
  · exact op_modP
  · exact op_powP
  · exact op_fdivP
theorem cmp_ok (hu : X.A.units + 66 < cLine) {op : CmpOp} {p : Prim} (h : cmpPrim op = some p) : OpR X (compareOp op) (rP X.K p) := by
  cases op <;> cases h
  · exact op_eqP (by omega)
  · exact op_neP (by omega)
  · exact op_ltP
  · exact op_leP
  · exact op_gtP
  · exact op_geP
  · exact op_inP hu
  · exact op_notinP hu
theorem cmpI_bool {f : Int → Int → Bool} {a b r : O} (h : cmpI f a b = some r) : ∃ c, r = oB c := by
  obtain ⟨i, j, _, _, e⟩ := cmpI_inv h
  exact ⟨_, e⟩
theorem cmp_bool {op : CmpOp} {p : Prim} (h : cmpPrim op = some p) (os : List O) (r : O) (e : primEv p os = some r) : ∃ c, r = oB c := by
  have two : ∀ q : Prim, (q = .eq ∨ q = .ne ∨ q = .lt ∨ q = .le ∨ q = .gt ∨ q = .ge ∨ q = .isin ∨ q = .notin) → primEv q os = some r → ∃ c, r = oB c := by
    intro q hq e
    rcases os with _ | ⟨a, _ | ⟨b, _ | ⟨c, os⟩⟩⟩
    · rcases hq with rfl | rfl | rfl | rfl | rfl | rfl | rfl | rfl <;> cases (show (none : Option O) = some r from e)
    · rcases hq with rfl | rfl | rfl | rfl | rfl | rfl | rfl | rfl <;> cases (show (none : Option O) = some r from e)
    · rcases hq with rfl | rfl | rfl | rfl | rfl | rfl | rfl | rfl
      · obtain ⟨c, _, e⟩ := Option.map_eq_some_iff.mp (show (eqEv a.toD b.toD).map oB = some r from e); exact ⟨c, e.symm⟩
      · obtain ⟨c, _, e⟩ := Option.map_eq_some_iff.mp (show (eqEv a.toD b.toD).map (fun c => oB (!c)) = some r from e); exact ⟨_, e.symm⟩
      · rcases ltEv_inv e with ⟨_, _, _, _, e⟩ | e
        · exact ⟨_, e⟩
        · exact cmpI_bool e
      · exact cmpI_bool e
      · exact cmpI_bool e
      · exact cmpI_bool e
      · have e : (if b.isList || b.isTup then b.items.bind fun xs => (inEv a.toD xs).map oB else none) = some r := e
        split at e
        · obtain ⟨xs, _, e⟩ := Option.bind_eq_some_iff.mp e
          obtain ⟨c, _, e⟩ := Option.map_eq_some_iff.mp e
          exact ⟨c, e.symm⟩
        · cases e
      · have e : (if b.isList || b.isTup then b.items.bind fun xs => (inEv a.toD xs).map (fun c => oB (!c)) else none) = some r := e
        split at e
        · obtain ⟨xs, _, e⟩ := Option.bind_eq_some_iff.mp e
          obtain ⟨c, _, e⟩ := Option.map_eq_some_iff.mp e
          exact ⟨_, e.symm⟩
        · cases e
    · rcases hq with rfl | rfl | rfl | rfl | rfl | rfl | rfl | rfl <;> cases (show (none : Option O) = some r from e)
  refine two p ?_ e
  cases op <;> cases h <;> simp
theorem noSet_beh {op : CmpOp} {b : Expr} (h : noSet b = true) : behindInMarks op b = false := by
  cases b <;> first | rfl | cases h
/-- a form whose test is its value's truth -/
def Ex.plainT : Ex → Bool
  | .and _ _ => false
  | .or _ _ => false
  | .not _ => false
  | .ife _ _ _ => false
  | .chain _ _ _ _ _ => false
  | _ => true
theorem fin_tst {o : O} {t τ' : SO} {b : Bool} (h : (fin .tst o).map (·, t) = some (oB b, τ')) : truO o = some b ∧ t = τ' := by
  obtain ⟨r, h1, h2⟩ := Option.map_eq_some_iff.mp h
  cases h2
  obtain ⟨c, h3, h4⟩ := Option.map_eq_some_iff.mp (show (truO o).map oB = some (oB b) from h1)
  cases h4
  exact ⟨h3, rfl⟩
theorem tru_map {o : O} {t τ' : SO} {b : Bool} (h : (truO o).map (fun b => (oB b, t)) = some (oB b, τ')) : truO o = some b ∧ t = τ' := by
  obtain ⟨c, h3, h4⟩ := Option.map_eq_some_iff.mp h
  cases h4
  exact ⟨h3, rfl⟩
theorem tst_plain : ∀ (x : Ex), x.plainT = true → ∀ {τ τ' : SO} {b : Bool}, ev T .tst x τ = some (oB b, τ') → ∃ o, ev T .bor x τ = some (o, τ') ∧ truO o = some b
  | .k d, _, τ, τ', b, h => by
    simp only [ev] at h ⊢
    obtain ⟨a, rfl⟩ := fin_tst h
    exact ⟨_, rfl, a⟩
  | .v i, _, τ, τ', b, h => by
    simp only [ev] at h ⊢
    split at h
    · rename_i o e
      obtain ⟨a, rfl⟩ := tru_map h
      exact ⟨o, by first | rfl | rw [e], a⟩
    · cases h
  | .g x, _, τ, τ', b, h => by
    simp only [ev] at h ⊢
    obtain ⟨d, e, h⟩ := Option.bind_eq_some_iff.mp h
    obtain ⟨a, rfl⟩ := fin_tst h
    exact ⟨_, by rw [e]; rfl, a⟩
  | .pr p as, _, τ, τ', b, h => by
    simp only [ev] at h ⊢
    obtain ⟨os, t1, h1, h2⟩ := bnd_inv h
    obtain ⟨o, h3, h4⟩ := Option.bind_eq_some_iff.mp h2
    obtain ⟨a, rfl⟩ := fin_tst h4
    exact ⟨o, by rw [h1]; simp only [bnd_some, h3]; rfl, a⟩
  | .ix a i, _, τ, τ', b, h => by
    simp only [ev] at h ⊢
    obtain ⟨x, t1, h1, h2⟩ := bnd_inv h
    obtain ⟨y, t2, h3, h4⟩ := bnd_inv h2
    obtain ⟨o, h5, h6⟩ := Option.bind_eq_some_iff.mp h4
    obtain ⟨a, rfl⟩ := tru_map h6
    exact ⟨o, by rw [h1]; simp only [bnd_some, h3, h5]; rfl, a⟩
  | .call f io as, _, τ, τ', b, h => by
    simp only [ev] at h ⊢
    obtain ⟨os, t1, h1, h2⟩ := bnd_inv h
    obtain ⟨p, h3, h4⟩ := Option.bind_eq_some_iff.mp h2
    obtain ⟨r, h5, h6⟩ := Option.bind_eq_some_iff.mp h4
    obtain ⟨t3, h7, h8⟩ := Option.bind_eq_some_iff.mp h6
    obtain ⟨a, rfl⟩ := fin_tst h8
    exact ⟨r.1, by rw [h1]; simp only [bnd_some, h3, h5, h7, Option.bind_some]; rfl, a⟩
  | .callk f pm as, _, τ, τ', b, h => by
    simp only [ev] at h ⊢
    obtain ⟨os, t1, h1, h2⟩ := bnd_inv h
    split at h2
    · rename_i hp
      obtain ⟨r, h3, h4⟩ := Option.bind_eq_some_iff.mp h2
      split at h4
      · rename_i he
        obtain ⟨a, rfl⟩ := fin_tst h4
        exact ⟨r.1, by rw [h1]; simp only [bnd_some, hp, if_true, h3, Option.bind_some, he]; rfl, a⟩
      · cases h4
    · cases h2
  | .mut mt i ks as, _, τ, τ', b, h => by
    simp only [ev] at h ⊢
    split at h
    · rename_i hq
      rw [if_pos hq]
      obtain ⟨kv, h1, h2⟩ := Option.bind_eq_some_iff.mp h
      obtain ⟨on, h3, h4⟩ := Option.bind_eq_some_iff.mp h2
      split at h4
      · rename_i hl
        obtain ⟨os, t1, h5, h6⟩ := bnd_inv h4
        split at h6
        · rename_i o e
          obtain ⟨p, h7, h8⟩ := Option.bind_eq_some_iff.mp h6
          obtain ⟨a, rfl⟩ := fin_tst h8
          exact ⟨p.1, by rw [h1]; simp only [Option.bind_some, h3, hl, if_true, h5, bnd_some, e, h7]; rfl, a⟩
        · cases h6
      · cases h4
    · cases h
  | .tup as, _, τ, τ', b, h => by
    simp only [ev] at h ⊢
    obtain ⟨os, t1, h1, h2⟩ := bnd_inv h
    split at h2
    · rename_i hz
      obtain ⟨a, rfl⟩ := fin_tst h2
      exact ⟨_, by rw [h1]; simp only [bnd_some, hz, if_true]; rfl, a⟩
    · cases h2
  | .lst as, _, τ, τ', b, h => by
    simp only [ev] at h ⊢
    obtain ⟨os, t1, h1, h2⟩ := bnd_inv h
    split at h2
    · rename_i hz
      obtain ⟨a, rfl⟩ := fin_tst h2
      exact ⟨_, by rw [h1]; simp only [bnd_some, hz, if_true]; rfl, a⟩
    · cases h2
  | .dic ks as, _, τ, τ', b, h => by
    simp only [ev] at h ⊢
    obtain ⟨os, t1, h1, h2⟩ := bnd_inv h
    split at h2
    · rename_i hz
      obtain ⟨a, rfl⟩ := fin_tst h2
      exact ⟨_, by rw [h1]; simp only [bnd_some, hz, if_true]; rfl, a⟩
    · cases h2
  | .lc e tg ik it c own, _, τ, τ', b, h => by
    simp only [ev] at h ⊢
    obtain ⟨os, t1, h1, h2⟩ := bnd_inv h
    obtain ⟨xs, h3, h4⟩ := Option.bind_eq_some_iff.mp h2
    obtain ⟨rs, t2, h5, h6⟩ := bnd_inv h4
    split at h6
    · rename_i hz
      obtain ⟨a, rfl⟩ := fin_tst h6
      exact ⟨_, by rw [h1]; simp only [bnd_some, h3, Option.bind_some, h5, hz, if_true]; rfl, a⟩
    · cases h6
  | .bad, _, _, _, _, h => by simp only [ev] at h; cases h
  | .and _ _, h, _, _, _, _ => by cases h
  | .or _ _, h, _, _, _, _ => by cases h
  | .not _, h, _, _, _, _ => by cases h
  | .ife _ _ _, h, _, _, _, _ => by cases h
  | .chain _ _ _ _ _, h, _, _, _, _ => by cases h
theorem gt_of {e : Expr} {x : Ex} (hx : x.plainT = true) (he : ∀ m, m ≠ .tst → PE X e (tE T X.K m x)) (hs : ∀ whole, isTrue e X.env whole = (do let v ← whole; standAt e.pos; holding [v] (truthy v))) : PT X e (tT T X.K x) :=
  gt_plain he hs fun τ b τ' h => tst_plain x hx h
/-- None, as a test -/
theorem gt_isN {a : Expr} {xa : Ex} {k : Nat} {p2 pos : Pos} (ha : PE X a (tE T X.K .bor xa)) : PT X (.Compare a [.Is] [.Constant .none k p2] pos) (tT T X.K (.pr .isN (.cons xa .nil))) :=
  (pt_cmp (pc_isN ha) (nobehind _ (by decide) (by decide))).mono fun σ H Q ⟨τ, S, b, τ', w, sl, h, q⟩ => by
  obtain ⟨o, h0, htr⟩ := tst_plain _ rfl h
  obtain ⟨os, r, h1, h3, h5⟩ := pr_inv h0
  obtain ⟨x, e1, rfl⟩ := evR1 h1
  have e := fin_own (m := .bor) (by simp) h5
  subst e
  cases h3
  have eb : isNoneO x = b := by
    have : truO (oB (isNoneO x)) = some b := htr
    cases this; rfl
  refine ⟨τ, S, x, τ', w, sl, e1, fun u H1 S1 F1 p1 sl1 r1 => ⟨_, rfl, ?_⟩⟩
  rw [none_of r1, eb]
  exact q H1 S1 ((p1.less (fun _ z => z) fun b (z : F0 b) => z.elim).weak fun z => by simpa [Ex.quiet, Exs.quiet] using z) sl1
theorem gt_notN {a : Expr} {xa : Ex} {k : Nat} {p2 pos : Pos} (ha : PE X a (tE T X.K .bor xa)) : PT X (.Compare a [.IsNot] [.Constant .none k p2] pos) (tT T X.K (.pr .notN (.cons xa .nil))) :=
  (pt_cmp (pc_notN ha) (nobehind _ (by decide) (by decide))).mono fun σ H Q ⟨τ, S, b, τ', w, sl, h, q⟩ => by
  obtain ⟨o, h0, htr⟩ := tst_plain _ rfl h
  obtain ⟨os, r, h1, h3, h5⟩ := pr_inv h0
  obtain ⟨x, e1, rfl⟩ := evR1 h1
  have e := fin_own (m := .bor) (by simp) h5
  subst e
  have e3 : o = oB (!isNoneO x) := by
    have : primEv .notN [x] = some (oB (!isNoneO x)) := by
      unfold primEv isNoneO
      cases x with
      | dat d => cases d <;> rfl
      | _ => rfl
    rw [this] at h3
    exact (Option.some.inj h3).symm
  subst e3
  have eb : (!isNoneO x) = b := by
    have : truO (oB (!isNoneO x)) = some b := htr
    cases this; rfl
  refine ⟨τ, S, x, τ', w, sl, e1, fun u H1 S1 F1 p1 sl1 r1 => ⟨_, rfl, ?_⟩⟩
  rw [none_of r1, eb]
  exact q H1 S1 ((p1.less (fun _ z => z) fun b (z : F0 b) => z.elim).weak fun z => by simpa [Ex.quiet, Exs.quiet] using z) sl1
end
end GB

namespace GB
open PySem PySem.Spec PyProof.Rows L2

/-! ## 27. every expression that is translated -/
structure TrOk (X : Cx) (T : Tb) (f : Expr → Ex) : Prop where
  pe : ∀ e m, m ≠ .tst → PE X e (tE T X.K m (f e))
  pt : ∀ e, PT X e (tT T X.K (f e))
  pw : ∀ op vs pos, PW X (.BoolOp op vs pos) (tT T X.K (f (.BoolOp op vs pos)))
  nm : ∀ e i, (f e).nm? = some i → PE X e (tVar i)
section
variable {X : Cx} {T : Tb} {C : TC} {f : Expr → Ex}
theorem TrOk.A (k : TrOk X T f) : ∀ es, PA X es (tA T X.K (exsMap f es))
  | [] => ga_nilA
  | .Starred e p :: r => ga_starA (k.pe e .own (by simp)) (k.A r)
  | .Constant a b c :: r => ga_consA (k.pe _ .own (by simp)) (k.A r) rfl
  | .Name a b :: r => ga_consA (k.pe _ .own (by simp)) (k.A r) rfl
  | .BoolOp a b c :: r => ga_consA (k.pe _ .own (by simp)) (k.A r) rfl
  | .NamedExpr a b c :: r => ga_consA (k.pe _ .own (by simp)) (k.A r) rfl
  | .BinOp a b c d :: r => ga_consA (k.pe _ .own (by simp)) (k.A r) rfl
  | .UnaryOp a b c :: r => ga_consA (k.pe _ .own (by simp)) (k.A r) rfl
  | .Lambda a b c d :: r => ga_consA (k.pe _ .own (by simp)) (k.A r) rfl
  | .IfExp a b c d :: r => ga_consA (k.pe _ .own (by simp)) (k.A r) rfl
  | .Dict a b c :: r => ga_consA (k.pe _ .own (by simp)) (k.A r) rfl
  | .Set a b c :: r => ga_consA (k.pe _ .own (by simp)) (k.A r) rfl
  | .ListComp a b c d :: r => ga_consA (k.pe _ .own (by simp)) (k.A r) rfl
  | .SetComp a b c d :: r => ga_consA (k.pe _ .own (by simp)) (k.A r) rfl
  | .DictComp a b c d e :: r => ga_consA (k.pe _ .own (by simp)) (k.A r) rfl
  | .GeneratorExp a b c d :: r => ga_consA (k.pe _ .own (by simp)) (k.A r) rfl
  | .Await a b :: r => ga_consA (k.pe _ .own (by simp)) (k.A r) rfl
  | .Yield a b :: r => ga_consA (k.pe _ .own (by simp)) (k.A r) rfl
  | .YieldFrom a b :: r => ga_consA (k.pe _ .own (by simp)) (k.A r) rfl
  | .Compare a b c d :: r => ga_consA (k.pe _ .own (by simp)) (k.A r) rfl
  | .Call a b c d :: r => ga_consA (k.pe _ .own (by simp)) (k.A r) rfl
  | .FormattedValue a b c d :: r => ga_consA (k.pe _ .own (by simp)) (k.A r) rfl
  | .JoinedStr a b :: r => ga_consA (k.pe _ .own (by simp)) (k.A r) rfl
  | .Attribute a b c :: r => ga_consA (k.pe _ .own (by simp)) (k.A r) rfl
  | .Subscript a b c :: r => ga_consA (k.pe _ .own (by simp)) (k.A r) rfl
  | .List a b :: r => ga_consA (k.pe _ .own (by simp)) (k.A r) rfl
  | .Tuple a b c :: r => ga_consA (k.pe _ .own (by simp)) (k.A r) rfl
  | .Slice a b c d :: r => ga_consA (k.pe _ .own (by simp)) (k.A r) rfl
theorem exs_plain {e : Expr} {r : List Expr} (h : notStar e = true) : exsMap f (e :: r) = .cons (f e) (exsMap f r) := by
  cases e <;> first | rfl | cases h
theorem TrOk.es (k : TrOk X T f) : ∀ es, es.all notStar = true → PEs X T es (exsMap f es)
  | [], _ => .nil
  | e :: r, h => by
    simp only [List.all_cons, Bool.and_eq_true] at h
    rw [exs_plain h.1]
    exact .cons (k.pe e) (k.es r h.2)
theorem TrOk.cs (k : TrOk X T f) : ∀ (io : List Bool) (es : List Expr), es.all notStar = true → io.length = es.length → PCs X T io es (exsMap f es)
  | [], [], _, _ => .nil
  | [], _ :: _, _, l => by simp at l
  | _ :: _, [], _, l => by simp at l
  | b :: io, e :: r, h, l => by
    simp only [List.all_cons, Bool.and_eq_true] at h
    rw [exs_plain h.1]
    exact .cons h.1 (k.pe e .own (by simp)) (k.nm e) (k.cs io r h.2 (by simpa using l))
theorem gi_it (k : XOk X T C) (h : TrOk X T f) (tg it : Expr) : PI X tg it (iW T X.K (trIt f C (isTupE tg) it).1 (trIt f C (isTupE tg) it).2) := by
  have seq : PI X tg it (iW T X.K .seq (.cons (f it) .nil)) := gi_seq (h.pe it .own (by simp))
  unfold trIt
  split
  · split
    · rename_i hc
      simp only [Bool.and_eq_true] at hc
      have e := str_eq hc.1.2
      subst e
      obtain ⟨g, m⟩ := isB_ok k hc.1.1 (by decide)
      exact gi_rng1 g m hc.2 (h.pe _ .own (by simp))
    · split
      · rename_i hc
        simp only [Bool.and_eq_true] at hc
        have e := str_eq hc.1.1.2
        subst e
        obtain ⟨g, m⟩ := isB_ok k hc.1.1.1 (by decide)
        have ht := hc.2
        cases tg with
        | Tuple es kk tp => exact gi_enum g m hc.1.2 (h.pe _ .own (by simp))
        | _ => cases ht
      · exact seq
  · split
    · rename_i hc
      simp only [Bool.and_eq_true] at hc
      have e := str_eq hc.1.1.2
      subst e
      obtain ⟨g, m⟩ := isB_ok k hc.1.1.1 (by decide)
      exact gi_rng2 g m hc.1.2 hc.2 (h.pe _ .own (by simp)) (h.pe _ .own (by simp))
    · split
      · rename_i hc
        simp only [Bool.and_eq_true] at hc
        have e := str_eq hc.1.1.1.2
        subst e
        obtain ⟨g, m⟩ := isB_ok k hc.1.1.1.1 (by decide)
        have ht := hc.2
        cases tg with
        | Tuple es kk tp => exact gi_zip g m hc.1.1.2 hc.1.2 (h.pe _ .own (by simp)) (h.pe _ .own (by simp))
        | _ => cases ht
      · exact seq
  · exact seq
theorem nmSlots_ok (k : XOk X T C) : ∀ {es : List Expr} {is : List Nat}, nmSlots C es = some is → PGn X es is
  | [], is, h => by cases h; exact .nil
  | .Name x p :: r, is, h => by
    unfold nmSlots at h
    split at h
    · rename_i hc
      simp only [Bool.and_eq_true, Bool.not_eq_true'] at hc
      split at h
      · rename_i i is' e1 e2
        split at h
        · cases h
        · cases h
          exact .cons (k.store hc.1.1 hc.2 e1) (nmSlots_ok k e2)
      · cases h
    · cases h
theorem trTg_ok (k : XOk X T C) {tg : Expr} {t : Tg} (h : trTg C tg = some t) : PG X tg (tTg X.K t) := by
  unfold trTg at h
  split at h
  · split at h
    · rename_i hc
      simp only [Bool.and_eq_true, Bool.not_eq_true'] at hc
      split at h
      · rename_i i e1
        split at h
        · cases h
        · cases h
          exact gt_name (k.store hc.1.1 hc.2 e1)
      · cases h
    · cases h
  · obtain ⟨is, e, h2⟩ := Option.map_eq_some_iff.mp h
    cases h2
    exact gt_tup k.calm (nmSlots_ok k e)
  · cases h
/-- both ways of reading a plain form -/
def Both (X : Cx) (T : Tb) (e : Expr) (x : Ex) : Prop := (∀ m, m ≠ .tst → PE X e (tE T X.K m x)) ∧ PT X e (tT T X.K x)
theorem both_bad {e : Expr} : Both X T e .bad := ⟨fun _ _ => ge_bad, gt_bad⟩
theorem both_of {e : Expr} {x : Ex} (hx : x.plainT = true) (he : ∀ m, m ≠ .tst → PE X e (tE T X.K m x)) (hs : ∀ whole, isTrue e X.env whole = (do let v ← whole; standAt e.pos; holding [v] (truthy v))) : Both X T e x := ⟨he, gt_of hx he hs⟩
end
end GB

namespace GB
open PySem PySem.Spec PyProof.Rows L2

section
variable {X : Cx} {T : Tb} {C : TC} {f : Expr → Ex}
theorem blt_ok (k : XOk X T C) (h : TrOk X T f) {g : Str} {p : Prim} {a : Expr} {fp pos : Pos} (hb : bltPrim g = some p) (hg : Gl X g) (hsg : (C.sg g).isNone = true) (hgl : C.gl g = false) (hs : notStar a = true) : Both X T (.Call (.Name g fp) [a] [] pos) (.pr p (.cons (f a) .nil)) := by
  refine both_of rfl (fun m hm => ?_) fun _ => rfl
  unfold bltPrim at hb
  split at hb
  · rename_i e; cases hb; have e := str_eq e; subst e
    exact ge_callB call_lenP hg (k.bl _ (by decide) hsg hgl) boot_len (by decide) (by decide) hs (h.pe a) hm
  · split at hb
    · rename_i e; cases hb; have e := str_eq e; subst e
      exact ge_callT call_intP hg (k.bl _ (by decide) hsg hgl) boot_int (by decide) (by decide) hs (h.pe a) hm
    · split at hb
      · rename_i e; cases hb; have e := str_eq e; subst e
        exact ge_callB call_absP hg (k.bl _ (by decide) hsg hgl) boot_abs (by decide) (by decide) hs (h.pe a) hm
      · split at hb
        · rename_i e; cases hb; have e := str_eq e; subst e
          exact ge_callT call_listP hg (k.bl _ (by decide) hsg hgl) boot_list (by decide) (by decide) hs (h.pe a) hm
        · split at hb
          · rename_i e; cases hb; have e := str_eq e; subst e
            exact ge_callT call_tupleP hg (k.bl _ (by decide) hsg hgl) boot_tuple (by decide) (by decide) hs (h.pe a) hm
          · split at hb
            · rename_i e; cases hb; have e := str_eq e; subst e
              exact ge_callB (call_reprP k.gd (by have := k.un; omega)) hg (k.bl _ (by decide) hsg hgl) boot_repr (by decide) (by decide) hs (h.pe a) hm
            · split at hb
              · rename_i e; cases hb; have e := str_eq e; subst e
                exact ge_callB (call_allP k.calm) hg (k.bl _ (by decide) hsg hgl) boot_all (by decide) (by decide) hs (h.pe a) hm
              · cases hb
theorem ty_boot {t : Str} {U : String} (h : tyNames.lookup t = some U) : U ∈ tyNames.map (·.2) ∧ bootBuiltins t = some (.type U) ∧ t ∈ bltNames ∧ t ≠ "__name__" ∧ (t == ("__debug__" : Str)) = false := by
  have hm := PySem.mem_of_lookup h
  have all : ∀ q ∈ tyNames, q.2 ∈ tyNames.map (·.2) ∧ bootBuiltins q.1 = some (.type q.2) ∧ q.1 ∈ bltNames ∧ q.1 ≠ "__name__" ∧ (q.1 == ("__debug__" : Str)) = false := by
    intro q hq
    simp only [tyNames, List.mem_cons, List.not_mem_nil, or_false] at hq
    rcases hq with rfl | rfl | rfl | rfl | rfl | rfl
    · exact ⟨by decide, boot_int, by decide, by decide, by decide⟩
    · exact ⟨by decide, boot_bool, by decide, by decide, by decide⟩
    · exact ⟨by decide, boot_str, by decide, by decide, by decide⟩
    · exact ⟨by decide, boot_tuple, by decide, by decide, by decide⟩
    · exact ⟨by decide, boot_list, by decide, by decide, by decide⟩
    · exact ⟨by decide, boot_dict, by decide, by decide, by decide⟩
  exact all _ hm
theorem TrOk.fs (k : TrOk X T f) : ∀ es : List Expr, es.all notStar = true → PFs X T es (exsMap f es)
  | [], _ => .nil
  | e :: r, h => by
    simp only [List.all_cons, Bool.and_eq_true] at h
    rw [exs_plain h.1]
    exact .cons h.1 (ge_frz (k.pe e .own (by simp))) (k.fs r h.2)
theorem trCall_ok (k : XOk X T C) (h : TrOk X T f) (g : Str) (args : List Expr) (kws : List Keyword) (fp pos : Pos) : Both X T (.Call (.Name g fp) args kws pos) (trCall f C g args kws) := by
  unfold trCall
  split
  · exact both_bad
  · rename_i ho
    simp only [Bool.or_eq_true, Bool.not_eq_true', not_or, Bool.not_eq_true, Bool.not_eq_false] at ho
    have hg := isGl_ok k ho.2
    obtain ⟨d1, d2, d3⟩ := odd_no ho.1
    split
    · rename_i ps io sh hsg
      split
      · split
        · rename_i hc
          simp only [Bool.and_eq_true, beq_iff_eq] at hc
          refine both_of rfl (fun m hm => ?_) fun _ => rfl
          exact ge_call k.gd hg d1 (k.fns g ps io sh hsg) (h.cs io args hc.2 (by omega)) hc.2 hm
        · exact both_bad
      · split
        · rename_i ks hks
          split
          · rename_i hc
            simp only [Bool.and_eq_true, beq_iff_eq] at hc
            obtain ⟨kk, a, fd, F, hr, hm, hk, hb, hw⟩ := (k.fns g ps io sh hsg).ok
            refine both_of rfl (fun m hmm => ?_) fun _ => rfl
            exact ge_callk k.gd hg d1 F hr hm hk (hw _ _ (by simpa using hc.1.1.1.1)) hc.1.1.1.2 (by rw [pm_len]; omega) (ks_names hks) (h.fs args hc.1.2) (h.fs _ hc.2) hc.1.2 hmm
          · exact both_bad
        · exact both_bad
    · rename_i hsg
      have hn : (C.sg g).isNone = true := by rw [hsg]; rfl
      split
      · exact both_bad
      · rename_i hgl
        have hgl : C.gl g = false := by simpa using hgl
        split
        · split
          · rename_i hs
            split
            · rename_i p hb
              exact blt_ok k h hb hg hn hgl hs
            · exact both_bad
          · exact both_bad
        · split
          · rename_i hc
            simp only [Bool.and_eq_true] at hc
            have e := str_eq hc.1.1
            subst e
            split
            · rename_i U hU
              obtain ⟨u1, u2, u3, u4, u5⟩ := ty_boot hU
              obtain ⟨g1, g2⟩ := isB_ok k hc.1.2 u3
              exact both_of rfl (fun m hm => ge_isi u1 hg (k.bl _ (by decide) hn hgl) g1 g2 u2 u4 u5 hc.2 (h.pe _ .bor (by simp)) hm) fun _ => rfl
            · exact both_bad
          · exact both_bad
        · exact both_bad
theorem lr_ok (k : XOk X T C) (h : TrOk X T f) {e a : Expr} (hl : lrOf C e = some a) : Both X T e (.pr .lrange (.cons (f a) .nil)) := by
  unfold lrOf at hl
  split at hl
  · split at hl
    · rename_i hc
      cases hl
      simp only [Bool.and_eq_true] at hc
      have e1 := str_eq hc.1.1.1.1
      have e2 := str_eq hc.1.1.2
      subst e1 e2
      obtain ⟨g1, m1⟩ := isB_ok k hc.1.1.1.2 (by decide)
      obtain ⟨g2, m2⟩ := isB_ok k hc.1.2 (by decide)
      exact both_of rfl (fun m hm => ge_lrange k.calm g1 m1 g2 m2 hc.2 (h.pe _ .bor (by simp)) hm) fun _ => rfl
    · cases hl
  · cases hl
theorem sub_ok (k : XOk X T C) (h : TrOk X T f) (a s : Expr) (pos : Pos) : Both X T (.Subscript a s pos) (match s with
      | .Slice l h st _ => (match slcOf l h st with
        | some (bl, bh, ps) => .pr (.slc bl bh) (.cons (f a) (exsOf (ps.map f)))
        | none => if isRev l h st then .pr .rev (.cons (f a) .nil) else .bad)
      | _ => .ix (f a) (f s)) := by
  split
  · rename_i l hh st p
    split
    · rename_i bl bh ps e
      refine both_of rfl (fun m hm => ?_) fun _ => rfl
      unfold slcOf at e
      split at e <;> first | cases e | skip
      · exact ge_sl0 (h.pe a .bor (by simp)) hm
      · exact ge_sl1 (h.pe a) (h.pe _) hm
      · exact ge_sl2 (h.pe a) (h.pe _) hm
      · exact ge_sl3 (h.pe a) (h.pe _) (h.pe _) hm
    · split
      · rename_i hr
        refine both_of rfl (fun m hm => ?_) fun _ => rfl
        unfold isRev at hr
        split at hr
        · exact ge_rev (h.pe a .bor (by simp)) hm
        · cases hr
      · exact both_bad
  · rename_i hns
    exact both_of rfl (fun m hm => ge_ix (by have := k.un; omega) (fun l u st p e => hns l u st p e) (h.pe a) (h.pe s) hm) fun _ => rfl
theorem mutc_ok (k : XOk X T C) (h : TrOk X T f) (o : Expr) (mn : Str) (apos : Pos) (args : List Expr) (kws : List Keyword) (pos : Pos) : Both X T (.Call (.Attribute o mn apos) args kws pos) (if kws.isEmpty && apos.endLine == pos.line && decide (args.length < 20) && args.all notStar then
            match mutOf mn args.length, pathOf C o with
            | some mt, some (i, ks) => if ks.all notStar then .mut mt i (exsMap f ks) (exsMap f args) else .bad
            | _, _ => .bad
          else .bad) := by
  split
  · rename_i hc
    simp only [Bool.and_eq_true, decide_eq_true_eq] at hc
    have ek : kws = [] := by cases kws with | nil => rfl | cons _ _ => simp at hc
    subst ek
    split
    · rename_i mt i ks e1 e2
      split
      · rename_i hks
        refine both_of rfl (fun m hm => ?_) fun _ => rfl
        exact ge_mut e1 (ge_path (by have := k.un; omega) (fun x p i a b c => k.var x p i a b c) o e2 (h.es ks hks)) (h.A args) hc.2 hc.1.1.2 (path_call e2) (fun z => by subst z; rfl) hm
      · exact both_bad
    · exact both_bad
  · exact both_bad
theorem cmp1_ok (k : XOk X T C) (h : TrOk X T f) (a : Expr) (op : CmpOp) (b : Expr) (pos : Pos) : Both X T (.Compare a [op] [b] pos) (match op, b with
        | .Is, .Constant .none _ _ => .pr .isN (.cons (f a) .nil)
        | .IsNot, .Constant .none _ _ => .pr .notN (.cons (f a) .nil)
        | op, b => if noSet b then (match cmpPrim op with
          | some p => .pr p (.cons (f a) (.cons (f b) .nil))
          | none => .bad) else .bad) := by
  split
  · exact ⟨fun m hm => ge_isN (h.pe a .bor (by simp)) hm, gt_isN (h.pe a .bor (by simp))⟩
  · exact ⟨fun m hm => ge_notN (h.pe a .bor (by simp)) hm, gt_notN (h.pe a .bor (by simp))⟩
  · split
    · rename_i hb
      split
      · rename_i p e
        exact ⟨fun m hm => ge_cmp (cmp_ok (by have := k.un; omega) e) (noSet_beh hb) (h.pe a) (h.pe _) hm, gt_cmp (cmp_ok (by have := k.un; omega) e) (noSet_beh hb) (cmp_bool e) (h.pe a) (h.pe _)⟩
      · exact both_bad
    · exact both_bad
theorem cmp2_ok (k : XOk X T C) (h : TrOk X T f) (a : Expr) (op op' : CmpOp) (b c : Expr) (pos : Pos) : Both X T (.Compare a [op, op'] [b, c] pos) (if noSet b && noSet c then (match cmpPrim op, cmpPrim op' with
        | some p, some q => .chain p q (f a) (f b) (f c)
        | _, _ => .bad) else .bad) := by
  split
  · rename_i hb
    simp only [Bool.and_eq_true] at hb
    split
    · rename_i p q e1 e2
      have hl : lastMarks [op, op'] [b, c] = false := noSet_beh hb.2
      exact ⟨fun m hm => ge_chain (cmp_ok (by have := k.un; omega) e1) (cmp_ok (by have := k.un; omega) e2) hl (h.pe a) (h.pe b) (h.pe c) hm, gt_chain (cmp_ok (by have := k.un; omega) e1) (cmp_ok (by have := k.un; omega) e2) hl (h.pe a) (h.pe b) (h.pe c)⟩
    · exact both_bad
  · exact both_bad
theorem noSet_fold {it : Expr} {env : Env} (h : noSet it = true) : ∀ x, foldedSetIterable it env x = pure x := by
  intro x
  cases it <;> first | rfl | cases h
theorem lc_ok (k : XOk X T C) (h : TrOk X T f) {g : TC → Expr → Ex} (hg : ∀ X' C', XOk X' T C' → X'.K = X.K → TrOk X' T (g C')) (elt tg it : Expr) (ifs : List Expr) (scope : Scope) (pos : Pos) :
    Both X T (.ListComp elt [⟨tg, it, ifs, 0⟩] scope pos) (lcOf g f C elt tg it ifs scope) := by
  unfold lcOf
  split
  · rename_i hc
    simp only [Bool.and_eq_true] at hc
    have ok : BlkOk X.N X.env.scope scope (ownOf C.N scope.names) := by
      rw [k.N, k.sc]; exact blkOk_by hc.1.1
    split
    · rename_i t e
      split
      · rename_i hsub
        have hsub : ∀ j ∈ t.slots, j ∈ (ownOf C.N scope.names).map (·.2) := fun j hj => by simpa using List.all_eq_true.mp hsub j hj
        refine both_of rfl (fun m hm => ?_) fun _ => rfl
        exact ge_lc k.calm (by rw [k.N]; exact k.nd) (gi_it k h tg it) ok (fun s H D cl fp => trTg_ok (k.blk s H scope cl D fp) e) (fun s H D cl fp => gts_nil) (fun s H D cl fp => (hg _ _ (k.blk s H scope cl D fp) rfl).pe elt .own (by simp)) (noSet_fold hc.2) hsub hm
      · exact both_bad
    · rename_i t c e
      split
      · rename_i hsub
        have hsub : ∀ j ∈ t.slots, j ∈ (ownOf C.N scope.names).map (·.2) := fun j hj => by simpa using List.all_eq_true.mp hsub j hj
        refine both_of rfl (fun m hm => ?_) fun _ => rfl
        exact ge_lc k.calm (by rw [k.N]; exact k.nd) (gi_it k h tg it) ok (fun s H D cl fp => trTg_ok (k.blk s H scope cl D fp) e) (fun s H D cl fp => pts_one ((hg _ _ (k.blk s H scope cl D fp) rfl).pt c)) (fun s H D cl fp => (hg _ _ (k.blk s H scope cl D fp) rfl).pe elt .own (by simp)) (noSet_fold hc.2) hsub hm
      · exact both_bad
    · exact both_bad
  · exact both_bad
end
end GB

namespace GB
open PySem PySem.Spec PyProof.Rows L2

section
variable {T : Tb}
theorem trOk_bad {X : Cx} : TrOk X T (fun _ => .bad) := ⟨fun _ _ _ => ge_bad, fun _ => gt_bad, fun _ _ _ => ⟨fun wh pins s σ H Q I ⟨τ, S, o, τ', w, sl, h, q⟩ => by simp only [ev] at h; cases h⟩, fun _ _ h => by cases h⟩
theorem pt_one {X : Cx} {a : Expr} {op : BoolOp} {t : TT} {pos : Pos} (h : PT X a t) : PW X (.BoolOp op [a] pos) t := by
  cases op with
  | And => exact pw_and1 h
  | Or => exact pw_or1 h
theorem gw_bad {X : Cx} {e : Expr} : PW X e (tT T X.K .bad) := ⟨fun wh pins s σ H Q I ⟨τ, S, o, τ', w, sl, h, q⟩ => by simp only [ev] at h; cases h⟩
/-- logic -/
theorem bool_ok {X : Cx} {f : Expr → Ex} (h : TrOk X T f) (op : BoolOp) (vs : List Expr) (pos : Pos) :
    (∀ m, m ≠ .tst → PE X (.BoolOp op vs pos) (tE T X.K m (match op, vs with
      | .And, [a] => f a
      | .And, a :: b :: r => .and (f a) (f (.BoolOp .And (b :: r) pos))
      | .Or, [a] => f a
      | .Or, a :: b :: r => .or (f a) (f (.BoolOp .Or (b :: r) pos))
      | _, _ => .bad))) ∧ PW X (.BoolOp op vs pos) (tT T X.K (match op, vs with
      | .And, [a] => f a
      | .And, a :: b :: r => .and (f a) (f (.BoolOp .And (b :: r) pos))
      | .Or, [a] => f a
      | .Or, a :: b :: r => .or (f a) (f (.BoolOp .Or (b :: r) pos))
      | _, _ => .bad)) ∧ ∀ i, (match op, vs with
      | .And, [a] => f a
      | .And, a :: b :: r => .and (f a) (f (.BoolOp .And (b :: r) pos))
      | .Or, [a] => f a
      | .Or, a :: b :: r => .or (f a) (f (.BoolOp .Or (b :: r) pos))
      | _, _ => .bad : Ex).nm? = some i → PE X (.BoolOp op vs pos) (tVar i) := by
  split
  · exact ⟨fun m hm => pe_one (h.pe _ m hm), pt_one (h.pt _), fun i hi => pe_one (h.nm _ i hi)⟩
  · exact ⟨fun m hm => ge_and (h.pe _ .own (by simp)) (h.pe _ .own (by simp)) hm, gw_and (h.pt _) (h.pw _ _ _), fun i hi => by cases hi⟩
  · exact ⟨fun m hm => pe_one (h.pe _ m hm), pt_one (h.pt _), fun i hi => pe_one (h.nm _ i hi)⟩
  · exact ⟨fun m hm => ge_or (h.pe _ .own (by simp)) (h.pe _ .own (by simp)) hm, gw_or (h.pt _) (h.pw _ _ _), fun i hi => by cases hi⟩
  · exact ⟨fun m hm => ge_bad, gw_bad, fun i hi => by cases hi⟩
theorem trCall_nm (f : Expr → Ex) (C : TC) (g : Str) (args : List Expr) (kws : List Keyword) : (trCall f C g args kws).nm? = none := by
  unfold trCall
  split
  · rfl
  · split
    · split
      · split <;> rfl
      · split
        · split <;> rfl
        · rfl
    · split
      · rfl
      · split
        · split
          · split <;> rfl
          · rfl
        · split
          · split <;> rfl
          · rfl
        · rfl
theorem mutc_nm (f : Expr → Ex) (C : TC) (o : Expr) (mn : Str) (apos : Pos) (args : List Expr) (kws : List Keyword) (pos : Pos) : (if kws.isEmpty && apos.endLine == pos.line && decide (args.length < 20) && args.all notStar then
            match mutOf mn args.length, pathOf C o with
            | some mt, some (i, ks) => if ks.all notStar then .mut mt i (exsMap f ks) (exsMap f args) else .bad
            | _, _ => .bad
          else .bad : Ex).nm? = none := by
  split
  · split
    · split <;> rfl
    · rfl
  · rfl
/-- what a form needs: both ways, and the name if it is one -/
def Tri (X : Cx) (T : Tb) (e : Expr) (x : Ex) : Prop := Both X T e x ∧ ∀ i, x.nm? = some i → PE X e (tVar i)
theorem tri_of {X : Cx} {e : Expr} {x : Ex} (h : Both X T e x) (n : x.nm? = none) : Tri X T e x := ⟨h, fun i hi => by rw [n] at hi; cases hi⟩
theorem tr_step (n : Nat) (ih : ∀ X C, XOk X T C → TrOk X T (tr n C)) {X : Cx} {C : TC} (k : XOk X T C) (e : Expr) : Tri X T e (tr (n + 1) C e) ∧ ∀ op vs pos, e = .BoolOp op vs pos → PW X e (tT T X.K (tr (n + 1) C e)) := by
  have h := ih X C k
  have nb : ∀ {x : Expr} {y : Ex}, (∀ op vs pos, x ≠ .BoolOp op vs pos) → Tri X T x y → Tri X T x y ∧ ∀ op vs pos, x = .BoolOp op vs pos → PW X x (tT T X.K y) := fun hx t => ⟨t, fun op vs pos e => absurd e (hx op vs pos)⟩
  cases e with
  | BoolOp op vs pos =>
    obtain ⟨a, b, c⟩ := bool_ok h op vs pos
    unfold tr
    exact ⟨⟨⟨a, b.pt⟩, c⟩, fun _ _ _ _ => b⟩
  | Constant c j pos =>
    refine nb (fun _ _ _ => by simp) ?_
    unfold tr
    dsimp only
    cases c with
    | none => exact tri_of (both_of rfl (fun m hm => ge_const pe_non (fun H => .non) hm) fun _ => rfl) rfl
    | bool b => exact tri_of (both_of rfl (fun m hm => ge_const pe_bl (fun H => .bl b) hm) fun _ => rfl) rfl
    | int i => exact tri_of (both_of rfl (fun m hm => ge_const pe_int (fun H => .int i) hm) fun _ => rfl) rfl
    | str x => exact tri_of (both_of rfl (fun m hm => ge_const pe_str (fun H => .str x) hm) fun _ => rfl) rfl
    | _ => exact tri_of both_bad rfl
  | Name x pos =>
    refine nb (fun _ _ _ => by simp) ?_
    unfold tr
    dsimp only
    split
    · exact tri_of both_bad rfl
    · rename_i ho
      have ho : odd x = false := by simpa using ho
      split
      · rename_i hv
        split
        · rename_i i hs
          have hp := k.var x pos i hv ho hs
          exact ⟨both_of rfl (fun m hm => ge_var hp hm) fun _ => rfl, fun j hj => by cases hj; exact hp⟩
        · exact tri_of both_bad rfl
      · split
        · rename_i hg
          simp only [Bool.and_eq_true] at hg
          have hgl := isGl_ok k hg.1
          obtain ⟨d1, d2, d3⟩ := odd_no ho
          refine tri_of (both_of rfl (fun m hm => ge_glob (fun d hd => ?_) hm) fun _ => rfl) rfl
          obtain ⟨v, u, e1, r, dv⟩ := k.gc x d hg.2 hd
          exact ⟨v, pe_glob hgl e1 r d1, dv⟩
        · exact tri_of both_bad rfl
  | UnaryOp op a pos =>
    refine nb (fun _ _ _ => by simp) ?_
    unfold tr
    dsimp only
    cases op with
    | Not => exact tri_of ⟨fun m hm => ge_not (h.pe a .own (by simp)) hm, gt_not (h.pt a)⟩ rfl
    | USub => exact tri_of (both_of rfl (fun m hm => ge_un op_negP (h.pe a) hm) fun _ => rfl) rfl
    | _ => exact tri_of both_bad rfl
  | BinOp a op b pos =>
    refine nb (fun _ _ _ => by simp) ?_
    unfold tr
    dsimp only
    split
    · rename_i p e
      exact tri_of (both_of rfl (fun m hm => ge_bin (bin_ok e) (h.pe a) (h.pe b) hm) fun _ => rfl) rfl
    · exact tri_of both_bad rfl
  | IfExp c a b pos =>
    refine nb (fun _ _ _ => by simp) ?_
    unfold tr
    exact tri_of ⟨fun m hm => ge_ife (h.pt c) (h.pe a .own (by simp)) (h.pe b .own (by simp)) hm, gt_ife (h.pt c) (h.pt a) (h.pt b)⟩ rfl
  | Compare a ops cs pos =>
    refine nb (fun _ _ _ => by simp) ?_
    unfold tr
    dsimp only
    split
    · rename_i op b
      refine tri_of (cmp1_ok k h a op b pos) ?_
      split
      · rfl
      · rfl
      · split
        · split <;> rfl
        · rfl
    · rename_i op op' b c
      refine tri_of (cmp2_ok k h a op op' b c pos) ?_
      split
      · split <;> rfl
      · rfl
    · exact tri_of both_bad rfl
  | Tuple es j pos =>
    refine nb (fun _ _ _ => by simp) ?_
    unfold tr
    exact tri_of (both_of rfl (fun m hm => ge_tup (h.A es) hm) fun _ => rfl) rfl
  | List es pos =>
    refine nb (fun _ _ _ => by simp) ?_
    unfold tr
    exact tri_of (both_of rfl (fun m hm => ge_lst (h.A es) hm) fun _ => rfl) rfl
  | Dict ks vs pos =>
    refine nb (fun _ _ _ => by simp) ?_
    unfold tr
    dsimp only
    split
    · rename_i kl e
      split
      · rename_i hc
        simp only [Bool.and_eq_true, beq_iff_eq] at hc
        exact tri_of (both_of rfl (fun m hm => ge_dic e (h.es vs hc.2) hc.1 hm) fun _ => rfl) rfl
      · exact tri_of both_bad rfl
    · exact tri_of both_bad rfl
  | Subscript a s pos =>
    refine nb (fun _ _ _ => by simp) ?_
    unfold tr
    dsimp only
    refine tri_of (sub_ok k h a s pos) ?_
    split
    · split
      · rfl
      · split <;> rfl
    · rfl
  | Call g args kws pos =>
    refine nb (fun _ _ _ => by simp) ?_
    unfold tr
    dsimp only
    split
    · rename_i a e
      exact tri_of (lr_ok k h e) rfl
    · cases g with
      | Name g fp =>
        exact tri_of (trCall_ok k h g args kws fp pos) (trCall_nm _ _ _ _ _)
      | Attribute o mn apos =>
        exact tri_of (mutc_ok k h o mn apos args kws pos) (mutc_nm _ _ _ _ _ _ _ _)
      | _ => exact tri_of both_bad rfl
  | ListComp elt gs scope pos =>
    refine nb (fun _ _ _ => by simp) ?_
    unfold tr
    dsimp only
    split
    · rename_i tg it ifs
      refine tri_of (lc_ok k h (g := tr n) (fun X' C' k' _ => ih X' C' k') elt tg it ifs scope pos) ?_
      unfold lcOf
      split
      · split
        · split <;> rfl
        · split <;> rfl
        · rfl
      · rfl
    · exact tri_of both_bad rfl
  | _ => exact nb (fun _ _ _ => by simp) (tri_of both_bad rfl)
theorem tr_ok : ∀ (n : Nat) (X : Cx) (C : TC), XOk X T C → TrOk X T (tr n C)
  | 0, X, C, k => trOk_bad
  | n + 1, X, C, k => ⟨fun e m hm => (tr_step n (tr_ok n) k e).1.1.1 m hm, fun e => (tr_step n (tr_ok n) k e).1.1.2, fun op vs pos => (tr_step n (tr_ok n) k _).2 op vs pos rfl, fun e i hi => (tr_step n (tr_ok n) k e).1.2 i hi⟩
end
end GB

namespace GB
open PySem PySem.Spec PyProof.Rows L2

/-! ## 28. statements -/
section
variable {X : Cx} {T : Tb} {K : PySem.W.Frag} {prot : List Nat}
/-- the caller's slots stay -/
structure Pr (prot : List Nat) (σ σ' : L2.St) : Prop where
  len : σ'.length = σ.length
  at_ : ∀ j ∈ prot, σ'[j]? = σ[j]?
theorem Pr.refl {σ : L2.St} : Pr prot σ σ := ⟨rfl, fun _ _ => rfl⟩
theorem Pr.trans {σ σ1 σ2 : L2.St} (a : Pr prot σ σ1) (b : Pr prot σ1 σ2) : Pr prot σ σ2 := ⟨b.len.trans a.len, fun j h => (b.at_ j h).trans (a.at_ j h)⟩
theorem Pr.of {is : List Nat} {σ σ' : L2.St} (o : Only is σ σ') (h : ∀ i ∈ is, i ∉ prot) : Pr prot σ σ' := ⟨o.len, fun j hj => o.at_ j fun z => h j z hj⟩
theorem Pr.set {σ : L2.St} {i : Nat} {x : Option V} (h : i ∉ prot) : Pr prot σ (σ.set i x) := .of .set fun j hj => by
  have : j = i := by simpa using hj
  subst this; exact h
/-- what must follow -/
def Out (K : PySem.W.Frag) (prot : List Nat) (D : Ends) (σ : L2.St) (H : Hp) (S : Fp) (fl : Fl) (τ' : SO) : Prop :=
  match fl with
  | .nx => ∀ σ' H' S', Pst false H S H' S' F0 → SL K H' τ' σ' S' → Pr prot σ σ' → D.nx σ' H'
  | .bk => ∀ σ' H' S', Pst false H S H' S' F0 → SL K H' τ' σ' S' → Pr prot σ σ' → D.bk σ' H'
  | .ct => ∀ σ' H' S', Pst false H S H' S' F0 → SL K H' τ' σ' S' → Pr prot σ σ' → D.ct σ' H'
  | .rt o => ∀ v σ' H' S' F, Pst false H S H' S' F → SL K H' τ' σ' S' → Pr prot σ σ' → OT K H' v o F → D.rt v H'
theorem Out.step {D : Ends} {σ σ1 : L2.St} {H H1 : Hp} {S S1 : Fp} {fl : Fl} {τ' : SO} (h : Out K prot D σ H S fl τ') {q : Bool} (p : Pst q H S H1 S1 F0) (r : Pr prot σ σ1) : Out K prot D σ1 H1 S1 fl τ' := by
  have pp : ∀ {H' : Hp} {S' F : Fp}, Pst false H1 S1 H' S' F → Pst false H S H' S' F := fun p2 => ((p.trans p2).less (fun _ z => z) fun _ z => .inr z).weak fun z => by cases z
  cases fl with
  | nx => exact fun σ' H' S' p2 sl r2 => h σ' H' S' (pp p2) sl (r.trans r2)
  | bk => exact fun σ' H' S' p2 sl r2 => h σ' H' S' (pp p2) sl (r.trans r2)
  | ct => exact fun σ' H' S' p2 sl r2 => h σ' H' S' (pp p2) sl (r.trans r2)
  | rt o => exact fun v σ' H' S' F p2 sl r2 ot => h v σ' H' S' F (pp p2) sl (r.trans r2) ot
def tS (K : PySem.W.Frag) (prot : List Nat) (g : SO → Option (Fl × SO)) : TS := fun D σ H => ∃ τ S fl τ', OwS S H ∧ SL K H τ σ S ∧ g τ = some (fl, τ') ∧ Out K prot D σ H S fl τ'
theorem _root_.L2.PS.mono {st : Stmt} {t t' : TS} (h : PS X st t) (f : ∀ D σ H, t' D σ H → t D σ H) : PS X st t' := ⟨fun pins s σ H D I q => h.run pins s σ H D I (f D σ H q)⟩
theorem _root_.L2.PSs.mono {st : List Stmt} {t t' : TS} (h : PSs X st t) (f : ∀ D σ H, t' D σ H → t D σ H) : PSs X st t' := ⟨fun pins s σ H D I q => h.run pins s σ H D I (f D σ H q)⟩
theorem gs_bad {st : Stmt} : PS X st (tS X.K prot (ev1 T .bad)) := ps_never.mono fun D σ H ⟨τ, S, fl, τ', w, sl, h, o⟩ => by
  simp only [ev1] at h; cases h
theorem gs_nil : PSs X [] (tS X.K prot (evS T .nil)) := pss_nil.mono fun D σ H ⟨τ, S, fl, τ', w, sl, h, o⟩ => by
  simp only [evS] at h
  cases h
  exact o σ H S ((Pst.refl w).weak (q := true) fun z => rfl) sl .refl
theorem gs_cons {st : Stmt} {r : List Stmt} {x : Sm} {xs : Sms} (h1 : PS X st (tS X.K prot (ev1 T x))) (h2 : PSs X r (tS X.K prot (evS T xs))) : PSs X (st :: r) (tS X.K prot (evS T (.cons x xs))) :=
  (pss_cons h1 h2).mono fun D σ H ⟨τ, S, fl, τ', w, sl, h, o⟩ => by
  simp only [evS] at h
  obtain ⟨f1, t1, e1, e2⟩ := bnd_inv h
  refine ⟨τ, S, f1, t1, w, sl, e1, ?_⟩
  cases f1 with
  | nx => exact fun σ1 H1 S1 p1 sl1 r1 => ⟨t1, S1, fl, τ', p1.oS, sl1, e2, o.step p1 r1⟩
  | bk => cases e2; exact o
  | ct => cases e2; exact o
  | rt v => cases e2; exact o
theorem weak0 {q : Bool} {H H1 : Hp} {S S1 F : Fp} (p : Pst q H S H1 S1 F) : Pst false H S H1 S1 F := p.weak fun z => by cases z
theorem sw_plain {e : Expr} {t : Option Expr} {l : Nat} {env : Env} (h : isLC e = false) : swapsWith e t l env = pure false := by
  cases e <;> first | rfl | cases h
theorem sole {t e : Expr} {l : Nat} {env : Env} : swapsWithSole [t] e l env = swapsWith e (some t) l env := by first | rfl | (unfold swapsWithSole; rfl)
theorem sto_tup {t e : Expr} {env : Env} (h : isTupE e = false) : swappedStores [t] e env = pure none := by
  cases e <;> first | cases h | skip
  all_goals (cases t <;> rfl)
theorem sto_name {x : Str} {p : Pos} {e : Expr} {env : Env} : swappedStores [.Name x p] e env = pure none := by rfl
theorem sto_sub {a b : Expr} {p : Pos} {e : Expr} {env : Env} : swappedStores [.Subscript a b p] e env = pure none := by rfl
theorem gs_asg {x : Str} {i : Nat} {e : Expr} {xe : Ex} {p pos : Pos} (hi : i ∉ prot) (hg : PG X (.Name x p) (gName i)) (he : PE X e (tE T X.K .own xe)) (hs : swapsWith e (some (.Name x p)) pos.line X.env = pure false) : PS X (.Assign [.Name x p] e pos) (tS X.K prot (ev1 T (.asg (.nm i) xe))) :=
  (ps_asg he hg hs sto_name rfl).mono fun D σ H ⟨τ, S, fl, τ', w, sl, h, o⟩ => by
  simp only [ev1] at h
  obtain ⟨r, t1, e1, e2⟩ := bnd_inv h
  cases e2
  refine ⟨τ, S, r, t1, w, sl, e1, fun v H1 S1 F1 p1 sl1 r1 => ?_⟩
  exact o _ H1 (fun b => F1 b ∨ S1 b) ((weak0 p1).move (fun b hb => hb.elim (fun z => z.symm) False.elim) fun b z => z.elim) (sl1.put r1 p1.dj) (.set hi)
theorem gs_asgT {es : List Expr} {is : List Nat} {e : Expr} {xe : Ex} {k : Nat} {p pos : Pos} (hi : ∀ i ∈ is, i ∉ prot) (hg : PG X (.Tuple es k p) (tTg X.K (.tup is))) (he : PE X e (tE T X.K .own xe)) (hl : isLC e = false) (ht : isTupE e = false) : PS X (.Assign [.Tuple es k p] e pos) (tS X.K prot (ev1 T (.asg (.tup is) xe))) :=
  (ps_asg (pos := pos) (ge_frz he) hg (sole.trans (sw_plain hl)) (sto_tup ht) rfl).mono fun D σ H ⟨τ, S, fl, τ', w, sl, h, o⟩ => by
  simp only [ev1] at h
  obtain ⟨r, t1, e1, e2⟩ := bnd_inv h
  obtain ⟨t2, e3, e4⟩ := Option.map_eq_some_iff.mp e2
  cases e4
  refine ⟨τ, S, r, t1, w, sl, e1, fun v H1 S1 p1 sl1 d => ⟨t1, S1, _, _, sl1, d, e3, fun σ' on sl2 => ?_⟩⟩
  exact o σ' H1 S1 (weak0 p1) sl2 (.of on hi)
theorem gs_ife {c : Expr} {a b : List Stmt} {xc : Ex} {xa xb : Sms} {pos : Pos} (hc : PT X c (tT T X.K xc)) (ha : PSs X a (tS X.K prot (evS T xa))) (hb : PSs X b (tS X.K prot (evS T xb))) : PS X (.If c a b pos) (tS X.K prot (ev1 T (.ife xc xa xb))) :=
  (ps_if hc ha hb).mono fun D σ H ⟨τ, S, fl, τ', w, sl, h, o⟩ => by
  simp only [ev1] at h
  obtain ⟨r, t1, e1, e2⟩ := bnd_inv h
  obtain ⟨d, rfl⟩ := tst_bool _ e1
  refine ⟨τ, S, d, t1, w, sl, e1, fun H1 S1 p1 sl1 => ?_⟩
  cases d with
  | true =>
    rw [if_pos (by rfl)] at e2
    show tS X.K prot (evS T xa) D σ H1
    exact ⟨t1, S1, fl, τ', p1.oS, sl1, e2, o.step p1 .refl⟩
  | false =>
    rw [if_neg (by simp [O.bool?])] at e2
    show tS X.K prot (evS T xb) D σ H1
    exact ⟨t1, S1, fl, τ', p1.oS, sl1, e2, o.step p1 .refl⟩
theorem gs_ret {e : Expr} {xe : Ex} {pos : Pos} (he : PE X e (tE T X.K .own xe)) : PS X (.Return (some e) pos) (tS X.K prot (ev1 T (.ret xe))) :=
  (ps_ret he).mono fun D σ H ⟨τ, S, fl, τ', w, sl, h, o⟩ => by
  simp only [ev1] at h
  obtain ⟨r, t1, e1, e2⟩ := bnd_inv h
  cases e2
  exact ⟨τ, S, r, _, w, sl, e1, fun v H1 S1 F1 p1 sl1 r1 => o v σ H1 S1 F1 (weak0 p1) sl1 .refl r1⟩
theorem gs_retv {e : Expr} {i : Nat} {pos : Pos} (he : PE X e (tVar i)) : PS X (.Return (some e) pos) (tS X.K prot (ev1 T (.retv i))) :=
  (ps_ret he).mono fun D σ H ⟨τ, S, fl, τ', w, sl, h, o⟩ => by
  simp only [ev1] at h
  split at h
  · rename_i r er
    cases h
    obtain ⟨v, F, S1, e1, ot, sl1, dj, sub⟩ := sl.take er
    exact ⟨v, e1, o v σ H S1 F ((Pst.refl (q := false) w).move (fun b hb => .inl (hb.elim (fun z => sub b (.inr z)) fun z => sub b (.inl z))) dj) sl1 .refl ot⟩
  · cases h
theorem gs_retN {pos : Pos} : PS X (.Return none pos) (tS X.K prot (ev1 T (.ret (.k .none)))) := ps_retN.mono fun D σ H ⟨τ, S, fl, τ', w, sl, h, o⟩ => by
  simp only [ev1, ev] at h
  cases h
  exact o .non σ H S F0 (Pst.refl w) sl .refl (.dat .non)
theorem gs_ex {e : Expr} {xe : Ex} {pos : Pos} (he : PE X e (tE T X.K .own xe)) (hl : isLC e = false) : PS X (.Expr e pos) (tS X.K prot (ev1 T (.ex xe))) :=
  (ps_expr he (sw_plain hl)).mono fun D σ H ⟨τ, S, fl, τ', w, sl, h, o⟩ => by
  simp only [ev1] at h
  obtain ⟨r, t1, e1, e2⟩ := bnd_inv h
  cases e2
  exact ⟨τ, S, r, _, w, sl, e1, fun v H1 S1 F1 p1 sl1 r1 => o σ H1 S1 ((weak0 p1).less (fun _ z => z) fun b (z : F0 b) => z.elim) sl1 .refl⟩
theorem gs_pas {pos : Pos} : PS X (.Pass pos) (tS X.K prot (ev1 T .pas)) := ps_pass.mono fun D σ H ⟨τ, S, fl, τ', w, sl, h, o⟩ => by
  simp only [ev1] at h; cases h
  exact o σ H S (Pst.refl w) sl .refl
theorem gs_brk {pos : Pos} : PS X (.Break pos) (tS X.K prot (ev1 T .brk)) := ps_break.mono fun D σ H ⟨τ, S, fl, τ', w, sl, h, o⟩ => by
  simp only [ev1] at h; cases h
  exact o σ H S (Pst.refl w) sl .refl
theorem gs_cont {pos : Pos} : PS X (.Continue pos) (tS X.K prot (ev1 T .cont)) := ps_continue.mono fun D σ H ⟨τ, S, fl, τ', w, sl, h, o⟩ => by
  simp only [ev1] at h; cases h
  exact o σ H S (Pst.refl w) sl .refl
/-- a walk -/
theorem gs_for {tg it : Expr} {body : List Stmt} {t : Tg} {ik : ItK} {as : Exs} {xb : Sms} {pos : Pos} (hp : PassesOwn (model X.prog X.w) X.A X.env X.xe) (hc : X.calm = true) (hi : PI X tg it (iW T X.K ik as)) (hg : PG X tg (tTg X.K t)) (hb : PSs X body (tS X.K prot (evS T xb)))
    (hs : ∀ x, foldedSetIterable it X.env x = pure x) (hn : ∀ i ∈ t.slots, i ∉ prot) : PS X (.For tg it body [] pos) (tS X.K prot (ev1 T (.for_ t ik as xb))) :=
  (ps_for hp hc hi hg hb hs).mono fun D σ H ⟨τ, S, fl, τ', w, sl, h, o⟩ => by
  simp only [ev1] at h
  obtain ⟨os, t1, e1, e2⟩ := bnd_inv h
  obtain ⟨xs, e3, e4⟩ := Option.bind_eq_some_iff.mp e2
  refine ⟨τ, S, os, t1, xs, w, sl, e1, e3, fun J H1 S1 p1 sl1 wk => ?_⟩
  revert e4
  generalize hf : (fun (x : PyData) (t2 : SO) => (tgEv t x t2).bind fun t3 => evS T xb t3) = f
  intro e4
  refine ⟨fun i n σ2 H2 => i ≤ xs.length ∧ n = xs.length - i ∧ ∃ t2 S2, forL f (xs.drop i) t2 = some (fl, τ') ∧ Pst false H1 S1 H2 S2 F0 ∧ SL X.K H2 t2 σ2 S2 ∧ Pr prot σ σ2,
    ⟨xs.length, Nat.zero_le _, rfl, t1, S1, e4, Pst.refl p1.oS, sl1, .refl⟩, ?_⟩
  rintro i n σ2 H2 ⟨hi, rfl, t2, S2, f1, P, sl2, pr⟩
  have fx := P.fx p1.oS
  have ou : Out X.K prot D σ2 H2 S2 fl τ' := (o.step p1 .refl).step P pr
  cases hx : xs[i]? with
  | none =>
    have hlen : xs.length ≤ i := List.getElem?_eq_none_iff.mp hx
    refine .inl ⟨(wk H2 fx i).2 (Nat.le_antisymm hi hlen), ?_⟩
    rw [List.drop_eq_nil_of_le hlen] at f1
    simp only [forL] at f1
    cases f1
    exact ou σ2 H2 S2 (Pst.refl P.oS) sl2 .refl
  | some d =>
    obtain ⟨hlt, hxi⟩ := List.getElem?_eq_some_iff.mp hx
    have hdrop : xs.drop i = d :: xs.drop (i + 1) := by rw [← hxi]; exact List.drop_eq_getElem_cons hlt
    rw [hdrop] at f1
    simp only [forL] at f1
    obtain ⟨fl2, t3, g1, g2⟩ := bnd_inv f1
    refine .inr ⟨((wk H2 fx i).1 d hx).1, fun σ3 H3 => i + 1 ≤ xs.length ∧ ∃ t2 S2, forL f (xs.drop (i + 1)) t2 = some (fl, τ') ∧ Pst false H1 S1 H3 S2 F0 ∧ SL X.K H3 t2 σ3 S2 ∧ Pr prot σ σ3,
      fun σ3 H3 hN => ⟨xs.length - (i + 1), by omega, hN.1, rfl, hN.2⟩, fun x H3 y => ?_⟩
    have N := ((wk H2 fx i).1 d hx).2 x H3 y
    obtain ⟨F3, _, p3, sl3⟩ := N.slots P.oS sl2
    have P3 := weak0 ((P.trans p3).less (F' := F0) (fun _ z => z) fun b (z : F0 b) => z.elim)
    rw [← hf] at g1
    obtain ⟨t4, g3, g4⟩ := Option.bind_eq_some_iff.mp g1
    refine ⟨t2, S2, d, t4, sl3, N.dv, g3, fun σ4 on sl4 => ?_⟩
    have pr4 : Pr prot σ σ4 := pr.trans (.of on hn)
    have ou4 : Out X.K prot D σ4 H3 S2 fl τ' := ou.step (p3.less (F' := F0) (fun _ z => z) fun b (z : F0 b) => z.elim) (.of on hn)
    refine ⟨t4, S2, fl2, t3, P3.oS, sl4, g4, ?_⟩
    have nx : ∀ {fl3 : Fl}, forL f (xs.drop (i + 1)) t3 = some (fl, τ') → ∀ σ' H' S', Pst false H3 S2 H' S' F0 → SL X.K H' t3 σ' S' → Pr prot σ4 σ' → i + 1 ≤ xs.length ∧ ∃ t2 S2, forL f (xs.drop (i + 1)) t2 = some (fl, τ') ∧ Pst false H1 S1 H' S2 F0 ∧ SL X.K H' t2 σ' S2 ∧ Pr prot σ σ' := fun g2 σ' H' S' p5 sl5 pr5 =>
      ⟨hlt, t3, S', g2, weak0 ((P3.trans p5).less (F' := F0) (fun _ z => z) fun b (z : F0 b) => z.elim), sl5, pr4.trans pr5⟩
    cases fl2 with
    | nx => exact nx (fl3 := .nx) g2
    | ct => exact nx (fl3 := .nx) g2
    | bk => cases g2; exact fun σ' H' S' p5 sl5 pr5 => ou4 σ' H' S' p5 sl5 pr5
    | rt r => cases g2; exact fun v σ' H' S' F p5 sl5 pr5 ot => ou4 v σ' H' S' F p5 sl5 pr5 ot
theorem gs_whl {c : Expr} {body : List Stmt} {xc : Ex} {xb : Sms} {pos : Pos} (hp : PassesOwn (model X.prog X.w) X.A X.env X.xe) (hc : PT X c (tT T X.K xc)) (hb : PSs X body (tS X.K prot (evS T xb))) : PS X (.While c body [] pos) (tS X.K prot (ev1 T (.whl xc xb))) :=
  (ps_while hp hc hb).mono fun D σ H ⟨τ, S, fl, τ', w, sl, h, o⟩ => by
  simp only [ev1] at h
  refine ⟨fun n σ2 H2 => ∃ t2 S2, whl (fun t => ev T .tst xc t) (fun t => evS T xb t) n t2 = some (fl, τ') ∧ Pst false H S H2 S2 F0 ∧ SL X.K H2 t2 σ2 S2 ∧ Pr prot σ σ2, ⟨fuel, τ, S, h, Pst.refl w, sl, .refl⟩, ?_⟩
  rintro n σ2 H2 ⟨t2, S2, f1, P, sl2, pr⟩
  have ou : Out X.K prot D σ2 H2 S2 fl τ' := o.step P pr
  cases n with
  | zero => simp only [whl] at f1; cases f1
  | succ n =>
    simp only [whl] at f1
    obtain ⟨b, t3, g1, g2⟩ := bnd_inv f1
    obtain ⟨d, rfl⟩ := tst_bool _ g1
    refine ⟨t2, S2, d, t3, P.oS, sl2, g1, fun H3 S3 p3 sl3 => ?_⟩
    have P3 := weak0 ((P.trans p3).less (F' := F0) (fun _ z => z) fun b (z : F0 b) => z.elim)
    cases d with
    | false =>
      rw [if_neg (by simp [O.bool?])] at g2
      cases g2
      show D.nx σ2 H3
      exact ou σ2 H3 S3 (weak0 p3) sl3 .refl
    | true =>
      rw [if_pos (by rfl)] at g2
      obtain ⟨fl2, t4, g3, g4⟩ := bnd_inv g2
      show ∃ N : L2.St → Hp → Prop, _ ∧ tS X.K prot (evS T xb) { D with nx := N, ct := N, bk := D.nx } σ2 H3
      refine ⟨fun σ' H' => ∃ t2 S2, whl (fun t => ev T .tst xc t) (fun t => evS T xb t) n t2 = some (fl, τ') ∧ Pst false H S H' S2 F0 ∧ SL X.K H' t2 σ' S2 ∧ Pr prot σ σ', fun σ' H' hN => ⟨n, Nat.lt_succ_self n, hN⟩, t3, S3, fl2, t4, P3.oS, sl3, g3, ?_⟩
      have ou4 : Out X.K prot D σ2 H3 S3 fl τ' := ou.step p3 .refl
      have nx : whl (fun t => ev T .tst xc t) (fun t => evS T xb t) n t4 = some (fl, τ') → ∀ σ' H' S', Pst false H3 S3 H' S' F0 → SL X.K H' t4 σ' S' → Pr prot σ2 σ' → ∃ t2 S2, whl (fun t => ev T .tst xc t) (fun t => evS T xb t) n t2 = some (fl, τ') ∧ Pst false H S H' S2 F0 ∧ SL X.K H' t2 σ' S2 ∧ Pr prot σ σ' := fun g2 σ' H' S' p5 sl5 pr5 =>
        ⟨t4, S', g2, weak0 ((P3.trans p5).less (F' := F0) (fun _ z => z) fun b (z : F0 b) => z.elim), sl5, pr.trans pr5⟩
      cases fl2 with
      | nx => exact nx g4
      | ct => exact nx g4
      | bk => cases g4; exact fun σ' H' S' p5 sl5 pr5 => ou4 σ' H' S' p5 sl5 pr5
      | rt r => cases g4; exact fun v σ' H' S' F p5 sl5 pr5 ot => ou4 v σ' H' S' F p5 sl5 pr5 ot
end
end GB

namespace GB
open PySem PySem.Spec PyProof.Rows L2

section
variable {X : Cx} {T : Tb} {K : PySem.W.Frag} {prot : List Nat}
/-- a place within a slot's tree, and another tree put there -/
theorem at_slot {H2 : Hp} {S2 : Fp} {τ : SO} {σ : L2.St} {i : Nat} {o x2 : O} {kv : List O} {ksv : List V} {v vn : V} (w : OwS S2 H2) (sl2 : SL K H2 τ σ S2) (hi : τ[i]? = some (some o)) (hp : pathO kv o = some x2) (bs : BTs K H2 ksv kv) (e1 : σ[i]? = some (some v)) (pv : PathV K H2 v ksv vn) :
    ∃ Fn, OT K H2 vn x2 Fn ∧ (∀ b, Fn b → S2 b) ∧ ∀ (H' : Hp) (F' Fa : Fp) (x2' z : O), (∀ b, F' b → Fn b ∨ Fa b) → (∀ b, Fa b → ¬ S2 b) → Kp Fn H2 H' → OT K H' vn x2' F' → putO kv x2' o = some z →
      ∃ S', SL K H' (τ.set i (some z)) σ S' ∧ ∀ b, S' b → (S2 b ∧ ¬ Fn b) ∨ F' b := by
  obtain ⟨v', F, S3, e2, ot, sl3, dj, sub⟩ := sl2.take hi
  rw [e1] at e2; cases e2
  obtain ⟨vn2, Fn, G, pv2, on2, f1, f2, f3⟩ := OT.at ot bs hp
  have := PathV.one ot bs hp pv pv2
  subst this
  have fnS : ∀ b, Fn b → S2 b := fun b hb => sub b (.inl (f1 b (.inl hb)))
  refine ⟨Fn, on2, fnS, fun H' F' Fa x2' z sb na kp ho' hz => ?_⟩
  have djG : Dj F' G := fun b x y => by
    rcases sb b x with q | q
    · exact f2 b q y
    · exact na b q (sub b (.inl (f1 b (.inr y))))
  obtain ⟨o', ep, ot'⟩ := f3 H' x2' F' Fn kp (fun b hb => w b (fnS b hb)) (fun _ z => z) ho' djG
  rw [hz] at ep; cases ep
  have dS3 : Dj (fun b => F' b ∨ G b) S3 := fun b x y => by
    rcases x with x | x
    · rcases sb b x with q | q
      · exact dj b (f1 b (.inl q)) y
      · exact na b q (sub b (.inr y))
    · exact dj b (f1 b (.inr x)) y
  have sl4 := (sl3.keep (T := Fn) (fun b hb => w b (fnS b hb)) kp fun b x y => dj b (f1 b (.inl y)) x).back ot' dS3 e1
  rw [List.set_set] at sl4
  refine ⟨_, sl4, fun b hb => ?_⟩
  rcases hb with (h | h) | h
  · exact .inr h
  · exact .inl ⟨sub b (.inl (f1 b (.inr h))), fun q => f2 b q h⟩
  · exact .inl ⟨sub b (.inr h), fun q => dj b (f1 b (.inl q)) h⟩
def tSet (K : PySem.W.Frag) : TSet := fun v i x H Q => ∃ o oi ox r o' F Fx, OT K H v o F ∧ BT K H i oi ∧ OT K H x ox Fx ∧ OwS F H ∧ OwS Fx H ∧ Dj F Fx ∧ mutEv .set [oi, ox] o = some (r, o') ∧ ∀ H', MutPost K H v F Fx (.dat .none) o' .non H' → Q H'
theorem pset_ok (hu : X.A.units + 1 < cLine) : PSet X (tSet X.K) := fun pins s σ H o i v ov iv u Q I r1 r2 r3 ⟨oo, oi, ox, r, o', F, Fx, a, b, c, w, wx, dj, e, q⟩ => set_ok hu I r1 r2 r3 a b c w wx dj e q
theorem sub_assign {o k : Expr} {p : Pos} {env : Env} (hs : ∀ l u st q, k ≠ .Slice l u st q) : ∀ v, assign (.Subscript o k p) env v = (do
      let ov ← holding [v] (eval o env)
      let iv ← holding [v, ov] (eval k env)
      standAt p
      holding [v, ov, iv] (setItem ov iv v)
      release [v, ov, iv] []) := by
  intro v
  cases k <;> first | rfl | exact absurd rfl (hs _ _ _ _)
theorem last_snoc {α : Type} (l : List α) (a : α) : (l ++ [a]).getLast? = some a := by simp
theorem gs_set {c k e : Expr} {i : Nat} {ks : Exs} {xk xe : Ex} {p pos : Pos} (hu : X.A.units + 1 < cLine) (hs : ∀ l u st q, k ≠ .Slice l u st q) (hc : PE X c (tPath T X.K i ks)) (hk : PE X k (tE T X.K .bor xk)) (he : PE X e (tE T X.K .own xe)) (hl : isLC e = false) :
    PS X (.Assign [.Subscript c k p] e pos) (tS X.K prot (ev1 T (.set i (ks.snoc xk) xe))) :=
  (ps_asg (pos := pos) he (pg_sub hc hk (pset_ok hu) (sub_assign hs)) (sole.trans (sw_plain hl)) sto_sub rfl).mono fun D σ H ⟨τ, S, fl, τ', w, sl, h, o⟩ => by
  simp only [ev1] at h
  obtain ⟨ox, t1, e1, e2⟩ := bnd_inv h
  obtain ⟨kv, e3, e4⟩ := Option.bind_eq_some_iff.mp e2
  obtain ⟨kv0, y, rfl, k1, k2, k3⟩ := evK_snoc ks e3
  rw [last_snoc, List.dropLast_concat] at e4
  split at e4
  · rename_i cc j hcc hj
    cases hj
    obtain ⟨⟨r0, z⟩, e5, e6⟩ := Option.map_eq_some_iff.mp e4
    cases e6
    obtain ⟨x2, hp, e7⟩ := Option.bind_eq_some_iff.mp e5
    obtain ⟨⟨r1, x2'⟩, hm, e8⟩ := Option.bind_eq_some_iff.mp e7
    obtain ⟨z', hz, e9⟩ := Option.map_eq_some_iff.mp e8
    cases e9
    refine ⟨τ, S, ox, t1, w, sl, e1, fun x H1 S1 Fx p1 sl1 r1 => ⟨t1, S1, kv0, cc, x2, p1.oS, sl1, k1, hcc, hp, fun v ksv vn H2 S2 p2 sl2 bs2 ev1' pv2 => ⟨t1, S2, y, t1, p2.oS, sl2, k3, fun yv H3 S3 F3 p3 sl3 r3 => ?_⟩⟩⟩
    have l3 := p3.le (still_quiet xk k2)
    have p12 := p1.trans p2
    have p123 := p12.trans p3
    have ox2 := OT.keep p1.oS p2.keep _ _ _ (show OT X.K H1 x ox Fx from r1) p1.dj
    have ox3 := OT.keep p2.oS p3.keep _ _ _ ox2 fun b a c => p12.dj b (.inl a) c
    have djS3 : ∀ b, Fx b → ¬ S3 b := fun b a c => p123.dj b (.inl (.inl a)) c
    obtain ⟨Fn, on, fnS, reb⟩ := at_slot p3.oS sl3 hcc hp (BTs.le l3 _ _ bs2) ev1' (pv2.le l3)
    refine ⟨x2, y, ox, _, x2', Fn, Fx, on, r3, ox3, fun b hb => p3.oS b (fnS b hb), fun b hb => p123.own b (.inr (.inl (.inl hb))), fun b a c => djS3 b c (fnS b a), hm, fun H4 ⟨Fr, F', _, ho', _, sb, kp, ow⟩ => ?_⟩
    obtain ⟨S', sl4, sub⟩ := reb H4 F' Fx x2' z (fun b hb => sb b (.inr hb)) djS3 kp ho' hz
    have nw : ∀ b, S3 b ∨ Fx b → S b ∨ H b = none := fun b hb => p123.new b (hb.imp id fun z => .inl (.inl z))
    refine o σ H4 S' ⟨fun b oo e n => ?_, fun b hb => ?_, fun b hb => ?_, fun _ z _ => z, fun z => by cases z⟩ sl4 .refl
    · refine kp b oo (p123.keep b oo e n) fun z => ?_
      rcases nw b (.inl (fnS b z)) with q | q
      · exact n q
      · rw [e] at q; cases q
    · rcases sub b (hb.elim id (fun z : F0 b => z.elim)) with ⟨a, n⟩ | a
      · obtain ⟨oo, e, w'⟩ := p3.oS b a
        exact ⟨oo, kp b oo e n, w'⟩
      · exact ow b (.inr a)
    · rcases sub b (hb.elim id (fun z : F0 b => z.elim)) with ⟨a, _⟩ | a
      · exact nw b (.inl a)
      · rcases sb b (.inr a) with q | q
        · exact nw b (.inl (fnS b q))
        · exact nw b (.inr q)
  · cases e4
/-- a, b = x, y -/
theorem gs_par {x y : Str} {i j : Nat} {a b : Expr} {as : Exs} {px py pt pt2 pos : Pos} {kt k2 : Nat} (hc : X.calm = true) (hN : X.N.Nodup) (hi : X.N[i]? = some x) (hj : X.N[j]? = some y) (hij : i ≠ j) (hx : X.env.scope.names.lookup x = some .local) (hy : X.env.scope.names.lookup y = some .local)
    (ha : PA X [a, b] (tA T X.K as)) (hw : swappedStores [.Tuple [.Name x px, .Name y py] kt pt] (.Tuple [a, b] k2 pt2) X.env = pure (some [x, y])) (hpi : i ∉ prot) (hpj : j ∉ prot) :
    PS X (.Assign [.Tuple [.Name x px, .Name y py] kt pt] (.Tuple [a, b] k2 pt2) pos) (tS X.K prot (ev1 T (.par [i, j] as))) :=
  (ps_par (pos := pos) hc hN hi hj hij hx hy ha hw (sole.trans (sw_plain rfl))).mono fun D σ H ⟨τ, S, fl, τ', w, sl, h, o⟩ => by
  simp only [ev1] at h
  obtain ⟨os, t1, e1, e2⟩ := bnd_inv h
  obtain ⟨t2, e3, e4⟩ := Option.map_eq_some_iff.mp e2
  cases e4
  rcases os with _ | ⟨o1, _ | ⟨o2, _ | ⟨o3, os⟩⟩⟩ <;> simp only [setOs] at e3 <;> first | cases e3 | skip
  refine ⟨τ, S, [o1, o2], t1, w, sl, e1, fun vs H1 S1 F p1 sl1 r1 => ?_⟩
  obtain ⟨v1, v2, F1, F2, rfl, q1, q2, dj, sub⟩ := ots2 r1
  refine ⟨v1, v2, rfl, ?_⟩
  have s1 := sl1.put (i := i) q1 (p1.dj.mono (fun b z => sub b (.inl z)) fun _ z => z)
  have s2 := s1.put (i := j) q2 fun b x y => y.elim (fun z => dj b z x) fun z => p1.dj b (sub b (.inr x)) z
  refine o _ H1 _ ((weak0 p1).move (F' := F0) (fun b hb => ?_) fun _ z => z.elim) s2 ((Pr.set hpi).trans (.set hpj))
  rcases hb with (h | h | h) | h
  · exact .inr (sub b (.inr h))
  · exact .inr (sub b (.inl h))
  · exact .inl h
  · exact h.elim
end
end GB

namespace GB
open PySem PySem.Spec PyProof.Rows L2

section
variable {X : Cx} {T : Tb} {K : PySem.W.Frag} {prot : List Nat}
theorem setOs_run : ∀ {is : List Nat} {vs : List V} {os : List O} {τ τ' : SO} {σ : L2.St} {H : Hp} {S F : Fp} {Q : L2.St → Hp → Prop}, SL K H τ σ S → OTs K H vs os F → Dj F S → setOs is os τ = some τ' →
    (∀ σ' S', Only is σ σ' → SL K H τ' σ' S' → (∀ b, S' b → S b ∨ F b) → Q σ' H) → gNames is vs σ H Q
  | [], vs, os, τ, τ', σ, H, S, F, Q, sl, ot, dj, e, q => by
    cases ot with
    | nil => cases e; exact ⟨rfl, q σ S .refl sl fun b h => .inl h⟩
    | cons _ _ _ _ => cases e
  | i :: is, vs, os, τ, τ', σ, H, S, F, Q, sl, ot, dj, e, q => by
    cases ot with
    | nil => cases e
    | cons h1 h2 h3 h4 =>
      rename_i v vs o os F1 F2
      refine ⟨_, _, rfl, ?_⟩
      show gNames is _ (σ.set i (some _)) H Q
      have sl1 := sl.put (i := i) h1 (dj.mono (fun b z => h4 b (.inl z)) fun _ z => z)
      refine setOs_run sl1 h2 (fun b x y => y.elim (fun z => h3 b z x) fun z => dj b (h4 b (.inr x)) z) e fun σ' S' on sl2 sub => q σ' S' ((Only.set.trans on).mono fun j hj => by simpa using hj) sl2 fun b hb => ?_
      rcases sub b hb with (z | z) | z
      · exact .inr (h4 b (.inl z))
      · exact .inl z
      · exact .inr (h4 b (.inr z))
/-- a, b, .. = x, y, .. through a tuple that nobody keeps -/
def tParN (is : List Nat) (ta : TA) : TS := fun D σ H => ta σ H fun vs H1 => vs.length = is.length ∧ vs.length ≤ sizeLine ∧ gNames is vs σ H1 D.nx
theorem ps_parN {us es : List Expr} {is : List Nat} {ta : TA} {pt pt2 pos : Pos} {kt k2 : Nat} (hc : X.calm = true) (h : PGn X us is) (ha : PA X es ta) (hw : swappedStores [.Tuple us kt pt] (.Tuple es k2 pt2) X.env = pure none) :
    PS X (.Assign [.Tuple us kt pt] (.Tuple es k2 pt2) pos) (tParN is ta) := by
  obtain ⟨g1, g2, g3⟩ := h.pgs
  refine ⟨fun pins s σ H D I hh => ?_⟩
  refine wpAny_Assign_stores (wpAny_Tuple_spliced (thn (ha.run pt2 pins s σ H _ I hh) fun ws s1 ⟨vs, H1, I1, r1, l1, l2, q1⟩ => ⟨by rw [← r1.length]; exact l2, ?_⟩)) (sole.trans (sw_plain rfl)) hw
  have I2 : Inv X pins σ H1 { s1 with heap := s1.heap.push { cls := .type "tuple", data := .seq ws.toArray } } := I1.kept (t' := s1.toks) fun b o e => Heap.get?_push_of_some _ e
  show wpAny _ _ (assign (.Tuple us kt pt) X.env (.ref s1.heap.objs.size)) _ _ _
  refine assign_Tuple_tuple (I2.ok.hd hc) (IsTup.new s1.heap ws.toArray) (by rw [g2]; simp [← l1, r1.length]) g3 fun h' hx => ?_
  have I3 : Inv X pins σ H1 { s1 with heap := h' } := I2.kept (t' := s1.toks) fun b o e => hx b o (Nat.ne_of_lt (Heap.lt_size e)) e
  exact thn (g1.run pins _ σ H1 vs _ D.nx I3 (by simpa using r1) q1) fun _ s2 ⟨σ', H', I', q'⟩ => ⟨σ', H', I', q'⟩
theorem gs_parN {us es : List Expr} {is : List Nat} {as : Exs} {pt pt2 pos : Pos} {kt k2 : Nat} (hc : X.calm = true) (h : PGn X us is) (ha : PA X es (tA T X.K as)) (hw : swappedStores [.Tuple us kt pt] (.Tuple es k2 pt2) X.env = pure none) (hp : ∀ i ∈ is, i ∉ prot) (hz : is.length ≤ sizeLine) :
    PS X (.Assign [.Tuple us kt pt] (.Tuple es k2 pt2) pos) (tS X.K prot (ev1 T (.par is as))) :=
  (ps_parN hc h ha hw).mono fun D σ H ⟨τ, S, fl, τ', w, sl, h, o⟩ => by
  simp only [ev1] at h
  obtain ⟨os, t1, e1, e2⟩ := bnd_inv h
  obtain ⟨t2, e3, e4⟩ := Option.map_eq_some_iff.mp e2
  cases e4
  refine ⟨τ, S, os, t1, w, sl, e1, fun vs H1 S1 F p1 sl1 r1 => ?_⟩
  have hlen : ∀ (is : List Nat) (os : List O) (t t' : SO), setOs is os t = some t' → os.length = is.length := by
    intro is
    induction is with
    | nil => intro os t t' h; cases os with | nil => rfl | cons _ _ => cases h
    | cons i is ih => intro os t t' h; cases os with | nil => cases h | cons o os => simp [ih os _ _ h]
  have l := hlen is os _ _ e3
  refine ⟨by rw [r1.length, l], by rw [r1.length, l]; exact hz, setOs_run sl1 r1 p1.dj e3 fun σ' S' on sl2 sub => ?_⟩
  exact o σ' H1 S' ((weak0 p1).move (F' := F0) (fun b hb => sub b (hb.elim id fun z => z.elim)) fun _ z => z.elim) sl2 (.of on hp)
theorem gs_par3 {x y z : Str} {i j l : Nat} {a b c : Expr} {as : Exs} {px py pz pt pt2 pos : Pos} {kt k2 : Nat} (hc : X.calm = true) (hN : X.N.Nodup) (hi : X.N[i]? = some x) (hj : X.N[j]? = some y) (hl : X.N[l]? = some z) (hij : i ≠ j) (hil : i ≠ l) (hjl : j ≠ l) (hx : X.env.scope.names.lookup x = some .local) (hy : X.env.scope.names.lookup y = some .local) (hz : X.env.scope.names.lookup z = some .local)
    (ha : PA X [a, b, c] (tA T X.K as)) (hw : swappedStores [.Tuple [.Name x px, .Name y py, .Name z pz] kt pt] (.Tuple [a, b, c] k2 pt2) X.env = pure (some [x, y, z])) (hp : ∀ n ∈ [i, j, l], n ∉ prot) :
    PS X (.Assign [.Tuple [.Name x px, .Name y py, .Name z pz] kt pt] (.Tuple [a, b, c] k2 pt2) pos) (tS X.K prot (ev1 T (.par [i, j, l] as))) :=
  (ps_par3 (pos := pos) hc hN hi hj hl hij hil hjl hx hy hz ha hw (sole.trans (sw_plain rfl))).mono fun D σ H ⟨τ, S, fl, τ', w, sl, h, o⟩ => by
  simp only [ev1] at h
  obtain ⟨os, t1, e1, e2⟩ := bnd_inv h
  obtain ⟨t2, e3, e4⟩ := Option.map_eq_some_iff.mp e2
  cases e4
  refine ⟨τ, S, os, t1, w, sl, e1, fun vs H1 S1 F p1 sl1 r1 => ?_⟩
  have q := setOs_run (Q := fun σ' H' => D.nx σ' H') sl1 r1 p1.dj e3 fun σ' S' on sl2 sub => o σ' H1 S' ((weak0 p1).move (F' := F0) (fun b hb => sub b (hb.elim id fun z => z.elim)) fun _ z => z.elim) sl2 (.of on hp)
  obtain ⟨v1, r, rfl, q⟩ := q
  obtain ⟨v2, r, rfl, q⟩ := q
  obtain ⟨v3, r, rfl, q⟩ := q
  obtain ⟨rfl, q⟩ := q
  exact ⟨v1, v2, v3, rfl, q⟩
end
end GB

namespace GB
open PySem PySem.Spec PyProof.Rows L2

section
variable {X : Cx} {T : Tb} {C : TC} {prot : List Nat}
theorem asg_run {K : PySem.W.Frag} {i : Nat} {x : Ex} (hi : i ∉ prot) {D : Ends} {σ : L2.St} {H : Hp} (h : tS K prot (ev1 T (.asg (.nm i) x)) D σ H) : tE T K .own x σ H fun v H1 => D.nx (σ.set i (some v)) H1 := by
  obtain ⟨τ, S, fl, τ', w, sl, h, o⟩ := h
  simp only [ev1] at h
  obtain ⟨r, t1, e1, e2⟩ := bnd_inv h
  cases e2
  refine ⟨τ, S, r, t1, w, sl, e1, fun v H1 S1 F1 p1 sl1 r1 => ?_⟩
  exact o _ H1 (fun b => F1 b ∨ S1 b) ((weak0 p1).move (fun b hb => hb.elim (fun z => z.symm) False.elim) fun b z => z.elim) (sl1.put r1 p1.dj) (.set hi)
theorem gs_bad2 {st : Stmt} {i : Nat} : PS X st (tS X.K prot (ev1 T (.asg (.nm i) .bad))) := ps_never.mono fun D σ H ⟨τ, S, fl, τ', w, sl, h, o⟩ => by
  simp only [ev1, ev, bnd_none] at h; cases h
/-- name = [..] on one line -/
theorem lc_set {f : Expr → Ex} (k : XOk X T C) (h : TrOk X T f) {g : TC → Expr → Ex} (hg : ∀ X' C', XOk X' T C' → X'.K = X.K → TrOk X' T (g C')) (elt tg it : Expr) (ifs : List Expr) (scope : Scope) (pos spos py : Pos) {y : Str} {i : Nat}
    (hsw : swapsWith (.ListComp elt [⟨tg, it, ifs, 0⟩] scope pos) (some (.Name y py)) spos.line X.env = pure true) (hy : X.N[i]? = some y) (hyl : X.env.scope.names.lookup y = some .local) (hi : i ∉ prot) :
    PS X (.Assign [.Name y py] (.ListComp elt [⟨tg, it, ifs, 0⟩] scope pos) spos) (tS X.K prot (ev1 T (.asg (.nm i) (lcOf g f C elt tg it ifs scope)))) := by
  revert hsw
  unfold lcOf
  split
  · rename_i hc
    intro hsw
    simp only [Bool.and_eq_true] at hc
    have ok : BlkOk X.N X.env.scope scope (ownOf C.N scope.names) := by
      rw [k.N, k.sc]; exact blkOk_by hc.1.1
    have hN : X.N.Nodup := by rw [k.N]; exact k.nd
    revert hsw
    split
    · rename_i t e
      intro hsw
      split
      · rename_i hsub
        have hsub : ∀ j ∈ t.slots, j ∈ (ownOf C.N scope.names).map (·.2) := fun j hj => by simpa using List.all_eq_true.mp hsub j hj
        exact (ps_setLc k.calm hN hy hyl hsw (gi_it k h tg it) ok (fun s H D cl fp => trTg_ok (k.blk s H scope cl D fp) e) (fun s H D cl fp => gts_nil) (fun s H D cl fp => (hg _ _ (k.blk s H scope cl D fp) rfl).pe elt .own (by simp)) (noSet_fold hc.2)).mono fun D σ H q => lc_run hsub (m := .own) (by simp) (asg_run hi q)
      · exact gs_bad2
    · rename_i t c e
      intro hsw
      split
      · rename_i hsub
        have hsub : ∀ j ∈ t.slots, j ∈ (ownOf C.N scope.names).map (·.2) := fun j hj => by simpa using List.all_eq_true.mp hsub j hj
        exact (ps_setLc k.calm hN hy hyl hsw (gi_it k h tg it) ok (fun s H D cl fp => trTg_ok (k.blk s H scope cl D fp) e) (fun s H D cl fp => pts_one ((hg _ _ (k.blk s H scope cl D fp) rfl).pt c)) (fun s H D cl fp => (hg _ _ (k.blk s H scope cl D fp) rfl).pe elt .own (by simp)) (noSet_fold hc.2)).mono fun D σ H q => lc_run hsub (m := .own) (by simp) (asg_run hi q)
      · exact gs_bad2
    · exact fun _ => gs_bad2
  · exact fun _ => gs_bad2
theorem lc_gens {n : Nat} {elt : Expr} {gs : List Comprehension} {scope : Scope} {pos : Pos} (h : ∀ tg it ifs, gs ≠ [⟨tg, it, ifs, 0⟩]) : tr (n + 1) C (.ListComp elt gs scope pos) = .bad := by
  unfold tr
  dsimp only
  split
  · rename_i tg it ifs; exact absurd rfl (h tg it ifs)
  · rfl
theorem asg_ok (k : XOk X T C) (n : Nat) {x : Str} {p pos : Pos} {i : Nat} (e : Expr) (h1 : isLoc C.sc x = true) (h3 : C.st x = true) (h4 : slot C.N x = some i) (hi : i ∉ prot) : PS X (.Assign [.Name x p] e pos) (tS X.K prot (ev1 T (.asg (.nm i) (tr n C e)))) := by
  have plain : swapsWith e (some (.Name x p)) pos.line X.env = pure false → PS X (.Assign [.Name x p] e pos) (tS X.K prot (ev1 T (.asg (.nm i) (tr n C e)))) := fun hs => gs_asg hi (k.store h1 h3 h4) ((tr_ok n X C k).pe e .own (by simp)) hs
  cases n with
  | zero => exact gs_bad2
  | succ n =>
    cases hl : isLC e with
    | false => exact plain (sw_plain hl)
    | true =>
      cases e with
      | SetComp _ _ _ _ => exact gs_bad2
      | DictComp _ _ _ _ _ => exact gs_bad2
      | ListComp elt gs scope lp =>
        have hsw : swapsWith (.ListComp elt gs scope lp) (some (.Name x p)) pos.line X.env = pure (X.env.blockKind == .function && X.env.kindOf x == some .local && p.line == lp.line && !(scope.names.any fun (n, k) => n == x && (k == .local || k == .cell))) := rfl
        cases hb : (X.env.blockKind == .function && X.env.kindOf x == some .local && p.line == lp.line && !(scope.names.any fun (n, k) => n == x && (k == .local || k == .cell))) with
        | false => exact plain (by rw [hsw, hb])
        | true =>
          rw [hb] at hsw
          simp only [Bool.and_eq_true] at hb
          have hyl : X.env.scope.names.lookup x = some .local := by
            have := hb.1.1.2
            simpa [Env.kindOf] using this
          by_cases hgs : ∃ tg it ifs, gs = [⟨tg, it, ifs, 0⟩]
          · obtain ⟨tg, it, ifs, rfl⟩ := hgs
            have := lc_set (prot := prot) k (tr_ok n X C k) (g := tr n) (fun X' C' k' _ => tr_ok n X' C' k') elt tg it ifs scope lp pos p hsw (by rw [k.N]; exact slot_ok h4) hyl hi
            have e : tr (n + 1) C (.ListComp elt [⟨tg, it, ifs, 0⟩] scope lp) = lcOf (tr n) (tr n C) C elt tg it ifs scope := by unfold tr; rfl
            rw [e]
            exact this
          · rw [lc_gens fun tg it ifs e => hgs ⟨tg, it, ifs, e⟩]
            exact gs_bad2
      | _ => cases hl
def starB : Expr → Bool
  | .Starred .. => true
  | _ => false
def gN (sc : Scope) (line : Nat) : Expr → Option Str
  | .Name id pos => if sc.names.lookup id == some .local && pos.line == line then some id else none
  | _ => none
def lineOf (us : List Expr) : Nat := (us.head?.map (·.pos.line)).getD 0
theorem sw_eq (us es : List Expr) (k1 k2 : Nat) (p1 p2 : Pos) (env : Env) : swappedStores [.Tuple us k1 p1] (.Tuple es k2 p2) env =
    (if (!(us.length == 2 || us.length == 3) || es.length != us.length || env.blockKind != .function) = true then pure none
     else if es.any starB = true then pure none
     else if ((us.filterMap (gN env.scope (lineOf us))).length != us.length || (us.filterMap (gN env.scope (lineOf us))).eraseDups.length != (us.filterMap (gN env.scope (lineOf us))).length) = true then pure none
     else if es.all (foldedForSure 8) = true then pure none
     else if es.all (constantsAlone 8) = true then (do unsupported "assign.tuple-of-constant-expressions:order-of-the-stores"; pure (some (us.filterMap (gN env.scope (lineOf us)))))
     else pure (some (us.filterMap (gN env.scope (lineOf us))))) := by rfl
theorem gN_here {C : TC} {line : Nat} {u : Expr} (h : isHere C line u = true) : gN C.sc line u = nameOf u ∧ (nameOf u).isSome = true := by
  cases u with
  | Name x p => exact ⟨if_pos h, rfl⟩
  | _ => cases h
theorem gN_not {C : TC} {line : Nat} {u : Expr} (h : isHere C line u = false) : gN C.sc line u = none := by
  cases u with
  | Name x p => exact if_neg (by intro z; exact Bool.noConfusion (h.symm.trans z))
  | _ => rfl
theorem here_names (C : TC) (line : Nat) : ∀ us : List Expr, us.all (isHere C line) = true → us.filterMap (gN C.sc line) = us.filterMap nameOf ∧ (us.filterMap nameOf).length = us.length
  | [], _ => ⟨rfl, rfl⟩
  | u :: us, h => by
    simp only [List.all_cons, Bool.and_eq_true] at h
    obtain ⟨a, b⟩ := here_names C line us h.2
    obtain ⟨c, d⟩ := gN_here h.1
    obtain ⟨x, hx⟩ := Option.isSome_iff_exists.mp d
    rw [List.filterMap_cons, List.filterMap_cons, c, hx, a]
    exact ⟨rfl, by simp [b]⟩
theorem here_short (C : TC) (line : Nat) : ∀ us : List Expr, us.all (isHere C line) = false → (us.filterMap (gN C.sc line)).length < us.length
  | [], h => by cases h
  | u :: us, h => by
    cases hu : isHere C line u with
    | true =>
      have h2 : us.all (isHere C line) = false := by
        simp only [List.all_cons, hu, Bool.true_and] at h; exact h
      have ih := here_short C line us h2
      rw [List.filterMap_cons]
      split
      · exact Nat.lt_succ_of_lt ih
      · exact Nat.succ_lt_succ ih
    | false =>
      rw [List.filterMap_cons, gN_not hu]
      exact Nat.lt_succ_of_le (List.length_filterMap_le _ _)
theorem nostar_any {es : List Expr} (h : es.all notStar = true) : es.any starB = false := by
  induction es with
  | nil => rfl
  | cons e es ih =>
    simp only [List.all_cons, Bool.and_eq_true] at h
    rw [List.any_cons, ih h.2]
    have := h.1
    cases e <;> first | rfl | cases this
theorem dups_nodup {l : List Str} (h : l.Nodup) (hl : l.length = 2 ∨ l.length = 3) : l.eraseDups.length = l.length := by
  rcases l with _ | ⟨x, _ | ⟨y, _ | ⟨z, _ | ⟨w, l⟩⟩⟩⟩
  · rfl
  · simp at hl
  · have hyx : (y == x) = false := by
      rw [beq_eq_false_iff_ne]; intro e; subst e; simp at h
    simp [List.eraseDups, List.eraseDupsBy, List.eraseDupsBy.loop, hyx]
  · simp only [List.nodup_cons, List.mem_cons, List.not_mem_nil, or_false, not_or, not_false_eq_true, List.nodup_nil, and_true] at h
    obtain ⟨⟨h1, h2⟩, h3⟩ := h
    have e1 : (y == x) = false := by rw [beq_eq_false_iff_ne]; exact fun e => h1 e.symm
    have e2 : (z == x) = false := by rw [beq_eq_false_iff_ne]; exact fun e => h2 e.symm
    have e3 : (z == y) = false := by rw [beq_eq_false_iff_ne]; exact fun e => h3 e.symm
    simp [List.eraseDups, List.eraseDupsBy, List.eraseDupsBy.loop, e1, e2, e3]
  · simp at hl
theorem par_ok {us es : List Expr} {k1 k2 : Nat} {p1 p2 : Pos} (hsc : X.env.scope = C.sc) (hkd : X.env.scope.kind = .function) (h : parK C us es ≠ 0) :
    us.length < 100 ∧ (swappedStores [.Tuple us k1 p1] (.Tuple es k2 p2) X.env = pure none ∨ ((us.length = 2 ∨ us.length = 3) ∧ es.length = us.length ∧ us.all (isHere C (lineOf us)) = true ∧ (us.filterMap nameOf).Nodup ∧ swappedStores [.Tuple us k1 p1] (.Tuple es k2 p2) X.env = pure (some (us.filterMap nameOf)))) := by
  unfold parK at h
  split at h
  · rename_i hc
    simp only [Bool.and_eq_true, decide_eq_true_eq, beq_iff_eq] at hc
    refine ⟨hc.2, ?_⟩
    have hbk : X.env.blockKind = .function := by unfold Env.blockKind; rw [hkd]; rfl
    have hst := nostar_any hc.1.2
    rw [sw_eq, hsc]
    split at h
    · rename_i hl
      have hl2 : us.length = 2 ∨ us.length = 3 := by simpa using hl
      have hlen : (!(us.length == 2 || us.length == 3) || es.length != us.length || X.env.blockKind != .function) = false := by
        rw [hl, hbk, hc.1.1]; simp
      rw [if_neg (by rw [hlen]; decide), if_neg (by rw [hst]; decide)]
      split at h
      · rename_i ha
        split at h
        · rename_i hd
          simp only [Bool.and_eq_true, Bool.not_eq_true', decide_eq_true_eq] at hd
          obtain ⟨n1, n2⟩ := here_names C _ us ha
          refine .inr ⟨hl2, hc.1.1.symm, ha, hd.2, ?_⟩
          have n1 : us.filterMap (gN C.sc (lineOf us)) = us.filterMap nameOf := n1
          rw [n1, if_neg (by rw [dups_nodup hd.2 (by rw [n2]; exact hl2), n2]; simp), if_neg (by rw [hd.1.1]; decide), if_neg (by rw [hd.1.2]; decide)]
        · exact absurd rfl h
      · rename_i ha
        have sh := here_short C _ us (by simpa using ha)
        have sh : (us.filterMap (gN C.sc (lineOf us))).length < us.length := sh
        exact .inl (if_pos (by simp only [Bool.or_eq_true]; left; simp only [bne_iff_ne, ne_eq]; omega))
    · rename_i hl
      exact .inl (if_pos (by simp only [Bool.or_eq_true, Bool.not_eq_true']; left; left; simpa using hl))
  · exact absurd rfl h
end
end GB

namespace GB
open PySem PySem.Spec PyProof.Rows L2

/-! ## 29. every statement, every def -/
section
variable {X : Cx} {T : Tb} {C : TC}
theorem trTg_name {x : Str} {p : Pos} {tg : Tg} (h : trTg C (.Name x p) = some tg) : ∃ i, tg = .nm i ∧ isLoc C.sc x = true ∧ C.st x = true ∧ slot C.N x = some i ∧ i ∉ C.prot := by
  unfold trTg at h
  dsimp only at h
  split at h
  · rename_i hc
    simp only [Bool.and_eq_true] at hc
    split at h
    · rename_i i e
      split at h
      · cases h
      · rename_i hp
        cases h
        exact ⟨i, rfl, hc.1.1, hc.2, e, hp⟩
    · cases h
  · cases h
theorem nmSlots_prot : ∀ {es : List Expr} {is : List Nat}, nmSlots C es = some is → ∀ i ∈ is, i ∉ C.prot
  | [], is, h => by cases h; exact fun i hi => by simp at hi
  | .Name x p :: r, is, h => by
    unfold nmSlots at h
    split at h
    · split at h
      · rename_i i is' e1 e2
        split at h
        · cases h
        · rename_i hp
          cases h
          intro j hj
          rcases List.mem_cons.mp hj with rfl | hj
          · exact hp
          · exact nmSlots_prot e2 j hj
      · cases h
    · cases h
inductive Nms (C : TC) : List Expr → List Nat → Prop
  | nil : Nms C [] []
  | cons {x : Str} {p : Pos} {us : List Expr} {i : Nat} {is : List Nat} : slot C.N x = some i → Nms C us is → Nms C (.Name x p :: us) (i :: is)
theorem nmSlots_nms : ∀ {es : List Expr} {is : List Nat}, nmSlots C es = some is → Nms C es is
  | [], is, h => by cases h; exact .nil
  | .Name x p :: r, is, h => by
    unfold nmSlots at h
    split at h
    · split at h
      · rename_i i is' e1 e2
        split at h
        · cases h
        · cases h
          exact .cons e1 (nmSlots_nms e2)
      · cases h
    · cases h
theorem here_loc {line : Nat} {x : Str} {p : Pos} (h : isHere C line (.Name x p) = true) : C.sc.names.lookup x = some .local := by
  simp only [isHere, Bool.and_eq_true, beq_iff_eq] at h
  exact h.1
theorem trTg_prot {tg : Expr} {t : Tg} (h : trTg C tg = some t) : ∀ i ∈ t.slots, i ∉ C.prot := by
  cases tg with
  | Name x p =>
    obtain ⟨i, rfl, _, _, _, hp⟩ := trTg_name h
    intro j hj
    have : j = i := by simpa [Tg.slots] using hj
    subst this; exact hp
  | Tuple es k p =>
    obtain ⟨is, e, h2⟩ := Option.map_eq_some_iff.mp (show (nmSlots C es).map Tg.tup = some t from h)
    subst h2
    exact nmSlots_prot e
  | _ => cases h
theorem snoc_of {es : List Expr} {k : Expr} {f : Expr → Ex} (h : (es ++ [k]).all notStar = true) : exsMap f (es ++ [k]) = (exsMap f es).snoc (f k) := by
  induction es with
  | nil =>
    simp only [List.nil_append, List.all_cons, List.all_nil, Bool.and_true] at h
    rw [List.nil_append, exs_plain h]; rfl
  | cons e es ih =>
    simp only [List.cons_append, List.all_cons, Bool.and_eq_true] at h
    rw [List.cons_append, exs_plain h.1, exs_plain h.1, ih h.2]; rfl
theorem trS_step (k : XOk X T C) (hp : PassesOwn (model X.prog X.w) X.A X.env X.xe) (hkd : X.env.scope.kind = .function) (n : Nat) (ih : ∀ s, PS X s (tS X.K C.prot (ev1 T (trS n C s)))) (s : Stmt) : PS X s (tS X.K C.prot (ev1 T (trS (n + 1) C s))) := by
  have h := tr_ok n X C k
  have many : ∀ ss : List Stmt, PSs X ss (tS X.K C.prot (evS T (smsOf (trS n C) ss))) := by
    intro ss
    induction ss with
    | nil => exact gs_nil
    | cons s r ihr => exact gs_cons (ih s) ihr
  cases s with
  | Assign ts e pos =>
    unfold trS
    dsimp only
    split
    · rename_i t
      cases t with
      | Name x p =>
        dsimp only
        split
        · rename_i tg e1
          obtain ⟨i, rfl, a, b, c, d⟩ := trTg_name e1
          exact asg_ok k n e a b c d
        · exact gs_bad
      | Tuple us j p =>
        dsimp only
        split
        · rename_i es j2 p2
          split
          · exact gs_bad
          · rename_i hpar
            have hpar : parK C us es ≠ 0 := by simpa using hpar
            obtain ⟨hlt, hsw⟩ := par_ok (X := X) (k1 := j) (k2 := j2) (p1 := p) (p2 := p2) k.sc hkd hpar
            split
            · rename_i is e2
              have hpr := nmSlots_prot e2
              have pn := nmSlots_ok k e2
              have hz : is.length ≤ sizeLine := by
                have : ∀ {us : List Expr} {is : List Nat}, PGn X us is → is.length = us.length := fun h => by
                  induction h with
                  | nil => rfl
                  | cons _ _ ih => simp [ih]
                rw [this pn, sizeLine_eq]; omega
              rcases hsw with hsw | ⟨hl, hle, hhere, hnd, hsw⟩
              · exact gs_parN k.calm pn (h.A es) hsw hpr hz
              · have nm := nmSlots_nms e2
                have hN : X.N.Nodup := by rw [k.N]; exact k.nd
                have at_ : ∀ {x : Str} {i : Nat}, slot C.N x = some i → X.N[i]? = some x := fun s => by rw [k.N]; exact slot_ok s
                have lc : ∀ {x : Str}, C.sc.names.lookup x = some .local → X.env.scope.names.lookup x = some .local := fun s => by rw [k.sc]; exact s
                have ne : ∀ {x y : Str} {i j : Nat}, slot C.N x = some i → slot C.N y = some j → x ≠ y → i ≠ j := fun s t n z => by
                  subst z
                  have a := at_ s
                  rw [at_ t] at a
                  exact n (Option.some.inj a).symm
                cases nm with
                | nil => simp at hl
                | cons s1 nm =>
                  cases nm with
                  | nil => simp at hl
                  | cons s2 nm =>
                    cases nm with
                    | nil =>
                      rcases es with _ | ⟨a, _ | ⟨b, _ | ⟨c, es⟩⟩⟩ <;> simp at hle
                      simp only [List.all_cons, Bool.and_eq_true] at hhere
                      simp only [List.filterMap_cons, nameOf, List.filterMap_nil] at hnd hsw
                      have hxy := (List.nodup_cons.mp hnd).1
                      exact gs_par k.calm hN (at_ s1) (at_ s2) (ne s1 s2 fun z => hxy (by simp [z])) (lc (here_loc hhere.1)) (lc (here_loc hhere.2.1)) (h.A _) hsw (hpr _ (by simp)) (hpr _ (by simp))
                    | cons s3 nm =>
                      cases nm with
                      | nil =>
                        rcases es with _ | ⟨a, _ | ⟨b, _ | ⟨c, _ | ⟨d, es⟩⟩⟩⟩ <;> simp at hle
                        simp only [List.all_cons, Bool.and_eq_true] at hhere
                        simp only [List.filterMap_cons, nameOf, List.filterMap_nil] at hnd hsw
                        have hx := (List.nodup_cons.mp hnd)
                        have hy := (List.nodup_cons.mp hx.2)
                        exact gs_par3 k.calm hN (at_ s1) (at_ s2) (at_ s3) (ne s1 s2 fun z => hx.1 (by simp [z])) (ne s1 s3 fun z => hx.1 (by simp [z])) (ne s2 s3 fun z => hy.1 (by simp [z])) (lc (here_loc hhere.1)) (lc (here_loc hhere.2.1)) (lc (here_loc hhere.2.2.1)) (h.A _) hsw hpr
                      | cons _ _ => simp at hl
            · exact gs_bad
        · rename_i hnt
          have ht : isTupE e = false := by cases e <;> first | rfl | exact absurd rfl (hnt _ _ _)
          split
          · exact gs_bad
          · rename_i hl
            have hl : isLC e = false := by simpa using hl
            split
            · rename_i tg e1
              obtain ⟨is, e2, e3⟩ := Option.map_eq_some_iff.mp (show (nmSlots C us).map Tg.tup = some tg from e1)
              subst e3
              exact gs_asgT (nmSlots_prot e2) (trTg_ok k e1) (h.pe e .own (by simp)) hl ht
            · exact gs_bad
      | Subscript c kk p =>
        dsimp only
        split
        · exact gs_bad
        · rename_i hl
          have hl : isLC e = false := by simpa using hl
          split
          · rename_i i ks e1
            split
            · rename_i hks
              unfold pathOf at e1
              split at e1
              · cases e1
              · rename_i hns
                obtain ⟨⟨j, es0⟩, e2, e3⟩ := Option.map_eq_some_iff.mp e1
                cases e3
                have hu : X.A.units + 1 < cLine := by have := k.un; omega
                have hks' : es0.all notStar = true := by
                  rw [List.all_append] at hks
                  simp only [Bool.and_eq_true] at hks
                  exact hks.1
                rw [snoc_of hks]
                exact gs_set hu (fun l u st q => hns l u st q) (ge_path hu (fun x p i a b c => k.var x p i a b c) c e2 (h.es es0 hks')) (h.pe kk .bor (by simp)) (h.pe e .own (by simp)) hl
            · exact gs_bad
          · exact gs_bad
      | _ => exact gs_bad
    · exact gs_bad
  | If c a b pos =>
    unfold trS
    exact gs_ife (h.pt c) (many a) (many b)
  | For tg it body els pos =>
    unfold trS
    dsimp only
    split
    · rename_i hc
      simp only [Bool.and_eq_true] at hc
      have : els = [] := by cases els with | nil => rfl | cons _ _ => simp at hc
      subst this
      split
      · rename_i t e1
        exact gs_for hp k.calm (gi_it k h tg it) (trTg_ok k e1) (many body) (noSet_fold hc.1) (trTg_prot e1)
      · exact gs_bad
    · exact gs_bad
  | While c body els pos =>
    unfold trS
    dsimp only
    split
    · rename_i hc
      have : els = [] := by cases els with | nil => rfl | cons _ _ => simp at hc
      subst this
      exact gs_whl hp (h.pt c) (many body)
    · exact gs_bad
  | Return e pos =>
    unfold trS
    dsimp only
    split
    · rename_i e
      split
      · rename_i i e1
        have hv : PE X e (tVar i) := h.nm e i (by rw [e1]; rfl)
        split
        · exact gs_ret (by have := h.pe e .own (by simp); rw [e1] at this; exact this)
        · exact gs_retv hv
      · exact gs_ret (h.pe e .own (by simp))
    · exact gs_retN
  | Expr e pos =>
    unfold trS
    dsimp only
    split
    · exact gs_bad
    · rename_i hl
      exact gs_ex (h.pe e .own (by simp)) (by simpa using hl)
  | Pass pos => unfold trS; exact gs_pas
  | Break pos => unfold trS; exact gs_brk
  | Continue pos => unfold trS; exact gs_cont
  | _ => exact gs_bad
theorem trS_ok (k : XOk X T C) (hp : PassesOwn (model X.prog X.w) X.A X.env X.xe) (hkd : X.env.scope.kind = .function) : ∀ (n : Nat) (s : Stmt), PS X s (tS X.K C.prot (ev1 T (trS n C s)))
  | 0, s => gs_bad
  | n + 1, s => trS_step k hp hkd n (trS_ok k hp hkd n) s
theorem trSs_ok (k : XOk X T C) (hp : PassesOwn (model X.prog X.w) X.A X.env X.xe) (hkd : X.env.scope.kind = .function) (n : Nat) : ∀ ss : List Stmt, PSs X ss (tS X.K C.prot (evS T (smsOf (trS n C) ss)))
  | [] => gs_nil
  | s :: r => gs_cons (trS_ok k hp hkd n s) (trSs_ok k hp hkd n r)
end
end GB

namespace GB
open PySem PySem.Spec PyProof.Rows L2

/-! ## 30. a def keeps its promise -/
section
variable {K : PySem.W.Frag} {H : Hp}
theorem SL.none : ∀ (n : Nat) {S : Fp}, SL K H (List.replicate n Option.none) (List.replicate n Option.none) S
  | 0, _ => .nil
  | n + 1, _ => by
    rw [List.replicate_succ, List.replicate_succ]
    exact .non (SL.none n)
theorem SL.start : ∀ {as : List O} {vs : List V} {F : Fp} (n : Nat), OTs K H vs as F → SL K H (as.map some ++ List.replicate n Option.none) (vs.map some ++ List.replicate n Option.none) F
  | [], vs, F, n, h => by cases h; exact SL.none n
  | a :: as, vs, F, n, h => by
    cases h with
    | cons h1 h2 h3 h4 => exact .som h1 (SL.start n h2) h3 h4
theorem outs_ok : ∀ {io : List Bool} {vs : List V} {t : SO} {σ : L2.St} {outs : List O} {S : Fp}, SL K H t σ S → outsOf io t = some outs → vs.length = io.length → (∀ j : Nat, io[j]? = some true → σ[j]? = (vs[j]?).map some) → OTs K H (pick io vs) outs S
  | [], vs, t, σ, outs, S, sl, h, l, p => by
    simp only [outsOf] at h
    cases h
    cases vs with
    | nil => exact .nil
    | cons _ _ => simp at l
  | b :: io, [], t, σ, outs, S, sl, h, l, p => by simp at l
  | true :: io, v :: vs, t, σ, outs, S, sl, h, l, p => by
    cases t with
    | nil => simp [outsOf] at h
    | cons x t =>
      cases x with
      | none => simp [outsOf] at h
      | some o =>
        simp only [outsOf] at h
        obtain ⟨os, h1, h2⟩ := Option.map_eq_some_iff.mp h
        subst h2
        cases sl with
        | som a b c d =>
          have e := p 0 rfl
          simp at e
          subst e
          exact .cons a (outs_ok b h1 (by simpa using l) fun j hj => by simpa using p (j + 1) (by simpa using hj)) c d
  | false :: io, v :: vs, t, σ, outs, S, sl, h, l, p => by
    cases t with
    | nil => simp [outsOf] at h
    | cons x t =>
      have h1 : outsOf io t = some outs := by cases x <;> simpa [outsOf] using h
      have fin : ∀ {τ' : SO} {σ' : L2.St} {S' : Fp}, SL K H t σ' S' → σ' = σ.tail → OTs K H (pick io vs) outs S' := fun {τ' σ' S'} sl' e => by
        subst e
        exact outs_ok sl' h1 (by simpa using l) fun j hj => by
          have := p (j + 1) (by simpa using hj)
          rw [List.getElem?_tail]
          simpa using this
      cases sl with
      | non a => exact fin (τ' := []) a rfl
      | som a b c d => exact (fin (τ' := []) b rfl).wide fun z hz => d z (.inr hz)
end
/-- a def keeps its promise by its body, no repr being under way -/
theorem fnG_of {CX : CXT} {P : Program} {w : World} {K : PySem.W.Frag} {mg : Str → Option Value} {base : Heap} {k : Nat} {f : Addr} {fnm qn : Str} {pa : Arguments} {bd : List Stmt} {sc : Scope} {dV kV doc pm cdv ct oc : Value} {an od : Option Addr} {osl : Array (Option Value)} {N ps : List Str} {sp : Sp}
    (at_ : K.lookup f = some ⟨oc, od, .func (PySem.W.fnOf fnm qn pa bd sc dV kV doc pm an cdv ct), osl⟩) (cod : PySem.W.codeIn K cdv qn = true) (S : FnScope N ps sc) (ln : ∀ xs H Q E, sp xs H Q E → xs.length = ps.length)
    (by_body : ∀ (A : Around) (up : List Env) (s : Shared) (H : Hp) (xs : List V) (Q : VK) (E : XK), Room k (A.deeper (envOfC qn sc s.heap.objs.size f cdv)) → A.guards = some [] → sp xs H Q E →
      ∃ t, PSs (cxOf CX P w K mg base N qn sc f cdv A up s H E) bd t ∧ t { nx := fun _ H1 => Q .non H1, rt := Q } (L2.start N xs) H) :
    FnG P w K mg base CX (k + 1) f (PySem.W.fnOf fnm qn pa bd sc dV kV doc pm an cdv ct) ps sp := by
  refine ⟨ln, fun A up s H ar us xs Q E room gd e0 bnd rel want => ?_⟩
  have inK : K.In s.heap := e0.mod.kin.keeps fun b o e => (e0.bs b o e).1
  have noLim : s.heap.NoLimit := e0.mod.nolimit.keeps fun b o e => (e0.bs b o e).1
  have kinds : ∀ y ∈ ps.zip us, sc.names.lookup y.1 = some .local ∨ (sc.names.lookup y.1 = some .cell ∧ ((cellsFrom (s.heap.objs.size + 1) sc.names []).lookup y.1).isSome = true) := fun y hy =>
    (S.par y.1 (List.of_mem_zip (a := y.1) (b := y.2) hy).1).imp id fun q => ⟨q, PySem.W.cellsFrom_some _ _ _ (.inl q)⟩
  refine codeAny_call_function room.depth (inK _ _ at_) rfl S.co S.gen rfl (PySem.W.codeRec_of inK cod) (bnd _ _ _ _ ?_)
  refine wpAny_newFunctionEnv_cells S.kind kinds fun env he s1 x => ?_
  subst he
  refine ⟨noLim.keeps x.toInCall.keep, codeAny_func ?_⟩
  obtain ⟨t, ht, hq⟩ := by_body A up s H xs Q E (room.deeper _) gd want
  refine wpAny_mono (ht.run [] s1 (L2.start N xs) H _ (inv_start S room.hd e0 (ln _ _ _ _ want) rel x) hq) (fun fl s2 z => ?_) fun e s2 z => z
  cases fl with
  | ret u => obtain ⟨v, σ', H', J, rv, q⟩ := z; exact ⟨v, H', J.os, J.bare, J.base, J.hok, rv, q⟩
  | next => obtain ⟨σ', H', J, q⟩ := z; exact ⟨V.non, H', J.os, J.bare, J.base, J.hok, rfl, q⟩
  | brk => obtain ⟨_, _, _, q⟩ := z; exact q.elim
  | cont => obtain ⟨_, _, _, q⟩ := z; exact q.elim
/-- the marked places -/
def protOf (io : List Bool) : List Nat := (List.range io.length).filter fun j => io[j]? == some true
theorem mem_prot {io : List Bool} {j : Nat} (h : io[j]? = some true) : j ∈ protOf io := by
  unfold protOf
  refine List.mem_filter.mpr ⟨List.mem_range.mpr (List.getElem?_eq_some_iff.mp h).1, by rw [h]; rfl⟩
/-- the context in which a def is translated -/
def defC (N : List Str) (scope : Scope) (io : List Bool) (sg : Str → Option Sg) (gl : Str → Bool) : TC := ⟨N, scope, protOf io, sg, gl, fun _ => true⟩
def fnT (fuel : Nat) (N : List Str) (scope : Scope) (io : List Bool) (sg : Str → Option Sg) (gl : Str → Bool) (body : List Stmt) : Fn := ⟨N.length, io, smsOf (trS fuel (defC N scope io sg gl)) body⟩
/-- what the module is to a def -/
structure Base (K : PySem.W.Frag) (mg : Str → Option Value) (T : Tb) (sg : Str → Option Sg) (gl : Str → Bool) : Prop where
  bl : ∀ f ∈ bltNames, (sg f).isNone = true → gl f = false → mg f = none
  gc : ∀ x d, gl x = true → T.gc x = some d → ∃ v u, mg x = some u ∧ RelV v u ∧ ∀ H, DV true K H v d
structure Known (P : Program) (w : World) (K : PySem.W.Frag) (mg : Str → Option Value) (base : Heap) (T : Tb) (k : Nat) (f : Str) (ps : List Str) (io : List Bool) (sh : List (Nat × List Str)) : Prop where
  ok : ∃ (a : Addr) (fd : FuncData), FnG P w K mg base noX k a fd ps (spOf T K f io) ∧ mg f = some (.ref a) ∧ PySem.W.keepIn K (.ref a) = true ∧ Binds K fd ps [] ∧ ∀ n ks, (n, ks) ∈ sh → KwOk K fd ps n ks (pmOf ps n ks)
theorem Known.mono {P : Program} {w : World} {K : PySem.W.Frag} {mg : Str → Option Value} {base : Heap} {T : Tb} {j k : Nat} {f : Str} {ps : List Str} {io : List Bool} {sh : List (Nat × List Str)} (h : Known P w K mg base T j f ps io sh) (l : j ≤ k) : Known P w K mg base T k f ps io sh := by
  obtain ⟨a, fd, F, r⟩ := h.ok
  exact ⟨a, fd, F.up l, r⟩
theorem def_ok {P : Program} {w : World} {K : PySem.W.Frag} {mg : Str → Option Value} {base : Heap} {T T' : Tb} {k : Nat} {f : Addr} {fname : Str} {name qual : Str} {params : Arguments} {body : List Stmt} {scope : Scope} {dV kV doc pm cdv ct oc : Value} {an od : Option Addr}
    {osl : Array (Option Value)} {N ps : List Str} {io : List Bool} {sg : Str → Option Sg} {gl : Str → Bool} {fu : Nat} (lk : K.lookup f = some ⟨oc, od, .func (PySem.W.fnOf name qual params body scope dV kV doc pm an cdv ct), osl⟩) (hcd : PySem.W.codeIn K cdv qual = true) (S : FnScope N ps scope)
    (hio : io.length = ps.length) (B : Base K mg T sg gl) (fns : ∀ g qs jo sh, sg g = some (qs, jo, sh) → Known P w K mg base T k g qs jo sh)
    (hev : ∀ as r outs, T'.ap fname as = some (r, outs) → evF T (fnT fu N scope io sg gl body) as = some (r, outs)) :
    FnG P w K mg base noX (k + 1) f (PySem.W.fnOf name qual params body scope dV kV doc pm an cdv ct) ps (spOf T' K fname io) := by
  refine fnG_of lk hcd S (fun vs H Q E h => by rw [← hio]; exact h.1) fun A outer s H vs Q E hr hgd hsp => ?_
  obtain ⟨hl, as, F, r, outs, ot, ow, hap, q⟩ := hsp
  have he := hev as r outs hap
  have kx : XOk (cxOf noX P w K mg base N qual scope f cdv A outer s H E) T (defC N scope io sg gl) :=
    ⟨rfl, rfl, rfl, S.nd, by have := hr.un; show (A.deeper (envOfC qual scope s.heap.objs.size f cdv)).units + 130 < _; omega, hgd, fun _ _ _ => .inl rfl, B.bl, B.gc, fun g qs jo sh h => by
      obtain ⟨a, fd, F, h1, h2, h3, h4⟩ := (fns g qs jo sh h).ok
      exact ⟨⟨k, a, fd, F, hr, h1, h2, h3, h4⟩⟩⟩
  have hp : PassesOwn (model P w) (A.deeper (envOfC qual scope s.heap.objs.size f cdv)) (envOfC qual scope s.heap.objs.size f cdv) (cxOf noX P w K mg base N qual scope f cdv A outer s H E).xe :=
    passes_of (X := cxOf noX P w K mg base N qual scope f cdv A outer s H E) rfl
  refine ⟨_, trSs_ok kx hp S.kind fu body, ?_⟩
  unfold evF at he
  split at he
  · rename_i hla
    have hlv : vs.length = as.length := ot.length
    have hio2 : io.length = vs.length := hl.symm
    have fin : ∀ {fl : Fl} {t : SO}, evS T (smsOf (trS fu (defC N scope io sg gl)) body) (as.map some ++ List.replicate (N.length - as.length) none) = some (fl, t) → Out K (protOf io) { nx := fun _ H' => Q .non H', rt := Q } (L2.start N vs) H F fl t → tS K (protOf io) (evS T (smsOf (trS fu (defC N scope io sg gl)) body)) { nx := fun _ H' => Q .non H', rt := Q } (L2.start N vs) H := fun {fl t} e o => by
      refine ⟨_, F, fl, t, ow, ?_, e, o⟩
      unfold L2.start
      rw [hlv]
      exact SL.start _ ot
    have post : ∀ {v : V} {o : O} {t : SO} {σ' : L2.St} {H' : Hp} {S' F' : Fp}, outsOf io t = some outs → Pst false H F H' S' F' → SL K H' t σ' S' → Pr (protOf io) (L2.start N vs) σ' → OT K H' v o F' → CallPost K H io vs F o outs v H' := fun {v o t σ' H' S' F'} ho p sl pr ot => by
      refine ⟨F', S', ot, outs_ok sl ho hl fun j hj => ?_, p.dj, fun b hb => p.new b hb.symm, fun b hb => p.own b hb.symm, p.keep⟩
      rw [pr.at_ j (mem_prot hj)]
      have hjl : j < vs.length := by rw [← hio2]; exact (List.getElem?_eq_some_iff.mp hj).1
      unfold L2.start
      rw [List.getElem?_append_left (by simpa using hjl), List.getElem?_map]
    split at he
    · rename_i o t e1
      obtain ⟨os, e2, e3⟩ := Option.map_eq_some_iff.mp he
      cases e3
      exact fin e1 fun v σ' H' S' F' p sl pr ot => q v H' (post e2 p sl pr ot)
    · rename_i t e1
      obtain ⟨os, e2, e3⟩ := Option.map_eq_some_iff.mp he
      cases e3
      exact fin e1 fun σ' H' S' p sl pr => q .non H' (post e2 p sl pr (.dat .non))
    · cases he
  · cases he
end GB

namespace GB
open PySem PySem.Spec PyProof.Rows L2

/-! ## 31. the module's constants -/
mutual
def chk (K : PySem.W.Frag) : PyData → Value → Bool
  | .none, .none => true
  | .bool b, .bool c => b == c
  | .int i, .int j _ => decide (i = j)
  | .str x, .str y _ => decide (x = y)
  | .tuple ds, .ref a => (match K.lookup a with
    | some ⟨.type c, _, .seq its _, _⟩ => decide (c = "tuple") && (decide (its.size ≤ sizeLine) && chks K ds its.toList)
    | _ => false)
  | _, _ => false
def chks (K : PySem.W.Frag) : List PyData → List Value → Bool
  | [], [] => true
  | d :: ds, u :: us => chk K d u && chks K ds us
  | _, _ => false
end
mutual
theorem chk_ok {K : PySem.W.Frag} : ∀ (d : PyData) (u : Value), chk K d u = true → ∃ v, RelV v u ∧ ∀ H, DV true K H v d
  | .none, u, h => by cases u <;> first | exact ⟨.non, rfl, fun _ => .non⟩ | (simp [chk] at h)
  | .bool b, u, h => by
    cases u <;> first | (simp [chk] at h; subst h; exact ⟨.bl _, rfl, fun _ => .bl _⟩) | (simp [chk] at h)
  | .int i, u, h => by
    cases u <;> first | (simp [chk] at h; subst h; exact ⟨.int _, ⟨_, rfl⟩, fun _ => .int _⟩) | (simp [chk] at h)
  | .str x, u, h => by
    cases u <;> first | (simp [chk] at h; subst h; exact ⟨.str _, ⟨_, rfl⟩, fun _ => .str _⟩) | (simp [chk] at h)
  | .tuple ds, u, h => by
    cases u <;> first | (simp [chk] at h; done) | skip
    rename_i a
    simp only [chk] at h
    split at h
    · rename_i c od its n sl e
      simp only [Bool.and_eq_true, decide_eq_true_eq] at h
      obtain ⟨h1, h2, h3⟩ := h
      obtain ⟨vs, r, dv⟩ := chks_ok ds its.toList h3
      exact ⟨.ref a, rfl, fun H => .tup (.inr ⟨_, its, n, e, congrArg Value.type h1, fun z => by simp at z, rfl, h2, r⟩) (dv H)⟩
    · cases h
  | .list ds, u, h => by cases u <;> simp [chk] at h
  | .dict ds, u, h => by cases u <;> simp [chk] at h
theorem chks_ok {K : PySem.W.Frag} : ∀ (ds : List PyData) (us : List Value), chks K ds us = true → ∃ vs, Vals vs us ∧ ∀ H, DVs true K H vs ds
  | [], us, h => by
    cases us with
    | nil => exact ⟨[], .nil, fun _ => .nil⟩
    | cons _ _ => simp [chks] at h
  | d :: ds, us, h => by
    cases us with
    | nil => simp [chks] at h
    | cons u us =>
      simp only [chks, Bool.and_eq_true] at h
      obtain ⟨v, r, dv⟩ := chk_ok d u h.1
      obtain ⟨vs, rs, dvs⟩ := chks_ok ds us h.2
      exact ⟨v :: vs, .cons r rs, fun H => .cons (dv H) (dvs H)⟩
end
def gcB (K : PySem.W.Frag) (gcs : List (Str × PyData)) : Bool := gcs.all fun q => match PySem.W.nsIn K mainGlobals q.1 with
  | some (some u) => chk K q.2 u
  | _ => false
/-! ## 32. what the head tells -/
def isLstO (o : Obj) : Bool := match o.cls with
  | .type c => decide (c = "list")
  | _ => false
def frL (g : Addr → Option Obj) (as : List Addr) : PySem.W.Frag := (He.frG g as).filter fun q => !isLstO q.2
theorem frL_mem {g : Addr → Option Obj} {as : List Addr} {a : Addr} {o : Obj} (h : (frL g as).lookup a = some o) : g a = some o ∧ isLstO o = false := by
  obtain ⟨h1, h2⟩ := List.mem_filter.mp (He.lookup_mem h)
  exact ⟨He.frG_mem h1, by simpa using h2⟩
theorem frL_in {as : List Addr} {h : Heap} : (frL h.get? as).In h := fun _ _ e => (frL_mem e).1
def obsG (n : Nat) (fa : List He.Fa) (fn : List He.DefD) (gcs : List (Str × PyData)) (g : Addr → Option Obj) : He.AlD × Bool := (He.obsD fa fn (frL g (He.asD g n)), gcB (frL g (He.asD g n)) gcs)
structure SaysG (fa : List He.Fa) (fn : List He.DefD) (gcs : List (Str × PyData)) (K : PySem.W.Frag) : Prop where
  d : He.SaysD fa fn K
  g : gcB K gcs = true
  l : ∀ a o, K.lookup a = some o → isLstO o = false
def hookG (n : Nat) (fa : List He.Fa) (fn : List He.DefD) (gcs : List (Str × PyData)) : PySem.W.Hook where
  α := He.AlD × Bool
  obs := fun s => obsG n fa fn gcs s.heap.get?
  val := fun _ => (He.valD fn, true)
  says := fun _ h => ∃ K : PySem.W.Frag, K.In h ∧ SaysG fa fn gcs K
  of := fun _ s e => ⟨_, frL_in, congrArg (fun z : He.AlD × Bool => z.1) e, congrArg (fun z : He.AlD × Bool => z.2) e, fun _ _ z => (frL_mem z).2⟩
  keeps := fun _ _ _ ⟨K, hK, c⟩ k => ⟨K, PySem.W.Frag.In.keeps hK k, c⟩
theorem obsG_eq {n : Nat} {fa : List He.Fa} {fn : List He.DefD} {gcs : List (Str × PyData)} {g : Addr → Option Obj} {s : Shared} (h : ∀ a, g a = s.heap.get? a) : obsG n fa fn gcs g = (hookG n fa fn gcs).obs s := by
  have e : g = s.heap.get? := funext h
  rw [e] <;> rfl

/-! ## 33. all defs, one level a def -/
structure DS where
  name : Str
  st : Stmt
  N : List Str
  ps : List Str
  io : List Bool
  sh : List (Nat × List Str) := []
abbrev DS.d (d : DS) : He.DefD := ⟨(d.name, none), d.name, d.name, defArgs d.st, defBody d.st, defScope d.st, [], []⟩
/-- the defs ahead of the i-th -/
def sgAt (ds : List DS) (i : Nat) (f : Str) : Option Sg := ((ds.take i).find? fun d => d.name == f).map fun d => (d.ps, d.io, d.sh)
def glOf (gcs : List (Str × PyData)) (x : Str) : Bool := (gcs.lookup x).isSome

def sig (ds : List DS) (gcs : List (Str × PyData)) (fu i : Nat) (d : DS) : Fn := fnT fu d.N (defScope d.st) d.io (sgAt ds i) (glOf gcs) (defBody d.st)
/-- the i first defs, by themselves -/
def runAt (gc : Str → Option PyData) (nf : List (Str × Fn)) : Nat → Str → List O → Option (O × List O)
  | 0, _, _ => none
  | i + 1, f, as => match nf[i]? with
    | some (g, fn) => if g == f then evF ⟨runAt gc nf i, gc⟩ fn as else runAt gc nf i f as
    | none => none
def tab (gc : Str → Option PyData) (nf : List (Str × Fn)) (i : Nat) : Tb := ⟨runAt gc nf i, gc⟩
theorem runAt_at {gc : Str → Option PyData} {nf : List (Str × Fn)} {i : Nat} {g : Str} {fn : Fn} (e : nf[i]? = some (g, fn)) : runAt gc nf (i + 1) g = evF (tab gc nf i) fn := by
  funext as
  simp only [runAt, e, beq_self_eq_true, if_true]
  rfl
theorem runAt_up {gc : Str → Option PyData} {nf : List (Str × Fn)} (nd : (nf.map (·.1)).Nodup) {i : Nat} {g : Str} {fn : Fn} (e : nf[i]? = some (g, fn)) : ∀ j, i < j → j ≤ nf.length → runAt gc nf j g = runAt gc nf (i + 1) g
  | 0, h, _ => absurd h (Nat.not_lt_zero _)
  | j + 1, h, hl => by
    by_cases hj : i = j
    · subst hj; rfl
    · have ih := runAt_up (gc := gc) nd e j (by omega) (by omega)
      rw [← ih]
      funext as
      have hjl : j < nf.length := by omega
      have e2 : nf[j]? = some nf[j] := List.getElem?_eq_getElem hjl
      have hne : (nf[j].1 == g) = false := by
        rw [beq_eq_false_iff_ne]
        intro z
        obtain ⟨hi, e1⟩ := List.getElem?_eq_some_iff.mp e
        have h1 : (nf.map (·.1))[j]'(by simpa using hjl) = g := by simpa using z
        have h2 : (nf.map (·.1))[i]'(by simpa using hi) = g := by simp [e1]
        exact hj ((List.getElem_inj nd).mp (h2.trans h1.symm))
      rw [show runAt gc nf (j + 1) g as = (match nf[j]? with
        | some (g', fn) => if g' == g then evF ⟨runAt gc nf j, gc⟩ fn as else runAt gc nf j g as
        | none => none) from rfl, e2]
      show (if nf[j].1 == g then _ else _) = _
      rw [hne]
      rfl
structure DOk (d : DS) : Prop where
  sc : FnScope d.N d.ps (defScope d.st)
  io : d.io.length = d.ps.length
  bind : ∀ (kV doc pm : Value) (an : Option Addr) (cdv ct : Value) (us : List Value), us.length = d.ps.length → bindArgs (PySem.W.fnOf d.name d.name (defArgs d.st) (defBody d.st) (defScope d.st) .none kV doc pm an cdv ct) ⟨us, []⟩ = pure (d.ps.zip us)
  kw : ∀ (kV doc pm : Value) (an : Option Addr) (cdv ct : Value) (n : Nat) (ks : List Str), (n, ks) ∈ d.sh → ∀ us ws : List Value, us.length = n → ws.length = ks.length → bindArgs (PySem.W.fnOf d.name d.name (defArgs d.st) (defBody d.st) (defScope d.st) .none kV doc pm an cdv ct) ⟨us, ks.zip ws⟩ = pure (d.ps.zip (permL (pmOf d.ps n ks) (us ++ ws)))
theorem kw_ok {K : PySem.W.Frag} {d : DS} {f : Addr} {fd : FuncData} (F : FunD K d.name d.name (defArgs d.st) (defBody d.st) (defScope d.st) [] [] f fd) (D : DOk d) : ∀ n ks, (n, ks) ∈ d.sh → KwOk K fd d.ps n ks (pmOf d.ps n ks) := fun n ks hm s us ws _ l1 l2 => by
  obtain ⟨oc, od, dV, kV, doc, pm, an, cdv, ct, osl, rfl, lk, hcd, hD, hK⟩ := F.ex
  rcases hD with ⟨_, rfl⟩ | ⟨e, _⟩
  · exact .of_eq (D.kw kV doc pm an cdv ct n ks hm us ws l1 l2)
  · exact absurd rfl e
def faOf (ds : List DS) : List He.Fa := bltNames.map He.Fa.free ++ ds.map fun d => He.Fa.glo d.name
section
variable {P : Program} {w : World} {K : PySem.W.Frag} {mg : Str → Option Value} {ds : List DS} {nf : List (Str × Fn)} {gcs : List (Str × PyData)} {fu : Nat} {h : Heap}
abbrev gcT (gcs : List (Str × PyData)) : Str → Option PyData := fun x => gcs.lookup x
/-- a def's promise, whatever the base -/
structure KnownA (P : Program) (w : World) (K : PySem.W.Frag) (mg : Str → Option Value) (T : Tb) (k : Nat) (d : DS) (fd : FuncData) : Prop where
  f : FunD K d.name d.name (defArgs d.st) (defBody d.st) (defScope d.st) [] [] (He.ga K d.name) fd
  ok : ∀ base, FnG P w K mg base noX k (He.ga K d.name) fd d.ps (spOf T K d.name d.io)
  mg : mg d.name = some (.ref (He.ga K d.name))
theorem base_ok {T : Tb} (X : K.In h) (G : h.Ns mainGlobals mg) (c : SaysG (faOf ds) (ds.map DS.d) gcs K) (hT : T.gc = gcT gcs) (i : Nat) : Base K mg T (sgAt ds i) (glOf gcs) where
  bl := fun f hf _ _ => He.free_ok X G (c.d.facts (f := .free f) (List.mem_append_left _ (List.mem_map.mpr ⟨f, hf, rfl⟩)))
  gc := fun x d _ hd => by
    rw [hT] at hd
    have hm : (x, d) ∈ gcs := PySem.mem_of_lookup hd
    have z := List.all_eq_true.mp c.g (x, d) hm
    dsimp only at z
    split at z
    · rename_i u e
      obtain ⟨v, r, dv⟩ := chk_ok d u z
      exact ⟨v, u, PySem.W.mg_of X G e, r, dv⟩
    · cases z
theorem all_known (X : K.In h) (G : h.Ns mainGlobals mg) (c : SaysG (faOf ds) (ds.map DS.d) gcs K) (hok : ∀ d ∈ ds, DOk d) (nd : (nf.map (·.1)).Nodup) (hl : nf.length = ds.length)
    (hnf : ∀ i d, ds[i]? = some d → nf[i]? = some (d.name, sig ds gcs fu i d)) :
    ∀ (n i : Nat) (d : DS), i < n → ds[i]? = some d → ∃ fd, KnownA P w K mg (tab (gcT gcs) nf (i + 1)) (i + 1) d fd
  | 0, i, d, hi, e => absurd hi (Nat.not_lt_zero _)
  | n + 1, i, d, hi, e => by
    have hm : d ∈ ds := List.mem_of_getElem? e
    obtain ⟨fd, F⟩ := c.d.defs (d := d.d) (List.mem_map.mpr ⟨d, hm, rfl⟩)
    have F : FunD K d.name d.name (defArgs d.st) (defBody d.st) (defScope d.st) [] [] (He.ga K d.name) fd := F
    have hmg : mg d.name = some (.ref (He.ga K d.name)) := He.glo_ok X G (c.d.facts (f := .glo d.name) (List.mem_append_right _ (List.mem_map.mpr ⟨d, hm, rfl⟩)))
    have D := hok d hm
    refine ⟨fd, F, fun base => ?_, hmg⟩
    obtain ⟨oc, od, dV, kV, doc, pm, an, cdv, ct, osl, rfl, lk, hcd, _, _⟩ := F.ex
    refine def_ok (T := tab (gcT gcs) nf i) lk hcd D.sc D.io (base_ok X G c rfl i) (fun g qs jo sh hg => ?_) (fun as r outs hap => by
      have e2 : (tab (gcT gcs) nf (i + 1)).ap d.name = evF (tab (gcT gcs) nf i) (sig ds gcs fu i d) := runAt_at (hnf i d e)
      rw [e2] at hap
      exact hap)
    obtain ⟨d2, e2, e3⟩ := Option.map_eq_some_iff.mp hg
    cases e3
    have hf := List.find?_some e2
    have hmem := List.mem_of_find?_eq_some e2
    have en : d2.name = g := eq_of_beq hf
    obtain ⟨j, hj, ej⟩ := List.mem_iff_getElem.mp hmem
    have hj2 : j < i := by rw [List.length_take] at hj; omega
    have e4 : ds[j]? = some d2 := by
      rw [List.getElem_take] at ej
      rw [List.getElem?_eq_some_iff]
      exact ⟨_, ej⟩
    obtain ⟨fd2, A⟩ := all_known X G c hok nd hl hnf n j d2 (by omega) e4
    subst en
    have hil : i < ds.length := (List.getElem?_eq_some_iff.mp e).1
    have eap : (tab (gcT gcs) nf i).ap d2.name = (tab (gcT gcs) nf (j + 1)).ap d2.name := runAt_up nd (hnf j d2 e4) i hj2 (by omega)
    have esp : spOf (tab (gcT gcs) nf i) K d2.name d2.io = spOf (tab (gcT gcs) nf (j + 1)) K d2.name d2.io := by
      unfold spOf
      rw [eap]
    exact ⟨⟨_, fd2, by rw [esp]; exact (A.ok base).up (by omega), A.mg, A.f.kp, A.f.bindsN (hok d2 (List.mem_of_getElem? e4)).bind, kw_ok A.f (hok d2 (List.mem_of_getElem? e4))⟩⟩
end
/-- the heap with the script frozen -/
def scrH (a : Addr) (o : Obj) (ns : List Int) : Hp := fun b => if b = a then some (.frz o (.lst (ns.map V.int))) else none
theorem scrH_of {a b : Addr} {o : Obj} {ns : List Int} {u : HO} (e : scrH a o ns b = some u) : b = a ∧ u = .frz o (.lst (ns.map V.int)) := by
  unfold scrH at e
  split at e
  · rename_i h
    exact ⟨h, (Option.some.inj e).symm⟩
  · cases e
/-- the law's call -/
theorem law_end {P : Program} {w : World} {K : PySem.W.Frag} {mg mb : Str → Option Value} {k : Nat} {fa a : Addr} {fd : FuncData} {x : Str} {sp : Sp} {s : Shared} {vs : List Value} {ns : List Int} (inK : K.In s.heap) (no : ∀ b o, K.lookup b = some o → isLstO o = false)
    (g : s.heap.Ns mainGlobals mg) (gb : s.heap.Ns builtinsNs mb) (bb : ∀ x : Str, x ≠ "__name__" → mb x = bootBuiltins x) (lim : s.heap.NoLimit) (gens : s.gens = #[]) (scr : s.heap.get? a = some { cls := .type "list", data := .seq vs.toArray }) (are : IntsAre vs ns) (hl : ns.length ≤ sizeLine)
    (room : Room k callerA) (F : ∀ base : Heap, FnG P w K mg base noX k fa fd [x] sp) (bnd : ∀ (s : Shared) (u : Value), BindsTo s fd ⟨[u], []⟩ [(x, u)])
    (want : ∀ H : Hp, (∃ o, H a = some (.frz o (.lst (ns.map V.int)))) → sp [.ref a] H (fun v _ => v = .bl true) fun _ _ _ => False) :
    codeAny (model P w) callerA (.call (.ref fa) ⟨[.ref a], []⟩) (fun r s2 => r = .ok (.ret (.bool true)) ∧ OldK s.heap s2.heap ∧ s2.os = s.os ∧ AllBare s2.gens) s := by
  have rv := vals_ints are
  generalize ho : ({ cls := .type "list", data := .seq vs.toArray } : Obj) = ob at scr
  have hA : scrH a ob ns a = some (.frz ob (.lst (ns.map V.int))) := if_pos rfl
  have nK : ∀ b o, K.lookup b = some o → scrH a ob ns b = none := fun b o e => by
    refine if_neg fun z => ?_
    subst z
    have e2 := inK b o e
    rw [scr] at e2
    cases e2
    have := no b ob e
    rw [← ho] at this
    simp [isLstO] at this
  have nD : ∀ {b : Addr} {o : Obj} {es : Array DictEntry} {ep : Nat}, s.heap.get? b = some o → o.data = .dict es ep → scrH a ob ns b = none := fun {b o es ep} e d => by
    refine if_neg fun z => ?_
    subst z
    rw [scr] at e
    cases e
    rw [← ho] at d
    cases (show Data.seq vs.toArray _ = Data.dict es ep from d)
  have hid : ∀ {b : Addr} {m : Str → Option Value}, s.heap.Ns b m → (hidT s.heap (scrH a ob ns)).Ns b m := fun {b m} ⟨o, es, ep, e, d, r⟩ => ⟨o, es, ep, hidT_get e (nD e d), d, r⟩
  have hok : HOk P w (scrH a ob ns) s.heap := fun b u e => by
    obtain ⟨rfl, rfl⟩ := scrH_of e
    exact ⟨scr, by rw [List.length_map]; exact hl, vs, _, rv, by rw [scr, ← ho]⟩
  have e0 : Env0 P w K mg (hidT s.heap (scrH a ob ns)) callerA [] s (scrH a ob ns) :=
    ⟨rfl, ⟨fun b o e => hidT_get (inK b o e) (nK b o e), hid g, ⟨mb, hid gb, bb⟩, let ⟨mc, h1, h2⟩ := lim; ⟨mc, hid h1, h2⟩⟩, fun b o e => of_hidT e, Nat.le_of_eq (hidT_size _ _), trivial, fun b hb => absurd (show b ∈ ([] : List Addr) from hb) (by simp), hok, .of_eq gens⟩
  refine codeAny_mono ((F _).go callerA [] s (scrH a ob ns) ⟨[.ref a], []⟩ [.ref a] [.ref a] _ _ room rfl e0 (bnd s (.ref a)) (.cons rfl .nil) (want _ ⟨ob, hA⟩)) fun r s2 z => ?_
  rcases r with e | fl
  · exact False.elim z
  · cases fl <;> first | exact False.elim z | skip
    rename_i u
    obtain ⟨v, H2, os, bare, un, hok2, r2, q⟩ := z
    have q2 : v = .bl true := q
    subst q2
    obtain rfl : u = Value.bool true := r2
    refine ⟨rfl, OldK.of_keep fun b o e => ?_, os, bare⟩
    cases hb : scrH a ob ns b with
    | none => exact un.keep b o e hb (fun z => absurd (show b ∈ ([] : List Addr) from z) (by simp)) (by simp)
    | some u =>
      obtain ⟨rfl, rfl⟩ := scrH_of hb
      rw [scr] at e
      cases e
      exact (hok2 b _ (un.frzs b ob _ hb)).1
theorem ints_dv {K : PySem.W.Frag} {H : Hp} : ∀ ns : List Int, DVs true K H (ns.map V.int) (ns.map .int)
  | [] => .nil
  | n :: ns => .cons (.int n) (ints_dv ns)
/-- the goal that the head leaves -/
theorem walk_G {l : PySem.W.OpenLaw} {q : Program} {loose : List Str} {XP : (Str → Option Value) → Heap → Prop} {dr : DefRec} {ds : List DS} {nf : List (Str × Fn)} {gcs : List (Str × PyData)} {fu m i : Nat} {d : DS} {x : Str}
    (hn : l.most = some 63) (hdf : dr.params.defaults = []) (room : Room (i + 1) callerA) (hok : ∀ d ∈ ds, DOk d) (nd : (nf.map (·.1)).Nodup) (hl : nf.length = ds.length)
    (hnf : ∀ i d, ds[i]? = some d → nf[i]? = some (d.name, sig ds gcs fu i d)) (hi : ds[i]? = some d) (hps : d.ps = [x]) (hio : d.io = [false]) (hname : dr.name = d.name)
    (law : ∀ ns : List Int, ns.length ≤ 63 → runAt (gcT gcs) nf (i + 1) d.name [.dat (.list (ns.map .int))] = some (oB true, [])) :
    PySem.W.WalkO q loose XP (hookG m (faOf ds) (ds.map DS.d) gcs).says l.row.toRowW dr [] (fun f vs => PySem.call f vs) := by
  refine Att.attach_call hn hdf fun w s0 s mg mb fa o pm cd doc a vs ns G Y ho hd hcd hmg hobj hints hlen hg => ?_
  obtain ⟨K, X, c⟩ := Y
  obtain ⟨fd, A⟩ := all_known (P := l.prog) (w := w) X G.T.g c hok nd hl hnf (i + 1) i d (Nat.lt_succ_self i) hi
  have e := A.mg
  rw [← hname, hmg] at e
  have e2 : fa = He.ga K dr.name := by have := Option.some.inj e; injection this
  rw [hname] at e2
  have F : ∀ base, FnG l.prog w K mg base noX (i + 1) fa fd [x] (spOf (tab (gcT gcs) nf (i + 1)) K d.name d.io) := fun base => by
    have := A.ok base
    rw [hps, ← e2] at this
    exact this
  refine law_end X c.l G.T.g G.T.b G.T.builtins G.T.nolimit hg hobj hints (Nat.le_trans hlen (by decide)) room F (fun s u => ?_) fun H ⟨ob, hz⟩ => ?_
  · have := FunD.bindsA A.f (hok d (List.mem_of_getElem? hi)).bind s [u] (by rw [hps]; rfl)
    rw [hps] at this
    exact this
  · refine ⟨by rw [hio]; rfl, [.dat (.list (ns.map .int))], F0, oB true, [], .cons (F1 := F0) (F2 := F0) (.dat (.lst ⟨ob, hz⟩ (ints_dv ns))) .nil (fun _ z => z.elim) (fun b z => z.elim id id), fun b z => z.elim, law ns hlen, fun v H' ⟨Fr, Fo, hr, _⟩ => ?_⟩
    cases hr with | dat hr => cases hr; rfl
end GB

namespace GB
open PySem PySem.Spec L2

/-! ## 40. the draws of k08 to k15 -/
def jarO (gs : List Int) (t s : Int) : O := .dic [(.inr "great", .lst (gs.map fun i => .dat (.int i))), (.inr "turn", .dat (.int t)), (.inr "seed", .dat (.int s))]
structure JarOk (o : O) : Prop where
  ex : ∃ (gs : List Int) (t s : Int), o = jarO gs t s ∧ gs.length ≤ 63 ∧ ∀ g ∈ gs, 0 ≤ g
def jDraw : Fn := ⟨4, [true, false], (.cons (.ife (.pr .ne (.cons (.ix (.v 0) (.k (.str "great"))) (.cons (.lst .nil) .nil))) (.cons (.asg (.nm 3) (.mut .pop1 0 (.cons (.k (.str "great")) .nil) (.cons (.k (.int 0)) .nil))) (.cons (.ife (.pr .ge (.cons (.v 3) (.cons (.v 1) .nil))) (.cons (.ex (.mut .insert 0 (.cons (.k (.str "great")) .nil) (.cons (.k (.int 0)) (.cons (.pr .fdiv (.cons (.v 3) (.cons (.v 1) .nil))) .nil)))) .nil) .nil) (.cons (.ret (.pr .mod (.cons (.pr .toint (.cons (.v 3) .nil)) (.cons (.v 1) .nil)))) .nil))) .nil) (.cons (.set 0 (.cons (.k (.str "turn")) .nil) (.pr .add (.cons (.ix (.v 0) (.k (.str "turn"))) (.cons (.k (.int 1)) .nil)))) (.cons (.asg (.nm 2) (.pr .mod (.cons (.pr .toint (.cons (.pr .add (.cons (.pr .add (.cons (.pr .mul (.cons (.pr .toint (.cons (.ix (.v 0) (.k (.str "seed"))) .nil)) (.cons (.k (.int 40692)) .nil))) (.cons (.pr .mul (.cons (.k (.int 7919)) (.cons (.ix (.v 0) (.k (.str "turn"))) .nil))) .nil))) (.cons (.k (.int 3)) .nil))) .nil)) (.cons (.k (.int 4294967291)) .nil)))) (.cons (.set 0 (.cons (.k (.str "seed")) .nil) (.v 2)) (.cons (.ret (.pr .mod (.cons (.pr .toint (.cons (.pr .add (.cons (.pr .fdiv (.cons (.v 2) (.cons (.k (.int 64)) .nil))) (.cons (.v 2) .nil))) .nil)) (.cons (.v 1) .nil)))) .nil)))))⟩
/-! ### primitives by what they tell -/
theorem q_add (a b : Int) : primEv .add [.dat (.int a), .dat (.int b)] = some (.dat (.int (a + b))) := rfl
theorem q_sub (a b : Int) : primEv .sub [.dat (.int a), .dat (.int b)] = some (.dat (.int (a - b))) := rfl
theorem q_mulr (a b : Int) (h : -18446744073709551616 < b ∧ b < 18446744073709551616) : primEv .mul [.dat (.int a), .dat (.int b)] = some (.dat (.int (a * b))) := by
  show (if mulOk a b then some (oI (a * b)) else none) = _
  rw [if_pos]
  simp only [mulOk, Bool.or_eq_true, Bool.and_eq_true, decide_eq_true_eq]
  exact .inr h
theorem q_mull (a b : Int) (h : -18446744073709551616 < a ∧ a < 18446744073709551616) : primEv .mul [.dat (.int a), .dat (.int b)] = some (.dat (.int (a * b))) := by
  show (if mulOk a b then some (oI (a * b)) else none) = _
  rw [if_pos]
  simp only [mulOk, Bool.or_eq_true, Bool.and_eq_true, decide_eq_true_eq]
  exact .inl h
theorem q_mod (a b : Int) (h : 0 < b) : primEv .mod [.dat (.int a), .dat (.int b)] = some (.dat (.int (a % b))) := by
  show (if 0 < b then some (a % b) else none).map oI = _
  rw [if_pos h]; rfl
theorem q_fdiv (a b : Int) (h : 0 < b) (h2 : b < 1073741824) : primEv .fdiv [.dat (.int a), .dat (.int b)] = some (.dat (.int (a / b))) := by
  show (if 0 < b ∧ b < 1073741824 then some (a / b) else none).map oI = _
  rw [if_pos ⟨h, h2⟩]; rfl
theorem q_toint (a : Int) : primEv .toint [.dat (.int a)] = some (.dat (.int a)) := rfl
theorem q_tointb (a : Bool) : primEv .toint [.dat (.bool a)] = some (.dat (.int (if a then 1 else 0))) := rfl
theorem q_abs (a : Int) : primEv .abs [.dat (.int a)] = some (.dat (.int (if a < 0 then -a else a))) := rfl
theorem q_lt (a b : Int) : primEv .lt [.dat (.int a), .dat (.int b)] = some (.dat (.bool (decide (a < b)))) := rfl
theorem q_ge (a b : Int) : primEv .ge [.dat (.int a), .dat (.int b)] = some (.dat (.bool (decide (b ≤ a)))) := rfl
theorem q_pow (a b : Int) (h : 0 ≤ b ∧ b ≤ 1000000 ∧ a.natAbs < 18446744073709551616) : primEv .pow [.dat (.int a), .dat (.int b)] = some (.dat (.int (a ^ b.toNat))) := by
  show (if 0 ≤ b ∧ b ≤ 1000000 ∧ a.natAbs < 2 ^ 64 then some (a ^ b.toNat) else none).map oI = _
  rw [if_pos h]; rfl
def oIs (gs : List Int) : O := .lst (gs.map fun i => .dat (.int i))
theorem plain_ints : ∀ gs : List Int, PyData.plainAll (O.toDs (gs.map fun i => .dat (.int i))) = true
  | [] => rfl
  | g :: gs => by
    have := plain_ints gs
    simpa [O.toDs, O.toD, PyData.plainAll, PyData.plain] using this
theorem q_neG (gs : List Int) : primEv .ne [oIs gs, .lst []] = some (.dat (.bool (!gs.isEmpty))) := by
  show (eqEv (oIs gs).toD (O.lst []).toD).map (fun c => oB (!c)) = _
  have h : eqOk (oIs gs).toD (O.lst []).toD = true := by
    have := plain_ints gs
    simp only [eqOk, oIs, O.toD, PyData.plain, this, Bool.and_eq_true, decide_eq_true_eq]
    refine ⟨⟨trivial, rfl⟩, Nat.le_trans (Nat.min_le_right _ _) (by decide)⟩
  unfold eqEv
  rw [if_pos h]
  cases gs <;> rfl
/-! ### the jar by what it tells -/
theorem j_g (gs : List Int) (t s : Int) : ixEv (jarO gs t s) (.dat (.str "great")) = some (oIs gs) := rfl
theorem j_t (gs : List Int) (t s : Int) : ixEv (jarO gs t s) (.dat (.str "turn")) = some (.dat (.int t)) := rfl
theorem j_s (gs : List Int) (t s : Int) : ixEv (jarO gs t s) (.dat (.str "seed")) = some (.dat (.int s)) := rfl
theorem j_setT (gs : List Int) (t s u : Int) : mutAt (mutEv .set [.dat (.str "turn"), .dat (.int u)]) [] (jarO gs t s) = some (.dat .none, jarO gs u s) := rfl
theorem j_setS (gs : List Int) (t s u : Int) : mutAt (mutEv .set [.dat (.str "seed"), .dat (.int u)]) [] (jarO gs t s) = some (.dat .none, jarO gs t u) := rfl
theorem j_path (gs : List Int) (t s : Int) : pathO [.dat (.str "great")] (jarO gs t s) = some (oIs gs) := rfl
theorem j_pathIn (gs : List Int) (t s : Int) (r : SO) : pathIn (some (jarO gs t s) :: r) 0 [.dat (.str "great")] = some (oIs gs) := rfl
theorem j_pathIn1 (gs : List Int) (t s : Int) (r : SO) (u : Option O) : pathIn (u :: some (jarO gs t s) :: r) 1 [.dat (.str "great")] = some (oIs gs) := rfl
theorem j_put (gs hs : List Int) (t s : Int) : putO [.dat (.str "great")] (oIs hs) (jarO gs t s) = some (jarO hs t s) := rfl
theorem j_at {f : O → Option (O × O)} {gs hs : List Int} {t s : Int} {r : O} (h : f (oIs gs) = some (r, oIs hs)) : mutAt f [.dat (.str "great")] (jarO gs t s) = some (r, jarO hs t s) := by
  unfold mutAt
  rw [j_path, Option.bind_some, h, Option.bind_some, j_put]
  rfl
theorem j_pop (g : Int) (gs : List Int) (t s : Int) : mutAt (mutEv .pop1 [.dat (.int 0)]) [.dat (.str "great")] (jarO (g :: gs) t s) = some (.dat (.int g), jarO gs t s) := by
  refine j_at ?_
  show (if -(2 ^ 63) ≤ (0 : Int) ∧ (0 : Int) < 2 ^ 63 then (ixOf ((g :: gs).map fun i => O.dat (.int i)).length 0).bind fun n => (((g :: gs).map fun i => O.dat (.int i))[n]?).map fun x => (x, O.lst (((g :: gs).map fun i => O.dat (.int i)).eraseIdx n)) else none) = _
  rw [if_pos (by decide)]
  have e : ixOf ((g :: gs).map fun i => O.dat (.int i)).length 0 = some 0 := by
    unfold ixOf L2.ixN
    simp
    try omega
  rw [e]
  rfl
theorem j_ins (g : Int) (gs : List Int) (t s : Int) (h : gs.length < sizeLine) : mutAt (mutEv .insert [.dat (.int 0), .dat (.int g)]) [.dat (.str "great")] (jarO gs t s) = some (.dat .none, jarO (g :: gs) t s) := by
  refine j_at ?_
  show (if (gs.map fun i => O.dat (.int i)).length < sizeLine ∧ (0 : Int) ≤ 0 ∧ (0 : Int) < 2 ^ 63 then some (O.dat .none, O.lst ((gs.map fun i => O.dat (.int i)).take (0 : Int).toNat ++ [O.dat (.int g)] ++ (gs.map fun i => O.dat (.int i)).drop (0 : Int).toNat)) else none) = _
  rw [if_pos ⟨by rwa [List.length_map], by decide, by decide⟩]
  simp [oIs]
theorem j_app (g : Int) (gs : List Int) (t s : Int) (h : gs.length < sizeLine) : mutAt (mutEv .append [.dat (.int g)]) [.dat (.str "great")] (jarO gs t s) = some (.dat .none, jarO (gs ++ [g]) t s) := by
  refine j_at ?_
  show (if (gs.map fun i => O.dat (.int i)).length < sizeLine then some (O.dat .none, O.lst ((gs.map fun i => O.dat (.int i)) ++ [O.dat (.int g)])) else none) = _
  rw [if_pos (by rwa [List.length_map])]
  simp [oIs]
theorem j_isL (gs : List Int) : (oIs gs).isList = true := rfl
def jMix (t s : Int) : Int := (s * 40692 + 7919 * (t + 1) + 3) % 4294967291
theorem jDraw_nil (T : Tb) (t s m : Int) (h0 : 0 < m) : evF T jDraw [jarO [] t s, oI m] = some (oI ((jMix t s / 64 + jMix t s) % m), [jarO [] (t + 1) (jMix t s)]) := by
  simp only [evF, jDraw, evS, ev1, ev, evR, evA, evK, List.length, List.map, List.replicate, List.cons_append, List.nil_append, List.append_nil, Ex.quiet, Exs.quiet, Exs.still, Ex.still, Exs.isNil, if_true, bnd_some, fin, Option.bind_some, Option.map_some, O.bool?, h0, List.getElem?_cons_zero, List.getElem?_cons_succ, List.set_cons_zero, List.set_cons_succ, Bool.and_self, Nat.zero_le, reduceCtorEq, if_false, Bool.false_eq_true, truO,
    q_add, q_mulr, q_mull, q_mod, q_fdiv, q_toint, q_neG, j_g, j_t, j_s, j_setT, j_setS, List.isEmpty_nil, Bool.not_true, Int.reduceLT, Int.reduceNeg, and_self, List.getLast?_singleton, List.dropLast_singleton, outsOf, Option.some.injEq, Bool.or_true, Bool.false_or, Bool.or_false, Nat.reduceSub, Nat.reduceAdd]
  rfl
theorem jDraw_cons (T : Tb) (g : Int) (gs : List Int) (t s m : Int) (h0 : 0 < m) (h1 : m < 1073741824) (hl : gs.length < sizeLine) : evF T jDraw [jarO (g :: gs) t s, oI m] = some (oI (g % m), [jarO (if m ≤ g then g / m :: gs else gs) t s]) := by
  have e : (if decide (m ≤ g) = true then (1 : Nat) else 0) = 1 ∨ decide (m ≤ g) = false := by
    by_cases h : m ≤ g <;> simp [h]
  by_cases hm : m ≤ g
  · have hd : decide (m ≤ g) = true := decide_eq_true hm
    rw [if_pos hm]
    simp only [evF, jDraw, evS, ev1, ev, evR, evA, evK, List.length, List.map, List.replicate, List.cons_append, List.nil_append, List.append_nil, Ex.quiet, Exs.quiet, Exs.still, Ex.still, Exs.isNil, if_true, bnd_some, fin, Option.bind_some, Option.map_some, O.bool?, h0, List.getElem?_cons_zero, List.getElem?_cons_succ, List.set_cons_zero, List.set_cons_succ, Bool.and_self, Nat.zero_le, reduceCtorEq, if_false, Bool.false_eq_true, truO, q_add, q_mulr, q_mull, q_mod, q_fdiv, q_toint, q_neG, j_g, j_t, j_s, j_setT, j_setS, List.isEmpty_nil, List.isEmpty_cons, Bool.not_false, Bool.not_true, Int.reduceLT, Int.reduceNeg, and_self, List.getLast?_singleton, List.dropLast_singleton, outsOf, Option.some.injEq, Bool.or_true, Bool.false_or, Bool.or_false, Nat.reduceSub, Nat.reduceAdd, j_pop, j_ins, j_pathIn, j_isL, q_ge, hd, hl, h1]
    try rfl
  · have hd : decide (m ≤ g) = false := decide_eq_false hm
    rw [if_neg hm]
    simp only [evF, jDraw, evS, ev1, ev, evR, evA, evK, List.length, List.map, List.replicate, List.cons_append, List.nil_append, List.append_nil, Ex.quiet, Exs.quiet, Exs.still, Ex.still, Exs.isNil, if_true, bnd_some, fin, Option.bind_some, Option.map_some, O.bool?, h0, List.getElem?_cons_zero, List.getElem?_cons_succ, List.set_cons_zero, List.set_cons_succ, Bool.and_self, Nat.zero_le, reduceCtorEq, if_false, Bool.false_eq_true, truO, q_add, q_mulr, q_mull, q_mod, q_fdiv, q_toint, q_neG, j_g, j_t, j_s, j_setT, j_setS, List.isEmpty_nil, List.isEmpty_cons, Bool.not_false, Bool.not_true, Int.reduceLT, Int.reduceNeg, and_self, List.getLast?_singleton, List.dropLast_singleton, outsOf, Option.some.injEq, Bool.or_true, Bool.false_or, Bool.or_false, Nat.reduceSub, Nat.reduceAdd, j_pop, j_ins, j_pathIn, j_isL, q_ge, hd, hl, h1]
    try rfl
end GB

namespace GB
open PySem PySem.Spec L2

theorem toDs_dat : ∀ ds : List PyData, O.toDs (ds.map O.dat) = ds
  | [] => rfl
  | d :: ds => congrArg (d :: ·) (toDs_dat ds)
theorem jDraw_ok (T : Tb) {o : O} {m : Int} (h : JarOk o) (h0 : 0 < m) (h1 : m < 1073741824) : ∃ r o', JarOk o' ∧ 0 ≤ r ∧ r < m ∧ evF T jDraw [o, oI m] = some (oI r, [o']) := by
  obtain ⟨gs, t, s, rfl, hl, hp⟩ := h.ex
  cases gs with
  | nil => exact ⟨_, _, ⟨[], _, _, rfl, by simp, by simp⟩, Int.emod_nonneg _ (by omega), Int.emod_lt_of_pos _ h0, jDraw_nil T t s m h0⟩
  | cons g gs =>
    have hl2 : gs.length + 1 ≤ 63 := hl
    refine ⟨_, _, ⟨_, t, s, rfl, ?_, ?_⟩, Int.emod_nonneg _ (by omega), Int.emod_lt_of_pos _ h0, jDraw_cons T g gs t s m h0 h1 (Nat.lt_of_le_of_lt (by omega : gs.length ≤ 63) (by decide))⟩
    · split
      · exact hl
      · omega
    · intro x hx
      split at hx
      · rcases List.mem_cons.mp hx with rfl | hx
        · exact Int.ediv_nonneg (hp g (by simp)) (by omega)
        · exact hp x (by simp [hx])
      · exact hp x (by simp [hx])
/-! ### the jar -/
def jCell : Sms := (.cons (.set 1 (.cons (.k (.str "seed")) .nil) (.pr .mod (.cons (.pr .toint (.cons (.pr .add (.cons (.pr .add (.cons (.pr .add (.cons (.pr .mul (.cons (.pr .toint (.cons (.ix (.v 1) (.k (.str "seed"))) .nil)) (.cons (.k (.int 69069)) .nil))) (.cons (.pr .mul (.cons (.k (.int 2)) (.cons (.pr .abs (.cons (.v 2) .nil)) .nil))) .nil))) (.cons (.pr .toint (.cons (.pr .lt (.cons (.v 2) (.cons (.k (.int 0)) .nil))) .nil)) .nil))) (.cons (.k (.int 11)) .nil))) .nil)) (.cons (.k (.int 4294967291)) .nil)))) (.cons (.ife (.pr .ge (.cons (.pr .abs (.cons (.v 2) .nil)) (.cons (.pr .pow (.cons (.k (.int 10)) (.cons (.k (.int 18)) .nil))) .nil))) (.cons (.ex (.mut .append 1 (.cons (.k (.str "great")) .nil) (.cons (.pr .abs (.cons (.v 2) .nil)) .nil))) .nil) .nil) .nil))
def jJar (salt : Int) : Fn := ⟨3, [false], .cons (.asg (.nm 1) (.dic [(.inr "great"), (.inr "turn"), (.inr "seed")] (.cons (.lst .nil) (.cons (.k (.int 0)) (.cons (.pr .add (.cons (.k (.int salt)) (.cons (.pr .len (.cons (.v 0) .nil)) .nil))) .nil))))) (.cons (.for_ (.nm 2) .seq (.cons (.pr (.slc false true) (.cons (.v 0) (.cons (.k (.int 63)) .nil))) .nil) jCell) (.cons (.retv 1) .nil))⟩
theorem j_setS1 (gs : List Int) (t s u : Int) : mutAt (mutEv .set [.dat (.str "seed"), .dat (.int u)]) [] (jarO gs t s) = some (.dat .none, jarO gs t u) := rfl
theorem q_10_18 : primEv .pow [.dat (.int 10), .dat (.int 18)] = some (.dat (.int 1000000000000000000)) := by
  rw [q_pow 10 18 (by decide)]
  rfl
theorem jCell_ok (T : Tb) (d : O) (gs : List Int) (t s n : Int) (hl : gs.length < 63) (hp : ∀ g ∈ gs, 0 ≤ g) : ∃ gs' s', gs'.length ≤ gs.length + 1 ∧ (∀ g ∈ gs', 0 ≤ g) ∧ evS T jCell [some d, some (jarO gs t s), some (.dat (.int n))] = some (.nx, [some d, some (jarO gs' t s'), some (.dat (.int n))]) := by
  have hs : gs.length < sizeLine := Nat.lt_of_lt_of_le hl (by decide)
  by_cases hg : 1000000000000000000 ≤ (if n < 0 then -n else n)
  · have hd : decide (1000000000000000000 ≤ (if n < 0 then -n else n)) = true := decide_eq_true hg
    refine ⟨gs ++ [if n < 0 then -n else n], (s * 69069 + 2 * (if n < 0 then -n else n) + (if decide (n < 0) = true then 1 else 0) + 11) % 4294967291, by simp, ?_, ?_⟩
    · intro g h
      rcases List.mem_append.mp h with h | h
      · exact hp g h
      · rw [List.mem_singleton.mp h]; split <;> omega
    · simp only [jCell, evS, ev1, ev, evR, evA, evK, evO, evC, List.length, List.map, List.replicate, List.cons_append, List.nil_append, List.append_nil, Ex.quiet, Exs.quiet, Exs.still, Ex.still, Exs.isNil, if_true, bnd_some, fin, Option.bind_some, Option.map_some, O.bool?, List.getElem?_cons_zero, List.getElem?_cons_succ, List.set_cons_zero, List.set_cons_succ, Bool.and_self, Nat.zero_le, reduceCtorEq, if_false, Bool.false_eq_true, truO, q_add, q_mulr, q_mull, q_mod, q_fdiv, q_toint, q_tointb, q_abs, q_ge, q_lt, q_neG, j_g, j_t, j_s, j_setT, j_setS, j_setS1, j_pathIn, j_pathIn1, j_isL, List.isEmpty_nil, List.isEmpty_cons, Bool.not_false, Bool.not_true, Int.reduceLT, Int.reduceLE, Int.reduceNeg, Int.reducePow, and_self, List.getLast?_singleton, List.dropLast_singleton, outsOf, Option.some.injEq, Bool.or_true, Bool.false_or, Bool.or_false, Nat.reduceSub, Nat.reduceAdd, tgEv, q_10_18, hd, j_app, hs]
      try rfl
  · have hd : decide (1000000000000000000 ≤ (if n < 0 then -n else n)) = false := decide_eq_false hg
    refine ⟨gs, (s * 69069 + 2 * (if n < 0 then -n else n) + (if decide (n < 0) = true then 1 else 0) + 11) % 4294967291, by simp, hp, ?_⟩
    simp only [jCell, evS, ev1, ev, evR, evA, evK, evO, evC, List.length, List.map, List.replicate, List.cons_append, List.nil_append, List.append_nil, Ex.quiet, Exs.quiet, Exs.still, Ex.still, Exs.isNil, if_true, bnd_some, fin, Option.bind_some, Option.map_some, O.bool?, List.getElem?_cons_zero, List.getElem?_cons_succ, List.set_cons_zero, List.set_cons_succ, Bool.and_self, Nat.zero_le, reduceCtorEq, if_false, Bool.false_eq_true, truO, q_add, q_mulr, q_mull, q_mod, q_fdiv, q_toint, q_tointb, q_abs, q_ge, q_lt, q_neG, j_g, j_t, j_s, j_setT, j_setS, j_setS1, j_pathIn, j_pathIn1, j_isL, List.isEmpty_nil, List.isEmpty_cons, Bool.not_false, Bool.not_true, Int.reduceLT, Int.reduceLE, Int.reduceNeg, Int.reducePow, and_self, List.getLast?_singleton, List.dropLast_singleton, outsOf, Option.some.injEq, Bool.or_true, Bool.false_or, Bool.or_false, Nat.reduceSub, Nat.reduceAdd, tgEv, q_10_18, hd, j_app, hs]
    try rfl
theorem jLoop_ok (T : Tb) (d : O) (t : Int) : ∀ (ns gs : List Int) (s : Int) (c : Option O), gs.length + ns.length ≤ 63 → (∀ g ∈ gs, 0 ≤ g) → ∃ gs' s' c', gs'.length ≤ 63 ∧ (∀ g ∈ gs', 0 ≤ g) ∧ forL (fun x t2 => (tgEv (.nm 2) x t2).bind fun t3 => evS T jCell t3) (ns.map .int) [some d, some (jarO gs t s), c] = some (.nx, [some d, some (jarO gs' t s'), c'])
  | [], gs, s, c, hl, hp => ⟨gs, s, c, by simpa using hl, hp, rfl⟩
  | n :: ns, gs, s, c, hl, hp => by
    simp only [List.length_cons] at hl
    obtain ⟨gs1, s1, l1, p1, e1⟩ := jCell_ok T d gs t s n (by omega) hp
    obtain ⟨gs2, s2, c2, l2, p2, e2⟩ := jLoop_ok T d t ns gs1 s1 (some (.dat (.int n))) (by omega) p1
    refine ⟨gs2, s2, c2, l2, p2, ?_⟩
    simp only [List.map_cons, forL, tgEv, Option.bind_some, List.set_cons_succ, List.set_cons_zero]
    rw [e1, bnd_some]
    exact e2
theorem cut63 (ns : List Int) : ∃ ms : List Int, ms.length ≤ 63 ∧ cutL (ns.map PyData.int) none (some 63) = ms.map PyData.int := by
  refine ⟨(ns.drop (HT.sIx (ns.map PyData.int).length 0 none)).take (HT.sIx (ns.map PyData.int).length (ns.map PyData.int).length (some 63) - HT.sIx (ns.map PyData.int).length 0 none), ?_, ?_⟩
  · refine Nat.le_trans (List.length_take_le _ _) (Nat.le_trans (Nat.sub_le _ _) ?_)
    show HT.sIx _ _ (some ((63 : Nat) : Int)) ≤ 63
    rw [HT.sIx_nat]
    exact Nat.min_le_left _ _
  · unfold cutL
    rw [List.map_take, List.map_drop]
theorem jJar_ok (T : Tb) (salt : Int) (ns : List Int) : ∃ o, JarOk o ∧ evF T (jJar salt) [.dat (.list (ns.map .int))] = some (o, []) := by
  obtain ⟨ms, lm, em⟩ := cut63 ns
  obtain ⟨gs, s, c, l, p, e⟩ := jLoop_ok T (.dat (.list (ns.map .int))) 0 ms [] (salt + (ns.map PyData.int).length) none (by simpa using lm) (by simp)
  refine ⟨jarO gs 0 s, ⟨gs, 0, s, rfl, l, p⟩, ?_⟩
  have h1 : ev1 T (.asg (.nm 1) (.dic [(.inr "great"), (.inr "turn"), (.inr "seed")] (.cons (.lst .nil) (.cons (.k (.int 0)) (.cons (.pr .add (.cons (.k (.int salt)) (.cons (.pr .len (.cons (.v 0) .nil)) .nil))) .nil))))) [some (.dat (.list (ns.map .int))), none, none] = some (.nx, [some (.dat (.list (ns.map .int))), some (jarO [] 0 (salt + (ns.map PyData.int).length)), none]) := rfl
  have h2 : ev1 T (.for_ (.nm 2) .seq (.cons (.pr (.slc false true) (.cons (.v 0) (.cons (.k (.int 63)) .nil))) .nil) jCell) [some (.dat (.list (ns.map .int))), some (jarO [] 0 (salt + (ns.map PyData.int).length)), none] = some (.nx, [some (.dat (.list (ns.map .int))), some (jarO gs 0 s), c]) := by
    refine Eq.trans (b := forL (fun x t2 => (tgEv (.nm 2) x t2).bind fun t3 => evS T jCell t3) (O.toDs ((cutL (ns.map PyData.int) none (some 63)).map O.dat)) [some (.dat (.list (ns.map .int))), some (jarO [] 0 (salt + (ns.map PyData.int).length)), none]) rfl ?_
    rw [toDs_dat, em]
    exact e
  show (match evS T (jJar salt).body [some (.dat (.list (ns.map .int))), none, none] with
    | some (.rt o, t) => (outsOf [false] t).map (o, ·)
    | some (.nx, t) => (outsOf [false] t).map (.dat .none, ·)
    | _ => none) = _
  have h3 : evS T (jJar salt).body [some (.dat (.list (ns.map .int))), none, none] = some (.rt (jarO gs 0 s), [some (.dat (.list (ns.map .int))), none, c]) := by
    unfold jJar
    simp only [evS]
    rw [h1, bnd_some]
    dsimp only
    rw [h2]
    rfl
  rw [h3]
  rfl
/-! ### the same things in a drawn order -/
def jMixed : Fn := ⟨4, [true, false], (.cons (.par [2, 3] (.cons (.pr .tolist (.cons (.v 1) .nil)) (.cons (.lst .nil) .nil))) (.cons (.whl (.pr .ne (.cons (.v 2) (.cons (.lst .nil) .nil))) (.cons (.ex (.mut .append 3 .nil (.cons (.mut .pop1 2 .nil (.cons (.call "_law_draw" [true, false] (.cons (.v 0) (.cons (.pr .len (.cons (.v 2) .nil)) .nil))) .nil)) .nil))) .nil)) (.cons (.retv 3) .nil)))⟩
theorem mapM_datJ : ∀ ds : List PyData, (ds.map O.dat).mapM O.dat? = some ds
  | [] => rfl
  | d :: ds => by
    rw [List.map_cons, List.mapM_cons, mapM_datJ ds]
    rfl
theorem q_neL (ds : List PyData) (h : PyData.plainAll ds = true) : primEv .ne [.lst (ds.map O.dat), .lst []] = some (.dat (.bool (!ds.isEmpty))) := by
  show (eqEv (.list (O.toDs (ds.map O.dat))) (.list [])).map (fun c => oB (!c)) = _
  rw [toDs_dat]
  have h : eqOk (.list ds) (.list []) = true := by
    simp only [eqOk, PyData.plain, h, Bool.and_eq_true, decide_eq_true_eq]
    exact ⟨⟨trivial, rfl⟩, Nat.le_trans (Nat.min_le_right _ _) (by decide)⟩
  unfold eqEv
  rw [if_pos h]
  cases ds <;> rfl
theorem plainAll_mem {ds : List PyData} : PyData.plainAll ds = true ↔ ∀ d ∈ ds, d.plain = true := by
  induction ds with
  | nil => simp [PyData.plainAll]
  | cons d ds ih => simp [PyData.plainAll, ih]
theorem q_len (os : List O) : primEv .len [.lst os] = some (.dat (.int (os.length : Nat))) := rfl
theorem erase_map : ∀ (ds : List PyData) (n : Nat), (ds.map O.dat).eraseIdx n = (ds.eraseIdx n).map O.dat
  | [], _ => rfl
  | d :: ds, 0 => rfl
  | d :: ds, n + 1 => congrArg (O.dat d :: ·) (erase_map ds n)
theorem m_popd (ds : List PyData) (r : Int) (h0 : 0 ≤ r) (h1 : r < ds.length) (hl : ds.length ≤ sizeLine) : ∃ x, ds[r.toNat]? = some x ∧ mutAt (mutEv .pop1 [.dat (.int r)]) [] (.lst (ds.map O.dat)) = some (.dat x, .lst ((ds.eraseIdx r.toNat).map O.dat)) := by
  have hlt : r.toNat < ds.length := by omega
  refine ⟨ds[r.toNat], List.getElem?_eq_getElem hlt, ?_⟩
  have hz : sizeLine < 2 ^ 62 := by decide
  have e : ixOf (ds.map O.dat).length r = some r.toNat := by
    rw [List.length_map]
    unfold ixOf L2.ixN
    rw [if_pos h0, if_pos h1]
  have e2 : mutEv .pop1 [.dat (.int r)] (.lst (ds.map O.dat)) = some (.dat ds[r.toNat], .lst ((ds.eraseIdx r.toNat).map O.dat)) := by
    show (if -(2 ^ 63) ≤ r ∧ r < 2 ^ 63 then (ixOf (ds.map O.dat).length r).bind fun n => ((ds.map O.dat)[n]?).map fun x => (x, O.lst ((ds.map O.dat).eraseIdx n)) else none) = _
    rw [if_pos ⟨by omega, by omega⟩, e, Option.bind_some, List.getElem?_map, List.getElem?_eq_getElem hlt]
    simp only [Option.map_some]
    rw [erase_map]
  show (mutEv .pop1 [.dat (.int r)] (.lst (ds.map O.dat))).bind (fun p => (some p.2).map fun z => (p.1, z)) = _
  rw [e2]
  rfl
theorem m_app (os : List O) (x : O) (h : os.length < sizeLine) : mutAt (mutEv .append [x]) [] (.lst os) = some (.dat .none, .lst (os ++ [x])) := by
  show ((if os.length < sizeLine then some (O.dat .none, O.lst (os ++ [x])) else none).bind fun p => (some p.2).map fun z => (p.1, z)) = _
  rw [if_pos h]
  rfl
theorem toD_dat (d : PyData) : (O.dat d).toD = d := rfl
def mCond : Ex :=  (.pr .ne (.cons (.v 2) (.cons (.lst .nil) .nil)))
def mBody : Sms := (.cons (.ex (.mut .append 3 .nil (.cons (.mut .pop1 2 .nil (.cons (.call "_law_draw" [true, false] (.cons (.v 0) (.cons (.pr .len (.cons (.v 2) .nil)) .nil))) .nil)) .nil))) .nil)
theorem mStep (T T2 : Tb) (hT : T.ap "_law_draw" = evF T2 jDraw) {o : O} (ho : JarOk o) (a : Option O) (ds es : List PyData) (hp : PyData.plainAll ds = true) (hn : ds ≠ []) (hl : ds.length ≤ 1000000) (he : es.length < sizeLine) :
    ∃ x r o', JarOk o' ∧ ds[r]? = some x ∧ (∃ t1, ev T .tst mCond [some o, a, some (.lst (ds.map O.dat)), some (.lst (es.map O.dat))] = some (oB true, t1) ∧ t1 = [some o, a, some (.lst (ds.map O.dat)), some (.lst (es.map O.dat))]) ∧ evS T mBody [some o, a, some (.lst (ds.map O.dat)), some (.lst (es.map O.dat))] = some (.nx, [some o', a, some (.lst ((ds.eraseIdx r).map O.dat)), some (.lst ((es ++ [x]).map O.dat))]) := by
  have hpos : 0 < ds.length := List.length_pos_iff.mpr hn
  obtain ⟨r, o', jo, h0, h1, e⟩ := jDraw_ok T2 (m := (ds.length : Nat)) ho (by omega) (by omega)
  have hs : ds.length ≤ sizeLine := Nat.le_trans hl (by decide)
  obtain ⟨x, ex, em⟩ := m_popd ds r h0 h1 hs
  refine ⟨x, r.toNat, o', jo, ex, ⟨_, ?_, rfl⟩, ?_⟩
  · have hne : ds.isEmpty = false := by cases ds <;> simp at hn ⊢
    simp only [mCond, evS, ev1, ev, evR, evA, evK, evO, evC, List.length, List.map, List.replicate, List.cons_append, List.nil_append, List.append_nil, Ex.quiet, Exs.quiet, Exs.still, Ex.still, Exs.isNil, if_true, bnd_some, fin, Option.bind_some, Option.map_some, O.bool?, List.getElem?_cons_zero, List.getElem?_cons_succ, List.set_cons_zero, List.set_cons_succ, Bool.and_self, Nat.zero_le, reduceCtorEq, if_false, Bool.false_eq_true, truO, q_add, q_mulr, q_mull, q_mod, q_fdiv, q_toint, q_tointb, q_abs, q_ge, q_lt, q_neG, j_g, j_t, j_s, j_setT, j_setS, j_setS1, j_pathIn, j_pathIn1, j_isL, List.isEmpty_nil, List.isEmpty_cons, Bool.not_false, Bool.not_true, Int.reduceLT, Int.reduceLE, Int.reduceNeg, Int.reducePow, and_self, List.getLast?_singleton, List.dropLast_singleton, outsOf, Option.some.injEq, Bool.or_true, Bool.false_or, Bool.or_false, Nat.reduceSub, Nat.reduceAdd, tgEv, q_neL ds hp, hne]
    try rfl
  · have e3 : T.ap "_law_draw" [o, oI (ds.map O.dat).length] = some (oI r, [o']) := by
      rw [hT, List.length_map]; exact e
    have e4 : mutAt (mutEv .append [.dat x]) [] (.lst (es.map O.dat)) = some (.dat .none, .lst ((es ++ [x]).map O.dat)) := by
      rw [m_app _ _ (by rwa [List.length_map])]
      simp
    simp only [mBody, evS, ev1, ev, evR, evA, evK, evO, evC, List.length, List.map, List.replicate, List.cons_append, List.nil_append, List.append_nil, Ex.quiet, Exs.quiet, Exs.still, Ex.still, Exs.isNil, if_true, bnd_some, fin, Option.bind_some, Option.map_some, O.bool?, List.getElem?_cons_zero, List.getElem?_cons_succ, List.set_cons_zero, List.set_cons_succ, Bool.and_self, Nat.zero_le, reduceCtorEq, if_false, Bool.false_eq_true, truO, q_add, q_mulr, q_mull, q_mod, q_fdiv, q_toint, q_tointb, q_abs, q_ge, q_lt, q_neG, j_g, j_t, j_s, j_setT, j_setS, j_setS1, j_pathIn, j_pathIn1, j_isL, List.isEmpty_nil, List.isEmpty_cons, Bool.not_false, Bool.not_true, Int.reduceLT, Int.reduceLE, Int.reduceNeg, Int.reducePow, and_self, List.getLast?_singleton, List.dropLast_singleton, outsOf, Option.some.injEq, Bool.or_true, Bool.false_or, Bool.or_false, Nat.reduceSub, Nat.reduceAdd, tgEv, ioIn, ioOut, Ex.nm?, pathIn, pathO, O.isList, Nat.le_refl, q_len, toD_dat, e3, em, e4, Bool.true_or]
    try rfl
theorem erase_perm : ∀ (ds : List PyData) (r : Nat) (h : r < ds.length), ([ds[r]] ++ ds.eraseIdx r).Perm ds
  | d :: ds, 0, _ => .refl _
  | d :: ds, r + 1, h => (List.Perm.swap d _ _).trans ((erase_perm ds r (Nat.lt_of_succ_lt_succ h)).cons d)
theorem mLoop (T T2 : Tb) (hT : T.ap "_law_draw" = evF T2 jDraw) (a : Option O) : ∀ (n : Nat) (o : O) (ds es : List PyData), JarOk o → PyData.plainAll ds = true → ds.length + es.length ≤ 1000000 → ds.length < n →
    ∃ (o' : O) (fs : List PyData), JarOk o' ∧ fs.Perm (es ++ ds) ∧ whl (fun t => ev T .tst mCond t) (fun t => evS T mBody t) n [some o, a, some (.lst (ds.map O.dat)), some (.lst (es.map O.dat))] = some (.nx, [some o', a, some (.lst []), some (.lst (fs.map O.dat))])
  | 0, _, ds, _, _, _, _, hn => absurd hn (Nat.not_lt_zero _)
  | n + 1, o, ds, es, ho, hp, hl, hn => by
    by_cases hd : ds = []
    · subst hd
      refine ⟨o, es, ho, by simp, ?_⟩
      have e : ev T .tst mCond [some o, a, some (.lst (([] : List PyData).map O.dat)), some (.lst (es.map O.dat))] = some (oB false, [some o, a, some (.lst []), some (.lst (es.map O.dat))]) := by
        have q := q_neL [] rfl
        simp only [mCond, List.isEmpty_nil, Bool.not_true] at q ⊢
        rfl
      show bnd (ev T .tst mCond _) _ = _
      rw [e, bnd_some]
      rfl
    · obtain ⟨x, r, o1, jo, ex, ⟨t1, e1, rfl⟩, e2⟩ := mStep T T2 hT ho a ds es hp hd (by omega) (Nat.lt_of_le_of_lt (by omega : es.length ≤ 1000000) (by decide))
      have hr : r < ds.length := (List.getElem?_eq_some_iff.mp ex).1
      have le : (ds.eraseIdx r).length = ds.length - 1 := by rw [List.length_eraseIdx]; simp [hr]
      have hpos : 0 < ds.length := List.length_pos_iff.mpr hd
      obtain ⟨o2, fs, jo2, pf, e3⟩ := mLoop T T2 hT a n o1 (ds.eraseIdx r) (es ++ [x]) jo (plainAll_mem.mpr fun d h => plainAll_mem.mp hp d ((List.eraseIdx_subset) h)) (by rw [le, List.length_append, List.length_singleton]; omega) (by omega)
      refine ⟨o2, fs, jo2, ?_, ?_⟩
      · refine pf.trans ?_
        rw [List.append_assoc]
        refine List.Perm.append_left es ?_
        have : ds[r] = x := (List.getElem?_eq_some_iff.mp ex).2
        rw [← this]
        exact erase_perm ds r hr
      · show bnd (ev T .tst mCond _) _ = _
        rw [e1, bnd_some]
        show bnd (evS T mBody _) _ = _
        rw [e2, bnd_some]
        exact e3
theorem jMixed_ok (T T2 : Tb) (hT : T.ap "_law_draw" = evF T2 jDraw) {o : O} (ho : JarOk o) (ds : List PyData) (hp : PyData.plainAll ds = true) (hl : ds.length ≤ 1000000) :
    ∃ (o' : O) (fs : List PyData), JarOk o' ∧ fs.Perm ds ∧ evF T jMixed [o, .dat (.list ds)] = some (.lst (fs.map O.dat), [o']) := by
  obtain ⟨o', fs, jo, pf, e⟩ := mLoop T T2 hT (some (.dat (.list ds))) fuel o ds [] ho hp (by simpa using hl) (Nat.lt_of_le_of_lt hl (by decide))
  refine ⟨o', fs, jo, pf, ?_⟩
  have h1 : ev1 T (.par [2, 3] (.cons (.pr .tolist (.cons (.v 1) .nil)) (.cons (.lst .nil) .nil))) [some o, some (.dat (.list ds)), none, none] = some (.nx, [some o, some (.dat (.list ds)), some (.lst (ds.map O.dat)), some (.lst [])]) := rfl
  have h2 : ev1 T (.whl mCond mBody) [some o, some (.dat (.list ds)), some (.lst (ds.map O.dat)), some (.lst [])] = some (.nx, [some o', some (.dat (.list ds)), some (.lst []), some (.lst (fs.map O.dat))]) := e
  have h3 : evS T jMixed.body [some o, some (.dat (.list ds)), none, none] = some (.rt (.lst (fs.map O.dat)), [some o', some (.dat (.list ds)), some (.lst []), none]) := by
    show evS T (.cons (.par [2, 3] (.cons (.pr .tolist (.cons (.v 1) .nil)) (.cons (.lst .nil) .nil))) (.cons (.whl mCond mBody) (.cons (.retv 3) .nil))) _ = _
    simp only [evS]
    rw [h1, bnd_some]
    dsimp only
    rw [h2]
    rfl
  show (match evS T jMixed.body [some o, some (.dat (.list ds)), none, none] with
    | some (.rt o, t) => (outsOf [true, false] t).map (o, ·)
    | some (.nx, t) => (outsOf [true, false] t).map (.dat .none, ·)
    | _ => none) = _
  rw [h3]
  rfl
end GB

namespace GB.K13
open PySem PySem.Spec PyProof.Rows L2 GB
abbrev top (i : Nat) : Stmt := PySem.Challenge.pw_guardbooks_k13_whole_known_books.main.body.getD i (.Pass ⟨0, 0, 0, 0⟩)
def d__law_jar : DS := ⟨"_law_jar", top 24, ["script", "jar", "cell"], ["script"], [false], []⟩
def d__law_draw : DS := ⟨"_law_draw", top 25, ["jar", "many", "mixed", "first"], ["jar", "many"], [true, false], []⟩
def d__law_mixed : DS := ⟨"_law_mixed", top 26, ["jar", "some", "rest", "found"], ["jar", "some"], [true, false], []⟩
def d__law_put : DS := ⟨"_law_put", top 27, ["guards", "shaded", "makes", "last", "pieces", "writes"], ["guards", "shaded", "makes", "last", "pieces"], [false, false, false, false, false], []⟩
def d__law_known : DS := ⟨"_law_known", top 30, ["name", "pieces", "word", "spent", "old", "bare", "ahead"], ["name", "pieces"], [false, false], []⟩
def d_hybrid : DS := ⟨"hybrid", top 22, ["pieces", "unlooked"], ["pieces"], [false], [(0, ["pieces"])]⟩
def d_guards_of_scanned : DS := ⟨"guards_of_scanned", top 17, ["pieces", "word"], ["pieces", "word"], [false, false], []⟩
def d_dijkstra : DS := ⟨"dijkstra", top 18, ["pieces", "guards"], ["pieces"], [false], [(0, ["pieces"])]⟩
def d_steele : DS := ⟨"steele", top 19, ["pieces", "guards"], ["pieces"], [false], [(0, ["pieces"])]⟩
def d_yuasa : DS := ⟨"yuasa", top 20, ["pieces"], ["pieces"], [false], [(0, ["pieces"])]⟩
def d_baker : DS := ⟨"baker", top 21, ["pieces", "reads"], ["pieces"], [false], [(0, ["pieces"])]⟩
def d__law_told : DS := ⟨"_law_told", top 31, ["name", "pieces", "is_named"], ["name", "pieces", "is_named"], [false, false, false], []⟩
def d_is_guard : DS := ⟨"is_guard", top 8, ["value", "one", "other", "word"], ["value"], [false], []⟩
def d_table_error : DS := ⟨"table_error", top 11, ["value", "phase", "row", "colour", "guard", "is_shaded"], ["value"], [false], []⟩
def d_is_table : DS := ⟨"is_table", top 9, ["value", "row"], ["value"], [false], []⟩
def d_has_form : DS := ⟨"has_form", top 10, ["value"], ["value"], [false], []⟩
def d_book_error : DS := ⟨"book_error", top 12, ["value", "error", "phase", "colour"], ["value"], [false], []⟩
def d_has_entry : DS := ⟨"has_entry", top 13, ["book", "entry"], ["book", "entry"], [false, false], []⟩
def d_entries : DS := ⟨"entries", top 14, ["book", "entry"], ["book"], [false], []⟩
def d__law_all : DS := ⟨"_law_all", top 28, ["found", "phase", "colour", "word"], [], [], []⟩
def d__law_has : DS := ⟨"_law_has", top 29, ["book", "entry"], ["book", "entry"], [false, false], []⟩
def d_law : DS := ⟨"law", top 32, ["script", "jar", "calls", "heard", "name", "pieces", "is_named", "due", "told", "text", "entry"], ["script"], [false], []⟩
def ds : List DS := [d__law_jar, d__law_draw, d__law_mixed, d__law_put, d__law_known, d_hybrid, d_guards_of_scanned, d_dijkstra, d_steele, d_yuasa, d_baker, d__law_told, d_is_guard, d_table_error, d_is_table, d_has_form, d_book_error, d_has_entry, d_entries, d__law_all, d__law_has, d_law]
def gcs : List (Str × PyData) := [("NOTHING_READ", .tuple [.tuple [.bool false, .bool false, .bool false], .tuple [.bool false, .bool false, .bool false]]), ("BOTH_WHITE", .tuple [.str "white", .str "white"]), ("NO_GUARDS", .tuple [.tuple [], .tuple [], .tuple []]), ("WORDS", .tuple [.str "again", .str "new", .str "old"]), ("COLOURS", .tuple [.str "white", .str "grey", .str "black"]), ("LAST_PART", .int 3), ("PIECES_PART", .int 4), ("ALL_ENTRIES", .tuple [.tuple [.str "last"], .tuple [.str "make", .int 0], .tuple [.str "make", .int 1], .tuple [.str "read", .int 0, .int 0], .tuple [.str "read", .int 0, .int 1], .tuple [.str "read", .int 0, .int 2], .tuple [.str "read", .int 1, .int 0], .tuple [.str "read", .int 1, .int 1], .tuple [.str "read", .int 1, .int 2], .tuple [.str "write", .int 0, .int 0, .str "again"], .tuple [.str "write", .int 0, .int 0, .str "new"], .tuple [.str "write", .int 0, .int 0, .str "old"], .tuple [.str "write", .int 0, .int 1, .str "again"], .tuple [.str "write", .int 0, .int 1, .str "new"], .tuple [.str "write", .int 0, .int 1, .str "old"], .tuple [.str "write", .int 0, .int 2, .str "again"], .tuple [.str "write", .int 0, .int 2, .str "new"], .tuple [.str "write", .int 0, .int 2, .str "old"], .tuple [.str "write", .int 1, .int 0, .str "again"], .tuple [.str "write", .int 1, .int 0, .str "new"], .tuple [.str "write", .int 1, .int 0, .str "old"], .tuple [.str "write", .int 1, .int 1, .str "again"], .tuple [.str "write", .int 1, .int 1, .str "new"], .tuple [.str "write", .int 1, .int 1, .str "old"], .tuple [.str "write", .int 1, .int 2, .str "again"], .tuple [.str "write", .int 1, .int 2, .str "new"], .tuple [.str "write", .int 1, .int 2, .str "old"]])]
/- ['script', 'jar', 'cell'] [False] -/
def b_law_jar : Sms := (.cons (.asg (.nm 1) (.dic [(.inr "great"), (.inr "turn"), (.inr "seed")] (.cons (.lst .nil) (.cons (.k (.int 0)) (.cons (.pr .add (.cons (.k (.int 150286)) (.cons (.pr .len (.cons (.v 0) .nil)) .nil))) .nil))))) (.cons (.for_ (.nm 2) .seq (.cons (.pr (.slc false true) (.cons (.v 0) (.cons (.k (.int 63)) .nil))) .nil) (.cons (.set 1 (.cons (.k (.str "seed")) .nil) (.pr .mod (.cons (.pr .toint (.cons (.pr .add (.cons (.pr .add (.cons (.pr .add (.cons (.pr .mul (.cons (.pr .toint (.cons (.ix (.v 1) (.k (.str "seed"))) .nil)) (.cons (.k (.int 69069)) .nil))) (.cons (.pr .mul (.cons (.k (.int 2)) (.cons (.pr .abs (.cons (.v 2) .nil)) .nil))) .nil))) (.cons (.pr .toint (.cons (.pr .lt (.cons (.v 2) (.cons (.k (.int 0)) .nil))) .nil)) .nil))) (.cons (.k (.int 11)) .nil))) .nil)) (.cons (.k (.int 4294967291)) .nil)))) (.cons (.ife (.pr .ge (.cons (.pr .abs (.cons (.v 2) .nil)) (.cons (.pr .pow (.cons (.k (.int 10)) (.cons (.k (.int 18)) .nil))) .nil))) (.cons (.ex (.mut .append 1 (.cons (.k (.str "great")) .nil) (.cons (.pr .abs (.cons (.v 2) .nil)) .nil))) .nil) .nil) .nil))) (.cons (.retv 1) .nil)))
def f_law_jar : Fn := ⟨3, [false], b_law_jar⟩
/- ['jar', 'many', 'mixed', 'first'] [True, False] -/
def b_law_draw : Sms := (.cons (.ife (.pr .ne (.cons (.ix (.v 0) (.k (.str "great"))) (.cons (.lst .nil) .nil))) (.cons (.asg (.nm 3) (.mut .pop1 0 (.cons (.k (.str "great")) .nil) (.cons (.k (.int 0)) .nil))) (.cons (.ife (.pr .ge (.cons (.v 3) (.cons (.v 1) .nil))) (.cons (.ex (.mut .insert 0 (.cons (.k (.str "great")) .nil) (.cons (.k (.int 0)) (.cons (.pr .fdiv (.cons (.v 3) (.cons (.v 1) .nil))) .nil)))) .nil) .nil) (.cons (.ret (.pr .mod (.cons (.pr .toint (.cons (.v 3) .nil)) (.cons (.v 1) .nil)))) .nil))) .nil) (.cons (.set 0 (.cons (.k (.str "turn")) .nil) (.pr .add (.cons (.ix (.v 0) (.k (.str "turn"))) (.cons (.k (.int 1)) .nil)))) (.cons (.asg (.nm 2) (.pr .mod (.cons (.pr .toint (.cons (.pr .add (.cons (.pr .add (.cons (.pr .mul (.cons (.pr .toint (.cons (.ix (.v 0) (.k (.str "seed"))) .nil)) (.cons (.k (.int 40692)) .nil))) (.cons (.pr .mul (.cons (.k (.int 7919)) (.cons (.ix (.v 0) (.k (.str "turn"))) .nil))) .nil))) (.cons (.k (.int 3)) .nil))) .nil)) (.cons (.k (.int 4294967291)) .nil)))) (.cons (.set 0 (.cons (.k (.str "seed")) .nil) (.v 2)) (.cons (.ret (.pr .mod (.cons (.pr .toint (.cons (.pr .add (.cons (.pr .fdiv (.cons (.v 2) (.cons (.k (.int 64)) .nil))) (.cons (.v 2) .nil))) .nil)) (.cons (.v 1) .nil)))) .nil)))))
def f_law_draw : Fn := ⟨4, [true, false], b_law_draw⟩
/- ['jar', 'some', 'rest', 'found'] [True, False] -/
def b_law_mixed : Sms := (.cons (.par [2, 3] (.cons (.pr .tolist (.cons (.v 1) .nil)) (.cons (.lst .nil) .nil))) (.cons (.whl (.pr .ne (.cons (.v 2) (.cons (.lst .nil) .nil))) (.cons (.ex (.mut .append 3 .nil (.cons (.mut .pop1 2 .nil (.cons (.call "_law_draw" [true, false] (.cons (.v 0) (.cons (.pr .len (.cons (.v 2) .nil)) .nil))) .nil)) .nil))) .nil)) (.cons (.retv 3) .nil)))
def f_law_mixed : Fn := ⟨4, [true, false], b_law_mixed⟩
/- ['guards', 'shaded', 'makes', 'last', 'pieces', 'writes'] [False, False, False, False, False] -/
def b_law_put : Sms := (.cons (.asg (.nm 5) (.tup (.cons (.pr .totuple (.cons (.pr (.slc false true) (.cons (.v 0) (.cons (.k (.int 3)) .nil))) .nil)) (.cons (.pr .totuple (.cons (.pr (.slc true false) (.cons (.v 0) (.cons (.k (.int 3)) .nil))) .nil)) .nil)))) (.cons (.ret (.tup (.cons (.v 5) (.cons (.tup (.cons (.pr .totuple (.cons (.pr (.slc false true) (.cons (.v 1) (.cons (.k (.int 3)) .nil))) .nil)) (.cons (.pr .totuple (.cons (.pr (.slc true false) (.cons (.v 1) (.cons (.k (.int 3)) .nil))) .nil)) .nil))) (.cons (.pr .totuple (.cons (.v 2) .nil)) (.cons (.v 3) (.cons (.v 4) .nil))))))) .nil))
def f_law_put : Fn := ⟨6, [false, false, false, false, false], b_law_put⟩
/- ['name', 'pieces', 'word', 'spent', 'old', 'bare', 'ahead'] [False, False] -/
def b_law_known : Sms := (.cons (.asg (.nm 2) (.ife (.pr .eq (.cons (.v 0) (.cons (.k (.str "steele")) .nil))) (.k (.str "again")) (.k (.str "new")))) (.cons (.asg (.nm 3) (.lst (.cons (.tup .nil) (.cons (.ife (.v 1) (.tup (.cons (.v 2) .nil)) (.tup .nil)) (.cons (.tup (.cons (.v 2) .nil)) .nil))))) (.cons (.par [4, 5] (.cons (.tup (.cons (.k (.str "old")) .nil)) (.cons (.lst (.cons (.tup .nil) (.cons (.tup .nil) (.cons (.tup .nil) .nil)))) .nil))) (.cons (.ife (.pr .isin (.cons (.v 0) (.cons (.tup (.cons (.k (.str "dijkstra")) (.cons (.k (.str "steele")) .nil))) .nil))) (.cons (.ret (.call "_law_put" [false, false, false, false, false] (.cons (.pr .add (.cons (.v 3) (.cons (.v 3) .nil))) (.cons (.pr .mul (.cons (.lst (.cons (.k (.bool false)) .nil)) (.cons (.k (.int 6)) .nil))) (.cons (.lst (.cons (.k (.str "white")) (.cons (.k (.str "white")) .nil))) (.cons (.k (.bool true)) (.cons (.v 1) .nil))))))) .nil) .nil) (.cons (.ife (.pr .eq (.cons (.v 0) (.cons (.k (.str "yuasa")) .nil))) (.cons (.ret (.call "_law_put" [false, false, false, false, false] (.cons (.pr .add (.cons (.v 5) (.cons (.lst (.cons (.v 4) (.cons (.v 4) (.cons (.v 4) .nil)))) .nil))) (.cons (.pr .mul (.cons (.lst (.cons (.k (.bool false)) .nil)) (.cons (.k (.int 6)) .nil))) (.cons (.lst (.cons (.k (.str "white")) (.cons (.k (.str "black")) .nil))) (.cons (.k (.bool false)) (.cons (.v 1) .nil))))))) .nil) .nil) (.cons (.ife (.pr .eq (.cons (.v 0) (.cons (.k (.str "baker")) .nil))) (.cons (.ret (.call "_law_put" [false, false, false, false, false] (.cons (.pr .add (.cons (.v 3) (.cons (.v 5) .nil))) (.cons (.lst (.cons (.k (.bool false)) (.cons (.k (.bool false)) (.cons (.k (.bool false)) (.cons (.k (.bool true)) (.cons (.k (.bool true)) (.cons (.k (.bool false)) .nil))))))) (.cons (.lst (.cons (.k (.str "white")) (.cons (.k (.str "black")) .nil))) (.cons (.k (.bool false)) (.cons (.v 1) .nil))))))) .nil) .nil) (.cons (.asg (.nm 6) (.lst (.cons (.v 4) (.cons (.ife (.v 1) (.tup (.cons (.k (.str "new")) (.cons (.k (.str "old")) .nil))) (.v 4)) (.cons (.tup (.cons (.k (.str "new")) .nil)) .nil))))) (.cons (.ret (.call "_law_put" [false, false, false, false, false] (.cons (.pr .add (.cons (.v 6) (.cons (.lst (.cons (.v 4) (.cons (.v 4) (.cons (.tup .nil) .nil)))) .nil))) (.cons (.pr .mul (.cons (.lst (.cons (.k (.bool false)) .nil)) (.cons (.k (.int 6)) .nil))) (.cons (.lst (.cons (.k (.str "black")) (.cons (.k (.str "black")) .nil))) (.cons (.k (.bool false)) (.cons (.v 1) .nil))))))) .nil))))))))
def f_law_known : Fn := ⟨7, [false, false], b_law_known⟩
/- ['pieces', 'unlooked'] [False] -/
def b_hybrid : Sms := (.cons (.asg (.nm 1) (.tup (.cons (.tup (.cons (.k (.str "old")) .nil)) (.cons (.ife (.v 0) (.tup (.cons (.k (.str "new")) (.cons (.k (.str "old")) .nil))) (.tup (.cons (.k (.str "old")) .nil))) (.cons (.tup (.cons (.k (.str "new")) .nil)) .nil))))) (.cons (.ret (.tup (.cons (.tup (.cons (.v 1) (.cons (.tup (.cons (.tup (.cons (.k (.str "old")) .nil)) (.cons (.tup (.cons (.k (.str "old")) .nil)) (.cons (.tup .nil) .nil)))) .nil))) (.cons (.g "NOTHING_READ") (.cons (.tup (.cons (.k (.str "black")) (.cons (.k (.str "black")) .nil))) (.cons (.k (.bool false)) (.cons (.v 0) .nil))))))) .nil))
def f_hybrid : Fn := ⟨2, [false], b_hybrid⟩
/- ['pieces', 'word'] [False, False] -/
def b_guards_of_scanned : Sms := (.cons (.ret (.tup (.cons (.tup .nil) (.cons (.ife (.v 0) (.tup (.cons (.v 1) .nil)) (.tup .nil)) (.cons (.tup (.cons (.v 1) .nil)) .nil))))) .nil)
def f_guards_of_scanned : Fn := ⟨2, [false, false], b_guards_of_scanned⟩
/- ['pieces', 'guards'] [False] -/
def b_dijkstra : Sms := (.cons (.asg (.nm 1) (.call "guards_of_scanned" [false, false] (.cons (.v 0) (.cons (.k (.str "new")) .nil)))) (.cons (.ret (.tup (.cons (.tup (.cons (.v 1) (.cons (.v 1) .nil))) (.cons (.g "NOTHING_READ") (.cons (.g "BOTH_WHITE") (.cons (.k (.bool true)) (.cons (.v 0) .nil))))))) .nil))
def f_dijkstra : Fn := ⟨2, [false], b_dijkstra⟩
/- ['pieces', 'guards'] [False] -/
def b_steele : Sms := (.cons (.asg (.nm 1) (.call "guards_of_scanned" [false, false] (.cons (.v 0) (.cons (.k (.str "again")) .nil)))) (.cons (.ret (.tup (.cons (.tup (.cons (.v 1) (.cons (.v 1) .nil))) (.cons (.g "NOTHING_READ") (.cons (.g "BOTH_WHITE") (.cons (.k (.bool true)) (.cons (.v 0) .nil))))))) .nil))
def f_steele : Fn := ⟨2, [false], b_steele⟩
/- ['pieces'] [False] -/
def b_yuasa : Sms := (.cons (.ret (.tup (.cons (.tup (.cons (.g "NO_GUARDS") (.cons (.tup (.cons (.tup (.cons (.k (.str "old")) .nil)) (.cons (.tup (.cons (.k (.str "old")) .nil)) (.cons (.tup (.cons (.k (.str "old")) .nil)) .nil)))) .nil))) (.cons (.g "NOTHING_READ") (.cons (.tup (.cons (.k (.str "white")) (.cons (.k (.str "black")) .nil))) (.cons (.k (.bool false)) (.cons (.v 0) .nil))))))) .nil)
def f_yuasa : Fn := ⟨1, [false], b_yuasa⟩
/- ['pieces', 'reads'] [False] -/
def b_baker : Sms := (.cons (.asg (.nm 1) (.tup (.cons (.tup (.cons (.k (.bool false)) (.cons (.k (.bool false)) (.cons (.k (.bool false)) .nil)))) (.cons (.tup (.cons (.k (.bool true)) (.cons (.k (.bool true)) (.cons (.k (.bool false)) .nil)))) .nil)))) (.cons (.ret (.tup (.cons (.tup (.cons (.call "guards_of_scanned" [false, false] (.cons (.v 0) (.cons (.k (.str "new")) .nil))) (.cons (.g "NO_GUARDS") .nil))) (.cons (.v 1) (.cons (.tup (.cons (.k (.str "white")) (.cons (.k (.str "black")) .nil))) (.cons (.k (.bool false)) (.cons (.v 0) .nil))))))) .nil))
def f_baker : Fn := ⟨2, [false], b_baker⟩
/- ['name', 'pieces', 'is_named'] [False, False, False] -/
def b_law_told : Sms := (.cons (.ife (.pr .eq (.cons (.v 0) (.cons (.k (.str "dijkstra")) .nil))) (.cons (.ret (.ife (.v 2) (.callk "dijkstra" [0] (.cons (.v 1) .nil)) (.call "dijkstra" [false] (.cons (.v 1) .nil)))) .nil) .nil) (.cons (.ife (.pr .eq (.cons (.v 0) (.cons (.k (.str "steele")) .nil))) (.cons (.ret (.ife (.v 2) (.callk "steele" [0] (.cons (.v 1) .nil)) (.call "steele" [false] (.cons (.v 1) .nil)))) .nil) .nil) (.cons (.ife (.pr .eq (.cons (.v 0) (.cons (.k (.str "yuasa")) .nil))) (.cons (.ret (.ife (.v 2) (.callk "yuasa" [0] (.cons (.v 1) .nil)) (.call "yuasa" [false] (.cons (.v 1) .nil)))) .nil) .nil) (.cons (.ife (.pr .eq (.cons (.v 0) (.cons (.k (.str "baker")) .nil))) (.cons (.ret (.ife (.v 2) (.callk "baker" [0] (.cons (.v 1) .nil)) (.call "baker" [false] (.cons (.v 1) .nil)))) .nil) .nil) (.cons (.ret (.ife (.v 2) (.callk "hybrid" [0] (.cons (.v 1) .nil)) (.call "hybrid" [false] (.cons (.v 1) .nil)))) .nil)))))
def f_law_told : Fn := ⟨3, [false, false, false], b_law_told⟩
/- ['value', 'one', 'other', 'word'] [False] -/
def b_is_guard : Sms := (.cons (.ife (.or (.not (.pr (.isi "tuple") (.cons (.v 0) .nil))) (.not (.pr .all_ (.cons (.lc (.and (.pr (.isi "str") (.cons (.v 3) .nil)) (.pr .isin (.cons (.v 3) (.cons (.g "WORDS") .nil)))) (.nm 3) .seq (.cons (.v 0) .nil) (.k (.bool true)) [3]) .nil)))) (.cons (.ret (.k (.bool false))) .nil) .nil) (.cons (.ret (.pr .all_ (.cons (.lc (.pr .lt (.cons (.v 1) (.cons (.v 2) .nil))) (.tup [1, 2]) .zip (.cons (.v 0) (.cons (.pr (.slc true false) (.cons (.v 0) (.cons (.k (.int 1)) .nil))) .nil)) (.k (.bool true)) [1, 2]) .nil))) .nil))
def f_is_guard : Fn := ⟨4, [false], b_is_guard⟩
/- ['value', 'phase', 'row', 'colour', 'guard', 'is_shaded'] [False] -/
def b_table_error : Sms := (.cons (.for_ (.tup [1, 2]) .enum (.cons (.ix (.v 0) (.k (.int 0))) .nil) (.cons (.for_ (.tup [3, 4]) .enum (.cons (.v 2) .nil) (.cons (.ife (.not (.call "is_guard" [false] (.cons (.v 4) .nil))) (.cons (.ret (.tup (.cons (.k (.str "write")) (.cons (.v 1) (.cons (.v 3) .nil))))) .nil) .nil) .nil)) .nil)) (.cons (.for_ (.tup [1, 2]) .enum (.cons (.ix (.v 0) (.k (.int 1))) .nil) (.cons (.for_ (.tup [3, 5]) .enum (.cons (.v 2) .nil) (.cons (.ife (.not (.pr (.isi "bool") (.cons (.v 5) .nil))) (.cons (.ret (.tup (.cons (.k (.str "read")) (.cons (.v 1) (.cons (.v 3) .nil))))) .nil) .nil) .nil)) .nil)) (.cons (.ret (.k .none)) .nil)))
def f_table_error : Fn := ⟨6, [false], b_table_error⟩
/- ['value', 'row'] [False] -/
def b_is_table : Sms := (.cons (.ife (.or (.not (.pr (.isi "tuple") (.cons (.v 0) .nil))) (.pr .ne (.cons (.pr .len (.cons (.v 0) .nil)) (.cons (.k (.int 2)) .nil)))) (.cons (.ret (.k (.bool false))) .nil) .nil) (.cons (.ret (.pr .all_ (.cons (.lc (.and (.pr (.isi "tuple") (.cons (.v 1) .nil)) (.pr .eq (.cons (.pr .len (.cons (.v 1) .nil)) (.cons (.k (.int 3)) .nil)))) (.nm 1) .seq (.cons (.v 0) .nil) (.k (.bool true)) [1]) .nil))) .nil))
def f_is_table : Fn := ⟨2, [false], b_is_table⟩
/- ['value'] [False] -/
def b_has_form : Sms := (.cons (.ife (.or (.not (.pr (.isi "tuple") (.cons (.v 0) .nil))) (.or (.pr .ne (.cons (.pr .len (.cons (.v 0) .nil)) (.cons (.k (.int 5)) .nil))) (.or (.not (.call "is_table" [false] (.cons (.ix (.v 0) (.k (.int 0))) .nil))) (.not (.call "is_table" [false] (.cons (.ix (.v 0) (.k (.int 1))) .nil)))))) (.cons (.ret (.k (.bool false))) .nil) .nil) (.cons (.ret (.and (.pr (.isi "tuple") (.cons (.ix (.v 0) (.k (.int 2))) .nil)) (.pr .eq (.cons (.pr .len (.cons (.ix (.v 0) (.k (.int 2))) .nil)) (.cons (.k (.int 2)) .nil))))) .nil))
def f_has_form : Fn := ⟨1, [false], b_has_form⟩
/- ['value', 'error', 'phase', 'colour'] [False] -/
def b_book_error : Sms := (.cons (.ife (.not (.call "has_form" [false] (.cons (.v 0) .nil))) (.cons (.ret (.k (.str "form"))) .nil) .nil) (.cons (.asg (.nm 1) (.call "table_error" [false] (.cons (.v 0) .nil))) (.cons (.ife (.pr .notN (.cons (.v 1) .nil)) (.cons (.retv 1) .nil) .nil) (.cons (.for_ (.tup [2, 3]) .enum (.cons (.ix (.v 0) (.k (.int 2))) .nil) (.cons (.ife (.or (.not (.pr (.isi "str") (.cons (.v 3) .nil))) (.pr .notin (.cons (.v 3) (.cons (.g "COLOURS") .nil)))) (.cons (.ret (.tup (.cons (.k (.str "make")) (.cons (.v 2) .nil)))) .nil) .nil) .nil)) (.cons (.ife (.not (.pr (.isi "bool") (.cons (.ix (.v 0) (.g "LAST_PART")) .nil))) (.cons (.ret (.k (.str "last"))) .nil) .nil) (.cons (.ret (.ife (.pr (.isi "bool") (.cons (.ix (.v 0) (.g "PIECES_PART")) .nil)) (.k .none) (.k (.str "pieces")))) .nil))))))
def f_book_error : Fn := ⟨4, [false], b_book_error⟩
/- ['book', 'entry'] [False, False] -/
def b_has_entry : Sms := (.cons (.ife (.pr .eq (.cons (.ix (.v 1) (.k (.int 0))) (.cons (.k (.str "write")) .nil))) (.cons (.ret (.pr .isin (.cons (.ix (.v 1) (.k (.int 3))) (.cons (.ix (.ix (.ix (.v 0) (.k (.int 0))) (.ix (.v 1) (.k (.int 1)))) (.ix (.v 1) (.k (.int 2)))) .nil)))) .nil) .nil) (.cons (.ife (.pr .eq (.cons (.ix (.v 1) (.k (.int 0))) (.cons (.k (.str "read")) .nil))) (.cons (.ret (.ix (.ix (.ix (.v 0) (.k (.int 1))) (.ix (.v 1) (.k (.int 1)))) (.ix (.v 1) (.k (.int 2))))) .nil) .nil) (.cons (.ife (.pr .eq (.cons (.ix (.v 1) (.k (.int 0))) (.cons (.k (.str "make")) .nil))) (.cons (.ret (.pr .ne (.cons (.ix (.ix (.v 0) (.k (.int 2))) (.ix (.v 1) (.k (.int 1)))) (.cons (.k (.str "white")) .nil)))) .nil) .nil) (.cons (.ret (.ix (.v 0) (.g "LAST_PART"))) .nil))))
def f_has_entry : Fn := ⟨2, [false, false], b_has_entry⟩
/- ['book', 'entry'] [False] -/
def b_entries : Sms := (.cons (.ret (.pr .totuple (.cons (.lc (.v 1) (.nm 1) .seq (.cons (.g "ALL_ENTRIES") .nil) (.call "has_entry" [false, false] (.cons (.v 0) (.cons (.v 1) .nil))) [1]) .nil))) .nil)
def f_entries : Fn := ⟨2, [false], b_entries⟩
/- ['found', 'phase', 'colour', 'word'] [] -/
def b_law_all : Sms := (.cons (.asg (.nm 0) (.lst (.cons (.tup (.cons (.k (.str "last")) .nil)) (.cons (.tup (.cons (.k (.str "make")) (.cons (.k (.int 0)) .nil))) (.cons (.tup (.cons (.k (.str "make")) (.cons (.k (.int 1)) .nil))) .nil))))) (.cons (.for_ (.nm 1) .rng1 (.cons (.k (.int 2)) .nil) (.cons (.ex (.mut .extend 0 .nil (.cons (.lc (.tup (.cons (.k (.str "read")) (.cons (.v 1) (.cons (.v 2) .nil)))) (.nm 2) .rng1 (.cons (.k (.int 3)) .nil) (.k (.bool true)) [2]) .nil))) .nil)) (.cons (.for_ (.nm 1) .rng1 (.cons (.k (.int 2)) .nil) (.cons (.for_ (.nm 2) .rng1 (.cons (.k (.int 3)) .nil) (.cons (.ex (.mut .extend 0 .nil (.cons (.lc (.tup (.cons (.k (.str "write")) (.cons (.v 1) (.cons (.v 2) (.cons (.v 3) .nil))))) (.nm 3) .seq (.cons (.tup (.cons (.k (.str "again")) (.cons (.k (.str "new")) (.cons (.k (.str "old")) .nil)))) .nil) (.k (.bool true)) [3]) .nil))) .nil)) .nil)) (.cons (.retv 0) .nil))))
def f_law_all : Fn := ⟨4, [], b_law_all⟩
/- ['book', 'entry'] [False, False] -/
def b_law_has : Sms := (.cons (.ife (.pr .eq (.cons (.ix (.v 1) (.k (.int 0))) (.cons (.k (.str "write")) .nil))) (.cons (.ret (.pr .isin (.cons (.ix (.v 1) (.k (.int 3))) (.cons (.ix (.ix (.ix (.v 0) (.k (.int 0))) (.ix (.v 1) (.k (.int 1)))) (.ix (.v 1) (.k (.int 2)))) .nil)))) .nil) .nil) (.cons (.ife (.pr .eq (.cons (.ix (.v 1) (.k (.int 0))) (.cons (.k (.str "read")) .nil))) (.cons (.ret (.ix (.ix (.ix (.v 0) (.k (.int 1))) (.ix (.v 1) (.k (.int 1)))) (.ix (.v 1) (.k (.int 2))))) .nil) .nil) (.cons (.ret (.ife (.pr .eq (.cons (.ix (.v 1) (.k (.int 0))) (.cons (.k (.str "make")) .nil))) (.pr .ne (.cons (.ix (.ix (.v 0) (.k (.int 2))) (.ix (.v 1) (.k (.int 1)))) (.cons (.k (.str "white")) .nil))) (.ix (.v 0) (.k (.int 3))))) .nil)))
def f_law_has : Fn := ⟨2, [false, false], b_law_has⟩
/- ['script', 'jar', 'calls', 'heard', 'name', 'pieces', 'is_named', 'due', 'told', 'text', 'entry'] [False] -/
def b_law : Sms := (.cons (.par [1, 2, 3] (.cons (.call "_law_jar" [false] (.cons (.v 0) .nil)) (.cons (.lst .nil) (.cons (.lst .nil) .nil)))) (.cons (.for_ (.nm 4) .seq (.cons (.tup (.cons (.k (.str "dijkstra")) (.cons (.k (.str "steele")) (.cons (.k (.str "yuasa")) (.cons (.k (.str "baker")) (.cons (.k (.str "hybrid")) .nil)))))) .nil) (.cons (.for_ (.nm 5) .seq (.cons (.tup (.cons (.k (.bool false)) (.cons (.k (.bool true)) .nil))) .nil) (.cons (.asg (.nm 2) (.pr .add (.cons (.v 2) (.cons (.lst (.cons (.tup (.cons (.v 4) (.cons (.v 5) (.cons (.k (.bool false)) .nil)))) (.cons (.tup (.cons (.v 4) (.cons (.v 5) (.cons (.k (.bool true)) .nil)))) .nil))) .nil)))) .nil)) .nil)) (.cons (.for_ (.tup [4, 5, 6]) .seq (.cons (.pr .add (.cons (.call "_law_mixed" [true, false] (.cons (.v 1) (.cons (.v 2) .nil))) (.cons (.pr (.slc false true) (.cons (.call "_law_mixed" [true, false] (.cons (.v 1) (.cons (.v 2) .nil))) (.cons (.k (.int 7)) .nil))) .nil))) .nil) (.cons (.par [7, 8] (.cons (.call "_law_known" [false, false] (.cons (.v 4) (.cons (.v 5) .nil))) (.cons (.call "_law_told" [false, false, false] (.cons (.v 4) (.cons (.v 5) (.cons (.v 6) .nil)))) .nil))) (.cons (.ife (.or (.pr .ne (.cons (.pr .repr (.cons (.v 8) .nil)) (.cons (.pr .repr (.cons (.v 7) .nil)) .nil))) (.pr .notN (.cons (.call "book_error" [false] (.cons (.v 8) .nil)) .nil))) (.cons (.ret (.k (.bool false))) .nil) .nil) (.cons (.ife (.pr .ne (.cons (.pr .repr (.cons (.call "entries" [false] (.cons (.v 8) .nil)) .nil)) (.cons (.pr .repr (.cons (.pr .totuple (.cons (.lc (.v 10) (.nm 10) .seq (.cons (.call "_law_all" [] .nil) .nil) (.call "_law_has" [false, false] (.cons (.v 7) (.cons (.v 10) .nil))) [10]) .nil)) .nil)) .nil))) (.cons (.ret (.k (.bool false))) .nil) .nil) (.cons (.ex (.mut .append 3 .nil (.cons (.tup (.cons (.v 8) (.cons (.pr .repr (.cons (.v 8) .nil)) .nil))) .nil))) .nil))))) (.cons (.ret (.pr .eq (.cons (.lc (.k (.int 1)) (.tup [8, 9]) .seq (.cons (.v 3) .nil) (.pr .ne (.cons (.pr .repr (.cons (.v 8) .nil)) (.cons (.v 9) .nil))) [8, 9]) (.cons (.lst .nil) .nil)))) .nil))))
def f_law : Fn := ⟨11, [false], b_law⟩
def nf : List (Str × Fn) := [("_law_jar", f_law_jar), ("_law_draw", f_law_draw), ("_law_mixed", f_law_mixed), ("_law_put", f_law_put), ("_law_known", f_law_known), ("hybrid", f_hybrid), ("guards_of_scanned", f_guards_of_scanned), ("dijkstra", f_dijkstra), ("steele", f_steele), ("yuasa", f_yuasa), ("baker", f_baker), ("_law_told", f_law_told), ("is_guard", f_is_guard), ("table_error", f_table_error), ("is_table", f_is_table), ("has_form", f_has_form), ("book_error", f_book_error), ("has_entry", f_has_entry), ("entries", f_entries), ("_law_all", f_law_all), ("_law_has", f_law_has), ("law", f_law)]
theorem n_law_jar : f_law_jar = sig ds gcs 60 0 d__law_jar := by kernel_rfl
theorem n_law_draw : f_law_draw = sig ds gcs 60 1 d__law_draw := by kernel_rfl
theorem n_law_mixed : f_law_mixed = sig ds gcs 60 2 d__law_mixed := by kernel_rfl
theorem n_law_put : f_law_put = sig ds gcs 60 3 d__law_put := by kernel_rfl
theorem n_law_known : f_law_known = sig ds gcs 60 4 d__law_known := by kernel_rfl
theorem n_hybrid : f_hybrid = sig ds gcs 60 5 d_hybrid := by kernel_rfl
theorem n_guards_of_scanned : f_guards_of_scanned = sig ds gcs 60 6 d_guards_of_scanned := by kernel_rfl
theorem n_dijkstra : f_dijkstra = sig ds gcs 60 7 d_dijkstra := by kernel_rfl
theorem n_steele : f_steele = sig ds gcs 60 8 d_steele := by kernel_rfl
theorem n_yuasa : f_yuasa = sig ds gcs 60 9 d_yuasa := by kernel_rfl
theorem n_baker : f_baker = sig ds gcs 60 10 d_baker := by kernel_rfl
theorem n_law_told : f_law_told = sig ds gcs 60 11 d__law_told := by kernel_rfl
theorem n_is_guard : f_is_guard = sig ds gcs 60 12 d_is_guard := by kernel_rfl
theorem n_table_error : f_table_error = sig ds gcs 60 13 d_table_error := by kernel_rfl
theorem n_is_table : f_is_table = sig ds gcs 60 14 d_is_table := by kernel_rfl
theorem n_has_form : f_has_form = sig ds gcs 60 15 d_has_form := by kernel_rfl
theorem n_book_error : f_book_error = sig ds gcs 60 16 d_book_error := by kernel_rfl
theorem n_has_entry : f_has_entry = sig ds gcs 60 17 d_has_entry := by kernel_rfl
theorem n_entries : f_entries = sig ds gcs 60 18 d_entries := by kernel_rfl
theorem n_law_all : f_law_all = sig ds gcs 60 19 d__law_all := by kernel_rfl
theorem n_law_has : f_law_has = sig ds gcs 60 20 d__law_has := by kernel_rfl
theorem n_law : f_law = sig ds gcs 60 21 d_law := by kernel_rfl
theorem nf_eq : nf = ds.mapIdx fun i d => (d.name, sig ds gcs 60 i d) := by
  show ([(("_law_jar" : Str), f_law_jar), (("_law_draw" : Str), f_law_draw), (("_law_mixed" : Str), f_law_mixed), (("_law_put" : Str), f_law_put), (("_law_known" : Str), f_law_known), (("hybrid" : Str), f_hybrid), (("guards_of_scanned" : Str), f_guards_of_scanned), (("dijkstra" : Str), f_dijkstra), (("steele" : Str), f_steele), (("yuasa" : Str), f_yuasa), (("baker" : Str), f_baker), (("_law_told" : Str), f_law_told), (("is_guard" : Str), f_is_guard), (("table_error" : Str), f_table_error), (("is_table" : Str), f_is_table), (("has_form" : Str), f_has_form), (("book_error" : Str), f_book_error), (("has_entry" : Str), f_has_entry), (("entries" : Str), f_entries), (("_law_all" : Str), f_law_all), (("_law_has" : Str), f_law_has), (("law" : Str), f_law)] : List (Str × Fn)) = [(d__law_jar.name, sig ds gcs 60 0 d__law_jar), (d__law_draw.name, sig ds gcs 60 1 d__law_draw), (d__law_mixed.name, sig ds gcs 60 2 d__law_mixed), (d__law_put.name, sig ds gcs 60 3 d__law_put), (d__law_known.name, sig ds gcs 60 4 d__law_known), (d_hybrid.name, sig ds gcs 60 5 d_hybrid), (d_guards_of_scanned.name, sig ds gcs 60 6 d_guards_of_scanned), (d_dijkstra.name, sig ds gcs 60 7 d_dijkstra), (d_steele.name, sig ds gcs 60 8 d_steele), (d_yuasa.name, sig ds gcs 60 9 d_yuasa), (d_baker.name, sig ds gcs 60 10 d_baker), (d__law_told.name, sig ds gcs 60 11 d__law_told), (d_is_guard.name, sig ds gcs 60 12 d_is_guard), (d_table_error.name, sig ds gcs 60 13 d_table_error), (d_is_table.name, sig ds gcs 60 14 d_is_table), (d_has_form.name, sig ds gcs 60 15 d_has_form), (d_book_error.name, sig ds gcs 60 16 d_book_error), (d_has_entry.name, sig ds gcs 60 17 d_has_entry), (d_entries.name, sig ds gcs 60 18 d_entries), (d__law_all.name, sig ds gcs 60 19 d__law_all), (d__law_has.name, sig ds gcs 60 20 d__law_has), (d_law.name, sig ds gcs 60 21 d_law)]
  rw [← n_law_jar, ← n_law_draw, ← n_law_mixed, ← n_law_put, ← n_law_known, ← n_hybrid, ← n_guards_of_scanned, ← n_dijkstra, ← n_steele, ← n_yuasa, ← n_baker, ← n_law_told, ← n_is_guard, ← n_table_error, ← n_is_table, ← n_has_form, ← n_book_error, ← n_has_entry, ← n_entries, ← n_law_all, ← n_law_has, ← n_law]
  rfl
theorem ok_law_jar : DOk d__law_jar where
  sc := ⟨rfl, rfl, rfl, by decide +kernel, rfl, by decide +kernel, by decide +kernel⟩
  io := rfl
  bind := fun _ _ _ _ _ _ us hl => match us, hl with | [_], _ => rfl
  kw := fun _ _ _ _ _ _ _ _ h => nomatch h
theorem ok_law_draw : DOk d__law_draw where
  sc := ⟨rfl, rfl, rfl, by decide +kernel, rfl, by decide +kernel, by decide +kernel⟩
  io := rfl
  bind := fun _ _ _ _ _ _ us hl => match us, hl with | [_, _], _ => rfl
  kw := fun _ _ _ _ _ _ _ _ h => nomatch h
theorem ok_law_mixed : DOk d__law_mixed where
  sc := ⟨rfl, rfl, rfl, by decide +kernel, rfl, by decide +kernel, by decide +kernel⟩
  io := rfl
  bind := fun _ _ _ _ _ _ us hl => match us, hl with | [_, _], _ => rfl
  kw := fun _ _ _ _ _ _ _ _ h => nomatch h
theorem ok_law_put : DOk d__law_put where
  sc := ⟨rfl, rfl, rfl, by decide +kernel, rfl, by decide +kernel, by decide +kernel⟩
  io := rfl
  bind := fun _ _ _ _ _ _ us hl => match us, hl with | [_, _, _, _, _], _ => rfl
  kw := fun _ _ _ _ _ _ _ _ h => nomatch h
theorem ok_law_known : DOk d__law_known where
  sc := ⟨rfl, rfl, rfl, by decide +kernel, rfl, by decide +kernel, by decide +kernel⟩
  io := rfl
  bind := fun _ _ _ _ _ _ us hl => match us, hl with | [_, _], _ => rfl
  kw := fun _ _ _ _ _ _ _ _ h => nomatch h
theorem ok_hybrid : DOk d_hybrid where
  sc := ⟨rfl, rfl, rfl, by decide +kernel, rfl, by decide +kernel, by decide +kernel⟩
  io := rfl
  bind := fun _ _ _ _ _ _ us hl => match us, hl with | [_], _ => rfl
  kw := fun kV doc pm an cdv ct n ks h us ws l1 l2 => by
    simp only [d_hybrid, List.mem_cons, Prod.mk.injEq, List.not_mem_nil, or_false] at h
    rcases h with ⟨rfl, rfl⟩
    · match us, ws, l1, l2 with | [], [_], _, _ => rfl
theorem ok_guards_of_scanned : DOk d_guards_of_scanned where
  sc := ⟨rfl, rfl, rfl, by decide +kernel, rfl, by decide +kernel, by decide +kernel⟩
  io := rfl
  bind := fun _ _ _ _ _ _ us hl => match us, hl with | [_, _], _ => rfl
  kw := fun _ _ _ _ _ _ _ _ h => nomatch h
theorem ok_dijkstra : DOk d_dijkstra where
  sc := ⟨rfl, rfl, rfl, by decide +kernel, rfl, by decide +kernel, by decide +kernel⟩
  io := rfl
  bind := fun _ _ _ _ _ _ us hl => match us, hl with | [_], _ => rfl
  kw := fun kV doc pm an cdv ct n ks h us ws l1 l2 => by
    simp only [d_dijkstra, List.mem_cons, Prod.mk.injEq, List.not_mem_nil, or_false] at h
    rcases h with ⟨rfl, rfl⟩
    · match us, ws, l1, l2 with | [], [_], _, _ => rfl
theorem ok_steele : DOk d_steele where
  sc := ⟨rfl, rfl, rfl, by decide +kernel, rfl, by decide +kernel, by decide +kernel⟩
  io := rfl
  bind := fun _ _ _ _ _ _ us hl => match us, hl with | [_], _ => rfl
  kw := fun kV doc pm an cdv ct n ks h us ws l1 l2 => by
    simp only [d_steele, List.mem_cons, Prod.mk.injEq, List.not_mem_nil, or_false] at h
    rcases h with ⟨rfl, rfl⟩
    · match us, ws, l1, l2 with | [], [_], _, _ => rfl
theorem ok_yuasa : DOk d_yuasa where
  sc := ⟨rfl, rfl, rfl, by decide +kernel, rfl, by decide +kernel, by decide +kernel⟩
  io := rfl
  bind := fun _ _ _ _ _ _ us hl => match us, hl with | [_], _ => rfl
  kw := fun kV doc pm an cdv ct n ks h us ws l1 l2 => by
    simp only [d_yuasa, List.mem_cons, Prod.mk.injEq, List.not_mem_nil, or_false] at h
    rcases h with ⟨rfl, rfl⟩
    · match us, ws, l1, l2 with | [], [_], _, _ => rfl
theorem ok_baker : DOk d_baker where
  sc := ⟨rfl, rfl, rfl, by decide +kernel, rfl, by decide +kernel, by decide +kernel⟩
  io := rfl
  bind := fun _ _ _ _ _ _ us hl => match us, hl with | [_], _ => rfl
  kw := fun kV doc pm an cdv ct n ks h us ws l1 l2 => by
    simp only [d_baker, List.mem_cons, Prod.mk.injEq, List.not_mem_nil, or_false] at h
    rcases h with ⟨rfl, rfl⟩
    · match us, ws, l1, l2 with | [], [_], _, _ => rfl
theorem ok_law_told : DOk d__law_told where
  sc := ⟨rfl, rfl, rfl, by decide +kernel, rfl, by decide +kernel, by decide +kernel⟩
  io := rfl
  bind := fun _ _ _ _ _ _ us hl => match us, hl with | [_, _, _], _ => rfl
  kw := fun _ _ _ _ _ _ _ _ h => nomatch h
theorem ok_is_guard : DOk d_is_guard where
  sc := ⟨rfl, rfl, rfl, by decide +kernel, rfl, by decide +kernel, by decide +kernel⟩
  io := rfl
  bind := fun _ _ _ _ _ _ us hl => match us, hl with | [_], _ => rfl
  kw := fun _ _ _ _ _ _ _ _ h => nomatch h
theorem ok_table_error : DOk d_table_error where
  sc := ⟨rfl, rfl, rfl, by decide +kernel, rfl, by decide +kernel, by decide +kernel⟩
  io := rfl
  bind := fun _ _ _ _ _ _ us hl => match us, hl with | [_], _ => rfl
  kw := fun _ _ _ _ _ _ _ _ h => nomatch h
theorem ok_is_table : DOk d_is_table where
  sc := ⟨rfl, rfl, rfl, by decide +kernel, rfl, by decide +kernel, by decide +kernel⟩
  io := rfl
  bind := fun _ _ _ _ _ _ us hl => match us, hl with | [_], _ => rfl
  kw := fun _ _ _ _ _ _ _ _ h => nomatch h
theorem ok_has_form : DOk d_has_form where
  sc := ⟨rfl, rfl, rfl, by decide +kernel, rfl, by decide +kernel, by decide +kernel⟩
  io := rfl
  bind := fun _ _ _ _ _ _ us hl => match us, hl with | [_], _ => rfl
  kw := fun _ _ _ _ _ _ _ _ h => nomatch h
theorem ok_book_error : DOk d_book_error where
  sc := ⟨rfl, rfl, rfl, by decide +kernel, rfl, by decide +kernel, by decide +kernel⟩
  io := rfl
  bind := fun _ _ _ _ _ _ us hl => match us, hl with | [_], _ => rfl
  kw := fun _ _ _ _ _ _ _ _ h => nomatch h
theorem ok_has_entry : DOk d_has_entry where
  sc := ⟨rfl, rfl, rfl, by decide +kernel, rfl, by decide +kernel, by decide +kernel⟩
  io := rfl
  bind := fun _ _ _ _ _ _ us hl => match us, hl with | [_, _], _ => rfl
  kw := fun _ _ _ _ _ _ _ _ h => nomatch h
theorem ok_entries : DOk d_entries where
  sc := ⟨rfl, rfl, rfl, by decide +kernel, rfl, by decide +kernel, by decide +kernel⟩
  io := rfl
  bind := fun _ _ _ _ _ _ us hl => match us, hl with | [_], _ => rfl
  kw := fun _ _ _ _ _ _ _ _ h => nomatch h
theorem ok_law_all : DOk d__law_all where
  sc := ⟨rfl, rfl, rfl, by decide +kernel, rfl, by decide +kernel, by decide +kernel⟩
  io := rfl
  bind := fun _ _ _ _ _ _ us hl => match us, hl with | [], _ => rfl
  kw := fun _ _ _ _ _ _ _ _ h => nomatch h
theorem ok_law_has : DOk d__law_has where
  sc := ⟨rfl, rfl, rfl, by decide +kernel, rfl, by decide +kernel, by decide +kernel⟩
  io := rfl
  bind := fun _ _ _ _ _ _ us hl => match us, hl with | [_, _], _ => rfl
  kw := fun _ _ _ _ _ _ _ _ h => nomatch h
theorem ok_law : DOk d_law where
  sc := ⟨rfl, rfl, rfl, by decide +kernel, rfl, by decide +kernel, by decide +kernel⟩
  io := rfl
  bind := fun _ _ _ _ _ _ us hl => match us, hl with | [_], _ => rfl
  kw := fun _ _ _ _ _ _ _ _ h => nomatch h
theorem ok_all : ∀ d ∈ ds, DOk d := by
  intro d h
  simp only [ds, List.mem_cons, List.not_mem_nil, or_false] at h
  rcases h with rfl | rfl | rfl | rfl | rfl | rfl | rfl | rfl | rfl | rfl | rfl | rfl | rfl | rfl | rfl | rfl | rfl | rfl | rfl | rfl | rfl | rfl
  · exact ok_law_jar
  · exact ok_law_draw
  · exact ok_law_mixed
  · exact ok_law_put
  · exact ok_law_known
  · exact ok_hybrid
  · exact ok_guards_of_scanned
  · exact ok_dijkstra
  · exact ok_steele
  · exact ok_yuasa
  · exact ok_baker
  · exact ok_law_told
  · exact ok_is_guard
  · exact ok_table_error
  · exact ok_is_table
  · exact ok_has_form
  · exact ok_book_error
  · exact ok_has_entry
  · exact ok_entries
  · exact ok_law_all
  · exact ok_law_has
  · exact ok_law
end GB.K13

namespace GB.K13
open PySem PySem.Spec PyProof.Rows L2 GB
def smAt : Sms → Nat → Sm
  | .cons s _, 0 => s
  | .cons _ r, n + 1 => smAt r n
  | .nil, _ => .bad
def bodyOf : Sm → Sms
  | .for_ _ _ _ b => b
  | .whl _ b => b
  | _ => .nil
abbrev T : Tb := tab (gcT gcs) nf 21
def S0 (x : String) : PyData := .str (Str.ofString x)
theorem ap_jar (s : O) : T.ap "_law_jar" [s] = evF (tab (gcT gcs) nf 0) (jJar 150286) [s] := by kernel_rfl
theorem ap_mixed : T.ap "_law_mixed" = evF (tab (gcT gcs) nf 2) jMixed := by
  funext as
  kernel_rfl
theorem ap_draw : (tab (gcT gcs) nf 2).ap "_law_draw" = evF (tab (gcT gcs) nf 1) jDraw := by
  funext as
  kernel_rfl
theorem b_eq : b_law = .cons (smAt b_law 0) (.cons (smAt b_law 1) (.cons (smAt b_law 2) (.cons (smAt b_law 3) .nil))) := rfl
theorem step1 (s j : O) (d : PyData) (hs : s = .dat d) (hj : T.ap "_law_jar" [s] = some (j, [])) : ev1 T (smAt b_law 0) [some s, none, none, none, none, none, none, none, none, none, none] = some (.nx, [some s, some j, some (.lst []), some (.lst []), none, none, none, none, none, none, none]) := by
  subst hs
  simp only [b_law, smAt, evS, ev1, ev, evR, evA, evK, evO, evC, List.length, List.map, List.replicate, List.cons_append, List.nil_append, List.append_nil, Ex.quiet, Exs.quiet, Exs.still, Ex.still, Exs.isNil, if_true, bnd_some, fin, Option.bind_some, Option.map_some, O.bool?, List.getElem?_cons_zero, List.getElem?_cons_succ, List.set_cons_zero, List.set_cons_succ, Bool.and_self, Nat.zero_le, reduceCtorEq, if_false, Bool.false_eq_true, truO, q_add, q_mulr, q_mull, q_mod, q_fdiv, q_toint, q_tointb, q_abs, q_ge, q_lt, q_neG, j_g, j_t, j_s, j_setT, j_setS, j_setS1, j_pathIn, j_pathIn1, j_isL, List.isEmpty_nil, List.isEmpty_cons, Bool.not_false, Bool.not_true, Int.reduceLT, Int.reduceLE, Int.reduceNeg, Int.reducePow, and_self, List.getLast?_singleton, List.dropLast_singleton, outsOf, Option.some.injEq, Bool.or_true, Bool.false_or, Bool.or_false, Nat.reduceSub, Nat.reduceAdd, tgEv, ioIn, ioOut, setOs, Ex.nm?, toD_dat, hj]
  try rfl
def lb : Sms := bodyOf (smAt b_law 2)
theorem lb_eq : lb = .cons (smAt lb 0) (.cons (smAt lb 1) (.cons (smAt lb 2) (.cons (smAt lb 3) .nil))) := rfl
def lcE : Ex := .lc (.v 10) (.nm 10) .seq (.cons (.call "_law_all" [] .nil) .nil) (.call "_law_has" [false, false] (.cons (.v 7) (.cons (.v 10) .nil))) [10]
theorem q_neS (x : Str) : primEv .ne [.dat (.str x), .dat (.str x)] = some (.dat (.bool false)) := by
  show (eqEv (.str x) (.str x)).map (fun c => oB (!c)) = _
  unfold eqEv
  rw [if_pos (show eqOk (.str x) (.str x) = true from rfl)]
  simp [PyData.eqv]
theorem q_repr (d : PyData) (h : showOk d = true) : primEv .repr [.dat d] = some (.dat (.str d.shown)) := by
  show (if showOk d then some (O.dat (.str d.shown)) else none) = _
  rw [if_pos h]
theorem q_notN : primEv .notN [.dat .none] = some (.dat (.bool false)) := rfl
/-- what is asked of a book -/
structure Good (n : PyData) (p : Bool) (d : PyData) : Prop where
  k : T.ap "_law_known" [.dat n, .dat (.bool p)] = some (.dat d, [])
  t : ∀ i, T.ap "_law_told" [.dat n, .dat (.bool p), .dat (.bool i)] = some (.dat d, [])
  b : T.ap "book_error" [.dat d] = some (.dat .none, [])
  s : showOk d = true
  e : ∃ ws : List PyData, showOk (.tuple ws) = true ∧ T.ap "entries" [.dat d] = some (.dat (.tuple ws), []) ∧ ∀ a b c e f g h i j : Option O, ev T .bor lcE [a, b, c, e, f, g, h, some (.dat d), i, j, none] = some (.lst (ws.map O.dat), [a, b, c, e, f, g, h, some (.dat d), i, j, none])
def bk0 : PyData := .tuple [.tuple [.tuple [.tuple [], .tuple [], .tuple [S0 "new"]], .tuple [.tuple [], .tuple [], .tuple [S0 "new"]]], .tuple [.tuple [.bool false, .bool false, .bool false], .tuple [.bool false, .bool false, .bool false]], .tuple [S0 "white", S0 "white"], .bool true, .bool false]
def ws0 : List PyData := [.tuple [S0 "last"], .tuple [S0 "write", .int 0, .int 2, S0 "new"], .tuple [S0 "write", .int 1, .int 2, S0 "new"]]
theorem good0 : Good (S0 "dijkstra") false bk0 where
  k := by kernel_rfl
  t := fun i => by cases i <;> kernel_rfl
  b := by kernel_rfl
  s := by kernel_rfl
  e := ⟨ws0, by kernel_rfl, by kernel_rfl, fun _ _ _ _ _ _ _ _ _ => by kernel_rfl⟩
def bk1 : PyData := .tuple [.tuple [.tuple [.tuple [], .tuple [S0 "new"], .tuple [S0 "new"]], .tuple [.tuple [], .tuple [S0 "new"], .tuple [S0 "new"]]], .tuple [.tuple [.bool false, .bool false, .bool false], .tuple [.bool false, .bool false, .bool false]], .tuple [S0 "white", S0 "white"], .bool true, .bool true]
def ws1 : List PyData := [.tuple [S0 "last"], .tuple [S0 "write", .int 0, .int 1, S0 "new"], .tuple [S0 "write", .int 0, .int 2, S0 "new"], .tuple [S0 "write", .int 1, .int 1, S0 "new"], .tuple [S0 "write", .int 1, .int 2, S0 "new"]]
theorem good1 : Good (S0 "dijkstra") true bk1 where
  k := by kernel_rfl
  t := fun i => by cases i <;> kernel_rfl
  b := by kernel_rfl
  s := by kernel_rfl
  e := ⟨ws1, by kernel_rfl, by kernel_rfl, fun _ _ _ _ _ _ _ _ _ => by kernel_rfl⟩
def bk2 : PyData := .tuple [.tuple [.tuple [.tuple [], .tuple [], .tuple [S0 "again"]], .tuple [.tuple [], .tuple [], .tuple [S0 "again"]]], .tuple [.tuple [.bool false, .bool false, .bool false], .tuple [.bool false, .bool false, .bool false]], .tuple [S0 "white", S0 "white"], .bool true, .bool false]
def ws2 : List PyData := [.tuple [S0 "last"], .tuple [S0 "write", .int 0, .int 2, S0 "again"], .tuple [S0 "write", .int 1, .int 2, S0 "again"]]
theorem good2 : Good (S0 "steele") false bk2 where
  k := by kernel_rfl
  t := fun i => by cases i <;> kernel_rfl
  b := by kernel_rfl
  s := by kernel_rfl
  e := ⟨ws2, by kernel_rfl, by kernel_rfl, fun _ _ _ _ _ _ _ _ _ => by kernel_rfl⟩
def bk3 : PyData := .tuple [.tuple [.tuple [.tuple [], .tuple [S0 "again"], .tuple [S0 "again"]], .tuple [.tuple [], .tuple [S0 "again"], .tuple [S0 "again"]]], .tuple [.tuple [.bool false, .bool false, .bool false], .tuple [.bool false, .bool false, .bool false]], .tuple [S0 "white", S0 "white"], .bool true, .bool true]
def ws3 : List PyData := [.tuple [S0 "last"], .tuple [S0 "write", .int 0, .int 1, S0 "again"], .tuple [S0 "write", .int 0, .int 2, S0 "again"], .tuple [S0 "write", .int 1, .int 1, S0 "again"], .tuple [S0 "write", .int 1, .int 2, S0 "again"]]
theorem good3 : Good (S0 "steele") true bk3 where
  k := by kernel_rfl
  t := fun i => by cases i <;> kernel_rfl
  b := by kernel_rfl
  s := by kernel_rfl
  e := ⟨ws3, by kernel_rfl, by kernel_rfl, fun _ _ _ _ _ _ _ _ _ => by kernel_rfl⟩
def bk4 : PyData := .tuple [.tuple [.tuple [.tuple [], .tuple [], .tuple []], .tuple [.tuple [S0 "old"], .tuple [S0 "old"], .tuple [S0 "old"]]], .tuple [.tuple [.bool false, .bool false, .bool false], .tuple [.bool false, .bool false, .bool false]], .tuple [S0 "white", S0 "black"], .bool false, .bool false]
def ws4 : List PyData := [.tuple [S0 "make", .int 1], .tuple [S0 "write", .int 1, .int 0, S0 "old"], .tuple [S0 "write", .int 1, .int 1, S0 "old"], .tuple [S0 "write", .int 1, .int 2, S0 "old"]]
theorem good4 : Good (S0 "yuasa") false bk4 where
  k := by kernel_rfl
  t := fun i => by cases i <;> kernel_rfl
  b := by kernel_rfl
  s := by kernel_rfl
  e := ⟨ws4, by kernel_rfl, by kernel_rfl, fun _ _ _ _ _ _ _ _ _ => by kernel_rfl⟩
def bk5 : PyData := .tuple [.tuple [.tuple [.tuple [], .tuple [], .tuple []], .tuple [.tuple [S0 "old"], .tuple [S0 "old"], .tuple [S0 "old"]]], .tuple [.tuple [.bool false, .bool false, .bool false], .tuple [.bool false, .bool false, .bool false]], .tuple [S0 "white", S0 "black"], .bool false, .bool true]
def ws5 : List PyData := [.tuple [S0 "make", .int 1], .tuple [S0 "write", .int 1, .int 0, S0 "old"], .tuple [S0 "write", .int 1, .int 1, S0 "old"], .tuple [S0 "write", .int 1, .int 2, S0 "old"]]
theorem good5 : Good (S0 "yuasa") true bk5 where
  k := by kernel_rfl
  t := fun i => by cases i <;> kernel_rfl
  b := by kernel_rfl
  s := by kernel_rfl
  e := ⟨ws5, by kernel_rfl, by kernel_rfl, fun _ _ _ _ _ _ _ _ _ => by kernel_rfl⟩
def bk6 : PyData := .tuple [.tuple [.tuple [.tuple [], .tuple [], .tuple [S0 "new"]], .tuple [.tuple [], .tuple [], .tuple []]], .tuple [.tuple [.bool false, .bool false, .bool false], .tuple [.bool true, .bool true, .bool false]], .tuple [S0 "white", S0 "black"], .bool false, .bool false]
def ws6 : List PyData := [.tuple [S0 "make", .int 1], .tuple [S0 "read", .int 1, .int 0], .tuple [S0 "read", .int 1, .int 1], .tuple [S0 "write", .int 0, .int 2, S0 "new"]]
theorem good6 : Good (S0 "baker") false bk6 where
  k := by kernel_rfl
  t := fun i => by cases i <;> kernel_rfl
  b := by kernel_rfl
  s := by kernel_rfl
  e := ⟨ws6, by kernel_rfl, by kernel_rfl, fun _ _ _ _ _ _ _ _ _ => by kernel_rfl⟩
def bk7 : PyData := .tuple [.tuple [.tuple [.tuple [], .tuple [S0 "new"], .tuple [S0 "new"]], .tuple [.tuple [], .tuple [], .tuple []]], .tuple [.tuple [.bool false, .bool false, .bool false], .tuple [.bool true, .bool true, .bool false]], .tuple [S0 "white", S0 "black"], .bool false, .bool true]
def ws7 : List PyData := [.tuple [S0 "make", .int 1], .tuple [S0 "read", .int 1, .int 0], .tuple [S0 "read", .int 1, .int 1], .tuple [S0 "write", .int 0, .int 1, S0 "new"], .tuple [S0 "write", .int 0, .int 2, S0 "new"]]
theorem good7 : Good (S0 "baker") true bk7 where
  k := by kernel_rfl
  t := fun i => by cases i <;> kernel_rfl
  b := by kernel_rfl
  s := by kernel_rfl
  e := ⟨ws7, by kernel_rfl, by kernel_rfl, fun _ _ _ _ _ _ _ _ _ => by kernel_rfl⟩
def bk8 : PyData := .tuple [.tuple [.tuple [.tuple [S0 "old"], .tuple [S0 "old"], .tuple [S0 "new"]], .tuple [.tuple [S0 "old"], .tuple [S0 "old"], .tuple []]], .tuple [.tuple [.bool false, .bool false, .bool false], .tuple [.bool false, .bool false, .bool false]], .tuple [S0 "black", S0 "black"], .bool false, .bool false]
def ws8 : List PyData := [.tuple [S0 "make", .int 0], .tuple [S0 "make", .int 1], .tuple [S0 "write", .int 0, .int 0, S0 "old"], .tuple [S0 "write", .int 0, .int 1, S0 "old"], .tuple [S0 "write", .int 0, .int 2, S0 "new"], .tuple [S0 "write", .int 1, .int 0, S0 "old"], .tuple [S0 "write", .int 1, .int 1, S0 "old"]]
theorem good8 : Good (S0 "hybrid") false bk8 where
  k := by kernel_rfl
  t := fun i => by cases i <;> kernel_rfl
  b := by kernel_rfl
  s := by kernel_rfl
  e := ⟨ws8, by kernel_rfl, by kernel_rfl, fun _ _ _ _ _ _ _ _ _ => by kernel_rfl⟩
def bk9 : PyData := .tuple [.tuple [.tuple [.tuple [S0 "old"], .tuple [S0 "new", S0 "old"], .tuple [S0 "new"]], .tuple [.tuple [S0 "old"], .tuple [S0 "old"], .tuple []]], .tuple [.tuple [.bool false, .bool false, .bool false], .tuple [.bool false, .bool false, .bool false]], .tuple [S0 "black", S0 "black"], .bool false, .bool true]
def ws9 : List PyData := [.tuple [S0 "make", .int 0], .tuple [S0 "make", .int 1], .tuple [S0 "write", .int 0, .int 0, S0 "old"], .tuple [S0 "write", .int 0, .int 1, S0 "new"], .tuple [S0 "write", .int 0, .int 1, S0 "old"], .tuple [S0 "write", .int 0, .int 2, S0 "new"], .tuple [S0 "write", .int 1, .int 0, S0 "old"], .tuple [S0 "write", .int 1, .int 1, S0 "old"]]
theorem good9 : Good (S0 "hybrid") true bk9 where
  k := by kernel_rfl
  t := fun i => by cases i <;> kernel_rfl
  b := by kernel_rfl
  s := by kernel_rfl
  e := ⟨ws9, by kernel_rfl, by kernel_rfl, fun _ _ _ _ _ _ _ _ _ => by kernel_rfl⟩
theorem q_totup (ws : List PyData) : primEv .totuple [.lst (ws.map O.dat)] = some (.dat (.tuple ws)) := by
  show ((ws.map O.dat).mapM O.dat?).map oT = _
  rw [mapM_datJ]
  rfl
theorem body_ok {n : PyData} {p : Bool} {d : PyData} (G : Good n p d) (i : Bool) (s j C x7 x8 : Option O) (hs : List O) (hl : hs.length < sizeLine) : evS T lb [s, j, C, some (.lst hs), some (.dat n), some (.dat (.bool p)), some (.dat (.bool i)), x7, x8, none, none] = some (.nx, [s, j, C, some (.lst (hs ++ [.dat (.tuple [d, .str d.shown])])), some (.dat n), some (.dat (.bool p)), some (.dat (.bool i)), some (.dat d), some (.dat d), none, none]) := by
  obtain ⟨ws, w1, w2, w3⟩ := G.e
  have k := G.k
  have t := G.t i
  have b := G.b
  have q1 := q_repr d G.s
  have q2 := q_repr _ w1
  have a1 : ev1 T (smAt lb 0) [s, j, C, some (.lst hs), some (.dat n), some (.dat (.bool p)), some (.dat (.bool i)), x7, x8, none, none] = some (.nx, [s, j, C, some (.lst hs), some (.dat n), some (.dat (.bool p)), some (.dat (.bool i)), some (.dat d), some (.dat d), none, none]) := by
    simp only [lb, bodyOf, b_law, smAt, evS, ev1, ev, evR, evA, evK, evO, evC, List.length, List.map, List.replicate, List.cons_append, List.nil_append, List.append_nil, Ex.quiet, Exs.quiet, Exs.still, Ex.still, Exs.isNil, if_true, bnd_some, fin, Option.bind_some, Option.map_some, O.bool?, List.getElem?_cons_zero, List.getElem?_cons_succ, List.set_cons_zero, List.set_cons_succ, Bool.and_self, Nat.zero_le, reduceCtorEq, if_false, Bool.false_eq_true, truO, q_add, q_mulr, q_mull, q_mod, q_fdiv, q_toint, q_tointb, q_abs, q_ge, q_lt, q_neG, j_g, j_t, j_s, j_setT, j_setS, j_setS1, j_pathIn, j_pathIn1, j_isL, List.isEmpty_nil, List.isEmpty_cons, Bool.not_false, Bool.not_true, Int.reduceLT, Int.reduceLE, Int.reduceNeg, Int.reducePow, and_self, List.getLast?_singleton, List.dropLast_singleton, outsOf, Option.some.injEq, Bool.or_true, Bool.false_or, Bool.or_false, Nat.reduceSub, Nat.reduceAdd, tgEv, ioIn, ioOut, setOs, Ex.nm?, toD_dat, k, t]
    try rfl
  have a2 : ev1 T (smAt lb 1) [s, j, C, some (.lst hs), some (.dat n), some (.dat (.bool p)), some (.dat (.bool i)), some (.dat d), some (.dat d), none, none] = some (.nx, [s, j, C, some (.lst hs), some (.dat n), some (.dat (.bool p)), some (.dat (.bool i)), some (.dat d), some (.dat d), none, none]) := by
    simp only [lb, bodyOf, b_law, smAt, evS, ev1, ev, evR, evA, evK, evO, evC, List.length, List.map, List.replicate, List.cons_append, List.nil_append, List.append_nil, Ex.quiet, Exs.quiet, Exs.still, Ex.still, Exs.isNil, if_true, bnd_some, fin, Option.bind_some, Option.map_some, O.bool?, List.getElem?_cons_zero, List.getElem?_cons_succ, List.set_cons_zero, List.set_cons_succ, Bool.and_self, Nat.zero_le, reduceCtorEq, if_false, Bool.false_eq_true, truO, q_add, q_mulr, q_mull, q_mod, q_fdiv, q_toint, q_tointb, q_abs, q_ge, q_lt, q_neG, j_g, j_t, j_s, j_setT, j_setS, j_setS1, j_pathIn, j_pathIn1, j_isL, List.isEmpty_nil, List.isEmpty_cons, Bool.not_false, Bool.not_true, Int.reduceLT, Int.reduceLE, Int.reduceNeg, Int.reducePow, and_self, List.getLast?_singleton, List.dropLast_singleton, outsOf, Option.some.injEq, Bool.or_true, Bool.false_or, Bool.or_false, Nat.reduceSub, Nat.reduceAdd, tgEv, ioIn, ioOut, setOs, Ex.nm?, toD_dat, b, q1, q_neS, q_notN]
    try rfl
  have a3 : ev1 T (smAt lb 2) [s, j, C, some (.lst hs), some (.dat n), some (.dat (.bool p)), some (.dat (.bool i)), some (.dat d), some (.dat d), none, none] = some (.nx, [s, j, C, some (.lst hs), some (.dat n), some (.dat (.bool p)), some (.dat (.bool i)), some (.dat d), some (.dat d), none, none]) := by
    have w4 := w3 s j C (some (.lst hs)) (some (.dat n)) (some (.dat (.bool p))) (some (.dat (.bool i))) (some (.dat d)) none
    show bnd (ev T .tst (.pr .ne (.cons (.pr .repr (.cons (.call "entries" [false] (.cons (.v 8) .nil)) .nil)) (.cons (.pr .repr (.cons (.pr .totuple (.cons lcE .nil)) .nil)) .nil))) _) _ = _
    have hq : lcE.quiet = true := rfl
    simp only [evS, ev1, ev, evR, evA, evK, evO, evC, List.length, List.map, List.replicate, List.cons_append, List.nil_append, List.append_nil, Ex.quiet, Exs.quiet, Exs.still, Ex.still, Exs.isNil, if_true, bnd_some, fin, Option.bind_some, Option.map_some, O.bool?, List.getElem?_cons_zero, List.getElem?_cons_succ, List.set_cons_zero, List.set_cons_succ, Bool.and_self, Nat.zero_le, reduceCtorEq, if_false, Bool.false_eq_true, truO, q_add, q_mulr, q_mull, q_mod, q_fdiv, q_toint, q_tointb, q_abs, q_ge, q_lt, q_neG, j_g, j_t, j_s, j_setT, j_setS, j_setS1, j_pathIn, j_pathIn1, j_isL, List.isEmpty_nil, List.isEmpty_cons, Bool.not_false, Bool.not_true, Int.reduceLT, Int.reduceLE, Int.reduceNeg, Int.reducePow, and_self, List.getLast?_singleton, List.dropLast_singleton, outsOf, Option.some.injEq, Bool.or_true, Bool.false_or, Bool.or_false, Nat.reduceSub, Nat.reduceAdd, tgEv, ioIn, ioOut, setOs, Ex.nm?, toD_dat, w2, w4, hq, q_totup, q2, q_neS]
    try rfl
  rw [lb_eq]
  simp only [evS]
  rw [a1, bnd_some]
  dsimp only
  rw [a2, bnd_some]
  dsimp only
  rw [a3, bnd_some]
  dsimp only
  have a4 : ev1 T (smAt lb 3) [s, j, C, some (.lst hs), some (.dat n), some (.dat (.bool p)), some (.dat (.bool i)), some (.dat d), some (.dat d), none, none] = some (.nx, [s, j, C, some (.lst (hs ++ [.dat (.tuple [d, .str d.shown])])), some (.dat n), some (.dat (.bool p)), some (.dat (.bool i)), some (.dat d), some (.dat d), none, none]) := by
    have m := m_app hs (.dat (.tuple [d, .str d.shown])) hl
    have z : (2 : Nat) ≤ sizeLine := by decide
    have z2 : ([d, .str d.shown] : List PyData).length ≤ sizeLine := z
    simp only [lb, bodyOf, b_law, smAt, evS, ev1, ev, evR, evA, evK, evO, evC, List.length, List.map, List.replicate, List.cons_append, List.nil_append, List.append_nil, Ex.quiet, Exs.quiet, Exs.still, Ex.still, Exs.isNil, if_true, bnd_some, fin, Option.bind_some, Option.map_some, O.bool?, List.getElem?_cons_zero, List.getElem?_cons_succ, List.set_cons_zero, List.set_cons_succ, Bool.and_self, Nat.zero_le, reduceCtorEq, if_false, Bool.false_eq_true, truO, q_add, q_mulr, q_mull, q_mod, q_fdiv, q_toint, q_tointb, q_abs, q_ge, q_lt, q_neG, j_g, j_t, j_s, j_setT, j_setS, j_setS1, j_pathIn, j_pathIn1, j_isL, List.isEmpty_nil, List.isEmpty_cons, Bool.not_false, Bool.not_true, Int.reduceLT, Int.reduceLE, Int.reduceNeg, Int.reducePow, and_self, List.getLast?_singleton, List.dropLast_singleton, outsOf, Option.some.injEq, Bool.or_true, Bool.false_or, Bool.or_false, Nat.reduceSub, Nat.reduceAdd, tgEv, pathIn, pathO, O.isList, O.toDs, toD_dat, q1, z, m]
    try rfl
  rw [a4, bnd_some]
end GB.K13

namespace GB.K13
open PySem PySem.Spec PyProof.Rows L2 GB
def calls : List PyData := [.tuple [S0 "dijkstra", .bool false, .bool false], .tuple [S0 "dijkstra", .bool false, .bool true], .tuple [S0 "dijkstra", .bool true, .bool false], .tuple [S0 "dijkstra", .bool true, .bool true], .tuple [S0 "steele", .bool false, .bool false], .tuple [S0 "steele", .bool false, .bool true], .tuple [S0 "steele", .bool true, .bool false], .tuple [S0 "steele", .bool true, .bool true], .tuple [S0 "yuasa", .bool false, .bool false], .tuple [S0 "yuasa", .bool false, .bool true], .tuple [S0 "yuasa", .bool true, .bool false], .tuple [S0 "yuasa", .bool true, .bool true], .tuple [S0 "baker", .bool false, .bool false], .tuple [S0 "baker", .bool false, .bool true], .tuple [S0 "baker", .bool true, .bool false], .tuple [S0 "baker", .bool true, .bool true], .tuple [S0 "hybrid", .bool false, .bool false], .tuple [S0 "hybrid", .bool false, .bool true], .tuple [S0 "hybrid", .bool true, .bool false], .tuple [S0 "hybrid", .bool true, .bool true]]
theorem step2 (s j : O) : ev1 T (smAt b_law 1) [some s, some j, some (.lst []), some (.lst []), none, none, none, none, none, none, none] = some (.nx, [some s, some j, some (.lst (calls.map O.dat)), some (.lst []), some (.dat (S0 "hybrid")), some (.dat (.bool true)), none, none, none, none, none]) := by kernel_rfl
def IsCall (c : PyData) : Prop := ∃ n p i d, Good n p d ∧ c = .tuple [n, .bool p, .bool i]
def IsItem (h : PyData) : Prop := ∃ n p d, Good n p d ∧ h = .tuple [d, .str d.shown]
theorem calls_ok : ∀ c ∈ calls, IsCall c := by
  intro c h
  simp only [calls, List.mem_cons, List.not_mem_nil, or_false] at h
  rcases h with rfl | rfl | rfl | rfl | rfl | rfl | rfl | rfl | rfl | rfl | rfl | rfl | rfl | rfl | rfl | rfl | rfl | rfl | rfl | rfl
  · exact ⟨_, _, _, _, good0, rfl⟩
  · exact ⟨_, _, _, _, good0, rfl⟩
  · exact ⟨_, _, _, _, good1, rfl⟩
  · exact ⟨_, _, _, _, good1, rfl⟩
  · exact ⟨_, _, _, _, good2, rfl⟩
  · exact ⟨_, _, _, _, good2, rfl⟩
  · exact ⟨_, _, _, _, good3, rfl⟩
  · exact ⟨_, _, _, _, good3, rfl⟩
  · exact ⟨_, _, _, _, good4, rfl⟩
  · exact ⟨_, _, _, _, good4, rfl⟩
  · exact ⟨_, _, _, _, good5, rfl⟩
  · exact ⟨_, _, _, _, good5, rfl⟩
  · exact ⟨_, _, _, _, good6, rfl⟩
  · exact ⟨_, _, _, _, good6, rfl⟩
  · exact ⟨_, _, _, _, good7, rfl⟩
  · exact ⟨_, _, _, _, good7, rfl⟩
  · exact ⟨_, _, _, _, good8, rfl⟩
  · exact ⟨_, _, _, _, good8, rfl⟩
  · exact ⟨_, _, _, _, good9, rfl⟩
  · exact ⟨_, _, _, _, good9, rfl⟩
theorem calls_plain : PyData.plainAll calls = true := by kernel_rfl
theorem loop_ok (s j C : Option O) : ∀ (xs hs : List PyData) (x4 x5 x6 x7 x8 : Option O), (∀ c ∈ xs, IsCall c) → (∀ h ∈ hs, IsItem h) → hs.length + xs.length ≤ 1000 →
    ∃ (hs' : List PyData) (y4 y5 y6 y7 y8 : Option O), (∀ h ∈ hs', IsItem h) ∧ forL (fun x t2 => (tgEv (.tup [4, 5, 6]) x t2).bind fun t3 => evS T lb t3) xs [s, j, C, some (.lst (hs.map O.dat)), x4, x5, x6, x7, x8, none, none] = some (.nx, [s, j, C, some (.lst (hs'.map O.dat)), y4, y5, y6, y7, y8, none, none])
  | [], hs, x4, x5, x6, x7, x8, _, hh, _ => ⟨hs, x4, x5, x6, x7, x8, hh, rfl⟩
  | c :: xs, hs, x4, x5, x6, x7, x8, hc, hh, hl => by
    obtain ⟨n, p, i, d, G, rfl⟩ := hc c (by simp)
    simp only [List.length_cons] at hl
    have hlen : (hs.map O.dat).length < sizeLine := by
      rw [List.length_map]
      exact Nat.lt_of_le_of_lt (by omega : hs.length ≤ 1000) (by decide)
    have e := body_ok G i s j C x7 x8 (hs.map O.dat) hlen
    obtain ⟨hs', y4, y5, y6, y7, y8, h1, h2⟩ := loop_ok s j C xs (hs ++ [.tuple [d, .str d.shown]]) (some (.dat n)) (some (.dat (.bool p))) (some (.dat (.bool i))) (some (.dat d)) (some (.dat d)) (fun c h => hc c (by simp [h])) (fun h hm => by
      rcases List.mem_append.mp hm with hm | hm
      · exact hh h hm
      · exact ⟨n, p, d, G, List.mem_singleton.mp hm⟩) (by rw [List.length_append, List.length_singleton]; omega)
    refine ⟨hs', y4, y5, y6, y7, y8, h1, ?_⟩
    simp only [forL, tgEv, setAll, Option.bind_some, List.set_cons_succ, List.set_cons_zero]
    rw [e, bnd_some]
    rw [List.map_append] at h2
    exact h2
theorem step3 (s j : O) (hj : JarOk j) : ∃ (hs : List PyData) (j' : O) (C y4 y5 y6 y7 y8 : Option O), (∀ h ∈ hs, IsItem h) ∧ ev1 T (smAt b_law 2) [some s, some j, some (.lst (calls.map O.dat)), some (.lst []), some (.dat (S0 "hybrid")), some (.dat (.bool true)), none, none, none, none, none] = some (.nx, [some s, some j', C, some (.lst (hs.map O.dat)), y4, y5, y6, y7, y8, none, none]) := by
  obtain ⟨j1, f1, k1, p1, e1⟩ := jMixed_ok _ _ ap_draw hj calls calls_plain (by decide)
  obtain ⟨j2, f2, k2, p2, e2⟩ := jMixed_ok _ _ ap_draw k1 calls calls_plain (by decide)
  rw [← ap_mixed] at e1 e2
  have l1 : f1.length = 20 := p1.length_eq
  have l2 : (cutL f2 none (some 7)).length ≤ 20 := by
    unfold cutL
    refine Nat.le_trans (List.length_take_le' _ _) ?_
    rw [List.length_drop, p2.length_eq]
    exact Nat.sub_le _ _
  have m2 : ∀ c ∈ cutL f2 none (some 7), c ∈ f2 := fun c h => List.mem_of_mem_drop (List.mem_of_mem_take h)
  obtain ⟨hs, y4, y5, y6, y7, y8, h1, h2⟩ := loop_ok (some s) (some j2) (some (.dat (.list calls))) (f1 ++ cutL f2 none (some 7)) [] (some (.dat (S0 "hybrid"))) (some (.dat (.bool true))) none none none (fun c h => by
    rcases List.mem_append.mp h with h | h
    · exact calls_ok c (p1.mem_iff.mp h)
    · exact calls_ok c (p2.mem_iff.mp (m2 c h))) (by simp) (by rw [List.length_append]; simp only [List.length_nil]; omega)
  refine ⟨hs, j2, _, y4, y5, y6, y7, y8, h1, Eq.trans ?_ h2⟩
  have q1 : primEv (.slc false true) [.lst (f2.map O.dat), .dat (.int 7)] = some (.lst ((cutL f2 none (some 7)).map O.dat)) := by
    show (((f2.map O.dat).mapM O.dat?).map fun ds => oL (cutL ds none (some 7))) = _
    rw [mapM_datJ]
    rfl
  have q2 : primEv .add [.lst (f1.map O.dat), .lst ((cutL f2 none (some 7)).map O.dat)] = some (.lst ((f1 ++ cutL f2 none (some 7)).map O.dat)) := by
    show (match (f1.map O.dat).mapM O.dat?, ((cutL f2 none (some 7)).map O.dat).mapM O.dat? with
      | some xs, some ys => if xs.length + ys.length ≤ sizeLine then some (oL (xs ++ ys)) else none
      | _, _ => none) = _
    rw [mapM_datJ, mapM_datJ]
    show (if f1.length + (cutL f2 none (some 7)).length ≤ sizeLine then some (oL (f1 ++ cutL f2 none (some 7))) else none) = _
    rw [if_pos (Nat.le_trans (by omega : _ ≤ 40) (by decide))]
  have t1 : (O.lst (calls.map O.dat)).toD = .list calls := congrArg PyData.list (toDs_dat calls)
  have t2 : (O.lst ((f1 ++ cutL f2 none (some 7)).map O.dat)).toD = .list (f1 ++ cutL f2 none (some 7)) := congrArg PyData.list (toDs_dat _)
  show bnd (evO T (.cons (.pr .add (.cons (.call "_law_mixed" [true, false] (.cons (.v 1) (.cons (.v 2) .nil))) (.cons (.pr (.slc false true) (.cons (.call "_law_mixed" [true, false] (.cons (.v 1) (.cons (.v 2) .nil))) (.cons (.k (.int 7)) .nil))) .nil))) .nil) _) (fun os t1 => (itEv .seq os).bind fun xs => forL (fun x t2 => (tgEv (.tup [4, 5, 6]) x t2).bind fun t3 => evS T lb t3) xs t1) = _
  have e : evO T (.cons (.pr .add (.cons (.call "_law_mixed" [true, false] (.cons (.v 1) (.cons (.v 2) .nil))) (.cons (.pr (.slc false true) (.cons (.call "_law_mixed" [true, false] (.cons (.v 1) (.cons (.v 2) .nil))) (.cons (.k (.int 7)) .nil))) .nil))) .nil) [some s, some j, some (.lst (calls.map O.dat)), some (.lst []), some (.dat (S0 "hybrid")), some (.dat (.bool true)), none, none, none, none, none] = some ([.dat (.list (f1 ++ cutL f2 none (some 7)))], [some s, some j2, some (.dat (.list calls)), some (.lst []), some (.dat (S0 "hybrid")), some (.dat (.bool true)), none, none, none, none, none]) := by
    simp only [evS, ev1, ev, evR, evA, evK, evO, evC, List.length, List.map, List.replicate, List.cons_append, List.nil_append, List.append_nil, Ex.quiet, Exs.quiet, Exs.still, Ex.still, Exs.isNil, if_true, bnd_some, fin, Option.bind_some, Option.map_some, O.bool?, List.getElem?_cons_zero, List.getElem?_cons_succ, List.set_cons_zero, List.set_cons_succ, Bool.and_self, Nat.zero_le, reduceCtorEq, if_false, Bool.false_eq_true, truO, q_add, q_mulr, q_mull, q_mod, q_fdiv, q_toint, q_tointb, q_abs, q_ge, q_lt, q_neG, j_g, j_t, j_s, j_setT, j_setS, j_setS1, j_pathIn, j_pathIn1, j_isL, List.isEmpty_nil, List.isEmpty_cons, Bool.not_false, Bool.not_true, Int.reduceLT, Int.reduceLE, Int.reduceNeg, Int.reducePow, and_self, List.getLast?_singleton, List.dropLast_singleton, outsOf, Option.some.injEq, Bool.or_true, Bool.false_or, Bool.or_false, Nat.reduceSub, Nat.reduceAdd, tgEv, ioIn, ioOut, Ex.nm?, toD_dat, t1, t2, e1, e2, q1, q2, List.all_cons, List.all_nil, Bool.not_false, Bool.not_true, Bool.false_and, Bool.and_true, Bool.and_false]
    try rfl
  rw [e, bnd_some]
  rfl
def lcF (x : PyData) (t2 : SO) : Option (Option O × SO) := (tgEv (.tup [8, 9]) x t2).bind fun t3 => bnd (ev T .tst (.pr .ne (.cons (.pr .repr (.cons (.v 8) .nil)) (.cons (.v 9) .nil))) t3) fun b t4 =>
        if b.bool? = some true then bnd (ev T .own (.k (.int 1)) t4) fun o t5 => some (some o, wipeO t5 [8, 9]) else some (none, wipeO t4 [8, 9])
theorem last_ok (a b c d e f g h : Option O) : ∀ hs : List PyData, (∀ x ∈ hs, IsItem x) → compL lcF hs [a, b, c, d, e, f, g, h, none, none, none] = some ([], [a, b, c, d, e, f, g, h, none, none, none])
  | [], _ => rfl
  | x :: hs, hi => by
    obtain ⟨n, p, w, G, rfl⟩ := hi x (by simp)
    have q1 := q_repr w G.s
    have e1 : lcF (.tuple [w, .str w.shown]) [a, b, c, d, e, f, g, h, none, none, none] = some (none, [a, b, c, d, e, f, g, h, none, none, none]) := by
      simp only [lcF, setAll, evS, ev1, ev, evR, evA, evK, evO, evC, List.length, List.map, List.replicate, List.cons_append, List.nil_append, List.append_nil, Ex.quiet, Exs.quiet, Exs.still, Ex.still, Exs.isNil, if_true, bnd_some, fin, Option.bind_some, Option.map_some, O.bool?, List.getElem?_cons_zero, List.getElem?_cons_succ, List.set_cons_zero, List.set_cons_succ, Bool.and_self, Nat.zero_le, reduceCtorEq, if_false, Bool.false_eq_true, truO, q_add, q_mulr, q_mull, q_mod, q_fdiv, q_toint, q_tointb, q_abs, q_ge, q_lt, q_neG, j_g, j_t, j_s, j_setT, j_setS, j_setS1, j_pathIn, j_pathIn1, j_isL, List.isEmpty_nil, List.isEmpty_cons, Bool.not_false, Bool.not_true, Int.reduceLT, Int.reduceLE, Int.reduceNeg, Int.reducePow, and_self, List.getLast?_singleton, List.dropLast_singleton, outsOf, Option.some.injEq, Bool.or_true, Bool.false_or, Bool.or_false, Nat.reduceSub, Nat.reduceAdd, tgEv, q1, q_neS, wipeO]
      try rfl
    unfold compL
    rw [e1, bnd_some, last_ok a b c d e f g h hs fun x h => hi x (by simp [h])]
    rfl
theorem step4 (s j : O) (C y4 y5 y6 y7 y8 : Option O) (hs : List PyData) (hi : ∀ h ∈ hs, IsItem h) : ∃ t, ev1 T (smAt b_law 3) [some s, some j, C, some (.lst (hs.map O.dat)), y4, y5, y6, y7, y8, none, none] = some (.rt (oB true), t) ∧ outsOf [false] t = some [] := by
  have e := last_ok (some s) (some j) C (some (.dat (.list hs))) y4 y5 y6 y7 hs hi
  have t1 : (O.lst (hs.map O.dat)).toD = .list hs := congrArg PyData.list (toDs_dat hs)
  have el : ev T .bor (.lc (.k (.int 1)) (.tup [8, 9]) .seq (.cons (.v 3) .nil) (.pr .ne (.cons (.pr .repr (.cons (.v 8) .nil)) (.cons (.v 9) .nil))) [8, 9]) [some s, some j, C, some (.lst (hs.map O.dat)), y4, y5, y6, y7, y8, none, none] = some (.lst [], restO [some s, some j, C, some (.dat (.list hs)), y4, y5, y6, y7, y8, none, none] [some s, some j, C, some (.dat (.list hs)), y4, y5, y6, y7, none, none, none] [8, 9]) := by
    have st : wipeO ([some s, some j, C, some (.lst (hs.map O.dat)), y4, y5, y6, y7, y8, none, none].set 3 (some (.dat (O.lst (hs.map O.dat)).toD))) [8, 9] = [some s, some j, C, some (.dat (.list hs)), y4, y5, y6, y7, none, none, none] := by
      rw [t1]
      rfl
    show bnd (compL lcF (O.toDs (hs.map O.dat)) (wipeO ([some s, some j, C, some (.lst (hs.map O.dat)), y4, y5, y6, y7, y8, none, none].set 3 (some (.dat (O.lst (hs.map O.dat)).toD))) [8, 9])) _ = _
    rw [toDs_dat, st, e, bnd_some, t1]
    rfl
  refine ⟨restO [some s, some j, C, some (.dat (.list hs)), y4, y5, y6, y7, y8, none, none] [some s, some j, C, some (.dat (.list hs)), y4, y5, y6, y7, none, none, none] [8, 9], ?_, rfl⟩
  show bnd (bnd (bnd (ev T .bor (.lc (.k (.int 1)) (.tup [8, 9]) .seq (.cons (.v 3) .nil) (.pr .ne (.cons (.pr .repr (.cons (.v 8) .nil)) (.cons (.v 9) .nil))) [8, 9]) _) _) _) _ = _
  rw [el, bnd_some]
  rfl
theorem law_true (ns : List Int) (h : ns.length ≤ 63) : runAt (gcT gcs) nf 22 d_law.name [.dat (.list (ns.map .int))] = some (oB true, []) := by
  obtain ⟨j, hj, ej⟩ := jJar_ok (tab (gcT gcs) nf 0) 150286 ns
  rw [← ap_jar] at ej
  have s1 := step1 _ j _ rfl ej
  have s2 := step2 (.dat (.list (ns.map .int))) j
  obtain ⟨hs, j', C, y4, y5, y6, y7, y8, hi, s3⟩ := step3 (.dat (.list (ns.map .int))) j hj
  obtain ⟨t, s4, ot⟩ := step4 (.dat (.list (ns.map .int))) j' C y4 y5 y6 y7 y8 hs hi
  have e : evS T b_law [some (.dat (.list (ns.map .int))), none, none, none, none, none, none, none, none, none, none] = some (.rt (oB true), t) := by
    rw [b_eq]
    simp only [evS]
    rw [s1, bnd_some]
    dsimp only
    rw [s2, bnd_some]
    dsimp only
    rw [s3, bnd_some]
    dsimp only
    rw [s4, bnd_some]
  have r : runAt (gcT gcs) nf 22 d_law.name [.dat (.list (ns.map .int))] = evF T f_law [.dat (.list (ns.map .int))] := by kernel_rfl
  rw [r]
  show (match evS T b_law [some (.dat (.list (ns.map .int))), none, none, none, none, none, none, none, none, none, none] with
    | some (.rt o, t) => (outsOf [false] t).map (o, ·)
    | some (.nx, t) => (outsOf [false] t).map (.dat .none, ·)
    | _ => none) = _
  rw [e]
  show (outsOf [false] t).map (oB true, ·) = _
  rw [ot]
  rfl
end GB.K13

namespace GB.K13
open PySem PySem.Spec PyProof.Rows L2 GB
abbrev R : PySem.W.OpenRow := PySem.W.OpenLaw.row PySem.Challenge.rw_guardbooks_k13_whole_known_books
abbrev hk : PySem.W.Hook := hookG 6 (faOf ds) (ds.map DS.d) gcs
def ob (s : PySem.W.SharedT) : He.AlD × Bool := obsG 6 (faOf ds) (ds.map DS.d) gcs (HandSHeadRun.getT s)
theorem ob_eq (s : PySem.W.SharedT) : ob s = hk.obs s.abs := obsG_eq (HandSHeadRun.getT_eq s)
theorem run (w : World) : HandSHeadRun.RunEq R (PySem.W.view R.prog [32]) hk ob 1000 ["WORDS", "COLOURS", "NOTHING_READ", "BOTH_WHITE", "LAST_PART", "PIECES_PART", "ALL_ENTRIES", "is_guard", "is_table", "has_form", "table_error", "book_error", "has_entry", "entries", "NO_GUARDS", "guards_of_scanned", "dijkstra", "steele", "yuasa", "baker", "hybrid", "_law_jar", "_law_draw", "_law_mixed", "_law_put", "_law_all", "_law_has", "_law_known", "_law_told"] w := by
  intro os
  kernel_rfl
theorem nf_at : ∀ i d, ds[i]? = some d → nf[i]? = some (d.name, sig ds gcs 60 i d) := by
  intro i d h
  rw [nf_eq, List.getElem?_mapIdx, h]
  rfl
end GB.K13
open PySem PySem.W PySem.Calls PyProof.Rows
theorem PySem.Challenge.cw_guardbooks_k13_whole_known_books_holds : PySem.Challenge.rw_guardbooks_k13_whole_known_books.Holds := by
  w_on; o_law
  refine HandSHeadRun.head_any (r := OpenLaw.row PySem.Challenge.rw_guardbooks_k13_whole_known_books) (q := view (OpenLaw.row PySem.Challenge.rw_guardbooks_k13_whole_known_books).prog [32]) (H := GB.K13.hk) (ob := GB.K13.ob) (M := 1000) (loose := ["WORDS", "COLOURS", "NOTHING_READ", "BOTH_WHITE", "LAST_PART", "PIECES_PART", "ALL_ENTRIES", "is_guard", "is_table", "has_form", "table_error", "book_error", "has_entry", "entries", "NO_GUARDS", "guards_of_scanned", "dijkstra", "steele", "yuasa", "baker", "hybrid", "_law_jar", "_law_draw", "_law_mixed", "_law_put", "_law_all", "_law_has", "_law_known", "_law_told"]) (d := HandSHeadRun.topDef (OpenLaw.row PySem.Challenge.rw_guardbooks_k13_whole_known_books).prog 32) (kwd := []) GB.K13.ob_eq
    (by kernel_rfl) (fun s => by kernel_rfl) GB.K13.run (by kernel_rfl) (by kernel_rfl) (by kernel_rfl) (by rfl) (by first | assumption | decide +kernel) (by decide +kernel) ⟨rfl, rfl, rfl, rfl, rfl, by decide +kernel⟩ ?hw ?hc
  case hw => w_witness2
  case hc => exact GB.walk_G (l := PySem.Challenge.rw_guardbooks_k13_whole_known_books) (ds := GB.K13.ds) (nf := GB.K13.nf) (gcs := GB.K13.gcs) (fu := 60) (m := 6) (i := 21) (d := GB.K13.d_law) (x := "script") rfl (by kernel_rfl) ⟨rfl, by decide, by decide⟩ GB.K13.ok_all (by decide +kernel) rfl GB.K13.nf_at rfl rfl rfl (by kernel_rfl) GB.K13.law_true

