import PyProof.Rows.All
import Wide.All
import OpenK.AllK
import Wide.FinOn
import HandS.ForMost
import HandS.Deep
import HandS.Zip
import HandS.Exc
import KE.GoesNew
import KE.GoesMore
import HandS.TupAny
import HandS.Wide
import HandS.Style
import HandS.Text
import HandS.IsInst
import HandS.Conv
import HandS.WordsExc
import HandS.ExcIs
import HandS.HeadHook1
import HandS.SetFor
import HandS.Strs
import HandS.Replace
import HandS.ReplaceLit
import PyProof.ToksMono
import HandS.Ends
import HandS.HeadEnd
import PyProof.ReprRoads
import PyProof.CallFns
import HandS.Sort
import HandS.Rev
import HandS.RevTup
import KE.LtData
import HandS.Head0
import HandS.Head1
import HandS.Head2
import PySem.Challenge.RW_weighwalk_k19_least_best_ways
import PyProof.StrLawsFirst
import PyProof.StrLawsIn
import PyProof.ReprLen
import PyProof.Rows.StrDigits
section
set_option Elab.async false
set_option linter.all false
set_option maxRecDepth 100000
/-! DL1: plain data over the hand layer: what stands for a value, slots, the canonical readings. -/
namespace DL
open PySem PySem.Spec PyProof.Rows L2

/-- the module's names, its written part -/
structure Gx where
  mg : Str → Option Value
  K : PySem.W.Frag
abbrev GX (X : Cx) : Gx := ⟨X.mg, X.K⟩
/-- a list of the written part -/
def KL (K : PySem.W.Frag) (a : Addr) (xs : List V) : Prop := ∃ (o : Obj) (its : Array Value) (n : Nat), K.lookup a = some o ∧ o.cls = .type "list" ∧ o.dict = none ∧ o.data = .seq its n ∧ its.size ≤ sizeLine ∧ Vals xs its.toList
/-- plain data -/
inductive D where
  | non | bl (b : Bool) | int (i : Int) | str (s : Str)
  | tup (ds : List D) | lst (ds : List D)
  | dct (ks : List Key) (ds : List D)
  | obj (c : Str) (fn : List Str) (ds : List D)
  | scr (ns : List Int)
  /-- a tuple whose very object is known -/
  | tpx (ds : List D)
  | opq (v : V)
  deriving Inhabited

section
variable (mg : Gx)
mutual
/-- d stands at v; nothing of it lies at an address of A -/
def Rep (A : Addr → Prop) (H : Hp) : D → V → Prop
  | .non, v => v = .non
  | .bl b, v => v = .bl b
  | .int i, v => v = .int i
  | .str s, v => v = .str s
  | .tup ds, v => ∃ a xs, v = .ref a ∧ ¬ A a ∧ H a = some (.tup xs) ∧ Reps A H ds xs
  | .lst ds, v => ∃ a xs, v = .ref a ∧ ¬ A a ∧ H a = some (.lst xs) ∧ Reps A H ds xs
  | .dct ks ds, v => ∃ a kvs, v = .ref a ∧ ¬ A a ∧ Rd H a (.dK kvs) ∧ kvs.map (·.1) = ks ∧ Reps A H ds (kvs.map (·.2))
  | .obj c fn ds, v => ∃ a C dx fs, v = .ref a ∧ ¬ A a ∧ mg.mg c = some (.ref C) ∧ H a = some (.ins C dx fs) ∧ fs.map (·.1) = fn ∧ Reps A H ds (fs.map (·.2))
  | .scr ns, v => ∃ a, v = .ref a ∧ ((¬ A a ∧ Rd H a (.lst (ns.map .int))) ∨ KL mg.K a (ns.map .int))
  | .tpx ds, v => ∃ a xs o, v = .ref a ∧ ¬ A a ∧ H a = some (.frz o (.tup xs)) ∧ o.dict = none ∧ Reps A H ds xs
  | .opq u, v => v = u
def Reps (A : Addr → Prop) (H : Hp) : List D → List V → Prop
  | [], vs => vs = []
  | d :: ds, vs => ∃ x xs, vs = x :: xs ∧ Rep A H d x ∧ Reps A H ds xs
end
end

/-- what stood and was not forbidden stands, and is not forbidden -/
def Ext (A : Addr → Prop) (H : Hp) (A' : Addr → Prop) (H' : Hp) : Prop := ∀ a o, H a = some o → ¬ A a → H' a = some o ∧ ¬ A' a
theorem Ext.refl {A H} : Ext A H A H := fun _ _ h n => ⟨h, n⟩
theorem Ext.trans {A H A1 H1 A2 H2} (x : Ext A H A1 H1) (y : Ext A1 H1 A2 H2) : Ext A H A2 H2 := fun a o h n => let ⟨h1, n1⟩ := x a o h n; y a o h1 n1
theorem Ext.rd {A H A' H' a u} (x : Ext A H A' H') (n : ¬ A a) (h : Rd H a u) : Rd H' a u ∧ ¬ A' a := by
  rcases h with h | ⟨o, h⟩
  · exact ⟨.inl (x _ _ h n).1, (x _ _ h n).2⟩
  · exact ⟨.inr ⟨o, (x _ _ h n).1⟩, (x _ _ h n).2⟩
section
variable {mg : Gx} {A A' : Addr → Prop} {H H' : Hp}
mutual
theorem Rep.ext (x : Ext A H A' H') : ∀ {d : D} {v : V}, Rep mg A H d v → Rep mg A' H' d v
  | .non, _, h => by simpa [Rep] using h
  | .bl _, _, h => by simpa [Rep] using h
  | .int _, _, h => by simpa [Rep] using h
  | .str _, _, h => by simpa [Rep] using h
  | .tup ds, v, h => by
    simp only [Rep] at h ⊢
    obtain ⟨a, xs, e, n, r, hs⟩ := h
    obtain ⟨r', n'⟩ := x _ _ r n
    exact ⟨a, xs, e, n', r', Reps.ext x hs⟩
  | .lst ds, v, h => by
    simp only [Rep] at h ⊢
    obtain ⟨a, xs, e, n, r, hs⟩ := h
    obtain ⟨r', n'⟩ := x _ _ r n
    exact ⟨a, xs, e, n', r', Reps.ext x hs⟩
  | .dct ks ds, v, h => by
    simp only [Rep] at h ⊢
    obtain ⟨a, xs, e, n, r, hk, hs⟩ := h
    obtain ⟨r', n'⟩ := x.rd n r
    exact ⟨a, xs, e, n', r', hk, Reps.ext x hs⟩
  | .obj c fn ds, v, h => by
    simp only [Rep] at h ⊢
    obtain ⟨a, C, dx, fs, e, n, hm, r, hk, hs⟩ := h
    obtain ⟨r', n'⟩ := x _ _ r n
    exact ⟨a, C, dx, fs, e, n', hm, r', hk, Reps.ext x hs⟩
  | .scr ns, v, h => by
    simp only [Rep] at h ⊢
    obtain ⟨a, e, r⟩ := h
    rcases r with ⟨n, r⟩ | r
    · exact ⟨a, e, .inl ⟨(x.rd n r).2, (x.rd n r).1⟩⟩
    · exact ⟨a, e, .inr r⟩
  | .tpx ds, v, h => by
    simp only [Rep] at h ⊢
    obtain ⟨a, xs, o, e, n, r, hd, hs⟩ := h
    obtain ⟨r', n'⟩ := x _ _ r n
    exact ⟨a, xs, o, e, n', r', hd, Reps.ext x hs⟩
  | .opq u, v, h => by simpa [Rep] using h
theorem Reps.ext (x : Ext A H A' H') : ∀ {ds : List D} {vs : List V}, Reps mg A H ds vs → Reps mg A' H' ds vs
  | [], _, h => by simpa [Reps] using h
  | d :: ds, vs, h => by
    simp only [Reps] at h ⊢
    obtain ⟨v, r, e, h1, h2⟩ := h
    exact ⟨v, r, e, Rep.ext x h1, Reps.ext x h2⟩
end
theorem Reps.nil : Reps mg A H [] [] := by simp [Reps]
theorem Reps.cons {d v ds vs} (h : Rep mg A H d v) (t : Reps mg A H ds vs) : Reps mg A H (d :: ds) (v :: vs) := by
  simp only [Reps]; exact ⟨v, vs, rfl, h, t⟩
theorem Reps.length : ∀ {ds : List D} {vs : List V}, Reps mg A H ds vs → vs.length = ds.length
  | [], _, h => by simp [Reps] at h; simp [h]
  | d :: ds, vs, h => by
    simp only [Reps] at h
    obtain ⟨v, r, rfl, _, h2⟩ := h
    simp [Reps.length h2]
theorem Reps.get : ∀ {ds : List D} {vs : List V} {i : Nat} {d : D}, Reps mg A H ds vs → ds[i]? = some d → ∃ v, vs[i]? = some v ∧ Rep mg A H d v
  | [], _, i, d, h, e => by simp at e
  | d' :: ds, vs, 0, d, h, e => by
    simp only [Reps] at h
    obtain ⟨v, r, rfl, h1, _⟩ := h
    simp at e; subst e
    exact ⟨v, by simp, h1⟩
  | d' :: ds, vs, i + 1, d, h, e => by
    simp only [Reps] at h
    obtain ⟨v, r, rfl, _, h2⟩ := h
    obtain ⟨w, h3, h4⟩ := Reps.get (i := i) h2 (by simpa using e)
    exact ⟨w, by simpa using h3, h4⟩
theorem Reps.get' : ∀ {ds : List D} {vs : List V} {i : Nat} {v : V}, Reps mg A H ds vs → vs[i]? = some v → ∃ d, ds[i]? = some d ∧ Rep mg A H d v
  | [], vs, i, v, h, e => by simp [Reps] at h; subst h; simp at e
  | d' :: ds, vs, 0, v, h, e => by
    simp only [Reps] at h
    obtain ⟨v', r, rfl, h1, _⟩ := h
    simp at e; subst e
    exact ⟨d', by simp, h1⟩
  | d' :: ds, vs, i + 1, v, h, e => by
    simp only [Reps] at h
    obtain ⟨v', r, rfl, _, h2⟩ := h
    obtain ⟨w, h3, h4⟩ := Reps.get' (i := i) h2 (by simpa using e)
    exact ⟨w, by simpa using h3, h4⟩
theorem Reps.append : ∀ {ds es : List D} {vs ws : List V}, Reps mg A H ds vs → Reps mg A H es ws → Reps mg A H (ds ++ es) (vs ++ ws)
  | [], es, vs, ws, h, t => by simp [Reps] at h; subst h; simpa using t
  | d :: ds, es, vs, ws, h, t => by
    simp only [Reps] at h
    obtain ⟨v, r, rfl, h1, h2⟩ := h
    exact Reps.cons h1 (Reps.append h2 t)
theorem Reps.take : ∀ {ds : List D} {vs : List V} (n : Nat), Reps mg A H ds vs → Reps mg A H (ds.take n) (vs.take n)
  | [], vs, n, h => by simp [Reps] at h; subst h; simp [Reps]
  | d :: ds, vs, 0, h => by simp [Reps]
  | d :: ds, vs, n + 1, h => by
    simp only [Reps] at h
    obtain ⟨v, r, rfl, h1, h2⟩ := h
    exact Reps.cons h1 (Reps.take n h2)
theorem Reps.drop : ∀ {ds : List D} {vs : List V} (n : Nat), Reps mg A H ds vs → Reps mg A H (ds.drop n) (vs.drop n)
  | [], vs, n, h => by simp [Reps] at h; subst h; simp [Reps]
  | d :: ds, vs, 0, h => by simpa using h
  | d :: ds, vs, n + 1, h => by
    simp only [Reps] at h
    obtain ⟨v, r, rfl, h1, h2⟩ := h
    simpa using Reps.drop n h2
theorem Reps.set : ∀ {ds : List D} {vs : List V} {d : D} {v : V} (n : Nat), Reps mg A H ds vs → Rep mg A H d v → Reps mg A H (ds.set n d) (vs.set n v)
  | [], vs, _, _, n, h, _ => by simp [Reps] at h; subst h; simp [Reps]
  | d :: ds, vs, _, _, 0, h, q => by
    simp only [Reps] at h
    obtain ⟨v, r, rfl, h1, h2⟩ := h
    exact Reps.cons q h2
  | d :: ds, vs, _, _, n + 1, h, q => by
    simp only [Reps] at h
    obtain ⟨v, r, rfl, h1, h2⟩ := h
    exact Reps.cons h1 (Reps.set n h2 q)
end

/-! ### boxes: lists (and dicts) that are changed in place -/
inductive B where
  | imm (d : D)
  | own (bs : List B)
  | odct (ks : List Key) (ds : List D)
  deriving Inhabited
mutual
def B.toD : B → D
  | .imm d => d
  | .own bs => .lst (B.toDs bs)
  | .odct ks ds => .dct ks ds
def B.toDs : List B → List D
  | [] => []
  | b :: bs => b.toD :: B.toDs bs
end
theorem toDs_map : ∀ bs : List B, B.toDs bs = bs.map B.toD
  | [] => by simp [B.toDs]
  | b :: bs => by simp [B.toDs, toDs_map bs]
theorem toDs_imm (ds : List D) : B.toDs (ds.map B.imm) = ds := by
  rw [toDs_map, List.map_map]
  have : (B.toD ∘ B.imm) = id := by funext d; simp [B.toD]
  rw [this, List.map_id]

inductive Owner where
  | slot (i : Nat) (p : List Nat)
  | tmp (p : Addr)
  deriving DecidableEq
abbrev Own := Addr → Option Owner
/-- forbidden: the callers' boxes, our own -/
def fb (M : Addr → Prop) (own : Own) : Addr → Prop := fun a => M a ∨ (own a).isSome = true

section
variable (mg : Gx)
mutual
def RepB (A : Addr → Prop) (own : Own) (H : Hp) (i : Nat) : List Nat → B → V → Prop
  | _, .imm d, v => Rep mg A H d v
  | p, .own bs, v => ∃ a xs, v = .ref a ∧ own a = some (.slot i p) ∧ H a = some (.lst xs) ∧ RepBs A own H i p 0 bs xs
  | p, .odct ks ds, v => ∃ a kvs, v = .ref a ∧ own a = some (.slot i p) ∧ H a = some (.dK kvs) ∧ kvs.map (·.1) = ks ∧ Reps mg A H ds (kvs.map (·.2))
def RepBs (A : Addr → Prop) (own : Own) (H : Hp) (i : Nat) (p : List Nat) : Nat → List B → List V → Prop
  | _, [], vs => vs = []
  | k, b :: bs, vs => ∃ x xs, vs = x :: xs ∧ RepB A own H i (k :: p) b x ∧ RepBs A own H i p (k + 1) bs xs
end
end

section
variable (mg : Gx)
mutual
/-- b stands at v, its own lists at the addresses of F, by their places -/
def RepF (A : Addr → Prop) (H : Hp) : List Nat → B → V → List (Addr × List Nat) → Prop
  | _, .imm d, v, F => Rep mg A H d v ∧ F = []
  | p, .own bs, v, F => ∃ a xs F', v = .ref a ∧ H a = some (.lst xs) ∧ RepFs A H p 0 bs xs F' ∧ F = (a, p) :: F'
  | p, .odct ks ds, v, F => ∃ a kvs, v = .ref a ∧ H a = some (.dK kvs) ∧ kvs.map (·.1) = ks ∧ Reps mg A H ds (kvs.map (·.2)) ∧ F = [(a, p)]
def RepFs (A : Addr → Prop) (H : Hp) (p : List Nat) : Nat → List B → List V → List (Addr × List Nat) → Prop
  | _, [], vs, F => vs = [] ∧ F = []
  | k, b :: bs, vs, F => ∃ x xs F1 F2, vs = x :: xs ∧ RepF A H (k :: p) b x F1 ∧ RepFs A H p (k + 1) bs xs F2 ∧ F = F1 ++ F2
end
end
/-- what is kept of the heap at the entry; where the boxes handed in lie -/
structure Fx where
  h : Hp
  pin : Nat → Option Addr
inductive Slot where
  | un
  | val (d : D)
  | box (o : Bool) (b : B)
  deriving Inhabited

section
variable (mg : Gx)
def SlotOk (A : Addr → Prop) (own : Own) (H : Hp) (i : Nat) (s : Slot) (w : Option V) : Prop :=
  match s with
  | .un => True
  | .val d => ∃ v, w = some v ∧ Rep mg A H d v
  | .box o b => ∃ v, w = some v ∧ RepB mg A own H i [] b v
/-- the slots as they stand -/
structure RE (Bs : Fx) (M : Addr → Prop) (own : Own) (H : Hp) (ρ : List Slot) (σ : L2.St) : Prop where
  len : ρ.length = σ.length
  base : ∀ a o, Bs.h a = some o → H a = some o
  apart : ∀ a o, Bs.h a = some o → own a = none
  mb : ∀ a, M a → ∃ o, Bs.h a = some o
  there : ∀ a, (own a).isSome = true → ∃ o, H a = some o
  inj : ∀ a c i p, own a = some (.slot i p) → own c = some (.slot i p) → a = c
  slots : ∀ (i : Nat) s w, ρ[i]? = some s → σ[i]? = some w → SlotOk mg (fb M own) own H i s w
  pins : ∀ (i : Nat) b w, ρ[i]? = some (.box true b) → σ[i]? = some w → ∃ a, w = some (.ref a) ∧ Bs.pin i = some a
end
/-- what happened meanwhile -/
structure Go (M : Addr → Prop) (own : Own) (H : Hp) (own' : Own) (H' : Hp) : Prop where
  ext : Ext (fb M own) H (fb M own') H'
  tmp : ∀ a p, own a = some (.tmp p) → own' a = some (.tmp p) ∧ H' a = H a
  dom : ∀ a o, H a = some o → ∃ o', H' a = some o'
theorem Go.refl {M own H} : Go M own H own H := ⟨.refl, fun _ _ h => ⟨h, rfl⟩, fun _ o h => ⟨o, h⟩⟩
theorem Go.trans {M own H own1 H1 own2 H2} (x : Go M own H own1 H1) (y : Go M own1 H1 own2 H2) : Go M own H own2 H2 :=
  ⟨x.ext.trans y.ext, fun a p h => let ⟨h1, e1⟩ := x.tmp a p h; let ⟨h2, e2⟩ := y.tmp a p h1; ⟨h2, e2.trans e1⟩, fun a o h => let ⟨o1, h1⟩ := x.dom a o h; y.dom a o1 h1⟩
theorem Go.fresh {M own H own1 H1} (x : Go M own H own1 H1) {a : Addr} (h : H1 a = none) : H a = none := by
  cases q : H a with
  | none => rfl
  | some o => obtain ⟨o1, e⟩ := x.dom a o q; rw [h] at e; cases e

abbrev FE := List Slot → Option (D × List Slot)
abbrev FT := List Slot → Option (Bool × List Slot)
abbrev FA := List Slot → Option (List D × List Slot)
inductive Out where
  | nx (ρ : List Slot) | rt (d : D) (ρ : List Slot) | bk (ρ : List Slot) | ct (ρ : List Slot)
  /-- a new list (with new lists within) is handed back -/
  | rf (b : B) (ρ : List Slot)
  /-- an exception of the own class of this name is raised -/
  | ex (c : Str) (ρ : List Slot)
abbrev FS := List Slot → Option Out

section
variable (mg : Gx)
def cE (f : FE) : TE := fun σ H Q => ∃ Bs M own ρ d ρ', RE mg Bs M own H ρ σ ∧ f ρ = some (d, ρ') ∧
  ∀ v H' own', Go M own H own' H' → RE mg Bs M own' H' ρ' σ → Rep mg (fb M own') H' d v → Q v H'
def cT (f : FT) : TT := fun σ H Q => ∃ Bs M own ρ d ρ', RE mg Bs M own H ρ σ ∧ f ρ = some (d, ρ') ∧
  ∀ H' own', Go M own H own' H' → RE mg Bs M own' H' ρ' σ → Q d H'
def cA (f : FA) : TA := fun σ H Q => ∃ Bs M own ρ ds ρ', RE mg Bs M own H ρ σ ∧ f ρ = some (ds, ρ') ∧
  ∀ vs H' own', Go M own H own' H' → RE mg Bs M own' H' ρ' σ → Reps mg (fb M own') H' ds vs → Q vs H'
def PostS (W : WX) (Bs : Fx) (M : Addr → Prop) (own : Own) (H : Hp) (Dn : Ends) : Out → Prop
  | .nx ρ' => ∀ σ' H' own', Go M own H own' H' → RE mg Bs M own' H' ρ' σ' → Dn.nx σ' H'
  | .rt d ρ' => ∀ v σ' H' own', Go M own H own' H' → RE mg Bs M own' H' ρ' σ' → Rep mg (fb M own') H' d v → Dn.rt v H'
  | .rf b ρ' => ∀ v σ' H' own' F, Go M own H own' H' → RE mg Bs M own' H' ρ' σ' → RepF mg (fb M own') H' [] b v F → (F.map (·.1)).Nodup → (∀ x ∈ F, Bs.h x.1 = none ∧ own' x.1 = some (.tmp x.1)) → Dn.rt v H'
  | .ex c ρ' => ∀ C σ' H' own', mg.mg c = some (.ref C) → Go M own H own' H' → RE mg Bs M own' H' ρ' σ' → W (.ref C) none σ' H'
  | .bk ρ' => ∀ σ' H' own', Go M own H own' H' → RE mg Bs M own' H' ρ' σ' → Dn.bk σ' H'
  | .ct ρ' => ∀ σ' H' own', Go M own H own' H' → RE mg Bs M own' H' ρ' σ' → Dn.ct σ' H'
def cS (W : WX) (F : FS) : TS := fun Dn σ H => ∃ Bs M own ρ o, RE mg Bs M own H ρ σ ∧ F ρ = some o ∧ PostS mg W Bs M own H Dn o
end

abbrev DE (X : Cx) (e : Expr) (f : FE) : Prop := PE X e (cE (GX X) f)
abbrev DT (X : Cx) (e : Expr) (f : FT) : Prop := PT X e (cT (GX X) f)
abbrev DA (X : Cx) (es : List Expr) (f : FA) : Prop := PA X es (cA (GX X) f)
/-- what may be raised: all that the context takes -/
def WT (X : Cx) : WX := fun cls d σ H => ∀ u s', XE X (fun c' d' σ' H' => c' = cls ∧ d' = d ∧ σ' = σ ∧ H' = H) u s' → X.xe u s'
theorem takes_WT {X : Cx} : Takes X (WT X) := fun u s' ⟨a, B, sI, pins, σ, H, cls, d, e, I, nb, up, sky, na, os, ag, w⟩ => w u s' ⟨a, B, sI, pins, σ, H, cls, d, e, I, nb, up, sky, na, os, ag, rfl, rfl, rfl, rfl⟩
theorem WT_of {X : Cx} {W : WX} (t : Takes X W) {cls : Value} {d : Option Addr} {σ : L2.St} {H : Hp} (w : W cls d σ H) : WT X cls d σ H := fun u s' ⟨a, B, sI, pins, σ', H', cls', d', e, I, nb, up, sky, na, os, ag, q⟩ => by
  obtain ⟨rfl, rfl, rfl, rfl⟩ := q
  exact t u s' ⟨a, B, sI, pins, _, _, _, _, e, I, nb, up, sky, na, os, ag, w⟩
abbrev DS (X : Cx) (st : Stmt) (f : FS) : Prop := PS X st (cS (GX X) (WT X) f)
abbrev DSs (X : Cx) (st : List Stmt) (f : FS) : Prop := PSs X st (cS (GX X) (WT X) f)

theorem weakE {X : Cx} {e : Expr} {t t' : TE} (h : PE X e t) (w : ∀ σ H Q, t' σ H Q → t σ H Q) : PE X e t' := ⟨fun pins s σ H Q I q => h.run pins s σ H Q I (w _ _ _ q)⟩
theorem weakT {X : Cx} {e : Expr} {t t' : TT} (h : PT X e t) (w : ∀ σ H Q, t' σ H Q → t σ H Q) : PT X e t' := ⟨fun pins s σ H Q I q => h.run pins s σ H Q I (w _ _ _ q)⟩
theorem weakA {X : Cx} {es : List Expr} {t t' : TA} (h : PA X es t) (w : ∀ σ H Q, t' σ H Q → t σ H Q) : PA X es t' := ⟨fun pos pins s σ H Q I q => h.run pos pins s σ H Q I (w _ _ _ q)⟩
theorem weakS {X : Cx} {st : Stmt} {t t' : TS} (h : PS X st t) (w : ∀ Dn σ H, t' Dn σ H → t Dn σ H) : PS X st t' := ⟨fun pins s σ H Dn I q => h.run pins s σ H Dn I (w _ _ _ q)⟩
theorem weakSs {X : Cx} {st : List Stmt} {t t' : TS} (h : PSs X st t) (w : ∀ Dn σ H, t' Dn σ H → t Dn σ H) : PSs X st t' := ⟨fun pins s σ H Dn I q => h.run pins s σ H Dn I (w _ _ _ q)⟩

/-! ### growth -/
section
variable {mg : Gx} {Bs : Fx} {M : Addr → Prop} {own own' : Own} {H H' : Hp} {ρ : List Slot} {σ : L2.St}
theorem Same.ext {A : Addr → Prop} (h : Same H H') : Ext A H A H' := fun a o e n => ⟨h a o e, n⟩
mutual
theorem RepB.ext {A A' : Addr → Prop} {i : Nat} (x : Ext A H A' H') (k : ∀ a p, own a = some (.slot i p) → own' a = some (.slot i p) ∧ H' a = H a) : ∀ {p : List Nat} {b : B} {v : V}, RepB mg A own H i p b v → RepB mg A' own' H' i p b v
  | _, .imm d, v, h => by simp only [RepB] at h ⊢; exact h.ext x
  | p, .own bs, v, h => by
    simp only [RepB] at h ⊢
    obtain ⟨a, xs, e, o, r, t⟩ := h
    obtain ⟨o', r'⟩ := k a p o
    exact ⟨a, xs, e, o', by rw [r']; exact r, RepBs.ext x k t⟩
  | p, .odct ks ds, v, h => by
    simp only [RepB] at h ⊢
    obtain ⟨a, xs, e, o, r, hk, t⟩ := h
    obtain ⟨o', r'⟩ := k a p o
    exact ⟨a, xs, e, o', by rw [r']; exact r, hk, t.ext x⟩
theorem RepBs.ext {A A' : Addr → Prop} {i : Nat} (x : Ext A H A' H') (k : ∀ a p, own a = some (.slot i p) → own' a = some (.slot i p) ∧ H' a = H a) : ∀ {p : List Nat} {n : Nat} {bs : List B} {vs : List V}, RepBs mg A own H i p n bs vs → RepBs mg A' own' H' i p n bs vs
  | _, _, [], vs, h => by simpa only [RepBs] using h
  | p, n, b :: bs, vs, h => by
    simp only [RepBs] at h ⊢
    obtain ⟨y, ys, e, h1, h2⟩ := h
    exact ⟨y, ys, e, RepB.ext x k h1, RepBs.ext x k h2⟩
end
theorem SlotOk.ext {A A' : Addr → Prop} {i : Nat} {s : Slot} {w : Option V} (x : Ext A H A' H') (k : ∀ a p, own a = some (.slot i p) → own' a = some (.slot i p) ∧ H' a = H a) (h : SlotOk mg A own H i s w) : SlotOk mg A' own' H' i s w := by
  cases s with
  | un => trivial
  | val d => obtain ⟨v, e, r⟩ := h; exact ⟨v, e, r.ext x⟩
  | box o b => obtain ⟨v, e, r⟩ := h; exact ⟨v, e, r.ext x k⟩
theorem Go.same (h : Same H H') (t : ∀ a, (own a).isSome = true → ∃ o, H a = some o) : Go M own H own H' := ⟨Same.ext h, fun a p e => by
  obtain ⟨o, q⟩ := t a (by rw [e]; rfl)
  exact ⟨e, by rw [q, h a o q]⟩, fun a o e => ⟨o, h a o e⟩⟩
theorem RE.same (R : RE mg Bs M own H ρ σ) (h : Same H H') : RE mg Bs M own H' ρ σ :=
  ⟨R.len, fun a o e => h a o (R.base a o e), R.apart, R.mb, fun a e => let ⟨o, q⟩ := R.there a e; ⟨o, h a o q⟩, R.inj, fun i s w e1 e2 => (R.slots i s w e1 e2).ext (Same.ext h) fun a p e => by
    obtain ⟨o, q⟩ := R.there a (by rw [e]; rfl)
    exact ⟨e, by rw [q, h a o q]⟩, R.pins⟩
theorem RE.goSame (R : RE mg Bs M own H ρ σ) (h : Same H H') : Go M own H own H' := Go.same h R.there
theorem same_upd {p : Addr} {o : HO} (h : H p = none) : Same H (upd H p o) := fun b x e => by rw [upd_ne (ne_of_none e h)]; exact e
/-- forbidden addresses stand -/
theorem RE.dom (R : RE mg Bs M own H ρ σ) {a : Addr} (h : fb M own a) : ∃ o, H a = some o := by
  rcases h with h | h
  · obtain ⟨o, e⟩ := R.mb a h; exact ⟨o, R.base a o e⟩
  · exact R.there a h
theorem RE.fresh (R : RE mg Bs M own H ρ σ) {a : Addr} (h : H a = none) : ¬ fb M own a := fun q => by
  obtain ⟨o, e⟩ := R.dom q
  rw [h] at e; cases e
end

/-! ### operators by values -/
/-- where r is asked of x and y that stand for d and e, g gives what comes -/
def OpD (mg : Gx) (r : R2) (g : D → D → Option D) : Prop :=
  ∀ (A : Addr → Prop) (H : Hp) (x y : V) (d e z : D) (Q : VK), (∀ a, H a = none → ¬ A a) → Rep mg A H d x → Rep mg A H e y → g d e = some z → (∀ v H', Same H H' → Rep mg A H' z v → Q v H') → r x y H Q
def UnD (mg : Gx) (r : V → Hp → VK → Prop) (g : D → Option D) : Prop :=
  ∀ (A : Addr → Prop) (H : Hp) (x : V) (d z : D) (Q : VK), (∀ a, H a = none → ¬ A a) → Rep mg A H d x → g d = some z → (∀ v H', Same H H' → Rep mg A H' z v → Q v H') → r x H Q
def CallD (mg : Gx) (r : List V → Hp → VK → Prop) (g : List D → Option D) : Prop :=
  ∀ (A : Addr → Prop) (H : Hp) (xs : List V) (ds : List D) (z : D) (Q : VK), (∀ a, H a = none → ¬ A a) → Reps mg A H ds xs → g ds = some z → (∀ v H', Same H H' → Rep mg A H' z v → Q v H') → r xs H Q

def fBin (g : D → D → Option D) (fa fb : FE) : FE := fun ρ => (fa ρ).bind fun (x, ρ1) => (fb ρ1).bind fun (y, ρ2) => (g x y).bind fun z => some (z, ρ2)
def fUn (g : D → Option D) (fa : FE) : FE := fun ρ => (fa ρ).bind fun (x, ρ1) => (g x).bind fun z => some (z, ρ1)
def fArgs (g : List D → Option D) (fa : FA) : FE := fun ρ => (fa ρ).bind fun (x, ρ1) => (g x).bind fun z => some (z, ρ1)
def fC (d : D) : FE := fun ρ => some (d, ρ)
def fNil : FA := fun ρ => some ([], ρ)
def fCons (fa : FE) (fr : FA) : FA := fun ρ => (fa ρ).bind fun (x, ρ1) => (fr ρ1).bind fun (xs, ρ2) => some (x :: xs, ρ2)

theorem bind_some2 {α β : Type} {o : Option α} {f : α → Option β} {z : β} (h : o.bind f = some z) : ∃ x, o = some x ∧ f x = some z := Option.bind_eq_some_iff.mp h

section
variable {X : Cx} {a b e : Expr} {es : List Expr} {fa fb' : FE} {fr : FA} {pos : Pos}
theorem cE_bin {mg : Gx} {r : R2} {g : D → D → Option D} (hg : OpD mg r g) : ∀ σ H Q, cE mg (fBin g fa fb') σ H Q → tOp r (cE mg fa) (cE mg fb') σ H Q := by
  intro σ H Q ⟨Bs, M, own, ρ, d, ρ', R, h, k⟩
  obtain ⟨⟨x, ρ1⟩, h1, h⟩ := bind_some2 h
  obtain ⟨⟨y, ρ2⟩, h2, h⟩ := bind_some2 h
  obtain ⟨z, h3, h⟩ := bind_some2 h
  cases h
  refine ⟨Bs, M, own, _, _, _, R, h1, fun v H1 own1 G1 R1 r1 => ?_⟩
  refine ⟨Bs, M, own1, _, _, _, R1, h2, fun w H2 own2 G2 R2 r2 => ?_⟩
  refine hg (fb M own2) H2 v w _ _ _ Q (fun a q => R2.fresh q) (r1.ext G2.ext) r2 h3 fun u H3 s3 r3 => ?_
  exact k u H3 own2 ((G1.trans G2).trans (R2.goSame s3)) (R2.same s3) r3
theorem cE_un {mg : Gx} {r : V → Hp → VK → Prop} {g : D → Option D} (hg : UnD mg r g) : ∀ σ H Q, cE mg (fUn g fa) σ H Q → tUn r (cE mg fa) σ H Q := by
  intro σ H Q ⟨Bs, M, own, ρ, d, ρ', R, h, k⟩
  obtain ⟨⟨x, ρ1⟩, h1, h⟩ := bind_some2 h
  obtain ⟨z, h3, h⟩ := bind_some2 h
  cases h
  refine ⟨Bs, M, own, _, _, _, R, h1, fun v H1 own1 G1 R1 r1 => ?_⟩
  refine hg (fb M own1) H1 v _ _ Q (fun a q => R1.fresh q) r1 h3 fun u H3 s3 r3 => ?_
  exact k u H3 own1 (G1.trans (R1.goSame s3)) (R1.same s3) r3
theorem cE_args {mg : Gx} {r : List V → Hp → VK → Prop} {g : List D → Option D} (hg : CallD mg r g) : ∀ σ H Q, cE mg (fArgs g fr) σ H Q → tCB r (cA mg fr) σ H Q := by
  intro σ H Q ⟨Bs, M, own, ρ, d, ρ', R, h, k⟩
  obtain ⟨⟨x, ρ1⟩, h1, h⟩ := bind_some2 h
  obtain ⟨z, h3, h⟩ := bind_some2 h
  cases h
  refine ⟨Bs, M, own, _, _, _, R, h1, fun v H1 own1 G1 R1 r1 => ?_⟩
  refine hg (fb M own1) H1 v _ _ Q (fun a q => R1.fresh q) r1 h3 fun u H3 s3 r3 => ?_
  exact k u H3 own1 (G1.trans (R1.goSame s3)) (R1.same s3) r3
theorem cE_const {mg : Gx} {d : D} {v : V} (hv : ∀ A H, Rep mg A H d v) : ∀ σ H Q, cE mg (fC d) σ H Q → tC v σ H Q := by
  intro σ H Q ⟨Bs, M, own, ρ, d', ρ', R, h, k⟩
  cases h
  exact k v H own .refl R (hv _ _)
theorem de_int {i j} : DE X (.Constant (.int i) j pos) (fC (.int i)) := weakE pe_int (cE_const fun _ _ => by simp [Rep])
theorem de_bl {i j} : DE X (.Constant (.bool i) j pos) (fC (.bl i)) := weakE pe_bl (cE_const fun _ _ => by simp [Rep])
theorem de_non {j} : DE X (.Constant .none j pos) (fC .non) := weakE pe_non (cE_const fun _ _ => by simp [Rep])
theorem de_str {x j} : DE X (.Constant (.str x) j pos) (fC (.str x)) := weakE pe_str (cE_const fun _ _ => by simp [Rep])
theorem de_binop {op : Operator} {r : R2} {g : D → D → Option D} (ho : OpR X (binaryOp op) r) (hg : OpD (GX X) r g) (ha : DE X a fa) (hb : DE X b fb') : DE X (.BinOp a op b pos) (fBin g fa fb') :=
  weakE (pe_op ho ha hb) (cE_bin hg)
theorem de_cmp {op : CmpOp} {r : R2} {g : D → D → Option D} (ho : OpR X (compareOp op) r) (hg : OpD (GX X) r g) (ha : DE X a fa) (hb : DE X b fb') (hm : behindInMarks op b = false) : DE X (.Compare a [op] [b] pos) (fBin g fa fb') :=
  weakE (pe_cmpR ho ha hb hm) (cE_bin hg)
theorem de_unop {op : UnaryOp} {r : V → Hp → VK → Prop} {g : D → Option D} (ho : UnR X (unaryOp op) r) (hg : UnD (GX X) r g) (ha : DE X a fa) : DE X (.UnaryOp op a pos) (fUn g fa) := weakE (pe_un ho ha) (cE_un hg)
theorem de_ix {r : R2} {g : D → D → Option D} (hr : IxR X r) (hg : OpD (GX X) r g) (ha : DE X a fa) (hb : DE X b fb') (hs : PlainIx b) : DE X (.Subscript a b pos) (fBin g fa fb') := weakE (pe_ix hr ha hb hs) (cE_bin hg)
theorem da_nil : DA X [] fNil := weakA pa_nil fun σ H Q ⟨Bs, M, own, ρ, ds, ρ', R, h, k⟩ => by
  cases h
  exact k [] H own .refl R .nil
theorem da_cons (ha : DE X e fa) (hr : DA X es fr) (hs : starEach (e :: es) X.env = (false, eval e X.env) :: starEach es X.env := by rfl) : DA X (e :: es) (fCons fa fr) :=
  weakA (pa_cons ha hr hs) fun σ H Q ⟨Bs, M, own, ρ, ds, ρ', R, h, k⟩ => by
    obtain ⟨⟨x, ρ1⟩, h1, h⟩ := bind_some2 h
    obtain ⟨⟨xs, ρ2⟩, h2, h⟩ := bind_some2 h
    cases h
    refine ⟨Bs, M, own, _, _, _, R, h1, fun v H1 own1 G1 R1 r1 => ?_⟩
    refine ⟨Bs, M, own1, _, _, _, R1, h2, fun vs H2 own2 G2 R2 r2 => ?_⟩
    exact k (v :: vs) H2 own2 (G1.trans G2) R2 (.cons (r1.ext G2.ext) r2)
/-- a tuple's display -/
def dTup : List D → Option D := fun ds => if ds.length ≤ sizeLine then some (.tup ds) else none
def dLst : List D → Option D := fun ds => if ds.length ≤ sizeLine then some (.lst ds) else none
theorem de_tup {x1} (h : DA X es fr) : DE X (.Tuple es x1 pos) (fArgs dTup fr) := weakE (pe_tup h) fun σ H Q ⟨Bs, M, own, ρ, d, ρ', R, h, k⟩ => by
  obtain ⟨⟨x, ρ1⟩, h1, h⟩ := bind_some2 h
  obtain ⟨z, h3, h⟩ := bind_some2 h
  cases h
  refine ⟨Bs, M, own, _, _, _, R, h1, fun vs H1 own1 G1 R1 r1 => ?_⟩
  unfold dTup at h3
  split at h3
  · rename_i hl
    cases h3
    refine ⟨by rw [r1.length]; exact hl, fun p hp => ?_⟩
    have s := same_upd (o := .tup vs) hp
    refine k _ _ own1 (G1.trans (R1.goSame s)) (R1.same s) ?_
    simp only [Rep]
    exact ⟨p, vs, rfl, R1.fresh hp, upd_same, r1.ext (Same.ext s)⟩
  · cases h3
theorem de_lst (h : DA X es fr) : DE X (.List es pos) (fArgs dLst fr) := weakE (pe_lst h) fun σ H Q ⟨Bs, M, own, ρ, d, ρ', R, h, k⟩ => by
  obtain ⟨⟨x, ρ1⟩, h1, h⟩ := bind_some2 h
  obtain ⟨z, h3, h⟩ := bind_some2 h
  cases h
  refine ⟨Bs, M, own, _, _, _, R, h1, fun vs H1 own1 G1 R1 r1 => ?_⟩
  unfold dLst at h3
  split at h3
  · rename_i hl
    cases h3
    refine ⟨by rw [r1.length]; exact hl, fun p hp => ?_⟩
    have s := same_upd (o := .lst vs) hp
    refine k _ _ own1 (G1.trans (R1.goSame s)) (R1.same s) ?_
    simp only [Rep]
    exact ⟨p, vs, rfl, R1.fresh hp, upd_same, r1.ext (Same.ext s)⟩
  · cases h3
end
end DL
end

section
set_option Elab.async false
set_option linter.all false
set_option maxRecDepth 100000
/-! DL2: names, calls, tests, targets, statements, loops, comprehensions -/
namespace DL
open PySem PySem.Spec PyProof.Rows L2

/-! ### slots change -/
def unown (i : Nat) (own : Own) : Own := fun a => match own a with
  | some (.slot j p) => if j = i then none else some (.slot j p)
  | o => o
theorem unown_tmp {i : Nat} {own : Own} {a p : Addr} (h : own a = some (.tmp p)) : unown i own a = some (.tmp p) := by unfold unown; rw [h]
theorem unown_other {i j : Nat} {own : Own} {a : Addr} {p : List Nat} (h : own a = some (.slot j p)) (n : j ≠ i) : unown i own a = some (.slot j p) := by
  unfold unown; rw [h]; simp [n]
theorem unown_self {i : Nat} {own : Own} {a : Addr} {p : List Nat} (h : own a = some (.slot i p)) : unown i own a = none := by
  unfold unown; rw [h]; simp
theorem of_unown {i : Nat} {own : Own} {a : Addr} {o : Owner} (h : unown i own a = some o) : own a = some o ∧ ∀ p, o ≠ .slot i p := by
  unfold unown at h
  split at h
  · rename_i j p e
    split at h
    · cases h
    · rename_i n
      cases h
      exact ⟨e, fun q z => by cases z; exact n rfl⟩
  · rename_i n
    exact ⟨h, fun q z => by subst z; exact n _ _ h⟩
theorem unown_none {i : Nat} {own : Own} {a : Addr} (h : own a = none) : unown i own a = none := by unfold unown; rw [h]
theorem fb_unown {M : Addr → Prop} {i : Nat} {own : Own} {a : Addr} (h : fb M (unown i own) a) : fb M own a := by
  rcases h with h | h
  · exact .inl h
  · obtain ⟨o, e⟩ := Option.isSome_iff_exists.mp h
    exact .inr (by rw [(of_unown e).1]; rfl)
section
variable {mg : Gx} {Bs : Fx} {M : Addr → Prop} {own own' : Own} {H H' : Hp} {ρ : List Slot} {σ : L2.St}
theorem ext_unown {i : Nat} : Ext (fb M own) H (fb M (unown i own)) H := fun a o e n => ⟨e, fun q => n (fb_unown q)⟩
theorem go_unown {i : Nat} : Go M own H (unown i own) H := ⟨ext_unown, fun a p e => ⟨unown_tmp e, rfl⟩, fun _ o h => ⟨o, h⟩⟩
theorem RE.notM (R : RE mg Bs M own H ρ σ) {a : Addr} {o : Owner} (h : own a = some o) : ¬ M a := fun m => by
  obtain ⟨b, e⟩ := R.mb a m
  rw [R.apart a b e] at h; cases h
mutual
theorem RepB.thaw (R : RE mg Bs M own H ρ σ) {i : Nat} : ∀ {p : List Nat} {b : B} {v : V}, RepB mg (fb M own) own H i p b v → Rep mg (fb M (unown i own)) H b.toD v
  | _, .imm d, v, h => by simp only [RepB, B.toD] at h ⊢; exact h.ext ext_unown
  | p, .own bs, v, h => by
    simp only [RepB, B.toD, Rep] at h ⊢
    obtain ⟨a, xs, e, o, r, t⟩ := h
    exact ⟨a, xs, e, fun q => (q.elim (R.notM o) fun z => by rw [unown_self o] at z; cases z), r, RepBs.thaw R t⟩
  | p, .odct ks ds, v, h => by
    simp only [RepB, B.toD, Rep] at h ⊢
    obtain ⟨a, xs, e, o, r, hk, t⟩ := h
    exact ⟨a, xs, e, fun q => (q.elim (R.notM o) fun z => by rw [unown_self o] at z; cases z), .inl r, hk, t.ext ext_unown⟩
theorem RepBs.thaw (R : RE mg Bs M own H ρ σ) {i : Nat} : ∀ {p : List Nat} {n : Nat} {bs : List B} {vs : List V}, RepBs mg (fb M own) own H i p n bs vs → Reps mg (fb M (unown i own)) H (B.toDs bs) vs
  | _, _, [], vs, h => by simpa only [RepBs, B.toDs, Reps] using h
  | p, n, b :: bs, vs, h => by
    simp only [RepBs, B.toDs, Reps] at h ⊢
    obtain ⟨y, ys, e, h1, h2⟩ := h
    exact ⟨y, ys, e, RepB.thaw R h1, RepBs.thaw R h2⟩
end
/-- slot i is given a value, what it owned is let go -/
theorem RE.setVal (R : RE mg Bs M own H ρ σ) {i : Nat} {d : D} {v : V} (h : Rep mg (fb M own) H d v) : RE mg Bs M (unown i own) H (ρ.set i (.val d)) (σ.set i (some v)) := by
  refine ⟨by rw [List.length_set, List.length_set]; exact R.len, R.base, fun a o e => unown_none (R.apart a o e), R.mb, fun a e => ?_, fun a c j p e1 e2 => R.inj a c j p (of_unown e1).1 (of_unown e2).1, fun j s w e1 e2 => ?_, fun j b w e1 e2 => ?_⟩
  · obtain ⟨o, q⟩ := Option.isSome_iff_exists.mp e
    exact R.there a (by rw [(of_unown q).1]; rfl)
  · by_cases hj : i = j
    · subst hj
      have hi : i < ρ.length := by
        have := (List.getElem?_eq_some_iff.mp e1).1
        simpa using this
      rw [List.getElem?_set_self hi] at e1
      rw [List.getElem?_set_self (by rw [← R.len]; exact hi)] at e2
      cases e1; cases e2
      exact ⟨v, rfl, h.ext ext_unown⟩
    · rw [List.getElem?_set_ne hj] at e1 e2
      exact (R.slots j s w e1 e2).ext ext_unown fun a p e => ⟨unown_other e (Ne.symm hj), rfl⟩
  · by_cases hj : i = j
    · subst hj
      by_cases hi : i < ρ.length
      · rw [List.getElem?_set_self hi] at e1; cases e1
      · rw [List.getElem?_eq_none (by rw [List.length_set]; omega)] at e1; cases e1
    · rw [List.getElem?_set_ne hj] at e1 e2
      exact R.pins j b w e1 e2
/-- slot i is frozen -/
theorem RE.freeze (R : RE mg Bs M own H ρ σ) {i : Nat} {o : Bool} {b : B} {v : V} (e : ρ[i]? = some (.box o b)) (ev : σ[i]? = some (some v)) :
    RE mg Bs M (unown i own) H (ρ.set i (.val b.toD)) σ ∧ Rep mg (fb M (unown i own)) H b.toD v := by
  have h := R.slots i _ _ e ev
  obtain ⟨v', e', hb⟩ := h
  cases e'
  have r := RepB.thaw R hb
  refine ⟨⟨by rw [List.length_set]; exact R.len, R.base, fun a o e => unown_none (R.apart a o e), R.mb, fun a e => ?_, fun a c j p e1 e2 => R.inj a c j p (of_unown e1).1 (of_unown e2).1, fun j s w e1 e2 => ?_, fun j b w e1 e2 => ?_⟩, r⟩
  · obtain ⟨o, q⟩ := Option.isSome_iff_exists.mp e
    exact R.there a (by rw [(of_unown q).1]; rfl)
  · by_cases hj : i = j
    · subst hj
      have hi : i < ρ.length := (List.getElem?_eq_some_iff.mp e).1
      rw [List.getElem?_set_self hi] at e1
      rw [ev] at e2
      cases e1; cases e2
      exact ⟨v, rfl, r⟩
    · rw [List.getElem?_set_ne hj] at e1
      exact (R.slots j s w e1 e2).ext ext_unown fun a p e => ⟨unown_other e (Ne.symm hj), rfl⟩
  · by_cases hj : i = j
    · subst hj
      by_cases hi : i < ρ.length
      · rw [List.getElem?_set_self hi] at e1; cases e1
      · rw [List.getElem?_eq_none (by rw [List.length_set]; omega)] at e1; cases e1
    · rw [List.getElem?_set_ne hj] at e1
      exact R.pins j b w e1 e2
/-- slot i is forgotten -/
theorem RE.clear (R : RE mg Bs M own H ρ σ) {i : Nat} {w' : Option V} : RE mg Bs M (unown i own) H (ρ.set i .un) (σ.set i w') := by
  refine ⟨by rw [List.length_set, List.length_set]; exact R.len, R.base, fun a o e => unown_none (R.apart a o e), R.mb, fun a e => ?_, fun a c j p e1 e2 => R.inj a c j p (of_unown e1).1 (of_unown e2).1, fun j s w e1 e2 => ?_, fun j b w e1 e2 => ?_⟩
  · obtain ⟨o, q⟩ := Option.isSome_iff_exists.mp e
    exact R.there a (by rw [(of_unown q).1]; rfl)
  · by_cases hj : i = j
    · subst hj
      have hi : i < ρ.length := by
        have := (List.getElem?_eq_some_iff.mp e1).1
        simpa using this
      rw [List.getElem?_set_self hi] at e1
      cases e1
      trivial
    · rw [List.getElem?_set_ne hj] at e1 e2
      exact (R.slots j s w e1 e2).ext ext_unown fun a p e => ⟨unown_other e (Ne.symm hj), rfl⟩
  · by_cases hj : i = j
    · subst hj
      by_cases hi : i < ρ.length
      · rw [List.getElem?_set_self hi] at e1; cases e1
      · rw [List.getElem?_eq_none (by rw [List.length_set]; omega)] at e1; cases e1
    · rw [List.getElem?_set_ne hj] at e1 e2
      exact R.pins j b w e1 e2
def ownAt (own : Own) (p : Addr) (o : Owner) : Own := fun a => if a = p then some o else own a
theorem ownAt_same {own : Own} {p : Addr} {o : Owner} : ownAt own p o p = some o := by unfold ownAt; rw [if_pos rfl]
theorem ownAt_ne {own : Own} {p a : Addr} {o : Owner} (h : a ≠ p) : ownAt own p o a = own a := by unfold ownAt; rw [if_neg h]
theorem RepBs_imm {A : Addr → Prop} {i : Nat} {p : List Nat} : ∀ {n : Nat} {ds : List D} {vs : List V}, Reps mg A H ds vs → RepBs mg A own H i p n (ds.map .imm) vs
  | _, [], vs, h => by simp [Reps] at h; subst h; simp [RepBs]
  | n, d :: ds, vs, h => by
    simp only [Reps] at h
    obtain ⟨x, xs, e, h1, h2⟩ := h
    simp only [List.map_cons, RepBs, RepB]
    exact ⟨x, xs, e, h1, RepBs_imm h2⟩
/-- a new list, owned by slot i -/
theorem RE.setBox (R : RE mg Bs M own H ρ σ) {i : Nat} {ds : List D} {vs : List V} {p : Addr} (hp : H p = none) (h : Reps mg (fb M own) H ds vs) :
    RE mg Bs M (ownAt (unown i own) p (.slot i [])) (upd H p (.lst vs)) (ρ.set i (.box false (.own (ds.map .imm)))) (σ.set i (some (.ref p))) ∧ Go M own H (ownAt (unown i own) p (.slot i [])) (upd H p (.lst vs)) := by
  have same : Same H (upd H p (.lst vs)) := same_upd hp
  have npo : own p = none := by
    cases e : own p with
    | none => rfl
    | some o => obtain ⟨u, q⟩ := R.there p (by rw [e]; rfl); rw [hp] at q; cases q
  have x : Ext (fb M own) H (fb M (ownAt (unown i own) p (.slot i []))) (upd H p (.lst vs)) := fun a o e n => ⟨same a o e, fun q => by
    have ne : a ≠ p := ne_of_none e hp
    rcases q with q | q
    · exact n (.inl q)
    · rw [ownAt_ne ne] at q
      exact n (fb_unown (.inr q))⟩
  refine ⟨⟨by rw [List.length_set, List.length_set]; exact R.len, fun a o e => same a o (R.base a o e), fun a o e => ?_, R.mb, fun a e => ?_, fun a c j q e1 e2 => ?_, fun j s w e1 e2 => ?_, fun j b w e1 e2 => ?_⟩, x, fun a q e => ?_, fun a o e => ⟨o, same a o e⟩⟩
  · have ne : a ≠ p := fun z => by rw [z] at e; have := R.base p o e; rw [hp] at this; cases this
    rw [ownAt_ne ne]; exact unown_none (R.apart a o e)
  · by_cases ha : a = p
    · subst ha; exact ⟨_, upd_same⟩
    · rw [ownAt_ne ha] at e
      obtain ⟨o, q⟩ := Option.isSome_iff_exists.mp e
      obtain ⟨u, z⟩ := R.there a (by rw [(of_unown q).1]; rfl)
      exact ⟨u, same a u z⟩
  · by_cases ha : a = p
    · by_cases hc : c = p
      · rw [ha, hc]
      · rw [ownAt_ne hc] at e2
        rw [ha, ownAt_same] at e1
        cases e1
        exact absurd rfl ((of_unown e2).2 _)
    · rw [ownAt_ne ha] at e1
      by_cases hc : c = p
      · rw [hc, ownAt_same] at e2
        cases e2
        exact absurd rfl ((of_unown e1).2 _)
      · rw [ownAt_ne hc] at e2
        exact R.inj a c j q (of_unown e1).1 (of_unown e2).1
  · by_cases hj : i = j
    · subst hj
      have hi : i < ρ.length := by
        have := (List.getElem?_eq_some_iff.mp e1).1
        simpa using this
      rw [List.getElem?_set_self hi] at e1
      rw [List.getElem?_set_self (by rw [← R.len]; exact hi)] at e2
      cases e1; cases e2
      refine ⟨_, rfl, ?_⟩
      simp only [RepB]
      exact ⟨p, vs, rfl, ownAt_same, upd_same, RepBs_imm (h.ext x)⟩
    · rw [List.getElem?_set_ne hj] at e1 e2
      refine (R.slots j s w e1 e2).ext x fun a q e => ?_
      have ne : a ≠ p := fun z => by rw [z, npo] at e; cases e
      exact ⟨by rw [ownAt_ne ne]; exact unown_other e (Ne.symm hj), upd_ne ne⟩
  · by_cases hj : i = j
    · subst hj
      by_cases hi : i < ρ.length
      · rw [List.getElem?_set_self hi] at e1; cases e1
      · rw [List.getElem?_eq_none (by rw [List.length_set]; omega)] at e1; cases e1
    · rw [List.getElem?_set_ne hj] at e1 e2
      exact R.pins j b w e1 e2
  · have ne : a ≠ p := fun z => by rw [z, npo] at e; cases e
    exact ⟨by rw [ownAt_ne ne]; exact unown_tmp e, upd_ne ne⟩
end

/-! ### names -/
def fVar (i : Nat) : FE := fun ρ => match ρ[i]? with
  | some (.val d) => some (d, ρ)
  | some (.box false b) => some (b.toD, ρ.set i (.val b.toD))
  | _ => none
theorem RE.at {mg : Gx} {Bs : Fx} {M : Addr → Prop} {own : Own} {H : Hp} {ρ : List Slot} {σ : L2.St} (R : RE mg Bs M own H ρ σ) {i : Nat} {s : Slot} (h : ρ[i]? = some s) : ∃ w, σ[i]? = some w ∧ SlotOk mg (fb M own) own H i s w := by
  have hi : i < σ.length := by rw [← R.len]; exact (List.getElem?_eq_some_iff.mp h).1
  exact ⟨σ[i], List.getElem?_eq_getElem hi, R.slots i s _ h (List.getElem?_eq_getElem hi)⟩
section
variable {X : Cx} {x : Str} {pos : Pos}
theorem de_var (i : Nat) (hN : X.N[i]? = some x := by rfl) (hv : Vis X.env.scope x := by first | exact Or.inl rfl | exact Or.inr (Or.inl rfl) | exact Or.inr (Or.inr rfl)) (hd : (x == ("__debug__" : Str)) = false := by decide)
    (hcd : (x == ("__classdict__" : Str)) = false := by decide) : DE X (.Name x pos) (fVar i) := weakE (pe_var hN hv hd hcd) fun σ H Q ⟨Bs, M, own, ρ, d, ρ', R, h, k⟩ => by
  unfold fVar at h
  split at h
  · rename_i d' e
    cases h
    obtain ⟨w, e1, v, e2, r⟩ := R.at e
    subst e2
    exact ⟨v, e1, k v H own .refl R r⟩
  · rename_i b e
    cases h
    obtain ⟨w, e1, v, e2, r⟩ := R.at e
    subst e2
    obtain ⟨R', r'⟩ := R.freeze e e1
    exact ⟨v, e1, k v H _ go_unown R' r'⟩
  · cases h
/-- a module's constant -/
theorem de_glob {v : V} {d : D} {u : Value} (hg : Gl X x) (hm : X.mg x = some u) (r : RelV v u) (hv : ∀ A H, Rep (GX X) A H d v) (hd : (x == ("__debug__" : Str)) = false := by decide) : DE X (.Name x pos) (fC d) :=
  weakE (pe_glob hg hm r hd) (cE_const hv)
end

/-! ### calls of defs that change nothing -/
def spD (mg : Gx) (g : List D → Option D) : Sp := fun vs H Q _ => ∃ (A : Addr → Prop) (ds : List D) (d : D), (∀ a, H a = none → ¬ A a) ∧ Reps mg A H ds vs ∧ g ds = some d ∧ ∀ v H', Same H H' → Rep mg A H' d v → Q v H'
def fnD (n m : Nat) (F : FS) : List D → Option D := fun ds => if ds.length = m then (match F (ds.map .val ++ List.replicate (n - m) .un) with
  | some (.rt d _) => some d
  | some (.nx _) => some .non
  | _ => none) else none
section
variable {X : Cx} {x : Str} {p pos : Pos} {e : Expr} {es : List Expr} {fr : FA} {k : Nat} {f : Addr} {fd : FuncData} {ps : List Str} {g : List D → Option D}
theorem cE_sp {mg : Gx} {E : XK} : ∀ σ H Q, cE mg (fArgs g fr) σ H Q → tCall (spD mg g) [] E (cA mg fr) σ H Q := by
  intro σ H Q ⟨Bs, M, own, ρ, d, ρ', R, h, k⟩
  obtain ⟨⟨x, ρ1⟩, h1, h⟩ := bind_some2 h
  obtain ⟨z, h3, h⟩ := bind_some2 h
  cases h
  refine ⟨Bs, M, own, _, _, _, R, h1, fun v H1 own1 G1 R1 r1 => ?_⟩
  refine ⟨fb M own1, _, _, fun a q => R1.fresh q, by rw [List.append_nil]; exact r1, h3, fun u H3 s3 r3 => ?_⟩
  exact k u H3 own1 (G1.trans (R1.goSame s3)) (R1.same s3) r3
theorem de_call (F : FnOk X.prog X.w X.K X.mg X.base CX0 k f fd ps (spD (GX X) g)) (hr : Room k X.A) (hg : Gl X x) (hm : X.mg x = some (.ref f)) (hk : PySem.W.keepIn X.K (.ref f) = true) (hb : Binds X.K fd ps [])
    (ha : DA X (e :: es) fr) (hdb : (x == ("__debug__" : Str)) = false := by decide) (he : starEach (e :: es) X.env = (false, eval e X.env) :: starEach es X.env := by rfl) (hpl : (backTo pos (starEach es X.env)).any (·.1) = false := by rfl) :
    DE X (.Call (.Name x p) (e :: es) [] pos) (fArgs g fr) := weakE (pe_call F hr hg hm hk hb .nil pass0 ha hdb he hpl) cE_sp
/-- a built-in by its name -/
theorem de_callB {id : String} {r : List V → Hp → VK → Prop} (hc : CallR X (.builtin id) r) (hg' : CallD (GX X) r g) (hg : Gl X x) (hm : X.mg x = none) (hv : bootBuiltins x = some (.builtin id)) (ha : DA X (e :: es) fr) (hn : x ≠ "__name__" := by decide) (hdb : (x == ("__debug__" : Str)) = false := by decide)
    (he : starEach (e :: es) X.env = (false, eval e X.env) :: starEach es X.env := by rfl) (hpl : (backTo pos (starEach es X.env)).any (·.1) = false := by rfl) : DE X (.Call (.Name x p) (e :: es) [] pos) (fArgs g fr) := weakE (pe_callB hc hg hm hv ha hn hdb he hpl) (cE_args hg')
theorem de_callTy {T : String} {r : List V → Hp → VK → Prop} (hc : CallR X (.type T) r) (hg' : CallD (GX X) r g) (hg : Gl X x) (hm : X.mg x = none) (hv : bootBuiltins x = some (.type T)) (ha : DA X (e :: es) fr) (hn : x ≠ "__name__" := by decide) (hdb : (x == ("__debug__" : Str)) = false := by decide)
    (he : starEach (e :: es) X.env = (false, eval e X.env) :: starEach es X.env := by rfl) (hpl : (backTo pos (starEach es X.env)).any (·.1) = false := by rfl) : DE X (.Call (.Name x p) (e :: es) [] pos) (fArgs g fr) := weakE (pe_callTy hc hg hm hv ha hn hdb he hpl) (cE_args hg')
end
section
variable {P : Program} {w : World} {K : PySem.W.Frag} {mg : Gx} {base : Heap}
theorem start_at {N : List Str} {vs : List V} (hl : vs.length ≤ N.length) : (L2.start N vs).length = N.length := by
  unfold L2.start
  rw [List.length_append, List.length_map, List.length_replicate]; omega
theorem RE.start {A : Addr → Prop} {H : Hp} {ds : List D} {vs : List V} {n m : Nat} {N : List Str} (hA : ∀ a, H a = none → ¬ A a) (r : Reps mg A H ds vs) (hn : N.length = n) (hm : ds.length = m) (hle : m ≤ n) :
    RE mg ⟨H, fun _ => none⟩ A (fun _ => none) H (ds.map .val ++ List.replicate (n - m) .un) (L2.start N vs) := by
  have hvl := r.length
  refine ⟨?_, fun _ _ e => e, fun _ _ _ => rfl, fun a m => ?_, fun a e => by simp at e, fun a c i p e => (by cases e), fun i s w e1 e2 => ?_, fun i b w e1 e2 => ?_⟩
  · rw [start_at (by omega), List.length_append, List.length_map, List.length_replicate]; omega
  · cases e : H a with
    | none => exact absurd m (hA a e)
    | some o => exact ⟨o, e⟩
  · by_cases hi : i < ds.length
    · rw [List.getElem?_append_left (by simpa using hi), List.getElem?_map] at e1
      unfold L2.start at e2
      rw [List.getElem?_append_left (by rw [List.length_map]; omega), List.getElem?_map] at e2
      rw [List.getElem?_eq_getElem hi] at e1
      cases e1
      obtain ⟨v, q1, q2⟩ := r.get (List.getElem?_eq_getElem hi)
      rw [q1] at e2
      cases e2
      refine ⟨v, rfl, q2.ext fun a o e n => ⟨e, fun q => ?_⟩⟩
      rcases q with q | q
      · exact n q
      · simp at q
    · rw [List.getElem?_append_right (by simpa using Nat.le_of_not_lt hi), List.getElem?_replicate] at e1
      split at e1
      · cases e1; trivial
      · cases e1
  · by_cases hi : i < ds.length
    · rw [List.getElem?_append_left (by simpa using hi), List.getElem?_map, List.getElem?_eq_getElem hi] at e1
      cases e1
    · rw [List.getElem?_append_right (by simpa using Nat.le_of_not_lt hi), List.getElem?_replicate] at e1
      split at e1 <;> cases e1
/-- THE RULE for a def that changes nothing -/
theorem fn_ok {mg : Str → Option Value} {x qual : Str} {st : Stmt} {f : Addr} {fd : FuncData} {N ps : List Str} {k n m : Nat} {F : FS} (Fu : Fun K x qual st f fd) (S : FnScope N ps (defScope st)) (hn : N.length = n) (hm : ps.length = m) (hle : m ≤ n)
    (body : ∀ (cdv : Value) (A : Around) (outer : List Env) (s : Shared) (H : Hp) (E : XK), Room k (A.deeper (envOfC qual (defScope st) s.heap.objs.size f cdv)) →
      DSs (cxOf CX0 P w K mg base N qual (defScope st) f cdv A outer s H E).nox (defBody st) F) : FnOk P w K mg base CX0 (k + 1) f fd ps (spD ⟨mg, K⟩ (fnD n m F)) := by
  refine Fu.ok S (fun vs H Q E h => ?_) (fun cdv A outer s H vs Q E hr h => ?_)
  · obtain ⟨A, ds, d, hA, r, e, q⟩ := h
    unfold fnD at e
    split at e
    · rename_i z
      rw [r.length, z, hm]
    · cases e
  · obtain ⟨A', ds, d, hA, r, e, q⟩ := h
    refine ⟨_, body cdv A outer s H E hr, ?_⟩
    unfold fnD at e
    split at e
    · rename_i z
      have R := RE.start hA r hn z hle
      have fin : ∀ {v : V} {H' : Hp} {own' : Own} {d : D}, Rep ⟨mg, K⟩ (fb A' own') H' d v → Rep ⟨mg, K⟩ A' H' d v := fun {v H' own' d} h => h.ext fun a o e n => ⟨e, fun q => n (.inl q)⟩
      split at e
      · rename_i d' ρ' e'
        cases e
        exact ⟨_, _, _, _, _, R, e', fun v σ' H' own' G R' r' => q v H' (fun a o e => R'.base a o e) (fin r')⟩
      · rename_i ρ' e'
        cases e
        exact ⟨_, _, _, _, _, R, e', fun σ' H' own' G R' => q .non H' (fun a o e => R'.base a o e) (by simp [Rep])⟩
      · cases e
    · cases e
end

/-! ### tests -/
def fB (f : FE) : FT := fun ρ => match f ρ with
  | some (.bl b, ρ1) => some (b, ρ1)
  | _ => none
def fAnd (f g : FT) : FT := fun ρ => match f ρ with
  | some (true, ρ1) => g ρ1
  | some (false, ρ1) => some (false, ρ1)
  | none => none
def fOr (f g : FT) : FT := fun ρ => match f ρ with
  | some (true, ρ1) => some (true, ρ1)
  | some (false, ρ1) => g ρ1
  | none => none
def fNot (f : FT) : FT := fun ρ => match f ρ with
  | some (b, ρ1) => some (!b, ρ1)
  | none => none
section
variable {X : Cx} {a b e c : Expr} {rest : List Expr} {pos : Pos} {f fa fb' : FE} {ft fu : FT}
theorem cT_test {mg : Gx} {t : TE} (h : ∀ σ H Q, cE mg f σ H Q → t σ H Q) : ∀ σ H Q, cT mg (fB f) σ H Q → tTest t σ H Q := by
  intro σ H Q ⟨Bs, M, own, ρ, d, ρ', R, e, k⟩
  unfold fB at e
  split at e
  · rename_i b ρ1 e1
    cases e
    refine h σ H _ ⟨Bs, M, own, ρ, _, _, R, e1, fun v H1 own1 G1 R1 r1 => ?_⟩
    simp only [Rep] at r1
    exact ⟨_, r1, k H1 own1 G1 R1⟩
  · cases e
theorem dt_val (h : DE X e f) (he : ∀ whole, isTrue e X.env whole = (do let v ← whole; standAt e.pos; holding [v] (truthy v)) := by intro _; rfl) : DT X e (fB f) := weakT (pt_val h he) (cT_test fun _ _ _ q => q)
theorem dt_cmp {op : CmpOp} {r : R2} {g : D → D → Option D} (ho : OpR X (compareOp op) r) (hg : OpD (GX X) r g) (ha : DE X a fa) (hb : DE X b fb') (hm : behindInMarks op b = false) : DT X (.Compare a [op] [b] pos) (fB (fBin g fa fb')) :=
  weakT (pt_cmpR ho ha hb hm) (cT_test (cE_bin hg))
theorem dt_not (h : DT X a ft) : DT X (.UnaryOp .Not a pos) (fNot ft) := weakT (pt_not h) fun σ H Q ⟨Bs, M, own, ρ, d, ρ', R, e, k⟩ => by
  unfold fNot at e
  split at e
  · rename_i b ρ1 e1
    cases e
    exact ⟨Bs, M, own, ρ, _, _, R, e1, k⟩
  · cases e
abbrev DW (X : Cx) (e : Expr) (f : FT) : Prop := PW X e (cT (GX X) f)
theorem weakW {t t' : TT} (h : PW X e t) (w : ∀ σ H Q, t' σ H Q → t σ H Q) : PW X e t' := ⟨fun wh pins s σ H Q I q => h.run wh pins s σ H Q I (w _ _ _ q)⟩
theorem dw_and1 (h : DT X a ft) : DW X (.BoolOp .And [a] pos) ft := pw_and1 h
theorem dw_or1 (h : DT X a ft) : DW X (.BoolOp .Or [a] pos) ft := pw_or1 h
theorem dw_and (ha : DT X a ft) (hb : DW X (.BoolOp .And (b :: rest) pos) fu) : DW X (.BoolOp .And (a :: b :: rest) pos) (fAnd ft fu) := weakW (pw_and ha hb) fun σ H Q ⟨Bs, M, own, ρ, d, ρ', R, e, k⟩ => by
  unfold fAnd at e
  split at e
  · rename_i ρ1 e1
    exact ⟨Bs, M, own, ρ, _, _, R, e1, fun H1 own1 G1 R1 => iteT ⟨Bs, M, own1, _, _, _, R1, e, fun H2 own2 G2 R2 => k H2 own2 (G1.trans G2) R2⟩⟩
  · rename_i ρ1 e1
    cases e
    exact ⟨Bs, M, own, ρ, _, _, R, e1, fun H1 own1 G1 R1 => iteF (k H1 own1 G1 R1)⟩
  · cases e
theorem dw_or (ha : DT X a ft) (hb : DW X (.BoolOp .Or (b :: rest) pos) fu) : DW X (.BoolOp .Or (a :: b :: rest) pos) (fOr ft fu) := weakW (pw_or ha hb) fun σ H Q ⟨Bs, M, own, ρ, d, ρ', R, e, k⟩ => by
  unfold fOr at e
  split at e
  · rename_i ρ1 e1
    cases e
    exact ⟨Bs, M, own, ρ, _, _, R, e1, fun H1 own1 G1 R1 => iteT (k H1 own1 G1 R1)⟩
  · rename_i ρ1 e1
    exact ⟨Bs, M, own, ρ, _, _, R, e1, fun H1 own1 G1 R1 => iteF ⟨Bs, M, own1, _, _, _, R1, e, fun H2 own2 G2 R2 => k H2 own2 (G1.trans G2) R2⟩⟩
  · cases e
theorem dw_t (h : DW X e ft) : DT X e ft := h.pt
def fIf (c : FT) (a b : FE) : FE := fun ρ => match c ρ with
  | some (true, ρ1) => a ρ1
  | some (false, ρ1) => b ρ1
  | none => none
theorem de_if (hc : DT X c ft) (ha : DE X a fa) (hb : DE X b fb') : DE X (.IfExp c a b pos) (fIf ft fa fb') := weakE (pe_ifExp hc ha hb) fun σ H Q ⟨Bs, M, own, ρ, d, ρ', R, e, k⟩ => by
  unfold fIf at e
  split at e
  · rename_i ρ1 e1
    exact ⟨Bs, M, own, ρ, _, _, R, e1, fun H1 own1 G1 R1 => iteT ⟨Bs, M, own1, _, _, _, R1, e, fun v H2 own2 G2 R2 => k v H2 own2 (G1.trans G2) R2⟩⟩
  · rename_i ρ1 e1
    exact ⟨Bs, M, own, ρ, _, _, R, e1, fun H1 own1 G1 R1 => iteF ⟨Bs, M, own1, _, _, _, R1, e, fun v H2 own2 G2 R2 => k v H2 own2 (G1.trans G2) R2⟩⟩
  · cases e
end

/-! ### targets -/
abbrev FG := D → List Slot → Option (List Slot)
section
variable (mg : Gx)
def cG (is : List Nat) (set : FG) : TG := fun v σ H Q => ∃ Bs M own ρ d ρ', RE mg Bs M own H ρ σ ∧ Rep mg (fb M own) H d v ∧ set d ρ = some ρ' ∧
  ∀ σ' own', Go M own H own' H → RE mg Bs M own' H ρ' σ' → σ'.length = σ.length → (∀ j, j ∉ is → σ'[j]? = σ[j]?) → Q σ' H
def cGs (is : List Nat) (set : List D → List Slot → Option (List Slot)) : TGs := fun vs σ H Q => ∃ Bs M own ρ ds ρ', RE mg Bs M own H ρ σ ∧ Reps mg (fb M own) H ds vs ∧ set ds ρ = some ρ' ∧
  ∀ σ' own', Go M own H own' H → RE mg Bs M own' H ρ' σ' → σ'.length = σ.length → (∀ j, j ∉ is → σ'[j]? = σ[j]?) → Q σ' H
end
abbrev DG (X : Cx) (tg : Expr) (is : List Nat) (set : FG) : Prop := PG X tg (cG (GX X) is set)
abbrev DGs (X : Cx) (tg : List Expr) (is : List Nat) (set : List D → List Slot → Option (List Slot)) : Prop := PGs X tg (cGs (GX X) is set)
theorem weakG {X : Cx} {tg : Expr} {t t' : TG} (h : PG X tg t) (w : ∀ v σ H Q, t' v σ H Q → t v σ H Q) : PG X tg t' := ⟨fun pins s σ H v u Q I r q => h.run pins s σ H v u Q I r (w _ _ _ _ q)⟩
theorem weakGs {X : Cx} {tg : List Expr} {t t' : TGs} (h : PGs X tg t) (w : ∀ v σ H Q, t' v σ H Q → t v σ H Q) : PGs X tg t' := ⟨fun pins s σ H v u Q I r q => h.run pins s σ H v u Q I r (w _ _ _ _ q)⟩
def gN (i : Nat) : FG := fun d ρ => some (ρ.set i (.val d))
def gs0 : List D → List Slot → Option (List Slot) := fun ds ρ => match ds with
  | [] => some ρ
  | _ => none
def gsC (g : FG) (gs : List D → List Slot → Option (List Slot)) : List D → List Slot → Option (List Slot) := fun ds ρ => match ds with
  | d :: ds => (g d ρ).bind fun ρ1 => gs ds ρ1
  | _ => none
def gT (n : Nat) (gs : List D → List Slot → Option (List Slot)) : FG := fun d ρ => match d with
  | .tup ds => if ds.length = n then gs ds ρ else none
  | _ => none
section
variable {X : Cx} {x : Str} {pos : Pos}
theorem dg_name {i : Nat} (hN : X.N.Nodup) (hi : X.N[i]? = some x) (hx : Loc X.env.scope x) (hf : X.fn x = true ∨ X.env.scope.names.lookup x = some .local := by first | exact .inl rfl | exact .inr rfl | assumption) : DG X (.Name x pos) [i] (gN i) :=
  weakG (pg_name hN hi hx hf) fun v σ H Q ⟨Bs, M, own, ρ, d, ρ', R, r, h, k⟩ => by
    cases h
    refine k _ _ (go_unown (i := i)) (R.setVal r) (by rw [List.length_set]) fun j hj => ?_
    rw [List.getElem?_set_ne (fun e => hj (by simp [e]))]
theorem dgs_nil : DGs X [] [] gs0 := weakGs pgs_nil fun vs σ H Q ⟨Bs, M, own, ρ, d, ρ', R, r, h, k⟩ => by
  unfold gs0 at h
  split at h
  · cases h
    simp [Reps] at r
    exact ⟨r, k σ own .refl R rfl fun _ _ => rfl⟩
  · cases h
theorem dgs_cons {e : Expr} {es : List Expr} {is js : List Nat} {g : FG} {gs : List D → List Slot → Option (List Slot)} (h1 : DG X e is g) (h2 : DGs X es js gs)
    (hs : (assignEach (e :: es) X.env).map (·.2) = assign e X.env :: (assignEach es X.env).map (·.2) := by rfl) : DGs X (e :: es) (is ++ js) (gsC g gs) := weakGs (pgs_cons h1 h2 hs) fun vs σ H Q ⟨Bs, M, own, ρ, ds, ρ', R, r, h, k⟩ => by
  unfold gsC at h
  split at h
  · rename_i d ds
    obtain ⟨ρ1, e1, e2⟩ := bind_some2 h
    simp only [Reps] at r
    obtain ⟨v, vr, ev, r1, r2⟩ := r
    refine ⟨v, vr, ev, Bs, M, own, ρ, d, ρ1, R, r1, e1, fun σ1 own1 G1 R1 l1 q1 => ?_⟩
    refine ⟨Bs, M, own1, ρ1, ds, ρ', R1, r2.ext G1.ext, e2, fun σ2 own2 G2 R2 l2 q2 => ?_⟩
    exact k σ2 own2 (G1.trans G2) R2 (l2.trans l1) fun j hj => (q2 j fun z => hj (List.mem_append_right _ z)).trans (q1 j fun z => hj (List.mem_append_left _ z))
  · cases h
theorem dg_tup {es : List Expr} {kk : Nat} {is : List Nat} {gs : List D → List Slot → Option (List Slot)} {n : Nat} (hc : X.calm = true) (h : DGs X es is gs)
    (hn : (assignEach es X.env).length = n := by rfl) (hst : (assignEach es X.env).findIdx? (·.1) = none := by rfl) : DG X (.Tuple es kk pos) is (gT n gs) := weakG (pg_tup hc h hn hst) fun v σ H Q ⟨Bs, M, own, ρ, d, ρ', R, r, e, k⟩ => by
  unfold gT at e
  split at e
  · split at e
    · rename_i ds hl
      simp only [Rep] at r
      obtain ⟨a, xs, ev, na, rd, rs⟩ := r
      exact ⟨a, xs, ev, .inl (.inl rd), by rw [rs.length]; exact hl, Bs, M, own, ρ, ds, ρ', R, rs, e, k⟩
    · cases e
  · cases e
end
end DL
end

section
set_option Elab.async false
set_option linter.all false
set_option maxRecDepth 100000
/-! DL3: statements, while, what is walked, for, comprehensions -/
namespace DL
open PySem PySem.Spec PyProof.Rows L2

section
variable {mg : Gx} {W : WX} {Bs : Fx} {M : Addr → Prop} {own own1 : Own} {H H1 : Hp} {Dn : Ends} {o : Out}
theorem PostS.go (G : Go M own H own1 H1) (h : PostS mg W Bs M own H Dn o) : PostS mg W Bs M own1 H1 Dn o := by
  cases o with
  | nx ρ => exact fun σ' H' own' G' R => h σ' H' own' (G.trans G') R
  | bk ρ => exact fun σ' H' own' G' R => h σ' H' own' (G.trans G') R
  | ct ρ => exact fun σ' H' own' G' R => h σ' H' own' (G.trans G') R
  | rt d ρ => exact fun v σ' H' own' G' R r => h v σ' H' own' (G.trans G') R r
  | rf b ρ => exact fun v σ' H' own' F G' R r => h v σ' H' own' F (G.trans G') R r
  | ex c ρ => exact fun C σ' H' own' m G' R => h C σ' H' own' m (G.trans G') R
end

/-! ### blocks and small statements -/
def fNext : FS := fun ρ => some (.nx ρ)
def fSeq (F G : FS) : FS := fun ρ => match F ρ with
  | some (.nx ρ1) => G ρ1
  | o => o
def fDrop (f : FE) : FS := fun ρ => match f ρ with
  | some (_, ρ1) => some (.nx ρ1)
  | none => none
def fRet (f : FE) : FS := fun ρ => match f ρ with
  | some (d, ρ1) => some (.rt d ρ1)
  | none => none
def fRetN : FS := fun ρ => some (.rt .non ρ)
def fIfS (c : FT) (F G : FS) : FS := fun ρ => match c ρ with
  | some (true, ρ1) => F ρ1
  | some (false, ρ1) => G ρ1
  | none => none
def fNever : FS := fun _ => none
def fAsg (f : FE) (g : FG) : FS := fun ρ => match f ρ with
  | some (d, ρ1) => (match g d ρ1 with
    | some ρ2 => some (.nx ρ2)
    | none => none)
  | none => none
def fPar (i j : Nat) (f : FA) : FS := fun ρ => match f ρ with
  | some ([x, y], ρ1) => some (.nx ((ρ1.set i (.val x)).set j (.val y)))
  | _ => none
def fAug (i : Nat) (g : D → D → Option D) (f : FE) : FS := fun ρ => match ρ[i]? with
  | some (.val x) => (match f ρ with
    | some (y, ρ1) => (match g x y with
      | some z => some (.nx (ρ1.set i (.val z)))
      | none => none)
    | none => none)
  | _ => none
section
variable {X : Cx} {st : Stmt} {rest : List Stmt} {e c : Expr} {a b : List Stmt} {F G : FS} {f : FE} {ft : FT} {pos : Pos} {x : Str}
theorem dss_nil : DSs X [] fNext := weakSs pss_nil fun Dn σ H ⟨Bs, M, own, ρ, o, R, h, p⟩ => by
  cases h
  exact p σ H own .refl R
theorem cS_seq {mg : Gx} {W : WX} : ∀ Dn σ H, cS mg W (fSeq F G) Dn σ H → tSeq (cS mg W F) (cS mg W G) Dn σ H := fun Dn σ H ⟨Bs, M, own, ρ, o, R, h, p⟩ => by
  unfold fSeq at h
  split at h
  · rename_i ρ1 e1
    exact ⟨Bs, M, own, ρ, _, R, e1, fun σ' H' own' Gg R' => ⟨Bs, M, own', ρ1, o, R', h, p.go Gg⟩⟩
  · rename_i e1
    cases o with
    | nx ρ1 => exact absurd h (e1 ρ1)
    | rt d ρ1 => exact ⟨Bs, M, own, ρ, _, R, h, p⟩
    | bk ρ1 => exact ⟨Bs, M, own, ρ, _, R, h, p⟩
    | ct ρ1 => exact ⟨Bs, M, own, ρ, _, R, h, p⟩
    | rf b ρ1 => exact ⟨Bs, M, own, ρ, _, R, h, p⟩
    | ex c ρ1 => exact ⟨Bs, M, own, ρ, _, R, h, p⟩
theorem dss_cons (h1 : DS X st F) (h2 : DSs X rest G) : DSs X (st :: rest) (fSeq F G) := weakSs (pss_cons h1 h2) cS_seq
theorem dss_one (h1 : DS X st F) : DSs X [st] F := pss_one h1
theorem ds_pass : DS X (.Pass pos) fNext := weakS ps_pass fun Dn σ H ⟨Bs, M, own, ρ, o, R, h, p⟩ => by
  cases h
  exact p σ H own .refl R
theorem ds_break : DS X (.Break pos) (fun ρ => some (.bk ρ)) := weakS ps_break fun Dn σ H ⟨Bs, M, own, ρ, o, R, h, p⟩ => by
  cases h
  exact p σ H own .refl R
theorem ds_continue : DS X (.Continue pos) (fun ρ => some (.ct ρ)) := weakS ps_continue fun Dn σ H ⟨Bs, M, own, ρ, o, R, h, p⟩ => by
  cases h
  exact p σ H own .refl R
theorem ds_expr (he : DE X e f) (hs : swapsWith e none pos.line X.env = pure false := by rfl) : DS X (.Expr e pos) (fDrop f) := weakS (ps_expr he hs) fun Dn σ H ⟨Bs, M, own, ρ, o, R, h, p⟩ => by
  unfold fDrop at h
  split at h
  · rename_i d ρ1 e1
    cases h
    exact ⟨Bs, M, own, ρ, _, _, R, e1, fun v H' own' G R' r => p σ H' own' G R'⟩
  · cases h
theorem ds_ret (he : DE X e f) : DS X (.Return (some e) pos) (fRet f) := weakS (ps_ret he) fun Dn σ H ⟨Bs, M, own, ρ, o, R, h, p⟩ => by
  unfold fRet at h
  split at h
  · rename_i d ρ1 e1
    cases h
    exact ⟨Bs, M, own, ρ, _, _, R, e1, fun v H' own' G R' r => p v σ H' own' G R' r⟩
  · cases h
theorem ds_retN : DS X (.Return none pos) fRetN := weakS ps_retN fun Dn σ H ⟨Bs, M, own, ρ, o, R, h, p⟩ => by
  cases h
  exact p .non σ H own .refl R (by simp [Rep])
theorem ds_if (hc : DT X c ft) (ha : DSs X a F) (hb : DSs X b G) : DS X (.If c a b pos) (fIfS ft F G) := weakS (ps_if hc ha hb) fun Dn σ H ⟨Bs, M, own, ρ, o, R, h, p⟩ => by
  unfold fIfS at h
  split at h
  · rename_i ρ1 e1
    exact ⟨Bs, M, own, ρ, _, _, R, e1, fun H1 own1 G1 R1 => iteT ⟨Bs, M, own1, _, _, R1, h, p.go G1⟩⟩
  · rename_i ρ1 e1
    exact ⟨Bs, M, own, ρ, _, _, R, e1, fun H1 own1 G1 R1 => iteF ⟨Bs, M, own1, _, _, R1, h, p.go G1⟩⟩
  · cases h
theorem ds_never : DS X st fNever := weakS ps_never fun Dn σ H ⟨Bs, M, own, ρ, o, R, h, p⟩ => by cases h
theorem cS_asg {mg : Gx} {W : WX} {is : List Nat} {g : FG} : ∀ Dn σ H, cS mg W (fAsg f g) Dn σ H → tAsg (cE mg f) (cG mg is g) Dn σ H := fun Dn σ H ⟨Bs, M, own, ρ, o, R, h, p⟩ => by
  unfold fAsg at h
  split at h
  · rename_i d ρ1 e1
    split at h
    · rename_i ρ2 e2
      cases h
      exact ⟨Bs, M, own, ρ, _, _, R, e1, fun v H1 own1 G1 R1 r1 => ⟨Bs, M, own1, _, _, _, R1, r1, e2, fun σ2 own2 G2 R2 _ _ => p σ2 H1 own2 (G1.trans G2) R2⟩⟩
    · cases h
  · cases h
theorem ds_asg {tg : Expr} {is : List Nat} {g : FG} (he : DE X e f) (hg : DG X tg is g) (hs : swapsWithSole [tg] e pos.line X.env = pure false := by rfl) (hw : swappedStores [tg] e X.env = pure none := by rfl)
    (h1 : (assignEach [tg] X.env).map (·.2) = [assign tg X.env] := by rfl) : DS X (.Assign [tg] e pos) (fAsg f g) := weakS (ps_asg he hg hs hw h1) cS_asg
/-- name = value -/
theorem ds_set {i : Nat} {pos' : Pos} (hN : X.N.Nodup) (hi : X.N[i]? = some x) (hx : Loc X.env.scope x) (he : DE X e f) (hs : swapsWith e (some (.Name x pos')) pos.line X.env = pure false := by rfl) (hf : X.fn x = true ∨ X.env.scope.names.lookup x = some .local := by first | exact .inl rfl | exact .inr rfl | assumption) :
    DS X (.Assign [.Name x pos'] e pos) (fAsg f (gN i)) := weakS (ps_set hN hi hx he hs hf) fun Dn σ H ⟨Bs, M, own, ρ, o, R, h, p⟩ => by
  unfold fAsg at h
  split at h
  · rename_i d ρ1 e1
    split at h
    · rename_i ρ2 e2
      cases h
      cases e2
      exact ⟨Bs, M, own, ρ, _, _, R, e1, fun v H1 own1 G1 R1 r1 => p _ H1 _ (G1.trans (go_unown (i := i))) (R1.setVal r1)⟩
    · cases h
  · cases h
/-- a, b = x, y -/
theorem ds_par {i j : Nat} {x y : Str} {a b : Expr} {fa : FA} {px py pt : Pos} {kt k2 pt2} (hc : X.calm = true) (hN : X.N.Nodup) (hi : X.N[i]? = some x) (hj : X.N[j]? = some y) (hij : i ≠ j)
    (hx : X.env.scope.names.lookup x = some .local) (hy : X.env.scope.names.lookup y = some .local) (ha : DA X [a, b] fa)
    (hw : swappedStores [.Tuple [.Name x px, .Name y py] kt pt] (.Tuple [a, b] k2 pt2) X.env = pure (some [x, y]))
    (hs : swapsWithSole [.Tuple [.Name x px, .Name y py] kt pt] (.Tuple [a, b] k2 pt2) pos.line X.env = pure false := by rfl) :
    DS X (.Assign [.Tuple [.Name x px, .Name y py] kt pt] (.Tuple [a, b] k2 pt2) pos) (fPar i j fa) := weakS (ps_par hc hN hi hj hij hx hy ha hw hs) fun Dn σ H ⟨Bs, M, own, ρ, o, R, h, p⟩ => by
  unfold fPar at h
  split at h
  · rename_i d d' ρ1 e1
    cases h
    refine ⟨Bs, M, own, ρ, _, _, R, e1, fun vs H1 own1 G1 R1 r1 => ?_⟩
    simp only [Reps] at r1
    obtain ⟨v, _, rfl, r, w, _, rfl, r', rfl⟩ := r1
    have R2 := R1.setVal (i := i) r
    exact ⟨v, w, rfl, p _ H1 _ ((G1.trans (go_unown (i := i))).trans (go_unown (i := j))) (R2.setVal (i := j) (r'.ext ext_unown))⟩
  · cases h
/-- name op= e -/
theorem ds_aug {i : Nat} {op : Operator} {g : D → D → Option D} {ti : TIp} {pos' : Pos} (hN : X.N.Nodup) (hi : X.N[i]? = some x) (hx : Loc X.env.scope x) (he : DE X e f) (ho : PIp X op ti) (hg : OpD (GX X) ti g) (hf : X.fn x = true ∨ X.env.scope.names.lookup x = some .local := by first | exact .inl rfl | exact .inr rfl | assumption) :
    DS X (.AugAssign (.Name x pos') op e pos) (fAug i g f) := weakS (ps_aug hN hi hx he ho hf) fun Dn σ H ⟨Bs, M, own, ρ, o, R, h, p⟩ => by
  unfold fAug at h
  split at h
  · rename_i d e0
    split at h
    · rename_i d' ρ1 e1
      split at h
      · rename_i z e2
        cases h
        obtain ⟨w, q1, v, q2, r⟩ := R.at e0
        subst q2
        refine ⟨v, q1, Bs, M, own, ρ, _, _, R, e1, fun y H1 own1 G1 R1 r1 => ?_⟩
        refine hg (fb M own1) H1 v y _ _ _ _ (fun a q => R1.fresh q) (r.ext G1.ext) r1 e2 fun u H3 s3 r3 => ?_
        exact p _ H3 _ ((G1.trans (R1.goSame s3)).trans (go_unown (i := i))) ((R1.same s3).setVal r3)
      · cases h
    · cases h
  · cases h
end

/-! ### while -/
def wN (c : FT) (F : FS) : Nat → FS
  | 0 => fun _ => none
  | n + 1 => fun ρ => match c ρ with
    | some (true, ρ1) => (match F ρ1 with
      | some (.nx ρ2) => wN c F n ρ2
      | some (.ct ρ2) => wN c F n ρ2
      | some (.bk ρ2) => some (.nx ρ2)
      | some (.rt d ρ2) => some (.rt d ρ2)
      | some (.rf b ρ2) => some (.rf b ρ2)
      | some (.ex c ρ2) => some (.ex c ρ2)
      | none => none)
    | some (false, ρ1) => some (.nx ρ1)
    | none => none
theorem wN_mono {c : FT} {F : FS} : ∀ {n m : Nat} {ρ : List Slot} {o : Out}, wN c F n ρ = some o → n ≤ m → wN c F m ρ = some o
  | 0, _, _, _, h, _ => by cases h
  | n + 1, 0, _, _, _, l => by omega
  | n + 1, m + 1, ρ, o, h, l => by
    unfold wN at h ⊢
    split at h
    · split at h
      · exact wN_mono h (by omega)
      · exact wN_mono h (by omega)
      · exact h
      · exact h
      · exact h
      · exact h
      · cases h
    · exact h
    · cases h
open Classical in
noncomputable def fWhile (c : FT) (F : FS) : FS := fun ρ => if h : ∃ o, ∃ n, wN c F n ρ = some o then some h.choose else none
theorem fWhile_of {c : FT} {F : FS} {n : Nat} {ρ : List Slot} {o : Out} (h : wN c F n ρ = some o) : fWhile c F ρ = some o := by
  have hx : ∃ o, ∃ n, wN c F n ρ = some o := ⟨o, n, h⟩
  unfold fWhile
  rw [dif_pos hx]
  obtain ⟨m, hm⟩ := hx.choose_spec
  have h1 := wN_mono h (Nat.le_max_left n m)
  have h2 := wN_mono hm (Nat.le_max_right n m)
  rw [h1] at h2
  exact h2.symm
theorem of_fWhile {c : FT} {F : FS} {ρ : List Slot} {o : Out} (h : fWhile c F ρ = some o) : ∃ n, wN c F n ρ = some o := by
  unfold fWhile at h
  split at h
  · rename_i hx
    cases h
    exact hx.choose_spec
  · cases h
theorem fWhile_false {c : FT} {F : FS} {ρ ρ1 : List Slot} (h : c ρ = some (false, ρ1)) : fWhile c F ρ = some (.nx ρ1) := fWhile_of (n := 1) (by unfold wN; rw [h])
theorem fWhile_nx {c : FT} {F : FS} {ρ ρ1 ρ2 : List Slot} {o : Out} (h : c ρ = some (true, ρ1)) (h2 : F ρ1 = some (.nx ρ2)) (h3 : fWhile c F ρ2 = some o) : fWhile c F ρ = some o := by
  obtain ⟨n, e⟩ := of_fWhile h3
  exact fWhile_of (n := n + 1) (by unfold wN; rw [h]; simp only [h2]; exact e)
theorem fWhile_rt {c : FT} {F : FS} {ρ ρ1 ρ2 : List Slot} {d : D} (h : c ρ = some (true, ρ1)) (h2 : F ρ1 = some (.rt d ρ2)) : fWhile c F ρ = some (.rt d ρ2) :=
  fWhile_of (n := 1) (by unfold wN; rw [h]; simp only [h2])
theorem fWhile_bk {c : FT} {F : FS} {ρ ρ1 ρ2 : List Slot} (h : c ρ = some (true, ρ1)) (h2 : F ρ1 = some (.bk ρ2)) : fWhile c F ρ = some (.nx ρ2) :=
  fWhile_of (n := 1) (by unfold wN; rw [h]; simp only [h2])
section
variable {X : Cx} {c : Expr} {body : List Stmt} {F : FS} {ft : FT} {pos : Pos}
theorem ds_while (hp : PassesOwn (model X.prog X.w) X.A X.env X.xe) (hc : DT X c ft) (hb : DSs X body F) : DS X (.While c body [] pos) (fWhile ft F) := weakS (ps_while hp hc hb) fun Dn σ H ⟨Bs, M, own, ρ, o, R, h, p⟩ => by
  obtain ⟨n, h⟩ := of_fWhile h
  refine ⟨fun m σ' H' => ∃ own' ρ', Go M own H own' H' ∧ RE (GX X) Bs M own' H' ρ' σ' ∧ wN ft F m ρ' = some o, ⟨n, own, ρ, .refl, R, h⟩, ?_⟩
  rintro m σ1 H1 ⟨own1, ρ1, G1, R1, h1⟩
  cases m with
  | zero => cases h1
  | succ m =>
    unfold wN at h1
    split at h1
    · rename_i ρ2 e2
      refine ⟨Bs, M, own1, ρ1, _, _, R1, e2, fun H2 own2 G2 R2 => iteT ?_⟩
      refine ⟨fun σ' H' => ∃ own' ρ', Go M own H own' H' ∧ RE (GX X) Bs M own' H' ρ' σ' ∧ wN ft F m ρ' = some o, fun σ' H' q => ⟨m, Nat.lt_succ_self m, q⟩, ?_⟩
      split at h1
      · rename_i ρ3 e3
        exact ⟨Bs, M, own2, ρ2, _, R2, e3, fun σ' H' own' G' R' => ⟨own', ρ3, (G1.trans G2).trans G', R', h1⟩⟩
      · rename_i ρ3 e3
        exact ⟨Bs, M, own2, ρ2, _, R2, e3, fun σ' H' own' G' R' => ⟨own', ρ3, (G1.trans G2).trans G', R', h1⟩⟩
      · rename_i ρ3 e3
        cases h1
        exact ⟨Bs, M, own2, ρ2, _, R2, e3, fun σ' H' own' G' R' => p σ' H' own' ((G1.trans G2).trans G') R'⟩
      · rename_i d ρ3 e3
        cases h1
        exact ⟨Bs, M, own2, ρ2, _, R2, e3, fun v σ' H' own' G' R' r => p v σ' H' own' ((G1.trans G2).trans G') R' r⟩
      · rename_i d ρ3 e3
        cases h1
        exact ⟨Bs, M, own2, ρ2, _, R2, e3, fun v σ' H' own' F G' R' r => p v σ' H' own' F ((G1.trans G2).trans G') R' r⟩
      · rename_i c' ρ3 e3
        cases h1
        exact ⟨Bs, M, own2, ρ2, _, R2, e3, fun C σ' H' own' m G' R' => p C σ' H' own' m ((G1.trans G2).trans G') R'⟩
      · cases h1
    · rename_i ρ2 e2
      cases h1
      exact ⟨Bs, M, own1, ρ1, _, _, R1, e2, fun H2 own2 G2 R2 => iteF (p σ1 H2 own2 (G1.trans G2) R2)⟩
    · cases h1
end

/-! ### what is walked -/
structure Wk (mg : Gx) (J : It) (A : Addr → Prop) (H0 : Hp) (ds : List D) : Prop where
  goes : ∀ i H A', i < ds.length → Ext A H0 A' H → J.go i H
  stops : ∀ H A', Ext A H0 A' H → J.stop ds.length H
  yields : ∀ i H x H' A', Ext A H0 A' H → (∀ a, H a = none → ¬ A' a) → J.yld i H x H' → Same H H' ∧ ∀ d, ds[i]? = some d → Rep mg A' H' d x
abbrev FI := List Slot → Option (List D × List Slot)
def cI (mg : Gx) (f : FI) : TI := fun σ H R => ∃ Bs M own ρ ds ρ', RE mg Bs M own H ρ σ ∧ f ρ = some (ds, ρ') ∧
  ∀ J H' own', Go M own H own' H' → RE mg Bs M own' H' ρ' σ → Wk mg J (fb M own') H' ds → R J H'
abbrev DI (X : Cx) (tg it : Expr) (f : FI) : Prop := PI X tg it (cI (GX X) f)
theorem weakI {X : Cx} {tg it : Expr} {t t' : TI} (h : PI X tg it t) (w : ∀ σ H R, t' σ H R → t σ H R) : PI X tg it t' := ⟨fun pins s σ H R I q => h.run pins s σ H R I (w _ _ _ q)⟩

/-! ### for -/
def forGo (g : FG) (F : FS) : List D → FS
  | [] => fun ρ => some (.nx ρ)
  | d :: ds => fun ρ => match g d ρ with
    | some ρ1 => (match F ρ1 with
      | some (.nx ρ2) => forGo g F ds ρ2
      | some (.ct ρ2) => forGo g F ds ρ2
      | some (.bk ρ2) => some (.nx ρ2)
      | some (.rt d ρ2) => some (.rt d ρ2)
      | some (.rf b ρ2) => some (.rf b ρ2)
      | some (.ex c ρ2) => some (.ex c ρ2)
      | none => none)
    | none => none
def fFor (f : FI) (g : FG) (F : FS) : FS := fun ρ => match f ρ with
  | some (ds, ρ1) => forGo g F ds ρ1
  | none => none
section
variable {X : Cx} {tg iter : Expr} {body : List Stmt} {F : FS} {f : FI} {g : FG} {is : List Nat} {pos : Pos}
theorem cS_for {mg : Gx} {W : WX} : ∀ Dn σ H, cS mg W (fFor f g F) Dn σ H → tFor (cI mg f) (cG mg is g) (cS mg W F) Dn σ H := fun Dn σ H ⟨Bs, M, own, ρ, o, R, h, p⟩ => by
  unfold fFor at h
  split at h
  · rename_i ds ρ1 e1
    refine ⟨Bs, M, own, ρ, ds, ρ1, R, e1, fun J H1 own1 G1 R1 wk => ?_⟩
    refine ⟨fun i m σ' H' => m = ds.length - i ∧ i ≤ ds.length ∧ ∃ own' ρ', Go M own1 H1 own' H' ∧ RE mg Bs M own' H' ρ' σ' ∧ forGo g F (ds.drop i) ρ' = some o, ⟨ds.length, by simp, Nat.zero_le _, own1, ρ1, .refl, R1, by simpa using h⟩, ?_⟩
    rintro i m σ2 H2 ⟨rfl, hi, own2, ρ2, G2, R2, h2⟩
    by_cases hlt : i < ds.length
    · rw [List.drop_eq_getElem_cons hlt] at h2
      unfold forGo at h2
      split at h2
      · rename_i ρ3 e3
        refine .inr ⟨wk.goes i H2 _ hlt G2.ext, fun σ' H' => ∃ own' ρ', Go M own1 H1 own' H' ∧ RE mg Bs M own' H' ρ' σ' ∧ forGo g F (ds.drop (i + 1)) ρ' = some o,
          fun σ' H' q => ⟨ds.length - (i + 1), by omega, rfl, hlt, q⟩, fun x H3 y => ?_⟩
        obtain ⟨s3, r3⟩ := wk.yields i H2 x H3 _ G2.ext (fun a q => R2.fresh q) y
        refine ⟨Bs, M, own2, ρ2, _, ρ3, R2.same s3, r3 _ (List.getElem?_eq_getElem hlt), e3, fun σ4 own4 G4 R4 _ _ => ?_⟩
        have G24 := (G2.trans (R2.goSame s3)).trans G4
        split at h2
        · rename_i ρ5 e5
          exact ⟨Bs, M, own4, ρ3, _, R4, e5, fun σ' H' own' G' R' => ⟨own', ρ5, G24.trans G', R', h2⟩⟩
        · rename_i ρ5 e5
          exact ⟨Bs, M, own4, ρ3, _, R4, e5, fun σ' H' own' G' R' => ⟨own', ρ5, G24.trans G', R', h2⟩⟩
        · rename_i ρ5 e5
          cases h2
          exact ⟨Bs, M, own4, ρ3, _, R4, e5, fun σ' H' own' G' R' => p σ' H' own' ((G1.trans G24).trans G') R'⟩
        · rename_i d ρ5 e5
          cases h2
          exact ⟨Bs, M, own4, ρ3, _, R4, e5, fun v σ' H' own' G' R' r => p v σ' H' own' ((G1.trans G24).trans G') R' r⟩
        · rename_i d ρ5 e5
          cases h2
          exact ⟨Bs, M, own4, ρ3, _, R4, e5, fun v σ' H' own' F G' R' r => p v σ' H' own' F ((G1.trans G24).trans G') R' r⟩
        · rename_i c' ρ5 e5
          cases h2
          exact ⟨Bs, M, own4, ρ3, _, R4, e5, fun C σ' H' own' m G' R' => p C σ' H' own' m ((G1.trans G24).trans G') R'⟩
        · cases h2
      · cases h2
    · have e : i = ds.length := by omega
      subst e
      rw [List.drop_length] at h2
      cases h2
      exact .inl ⟨wk.stops H2 _ G2.ext, p σ2 H2 own2 (G1.trans G2) R2⟩
  · cases h
theorem ds_for (hp : PassesOwn (model X.prog X.w) X.A X.env X.xe) (hc : X.calm = true) (hi : DI X tg iter f) (hg : DG X tg is g) (hb : DSs X body F)
    (hs : ∀ x, foldedSetIterable iter X.env x = pure x := by intro _; rfl) : DS X (.For tg iter body [] pos) (fFor f g F) := weakS (ps_for hp hc hi hg hb hs) cS_for
end

/-! ### new lists -/
abbrev FF := List Slot → Option (B × List Slot)
def cF (mg : Gx) (f : FF) : TE := fun σ H Q => ∃ Bs M own ρ b ρ', RE mg Bs M own H ρ σ ∧ f ρ = some (b, ρ') ∧
  ∀ v H' own' F, Go M own H own' H' → RE mg Bs M own' H' ρ' σ → RepF mg (fb M own') H' [] b v F → (F.map (·.1)).Nodup → (∀ x ∈ F, H x.1 = none ∧ own' x.1 = some (.tmp x.1)) → Q v H'
abbrev DF (X : Cx) (e : Expr) (f : FF) : Prop := PE X e (cF (GX X) f)
def fThaw (f : FF) : FE := fun ρ => match f ρ with
  | some (b, ρ1) => some (b.toD, ρ1)
  | none => none
/-- the addresses of F are let go -/
def letF (own : Own) (F : List (Addr × List Nat)) : Own := fun a => match F.lookup a with
  | some _ => none
  | none => own a
theorem lookup_mem : ∀ {F : List (Addr × List Nat)} {a : Addr} {p : List Nat}, (F.map (·.1)).Nodup → (a, p) ∈ F → F.lookup a = some p
  | [], _, _, _, h => by simp at h
  | (c, q) :: F, a, p, n, h => by
    rw [List.map_cons, List.nodup_cons] at n
    rcases List.mem_cons.mp h with e | h
    · cases e; simp [List.lookup]
    · have ne : ¬ a = c := fun e => n.1 (List.mem_map.mpr ⟨(a, p), h, e⟩)
      simp only [List.lookup]
      have : (a == c) = false := by simpa using ne
      rw [this]
      exact lookup_mem n.2 h
theorem of_lookup : ∀ {F : List (Addr × List Nat)} {a : Addr} {p : List Nat}, F.lookup a = some p → (a, p) ∈ F
  | [], _, _, h => by simp [List.lookup] at h
  | (c, q) :: F, a, p, h => by
    simp only [List.lookup] at h
    split at h
    · rename_i e
      cases h
      have : a = c := by simpa using e
      subst this
      exact List.mem_cons_self
    · exact List.mem_cons_of_mem _ (of_lookup h)
theorem of_letF {own : Own} {F : List (Addr × List Nat)} {a : Addr} {o : Owner} (h : letF own F a = some o) : own a = some o ∧ F.lookup a = none := by
  unfold letF at h
  split at h
  · cases h
  · rename_i e; exact ⟨h, e⟩
theorem letF_out {own : Own} {F : List (Addr × List Nat)} {a : Addr} (h : F.lookup a = none) : letF own F a = own a := by unfold letF; rw [h]
theorem letF_in {own : Own} {F : List (Addr × List Nat)} {x : Addr × List Nat} (n : (F.map (·.1)).Nodup) (h : x ∈ F) : letF own F x.1 = none := by unfold letF; rw [lookup_mem (p := x.2) n h]
theorem fb_letF {M : Addr → Prop} {own : Own} {F : List (Addr × List Nat)} {a : Addr} (h : fb M (letF own F) a) : fb M own a := by
  rcases h with h | h
  · exact .inl h
  · obtain ⟨o, e⟩ := Option.isSome_iff_exists.mp h
    exact .inr (by rw [(of_letF e).1]; rfl)
section
variable {mg : Gx} {Bs : Fx} {M : Addr → Prop} {own : Own} {H : Hp} {ρ : List Slot} {σ : L2.St} {F : List (Addr × List Nat)}
theorem RE.letF (R : RE mg Bs M own H ρ σ) (hF : ∀ x ∈ F, own x.1 = some (.tmp x.1)) : RE mg Bs M (DL.letF own F) H ρ σ := by
  refine ⟨R.len, R.base, fun a o e => ?_, R.mb, fun a e => ?_, fun a c j q e1 e2 => R.inj a c j q (of_letF e1).1 (of_letF e2).1, fun j s w e1 e2 => (R.slots j s w e1 e2).ext (fun a o e n => ⟨e, fun z => n (fb_letF z)⟩) fun a r e => ⟨?_, rfl⟩, R.pins⟩
  · cases q : DL.letF own F a with
    | none => rfl
    | some o' => have := (of_letF q).1; rw [R.apart a o e] at this; cases this
  · obtain ⟨o, q⟩ := Option.isSome_iff_exists.mp e
    exact R.there a (by rw [(of_letF q).1]; rfl)
  · rw [letF_out]
    · exact e
    · cases q : F.lookup a with
      | none => rfl
      | some p => have := hF _ (of_lookup q); rw [show own a = some (.tmp a) from this] at e; cases e
end
mutual
theorem RepF.toD {mg : Gx} {A A' : Addr → Prop} {H : Hp} (x : Ext A H A' H) : ∀ {p : List Nat} {b : B} {v : V} {F : List (Addr × List Nat)}, RepF mg A H p b v F → (∀ x ∈ F, ¬ A' x.1) → Rep mg A' H b.toD v
  | _, .imm d, v, F, h, n => by simp only [RepF, B.toD] at h ⊢; exact h.1.ext x
  | p, .own bs, v, F, h, n => by
    simp only [RepF, B.toD, Rep] at h ⊢
    obtain ⟨a, xs, F', rfl, h1, h2, rfl⟩ := h
    exact ⟨a, xs, rfl, n (a, p) List.mem_cons_self, h1, RepFs.toD x h2 fun x hx => n x (List.mem_cons_of_mem _ hx)⟩
  | p, .odct ks ds, v, F, h, n => by
    simp only [RepF, B.toD, Rep] at h ⊢
    obtain ⟨a, kvs, rfl, h1, h2, h3, rfl⟩ := h
    exact ⟨a, kvs, rfl, n (a, p) List.mem_cons_self, .inl h1, h2, h3.ext x⟩
theorem RepFs.toD {mg : Gx} {A A' : Addr → Prop} {H : Hp} (x : Ext A H A' H) : ∀ {p : List Nat} {k : Nat} {bs : List B} {vs : List V} {F : List (Addr × List Nat)}, RepFs mg A H p k bs vs F → (∀ x ∈ F, ¬ A' x.1) → Reps mg A' H (B.toDs bs) vs
  | _, _, [], vs, F, h, n => by simp only [RepFs, B.toDs, Reps] at h ⊢; exact h.1
  | p, k, b :: bs, vs, F, h, n => by
    simp only [RepFs, B.toDs, Reps] at h ⊢
    obtain ⟨y, ys, F1, F2, rfl, h1, h2, rfl⟩ := h
    exact ⟨y, ys, rfl, RepF.toD x h1 fun y hy => n y (List.mem_append_left _ hy), RepFs.toD x h2 fun y hy => n y (List.mem_append_right _ hy)⟩
end
theorem go_letF {M : Addr → Prop} {own own' : Own} {H H' : Hp} {F : List (Addr × List Nat)} (G : Go M own H own' H') (dm : ∀ a, (own a).isSome = true → ∃ o, H a = some o) (hF : ∀ x ∈ F, H x.1 = none) : Go M own H (letF own' F) H' :=
  ⟨G.ext.trans fun a o e n => ⟨e, fun q => n (fb_letF q)⟩, fun a p e => by
    obtain ⟨e1, e2⟩ := G.tmp a p e
    refine ⟨?_, e2⟩
    rw [letF_out]
    · exact e1
    · cases q : F.lookup a with
      | none => rfl
      | some r =>
        obtain ⟨o, e3⟩ := dm a (by rw [e]; rfl)
        have := hF _ (of_lookup q)
        rw [show H a = none from this] at e3; exact (nomatch e3), G.dom⟩
theorem cE_F {mg : Gx} {f : FF} : ∀ σ H Q, cE mg (fThaw f) σ H Q → cF mg f σ H Q := fun σ H Q ⟨Bs, M, own, ρ, d, ρ', R, h, k⟩ => by
  unfold fThaw at h
  split at h
  · rename_i b ρ1 e
    cases h
    refine ⟨Bs, M, own, ρ, _, _, R, e, fun v H' own' F G R' r nd fr => ?_⟩
    refine k v H' (letF own' F) (go_letF G R.there fun x hx => (fr x hx).1) (R'.letF fun x hx => (fr x hx).2) (r.toD (fun a o e n => ⟨e, fun q => n (fb_letF q)⟩) fun x hx q => ?_)
    rcases q with q | q
    · exact R'.notM (fr x hx).2 q
    · rw [letF_in nd hx] at q; cases q
  · cases h
theorem de_F {X : Cx} {e : Expr} {f : FF} (h : DF X e f) : DE X e (fThaw f) := weakE h cE_F

/-! ### comprehensions -/
def wip (ρ : List Slot) : List Nat → List Slot
  | [] => ρ
  | v :: vs => (wip ρ vs).set v .un
def unowns (own : Own) : List Nat → Own
  | [] => own
  | v :: vs => unown v (unowns own vs)
def unwip (ρ0 ρ : List Slot) : List Nat → List Slot
  | [] => ρ
  | v :: vs => (unwip ρ0 ρ vs).set v (ρ0[v]?.getD .un)
def noBox (ρ : List Slot) (vs : List Nat) : Bool := vs.all fun v => match ρ[v]? with
  | some (.box _ _) => false
  | _ => true
def lcGo (g : FG) (c : FT) (e : FE) (vs : List Nat) : List D → List Slot → Option (List D × List Slot)
  | [], ρ => some ([], ρ)
  | d :: ds, ρ => match g d ρ with
    | some ρ1 => (match c ρ1 with
      | some (true, ρ2) => (match e ρ2 with
        | some (y, ρ3) => (match lcGo g c e vs ds (wip ρ3 vs) with
          | some (ys, ρ4) => some (y :: ys, ρ4)
          | none => none)
        | none => none)
      | some (false, ρ2) => lcGo g c e vs ds (wip ρ2 vs)
      | none => none)
    | none => none
def fLcL (f : FI) (g : FG) (vs : List Nat) (c : FT) (e : FE) : List Slot → Option (List D × List Slot) := fun ρ => match f ρ with
  | some (ds, ρ1) => if noBox ρ1 vs = true ∧ ds.length ≤ sizeLine then (match lcGo g c e vs ds (wip ρ1 vs) with
    | some (ys, ρ2) => some (ys, unwip ρ1 ρ2 vs)
    | none => none) else none
  | none => none
def fLcF (f : FI) (g : FG) (vs : List Nat) (c : FT) (e : FE) : FF := fun ρ => match fLcL f g vs c e ρ with
  | some (ys, ρ1) => some (.own (ys.map .imm), ρ1)
  | none => none
def fLc (f : FI) (g : FG) (vs : List Nat) (c : FT) (e : FE) : FE := fun ρ => match fLcL f g vs c e ρ with
  | some (ys, ρ1) => some (.lst ys, ρ1)
  | none => none
theorem RepFs_imm {mg : Gx} {A : Addr → Prop} {H : Hp} {p : List Nat} : ∀ {k : Nat} {ds : List D} {vs : List V}, Reps mg A H ds vs → RepFs mg A H p k (ds.map .imm) vs []
  | _, [], vs, h => by simp only [Reps] at h; subst h; simp [RepFs]
  | k, d :: ds, vs, h => by
    simp only [Reps] at h
    obtain ⟨x, xs, rfl, h1, h2⟩ := h
    simp only [List.map_cons, RepFs, RepF]
    exact ⟨x, xs, [], [], rfl, ⟨h1, rfl⟩, RepFs_imm h2, rfl⟩
def fTrue : FT := fun ρ => some (true, ρ)
section
variable {mg : Gx} {Bs : Fx} {M : Addr → Prop} {own : Own} {H H' : Hp} {ρ : List Slot} {σ : L2.St}
theorem RE.wipe (R : RE mg Bs M own H ρ σ) : ∀ vs : List Nat, RE mg Bs M (unowns own vs) H (wip ρ vs) (L2.wipe σ vs)
  | [] => R
  | v :: vs => by
    unfold unowns wip L2.wipe
    exact (R.wipe vs).clear
theorem go_unowns : ∀ vs : List Nat, Go M own H (unowns own vs) H
  | [] => .refl
  | v :: vs => by unfold unowns; exact (go_unowns vs).trans go_unown
theorem wipe_len (σ : L2.St) (vs : List Nat) : (L2.wipe σ vs).length = σ.length := wipe_length σ vs
theorem wipe_get {σ : L2.St} {j : Nat} : ∀ {vs : List Nat}, (L2.wipe σ vs)[j]? = if j ∈ vs ∧ j < σ.length then some none else σ[j]?
  | [] => by simp [L2.wipe]
  | v :: vs => by
    unfold L2.wipe
    by_cases hv : v = j
    · subst hv
      by_cases hl : v < σ.length
      · rw [List.getElem?_set_self (by rw [wipe_length]; exact hl)]; simp [hl]
      · rw [List.getElem?_eq_none (by rw [List.length_set, wipe_length]; omega)]
        simp [hl]
    · rw [List.getElem?_set_ne hv, wipe_get (vs := vs)]
      have : (j ∈ v :: vs) ↔ j ∈ vs := by simp; intro e; exact absurd e.symm hv
      simp only [this]
theorem wipe_same {σ σ2 : L2.St} {vs is : List Nat} (hl : σ2.length = (L2.wipe σ vs).length) (h : ∀ j, j ∉ is → σ2[j]? = (L2.wipe σ vs)[j]?) (hs : ∀ j ∈ is, j ∈ vs) : L2.wipe σ2 vs = L2.wipe σ vs := by
  apply List.ext_getElem?
  intro j
  rw [wipe_get, wipe_get]
  rw [wipe_length] at hl
  by_cases hj : j ∈ vs
  · by_cases hlt : j < σ.length
    · simp [hj, hlt, hl]
    · simp only [hj, hl, hlt, and_false, if_false]
      rw [List.getElem?_eq_none (by omega), List.getElem?_eq_none (by omega)]
  · have hi : j ∉ is := fun z => hj (hs j z)
    have := h j hi
    rw [wipe_get] at this
    simp only [hj, false_and, if_false] at this ⊢
    exact this
/-- the tracked list at an address of ours that no slot holds is changed -/
theorem RE.tmpSet {p : Addr} {q : Addr} {o : HO} (R : RE mg Bs M own H ρ σ) (h : own p = some (.tmp q)) : RE mg Bs M own (upd H p o) ρ σ := by
  have nb : ∀ a u, Bs.h a = some u → a ≠ p := fun a u e z => by subst z; rw [R.apart _ _ e] at h; cases h
  have x : Ext (fb M own) H (fb M own) (upd H p o) := fun a u e n => ⟨by rw [upd_ne (fun z => n (.inr (by rw [z, h]; rfl)))]; exact e, n⟩
  refine ⟨R.len, fun a u e => by rw [upd_ne (nb a u e)]; exact R.base a u e, R.apart, R.mb, fun a e => ?_, R.inj, fun i s w e1 e2 => (R.slots i s w e1 e2).ext x fun a r e => ⟨e, upd_ne fun z => by rw [z, h] at e; cases e⟩, R.pins⟩
  by_cases ha : a = p
  · subst ha; exact ⟨o, upd_same⟩
  · obtain ⟨u, q⟩ := R.there a e
    exact ⟨u, by rw [upd_ne ha]; exact q⟩
theorem ext_tmpSet {p : Addr} {q : Addr} {o : HO} (h : own p = some (.tmp q)) : Ext (fb M own) H (fb M own) (upd H p o) := fun a u e n => ⟨by rw [upd_ne (fun z => n (.inr (by rw [z, h]; rfl)))]; exact e, n⟩
/-- a new thing at p, ours -/
theorem RE.tmpNew {p : Addr} {o : HO} (R : RE mg Bs M own H ρ σ) (hp : H p = none) : RE mg Bs M (ownAt own p (.tmp p)) (upd H p o) ρ σ ∧ Go M own H (ownAt own p (.tmp p)) (upd H p o) := by
  have same : Same H (upd H p o) := same_upd hp
  have npo : own p = none := by
    cases e : own p with
    | none => rfl
    | some o => obtain ⟨u, q⟩ := R.there p (by rw [e]; rfl); rw [hp] at q; cases q
  have x : Ext (fb M own) H (fb M (ownAt own p (.tmp p))) (upd H p o) := fun a o e n => ⟨same a o e, fun q => by
    have ne : a ≠ p := ne_of_none e hp
    rcases q with q | q
    · exact n (.inl q)
    · rw [ownAt_ne ne] at q; exact n (.inr q)⟩
  refine ⟨⟨R.len, fun a o e => same a o (R.base a o e), fun a o e => ?_, R.mb, fun a e => ?_, fun a c j q e1 e2 => ?_, fun j s w e1 e2 => (R.slots j s w e1 e2).ext x fun a q e => ?_, R.pins⟩, x, fun a q e => ?_, fun a o e => ⟨o, same a o e⟩⟩
  · have ne : a ≠ p := fun z => by rw [z] at e; have := R.base p o e; rw [hp] at this; cases this
    rw [ownAt_ne ne]; exact R.apart a o e
  · by_cases ha : a = p
    · subst ha; exact ⟨_, upd_same⟩
    · rw [ownAt_ne ha] at e
      obtain ⟨u, z⟩ := R.there a e
      exact ⟨u, same a u z⟩
  · have h1 : a ≠ p := fun z => by rw [z, ownAt_same] at e1; cases e1
    have h2 : c ≠ p := fun z => by rw [z, ownAt_same] at e2; cases e2
    rw [ownAt_ne h1] at e1
    rw [ownAt_ne h2] at e2
    exact R.inj a c j q e1 e2
  · have ne : a ≠ p := fun z => by rw [z, npo] at e; cases e
    exact ⟨by rw [ownAt_ne ne]; exact e, upd_ne ne⟩
  · have ne : a ≠ p := fun z => by rw [z, npo] at e; cases e
    exact ⟨by rw [ownAt_ne ne]; exact e, upd_ne ne⟩
/-- p is let go -/
def disown (own : Own) (p : Addr) : Own := fun a => if a = p then none else own a
theorem fb_disown {p a : Addr} (h : fb M (disown own p) a) : fb M own a := by
  rcases h with h | h
  · exact .inl h
  · unfold disown at h
    split at h
    · simp at h
    · exact .inr h
theorem RE.disown {p : Addr} (R : RE mg Bs M own H ρ σ) {q : Addr} (h : own p = some (.tmp q)) : RE mg Bs M (DL.disown own p) H ρ σ := by
  refine ⟨R.len, R.base, fun a o e => ?_, R.mb, fun a e => ?_, fun a c j q e1 e2 => ?_, fun j s w e1 e2 => (R.slots j s w e1 e2).ext (fun a o e n => ⟨e, fun z => n (fb_disown z)⟩) fun a r e => ⟨?_, rfl⟩, R.pins⟩
  · unfold DL.disown; split
    · rfl
    · exact R.apart a o e
  · unfold DL.disown at e
    split at e
    · simp at e
    · exact R.there a e
  · unfold DL.disown at e1 e2
    split at e1
    · cases e1
    · split at e2
      · cases e2
      · exact R.inj a c j q e1 e2
  · unfold DL.disown
    split
    · rename_i z; rw [z, h] at e; cases e
    · exact e
theorem unowns_tmp {p q : Addr} (h : own p = some (.tmp q)) : ∀ vs : List Nat, unowns own vs p = some (.tmp q)
  | [] => h
  | v :: vs => by unfold unowns; exact unown_tmp (unowns_tmp h vs)
theorem unwip_len (ρ0 ρ : List Slot) : ∀ vs : List Nat, (unwip ρ0 ρ vs).length = ρ.length
  | [] => rfl
  | v :: vs => by unfold unwip; rw [List.length_set, unwip_len ρ0 ρ vs]
theorem unwip_get {ρ0 ρ : List Slot} (hl : ρ0.length = ρ.length) {j : Nat} : ∀ {vs : List Nat}, (unwip ρ0 ρ vs)[j]? = if j ∈ vs then ρ0[j]? else ρ[j]?
  | [] => by simp [unwip]
  | v :: vs => by
    unfold unwip
    by_cases hv : v = j
    · subst hv
      by_cases hlt : v < ρ.length
      · rw [List.getElem?_set_self (by rw [unwip_len]; exact hlt)]
        rw [List.getElem?_eq_getElem (by omega)]; simp
      · rw [List.getElem?_eq_none (by rw [List.length_set, unwip_len]; omega)]
        simp; omega
    · rw [List.getElem?_set_ne hv, unwip_get hl (vs := vs)]
      have : (j ∈ v :: vs) ↔ j ∈ vs := by simp; intro e; exact absurd e.symm hv
      simp only [this]
/-- back from the block -/
theorem RE.back {own1 own2 : Own} {H1 H2 : Hp} {ρ1 ρ2 : List Slot} {vs : List Nat} (R1 : RE mg Bs M own1 H1 ρ1 σ) (R2 : RE mg Bs M own2 H2 ρ2 (L2.wipe σ vs)) (x : Ext (fb M own1) H1 (fb M own2) H2) (nb : noBox ρ1 vs = true) :
    RE mg Bs M own2 H2 (unwip ρ1 ρ2 vs) σ := by
  have l1 := R1.len
  have l2 := R2.len
  rw [wipe_length] at l2
  refine ⟨by rw [unwip_len]; exact l2, R2.base, R2.apart, R2.mb, R2.there, R2.inj, fun j s w e1 e2 => ?_, fun j b w e1 e2 => ?_⟩
  · rw [unwip_get (by omega)] at e1
    by_cases hj : j ∈ vs
    · rw [if_pos hj] at e1
      have h1 := R1.slots j s w e1 e2
      have nbj := List.all_eq_true.mp nb j hj
      rw [e1] at nbj
      cases s with
      | un => trivial
      | val d => obtain ⟨v, q1, q2⟩ := h1; exact ⟨v, q1, q2.ext x⟩
      | box o b => cases nbj
    · rw [if_neg hj] at e1
      exact R2.slots j s w e1 (by rw [wipe_get]; simp [hj, e2])
  · rw [unwip_get (by omega)] at e1
    by_cases hj : j ∈ vs
    · rw [if_pos hj] at e1
      have nbj := List.all_eq_true.mp nb j hj
      rw [e1] at nbj
      cases nbj
    · rw [if_neg hj] at e1
      exact R2.pins j b w e1 (by rw [wipe_get]; simp [hj, e2])
end
section
variable {X : Cx} {elt tg iter : Expr} {ifs : List Expr} {scope : Scope} {own0 : List (Str × Nat)} {pos : Pos} {f : FI} {g : FG} {is : List Nat} {ft : FT} {fe : FE}
abbrev DTs (X : Cx) (ifs : List Expr) (f : FT) : Prop := PTs X ifs (cT (GX X) f)
theorem dts_nil : DTs X [] fTrue := ⟨fun pins s σ H Q I q => pts_nil.run pins s σ H Q I (by
  obtain ⟨Bs, M, own, ρ, d, ρ', R, h, k⟩ := q
  cases h
  exact k H own .refl R)⟩
theorem dts_one {c : Expr} (h : DT X c ft) : DTs X [c] ft := pts_one h
theorem cF_lc {mg : Gx} {vs : List Nat} (hs : ∀ j ∈ is, j ∈ vs) : ∀ σ H Q, cF mg (fLcF f g vs ft fe) σ H Q → tLc (cI mg f) (cG mg is g) (cT mg ft) (cE mg fe) vs σ H Q := by
  intro σ H Q ⟨Bs, M, own, ρ, d, ρ', R, h, k⟩
  unfold fLcF fLcL at h
  split at h
  · rename_i yss ρe hl
    cases h
    split at hl
    · rename_i ds ρ1 e1
      split at hl
      · rename_i hc
        obtain ⟨nb, hsz⟩ := hc
        split at hl
        · rename_i ys ρ2 e2
          cases hl
          refine ⟨Bs, M, own, ρ, ds, ρ1, R, e1, fun J H1 own1 G1 R1 wk => ?_⟩
          intro Da hDa
          obtain ⟨R1t, G1t⟩ := R1.tmpNew (o := .lst []) hDa
          have R1w := R1t.wipe vs
          have tD : unowns (ownAt own1 Da (.tmp Da)) vs Da = some (.tmp Da) := unowns_tmp ownAt_same vs
          refine ⟨fun i m H' => m = ds.length - i ∧ i ≤ ds.length ∧ ∃ own' ρ' accd acc zs, Go M (ownAt own1 Da (.tmp Da)) (upd H1 Da (.lst [])) own' (upd H' Da (.lst [])) ∧ RE mg Bs M own' H' ρ' (L2.wipe σ vs) ∧ own' Da = some (.tmp Da) ∧ H' Da = some (.lst acc) ∧
            Reps mg (fb M own') H' accd acc ∧ lcGo g ft fe vs (ds.drop i) ρ' = some (zs, ρ2) ∧ accd ++ zs = yss ∧ accd.length ≤ i,
            ⟨ds.length, by simp, Nat.zero_le _, unowns (ownAt own1 Da (.tmp Da)) vs, wip ρ1 vs, [], [], yss, ?_, R1w, tD, upd_same, .nil, by simpa using e2, by simp, by simp⟩, ?_⟩
          · rw [upd_upd]; exact go_unowns vs
          rintro i m H2 ⟨rfl, hi, own2, ρ3, accd, acc, zs, G2, R2, t2, hacc, racc, e3, e4, e5⟩
          -- what stood at the start stands now, but for the new list
          have x2 : Ext (fb M (ownAt own1 Da (.tmp Da))) (upd H1 Da (.lst [])) (fb M own2) H2 := fun a o q n => by
            have na : a ≠ Da := fun z => n (.inr (by rw [z, ownAt_same]; rfl))
            obtain ⟨q1, q2⟩ := G2.ext a o q n
            rw [upd_ne na] at q1
            exact ⟨q1, q2⟩
          have x12 : Ext (fb M own1) H1 (fb M own2) H2 := G1t.ext.trans x2
          by_cases hlt : i < ds.length
          · rw [List.drop_eq_getElem_cons hlt] at e3
            unfold lcGo at e3
            split at e3
            · rename_i ρ4 e6
              refine .inr ⟨wk.goes i H2 _ hlt x12, fun H' => ∃ own' ρ' accd acc zs, Go M (ownAt own1 Da (.tmp Da)) (upd H1 Da (.lst [])) own' (upd H' Da (.lst [])) ∧ RE mg Bs M own' H' ρ' (L2.wipe σ vs) ∧ own' Da = some (.tmp Da) ∧ H' Da = some (.lst acc) ∧
                Reps mg (fb M own') H' accd acc ∧ lcGo g ft fe vs (ds.drop (i + 1)) ρ' = some (zs, ρ2) ∧ accd ++ zs = yss ∧ accd.length ≤ i + 1, fun H' q => ⟨ds.length - (i + 1), by omega, rfl, hlt, q⟩, fun x H3 y => ?_⟩
              obtain ⟨s3, r3⟩ := wk.yields i H2 x H3 _ x12 (fun a q => R2.fresh q) y
              have R3 := R2.same s3
              have G23 := R2.goSame s3
              refine ⟨Bs, M, own2, ρ3, _, ρ4, R3, r3 _ (List.getElem?_eq_getElem hlt), e6, fun σ4 own4 G4 R4 l4 q4 => ⟨wipe_same l4 q4 hs, ?_⟩⟩
              have hw4 : L2.wipe σ4 vs = L2.wipe σ vs := wipe_same l4 q4 hs
              -- the end of a turn
              have stepG : ∀ {own5 : Own} {H5 : Hp}, Go M own2 H2 own5 H5 → Go M (ownAt own1 Da (.tmp Da)) (upd H1 Da (.lst [])) own5 (upd H5 Da (.lst [])) := fun {own5 H5} G5 => by
                refine ⟨fun a o q n => ?_, fun a p q => ?_, fun a o q => ?_⟩
                · have na : a ≠ Da := fun z => n (.inr (by rw [z, ownAt_same]; rfl))
                  obtain ⟨q1, q2⟩ := x2 a o q n
                  obtain ⟨q3, q4⟩ := G5.ext a o q1 q2
                  exact ⟨by rw [upd_ne na]; exact q3, q4⟩
                · obtain ⟨q1, q2⟩ := G2.tmp a p q
                  obtain ⟨q3, q4⟩ := G5.tmp a p q1
                  refine ⟨q3, ?_⟩
                  by_cases na : a = Da
                  · subst na; rw [upd_same, upd_same]
                  · rw [upd_ne na] at q2 ⊢
                    rw [q4, q2]
                · by_cases na : a = Da
                  · subst na; exact ⟨_, upd_same⟩
                  · rw [upd_ne na]
                    obtain ⟨o2, q2⟩ := G2.dom a o q
                    rw [upd_ne na] at q2
                    exact G5.dom a o2 q2
              split at e3
              · rename_i ρ5 e7
                split at e3
                · rename_i yv ρ6 e8
                  split at e3
                  · rename_i ys' ρ7 e9
                    cases e3
                    refine ⟨Bs, M, own4, ρ4, _, _, R4, e7, fun H5 own5 G5 R5 => iteT ?_⟩
                    refine ⟨Bs, M, own5, ρ5, _, _, R5, e8, fun v H6 own6 G6 R6 r6 => ?_⟩
                    have G26 : Go M own2 H2 own6 H6 := ((G23.trans G4).trans G5).trans G6
                    obtain ⟨t6, h6⟩ := G26.tmp Da Da t2
                    refine ⟨acc, by rw [h6]; exact hacc, by have := racc.length; omega, ?_⟩
                    have R6' := (R6.tmpSet (o := .lst (acc ++ [v])) t6).wipe vs
                    rw [hw4] at R6'
                    have x6 : Ext (fb M own6) H6 (fb M (unowns own6 vs)) (upd H6 Da (.lst (acc ++ [v]))) := (ext_tmpSet t6).trans (go_unowns vs).ext
                    refine ⟨unowns own6 vs, wip ρ6 vs, accd ++ [yv], acc ++ [v], ys', ?_, R6', unowns_tmp t6 vs, upd_same, ?_, e9, by rw [List.append_assoc]; exact e4, by rw [List.length_append]; simp; omega⟩
                    · rw [upd_upd]
                      exact stepG (G26.trans (go_unowns vs))
                    · exact Reps.append ((racc.ext G26.ext).ext x6) (.cons (r6.ext x6) .nil)
                  · cases e3
                · cases e3
              · rename_i ρ5 e7
                refine ⟨Bs, M, own4, ρ4, _, _, R4, e7, fun H5 own5 G5 R5 => iteF ?_⟩
                have G25 : Go M own2 H2 own5 H5 := (G23.trans G4).trans G5
                obtain ⟨t5, h5⟩ := G25.tmp Da Da t2
                have R5' := R5.wipe vs
                rw [hw4] at R5'
                exact ⟨unowns own5 vs, wip ρ5 vs, accd, acc, zs, stepG (G25.trans (go_unowns vs)), R5', unowns_tmp t5 vs, by rw [h5]; exact hacc, (racc.ext G25.ext).ext (go_unowns vs).ext, e3, e4, by omega⟩
              · cases e3
            · cases e3
          · have e : i = ds.length := by omega
            subst e
            rw [List.drop_length] at e3
            cases e3
            refine .inl ⟨wk.stops H2 _ x12, ?_⟩
            have R9 := R1.back R2 x12 nb
            refine k (.ref Da) H2 own2 [(Da, [])] ⟨G1.ext.trans x12, fun a p q => ?_, fun a o q => ?_⟩ R9 ?_ (by simp) fun y hy => ?_
            · obtain ⟨q1, q2⟩ := G1.tmp a p q
              have na : a ≠ Da := fun z => by
                obtain ⟨u, z'⟩ := R1.there a (by rw [q1]; rfl)
                rw [z, hDa] at z'; cases z'
              obtain ⟨q3, q4⟩ := G2.tmp a p (by rw [ownAt_ne na]; exact q1)
              rw [upd_ne na, upd_ne na] at q4
              exact ⟨q3, by rw [q4, q2]⟩
            · obtain ⟨o1, q1⟩ := G1.dom a o q
              have na : a ≠ Da := fun z => by rw [z, hDa] at q1; cases q1
              obtain ⟨o2, q2⟩ := G2.dom a o1 (by rw [upd_ne na]; exact q1)
              rw [upd_ne na] at q2
              exact ⟨o2, q2⟩
            · rw [List.append_nil] at e4
              subst e4
              simp only [RepF]
              exact ⟨Da, acc, [], rfl, hacc, RepFs_imm racc, rfl⟩
            · have ey : y = (Da, []) := by simpa using hy
              subst ey
              exact ⟨G1.fresh hDa, t2⟩
        · cases hl
      · cases hl
    · cases hl
  · cases h
theorem fLc_thaw {vs : List Nat} : fLc f g vs ft fe = fThaw (fLcF f g vs ft fe) := by
  funext ρ
  unfold fLc fThaw fLcF
  cases fLcL f g vs ft fe ρ with
  | none => rfl
  | some p =>
    obtain ⟨ys, ρ1⟩ := p
    simp only [B.toD, toDs_imm]
theorem cE_lc {mg : Gx} {vs : List Nat} (hs : ∀ j ∈ is, j ∈ vs) : ∀ σ H Q, cE mg (fLc f g vs ft fe) σ H Q → tLc (cI mg f) (cG mg is g) (cT mg ft) (cE mg fe) vs σ H Q := fun σ H Q h => cF_lc hs σ H Q (cE_F σ H Q (by rw [← fLc_thaw]; exact h))
theorem df_lc (hc : X.calm = true) (hN : X.N.Nodup) (hi : DI X tg iter f) (ok : BlkOk X.N X.env.scope scope own0) (hs : ∀ j ∈ is, j ∈ own0.map (·.2))
    (hg : ∀ (s : Shared) (H : Hp) (C : Addr) (cl : List (Str × Addr)) (fp : List Addr), DG (X.blk s H scope (compEnvC scope cl C X.env) fp) tg is g) (ht : ∀ (s : Shared) (H : Hp) (C : Addr) (cl : List (Str × Addr)) (fp : List Addr), DTs (X.blk s H scope (compEnvC scope cl C X.env) fp) ifs ft)
    (he : ∀ (s : Shared) (H : Hp) (C : Addr) (cl : List (Str × Addr)) (fp : List Addr), DE (X.blk s H scope (compEnvC scope cl C X.env) fp) elt fe) (hf : ∀ x, foldedSetIterable iter X.env x = pure x := by intro _; rfl) :
    DF X (.ListComp elt [⟨tg, iter, ifs, 0⟩] scope pos) (fLcF f g (own0.map (·.2)) ft fe) := weakE (pe_lc hc hN hi ok hg ht he hf) (cF_lc hs)
theorem de_lc (hc : X.calm = true) (hN : X.N.Nodup) (hi : DI X tg iter f) (ok : BlkOk X.N X.env.scope scope own0) (hs : ∀ j ∈ is, j ∈ own0.map (·.2))
    (hg : ∀ (s : Shared) (H : Hp) (C : Addr) (cl : List (Str × Addr)) (fp : List Addr), DG (X.blk s H scope (compEnvC scope cl C X.env) fp) tg is g) (ht : ∀ (s : Shared) (H : Hp) (C : Addr) (cl : List (Str × Addr)) (fp : List Addr), DTs (X.blk s H scope (compEnvC scope cl C X.env) fp) ifs ft)
    (he : ∀ (s : Shared) (H : Hp) (C : Addr) (cl : List (Str × Addr)) (fp : List Addr), DE (X.blk s H scope (compEnvC scope cl C X.env) fp) elt fe) (hf : ∀ x, foldedSetIterable iter X.env x = pure x := by intro _; rfl) :
    DE X (.ListComp elt [⟨tg, iter, ifs, 0⟩] scope pos) (fLc f g (own0.map (·.2)) ft fe) := weakE (pe_lc hc hN hi ok hg ht he hf) (cE_lc hs)
/-- name = [..] -/
theorem ds_setLc {i : Nat} {y : Str} {py spos : Pos} (hc : X.calm = true) (hN : X.N.Nodup) (hy : X.N[i]? = some y) (hyl : X.env.scope.names.lookup y = some .local)
    (hsw : swapsWith (.ListComp elt [⟨tg, iter, ifs, 0⟩] scope pos) (some (.Name y py)) spos.line X.env = pure true) (hi : DI X tg iter f) (ok : BlkOk X.N X.env.scope scope own0) (hs : ∀ j ∈ is, j ∈ own0.map (·.2))
    (hg : ∀ (s : Shared) (H : Hp) (C : Addr) (cl : List (Str × Addr)) (fp : List Addr), DG (X.blk s H scope (compEnvC scope cl C X.env) fp) tg is g) (ht : ∀ (s : Shared) (H : Hp) (C : Addr) (cl : List (Str × Addr)) (fp : List Addr), DTs (X.blk s H scope (compEnvC scope cl C X.env) fp) ifs ft)
    (he : ∀ (s : Shared) (H : Hp) (C : Addr) (cl : List (Str × Addr)) (fp : List Addr), DE (X.blk s H scope (compEnvC scope cl C X.env) fp) elt fe) (hf : ∀ x, foldedSetIterable iter X.env x = pure x := by intro _; rfl) :
    DS X (.Assign [.Name y py] (.ListComp elt [⟨tg, iter, ifs, 0⟩] scope pos) spos) (fAsg (fLc f g (own0.map (·.2)) ft fe) (gN i)) :=
  weakS (ps_setLc hc hN hy hyl hsw hi ok hg ht he hf) fun Dn σ H ⟨Bs, M, own, ρ, o, R, h, p⟩ => by
    unfold fAsg at h
    split at h
    · rename_i d ρ1 e1
      split at h
      · rename_i ρ2 e2
        cases h
        cases e2
        exact cE_lc hs σ H _ ⟨Bs, M, own, ρ, _, _, R, e1, fun v H1 own1 G1 R1 r1 => p _ H1 _ (G1.trans (go_unown (i := i))) (R1.setVal r1)⟩
      · cases h
    · cases h
end
end DL
end

section
set_option Elab.async false
set_option linter.all false
set_option maxRecDepth 100000
/-! DL4: what is walked: values, ranges, enumerate, zip -/
namespace PySem
set_option maxHeartbeats 1000000 in
theorem dl_meets_enumerate_new1 {v : Value} {o : Obj} {H : Heap → Prop} (B : Begins v o H) :
    Meets (Builtin.«enumerate.__new__» ⟨[.type "enumerate", v], []⟩) (fun _ R s => H s.heap ∧
      R (.ok (.ret (.ref (s.heap.push o).objs.size))) { s with heap := (s.heap.push o).push { cls := .type "enumerate", data := .fields #[.none, .bool false, .ref s.heap.objs.size, rawInt 0, .none, .none] } }) :=
  .of_wp fun prog w A R s h => by
    obtain ⟨hp, g, d, tk, os⟩ := s; obtain ⟨h1, h⟩ := h
    have hsub := sub_enumerate
    have q1 : ∀ {A' : Around} {E : Value → Shared → Prop} {Q : Value → Shared → Prop}, Q (.ref hp.objs.size) ⟨hp.push o, g, d, tk, os⟩ → wpAny (model prog w) A' (pyIter v) Q E ⟨hp, g, d, tk, os⟩ :=
      fun q => B.iter prog w _ _ ⟨hp, g, d, tk, os⟩ _ h1 q
    wp_walk using q1
    refine wpAny_stack_any fun st => wpAny_pure ?_
    split
    · rename_i c _ _ _ _ _
      cases (c == Value.type "enumerate")
      · wp_walk using q1
        exact ⟨_, rfl, h⟩
      · wp_walk using q1
        exact ⟨_, rfl, h⟩
    · wp_walk using q1
      exact ⟨_, rfl, h⟩
theorem dl_enum_begins {prog : Program} {w : World} {A : Around} {E : Value → Shared → Prop} {s : Shared} {v : Value} {o : Obj} {H : Heap → Prop} {Q : Value → Shared → Prop} (B : Begins v o H) (h1 : H s.heap)
    (h : ∀ h', IsEnum h' (s.heap.objs.size + 1) s.heap.objs.size 0 .none → h'.get? s.heap.objs.size = some o → h'.objs.size = s.heap.objs.size + 2 →
      (∀ b o, s.heap.get? b = some o → h'.get? b = some o) → Q (.ref (s.heap.objs.size + 1)) { s with heap := h' }) :
    wpAny (model prog w) A (call (.type "enumerate") [v]) Q E s := by
  refine callType_new F.called_enumerate (by decide) (F.typeCall_enumerate_1 _) (F.newCall_enumerate_1 _) (fun obj => F.args_object_init_2 obj _) F.entry_enumerate_new
    (dl_meets_enumerate_new1 B) ⟨h1, ?_⟩
  have hz : (s.heap.push o).objs.size = s.heap.objs.size + 1 := Heap.size_push ..
  show _ ∧ _
  rw [hz]
  have he : IsEnum ((s.heap.push o).push { cls := .type "enumerate", data := .fields #[.none, .bool false, .ref s.heap.objs.size, rawInt 0, .none, .none] }) (s.heap.objs.size + 1) s.heap.objs.size 0 .none := by
    have := Heap.get?_push_size (s.heap.push o) (o := { cls := .type "enumerate", data := .fields #[.none, .bool false, .ref s.heap.objs.size, rawInt 0, .none, .none] }) rfl
    rw [hz] at this; exact this
  refine ⟨⟨_, he, rfl⟩, h _ he (Heap.get?_push_of_some _ (Heap.get?_push_size _ B.free)) (by rw [Heap.size_push, hz]) fun b o x => Heap.get?_push_of_some _ (Heap.get?_push_of_some _ x)⟩
end PySem

namespace DL
open PySem PySem.Spec PyProof.Rows L2

/-! ### a value walked -/
def signs (x : Str) : List Str := x.cps.toList.map fun c => ⟨#[c]⟩
def items : D → Option (List D)
  | .tup ds => some ds
  | .lst ds => some ds
  | .tpx ds => some ds
  | .str x => some ((signs x).map .str)
  | .scr ns => some (ns.map .int)
  | _ => none
def fIter (f : FE) : FI := fun ρ => match f ρ with
  | some (d, ρ1) => (match items d with
    | some ds => some (ds, ρ1)
    | none => none)
  | none => none
section
variable {mg : Gx} {K : PySem.W.Frag} {A A' : Addr → Prop} {H H' : Hp}
theorem Reps_ints : ∀ ns : List Int, Reps mg A H (ns.map .int) (ns.map .int)
  | [] => .nil
  | n :: ns => .cons (by simp [Rep]) (Reps_ints ns)
theorem wk_list {a : Addr} {xs : List V} {ds : List D} (n : ¬ A a) (h : Rd H a (.lst xs)) (r : Reps mg A H ds xs) : Wk mg (Itl K a) A H ds where
  goes := fun i H1 A1 hi x => by
    have h1 := (x.rd n h).1
    exact ⟨xs, xs[i]'(by rw [r.length]; exact hi), .inl h1, by rw [List.getElem?_eq_getElem]⟩
  stops := fun H1 A1 x => ⟨xs, .inl (x.rd n h).1, by rw [r.length]; exact Nat.le_refl _⟩
  yields := fun i H1 x H2 A1 e hA y => by
    obtain ⟨rfl, f⟩ := y
    refine ⟨fun _ _ q => q, fun d hd => ?_⟩
    have h1 := f xs (.inl (e.rd n h).1)
    obtain ⟨v, q1, q2⟩ := (r.ext e).get hd
    rw [h1] at q1
    cases q1
    exact q2
theorem scr_sq {mg : Gx} {a : Addr} {xs : List V} (h : (¬ A a ∧ Rd H a (.lst xs)) ∨ KL mg.K a xs) : SqL mg.K H a xs := by
  rcases h with ⟨_, h⟩ | h
  · exact .inl h
  · exact .inr h
theorem scr_ext {mg : Gx} {a : Addr} {xs : List V} (x : Ext A H A' H') (h : (¬ A a ∧ Rd H a (.lst xs)) ∨ KL mg.K a xs) : (¬ A' a ∧ Rd H' a (.lst xs)) ∨ KL mg.K a xs := by
  rcases h with ⟨n, h⟩ | h
  · exact .inl ⟨(x.rd n h).2, (x.rd n h).1⟩
  · exact .inr h
theorem wk_scr {a : Addr} {ns : List Int} (h : (¬ A a ∧ Rd H a (.lst (ns.map .int))) ∨ KL mg.K a (ns.map .int)) : Wk mg (Itl mg.K a) A H (ns.map .int) where
  goes := fun i H1 A1 hi x => ⟨_, (ns.map V.int)[i]'(by simpa using hi), scr_sq (scr_ext x h), by rw [List.getElem?_eq_getElem]⟩
  stops := fun H1 A1 x => ⟨_, scr_sq (scr_ext x h), by simp⟩
  yields := fun i H1 x H2 A1 e hA y => by
    obtain ⟨rfl, f⟩ := y
    refine ⟨fun _ _ q => q, fun d hd => ?_⟩
    have h1 := f _ (scr_sq (scr_ext e h))
    obtain ⟨v, q1, q2⟩ := (Reps_ints (mg := mg) (A := A1) (H := H2) ns).get hd
    rw [h1] at q1
    cases q1
    exact q2
theorem wk_tup {a : Addr} {xs : List V} {ds : List D} (n : ¬ A a) (h : Rd H a (.tup xs)) (r : Reps mg A H ds xs) : Wk mg (Itt K a) A H ds where
  goes := fun i H1 A1 hi x => by
    have h1 := (x.rd n h).1
    exact ⟨xs, xs[i]'(by rw [r.length]; exact hi), .inl h1, by rw [List.getElem?_eq_getElem]⟩
  stops := fun H1 A1 x => ⟨xs, .inl (x.rd n h).1, by rw [r.length]; exact Nat.le_refl _⟩
  yields := fun i H1 x H2 A1 e hA y => by
    obtain ⟨rfl, f⟩ := y
    refine ⟨fun _ _ q => q, fun d hd => ?_⟩
    have h1 := f xs (.inl (e.rd n h).1)
    obtain ⟨v, q1, q2⟩ := (r.ext e).get hd
    rw [h1] at q1
    cases q1
    exact q2
theorem signs_get {x : Str} {i : Nat} : (signs x)[i]? = x.cps[i]?.map fun c => (⟨#[c]⟩ : Str) := by
  unfold signs
  rw [List.getElem?_map, Array.getElem?_toList]
theorem signs_len {x : Str} : (signs x).length = x.cps.size := by unfold signs; simp
theorem wk_str {x : Str} : Wk mg (Its x) A H ((signs x).map .str) where
  goes := fun i H1 A1 hi _ => by rw [List.length_map, signs_len] at hi; exact hi
  stops := fun H1 A1 _ => by rw [List.length_map, signs_len]; exact Nat.le_refl _
  yields := fun i H1 v H2 A1 e hA y => by
    obtain ⟨rfl, c, hc, rfl⟩ := y
    refine ⟨fun _ _ q => q, fun d hd => ?_⟩
    rw [List.getElem?_map, signs_get, hc] at hd
    cases hd
    simp [Rep]
def rangeD (lo : Int) (n : Nat) : List D := (List.range n).map fun i => .int (lo + (i : Nat))
theorem rangeD_len {lo : Int} {n : Nat} : (rangeD lo n).length = n := by unfold rangeD; simp
theorem wk_range {lo : Int} {n : Nat} : Wk mg (Itr lo n) A H (rangeD lo n) where
  goes := fun i H1 A1 hi _ => by rw [rangeD_len] at hi; exact hi
  stops := fun H1 A1 _ => by rw [rangeD_len]; exact Nat.le_refl _
  yields := fun i H1 v H2 A1 e hA y => by
    obtain ⟨rfl, rfl⟩ := y
    refine ⟨fun _ _ q => q, fun d hd => ?_⟩
    unfold rangeD at hd
    rw [List.getElem?_map] at hd
    cases q : (List.range n)[i]? with
    | none => rw [q] at hd; cases hd
    | some j =>
      rw [q] at hd
      cases hd
      have hj : j = i := by
        obtain ⟨h1, h2⟩ := List.getElem?_eq_some_iff.mp q
        rw [List.getElem_range] at h2
        exact h2.symm
      rw [hj]
      simp [Rep]
end
section
variable {X : Cx} {tg e e2 e3 : Expr} {f : FE} {fa : FA} {p pos : Pos}
theorem di_seq (he : DE X e f) : DI X tg e (fIter f) := ⟨fun pins s σ H R I h => by
  obtain ⟨Bs, M, own, ρ, ds, ρ', RR, q, k⟩ := h
  unfold fIter at q
  split at q
  · rename_i d ρ1 e1
    cases d with
    | tup ds' =>
      simp only [items] at q
      cases q
      exact (pi_tup (tg := tg) he).run pins s σ H R I ⟨Bs, M, own, ρ, _, _, RR, e1, fun v H' own' G R' r => by
        simp only [Rep] at r
        obtain ⟨a, xs, rfl, n, rd, rs⟩ := r
        exact ⟨a, rfl, ⟨xs, .inl (.inl rd)⟩, k _ H' own' G R' (wk_tup n (.inl rd) rs)⟩⟩
    | tpx ds' =>
      simp only [items] at q
      cases q
      exact (pi_tup (tg := tg) he).run pins s σ H R I ⟨Bs, M, own, ρ, _, _, RR, e1, fun v H' own' G R' r => by
        simp only [Rep] at r
        obtain ⟨a, xs, o, rfl, n, rd, hd, rs⟩ := r
        exact ⟨a, rfl, ⟨xs, .inl (.inr ⟨o, rd⟩)⟩, k _ H' own' G R' (wk_tup n (.inr ⟨o, rd⟩) rs)⟩⟩
    | lst ds' =>
      simp only [items] at q
      cases q
      exact (pi_list (tg := tg) he).run pins s σ H R I ⟨Bs, M, own, ρ, _, _, RR, e1, fun v H' own' G R' r => by
        simp only [Rep] at r
        obtain ⟨a, xs, rfl, n, rd, rs⟩ := r
        exact ⟨a, rfl, ⟨xs, .inl (.inl rd)⟩, k _ H' own' G R' (wk_list n (.inl rd) rs)⟩⟩
    | str x =>
      simp only [items] at q
      cases q
      exact (pi_str (tg := tg) he).run pins s σ H R I ⟨Bs, M, own, ρ, _, _, RR, e1, fun v H' own' G R' r => by
        simp only [Rep] at r
        exact ⟨x, r, k _ H' own' G R' wk_str⟩⟩
    | scr ns =>
      simp only [items] at q
      cases q
      exact (pi_list (tg := tg) he).run pins s σ H R I ⟨Bs, M, own, ρ, _, _, RR, e1, fun v H' own' G R' r => by
        simp only [Rep] at r
        obtain ⟨a, rfl, hs⟩ := r
        exact ⟨a, rfl, ⟨ns.map .int, scr_sq (mg := GX X) hs⟩, k _ H' own' G R' (wk_scr (mg := GX X) hs)⟩⟩
    | non => simp [items] at q
    | bl _ => simp [items] at q
    | int _ => simp [items] at q
    | dct _ _ => simp [items] at q
    | obj _ _ _ => simp [items] at q
    | opq _ => simp [items] at q
  · cases q⟩
def fRange (fa : FA) : FI := fun ρ => match fa ρ with
  | some ([.int j], ρ1) => if -(2 ^ 62) ≤ j ∧ j < 2 ^ 62 then some (rangeD 0 j.toNat, ρ1) else none
  | some ([.int i, .int j], ρ1) => if -(2 ^ 62) ≤ i ∧ i < 2 ^ 62 ∧ -(2 ^ 62) ≤ j ∧ j < 2 ^ 62 then some (rangeD i (j - i).toNat, ρ1) else none
  | _ => none
theorem di_range1 (hg : Gl X "range") (hm : X.mg "range" = none) (ha : DA X [e] fa) (hl : ∀ ρ x ρ1, fa ρ = some (x, ρ1) → x.length = 1) (hs : starEach [e] X.env = [(false, eval e X.env)] := by rfl) : DI X tg (.Call (.Name "range" p) [e] [] pos) (fRange fa) :=
  weakI (pi_range1 hg hm ha hs) fun σ H R ⟨Bs, M, own, ρ, ds, ρ', RR, q, k⟩ => by
    unfold fRange at q
    split at q
    · rename_i j ρ1 e1
      split at q
      · rename_i hb
        cases q
        refine ⟨Bs, M, own, ρ, _, _, RR, e1, fun vs H' own' G R' r => ?_⟩
        simp only [Reps, Rep] at r
        obtain ⟨v, _, rfl, rfl, rfl⟩ := r
        exact ⟨j, rfl, hb.1, hb.2, k _ H' own' G R' wk_range⟩
      · cases q
    · rename_i i j ρ1 e1
      have := hl _ _ _ e1
      simp at this
    · cases q
theorem di_range2 (hg : Gl X "range") (hm : X.mg "range" = none) (ha : DA X [e, e2] fa) (hl : ∀ ρ x ρ1, fa ρ = some (x, ρ1) → x.length = 2) (hs : starEach [e, e2] X.env = [(false, eval e X.env), (false, eval e2 X.env)] := by rfl) (hs2 : starEach [e2] X.env = [(false, eval e2 X.env)] := by rfl) :
    DI X tg (.Call (.Name "range" p) [e, e2] [] pos) (fRange fa) :=
  weakI (pi_range2 hg hm ha hs hs2) fun σ H R ⟨Bs, M, own, ρ, ds, ρ', RR, q, k⟩ => by
    unfold fRange at q
    split at q
    · rename_i j ρ1 e1
      have := hl _ _ _ e1
      simp at this
    · rename_i i j ρ1 e1
      split at q
      · rename_i hb
        cases q
        refine ⟨Bs, M, own, ρ, _, _, RR, e1, fun vs H' own' G R' r => ?_⟩
        simp only [Reps, Rep] at r
        obtain ⟨v, _, rfl, rfl, w, _, rfl, rfl, rfl⟩ := r
        exact ⟨i, j, rfl, hb, k _ H' own' G R' wk_range⟩
      · cases q
    · cases q
theorem len1 {f : FE} : ∀ ρ x ρ1, fCons f fNil ρ = some (x, ρ1) → x.length = 1 := fun ρ x ρ1 h => by
  obtain ⟨⟨y, ρ2⟩, h1, h⟩ := bind_some2 h
  obtain ⟨⟨ys, ρ3⟩, h2, h⟩ := bind_some2 h
  cases h2
  cases h
  rfl
theorem len2 {f g : FE} : ∀ ρ x ρ1, fCons f (fCons g fNil) ρ = some (x, ρ1) → x.length = 2 := fun ρ x ρ1 h => by
  obtain ⟨⟨y, ρ2⟩, h1, h⟩ := bind_some2 h
  obtain ⟨⟨ys, ρ3⟩, h2, h⟩ := bind_some2 h
  have := len1 _ _ _ h2
  cases h
  simp [this]
end

/-! ### enumerate, zip over lists, tuples, texts in any mix -/
inductive Src where
  | l (a : Addr) | t (a : Addr) | s (x : Str)
def Src.v : Src → V
  | .l a => .ref a | .t a => .ref a | .s x => .str x
def Src.ad : Src → List Addr
  | .l a => [a] | .t a => [a] | .s _ => []
def Src.has (K : PySem.W.Frag) (H : Hp) : Src → List V → Prop
  | .l a, xs => SqL K H a xs
  | .t a, xs => SqT K H a xs
  | .s x, xs => xs = (signs x).map .str
def Src.it (h : Heap) (it : Addr) (i : Nat) : Src → Prop
  | .l a => h.IsListIter it a i
  | .t a => h.IsTupleIter it a i
  | .s x => ∃ t, h.IsStrIter it (strIterType x) x t i
theorem drawsMono {prog : Program} {w : World} {A : Around} {it : Addr} {fp : List Addr} {n m : Nat} {P P' : Nat → Value → Prop} {St : Nat → Heap → Prop} (D : Draws prog w A it fp n P St) (hn : n = m) (h : ∀ i v, P i v → P' i v) : Draws prog w A it fp m P' St := by
  subst hn
  exact ⟨D.live, D.frame, fun i s Q E hi st hQ => D.item i s Q E hi st fun x h' tk hp => hQ x h' tk (h _ _ hp), D.done⟩
section
variable {X : Cx} {pins : List (Addr × Obj)} {σ : L2.St} {H : Hp} {s : Shared}
theorem Src.inj (I : Inv X pins σ H s) {c : Src} {xs ys : List V} (h : c.has X.K H xs) (h' : c.has X.K H ys) : xs = ys := by
  cases c with
  | l a => exact I.list_inj h h'
  | t a => exact I.tuple_inj h h'
  | s x => exact (show xs = _ from h).trans (show ys = _ from h').symm
theorem Src.draws (I : Inv X pins σ H s) {A : Around} (hh : A.handled = none) {c : Src} {xs : List V} (S : c.has X.K H xs) {it : Addr} {i : Nat} (st : c.it s.heap it i) (hne : ∀ a ∈ c.ad, a ≠ it) :
    ∃ St, Draws X.prog X.w A it (it :: c.ad) xs.length (fun j v => ∃ x, xs[j]? = some x ∧ RelV x v) St ∧ St i s.heap ∧ ∀ j h, St j h → c.it h it j := by
  cases c with
  | l a =>
    obtain ⟨its, r, p, _⟩ := I.list S
    refine ⟨_, drawsMono (Draws.list hh it a (hne a (by simp [Src.ad])) its.toArray) (by simp [r.length]) fun j v e => ?_, ⟨st, p.isList⟩, fun j h q => q.1⟩
    cases q : xs[j]? with
    | none =>
      have := r.none_of q
      simp [this] at e
    | some x =>
      obtain ⟨u, e1, e2⟩ := r.get q
      rw [List.getElem?_toArray, e1] at e
      cases e
      exact ⟨x, rfl, e2⟩
  | t a =>
    obtain ⟨its, r, p, _⟩ := I.tuple S
    refine ⟨_, drawsMono (Draws.tuple hh it a (hne a (by simp [Src.ad])) its.toArray) (by simp [r.length]) fun j v e => ?_, ⟨st, p⟩, fun j h q => q.1⟩
    cases q : xs[j]? with
    | none =>
      have := r.none_of q
      simp [this] at e
    | some x =>
      obtain ⟨u, e1, e2⟩ := r.get q
      rw [List.getElem?_toArray, e1] at e
      cases e
      exact ⟨x, rfl, e2⟩
  | s x =>
    obtain ⟨t, st⟩ := st
    have S' : xs = _ := S
    subst S'
    refine ⟨_, drawsMono (Draws.text hh it x t) (by rw [List.length_map, signs_len]) fun j v e => ?_, st, fun j h q => ⟨t, q⟩⟩
    obtain ⟨c, u, e1, rfl⟩ := e
    refine ⟨.str ⟨#[c]⟩, ?_, u, rfl⟩
    rw [List.getElem?_map, signs_get, e1]
    rfl
theorem Src.begins (I : Inv X pins σ H s) {c : Src} {xs : List V} (S : c.has X.K H xs) {v : Value} (r : RelV c.v v) : ∃ o B, Begins v o B ∧ B s.heap ∧ (∀ h' it, h'.get? it = some o → c.it h' it 0) ∧ (∀ a ∈ c.ad, a < s.heap.objs.size) ∧ ∀ u, o.data ≠ .cell u := by
  cases c with
  | l a =>
    obtain ⟨its, rr, p, _⟩ := I.list S
    cases r
    exact ⟨_, _, begins_list a its.toArray, p.isList, fun h' it e => ⟨_, e, rfl, rfl⟩, fun b hb => by simp [Src.ad] at hb; subst hb; exact p.lt, fun u z => by cases z⟩
  | t a =>
    obtain ⟨its, rr, p, _⟩ := I.tuple S
    cases r
    obtain ⟨o1, ho1, _⟩ := id p
    exact ⟨_, _, begins_tuple a its.toArray, p, fun h' it e => ⟨_, e, rfl, rfl⟩, fun b hb => by simp [Src.ad] at hb; subst hb; exact Heap.lt_size ho1, fun u z => by cases z⟩
  | s x =>
    obtain ⟨t, rfl⟩ := r
    exact ⟨_, _, begins_text x t, trivial, fun h' it e => ⟨t, _, e, rfl, rfl⟩, fun b hb => by simp [Src.ad] at hb, fun u z => by cases z⟩
end
theorem Src.it_obj {h : Heap} {it : Addr} {i : Nat} {c : Src} (st : c.it h it i) : ∃ o, h.get? it = some o ∧ ∀ v, o.data ≠ .cell v := by
  cases c with
  | l a => obtain ⟨o, e, _, d⟩ := st; exact ⟨o, e, fun v z => by rw [d] at z; cases z⟩
  | t a => obtain ⟨o, e, _, d⟩ := st; exact ⟨o, e, fun v z => by rw [d] at z; cases z⟩
  | s x => obtain ⟨t, o, e, _, d⟩ := st; exact ⟨o, e, fun v z => by rw [d] at z; cases z⟩
theorem Src.it_keep {h h' : Heap} {it : Addr} {i : Nat} {c : Src} (st : c.it h it i) (k : ∀ o, h.get? it = some o → h'.get? it = some o) : c.it h' it i := by
  cases c with
  | l a => exact Heap.IsListIter.at st fun o e => k o e
  | t a => exact Heap.IsTupleIter.at st fun o e => k o e
  | s x => obtain ⟨t, o, e, r⟩ := st; exact ⟨t, o, k o e, r⟩

def ItG (K : PySem.W.Frag) (c : Src) : It :=
  ⟨fun i H => ∃ (xs : List V) (x : V), c.has K H xs ∧ xs[i]? = some x, fun i H v H' => ∃ T x, v = .ref T ∧ H T = none ∧ H' = upd H T (.tup [.int (i : Nat), x]) ∧ ∀ xs, c.has K H xs → xs[i]? = some x, fun i H => ∃ xs : List V, c.has K H xs ∧ xs.length = i⟩
theorem turn_enumG {P : Program} {w : World} {K : PySem.W.Frag} {elts : List Expr} {kk : Nat} {tpos : Pos} (c : Src) (e it : Addr) (hei : e ≠ it) (had : ∀ a ∈ c.ad, a ≠ e ∧ a ≠ it) :
    Turn P w K (.Tuple elts kk tpos) (ItG K c) [e, it] e (fun i h => (∃ old, IsEnum h e it ((i : Nat) : Int) old) ∧ c.it h it i) where
  mem := by simp
  obj := fun i h st b hb => by
    obtain ⟨⟨old, he⟩, hi⟩ := st
    have e' : b = e ∨ b = it := by simpa using hb
    rcases e' with z | z
    · rw [z]; exact ⟨_, he, fun v q => nomatch q⟩
    · rw [z]; exact Src.it_obj hi
  keep := fun i h h' st k => let ⟨⟨old, he⟩, hi⟩ := st; ⟨⟨old, k e (by simp) _ he⟩, Src.it_keep hi fun o q => k it (by simp) o q⟩
  item := by
    intro X hP hw hK hc i pins s σ H E I hf st hg
    subst hP hw hK
    obtain ⟨⟨old, he⟩, hit⟩ := st
    obtain ⟨xs, x, hq, hx⟩ := hg
    obtain ⟨St, D, st0, back⟩ := Src.draws I (A := X.A.in1) (show X.A.in1.handled = none from I.ok.hd hc) hq hit fun a ha => (had a ha).2
    have hef : e ∉ it :: c.ad := fun z => by
      rcases List.mem_cons.mp z with z | z
      · exact hei z
      · exact (had e z).1 rfl
    have W := GoesN.enumFrom (elts := elts) (x1 := kk) (pos := tpos) 0 D e hei hef List.mem_cons_self
    have hi : i < xs.length := (List.getElem?_eq_some_iff.mp hx).1
    refine W.goes i s _ E hi ⟨⟨old, by simpa using he⟩, st0⟩ fun v h' tk hY st' hk htk => ?_
    obtain ⟨T, t, u, rfl, hT, ⟨y, hy, ry⟩, hTu⟩ := hY
    obtain ⟨⟨old', he'⟩, st''⟩ := st'
    have ey : y = x := by rw [hx] at hy; exact (Option.some.inj hy).symm
    subst ey
    have new : ObjOk X.prog X.w (upd H T (.tup [.int (i : Nat), y])) h' T (.tup [.int (i : Nat), y]) :=
      ⟨by show 2 ≤ sizeLine; decide, [.int (0 + (i : Nat)) t, u], .cons ⟨t, by simp⟩ (.cons ry .nil), hTu⟩
    have I1 : Inv X pins σ (upd H T (.tup [.int (i : Nat), y])) { s with heap := h', toks := tk } := I.turnedNew (ch := [e, it]) (fun b o hb q => hk b o hb q) hf hT new
    refine ⟨.ref T, _, I1, rfl, ⟨T, y, rfl, I.hok.fresh hT, rfl, fun zs hz => by rw [Src.inj I hz hq]; exact hx⟩, ⟨⟨old', by simpa using he'⟩, back _ _ st''⟩, fun b hb => ?_⟩
    have hb' : b < s.heap.objs.size := by
      have e' : b = e ∨ b = it := by simpa using hb
      rcases e' with z | z
      · rw [z]; exact Heap.lt_size he
      · rw [z]; obtain ⟨o, q, _⟩ := Src.it_obj hit; exact Heap.lt_size q
    rw [upd_ne (Nat.ne_of_lt (Nat.lt_of_lt_of_le hb' hT))]
    exact (hf b hb).1
  done := by
    intro X hP hw hK hc i pins s σ H E I hf st hg
    subst hP hw hK
    obtain ⟨⟨old, he⟩, hit⟩ := st
    obtain ⟨xs, hq, hx⟩ := hg
    subst hx
    obtain ⟨St, D, st0, back⟩ := Src.draws I (A := X.A.in1) (show X.A.in1.handled = none from I.ok.hd hc) hq hit fun a ha => (had a ha).2
    have hef : e ∉ it :: c.ad := fun z => by
      rcases List.mem_cons.mp z with z | z
      · exact hei z
      · exact (had e z).1 rfl
    have W := GoesN.enumFrom (elts := elts) (x1 := kk) (pos := tpos) 0 D e hei hef List.mem_cons_self
    exact W.stops s _ E ⟨⟨old, by simpa using he⟩, st0⟩ fun h' tk hk htk => I.turnedL (ch := [e, it]) (fun b o hb q => hk b o hb q) hf
  self := fun A i s Q E st h => let ⟨⟨_, he⟩, _⟩ := st; wpAny_pyIter_enum he h

/-- zip of two -/
def ItZ2 (K : PySem.W.Frag) (c d : Src) : It :=
  ⟨fun i H => ∃ (xs ys : List V) (x y : V), c.has K H xs ∧ d.has K H ys ∧ xs[i]? = some x ∧ ys[i]? = some y,
    fun i H v H' => ∃ T x y, v = .ref T ∧ H T = none ∧ H' = upd H T (.tup [x, y]) ∧ (∀ xs, c.has K H xs → xs[i]? = some x) ∧ ∀ ys, d.has K H ys → ys[i]? = some y,
    fun i H => ∃ xs ys : List V, c.has K H xs ∧ d.has K H ys ∧ min xs.length ys.length = i⟩
theorem turn_zip2 {P : Program} {w : World} {K : PySem.W.Frag} {elts : List Expr} {kk : Nat} {tpos : Pos} (c d : Src) {z TI TO i1 i2 : Addr} (S : ZipSep2 z TI TO i1 i2 (i1 :: c.ad) (i2 :: d.ad)) (hc1 : ∀ a ∈ c.ad, a ≠ i1) (hd2 : ∀ a ∈ d.ad, a ≠ i2) :
    Turn P w K (.Tuple elts kk tpos) (ItZ2 K c d) [z, TI, TO, i1, i2] z (fun i h => IsZip h z TI TO .none ∧ IsTupOf2 h TI (.ref i1) (.ref i2) ∧ (∃ a1 a2, IsTupOf2 h TO a1 a2) ∧ c.it h i1 i ∧ d.it h i2 i) where
  mem := by simp
  obj := fun i h st b hb => by
    obtain ⟨hz, hTI, ⟨x, y, hTO⟩, h1, h2⟩ := st
    have e' : b = z ∨ b = TI ∨ b = TO ∨ b = i1 ∨ b = i2 := by simpa using hb
    rcases e' with q | q | q | q | q
    · rw [q]; exact ⟨_, hz, fun v q => nomatch q⟩
    · rw [q]; exact ⟨_, hTI, fun v q => nomatch q⟩
    · rw [q]; exact ⟨_, hTO, fun v q => nomatch q⟩
    · rw [q]; exact Src.it_obj h1
    · rw [q]; exact Src.it_obj h2
  keep := fun i h h' st k => by
    obtain ⟨hz, hTI, ⟨x, y, hTO⟩, h1, h2⟩ := st
    exact ⟨k z (by simp) _ hz, k TI (by simp) _ hTI, ⟨x, y, k TO (by simp) _ hTO⟩, Src.it_keep h1 fun o q => k i1 (by simp) o q, Src.it_keep h2 fun o q => k i2 (by simp) o q⟩
  item := by
    intro X hP hw hK hcalm i pins s σ H E I hf st hg
    subst hP hw hK
    obtain ⟨hz, hTI, hTO, h1, h2⟩ := st
    obtain ⟨xs, ys, x, y, hqx, hqy, hx, hy⟩ := hg
    obtain ⟨St1, D1, st1, back1⟩ := Src.draws I (A := X.A.in1) (show X.A.in1.handled = none from I.ok.hd hcalm) hqx h1 hc1
    obtain ⟨St2, D2, st2, back2⟩ := Src.draws I (A := X.A.in1) (show X.A.in1.handled = none from I.ok.hd hcalm) hqy h2 hd2
    have W := GoesN.zip2 (elts := elts) (x1 := kk) (pos := tpos) S D1 D2
    have hi : i < min xs.length ys.length := by
      have a1 := (List.getElem?_eq_some_iff.mp hx).1
      have a2 := (List.getElem?_eq_some_iff.mp hy).1
      omega
    refine W.goes i s _ E hi ⟨hz, hTI, hTO, st1, st2⟩ fun v h' tk hY st' hk htk => ?_
    obtain ⟨T, u1, u2, rfl, hT, ⟨y1, hy1, ry1⟩, ⟨y2, hy2, ry2⟩, hTu⟩ := hY
    obtain ⟨hz', hTI', hTO', st1', st2'⟩ := st'
    have e1 : y1 = x := by rw [hx] at hy1; exact (Option.some.inj hy1).symm
    have e2 : y2 = y := by rw [hy] at hy2; exact (Option.some.inj hy2).symm
    subst e1 e2
    have new : ObjOk X.prog X.w (upd H T (.tup [y1, y2])) h' T (.tup [y1, y2]) := ⟨by show 2 ≤ sizeLine; decide, [u1, u2], .cons ry1 (.cons ry2 .nil), hTu⟩
    have hf' : ∀ b ∈ [z, TO, i1, i2], FpOk X pins H b := fun b hb => hf b (by simp at hb ⊢; rcases hb with q | q | q | q <;> simp [q])
    have I1 : Inv X pins σ (upd H T (.tup [y1, y2])) { s with heap := h', toks := tk } := I.turnedNew (ch := [z, TO, i1, i2]) (fun b o hb q => hk b o hb q) hf' hT new
    refine ⟨.ref T, _, I1, rfl, ⟨T, y1, y2, rfl, I.hok.fresh hT, rfl, fun zs hz => by rw [Src.inj I hz hqx]; exact hx, fun zs hz => by rw [Src.inj I hz hqy]; exact hy⟩, ⟨hz', hTI', hTO', back1 _ _ st1', back2 _ _ st2'⟩, fun b hb => ?_⟩
    have hb' : b < s.heap.objs.size := by
      have e' : b = z ∨ b = TI ∨ b = TO ∨ b = i1 ∨ b = i2 := by simpa using hb
      rcases e' with q | q | q | q | q
      · rw [q]; exact Heap.lt_size hz
      · rw [q]; exact Heap.lt_size hTI
      · rw [q]; obtain ⟨_, _, q⟩ := hTO; exact Heap.lt_size q
      · rw [q]; obtain ⟨o, q, _⟩ := Src.it_obj h1; exact Heap.lt_size q
      · rw [q]; obtain ⟨o, q, _⟩ := Src.it_obj h2; exact Heap.lt_size q
    rw [upd_ne (Nat.ne_of_lt (Nat.lt_of_lt_of_le hb' hT))]
    exact (hf b hb).1
  done := by
    intro X hP hw hK hcalm i pins s σ H E I hf st hg
    subst hP hw hK
    obtain ⟨hz, hTI, hTO, h1, h2⟩ := st
    obtain ⟨xs, ys, hqx, hqy, hend⟩ := hg
    subst hend
    obtain ⟨St1, D1, st1, back1⟩ := Src.draws I (A := X.A.in1) (show X.A.in1.handled = none from I.ok.hd hcalm) hqx h1 hc1
    obtain ⟨St2, D2, st2, back2⟩ := Src.draws I (A := X.A.in1) (show X.A.in1.handled = none from I.ok.hd hcalm) hqy h2 hd2
    have W := GoesN.zip2 (elts := elts) (x1 := kk) (pos := tpos) S D1 D2
    have hf' : ∀ b ∈ [z, TO, i1, i2], FpOk X pins H b := fun b hb => hf b (by simp at hb ⊢; rcases hb with q | q | q | q <;> simp [q])
    exact W.stops s _ E ⟨hz, hTI, hTO, st1, st2⟩ fun h' tk hk htk => I.turnedL (ch := [z, TO, i1, i2]) (fun b o hb q => hk b o hb q) hf'
  self := fun A i s Q E st h => wpAny_pyIter_zip st.1 h
end DL
end

section
set_option Elab.async false
set_option linter.all false
set_option maxRecDepth 100000
/-! DL5: operators, built-ins, slices, enumerate and zip as walks -/
namespace DL
open PySem PySem.Spec PyProof.Rows L2

/-! ### equality -/
mutual
def toPy : D → Option PyData
  | .non => some .none
  | .bl b => some (.bool b)
  | .int i => some (.int i)
  | .str s => some (.str s)
  | .tup ds => (toPys ds).map .tuple
  | .lst ds => (toPys ds).map .list
  | _ => none
def toPys : List D → Option (List PyData)
  | [] => some []
  | d :: ds => match toPy d, toPys ds with
    | some p, some ps => some (p :: ps)
    | _, _ => none
end
section
variable {mg : Gx} {K : PySem.W.Frag} {A : Addr → Prop} {H : Hp}
mutual
theorem toPy_dp : ∀ {d : D} {p : PyData} {v : V}, toPy d = some p → Rep mg A H d v → Dp K H v p
  | .non, p, v, e, r => by simp only [toPy, Rep] at e r; cases e; subst r; exact .non
  | .bl b, p, v, e, r => by simp only [toPy, Rep] at e r; cases e; subst r; exact .bl b
  | .int b, p, v, e, r => by simp only [toPy, Rep] at e r; cases e; subst r; exact .int b
  | .str b, p, v, e, r => by simp only [toPy, Rep] at e r; cases e; subst r; exact .str b
  | .tup ds, p, v, e, r => by
    simp only [toPy, Rep] at e r
    obtain ⟨ps, e1, rfl⟩ := Option.map_eq_some_iff.mp e
    obtain ⟨a, xs, rfl, _, h, rs⟩ := r
    exact .tup (.inl (.inl h)) (toPys_dp e1 rs)
  | .lst ds, p, v, e, r => by
    simp only [toPy, Rep] at e r
    obtain ⟨ps, e1, rfl⟩ := Option.map_eq_some_iff.mp e
    obtain ⟨a, xs, rfl, _, h, rs⟩ := r
    exact .lst (.inl (.inl h)) (toPys_dp e1 rs)
  | .dct _ _, p, v, e, r => by simp [toPy] at e
  | .obj _ _ _, p, v, e, r => by simp [toPy] at e
  | .scr _, p, v, e, r => by simp [toPy] at e
  | .opq _, p, v, e, r => by simp [toPy] at e
theorem toPys_dp : ∀ {ds : List D} {ps : List PyData} {vs : List V}, toPys ds = some ps → Reps mg A H ds vs → DpAll K H vs ps
  | [], ps, vs, e, r => by simp only [toPys, Reps] at e r; cases e; subst r; exact .nil
  | d :: ds, ps, vs, e, r => by
    simp only [toPys, Reps] at e r
    obtain ⟨v, r', rfl, h1, h2⟩ := r
    split at e
    · rename_i p ps' e1 e2
      cases e
      exact .cons (toPy_dp e1 h1) (toPys_dp e2 h2)
    · cases e
end
end
def dEqB (d e : D) : Option Bool := match toPy d, toPy e with
  | some p, some q => if SeqAt.shaped p = true ∧ SeqAt.shaped q = true then some (PyData.eqv p q) else none
  | _, _ => none
def dEq (d e : D) : Option D := match dEqB d e with
  | some b => some (.bl b)
  | none => none
def dNe (d e : D) : Option D := match dEqB d e with
  | some b => some (.bl (!b))
  | none => none
theorem dEqB_some {d e : D} {b : Bool} (h : dEqB d e = some b) : ∃ p q, toPy d = some p ∧ toPy e = some q ∧ SeqAt.shaped p = true ∧ SeqAt.shaped q = true ∧ PyData.eqv p q = b := by
  unfold dEqB at h
  split at h
  · rename_i p q e1 e2
    split at h
    · rename_i hc
      cases h
      exact ⟨p, q, e1, e2, hc.1, hc.2, rfl⟩
    · cases h
  · cases h
section
variable {mg : Gx} {K : PySem.W.Frag}
theorem od_eq : OpD mg (rEqD K) dEq := fun A H x y d e z Q hA rx ry h k => by
  unfold dEq at h
  split at h
  · rename_i b hb
    cases h
    obtain ⟨p, q, e1, e2, s1, s2, rfl⟩ := dEqB_some hb
    exact ⟨p, q, toPy_dp e1 rx, toPy_dp e2 ry, s1, s2, k _ H (fun _ _ q => q) (by simp [Rep])⟩
  · cases h
theorem od_ne : OpD mg (rNeD K) dNe := fun A H x y d e z Q hA rx ry h k => by
  unfold dNe at h
  split at h
  · rename_i b hb
    cases h
    obtain ⟨p, q, e1, e2, s1, s2, rfl⟩ := dEqB_some hb
    exact ⟨p, q, toPy_dp e1 rx, toPy_dp e2 ry, s1, s2, k _ H (fun _ _ q => q) (by simp [Rep])⟩
  · cases h
/-- x in xs: xs a list -/
def dIn (d e : D) : Option D := match toPy d, toPy e with
  | some p, some (.list qs) => if SeqAt.shaped p = true ∧ SeqAt.shaped (.list qs) = true then some (.bl (qs.any fun z => PyData.eqv z p)) else none
  | _, _ => none
def dNotIn (d e : D) : Option D := match toPy d, toPy e with
  | some p, some (.list qs) => if SeqAt.shaped p = true ∧ SeqAt.shaped (.list qs) = true then some (.bl (!qs.any fun z => PyData.eqv z p)) else none
  | _, _ => none
theorem od_in : OpD mg (rInD K) dIn := fun A H x y d e z Q hA rx ry h k => by
  unfold dIn at h
  split at h
  · rename_i p qs e1 e2
    split at h
    · rename_i hc
      cases h
      exact ⟨p, qs, toPy_dp e1 rx, toPy_dp e2 ry, hc.1, hc.2, k _ H (fun _ _ q => q) (by simp [Rep])⟩
    · cases h
  · cases h
theorem od_notin : OpD mg (rNotInD K) dNotIn := fun A H x y d e z Q hA rx ry h k => by
  unfold dNotIn at h
  split at h
  · rename_i p qs e1 e2
    split at h
    · rename_i hc
      cases h
      exact ⟨p, qs, toPy_dp e1 rx, toPy_dp e2 ry, hc.1, hc.2, k _ H (fun _ _ q => q) (by simp [Rep])⟩
    · cases h
  · cases h

/-! ### whole numbers -/
theorem od_int {C : Int → Int → Prop} {g : Int → Int → V} {f : D → D → Option D} (hf : ∀ d e z, f d e = some z → ∃ i j, d = .int i ∧ e = .int j ∧ C i j ∧ ∀ A H, Rep mg A H z (g i j)) : OpD mg (rI C g) f := fun A H x y d e z Q hA rx ry h k => by
  obtain ⟨i, j, rfl, rfl, c, r⟩ := hf d e z h
  simp only [Rep] at rx ry
  exact ⟨i, j, rx, ry, c, k _ H (fun _ _ q => q) (r A H)⟩
theorem od_int0 {g : Int → Int → V} {f : D → D → Option D} (hf : ∀ d e z, f d e = some z → ∃ i j, d = .int i ∧ e = .int j ∧ ∀ A H, Rep mg A H z (g i j)) : OpD mg (rI0 g) f := fun A H x y d e z Q hA rx ry h k => by
  obtain ⟨i, j, rfl, rfl, r⟩ := hf d e z h
  simp only [Rep] at rx ry
  exact ⟨i, j, rx, ry, k _ H (fun _ _ q => q) (r A H)⟩
def dInt (f : Int → Int → Option D) : D → D → Option D
  | .int i, .int j => f i j
  | _, _ => none
theorem of_dInt {f : Int → Int → Option D} {d e z : D} (h : dInt f d e = some z) : ∃ i j, d = .int i ∧ e = .int j ∧ f i j = some z := by
  unfold dInt at h
  split at h
  · exact ⟨_, _, rfl, rfl, h⟩
  · cases h
def dSub := dInt fun i j => some (.int (i - j))
theorem od_sub : OpD mg (rI0 fun i j => .int (i - j)) dSub := od_int0 fun d e z h => by
  obtain ⟨i, j, rfl, rfl, h⟩ := of_dInt h
  cases h
  exact ⟨i, j, rfl, rfl, fun _ _ => by simp [Rep]⟩
def dMulI := dInt fun i j => if i.natAbs.log2 + j.natAbs.log2 < 1000000 then some (.int (i * j)) else none
theorem od_mul : OpD mg (rI CMulW fun i j => .int (i * j)) dMulI := od_int fun d e z h => by
  obtain ⟨i, j, rfl, rfl, h'⟩ := of_dInt h
  clear h
  split at h'
  · rename_i hc
    cases h'
    exact ⟨i, j, rfl, rfl, hc, fun _ _ => by simp [Rep]⟩
  · cases h'
def dDiv := dInt fun i j => if 0 < j ∧ j.natAbs.log2 < 9000 then some (.int (i / j)) else none
theorem od_div : OpD mg (rI CDivW fun i j => .int (i / j)) dDiv := od_int fun d e z h => by
  obtain ⟨i, j, rfl, rfl, h'⟩ := of_dInt h
  clear h
  split at h'
  · rename_i hc
    cases h'
    exact ⟨i, j, rfl, rfl, hc, fun _ _ => by simp [Rep]⟩
  · cases h'
def dMod := dInt fun i j => if 0 < j then some (.int (i % j)) else none
theorem od_mod : OpD mg (rI (fun _ j => 0 < j) fun i j => .int (i % j)) dMod := od_int fun d e z h => by
  obtain ⟨i, j, rfl, rfl, h'⟩ := of_dInt h
  clear h
  split at h'
  · rename_i hc
    cases h'
    exact ⟨i, j, rfl, rfl, hc, fun _ _ => by simp [Rep]⟩
  · cases h'
def dPow := dInt fun i j => if 0 ≤ j ∧ j ≤ 1000000 ∧ i.natAbs < 2 ^ 64 then some (.int (i ^ j.toNat)) else none
theorem od_pow : OpD mg (rI CPow fun i j => .int (i ^ j.toNat)) dPow := od_int fun d e z h => by
  obtain ⟨i, j, rfl, rfl, h'⟩ := of_dInt h
  clear h
  split at h'
  · rename_i hc
    cases h'
    exact ⟨i, j, rfl, rfl, hc, fun _ _ => by simp [Rep]⟩
  · cases h'
def dLt := dInt fun i j => some (.bl (decide (i < j)))
def dLe := dInt fun i j => some (.bl (decide (i ≤ j)))
def dGt := dInt fun i j => some (.bl (decide (j < i)))
def dGe := dInt fun i j => some (.bl (decide (j ≤ i)))
theorem od_lt : OpD mg (rI0 fun i j => .bl (decide (i < j))) dLt := od_int0 fun d e z h => by
  obtain ⟨i, j, rfl, rfl, h⟩ := of_dInt h
  cases h
  exact ⟨i, j, rfl, rfl, fun _ _ => by simp [Rep]⟩
theorem od_le : OpD mg (rI0 fun i j => .bl (decide (i ≤ j))) dLe := od_int0 fun d e z h => by
  obtain ⟨i, j, rfl, rfl, h⟩ := of_dInt h
  cases h
  exact ⟨i, j, rfl, rfl, fun _ _ => by simp [Rep]⟩
theorem od_gt : OpD mg (rI0 fun i j => .bl (decide (j < i))) dGt := od_int0 fun d e z h => by
  obtain ⟨i, j, rfl, rfl, h⟩ := of_dInt h
  cases h
  exact ⟨i, j, rfl, rfl, fun _ _ => by simp [Rep]⟩
theorem od_ge : OpD mg (rI0 fun i j => .bl (decide (j ≤ i))) dGe := od_int0 fun d e z h => by
  obtain ⟨i, j, rfl, rfl, h⟩ := of_dInt h
  cases h
  exact ⟨i, j, rfl, rfl, fun _ _ => by simp [Rep]⟩
def dNeg : D → Option D
  | .int i => some (.int (-i))
  | _ => none
theorem ud_neg : UnD mg (rU fun i => .int (-i)) dNeg := fun A H x d z Q hA rx h k => by
  unfold dNeg at h
  split at h
  · cases h
    simp only [Rep] at rx
    exact ⟨_, rx, k _ H (fun _ _ q => q) (by simp [Rep])⟩
  · cases h

/-! ### + -/
def dAdd : D → D → Option D
  | .int i, .int j => some (.int (i + j))
  | .str x, .str y => if x.length + y.length ≤ sizeLine then some (.str (x ++ y)) else none
  | .tup a, .tup b => if a.length + b.length ≤ sizeLine then some (.tup (a ++ b)) else none
  | .lst a, .lst b => if a.length + b.length ≤ sizeLine then some (.lst (a ++ b)) else none
  | _, _ => none
def rAddA (K : PySem.W.Frag) : R2 := fun x y H Q => (∃ i j, x = .int i ∧ y = .int j ∧ Q (.int (i + j)) H) ∨ (∃ i j, x = .str i ∧ y = .str j ∧ i.length + j.length ≤ sizeLine ∧ Q (.str (i ++ j)) H) ∨ rCatA K x y H Q ∨ rCat x y H Q
end
theorem op_addA {X : Cx} : OpR X (binaryOp .Add) (rAddA X.K) := op_add.or (op_add_str.or (op_catA.or op_cat))
section
variable {mg : Gx} {K : PySem.W.Frag}
theorem od_add : OpD mg (rAddA K) dAdd := fun A H x y d e z Q hA rx ry h k => by
  cases d with
  | int i =>
    cases e with
    | int j =>
      simp only [dAdd] at h; cases h
      simp only [Rep] at rx ry
      exact .inl ⟨i, j, rx, ry, k _ H (fun _ _ q => q) (by simp [Rep])⟩
    | _ => simp [dAdd] at h
  | str i =>
    cases e with
    | str j =>
      simp only [dAdd] at h
      split at h
      · rename_i hl
        cases h
        simp only [Rep] at rx ry
        exact .inr (.inl ⟨i, j, rx, ry, hl, k _ H (fun _ _ q => q) (by simp [Rep])⟩)
      · cases h
    | _ => simp [dAdd] at h
  | tup i =>
    cases e with
    | tup j =>
      simp only [dAdd] at h
      split at h
      · rename_i hl
        cases h
        simp only [Rep] at rx ry
        obtain ⟨a, xs, rfl, na, ha, ra⟩ := rx
        obtain ⟨b, ys, rfl, nb, hb, rb⟩ := ry
        refine .inr (.inr (.inl ⟨a, b, xs, ys, rfl, rfl, .inl (.inl ha), .inl (.inl hb), by rw [ra.length, rb.length]; exact hl, fun e => ?_, fun _ e => ?_, fun _ _ p hp => ?_⟩))
        · have ei : i = [] := List.eq_nil_of_length_eq_zero (by rw [← ra.length, e]; rfl)
          subst ei
          exact k _ H (fun _ _ q => q) (by simp only [Rep]; exact ⟨b, ys, rfl, nb, hb, by simpa using rb⟩)
        · have ei : j = [] := List.eq_nil_of_length_eq_zero (by rw [← rb.length, e]; rfl)
          subst ei
          exact k _ H (fun _ _ q => q) (by simp only [Rep]; exact ⟨a, xs, rfl, na, ha, by simpa using ra⟩)
        · have s := same_upd (o := .tup (xs ++ ys)) hp
          exact k _ _ s (by simp only [Rep]; exact ⟨p, _, rfl, hA p hp, upd_same, (ra.append rb).ext (Same.ext s)⟩)
      · cases h
    | _ => simp [dAdd] at h
  | lst i =>
    cases e with
    | lst j =>
      simp only [dAdd] at h
      split at h
      · rename_i hl
        cases h
        simp only [Rep] at rx ry
        obtain ⟨a, xs, rfl, na, ha, ra⟩ := rx
        obtain ⟨b, ys, rfl, nb, hb, rb⟩ := ry
        refine .inr (.inr (.inr ⟨a, b, xs, ys, rfl, rfl, ha, hb, by rw [ra.length, rb.length]; exact hl, fun p hp => ?_⟩))
        have s := same_upd (o := .lst (xs ++ ys)) hp
        exact k _ _ s (by simp only [Rep]; exact ⟨p, _, rfl, hA p hp, upd_same, (ra.append rb).ext (Same.ext s)⟩)
      · cases h
    | _ => simp [dAdd] at h
  | _ => simp [dAdd] at h

/-! ### an item -/
def dIx : D → D → Option D
  | .tup ds, .int i => atI ds i
  | .lst ds, .int i => atI ds i
  | .scr ns, .int i => (atI ns i).map .int
  | .str x, .int i => if x.length ≤ sizeLine then (atI (signs x) i).map .str else none
  | _, _ => none
theorem atI_rep {A : Addr → Prop} {H : Hp} {ds : List D} {vs : List V} {i : Int} {d : D} (r : Reps mg A H ds vs) (h : atI ds i = some d) : ∃ v, atI vs i = some v ∧ Rep mg A H d v := by
  unfold atI at h ⊢
  rw [← r.length] at h
  obtain ⟨j, e1, e2⟩ := bind_some2 h
  obtain ⟨v, q1, q2⟩ := r.get e2
  exact ⟨v, by rw [e1]; exact q1, q2⟩
theorem od_ix : OpD mg (rIx mg.K) dIx := fun A H x y d e z Q hA rx ry h k => by
  cases d with
  | tup ds =>
    cases e with
    | int i =>
      simp only [dIx] at h
      simp only [Rep] at rx ry
      obtain ⟨a, xs, rfl, na, ha, ra⟩ := rx
      obtain ⟨v, q1, q2⟩ := atI_rep ra h
      exact .inr (.inl ⟨a, xs, i, v, rfl, ry, .inl (.inl ha), q1, k v H (fun _ _ q => q) q2⟩)
    | _ => simp [dIx] at h
  | lst ds =>
    cases e with
    | int i =>
      simp only [dIx] at h
      simp only [Rep] at rx ry
      obtain ⟨a, xs, rfl, na, ha, ra⟩ := rx
      obtain ⟨v, q1, q2⟩ := atI_rep ra h
      exact .inl ⟨a, xs, i, v, rfl, ry, .inl (.inl ha), q1, k v H (fun _ _ q => q) q2⟩
    | _ => simp [dIx] at h
  | scr ns =>
    cases e with
    | int i =>
      simp only [dIx] at h
      simp only [Rep] at rx ry
      obtain ⟨a, rfl, ha⟩ := rx
      obtain ⟨n, e1, rfl⟩ := Option.map_eq_some_iff.mp h
      have h' : atI (ns.map D.int) i = some (.int n) := by
        unfold atI at e1 ⊢
        rw [List.length_map]
        obtain ⟨j, q1, q2⟩ := bind_some2 e1
        rw [q1]
        show (ns.map D.int)[j]? = _
        rw [List.getElem?_map, q2]
        rfl
      obtain ⟨v, q1, q2⟩ := atI_rep (mg := mg) (A := A) (H := H) (Reps_ints ns) h'
      exact .inl ⟨a, _, i, v, rfl, ry, scr_sq ha, q1, k v H (fun _ _ q => q) q2⟩
    | _ => simp [dIx] at h
  | str s =>
    cases e with
    | int i =>
      simp only [dIx] at h
      split at h
      · rename_i hl
        simp only [Rep] at rx ry
        obtain ⟨c, e1, rfl⟩ := Option.map_eq_some_iff.mp h
        unfold atI at e1
        rw [signs_len] at e1
        obtain ⟨j, q1, q2⟩ := bind_some2 e1
        rw [signs_get] at q2
        obtain ⟨cc, q3, rfl⟩ := Option.map_eq_some_iff.mp q2
        refine .inr (.inr ⟨s, i, cc, rx, ry, hl, ?_, k _ H (fun _ _ q => q) (by simp [Rep])⟩)
        unfold atI
        rw [Array.length_toList, q1]
        show s.cps.toList[j]? = _
        rw [Array.getElem?_toList]; exact q3
      · cases h
    | _ => simp [dIx] at h
  | _ => simp [dIx] at h

/-! ### built-ins -/
def dLen : List D → Option D
  | [.tup ds] => some (.int ds.length)
  | [.lst ds] => some (.int ds.length)
  | [.tpx ds] => some (.int ds.length)
  | [.scr ns] => some (.int ns.length)
  | [.str x] => if x.length ≤ sizeLine then some (.int x.length) else none
  | _ => none
def rLen (K : PySem.W.Frag) : List V → Hp → VK → Prop := fun xs H Q => ∃ x n, xs = [x] ∧ LenV K x H n ∧ Q (.int n) H
theorem cd_len : CallD mg (rLen mg.K) dLen := fun A H xs ds z Q hA r h k => by
  match ds, h with
  | [.tup es], h =>
    simp only [dLen] at h; cases h
    simp only [Reps, Rep] at r
    obtain ⟨v, _, rfl, ⟨a, ys, rfl, na, ha, ra⟩, rfl⟩ := r
    exact ⟨_, es.length, rfl, .inr ⟨ys, .inl (.inl ha), ra.length.symm⟩, k _ H (fun _ _ q => q) (by simp [Rep])⟩
  | [.lst es], h =>
    simp only [dLen] at h; cases h
    simp only [Reps, Rep] at r
    obtain ⟨v, _, rfl, ⟨a, ys, rfl, na, ha, ra⟩, rfl⟩ := r
    exact ⟨_, es.length, rfl, .inl ⟨ys, .inl (.inl ha), ra.length.symm⟩, k _ H (fun _ _ q => q) (by simp [Rep])⟩
  | [.tpx es], h =>
    simp only [dLen] at h; cases h
    simp only [Reps, Rep] at r
    obtain ⟨v, _, rfl, ⟨a, ys, o, rfl, na, ha, hd, ra⟩, rfl⟩ := r
    exact ⟨_, es.length, rfl, .inr ⟨ys, .inl (.inr ⟨o, ha⟩), ra.length.symm⟩, k _ H (fun _ _ q => q) (by simp [Rep])⟩
  | [.scr ns], h =>
    simp only [dLen] at h; cases h
    simp only [Reps, Rep] at r
    obtain ⟨v, _, rfl, ⟨a, rfl, ha⟩, rfl⟩ := r
    exact ⟨_, ns.length, rfl, .inl ⟨_, scr_sq ha, by simp⟩, k _ H (fun _ _ q => q) (by simp [Rep])⟩
  | [.str x], h =>
    simp only [dLen] at h
    split at h
    · rename_i hl
      cases h
      simp only [Reps, Rep] at r
      obtain ⟨v, _, rfl, rfl, rfl⟩ := r
      exact ⟨_, x.length, rfl, ⟨hl, rfl⟩, k _ H (fun _ _ q => q) (by simp [Rep])⟩
    · cases h
/-- tuple(..) -/
def dTuple : List D → Option D
  | [.tup ds] => some (.tup ds)
  | [.lst ds] => some (.tup ds)
  | _ => none
def rTupleOf (K : PySem.W.Frag) : List V → Hp → VK → Prop := fun xs H Q => ∃ p ys, xs = [.ref p] ∧ ((SqL K H p ys ∧ ∀ l, H l = none → Q (.ref l) (upd H l (.tup ys))) ∨ (SqT K H p ys ∧ Q (.ref p) H))
theorem cd_tuple : CallD mg (rTupleOf K) dTuple := fun A H xs ds z Q hA r h k => by
  match ds, h with
  | [.tup es], h =>
    simp only [dTuple] at h; cases h
    simp only [Reps, Rep] at r
    obtain ⟨v, _, rfl, ⟨a, ys, rfl, na, ha, ra⟩, rfl⟩ := r
    exact ⟨a, ys, rfl, .inr ⟨.inl (.inl ha), k _ H (fun _ _ q => q) (by simp only [Rep]; exact ⟨a, ys, rfl, na, ha, ra⟩)⟩⟩
  | [.lst es], h =>
    simp only [dTuple] at h; cases h
    simp only [Reps, Rep] at r
    obtain ⟨v, _, rfl, ⟨a, ys, rfl, na, ha, ra⟩, rfl⟩ := r
    refine ⟨a, ys, rfl, .inl ⟨.inl (.inl ha), fun p hp => ?_⟩⟩
    have s := same_upd (o := .tup ys) hp
    exact k _ _ s (by simp only [Rep]; exact ⟨p, _, rfl, hA p hp, upd_same, ra.ext (Same.ext s)⟩)
def dList : List D → Option D
  | [.tup ds] => some (.lst ds)
  | [.lst ds] => some (.lst ds)
  | _ => none
def bools : List D → Option (List Bool)
  | [] => some []
  | .bl b :: ds => (bools ds).map (b :: ·)
  | _ :: _ => none
theorem bools_rep {A : Addr → Prop} {H : Hp} : ∀ {ds : List D} {bs : List Bool} {vs : List V}, bools ds = some bs → Reps mg A H ds vs → vs = bs.map V.bl
  | [], bs, vs, e, r => by simp [bools, Reps] at e r; subst e r; rfl
  | .bl b :: ds, bs, vs, e, r => by
    simp only [bools] at e
    obtain ⟨bs', e1, rfl⟩ := Option.map_eq_some_iff.mp e
    simp only [Reps, Rep] at r
    obtain ⟨v, r', rfl, rfl, h2⟩ := r
    rw [bools_rep e1 h2]
    rfl
  | .non :: _, _, _, e, _ | .int _ :: _, _, _, e, _ | .str _ :: _, _, _, e, _ | .tup _ :: _, _, _, e, _ | .lst _ :: _, _, _, e, _ | .dct _ _ :: _, _, _, e, _ | .obj _ _ _ :: _, _, _, e, _ | .scr _ :: _, _, _, e, _ | .opq _ :: _, _, _, e, _ => by simp [bools] at e
def intsD : List D → Option (List Int)
  | [] => some []
  | .int b :: ds => (intsD ds).map (b :: ·)
  | _ :: _ => none
theorem ints_rep {A : Addr → Prop} {H : Hp} : ∀ {ds : List D} {bs : List Int} {vs : List V}, intsD ds = some bs → Reps mg A H ds vs → vs = bs.map V.int
  | [], bs, vs, e, r => by simp [intsD, Reps] at e r; subst e r; rfl
  | .int b :: ds, bs, vs, e, r => by
    simp only [intsD] at e
    obtain ⟨bs', e1, rfl⟩ := Option.map_eq_some_iff.mp e
    simp only [Reps, Rep] at r
    obtain ⟨v, r', rfl, rfl, h2⟩ := r
    rw [ints_rep e1 h2]
    rfl
  | .non :: _, _, _, e, _ | .bl _ :: _, _, _, e, _ | .str _ :: _, _, _, e, _ | .tup _ :: _, _, _, e, _ | .lst _ :: _, _, _, e, _ | .dct _ _ :: _, _, _, e, _ | .obj _ _ _ :: _, _, _, e, _ | .scr _ :: _, _, _, e, _ | .opq _ :: _, _, _, e, _ => by simp [intsD] at e
def dAny : List D → Option D
  | [.lst ds] => (bools ds).map fun bs => .bl (bs.any id)
  | _ => none
def dAll : List D → Option D
  | [.lst ds] => (bools ds).map fun bs => .bl (bs.all id)
  | _ => none
def dSum : List D → Option D
  | [.lst ds] => (intsD ds).map fun ns => .int ns.sum
  | _ => none
theorem cd_any : CallD mg (rAny K) dAny := fun A H xs ds z Q hA r h k => by
  unfold dAny at h
  split at h
  · obtain ⟨bs, e, rfl⟩ := Option.map_eq_some_iff.mp h
    simp only [Reps, Rep] at r
    obtain ⟨v, _, rfl, ⟨a, ys, rfl, na, ha, ra⟩, rfl⟩ := r
    rw [bools_rep e ra] at ha
    exact ⟨a, bs, rfl, .inl (.inl ha), k _ H (fun _ _ q => q) (by simp [Rep])⟩
  · cases h
theorem cd_all : CallD mg (rAll K) dAll := fun A H xs ds z Q hA r h k => by
  unfold dAll at h
  split at h
  · obtain ⟨bs, e, rfl⟩ := Option.map_eq_some_iff.mp h
    simp only [Reps, Rep] at r
    obtain ⟨v, _, rfl, ⟨a, ys, rfl, na, ha, ra⟩, rfl⟩ := r
    rw [bools_rep e ra] at ha
    exact ⟨a, bs, rfl, .inl (.inl ha), k _ H (fun _ _ q => q) (by simp [Rep])⟩
  · cases h
theorem cd_sum : CallD mg (rSum K) dSum := fun A H xs ds z Q hA r h k => by
  unfold dSum at h
  split at h
  · obtain ⟨bs, e, rfl⟩ := Option.map_eq_some_iff.mp h
    simp only [Reps, Rep] at r
    obtain ⟨v, _, rfl, ⟨a, ys, rfl, na, ha, ra⟩, rfl⟩ := r
    rw [ints_rep e ra] at ha
    exact ⟨a, bs, rfl, .inl (.inl ha), k _ H (fun _ _ q => q) (by simp [Rep])⟩
  · cases h
def maxI : List Int → Option Int
  | [] => none
  | n :: ns => some (ns.foldl max n)
theorem foldl_max_spec : ∀ (ns : List Int) (n : Int), (ns.foldl max n ∈ n :: ns) ∧ ∀ y ∈ n :: ns, y ≤ ns.foldl max n
  | [], n => by simp
  | m :: ns, n => by
    obtain ⟨h1, h2⟩ := foldl_max_spec ns (max n m)
    simp only [List.foldl_cons]
    refine ⟨?_, fun y hy => ?_⟩
    · rcases List.mem_cons.mp h1 with e | e
      · rw [e]
        rcases Int.le_total n m with q | q
        · rw [Int.max_eq_right q]; simp
        · rw [Int.max_eq_left q]; simp
      · exact List.mem_cons_of_mem _ (List.mem_cons_of_mem _ e)
    · have hm := h2 (max n m) List.mem_cons_self
      rcases List.mem_cons.mp hy with e | e
      · subst e; exact Int.le_trans (Int.le_max_left _ _) hm
      · rcases List.mem_cons.mp e with e | e
        · subst e; exact Int.le_trans (Int.le_max_right _ _) hm
        · exact h2 y (List.mem_cons_of_mem _ e)
def minI : List Int → Option Int
  | [] => none
  | n :: ns => some (ns.foldl min n)
theorem foldl_min_spec : ∀ (ns : List Int) (n : Int), (ns.foldl min n ∈ n :: ns) ∧ ∀ y ∈ n :: ns, ns.foldl min n ≤ y
  | [], n => by simp
  | m :: ns, n => by
    obtain ⟨h1, h2⟩ := foldl_min_spec ns (min n m)
    simp only [List.foldl_cons]
    refine ⟨?_, fun y hy => ?_⟩
    · rcases List.mem_cons.mp h1 with e | e
      · rw [e]
        rcases Int.le_total n m with q | q
        · rw [Int.min_eq_left q]; simp
        · rw [Int.min_eq_right q]; simp
      · exact List.mem_cons_of_mem _ (List.mem_cons_of_mem _ e)
    · have hm := h2 (min n m) List.mem_cons_self
      rcases List.mem_cons.mp hy with e | e
      · subst e; exact Int.le_trans hm (Int.min_le_left _ _)
      · rcases List.mem_cons.mp e with e | e
        · subst e; exact Int.le_trans hm (Int.min_le_right _ _)
        · exact h2 y (List.mem_cons_of_mem _ e)
def dMax : List D → Option D
  | [.lst ds] => ((intsD ds).bind maxI).map .int
  | _ => none
def dMin : List D → Option D
  | [.lst ds] => ((intsD ds).bind minI).map .int
  | _ => none
theorem cd_max : CallD mg (rMax K) dMax := fun A H xs ds z Q hA r h k => by
  unfold dMax at h
  split at h
  · obtain ⟨m, e, rfl⟩ := Option.map_eq_some_iff.mp h
    obtain ⟨ns, e1, e2⟩ := bind_some2 e
    simp only [Reps, Rep] at r
    obtain ⟨v, _, rfl, ⟨a, ys, rfl, na, ha, ra⟩, rfl⟩ := r
    rw [ints_rep e1 ra] at ha
    cases ns with
    | nil => cases e2
    | cons n ns =>
      simp only [maxI] at e2
      cases e2
      obtain ⟨h1, h2⟩ := foldl_max_spec ns n
      refine ⟨a, n :: ns, rfl, .inl (.inl ha), by simp, fun m hm hl => ?_⟩
      have : m = ns.foldl max n := Int.le_antisymm (h2 m hm) (hl _ h1)
      subst this
      exact k _ H (fun _ _ q => q) (by simp [Rep])
  · cases h
theorem cd_min : CallD mg (rMin K) dMin := fun A H xs ds z Q hA r h k => by
  unfold dMin at h
  split at h
  · obtain ⟨m, e, rfl⟩ := Option.map_eq_some_iff.mp h
    obtain ⟨ns, e1, e2⟩ := bind_some2 e
    simp only [Reps, Rep] at r
    obtain ⟨v, _, rfl, ⟨a, ys, rfl, na, ha, ra⟩, rfl⟩ := r
    rw [ints_rep e1 ra] at ha
    cases ns with
    | nil => cases e2
    | cons n ns =>
      simp only [minI] at e2
      cases e2
      obtain ⟨h1, h2⟩ := foldl_min_spec ns n
      refine ⟨a, n :: ns, rfl, .inl (.inl ha), by simp, fun m hm hl => ?_⟩
      have : m = ns.foldl min n := Int.le_antisymm (hl _ h1) (h2 m hm)
      subst this
      exact k _ H (fun _ _ q => q) (by simp [Rep])
  · cases h
end

/-! ### enumerate and zip, walked -/
def enumD : Nat → List D → List D
  | _, [] => []
  | n, d :: ds => .tup [.int (n : Nat), d] :: enumD (n + 1) ds
theorem enumD_len : ∀ (n : Nat) (ds : List D), (enumD n ds).length = ds.length
  | _, [] => rfl
  | n, d :: ds => by simp [enumD, enumD_len (n + 1) ds]
theorem enumD_get : ∀ (n : Nat) (ds : List D) (i : Nat), (enumD n ds)[i]? = ds[i]?.map fun d => .tup [.int ((n + i : Nat) : Int), d]
  | _, [], i => by simp [enumD]
  | n, d :: ds, 0 => by simp [enumD]
  | n, d :: ds, i + 1 => by
    simp only [enumD, List.getElem?_cons_succ]
    rw [enumD_get (n + 1) ds i]
    congr 2
    funext d
    rw [show n + 1 + i = n + (i + 1) by omega]
def zipD (ds es : List D) : List D := List.zipWith (fun d e => .tup [d, e]) ds es
def fEnum (fa : FA) : FI := fun ρ => match fa ρ with
  | some ([d], ρ1) => (match items d with
    | some ds => some (enumD 0 ds, ρ1)
    | none => none)
  | _ => none
def fZip (fa : FA) : FI := fun ρ => match fa ρ with
  | some ([d, e], ρ1) => (match items d, items e with
    | some ds, some es => some (zipD ds es, ρ1)
    | _, _ => none)
  | _ => none
section
variable {mg : Gx}
/-- a value that is walked, as a source -/
theorem src_of {A : Addr → Prop} {H : Hp} {d : D} {v : V} {ds : List D} (r : Rep mg A H d v) (h : items d = some ds) : ∃ c xs, v = Src.v c ∧ ∀ A' H', Ext A H A' H' → Src.has mg.K H' c xs ∧ Reps mg A' H' ds xs := by
  cases d with
  | tup es =>
    simp only [items, Rep] at h r; cases h
    obtain ⟨a, xs, rfl, n, e, rs⟩ := r
    exact ⟨.t a, xs, rfl, fun A' H' x => ⟨.inl (.inl (x _ _ e n).1), rs.ext x⟩⟩
  | lst es =>
    simp only [items, Rep] at h r; cases h
    obtain ⟨a, xs, rfl, n, e, rs⟩ := r
    exact ⟨.l a, xs, rfl, fun A' H' x => ⟨.inl (.inl (x _ _ e n).1), rs.ext x⟩⟩
  | tpx es =>
    simp only [items, Rep] at h r; cases h
    obtain ⟨a, xs, o, rfl, n, e, hd, rs⟩ := r
    exact ⟨.t a, xs, rfl, fun A' H' x => ⟨.inl (.inr ⟨o, (x _ _ e n).1⟩), rs.ext x⟩⟩
  | scr ns =>
    simp only [items, Rep] at h r; cases h
    obtain ⟨a, rfl, e⟩ := r
    exact ⟨.l a, _, rfl, fun A' H' x => ⟨scr_sq (scr_ext x e), Reps_ints ns⟩⟩
  | str z =>
    simp only [items, Rep] at h r; cases h
    subst r
    refine ⟨.s z, (signs z).map .str, rfl, fun A' H' x => ⟨rfl, ?_⟩⟩
    generalize signs z = l
    induction l with
    | nil => exact .nil
    | cons y l ih => exact .cons (by simp [Rep]) ih
  | _ => simp [items] at h
theorem wk_enum {K : PySem.W.Frag} {A : Addr → Prop} {H : Hp} {c : Src} {xs : List V} {ds : List D} (h : ∀ A' H', Ext A H A' H' → Src.has K H' c xs ∧ Reps mg A' H' ds xs) : Wk mg (ItG K c) A H (enumD 0 ds) where
  goes := fun i H1 A1 hi x => by
    obtain ⟨h1, r⟩ := h A1 H1 x
    rw [enumD_len] at hi
    exact ⟨xs, xs[i]'(by rw [r.length]; exact hi), h1, by rw [List.getElem?_eq_getElem]⟩
  stops := fun H1 A1 x => by
    obtain ⟨h1, r⟩ := h A1 H1 x
    exact ⟨xs, h1, by rw [enumD_len, r.length]⟩
  yields := fun i H1 v H2 A1 x hA y => by
    obtain ⟨T, w, rfl, hT, rfl, f⟩ := y
    obtain ⟨h1, r⟩ := h A1 H1 x
    have hw := f xs h1
    have s := same_upd (o := .tup [.int (i : Nat), w]) hT
    refine ⟨s, fun d hd => ?_⟩
    rw [enumD_get] at hd
    obtain ⟨d', e1, rfl⟩ := Option.map_eq_some_iff.mp hd
    obtain ⟨w', q1, q2⟩ := r.get e1
    rw [hw] at q1
    cases q1
    simp only [Rep]
    exact ⟨T, _, rfl, hA T hT, upd_same, .cons (by simp [Rep]) (.cons (q2.ext (Same.ext s)) .nil)⟩
theorem wk_zip {K : PySem.W.Frag} {A : Addr → Prop} {H : Hp} {c c' : Src} {xs ys : List V} {ds es : List D} (h : ∀ A' H', Ext A H A' H' → Src.has K H' c xs ∧ Reps mg A' H' ds xs) (h' : ∀ A' H', Ext A H A' H' → Src.has K H' c' ys ∧ Reps mg A' H' es ys) : Wk mg (ItZ2 K c c') A H (zipD ds es) where
  goes := fun i H1 A1 hi x => by
    obtain ⟨h1, r⟩ := h A1 H1 x
    obtain ⟨h2, r'⟩ := h' A1 H1 x
    unfold zipD at hi
    rw [List.length_zipWith] at hi
    exact ⟨xs, ys, xs[i]'(by rw [r.length]; omega), ys[i]'(by rw [r'.length]; omega), h1, h2, by rw [List.getElem?_eq_getElem], by rw [List.getElem?_eq_getElem]⟩
  stops := fun H1 A1 x => by
    obtain ⟨h1, r⟩ := h A1 H1 x
    obtain ⟨h2, r'⟩ := h' A1 H1 x
    exact ⟨xs, ys, h1, h2, by unfold zipD; rw [List.length_zipWith, r.length, r'.length]⟩
  yields := fun i H1 v H2 A1 x hA y => by
    obtain ⟨T, u, w, rfl, hT, rfl, f, f'⟩ := y
    obtain ⟨h1, r⟩ := h A1 H1 x
    obtain ⟨h2, r'⟩ := h' A1 H1 x
    have hu := f xs h1
    have hw := f' ys h2
    have s := same_upd (o := .tup [u, w]) hT
    refine ⟨s, fun d hd => ?_⟩
    unfold zipD at hd
    rw [List.getElem?_zipWith] at hd
    split at hd
    · rename_i d1 d2 e1 e2
      cases hd
      obtain ⟨u', q1, q2⟩ := r.get e1
      obtain ⟨w', q3, q4⟩ := r'.get e2
      rw [hu] at q1
      rw [hw] at q3
      cases q1; cases q3
      simp only [Rep]
      exact ⟨T, _, rfl, hA T hT, upd_same, .cons (q2.ext (Same.ext s)) (.cons (q4.ext (Same.ext s)) .nil)⟩
    · cases hd
end
def iEnumG (K : PySem.W.Frag) (ta : TA) : TI := fun σ H R => ta σ H fun vs H1 => ∃ c xs, vs = [Src.v c] ∧ c.has K H1 xs ∧ R (ItG K c) H1
theorem pi_enumG {X : Cx} {e : Expr} {ta : TA} {p pos tpos : Pos} {elts : List Expr} {kk : Nat} (hg : Gl X "enumerate") (hm : X.mg "enumerate" = none) (ha : PA X [e] ta) (hs : starEach [e] X.env = [(false, eval e X.env)] := by rfl) :
    PI X (.Tuple elts kk tpos) (.Call (.Name "enumerate" p) [e] [] pos) (iEnumG X.K ta) := by
  refine ⟨fun pins s σ H R I h => ?_⟩
  refine Call_ (ld_blt I hg hm boot_enumerate (PyProof.Rows.callWith_type1 (thn (ha.run pos pins s σ H _ I h) fun us s1 ⟨vs, H1, I1, r1, q1⟩ => ?_) hs rfl))
  obtain ⟨c, xs, ex, hq, q⟩ := q1
  subst ex
  cases r1 with
  | cons r rr =>
    cases rr
    obtain ⟨o, B, hB, hb, hit, had, hcell⟩ := Src.begins I1 hq r
    refine dl_enum_begins hB hb fun h' he ho hsz hk => wpAny_pyIter_enum he ?_
    have I2 : Inv X pins σ H1 { s1 with heap := h' } := I1.kept (t' := s1.toks) hk
    refine ⟨s1.heap.objs.size + 1, [s1.heap.objs.size + 1, s1.heap.objs.size], _, _, H1, rfl, I2, turn_enumG c (s1.heap.objs.size + 1) s1.heap.objs.size (Nat.succ_ne_self _) (fun a ha => ⟨Nat.ne_of_lt (Nat.lt_succ_of_lt (had a ha)), Nat.ne_of_lt (had a ha)⟩), ⟨⟨.none, he⟩, hit h' _ ho⟩, fun b hb => ?_, q⟩
    have e' : b = s1.heap.objs.size + 1 ∨ b = s1.heap.objs.size := by simpa using hb
    have hle : s1.heap.objs.size ≤ b := by
      rcases e' with z | z
      · rw [z]; exact Nat.le_add_right _ _
      · rw [z]; exact Nat.le_refl _
    exact I1.fpOk hle (I1.hok.fresh hle)
def iZipG (K : PySem.W.Frag) (ta : TA) : TI := fun σ H R => ta σ H fun vs H1 => ∃ c d xs ys, vs = [Src.v c, Src.v d] ∧ c.has K H1 xs ∧ d.has K H1 ys ∧ R (ItZ2 K c d) H1
theorem pi_zipG {X : Cx} {e e2 : Expr} {ta : TA} {p pos tpos : Pos} {elts : List Expr} {kk : Nat} (hg : Gl X "zip") (hm : X.mg "zip" = none) (ha : PA X [e, e2] ta)
    (hs : starEach [e, e2] X.env = (false, eval e X.env) :: starEach [e2] X.env := by rfl) (hpl : (backTo pos (starEach [e2] X.env)).any (·.1) = false := by rfl) :
    PI X (.Tuple elts kk tpos) (.Call (.Name "zip" p) [e, e2] [] pos) (iZipG X.K ta) := by
  refine ⟨fun pins s σ H R I h => ?_⟩
  refine Call_ (ld_blt I hg hm PyProof.Rows.boot_zip (PyProof.Rows.callWith_type1 (thn (ha.run pos pins s σ H _ I h) fun us s1 ⟨vs, H1, I1, r1, q1⟩ => ?_) hs hpl))
  obtain ⟨c, d, xs, ys, ex, hqx, hqy, q⟩ := q1
  subst ex
  cases r1 with
  | cons r rr =>
    cases rr with
    | cons r' rr =>
      cases rr
      obtain ⟨o1, B1, hB1, hb1, hit1, had1, hcell1⟩ := Src.begins I1 hqx r
      obtain ⟨o2, B2, hB2, hb2, hit2, had2, hcell2⟩ := Src.begins I1 hqy r'
      have fresh5 : ∀ c, c ∈ [s1.heap.objs.size + 4, s1.heap.objs.size + 2, s1.heap.objs.size + 3, s1.heap.objs.size, s1.heap.objs.size + 1] → FpOk X pins H1 c := fun c hcm => by
        have e' : c = s1.heap.objs.size + 4 ∨ c = s1.heap.objs.size + 2 ∨ c = s1.heap.objs.size + 3 ∨ c = s1.heap.objs.size ∨ c = s1.heap.objs.size + 1 := by simpa using hcm
        have hle : s1.heap.objs.size ≤ c := by
          rcases e' with z | z | z | z | z
          · rw [z]; exact Nat.le_add_right _ _
          · rw [z]; exact Nat.le_add_right _ _
          · rw [z]; exact Nat.le_add_right _ _
          · rw [z]; exact Nat.le_refl _
          · rw [z]; exact Nat.le_add_right _ _
        exact I1.fpOk hle (I1.hok.fresh hle)
      refine zip_begins2 hB1 hB2 hb1 hb2 fun h' hz hTI hTO h1 h2 hsz hk => wpAny_pyIter_zip hz ?_
      have I2 : Inv X pins σ H1 { s1 with heap := h' } := I1.kept (t' := s1.toks) hk
      exact ⟨s1.heap.objs.size + 4, [s1.heap.objs.size + 4, s1.heap.objs.size + 2, s1.heap.objs.size + 3, s1.heap.objs.size, s1.heap.objs.size + 1], _, _, H1, rfl, I2,
        turn_zip2 c d (zip_sep2 had1 had2) (fun a ha => Nat.ne_of_lt (had1 a ha)) (fun a ha => Nat.ne_of_lt (Nat.lt_succ_of_lt (had2 a ha))), ⟨hz, hTI, ⟨_, _, hTO⟩, hit1 h' _ h1, hit2 h' _ h2⟩, fresh5, q⟩
section
variable {X : Cx} {e e2 : Expr} {fa : FA} {p pos tpos : Pos} {elts : List Expr} {kk : Nat}
theorem di_enum (hg : Gl X "enumerate") (hm : X.mg "enumerate" = none) (ha : DA X [e] fa) (hs : starEach [e] X.env = [(false, eval e X.env)] := by rfl) : DI X (.Tuple elts kk tpos) (.Call (.Name "enumerate" p) [e] [] pos) (fEnum fa) :=
  weakI (pi_enumG hg hm ha hs) fun σ H R ⟨Bs, M, own, ρ, ds, ρ', RR, q, k⟩ => by
    unfold fEnum at q
    split at q
    · rename_i d ρ1 e1
      split at q
      · rename_i es e2
        cases q
        refine ⟨Bs, M, own, ρ, _, _, RR, e1, fun vs H' own' G R' r => ?_⟩
        simp only [Reps] at r
        obtain ⟨v, _, rfl, r, rfl⟩ := r
        obtain ⟨c, xs, rfl, hc⟩ := src_of r e2
        exact ⟨c, xs, rfl, (hc _ _ .refl).1, k _ H' own' G R' (wk_enum fun A' H' x => hc A' H' x)⟩
      · cases q
    · cases q
theorem di_zip (hg : Gl X "zip") (hm : X.mg "zip" = none) (ha : DA X [e, e2] fa) (hs : starEach [e, e2] X.env = (false, eval e X.env) :: starEach [e2] X.env := by rfl) (hpl : (backTo pos (starEach [e2] X.env)).any (·.1) = false := by rfl) :
    DI X (.Tuple elts kk tpos) (.Call (.Name "zip" p) [e, e2] [] pos) (fZip fa) :=
  weakI (pi_zipG hg hm ha hs hpl) fun σ H R ⟨Bs, M, own, ρ, ds, ρ', RR, q, k⟩ => by
    unfold fZip at q
    split at q
    · rename_i d d' ρ1 e1
      split at q
      · rename_i es es' e2 e3
        cases q
        refine ⟨Bs, M, own, ρ, _, _, RR, e1, fun vs H' own' G R' r => ?_⟩
        simp only [Reps] at r
        obtain ⟨v, _, rfl, r, w, _, rfl, r', rfl⟩ := r
        obtain ⟨c, xs, rfl, hc⟩ := src_of r e2
        obtain ⟨c', ys, rfl, hc'⟩ := src_of r' e3
        exact ⟨c, c', xs, ys, rfl, (hc _ _ .refl).1, (hc' _ _ .refl).1, k _ H' own' G R' (wk_zip (fun A' H' x => hc A' H' x) fun A' H' x => hc' A' H' x)⟩
      · cases q
    · cases q
end
end DL
end

section
set_option Elab.async false
set_option linter.all false
set_option maxRecDepth 100000
/-! DL6: quiet expressions, places within boxes, what changes a box -/
namespace DL
open PySem PySem.Spec PyProof.Rows L2

abbrev FQ := List Slot → Option D
abbrev FP := List Slot → Option (List Nat × B)
section
variable (mg : Gx)
/-- an expression that changes nothing -/
def cQ (f : FQ) : TE := fun σ H Q => ∃ Bs M own ρ d, RE mg Bs M own H ρ σ ∧ f ρ = some d ∧ ∀ v H', Same H H' → Rep mg (fb M own) H' d v → Q v H'
/-- a place within the box of slot i -/
def cP (i : Nat) (f : FP) : TE := fun σ H Q => ∃ Bs M own ρ p b, RE mg Bs M own H ρ σ ∧ f ρ = some (p, b) ∧ ∀ v H', Same H H' → RepB mg (fb M own) own H' i p b v → Q v H'
/-- something looked at (in a box or not) -/
def cK (f : FQ) : TE := fun σ H Q => ∃ Bs M own ρ d, RE mg Bs M own H ρ σ ∧ f ρ = some d ∧ ∀ v H', Same H H' → Rep mg M H' d v → Q v H'
end
abbrev DQ (X : Cx) (e : Expr) (f : FQ) : Prop := PE X e (cQ (GX X) f)
abbrev DP (X : Cx) (e : Expr) (i : Nat) (f : FP) : Prop := PE X e (cP (GX X) i f)
abbrev DK (X : Cx) (e : Expr) (f : FQ) : Prop := PE X e (cK (GX X) f)
def fq (f : FQ) : FE := fun ρ => match f ρ with
  | some d => some (d, ρ)
  | none => none
def fpV (f : FP) : FQ := fun ρ => match f ρ with
  | some (_, .imm d) => some d
  | _ => none
def fpK (f : FP) : FQ := fun ρ => match f ρ with
  | some (_, b) => some b.toD
  | none => none
def fpN (i : Nat) : FP := fun ρ => match ρ[i]? with
  | some (.box _ b) => some ([], b)
  | _ => none
def fpIx (f : FP) (g : FQ) : FP := fun ρ => match f ρ, g ρ with
  | some (p, .own bs), some (.int k) => (match ixN bs.length k with
    | some j => (match bs[j]? with
      | some b => some (j :: p, b)
      | none => none)
    | none => none)
  | _, _ => none
def qVar (i : Nat) : FQ := fun ρ => match ρ[i]? with
  | some (.val d) => some d
  | _ => none
/-- the slot, a box or not -/
def qPeek (i : Nat) : FQ := fun ρ => match ρ[i]? with
  | some (.val d) => some d
  | some (.box _ b) => some b.toD
  | _ => none
def qC (d : D) : FQ := fun _ => some d
def qBin (g : D → D → Option D) (a b : FQ) : FQ := fun ρ => match a ρ, b ρ with
  | some x, some y => g x y
  | _, _ => none
def qUn (g : D → Option D) (a : FQ) : FQ := fun ρ => match a ρ with
  | some x => g x
  | none => none
abbrev FQA := List Slot → Option (List D)
def qNil : FQA := fun _ => some []
def qCons (a : FQ) (r : FQA) : FQA := fun ρ => match a ρ, r ρ with
  | some x, some xs => some (x :: xs)
  | _, _ => none
def qArgs (g : List D → Option D) (a : FQA) : FQ := fun ρ => match a ρ with
  | some xs => g xs
  | none => none
def cQA (mg : Gx) (f : FQA) : TA := fun σ H Q => ∃ Bs M own ρ ds, RE mg Bs M own H ρ σ ∧ f ρ = some ds ∧ ∀ vs H', Same H H' → Reps mg (fb M own) H' ds vs → Q vs H'
abbrev DQA (X : Cx) (es : List Expr) (f : FQA) : Prop := PA X es (cQA (GX X) f)
def scalar : D → Bool
  | .non | .bl _ | .int _ | .str _ => true
  | _ => false
section
variable {mg : Gx} {A A' : Addr → Prop} {H H' : Hp}
theorem scalar_rep {d : D} {v : V} (h : scalar d = true) (r : Rep mg A H d v) : Rep mg A' H' d v := by
  cases d <;> first | (simp only [Rep] at r ⊢; exact r) | cases h
theorem RepBs_len {own : Own} {i : Nat} {p : List Nat} : ∀ {n : Nat} {bs : List B} {vs : List V}, RepBs mg A own H i p n bs vs → vs.length = bs.length
  | _, [], vs, h => by simp only [RepBs] at h; subst h; rfl
  | n, b :: bs, vs, h => by
    simp only [RepBs] at h
    obtain ⟨y, ys, rfl, _, h2⟩ := h
    simp [RepBs_len h2]
theorem RepBs_get {own : Own} {i : Nat} {p : List Nat} : ∀ {n : Nat} {bs : List B} {vs : List V} {j : Nat} {b : B}, RepBs mg A own H i p n bs vs → bs[j]? = some b → ∃ v, vs[j]? = some v ∧ RepB mg A own H i ((n + j) :: p) b v
  | _, [], vs, j, b, h, e => by simp at e
  | n, b' :: bs, vs, 0, b, h, e => by
    simp only [RepBs] at h
    obtain ⟨y, ys, rfl, h1, _⟩ := h
    simp at e; subst e
    exact ⟨y, by simp, by simpa using h1⟩
  | n, b' :: bs, vs, j + 1, b, h, e => by
    simp only [RepBs] at h
    obtain ⟨y, ys, rfl, _, h2⟩ := h
    obtain ⟨v, e1, e2⟩ := RepBs_get (j := j) h2 (by simpa using e)
    exact ⟨v, by simpa using e1, by rw [show n + (j + 1) = n + 1 + j by omega]; exact e2⟩
mutual
/-- a box looked at -/
theorem RepB.look {M : Addr → Prop} {own : Own} {i : Nat} (hm : ∀ a o, own a = some o → ¬ M a) : ∀ {p : List Nat} {b : B} {v : V}, RepB mg (fb M own) own H i p b v → Rep mg M H b.toD v
  | _, .imm d, v, h => by simp only [RepB, B.toD] at h ⊢; exact h.ext fun a o e n => ⟨e, fun q => n (.inl q)⟩
  | p, .own bs, v, h => by
    simp only [RepB, B.toD, Rep] at h ⊢
    obtain ⟨a, xs, e, o, r, t⟩ := h
    exact ⟨a, xs, e, hm a _ o, r, RepBs.look hm t⟩
  | p, .odct ks ds, v, h => by
    simp only [RepB, B.toD, Rep] at h ⊢
    obtain ⟨a, xs, e, o, r, hk, t⟩ := h
    exact ⟨a, xs, e, hm a _ o, .inl r, hk, t.ext fun a o e n => ⟨e, fun q => n (.inl q)⟩⟩
theorem RepBs.look {M : Addr → Prop} {own : Own} {i : Nat} (hm : ∀ a o, own a = some o → ¬ M a) : ∀ {p : List Nat} {n : Nat} {bs : List B} {vs : List V}, RepBs mg (fb M own) own H i p n bs vs → Reps mg M H (B.toDs bs) vs
  | _, _, [], vs, h => by simpa only [RepBs, B.toDs, Reps] using h
  | p, n, b :: bs, vs, h => by
    simp only [RepBs, B.toDs, Reps] at h ⊢
    obtain ⟨y, ys, e, h1, h2⟩ := h
    exact ⟨y, ys, e, RepB.look hm h1, RepBs.look hm h2⟩
end
theorem RepB.same {own : Own} {M : Addr → Prop} {i : Nat} {p : List Nat} {b : B} {v : V} (h : RepB mg (fb M own) own H i p b v) (s : Same H H') (ht : ∀ a, (own a).isSome = true → ∃ o, H a = some o) : RepB mg (fb M own) own H' i p b v :=
  h.ext (Same.ext s) fun a p e => by
    obtain ⟨o, q⟩ := ht a (by rw [e]; rfl)
    exact ⟨e, by rw [q, s a o q]⟩
end
section
variable {X : Cx} {e a b : Expr} {es : List Expr} {f : FQ} {fa fb' : FQ} {fp : FP} {fr : FQA} {i : Nat} {pos : Pos} {x : Str}
theorem de_q (h : DQ X e f) : DE X e (fq f) := weakE h fun σ H Q ⟨Bs, M, own, ρ, d, ρ', R, q, k⟩ => by
  unfold fq at q
  split at q
  · rename_i d' e1
    cases q
    exact ⟨Bs, M, own, ρ, _, R, e1, fun v H' s r => k v H' own (R.goSame s) (R.same s) r⟩
  · cases q
theorem dk_q (h : DQ X e f) : DK X e f := weakE h fun σ H Q ⟨Bs, M, own, ρ, d, R, q, k⟩ => ⟨Bs, M, own, ρ, d, R, q, fun v H' s r => k v H' s (r.ext fun a o e n => ⟨e, fun q => n (.inl q)⟩)⟩
theorem dq_var (i : Nat) (hN : X.N[i]? = some x := by rfl) (hv : Vis X.env.scope x := by first | exact Or.inl rfl | exact Or.inr (Or.inl rfl) | exact Or.inr (Or.inr rfl)) (hd : (x == ("__debug__" : Str)) = false := by decide)
    (hcd : (x == ("__classdict__" : Str)) = false := by decide) : DQ X (.Name x pos) (qVar i) := weakE (pe_var hN hv hd hcd) fun σ H Q ⟨Bs, M, own, ρ, d, R, h, k⟩ => by
  unfold qVar at h
  split at h
  · rename_i d' e
    cases h
    obtain ⟨w, e1, v, e2, r⟩ := R.at e
    subst e2
    exact ⟨v, e1, k v H (fun _ _ q => q) r⟩
  · cases h
theorem dk_peek (i : Nat) (hN : X.N[i]? = some x := by rfl) (hv : Vis X.env.scope x := by first | exact Or.inl rfl | exact Or.inr (Or.inl rfl) | exact Or.inr (Or.inr rfl)) (hd : (x == ("__debug__" : Str)) = false := by decide)
    (hcd : (x == ("__classdict__" : Str)) = false := by decide) : DK X (.Name x pos) (qPeek i) := weakE (pe_var hN hv hd hcd) fun σ H Q ⟨Bs, M, own, ρ, d, R, h, k⟩ => by
  unfold qPeek at h
  split at h
  · rename_i d' e
    cases h
    obtain ⟨w, e1, v, e2, r⟩ := R.at e
    subst e2
    exact ⟨v, e1, k v H (fun _ _ q => q) (r.ext fun a o e n => ⟨e, fun q => n (.inl q)⟩)⟩
  · rename_i o b e
    cases h
    obtain ⟨w, e1, v, e2, r⟩ := R.at e
    subst e2
    exact ⟨v, e1, k v H (fun _ _ q => q) (r.look fun a o q => R.notM q)⟩
  · cases h
theorem dp_name (i : Nat) (hN : X.N[i]? = some x := by rfl) (hv : Vis X.env.scope x := by first | exact Or.inl rfl | exact Or.inr (Or.inl rfl) | exact Or.inr (Or.inr rfl)) (hd : (x == ("__debug__" : Str)) = false := by decide)
    (hcd : (x == ("__classdict__" : Str)) = false := by decide) : DP X (.Name x pos) i (fpN i) := weakE (pe_var hN hv hd hcd) fun σ H Q ⟨Bs, M, own, ρ, p, b, R, h, k⟩ => by
  unfold fpN at h
  split at h
  · rename_i o b e
    cases h
    obtain ⟨w, e1, v, e2, r⟩ := R.at e
    subst e2
    exact ⟨v, e1, k v H (fun _ _ q => q) r⟩
  · cases h
theorem dq_c {d : D} {v : V} {t : TE} (h : PE X e t) (ht : t = tC v) (hv : ∀ A H, Rep (GX X) A H d v) : DQ X e (qC d) := by
  subst ht
  exact weakE h fun σ H Q ⟨Bs, M, own, ρ, d', R, h, k⟩ => by
    cases h
    exact k v H (fun _ _ q => q) (hv _ _)
theorem dq_int {i j} : DQ X (.Constant (.int i) j pos) (qC (.int i)) := dq_c pe_int rfl fun _ _ => by simp [Rep]
theorem dq_bl {i j} : DQ X (.Constant (.bool i) j pos) (qC (.bl i)) := dq_c pe_bl rfl fun _ _ => by simp [Rep]
theorem dq_non {j} : DQ X (.Constant .none j pos) (qC .non) := dq_c pe_non rfl fun _ _ => by simp [Rep]
theorem dq_str {x j} : DQ X (.Constant (.str x) j pos) (qC (.str x)) := dq_c pe_str rfl fun _ _ => by simp [Rep]
theorem dq_glob {v : V} {d : D} {u : Value} (hg : Gl X x) (hm : X.mg x = some u) (r : RelV v u) (hv : ∀ A H, Rep (GX X) A H d v) (hd : (x == ("__debug__" : Str)) = false := by decide) : DQ X (.Name x pos) (qC d) := dq_c (pe_glob hg hm r hd) rfl hv
theorem cQ_bin {mg : Gx} {r : R2} {g : D → D → Option D} (hg : OpD mg r g) : ∀ σ H Q, cQ mg (qBin g fa fb') σ H Q → tOp r (cQ mg fa) (cQ mg fb') σ H Q := by
  intro σ H Q ⟨Bs, M, own, ρ, d, R, h, k⟩
  unfold qBin at h
  split at h
  · rename_i x y e1 e2
    refine ⟨Bs, M, own, ρ, _, R, e1, fun v H1 s1 r1 => ?_⟩
    have R1 := R.same s1
    refine ⟨Bs, M, own, ρ, _, R1, e2, fun w H2 s2 r2 => ?_⟩
    refine hg (fb M own) H2 v w _ _ _ Q (fun a q => (R1.same s2).fresh q) (r1.ext (Same.ext s2)) r2 h fun u H3 s3 r3 => ?_
    exact k u H3 ((s1.trans s2).trans s3) r3
  · cases h
theorem dq_binop {op : Operator} {r : R2} {g : D → D → Option D} (ho : OpR X (binaryOp op) r) (hg : OpD (GX X) r g) (ha : DQ X a fa) (hb : DQ X b fb') : DQ X (.BinOp a op b pos) (qBin g fa fb') := weakE (pe_op ho ha hb) (cQ_bin hg)
theorem dq_cmp {op : CmpOp} {r : R2} {g : D → D → Option D} (ho : OpR X (compareOp op) r) (hg : OpD (GX X) r g) (ha : DQ X a fa) (hb : DQ X b fb') (hm : behindInMarks op b = false) : DQ X (.Compare a [op] [b] pos) (qBin g fa fb') := weakE (pe_cmpR ho ha hb hm) (cQ_bin hg)
theorem dq_ix {r : R2} {g : D → D → Option D} (hr : IxR X r) (hg : OpD (GX X) r g) (ha : DQ X a fa) (hb : DQ X b fb') (hs : PlainIx b) : DQ X (.Subscript a b pos) (qBin g fa fb') := weakE (pe_ix hr ha hb hs) (cQ_bin hg)
theorem dq_unop {op : UnaryOp} {r : V → Hp → VK → Prop} {g : D → Option D} (ho : UnR X (unaryOp op) r) (hg : UnD (GX X) r g) (ha : DQ X a fa) : DQ X (.UnaryOp op a pos) (qUn g fa) := weakE (pe_un ho ha) fun σ H Q ⟨Bs, M, own, ρ, d, R, h, k⟩ => by
  unfold qUn at h
  split at h
  · rename_i x e1
    refine ⟨Bs, M, own, ρ, _, R, e1, fun v H1 s1 r1 => ?_⟩
    exact hg (fb M own) H1 v _ _ Q (fun a q => (R.same s1).fresh q) r1 h fun u H3 s3 r3 => k u H3 (s1.trans s3) r3
  · cases h
/-- two things looked at; what comes is no object -/
def qLook (g : D → D → Option D) (a b : FQ) : FQ := fun ρ => match a ρ, b ρ with
  | some x, some y => (match g x y with
    | some z => if scalar z then some z else none
    | none => none)
  | _, _ => none
theorem cK_bin {mg : Gx} {r : R2} {g : D → D → Option D} (hg : OpD mg r g) : ∀ σ H Q, cQ mg (qLook g fa fb') σ H Q → tOp r (cK mg fa) (cK mg fb') σ H Q := by
  intro σ H Q ⟨Bs, M, own, ρ, d, R, h, k⟩
  unfold qLook at h
  split at h
  · rename_i x y e1 e2
    split at h
    · rename_i z e3
      split at h
      · rename_i sc
        cases h
        refine ⟨Bs, M, own, ρ, _, R, e1, fun v H1 s1 r1 => ?_⟩
        have R1 := R.same s1
        refine ⟨Bs, M, own, ρ, _, R1, e2, fun w H2 s2 r2 => ?_⟩
        refine hg M H2 v w _ _ _ Q (fun a q m => (R1.same s2).fresh q (.inl m)) (r1.ext (Same.ext s2)) r2 e3 fun u H3 s3 r3 => ?_
        exact k u H3 ((s1.trans s2).trans s3) (scalar_rep sc r3)
      · cases h
    · cases h
  · cases h
theorem dq_cmpK {op : CmpOp} {r : R2} {g : D → D → Option D} (ho : OpR X (compareOp op) r) (hg : OpD (GX X) r g) (ha : DK X a fa) (hb : DK X b fb') (hm : behindInMarks op b = false) : DQ X (.Compare a [op] [b] pos) (qLook g fa fb') := weakE (pe_cmpR ho ha hb hm) (cK_bin hg)
theorem dq_ixK {r : R2} {g : D → D → Option D} (hr : IxR X r) (hg : OpD (GX X) r g) (ha : DK X a fa) (hb : DK X b fb') (hs : PlainIx b) : DQ X (.Subscript a b pos) (qLook g fa fb') := weakE (pe_ix hr ha hb hs) (cK_bin hg)
/-- a first operand that may change things, a second one looked at -/
def fLook (g : D → D → Option D) (a : FE) (b : FQ) : FE := fun ρ => match a ρ with
  | some (x, ρ1) => (match b ρ1 with
    | some y => (match g x y with
      | some z => if scalar z then some (z, ρ1) else none
      | none => none)
    | none => none)
  | none => none
theorem cE_look {mg : Gx} {r : R2} {g : D → D → Option D} {fe : FE} (hg : OpD mg r g) : ∀ σ H Q, cE mg (fLook g fe fb') σ H Q → tOp r (cE mg fe) (cK mg fb') σ H Q := by
  intro σ H Q ⟨Bs, M, own, ρ, d, ρ', R, h, k⟩
  unfold fLook at h
  split at h
  · rename_i x ρ1 e1
    split at h
    · rename_i y e2
      split at h
      · rename_i z e3
        split at h
        · rename_i sc
          cases h
          refine ⟨Bs, M, own, ρ, _, _, R, e1, fun v H1 own1 G1 R1 r1 => ?_⟩
          refine ⟨Bs, M, own1, _, _, R1, e2, fun w H2 s2 r2 => ?_⟩
          refine hg M H2 v w _ _ _ Q (fun a q m => (R1.same s2).fresh q (.inl m)) ((r1.ext (Same.ext s2)).ext fun a o e n => ⟨e, fun q => n (.inl q)⟩) r2 e3 fun u H3 s3 r3 => ?_
          exact k u H3 own1 (G1.trans (R1.goSame (s2.trans s3))) (R1.same (s2.trans s3)) (scalar_rep sc r3)
        · cases h
      · cases h
    · cases h
  · cases h
theorem de_cmpK {op : CmpOp} {r : R2} {g : D → D → Option D} {fe : FE} (ho : OpR X (compareOp op) r) (hg : OpD (GX X) r g) (ha : DE X a fe) (hb : DK X b fb') (hm : behindInMarks op b = false) : DE X (.Compare a [op] [b] pos) (fLook g fe fb') := weakE (pe_cmpR ho ha hb hm) (cE_look hg)
theorem dt_cmpK {op : CmpOp} {r : R2} {g : D → D → Option D} {fe : FE} (ho : OpR X (compareOp op) r) (hg : OpD (GX X) r g) (ha : DE X a fe) (hb : DK X b fb') (hm : behindInMarks op b = false) : DT X (.Compare a [op] [b] pos) (fB (fLook g fe fb')) := weakT (pt_cmpR ho ha hb hm) (cT_test (cE_look hg))
theorem dt_cmpQ {op : CmpOp} {r : R2} {g : D → D → Option D} (ho : OpR X (compareOp op) r) (hg : OpD (GX X) r g) (ha : DK X a fa) (hb : DK X b fb') (hm : behindInMarks op b = false) : DT X (.Compare a [op] [b] pos) (fB (fq (qLook g fa fb'))) :=
  weakT (pt_cmpR ho ha hb hm) (cT_test fun σ H Q h => cK_bin hg σ H Q (by
    obtain ⟨Bs, M, own, ρ, d, ρ', R, q, k⟩ := h
    unfold fq at q
    split at q
    · rename_i d' e1
      cases q
      exact ⟨Bs, M, own, ρ, _, R, e1, fun v H' s r => k v H' own (R.goSame s) (R.same s) r⟩
    · cases q))
theorem dqa_nil : DQA X [] qNil := weakA pa_nil fun σ H Q ⟨Bs, M, own, ρ, ds, R, h, k⟩ => by
  cases h
  exact k [] H (fun _ _ q => q) .nil
theorem dqa_cons (ha : DQ X e fa) (hr : DQA X es fr) (hs : starEach (e :: es) X.env = (false, eval e X.env) :: starEach es X.env := by rfl) : DQA X (e :: es) (qCons fa fr) :=
  weakA (pa_cons ha hr hs) fun σ H Q ⟨Bs, M, own, ρ, ds, R, h, k⟩ => by
    unfold qCons at h
    split at h
    · rename_i x xs e1 e2
      cases h
      refine ⟨Bs, M, own, ρ, _, R, e1, fun v H1 s1 r1 => ?_⟩
      refine ⟨Bs, M, own, ρ, _, R.same s1, e2, fun vs H2 s2 r2 => ?_⟩
      exact k (v :: vs) H2 (s1.trans s2) (.cons (r1.ext (Same.ext s2)) r2)
    · cases h
theorem cQ_args {mg : Gx} {r : List V → Hp → VK → Prop} {g : List D → Option D} (hg : CallD mg r g) : ∀ σ H Q, cQ mg (qArgs g fr) σ H Q → tCB r (cQA mg fr) σ H Q := by
  intro σ H Q ⟨Bs, M, own, ρ, d, R, h, k⟩
  unfold qArgs at h
  split at h
  · rename_i xs e1
    refine ⟨Bs, M, own, ρ, _, R, e1, fun v H1 s1 r1 => ?_⟩
    exact hg (fb M own) H1 v _ _ Q (fun a q => (R.same s1).fresh q) r1 h fun u H3 s3 r3 => k u H3 (s1.trans s3) r3
  · cases h
/-- a built-in asked of one thing that is looked at -/
def qLook1 (g : List D → Option D) (a : FQ) : FQ := fun ρ => match a ρ with
  | some x => (match g [x] with
    | some z => if scalar z then some z else none
    | none => none)
  | none => none
theorem cQ_look1 {mg : Gx} {r : List V → Hp → VK → Prop} {g : List D → Option D} (hg : CallD mg r g) : ∀ σ H Q, cQ mg (qLook1 g fa) σ H Q → tCB r (tCons (cK mg fa) tNil) σ H Q := by
  intro σ H Q ⟨Bs, M, own, ρ, d, R, h, k⟩
  unfold qLook1 at h
  split at h
  · rename_i x e1
    split at h
    · rename_i z e3
      split at h
      · rename_i sc
        cases h
        refine ⟨Bs, M, own, ρ, _, R, e1, fun v H1 s1 r1 => ?_⟩
        exact hg M H1 [v] _ _ Q (fun a q m => (R.same s1).fresh q (.inl m)) (.cons r1 .nil) e3 fun u H3 s3 r3 => k u H3 (s1.trans s3) (scalar_rep sc r3)
      · cases h
    · cases h
  · cases h
theorem dq_callB1 {id : String} {r : List V → Hp → VK → Prop} {g : List D → Option D} {p : Pos} (hc : CallR X (.builtin id) r) (hg' : CallD (GX X) r g) (hg : Gl X x) (hm : X.mg x = none) (hv : bootBuiltins x = some (.builtin id)) (ha : DK X e fa) (hn : x ≠ "__name__" := by decide) (hdb : (x == ("__debug__" : Str)) = false := by decide)
    (hs : starEach [e] X.env = (false, eval e X.env) :: starEach [] X.env := by rfl) (hpl : (backTo pos (starEach [] X.env)).any (·.1) = false := by rfl) : DQ X (.Call (.Name x p) [e] [] pos) (qLook1 g fa) :=
  weakE (pe_callB hc hg hm hv (pa_cons ha pa_nil hs) hn hdb hs hpl) (cQ_look1 hg')
theorem dq_callB {id : String} {r : List V → Hp → VK → Prop} {g : List D → Option D} {p : Pos} (hc : CallR X (.builtin id) r) (hg' : CallD (GX X) r g) (hg : Gl X x) (hm : X.mg x = none) (hv : bootBuiltins x = some (.builtin id)) (ha : DQA X (e :: es) fr) (hn : x ≠ "__name__" := by decide) (hdb : (x == ("__debug__" : Str)) = false := by decide)
    (he : starEach (e :: es) X.env = (false, eval e X.env) :: starEach es X.env := by rfl) (hpl : (backTo pos (starEach es X.env)).any (·.1) = false := by rfl) : DQ X (.Call (.Name x p) (e :: es) [] pos) (qArgs g fr) := weakE (pe_callB hc hg hm hv ha hn hdb he hpl) (cQ_args hg')
/-- a def that changes nothing, called with quiet arguments -/
theorem dq_call {k : Nat} {f : Addr} {fd : FuncData} {ps : List Str} {g : List D → Option D} {p : Pos} (F : FnOk X.prog X.w X.K X.mg X.base CX0 k f fd ps (spD (GX X) g)) (hr : Room k X.A) (hg : Gl X x) (hm : X.mg x = some (.ref f)) (hk : PySem.W.keepIn X.K (.ref f) = true) (hb : Binds X.K fd ps [])
    (ha : DQA X (e :: es) fr) (hdb : (x == ("__debug__" : Str)) = false := by decide) (he : starEach (e :: es) X.env = (false, eval e X.env) :: starEach es X.env := by rfl) (hpl : (backTo pos (starEach es X.env)).any (·.1) = false := by rfl) :
    DQ X (.Call (.Name x p) (e :: es) [] pos) (qArgs g fr) := weakE (pe_call F hr hg hm hk hb .nil pass0 ha hdb he hpl) fun σ H Q ⟨Bs, M, own, ρ, d, R, h, k⟩ => by
  unfold qArgs at h
  split at h
  · rename_i xs e1
    refine ⟨Bs, M, own, ρ, _, R, e1, fun v H1 s1 r1 => ?_⟩
    exact ⟨fb M own, _, _, fun a q => (R.same s1).fresh q, by rw [List.append_nil]; exact r1, h, fun u H3 s3 r3 => k u H3 (s1.trans s3) r3⟩
  · cases h

/-! ### places -/
theorem dp_ix (ha : DP X a i fp) (hb : DQ X b fa) (hs : PlainIx b) : DP X (.Subscript a b pos) i (fpIx fp fa) := weakE (pe_ix ix_list ha hb hs) fun σ H Q ⟨Bs, M, own, ρ, p, b', R, h, k⟩ => by
  unfold fpIx at h
  split at h
  · rename_i p0 bs kk e1 e2
    split at h
    · rename_i j e3
      split at h
      · rename_i bb e4
        cases h
        refine ⟨Bs, M, own, ρ, _, _, R, e1, fun v H1 s1 r1 => ?_⟩
        have R1 := R.same s1
        refine ⟨Bs, M, own, ρ, _, R1, e2, fun w H2 s2 r2 => ?_⟩
        have r1' := r1.same s2 R1.there
        simp only [RepB] at r1'
        simp only [Rep] at r2
        obtain ⟨q, xs, rfl, ho, hq, hbs⟩ := r1'
        obtain ⟨u, e5, r5⟩ := RepBs_get hbs e4
        refine ⟨q, xs, kk, u, rfl, r2, .inl (.inl hq), ?_, k u H2 (s1.trans s2) (by simpa using r5)⟩
        unfold atI
        rw [RepBs_len hbs, e3]
        exact e5
      · cases h
    · cases h
  · cases h
theorem dq_place (h : DP X e i fp) : DQ X e (fpV fp) := weakE h fun σ H Q ⟨Bs, M, own, ρ, d, R, q, k⟩ => by
  unfold fpV at q
  split at q
  · rename_i p d' e1
    cases q
    refine ⟨Bs, M, own, ρ, _, _, R, e1, fun v H1 s1 r1 => k v H1 s1 ?_⟩
    simpa only [RepB] using r1
  · cases q
theorem dk_place (h : DP X e i fp) : DK X e (fpK fp) := weakE h fun σ H Q ⟨Bs, M, own, ρ, d, R, q, k⟩ => by
  unfold fpK at q
  split at q
  · rename_i p b e1
    cases q
    exact ⟨Bs, M, own, ρ, _, _, R, e1, fun v H1 s1 r1 => k v H1 s1 (r1.look fun a o q => (R.same s1).notM q)⟩
  · cases q
end

/-! ### a list within a box is changed -/
section
variable {mg : Gx} {Bs : Fx} {M : Addr → Prop} {own : Own} {H : Hp} {ρ : List Slot} {σ : L2.St}
/-- b with the part at the place p (its innermost step first) put in -/
def putB : List Nat → B → B → Option B
  | [], _, n => some n
  | j :: p, b, n => match b with
    | .own bs => if h : j < bs.length then (putB p bs[j] n).map fun b' => .own (bs.set j b') else none
    | _ => none
def getB : List Nat → B → Option B
  | [], b => some b
  | j :: p, b => match b with
    | .own bs => (match bs[j]? with
      | some b' => getB p b'
      | none => none)
    | _ => none
theorem ext_own {a : Addr} {o : HO} {w : Owner} (h : own a = some w) : Ext (fb M own) H (fb M own) (upd H a o) := fun c u e n => ⟨by rw [upd_ne (fun z => n (.inr (by rw [z, h]; rfl)))]; exact e, n⟩
mutual
/-- what lies at other places stays -/
theorem RepB.off {i : Nat} {a : Addr} {o : HO} {q : List Nat} (h : own a = some (.slot i q)) : ∀ {p : List Nat} {b : B} {v : V}, ¬ (p <:+ q) → RepB mg (fb M own) own H i p b v → RepB mg (fb M own) own (upd H a o) i p b v
  | _, .imm d, v, n, r => by simp only [RepB] at r ⊢; exact r.ext (ext_own h)
  | p, .own bs, v, n, r => by
    simp only [RepB] at r ⊢
    obtain ⟨c, xs, e, oc, hc, t⟩ := r
    have ne : c ≠ a := fun z => by
      rw [z, h] at oc
      cases oc
      exact n (List.suffix_refl _)
    exact ⟨c, xs, e, oc, by rw [upd_ne ne]; exact hc, RepBs.off h (fun j z => n ((List.suffix_cons j p).trans z)) t⟩
  | p, .odct ks ds, v, n, r => by
    simp only [RepB] at r ⊢
    obtain ⟨c, xs, e, oc, hc, hk, t⟩ := r
    have ne : c ≠ a := fun z => by
      rw [z, h] at oc
      cases oc
      exact n (List.suffix_refl _)
    exact ⟨c, xs, e, oc, by rw [upd_ne ne]; exact hc, hk, t.ext (ext_own h)⟩
theorem RepBs.off {i : Nat} {a : Addr} {o : HO} {q : List Nat} (h : own a = some (.slot i q)) : ∀ {p : List Nat} {n : Nat} {bs : List B} {vs : List V}, (∀ j, ¬ ((j :: p) <:+ q)) → RepBs mg (fb M own) own H i p n bs vs → RepBs mg (fb M own) own (upd H a o) i p n bs vs
  | _, _, [], vs, n, r => by simpa only [RepBs] using r
  | p, k, b :: bs, vs, n, r => by
    simp only [RepBs] at r ⊢
    obtain ⟨y, ys, e, h1, h2⟩ := r
    exact ⟨y, ys, e, RepB.off h (n k) h1, RepBs.off h n h2⟩
end
end
end DL
end

section
set_option Elab.async false
set_option linter.all false
set_option maxRecDepth 100000
/-! DL7: boxes changed in place; defs that change boxes handed in -/
namespace DL
open PySem PySem.Spec PyProof.Rows L2

section
variable {mg : Gx} {Bs : Fx} {M : Addr → Prop} {own : Own} {H : Hp} {ρ : List Slot} {σ : L2.St}
theorem RepBs.putAt {i : Nat} {a : Addr} {o : HO} {q p : List Nat} (h : own a = some (.slot i q)) : ∀ {n : Nat} {cs : List B} {xs : List V} {k : Nat} {b1 b1' : B}, RepBs mg (fb M own) own H i p n cs xs → cs[k]? = some b1 →
    (∀ v, RepB mg (fb M own) own H i ((n + k) :: p) b1 v → RepB mg (fb M own) own (upd H a o) i ((n + k) :: p) b1' v) → (∀ j, j ≠ n + k → ¬ ((j :: p) <:+ q)) → RepBs mg (fb M own) own (upd H a o) i p n (cs.set k b1') xs
  | _, [], _, k, _, _, _, e, _, _ => by simp at e
  | n, c :: cs, xs, 0, b1, b1', r, e, f, g => by
    simp only [RepBs] at r
    obtain ⟨y, ys, rfl, h1, h2⟩ := r
    simp at e; subst e
    simp only [List.set_cons_zero, RepBs]
    refine ⟨y, ys, rfl, by simpa using f y (by simpa using h1), ?_⟩
    -- the others lie at other places
    have offs : ∀ {m : Nat} {bs : List B} {vs : List V}, n < m → RepBs mg (fb M own) own H i p m bs vs → RepBs mg (fb M own) own (upd H a o) i p m bs vs := by
      intro m bs
      induction bs generalizing m with
      | nil => intro vs _ r; simpa only [RepBs] using r
      | cons b bs ih =>
        intro vs hm r
        simp only [RepBs] at r ⊢
        obtain ⟨y, ys, e, h1, h2⟩ := r
        exact ⟨y, ys, e, RepB.off h (g m (by omega)) h1, ih (by omega) h2⟩
    exact offs (Nat.lt_succ_self n) h2
  | n, c :: cs, xs, k + 1, b1, b1', r, e, f, g => by
    simp only [RepBs] at r
    obtain ⟨y, ys, rfl, h1, h2⟩ := r
    simp only [List.set_cons_succ, RepBs]
    refine ⟨y, ys, rfl, RepB.off h (g n (by omega)) h1, RepBs.putAt h h2 (by simpa using e) (fun v z => ?_) fun j hj => g j (by omega)⟩
    have e1 : n + 1 + k = n + (k + 1) := by omega
    rw [e1] at z ⊢
    exact f v z
theorem RepB.put {i : Nat} {a : Addr} {q : List Nat} {xs' : List V} {bs bs' : List B} (inj : ∀ a c i p, own a = some (.slot i p) → own c = some (.slot i p) → a = c) (h : own a = some (.slot i q))
    (new : RepBs mg (fb M own) own (upd H a (.lst xs')) i q 0 bs' xs') : ∀ {ks p0 : List Nat} {b b' : B} {v : V}, q = ks.reverse ++ p0 → RepB mg (fb M own) own H i p0 b v → getB ks b = some (.own bs) → putB ks b (.own bs') = some b' → RepB mg (fb M own) own (upd H a (.lst xs')) i p0 b' v
  | [], p0, b, b', v, e, r, g, pu => by
    simp only [getB] at g; cases g
    simp only [putB] at pu; cases pu
    have e' : q = p0 := by simpa using e
    subst e'
    simp only [RepB] at r ⊢
    obtain ⟨c, xs, ev, oc, hc, _⟩ := r
    have : c = a := inj c a i q oc h
    subst this
    exact ⟨c, xs', ev, h, upd_same, new⟩
  | k :: ks, p0, b, b', v, e, r, g, pu => by
    cases b with
    | imm d => simp [getB] at g
    | odct _ _ => simp [getB] at g
    | own cs =>
      simp only [getB] at g
      split at g
      · rename_i b1 e1
        obtain ⟨hk, ek⟩ := List.getElem?_eq_some_iff.mp e1
        simp only [putB, hk, dif_pos] at pu
        obtain ⟨b1', e2, rfl⟩ := Option.map_eq_some_iff.mp pu
        rw [ek] at e2
        simp only [RepB] at r ⊢
        obtain ⟨c, xs, ev, oc, hc, t⟩ := r
        have eq : q = ks.reverse ++ (k :: p0) := by simpa using e
        have ne : c ≠ a := fun z => by
          rw [z, h] at oc
          have : q = p0 := by cases oc; rfl
          have l1 := congrArg List.length eq
          rw [this] at l1
          simp at l1
          omega
        refine ⟨c, xs, ev, oc, by rw [upd_ne ne]; exact hc, RepBs.putAt h t e1 (fun v z => ?_) fun j hj z => ?_⟩
        · rw [Nat.zero_add] at z ⊢
          exact RepB.put inj h new eq z g e2
        · have z2 : (k :: p0) <:+ q := by rw [eq]; exact List.suffix_append _ _
          have : j :: p0 = k :: p0 := by
            obtain ⟨t1, e1⟩ := z
            obtain ⟨t2, e2⟩ := z2
            have e3 : t1 ++ j :: p0 = t2 ++ k :: p0 := e1.trans e2.symm
            have l : t1.length = t2.length := by
              have := congrArg List.length e3
              simp at this; omega
            exact (List.append_inj e3 l).2
          cases this
          exact hj (Nat.zero_add k).symm
      · cases g
end
def setB (i : Nat) (p : List Nat) (n : B) (ρ : List Slot) : Option (List Slot) := match ρ[i]? with
  | some (.box o b) => (match putB p.reverse b n with
    | some b' => some (ρ.set i (.box o b'))
    | none => none)
  | _ => none
def POk (i : Nat) (f : FP) : Prop := ∀ ρ p b, f ρ = some (p, b) → ∃ o b0, ρ[i]? = some (.box o b0) ∧ getB p.reverse b0 = some b
theorem pok_n {i : Nat} : POk i (fpN i) := fun ρ p b h => by
  unfold fpN at h
  split at h
  · rename_i o b' e
    cases h
    exact ⟨o, b, e, rfl⟩
  · cases h
theorem getB_snoc {j : Nat} : ∀ {ks : List Nat} {b b1 : B} {bs : List B} {b2 : B}, getB ks b = some (.own bs) → bs[j]? = some b2 → getB (ks ++ [j]) b = some b2
  | [], b, b1, bs, b2, h, e => by
    simp only [getB] at h; cases h
    simp only [List.nil_append, getB, e]
  | k :: ks, b, b1, bs, b2, h, e => by
    cases b with
    | imm d => simp [getB] at h
    | odct _ _ => simp [getB] at h
    | own cs =>
      simp only [getB, List.cons_append] at h ⊢
      split at h
      · rename_i b3 e3
        exact getB_snoc (b1 := b1) h e
      · cases h
theorem pok_ix {i : Nat} {f : FP} {g : FQ} (h : POk i f) : POk i (fpIx f g) := fun ρ p b e => by
  unfold fpIx at e
  split at e
  · rename_i p0 bs k e1 e2
    split at e
    · rename_i j e3
      split at e
      · rename_i b' e4
        cases e
        obtain ⟨o, b0, q1, q2⟩ := h ρ _ _ e1
        exact ⟨o, b0, q1, by rw [List.reverse_cons]; exact getB_snoc (b1 := b0) q2 e4⟩
      · cases e
    · cases e
  · cases e
section
variable {mg : Gx} {Bs : Fx} {M : Addr → Prop} {own : Own} {H : Hp} {ρ ρ' : List Slot} {σ : L2.St}
/-- the list at the place p of slot i's box is changed -/
theorem RE.put (R : RE mg Bs M own H ρ σ) {i : Nat} {p : List Nat} {bs bs' : List B} {a : Addr} {xs' : List V} (hb : ∃ o b0, ρ[i]? = some (.box o b0) ∧ getB p.reverse b0 = some (.own bs)) (h : own a = some (.slot i p))
    (new : RepBs mg (fb M own) own (upd H a (.lst xs')) i p 0 bs' xs') (hs : setB i p (.own bs') ρ = some ρ') : RE mg Bs M own (upd H a (.lst xs')) ρ' σ ∧ Go M own H own (upd H a (.lst xs')) := by
  obtain ⟨o, b0, e0, g0⟩ := hb
  unfold setB at hs
  rw [e0] at hs
  simp only at hs
  split at hs
  · rename_i b' e1
    cases hs
    have x : Ext (fb M own) H (fb M own) (upd H a (.lst xs')) := ext_own h
    refine ⟨⟨by rw [List.length_set]; exact R.len, fun c u e => ?_, R.apart, R.mb, fun c e => ?_, R.inj, fun j s w e1' e2 => ?_, fun j b w e1' e2 => ?_⟩, x, fun c q e => ⟨e, upd_ne fun z => by rw [z, h] at e; cases e⟩, fun c u e => by
      by_cases hc : c = a
      · subst hc; exact ⟨_, upd_same⟩
      · exact ⟨u, by rw [upd_ne hc]; exact e⟩⟩
    · rw [upd_ne (fun z => by rw [z] at e; rw [R.apart a u e] at h; cases h)]
      exact R.base c u e
    · by_cases hc : c = a
      · subst hc; exact ⟨_, upd_same⟩
      · obtain ⟨u, q⟩ := R.there c e
        exact ⟨u, by rw [upd_ne hc]; exact q⟩
    · by_cases hj : i = j
      · subst hj
        have hi : i < ρ.length := (List.getElem?_eq_some_iff.mp e0).1
        rw [List.getElem?_set_self hi] at e1'
        cases e1'
        obtain ⟨v, ev, r⟩ := R.slots i _ w e0 e2
        exact ⟨v, ev, RepB.put R.inj h new (by simp) r g0 e1⟩
      · rw [List.getElem?_set_ne hj] at e1'
        exact (R.slots j s w e1' e2).ext x fun c q e => ⟨e, upd_ne fun z => by rw [z, h] at e; cases e; exact hj rfl⟩
    · by_cases hj : i = j
      · subst hj
        have hi : i < ρ.length := (List.getElem?_eq_some_iff.mp e0).1
        rw [List.getElem?_set_self hi] at e1'
        cases e1'
        exact R.pins i b0 w e0 e2
      · rw [List.getElem?_set_ne hj] at e1'
        exact R.pins j b w e1' e2
  · cases hs
theorem RepBs.snoc {A : Addr → Prop} {own : Own} {i : Nat} {p : List Nat} : ∀ {n : Nat} {bs : List B} {xs : List V} {b : B} {v : V}, RepBs mg A own H i p n bs xs → RepB mg A own H i ((n + bs.length) :: p) b v → RepBs mg A own H i p n (bs ++ [b]) (xs ++ [v])
  | n, [], xs, b, v, r, h => by
    simp only [RepBs] at r; subst r
    simp only [List.nil_append, RepBs]
    exact ⟨v, [], rfl, by simpa using h, rfl⟩
  | n, c :: cs, xs, b, v, r, h => by
    simp only [RepBs] at r
    obtain ⟨y, ys, rfl, h1, h2⟩ := r
    simp only [List.cons_append, RepBs]
    refine ⟨y, ys ++ [v], rfl, h1, RepBs.snoc h2 ?_⟩
    rw [show n + 1 + cs.length = n + (c :: cs).length by simp; omega]
    exact h
theorem no_suffix_cons {j : Nat} {p : List Nat} : ¬ (j :: p) <:+ p := fun z => by
  have := z.length_le
  simp at this
  omega
theorem RepBs.kids {i : Nat} {a : Addr} {o : HO} {p : List Nat} {n : Nat} {bs : List B} {xs : List V} (h : own a = some (.slot i p)) (r : RepBs mg (fb M own) own H i p n bs xs) : RepBs mg (fb M own) own (upd H a o) i p n bs xs :=
  RepBs.off h (fun _ => no_suffix_cons) r
def imms : List B → Option (List D)
  | [] => some []
  | .imm d :: bs => (imms bs).map (d :: ·)
  | _ :: _ => none
theorem imms_eq : ∀ {bs : List B} {ds : List D}, imms bs = some ds → bs = ds.map .imm
  | [], ds, h => by simp [imms] at h; subst h; rfl
  | .imm d :: bs, ds, h => by
    simp only [imms] at h
    obtain ⟨es, e, rfl⟩ := Option.map_eq_some_iff.mp h
    rw [imms_eq e]; rfl
  | .own _ :: _, _, h => by simp [imms] at h
  | .odct _ _ :: _, _, h => by simp [imms] at h
theorem imms_map (ds : List D) : imms (ds.map .imm) = some ds := by
  induction ds with
  | nil => rfl
  | cons d ds ih => simp [imms, ih]
theorem RepBs_imm' {A : Addr → Prop} {own : Own} {i : Nat} {p : List Nat} : ∀ {n : Nat} {ds : List D} {vs : List V}, RepBs mg A own H i p n (ds.map .imm) vs → Reps mg A H ds vs
  | _, [], vs, h => by simp only [List.map_nil, RepBs] at h; subst h; exact .nil
  | n, d :: ds, vs, h => by
    simp only [List.map_cons, RepBs, RepB] at h
    obtain ⟨x, xs, rfl, h1, h2⟩ := h
    exact .cons h1 (RepBs_imm' h2)
theorem RepBs.setImm {A : Addr → Prop} {own : Own} {i : Nat} {p : List Nat} {d : D} {v : V} : ∀ {n : Nat} {bs : List B} {xs : List V} {k : Nat}, RepBs mg A own H i p n bs xs → Rep mg A H d v → RepBs mg A own H i p n (bs.set k (.imm d)) (xs.set k v)
  | n, [], xs, k, r, h => by simp only [RepBs] at r; subst r; simp [RepBs]
  | n, c :: cs, xs, 0, r, h => by
    simp only [RepBs] at r
    obtain ⟨y, ys, rfl, h1, h2⟩ := r
    simp only [List.set_cons_zero, RepBs, RepB]
    exact ⟨v, ys, rfl, h, h2⟩
  | n, c :: cs, xs, k + 1, r, h => by
    simp only [RepBs] at r
    obtain ⟨y, ys, rfl, h1, h2⟩ := r
    simp only [List.set_cons_succ, RepBs]
    exact ⟨y, ys.set k v, rfl, h1, RepBs.setImm h2 h⟩
end

/-! ### append, extend, pop, x[k] = e -/
/-- what a method does to a list: from its items and the arguments, the answer and the new items -/
abbrev Chg := List B → List D → Option (D × List B)
def chApp : Chg := fun bs as => match as with
  | [d] => if bs.length < sizeLine then some (.non, bs ++ [.imm d]) else none
  | _ => none
def chExt : Chg := fun bs as => match as with
  | [.lst ds] => if bs.length + ds.length ≤ sizeLine then some (.non, bs ++ ds.map .imm) else none
  | _ => none
def chPop : Chg := fun bs as => match as with
  | [] => (match imms bs with
    | some ds => (match ds[ds.length - 1]? with
      | some d => some (d, ds.dropLast.map .imm)
      | none => none)
    | none => none)
  | _ => none
def chPopAt : Chg := fun bs as => match as with
  | [.int k] => if -(2 ^ 63) ≤ k ∧ k < 2 ^ 63 then (match imms bs, seqIndex? k bs.length with
    | some ds, some j => (match ds[j]? with
      | some d => some (d, (ds.eraseIdx j).map .imm)
      | none => none)
    | _, _ => none) else none
  | _ => none
/-- r is what a method asks; ch what it does -/
def ChgD (mg : Gx) (r : V → List V → Hp → VK → Prop) (ch : Chg) : Prop :=
  ∀ (M : Addr → Prop) (own : Own) (H : Hp) (i : Nat) (p : List Nat) (a : Addr) (xs ys : List V) (bs bs' : List B) (ds : List D) (z : D) (Q : VK), own a = some (.slot i p) → H a = some (.lst xs) → RepBs mg (fb M own) own H i p 0 bs xs → Reps mg (fb M own) H ds ys → ch bs ds = some (z, bs') →
    (∀ v xs', RepBs mg (fb M own) own (upd H a (.lst xs')) i p 0 bs' xs' → Rep mg (fb M own) (upd H a (.lst xs')) z v → Q v (upd H a (.lst xs'))) → r (.ref a) ys H Q
section
variable {mg : Gx}
theorem chd_app : ChgD mg rAppend chApp := fun M own H i p a xs ys bs bs' ds z Q ho hx hb hd hc k => by
  unfold chApp at hc
  split at hc
  · rename_i d
    split at hc
    · rename_i hl
      cases hc
      simp only [Reps] at hd
      obtain ⟨v, _, rfl, r, rfl⟩ := hd
      refine ⟨a, xs, v, rfl, rfl, hx, by rw [RepBs_len hb]; exact hl, k _ _ ?_ (by simp [Rep])⟩
      exact (RepBs.kids ho hb).snoc (by simp only [RepB]; exact r.ext (ext_own ho))
    · cases hc
  · cases hc
theorem RepBs.appendImm {A : Addr → Prop} {own : Own} {H : Hp} {i : Nat} {p : List Nat} {n : Nat} : ∀ {es : List D} {bs : List B} {xs zs : List V}, RepBs mg A own H i p n bs xs → Reps mg A H es zs → RepBs mg A own H i p n (bs ++ es.map .imm) (xs ++ zs)
  | [], bs, xs, zs, r, h => by simp only [Reps] at h; subst h; simpa using r
  | e :: es, bs, xs, zs, r, h => by
    simp only [Reps] at h
    obtain ⟨v, vs, rfl, h1, h2⟩ := h
    have r' := RepBs.appendImm (es := es) (RepBs.snoc (b := .imm e) (v := v) r (by simp only [RepB]; exact h1)) h2
    simpa using r'
theorem chd_ext : ChgD mg rExtend chExt := fun M own H i p a xs ys bs bs' ds z Q ho hx hb hd hc k => by
  unfold chExt at hc
  split at hc
  · rename_i es
    split at hc
    · rename_i hl
      cases hc
      simp only [Reps, Rep] at hd
      obtain ⟨v, _, rfl, ⟨b, zs, rfl, nb, hz, rz⟩, rfl⟩ := hd
      refine ⟨a, b, xs, zs, rfl, rfl, hx, hz, by rw [RepBs_len hb, rz.length]; exact hl, k _ _ ?_ (by simp [Rep])⟩
      exact (RepBs.kids ho hb).appendImm (rz.ext (ext_own ho))
    · cases hc
  · cases hc
theorem Reps.dropLast {A : Addr → Prop} {H : Hp} {ds : List D} {vs : List V} (h : Reps mg A H ds vs) : Reps mg A H ds.dropLast vs.dropLast := by
  rw [List.dropLast_eq_take, List.dropLast_eq_take, h.length]
  exact h.take _
theorem Reps.eraseIdx {A : Addr → Prop} {H : Hp} {ds : List D} {vs : List V} (k : Nat) (h : Reps mg A H ds vs) : Reps mg A H (ds.eraseIdx k) (vs.eraseIdx k) := by
  rw [List.eraseIdx_eq_take_drop_succ, List.eraseIdx_eq_take_drop_succ]
  exact (h.take _).append (h.drop _)
theorem chd_pop : ChgD mg rPop chPop := fun M own H i p a xs ys bs bs' ds z Q ho hx hb hd hc k => by
  unfold chPop at hc
  split at hc
  · split at hc
    · rename_i es e1
      split at hc
      · rename_i d e2
        cases hc
        have eb := imms_eq e1
        subst eb
        have rs := RepBs_imm' hb
        simp only [Reps] at hd; subst hd
        obtain ⟨v, q1, q2⟩ := rs.get e2
        refine ⟨a, xs, v, rfl, rfl, hx, by rw [rs.length]; exact q1, k _ _ (RepBs_imm (rs.dropLast.ext (ext_own ho))) (q2.ext (ext_own ho))⟩
      · cases hc
    · cases hc
  · cases hc
theorem chd_popAt : ChgD mg rPopAt chPopAt := fun M own H i p a xs ys bs bs' ds z Q ho hx hb hd hc k => by
  unfold chPopAt at hc
  split at hc
  · split at hc
    · rename_i hk
      split at hc
      · rename_i es j e1 e2
        split at hc
        · rename_i d e3
          cases hc
          have eb := imms_eq e1
          subst eb
          have rs := RepBs_imm' hb
          simp only [Reps, Rep] at hd
          obtain ⟨u, _, rfl, rfl, rfl⟩ := hd
          obtain ⟨v, q1, q2⟩ := rs.get e3
          refine ⟨a, xs, _, j, v, rfl, rfl, hx, hk.1, hk.2, by rw [RepBs_len hb]; exact e2, q1, k _ _ (RepBs_imm ((rs.eraseIdx j).ext (ext_own ho))) (q2.ext (ext_own ho))⟩
        · cases hc
      · cases hc
    · cases hc
  · cases hc
end
/-- P.m(quiet arguments) -/
def fChg (i : Nat) (f : FP) (fa : FQA) (ch : Chg) : FE := fun ρ => match f ρ, fa ρ with
  | some (p, .own bs), some ds => (match ch bs ds with
    | some (z, bs') => (match setB i p (.own bs') ρ with
      | some ρ' => some (z, ρ')
      | none => none)
    | none => none)
  | _, _ => none
/-- x.m(arguments that may change things) -/
def fChgN (i : Nat) (fa : FA) (ch : Chg) : FE := fun ρ => match ρ[i]? with
  | some (.box _ (.own _)) => (match fa ρ with
    | some (ds, ρ1) => fChg i (fpN i) (fun _ => some ds) ch ρ1
    | none => none)
  | _ => none
section
variable {X : Cx} {o e : Expr} {es : List Expr} {i : Nat} {fp : FP} {fa : FQA} {fr : FA} {ch : Chg} {T id : String} {name : Str} {apos cpos : Pos} {r : V → List V → Hp → VK → Prop}
theorem cE_chg {mg : Gx} {K : PySem.W.Frag} (hp : POk i fp) (hg : ChgD mg r ch) : ∀ σ H Q, cE mg (fChg i fp fa ch) σ H Q → tBM K "list" r (cP mg i fp) (cQA mg fa) σ H Q := by
  intro σ H Q ⟨Bs, M, own, ρ, d, ρ', R, h, k⟩
  unfold fChg at h
  split at h
  · rename_i p bs ds e1 e2
    split at h
    · rename_i z bs' e3
      split at h
      · rename_i ρ1 e4
        cases h
        refine ⟨Bs, M, own, ρ, _, _, R, e1, fun v H1 s1 r1 => ?_⟩
        have R1 := R.same s1
        have r1' := r1
        simp only [RepB] at r1
        obtain ⟨a, xs, rfl, ho, ha, hb⟩ := r1
        refine ⟨.inl ⟨rfl, xs, .inl (.inl ha)⟩, Bs, M, own, ρ, _, R1, e2, fun ys H2 s2 r2 => ?_⟩
        have R2 := R1.same s2
        have r2' := r1'.same s2 R1.there
        simp only [RepB] at r2'
        obtain ⟨a', xs', ea, ho', ha', hb'⟩ := r2'
        cases ea
        refine hg M own H2 i p a xs' ys bs bs' ds _ Q ho' ha' hb' r2 e3 fun v' xs'' nb nr => ?_
        obtain ⟨R3, G3⟩ := R2.put (hp ρ p _ e1) ho' nb e4
        exact k v' _ own ((R.goSame (s1.trans s2)).trans G3) R3 nr
      · cases h
    · cases h
  · cases h
theorem cE_chg0 {mg : Gx} {K : PySem.W.Frag} (hp : POk i fp) (hg : ChgD mg r ch) : ∀ σ H Q, cE mg (fChg i fp qNil ch) σ H Q → tBM0 K "list" r (cP mg i fp) σ H Q := by
  intro σ H Q ⟨Bs, M, own, ρ, d, ρ', R, h, k⟩
  unfold fChg at h
  split at h
  · rename_i p bs ds e1 e2
    cases e2
    split at h
    · rename_i z bs' e3
      split at h
      · rename_i ρ1 e4
        cases h
        refine ⟨Bs, M, own, ρ, _, _, R, e1, fun v H1 s1 r1 => ?_⟩
        have R1 := R.same s1
        simp only [RepB] at r1
        obtain ⟨a, xs, rfl, ho, ha, hb⟩ := r1
        refine ⟨.inl ⟨rfl, xs, .inl (.inl ha)⟩, ?_⟩
        refine hg M own H1 i p a xs [] bs bs' [] _ Q ho ha hb .nil e3 fun v' xs'' nb nr => ?_
        obtain ⟨R3, G3⟩ := R1.put (hp ρ p _ e1) ho nb e4
        exact k v' _ own ((R.goSame s1).trans G3) R3 nr
      · cases h
    · cases h
  · cases h
theorem de_chg (pa : PlainAttrs "list") (slot : PySem.Slot "list" name id) (hty : typeOf (.builtin id) = pure (.type "method_descriptor")) (hm : MtR X id r) (hg : ChgD (GX X) r ch) (hp : POk i fp) (ho : DP X o i fp) (ha : DQA X (e :: es) fa)
    (hbase : attributeBase o name X.env (eval o X.env) = eval o X.env := by rfl)
    (hfew : ((backTo cpos (starEach (e :: es) X.env)).all (fun x => !x.1) && (backToKw cpos (keywordEach [] X.env)).all (fun x => x.1.isSome)
      && decide ((e :: es).length + ([] : List Keyword).length + (if ([] : List Keyword).isEmpty then 0 else 1) < 30)) = true := by rfl)
    (hline : (apos.endLine == cpos.line) = true := by rfl) (hs : starEach (e :: es) X.env = (false, eval e X.env) :: starEach es X.env := by rfl) (hplain : (backTo cpos (starEach es X.env)).any (·.1) = false := by rfl) :
    DE X (.Call (.Attribute o name apos) (e :: es) [] cpos) (fChg i fp fa ch) := weakE (pe_bm pa slot hty hm ho ha hbase hfew hline hs hplain) (cE_chg hp hg)
theorem de_chg0 (pa : PlainAttrs "list") (slot : PySem.Slot "list" name id) (hty : typeOf (.builtin id) = pure (.type "method_descriptor")) (hm : MtR X id r) (hg : ChgD (GX X) r ch) (hp : POk i fp) (ho : DP X o i fp)
    (hbase : attributeBase o name X.env (eval o X.env) = eval o X.env := by rfl) (hline : (apos.endLine == cpos.line) = true := by rfl) : DE X (.Call (.Attribute o name apos) [] [] cpos) (fChg i fp qNil ch) := weakE (pe_bm0 pa slot hty hm ho hbase hline) (cE_chg0 hp hg)
theorem de_chgN {x : Str} {npos : Pos} (pa : PlainAttrs "list") (slot : PySem.Slot "list" name id) (hty : typeOf (.builtin id) = pure (.type "method_descriptor")) (hm : MtR X id r) (hg : ChgD (GX X) r ch) (i : Nat) (ha : DA X (e :: es) fr) (hN : X.N[i]? = some x := by rfl) (hv : Vis X.env.scope x := by first | exact Or.inl rfl | exact Or.inr (Or.inl rfl) | exact Or.inr (Or.inr rfl)) (hd : (x == ("__debug__" : Str)) = false := by decide)
    (hcd : (x == ("__classdict__" : Str)) = false := by decide)
    (hbase : attributeBase (.Name x npos) name X.env (eval (.Name x npos) X.env) = eval (.Name x npos) X.env := by rfl)
    (hfew : ((backTo cpos (starEach (e :: es) X.env)).all (fun x => !x.1) && (backToKw cpos (keywordEach [] X.env)).all (fun x => x.1.isSome)
      && decide ((e :: es).length + ([] : List Keyword).length + (if ([] : List Keyword).isEmpty then 0 else 1) < 30)) = true := by rfl)
    (hline : (apos.endLine == cpos.line) = true := by rfl) (hs : starEach (e :: es) X.env = (false, eval e X.env) :: starEach es X.env := by rfl) (hplain : (backTo cpos (starEach es X.env)).any (·.1) = false := by rfl) :
    DE X (.Call (.Attribute (.Name x npos) name apos) (e :: es) [] cpos) (fChgN i fr ch) := weakE (pe_bm pa slot hty hm (pe_var hN hv hd hcd) ha hbase hfew hline hs hplain) fun σ H Q ⟨Bs, M, own, ρ, d, ρ', R, h, k⟩ => by
  unfold fChgN at h
  split at h
  · rename_i b bs0 e0
    split at h
    · rename_i ds ρ1 e1
      obtain ⟨w, q1, v, q2, r0⟩ := R.at e0
      subst q2
      have r0' := r0
      simp only [RepB] at r0
      obtain ⟨a, xs, rfl, ho, hxa, hb⟩ := r0
      refine ⟨.ref a, q1, .inl ⟨rfl, xs, .inl (.inl hxa)⟩, Bs, M, own, ρ, _, _, R, e1, fun ys H1 own1 G1 R1 r1 => ?_⟩
      unfold fChg at h
      split at h
      · rename_i p bs ds' e2 e3
        cases e3
        split at h
        · rename_i z bs' e4
          split at h
          · rename_i ρ2 e5
            cases h
            have e2' := e2
            unfold fpN at e2
            split at e2
            · rename_i ob b1 e6
              cases e2
              obtain ⟨u, eu, r2⟩ := R1.slots i _ _ e6 q1
              cases eu
              simp only [RepB] at r2
              obtain ⟨a', xs', ea, ho', ha', hb'⟩ := r2
              cases ea
              refine hg M own1 H1 i [] a xs' ys bs bs' ds _ Q ho' ha' hb' r1 e4 fun v' xs'' nb nr => ?_
              obtain ⟨R3, G3⟩ := R1.put (pok_n ρ1 [] _ e2') ho' nb e5
              exact k v' _ own1 (G1.trans G3) R3 nr
            · cases e2
          · cases h
        · cases h
      · cases h
    · cases h
  · cases h
end
/-- P[k] = e -/
def fPut (i : Nat) (fe : FE) (fp : FP) (fk : FQ) : FS := fun ρ => match fe ρ with
  | some (d, ρ1) => (match fp ρ1, fk ρ1 with
    | some (p, .own bs), some (.int k) => (match ixN bs.length k with
      | some j => (match setB i p (.own (bs.set j (.imm d))) ρ1 with
        | some ρ2 => some (.nx ρ2)
        | none => none)
      | none => none)
    | _, _ => none)
  | none => none
theorem ds_put {X : Cx} {o q e : Expr} {i : Nat} {fe : FE} {fp : FP} {fk : FQ} {spos pos : Pos} (he : DE X e fe) (ho : DP X o i fp) (hp : POk i fp) (hk : DQ X q fk)
    (ha : ∀ v, assign (.Subscript o q spos) X.env v = (do
      let ov ← holding [v] (eval o X.env)
      let iv ← holding [v, ov] (eval q X.env)
      standAt spos
      holding [v, ov, iv] (setItem ov iv v)
      release [v, ov, iv] []) := by intro _; rfl)
    (hs : swapsWithSole [.Subscript o q spos] e pos.line X.env = pure false := by rfl) (hw : swappedStores [.Subscript o q spos] e X.env = pure none := by rfl)
    (h1 : (assignEach [.Subscript o q spos] X.env).map (·.2) = [assign (.Subscript o q spos) X.env] := by rfl) : DS X (.Assign [.Subscript o q spos] e pos) (fPut i fe fp fk) :=
  weakS (ps_asg he (pg_sub ho hk set_list ha) hs hw h1) fun Dn σ H ⟨Bs, M, own, ρ, out, R, h, pp⟩ => by
    unfold fPut at h
    split at h
    · rename_i d ρ1 e1
      split at h
      · rename_i p bs k e2 e3
        split at h
        · rename_i j e4
          split at h
          · rename_i ρ2 e5
            cases h
            refine ⟨Bs, M, own, ρ, _, _, R, e1, fun v H1 own1 G1 R1 r1 => ?_⟩
            refine ⟨Bs, M, own1, ρ1, _, _, R1, e2, fun w H2 s2 r2 => ?_⟩
            have R2 := R1.same s2
            refine ⟨Bs, M, own1, ρ1, _, R2, e3, fun u H3 s3 r3 => ?_⟩
            have R3 := R2.same s3
            have r2' := r2.same s3 R2.there
            simp only [RepB] at r2'
            simp only [Rep] at r3
            obtain ⟨a, xs, rfl, hoa, ha', hb⟩ := r2'
            refine ⟨a, xs, k, j, rfl, r3, ha', by rw [RepBs_len hb]; exact e4, ?_⟩
            have rv := (r1.ext (Same.ext s2)).ext (Same.ext (A := fb M own1) s3)
            obtain ⟨R4, G4⟩ := R3.put (hp ρ1 p _ e2) hoa (RepBs.setImm (k := j) (RepBs.kids hoa hb) (rv.ext (ext_own hoa))) e5
            exact pp σ _ own1 ((G1.trans (R1.goSame (s2.trans s3))).trans G4) R4
          · cases h
        · cases h
      · cases h
    · cases h

/-! ### x = [..], to be changed -/
def fBox (i : Nat) (fa : FA) : FS := fun ρ => match fa ρ with
  | some (ds, ρ1) => if ds.length ≤ sizeLine then some (.nx (ρ1.set i (.box false (.own (ds.map .imm))))) else none
  | none => none
section
variable {X : Cx} {es : List Expr} {x : Str} {fa : FA} {pos lpos pos' : Pos}
theorem ds_box {i : Nat} (hN : X.N.Nodup) (hi : X.N[i]? = some x) (hx : Loc X.env.scope x) (h : DA X es fa) (hs : swapsWith (.List es lpos) (some (.Name x pos')) pos.line X.env = pure false := by rfl) (hf : X.fn x = true ∨ X.env.scope.names.lookup x = some .local := by first | exact .inl rfl | exact .inr rfl | assumption) :
    DS X (.Assign [.Name x pos'] (.List es lpos) pos) (fBox i fa) := weakS (ps_set hN hi hx (pe_lst h) hs hf) fun Dn σ H ⟨Bs, M, own, ρ, o, R, e, p⟩ => by
  unfold fBox at e
  split at e
  · rename_i ds ρ1 e1
    split at e
    · rename_i hl
      cases e
      refine ⟨Bs, M, own, ρ, _, _, R, e1, fun vs H1 own1 G1 R1 r1 => ⟨by rw [r1.length]; exact hl, fun a ha => ?_⟩⟩
      obtain ⟨R2, G2⟩ := R1.setBox (i := i) ha r1
      exact p _ _ _ (G1.trans G2) R2
    · cases e
  · cases e
end
end DL
end

section
set_option Elab.async false
set_option linter.all false
set_option maxRecDepth 100000
/-! DL8: defs that change boxes handed in; index, slices -/
namespace DL
open PySem PySem.Spec PyProof.Rows L2

/-! ### a box under another owner's name -/
section
variable {mg : Gx} {A A' : Addr → Prop} {own own' : Own} {H H' : Hp} {i j : Nat}
mutual
theorem RepB.remap (x : Ext A H A' H') (k : ∀ a p, own a = some (.slot i p) → own' a = some (.slot j p) ∧ H' a = H a) : ∀ {p : List Nat} {b : B} {v : V}, RepB mg A own H i p b v → RepB mg A' own' H' j p b v
  | _, .imm d, v, h => by simp only [RepB] at h ⊢; exact h.ext x
  | p, .own bs, v, h => by
    simp only [RepB] at h ⊢
    obtain ⟨a, xs, e, o, r, t⟩ := h
    obtain ⟨o', r'⟩ := k a p o
    exact ⟨a, xs, e, o', by rw [r']; exact r, RepBs.remap x k t⟩
  | p, .odct ks ds, v, h => by
    simp only [RepB] at h ⊢
    obtain ⟨a, xs, e, o, r, hk, t⟩ := h
    obtain ⟨o', r'⟩ := k a p o
    exact ⟨a, xs, e, o', by rw [r']; exact r, hk, t.ext x⟩
theorem RepBs.remap (x : Ext A H A' H') (k : ∀ a p, own a = some (.slot i p) → own' a = some (.slot j p) ∧ H' a = H a) : ∀ {p : List Nat} {n : Nat} {bs : List B} {vs : List V}, RepBs mg A own H i p n bs vs → RepBs mg A' own' H' j p n bs vs
  | _, _, [], vs, h => by simpa only [RepBs] using h
  | p, n, b :: bs, vs, h => by
    simp only [RepBs] at h ⊢
    obtain ⟨y, ys, e, h1, h2⟩ := h
    exact ⟨y, ys, e, RepB.remap x k h1, RepBs.remap x k h2⟩
end
end

/-! ### the promise of a def that changes boxes handed in -/
def spIO (mg : Gx) (g : List Slot → Option (D × List Slot)) : Sp := fun vs H Q _ => ∃ (Bs : Fx) (M : Addr → Prop) (own : Own) (ρ : List Slot) (d : D) (ρ' : List Slot), RE mg Bs M own H ρ (vs.map some) ∧ g ρ = some (d, ρ') ∧
  ∀ v H' own', Go M own H own' H' → RE mg Bs M own' H' ρ' (vs.map some) → Rep mg (fb M own') H' d v → Q v H'
/-- what is left of the arguments: the values as they were, the boxes as they are -/
def keepArgs : List Slot → List Slot → Option (List Slot)
  | [], _ => some []
  | .val d :: as, _ :: bs => (keepArgs as bs).map (.val d :: ·)
  | .box true _ :: as, .box true b :: bs => (keepArgs as bs).map (.box true b :: ·)
  | _, _ => none
def fnIO (n m : Nat) (F : FS) : List Slot → Option (D × List Slot) := fun ρ => if ρ.length = m then (match F (ρ ++ List.replicate (n - m) .un) with
  | some (.rt d ρ') => (match keepArgs ρ ρ' with
    | some r => some (d, r)
    | none => none)
  | some (.nx ρ') => (match keepArgs ρ ρ' with
    | some r => some (.non, r)
    | none => none)
  | _ => none) else none
theorem keepArgs_get : ∀ {as bs r : List Slot}, keepArgs as bs = some r → r.length = as.length ∧ ∀ (j : Nat) s, r[j]? = some s → (∃ d, s = .val d ∧ as[j]? = some (.val d)) ∨ (∃ b b', s = .box true b ∧ as[j]? = some (.box true b') ∧ bs[j]? = some (.box true b))
  | [], bs, r, h => by simp [keepArgs] at h; subst h; simp
  | .val d :: as, [], r, h => by simp [keepArgs] at h
  | .val d :: as, b :: bs, r, h => by
    simp only [keepArgs] at h
    obtain ⟨r', e, rfl⟩ := Option.map_eq_some_iff.mp h
    obtain ⟨h1, h2⟩ := keepArgs_get e
    refine ⟨by simp [h1], fun j s e => ?_⟩
    cases j with
    | zero => simp at e; subst e; exact .inl ⟨d, rfl, by simp⟩
    | succ j => simpa using h2 j s (by simpa using e)
  | .box true c :: as, [], r, h => by simp [keepArgs] at h
  | .box true c :: as, .box true b :: bs, r, h => by
    simp only [keepArgs] at h
    obtain ⟨r', e, rfl⟩ := Option.map_eq_some_iff.mp h
    obtain ⟨h1, h2⟩ := keepArgs_get e
    refine ⟨by simp [h1], fun j s e => ?_⟩
    cases j with
    | zero => simp at e; subst e; exact .inr ⟨b, c, rfl, by simp, by simp⟩
    | succ j => simpa using h2 j s (by simpa using e)
  | .box true c :: as, .box false b :: bs, r, h => by simp [keepArgs] at h
  | .box true c :: as, .un :: bs, r, h => by simp [keepArgs] at h
  | .box true c :: as, .val _ :: bs, r, h => by simp [keepArgs] at h
  | .box false c :: as, bs, r, h => by simp [keepArgs] at h
  | .un :: as, bs, r, h => by simp [keepArgs] at h
/-- only the boxes of the first m slots -/
def firsts (m : Nat) (own : Own) : Own := fun a => match own a with
  | some (.slot j p) => if j < m then some (.slot j p) else none
  | o => o
theorem of_firsts {m : Nat} {own : Own} {a : Addr} {o : Owner} (h : firsts m own a = some o) : own a = some o := by
  unfold firsts at h
  split at h
  · rename_i j p e
    split at h
    · cases h; exact e
    · cases h
  · exact h
theorem firsts_lt {m j : Nat} {own : Own} {a : Addr} {p : List Nat} (h : own a = some (.slot j p)) (hj : j < m) : firsts m own a = some (.slot j p) := by
  unfold firsts; rw [h]; simp [hj]
theorem fb_firsts {M : Addr → Prop} {m : Nat} {own : Own} {a : Addr} (h : fb M (firsts m own) a) : fb M own a := by
  rcases h with h | h
  · exact .inl h
  · obtain ⟨o, e⟩ := Option.isSome_iff_exists.mp h
    exact .inr (by rw [of_firsts e]; rfl)
section
variable {P : Program} {w : World} {K : PySem.W.Frag} {mg : Str → Option Value} {base : Heap}
theorem RE.keep {mg : Gx} {Bs : Fx} {M : Addr → Prop} {own own' : Own} {H H' : Hp} {ρ ρ' r : List Slot} {vs : List V} {σ' : L2.St} (R : RE mg Bs M own H ρ (vs.map some)) (G : Go M own H own' H') (R' : RE mg Bs M own' H' ρ' σ') (h : keepArgs ρ ρ' = some r) :
    RE mg Bs M (firsts r.length own') H' r (vs.map some) ∧ Go M own H (firsts r.length own') H' := by
  obtain ⟨h1, h2⟩ := keepArgs_get h
  have x : Ext (fb M own') H' (fb M (firsts r.length own')) H' := fun a o e n => ⟨e, fun q => n (fb_firsts q)⟩
  refine ⟨⟨by rw [h1]; exact R.len, R'.base, fun a o e => ?_, R'.mb, fun a e => ?_, fun a c j p e1 e2 => R'.inj a c j p (of_firsts e1) (of_firsts e2), fun j s u e1 e2 => ?_, fun j b u e1 e2 => ?_⟩, G.ext.trans x, fun a p e => ?_, G.dom⟩
  · cases q : firsts r.length own' a with
    | none => rfl
    | some o' => have := of_firsts q; rw [R'.apart a o e] at this; cases this
  · obtain ⟨o, q⟩ := Option.isSome_iff_exists.mp e
    exact R'.there a (by rw [of_firsts q]; rfl)
  · rcases h2 j s e1 with ⟨d, rfl, e3⟩ | ⟨b, b', rfl, e3, e4⟩
    · obtain ⟨v, ev, rv⟩ := R.slots j _ u e3 e2
      exact ⟨v, ev, (rv.ext G.ext).ext x⟩
    · obtain ⟨a, ea, pa⟩ := R.pins j b' u e3 e2
      obtain ⟨u', e5, ok⟩ := R'.at e4
      obtain ⟨a', ea', pa'⟩ := R'.pins j b u' e4 e5
      rw [pa] at pa'; cases pa'
      obtain ⟨v, ev, rv⟩ := ok
      rw [ea'] at ev; cases ev
      have hj : j < r.length := (List.getElem?_eq_some_iff.mp e1).1
      exact ⟨_, ea, rv.ext x fun c p e => ⟨firsts_lt e hj, rfl⟩⟩
  · rcases h2 j _ e1 with ⟨d, e, e3⟩ | ⟨b, b', e, e3, e4⟩
    · cases e
    · exact R.pins j b' u e3 e2
  · obtain ⟨e1, e2⟩ := G.tmp a p e
    exact ⟨by unfold firsts; rw [e1], e2⟩
/-- THE RULE for a def that changes boxes handed in -/
theorem fn_okIO {x qual : Str} {st : Stmt} {f : Addr} {fd : FuncData} {N ps : List Str} {k n m : Nat} {F : FS} (Fu : Fun K x qual st f fd) (S : FnScope N ps (defScope st)) (hn : N.length = n) (hm : ps.length = m) (hle : m ≤ n)
    (body : ∀ (cdv : Value) (A : Around) (outer : List Env) (s : Shared) (H : Hp) (E : XK), Room k (A.deeper (envOfC qual (defScope st) s.heap.objs.size f cdv)) →
      DSs (cxOf CX0 P w K mg base N qual (defScope st) f cdv A outer s H E).nox (defBody st) F) : FnOk P w K mg base CX0 (k + 1) f fd ps (spIO ⟨mg, K⟩ (fnIO n m F)) := by
  refine Fu.ok S (fun vs H Q E h => ?_) (fun cdv A outer s H vs Q E hr h => ?_)
  · obtain ⟨Bs, M, own, ρ, d, ρ', R, e, q⟩ := h
    unfold fnIO at e
    split at e
    · rename_i z
      have := R.len
      rw [List.length_map] at this
      rw [← this, z, hm]
    · cases e
  · obtain ⟨Bs, M, own, ρ, d, ρ', R, e, q⟩ := h
    refine ⟨_, body cdv A outer s H E hr, ?_⟩
    unfold fnIO at e
    split at e
    · rename_i z
      have hvl : vs.length = m := by have := R.len; rw [List.length_map] at this; omega
      -- the slots at the entry
      have R0 : RE ⟨mg, K⟩ Bs M own H (ρ ++ List.replicate (n - m) .un) (L2.start N vs) := by
        have st_lt : ∀ j, j < m → (L2.start N vs)[j]? = (vs.map some)[j]? := fun j hj => by
          unfold L2.start
          rw [List.getElem?_append_left (by rw [List.length_map]; omega)]
        refine ⟨?_, R.base, R.apart, R.mb, R.there, R.inj, fun j s' u e1 e2 => ?_, fun j b u e1 e2 => ?_⟩
        · rw [start_at (by omega), List.length_append, List.length_replicate]; omega
        · by_cases hj : j < m
          · rw [List.getElem?_append_left (by omega)] at e1
            rw [st_lt j hj] at e2
            exact R.slots j s' u e1 e2
          · rw [List.getElem?_append_right (by omega), List.getElem?_replicate] at e1
            split at e1
            · cases e1; trivial
            · cases e1
        · by_cases hj : j < m
          · rw [List.getElem?_append_left (by omega)] at e1
            rw [st_lt j hj] at e2
            exact R.pins j b u e1 e2
          · rw [List.getElem?_append_right (by omega), List.getElem?_replicate] at e1
            split at e1 <;> cases e1
      have fin : ∀ {ρ1 r : List Slot} {d : D} {v : V} {σ' : L2.St} {H' : Hp} {own' : Own}, keepArgs ρ ρ1 = some r → Go M own H own' H' → RE ⟨mg, K⟩ Bs M own' H' ρ1 σ' → Rep ⟨mg, K⟩ (fb M own') H' d v →
          ∃ own'', Go M own H own'' H' ∧ RE ⟨mg, K⟩ Bs M own'' H' r (vs.map some) ∧ Rep ⟨mg, K⟩ (fb M own'') H' d v := fun {ρ1 r d v σ' H' own'} hk G R' rr => by
        obtain ⟨R2, G2⟩ := R.keep G R' hk
        exact ⟨_, G2, R2, rr.ext fun a o e n => ⟨e, fun q => n (fb_firsts q)⟩⟩
      split at e
      · rename_i d' ρ1 e'
        split at e
        · rename_i r ek
          cases e
          refine ⟨_, _, _, _, _, R0, e', fun v σ' H' own' G R' r' => ?_⟩
          obtain ⟨own'', g, rr, rp⟩ := fin ek G R' r'
          exact q v H' own'' g rr rp
        · cases e
      · rename_i ρ1 e'
        split at e
        · rename_i r ek
          cases e
          refine ⟨_, _, _, _, _, R0, e', fun σ' H' own' G R' => ?_⟩
          obtain ⟨own'', g, rr, rp⟩ := fin (d := .non) (v := .non) ek G R' (by simp [Rep])
          exact q .non H' own'' g rr rp
        · cases e
      · cases e
    · cases e
end

/-! ### its call -/
inductive AK where
  | sl (i : Nat) | v (d : D)
abbrev FAK := List Slot → Option (List AK × List Slot)
def AKs (mg : Gx) (σ : L2.St) (A : Addr → Prop) (H : Hp) : List AK → List V → Prop
  | [], vs => vs = []
  | .sl i :: as, vs => ∃ x xs, vs = x :: xs ∧ σ[i]? = some (some x) ∧ AKs mg σ A H as xs
  | .v d :: as, vs => ∃ x xs, vs = x :: xs ∧ Rep mg A H d x ∧ AKs mg σ A H as xs
theorem AKs.ext {mg : Gx} {σ : L2.St} {A A' : Addr → Prop} {H H' : Hp} (x : Ext A H A' H') : ∀ {as : List AK} {vs : List V}, AKs mg σ A H as vs → AKs mg σ A' H' as vs
  | [], _, h => h
  | .sl i :: as, vs, ⟨y, ys, e, h1, h2⟩ => ⟨y, ys, e, h1, AKs.ext x h2⟩
  | .v d :: as, vs, ⟨y, ys, e, h1, h2⟩ => ⟨y, ys, e, h1.ext x, AKs.ext x h2⟩
theorem AKs.len {mg : Gx} {σ : L2.St} {A : Addr → Prop} {H : Hp} : ∀ {as : List AK} {vs : List V}, AKs mg σ A H as vs → vs.length = as.length
  | [], _, h => by simp only [AKs] at h; subst h; rfl
  | .sl i :: as, vs, ⟨y, ys, e, h1, h2⟩ => by subst e; simp [AKs.len h2]
  | .v d :: as, vs, ⟨y, ys, e, h1, h2⟩ => by subst e; simp [AKs.len h2]
theorem AKs.get {mg : Gx} {σ : L2.St} {A : Addr → Prop} {H : Hp} : ∀ {as : List AK} {vs : List V} {j : Nat} {k : AK}, AKs mg σ A H as vs → as[j]? = some k → ∃ x, vs[j]? = some x ∧ match k with | .sl i => σ[i]? = some (some x) | .v d => Rep mg A H d x
  | [], _, j, k, h, e => by simp at e
  | .sl i :: as, vs, 0, k, ⟨y, ys, e, h1, h2⟩, ek => by subst e; simp at ek; subst ek; exact ⟨y, by simp, h1⟩
  | .v d :: as, vs, 0, k, ⟨y, ys, e, h1, h2⟩, ek => by subst e; simp at ek; subst ek; exact ⟨y, by simp, h1⟩
  | .sl i :: as, vs, j + 1, k, ⟨y, ys, e, h1, h2⟩, ek => by
    subst e
    obtain ⟨x, q1, q2⟩ := AKs.get (j := j) h2 (by simpa using ek)
    exact ⟨x, by simpa using q1, q2⟩
  | .v d :: as, vs, j + 1, k, ⟨y, ys, e, h1, h2⟩, ek => by
    subst e
    obtain ⟨x, q1, q2⟩ := AKs.get (j := j) h2 (by simpa using ek)
    exact ⟨x, by simpa using q1, q2⟩
def cAK (mg : Gx) (f : FAK) : TA := fun σ H Q => ∃ Bs M own ρ as ρ', RE mg Bs M own H ρ σ ∧ f ρ = some (as, ρ') ∧
  ∀ vs H' own', Go M own H own' H' → RE mg Bs M own' H' ρ' σ → AKs mg σ (fb M own') H' as vs → Q vs H'
abbrev DAK (X : Cx) (es : List Expr) (f : FAK) : Prop := PA X es (cAK (GX X) f)
def akNil : FAK := fun ρ => some ([], ρ)
def akV (fe : FE) (r : FAK) : FAK := fun ρ => match fe ρ with
  | some (d, ρ1) => (match r ρ1 with
    | some (as, ρ2) => some (.v d :: as, ρ2)
    | none => none)
  | none => none
def akS (i : Nat) (r : FAK) : FAK := fun ρ => match ρ[i]? with
  | some (.box _ _) => (match r ρ with
    | some (as, ρ2) => some (.sl i :: as, ρ2)
    | none => none)
  | _ => none
section
variable {X : Cx} {e : Expr} {es : List Expr} {fe : FE} {r : FAK} {x : Str} {pos : Pos}
theorem dak_nil : DAK X [] akNil := weakA pa_nil fun σ H Q ⟨Bs, M, own, ρ, as, ρ', R, h, k⟩ => by
  cases h
  exact k [] H own .refl R rfl
theorem dak_v (ha : DE X e fe) (hr : DAK X es r) (hs : starEach (e :: es) X.env = (false, eval e X.env) :: starEach es X.env := by rfl) : DAK X (e :: es) (akV fe r) := weakA (pa_cons ha hr hs) fun σ H Q ⟨Bs, M, own, ρ, as, ρ', R, h, k⟩ => by
  unfold akV at h
  split at h
  · rename_i d ρ1 e1
    split at h
    · rename_i as' ρ2 e2
      cases h
      refine ⟨Bs, M, own, ρ, _, _, R, e1, fun v H1 own1 G1 R1 r1 => ?_⟩
      refine ⟨Bs, M, own1, _, _, _, R1, e2, fun vs H2 own2 G2 R2 r2 => ?_⟩
      exact k (v :: vs) H2 own2 (G1.trans G2) R2 ⟨v, vs, rfl, r1.ext G2.ext, r2⟩
    · cases h
  · cases h
theorem dak_s (i : Nat) (hr : DAK X es r) (hN : X.N[i]? = some x := by rfl) (hv : Vis X.env.scope x := by first | exact Or.inl rfl | exact Or.inr (Or.inl rfl) | exact Or.inr (Or.inr rfl)) (hd : (x == ("__debug__" : Str)) = false := by decide)
    (hcd : (x == ("__classdict__" : Str)) = false := by decide) (hs : starEach (.Name x pos :: es) X.env = (false, eval (.Name x pos) X.env) :: starEach es X.env := by rfl) : DAK X (.Name x pos :: es) (akS i r) := weakA (pa_cons (pe_var hN hv hd hcd) hr hs) fun σ H Q ⟨Bs, M, own, ρ, as, ρ', R, h, k⟩ => by
  unfold akS at h
  split at h
  · rename_i o b e0
    split at h
    · rename_i as' ρ2 e2
      cases h
      obtain ⟨w, q1, v, q2, r0⟩ := R.at e0
      subst q2
      refine ⟨v, q1, Bs, M, own, ρ, _, _, R, e2, fun vs H2 own2 G2 R2 r2 => ?_⟩
      exact k (v :: vs) H2 own2 G2 R2 ⟨v, vs, rfl, q1, r2⟩
    · cases h
  · cases h
end
def B.isBox : B → Bool
  | .imm _ => false
  | _ => true
/-- the slots that the callee sees -/
def argSlots : List AK → List Slot → Option (List Slot)
  | [], _ => some []
  | .v d :: as, ρ => (argSlots as ρ).map (.val d :: ·)
  | .sl i :: as, ρ => match ρ[i]? with
    | some (.box _ b) => if b.isBox = true then (argSlots as ρ).map (.box true b :: ·) else none
    | _ => none
/-- what the callee left, put back -/
def putBack : List AK → List Slot → List Slot → Option (List Slot)
  | [], [], ρ => some ρ
  | .v _ :: as, _ :: rs, ρ => putBack as rs ρ
  | .sl i :: as, .box true b :: rs, ρ => match ρ[i]? with
    | some (.box o _) => putBack as rs (ρ.set i (.box o b))
    | _ => none
  | _, _, _ => none
def slotsOf : List AK → List Nat
  | [] => []
  | .v _ :: as => slotsOf as
  | .sl i :: as => i :: slotsOf as
def posOf : List AK → Nat → Option Nat
  | [], _ => none
  | .v _ :: as, i => (posOf as i).map (· + 1)
  | .sl k :: as, i => if k = i then some 0 else (posOf as i).map (· + 1)
def fIO (g : List Slot → Option (D × List Slot)) (fa : FAK) : FE := fun ρ => match fa ρ with
  | some (as, ρ1) => if (slotsOf as).Nodup then (match argSlots as ρ1 with
    | some ρc => (match g ρc with
      | some (d, rc) => (match putBack as rc ρ1 with
        | some ρ2 => some (d, ρ2)
        | none => none)
      | none => none)
    | none => none) else none
  | none => none
theorem posOf_get : ∀ {as : List AK} {i j : Nat}, posOf as i = some j → as[j]? = some (.sl i)
  | [], _, _, h => by simp [posOf] at h
  | .v _ :: as, i, j, h => by
    simp only [posOf] at h
    obtain ⟨j', e, rfl⟩ := Option.map_eq_some_iff.mp h
    simpa using posOf_get e
  | .sl k :: as, i, j, h => by
    simp only [posOf] at h
    split at h
    · rename_i e; cases h; subst e; simp
    · obtain ⟨j', e, rfl⟩ := Option.map_eq_some_iff.mp h
      simpa using posOf_get e
theorem mem_slotsOf : ∀ {as : List AK} {i j : Nat}, as[j]? = some (.sl i) → i ∈ slotsOf as
  | [], _, _, h => by simp at h
  | .v _ :: as, i, 0, h => by simp at h
  | .v _ :: as, i, j + 1, h => by simpa [slotsOf] using mem_slotsOf (as := as) (i := i) (j := j) (by simpa using h)
  | .sl k :: as, i, 0, h => by simp at h; subst h; simp [slotsOf]
  | .sl k :: as, i, j + 1, h => by
    simp only [slotsOf]
    exact List.mem_cons_of_mem _ (mem_slotsOf (as := as) (i := i) (j := j) (by simpa using h))
theorem posOf_of : ∀ {as : List AK} {i j : Nat}, (slotsOf as).Nodup → as[j]? = some (.sl i) → posOf as i = some j
  | [], _, _, _, h => by simp at h
  | .v _ :: as, i, 0, _, h => by simp at h
  | .v _ :: as, i, j + 1, n, h => by
    simp only [posOf, posOf_of (as := as) (i := i) (j := j) n (by simpa using h)]
    rfl
  | .sl k :: as, i, 0, n, h => by simp at h; subst h; simp [posOf]
  | .sl k :: as, i, j + 1, n, h => by
    simp only [slotsOf] at n
    have h' : as[j]? = some (.sl i) := by simpa using h
    have hm := mem_slotsOf h'
    have ne : k ≠ i := fun e => (List.nodup_cons.mp n).1 (e ▸ hm)
    simp only [posOf, ne, if_false, posOf_of (as := as) (i := i) (j := j) (List.nodup_cons.mp n).2 h']
    rfl
theorem argSlots_get : ∀ {as : List AK} {ρ ρc : List Slot}, argSlots as ρ = some ρc → ρc.length = as.length ∧ ∀ (j : Nat) s, ρc[j]? = some s → (∃ d, s = .val d ∧ as[j]? = some (.v d)) ∨ ∃ i o b, s = .box true b ∧ as[j]? = some (.sl i) ∧ ρ[i]? = some (.box o b) ∧ b.isBox = true
  | [], ρ, ρc, h => by simp [argSlots] at h; subst h; simp
  | .v d :: as, ρ, ρc, h => by
    simp only [argSlots] at h
    obtain ⟨r, e, rfl⟩ := Option.map_eq_some_iff.mp h
    obtain ⟨h1, h2⟩ := argSlots_get e
    refine ⟨by simp [h1], fun j s e => ?_⟩
    cases j with
    | zero => simp at e; subst e; exact .inl ⟨d, rfl, by simp⟩
    | succ j => simpa using h2 j s (by simpa using e)
  | .sl i :: as, ρ, ρc, h => by
    simp only [argSlots] at h
    split at h
    · rename_i o b e0
      split at h
      · rename_i hb
        obtain ⟨r, e, rfl⟩ := Option.map_eq_some_iff.mp h
        obtain ⟨h1, h2⟩ := argSlots_get e
        refine ⟨by simp [h1], fun j s e => ?_⟩
        cases j with
        | zero => simp at e; subst e; exact .inr ⟨i, o, b, rfl, by simp, e0, hb⟩
        | succ j => simpa using h2 j s (by simpa using e)
      · cases h
    · cases h
theorem putBack_get : ∀ {as : List AK} {rc ρ ρ' : List Slot}, (slotsOf as).Nodup → putBack as rc ρ = some ρ' → ρ'.length = ρ.length ∧ (∀ i, posOf as i = none → ρ'[i]? = ρ[i]?) ∧ ∀ i j, posOf as i = some j → ∃ o b b0, rc[j]? = some (.box true b) ∧ ρ[i]? = some (.box o b0) ∧ ρ'[i]? = some (.box o b)
  | [], [], ρ, ρ', n, h => by simp [putBack] at h; subst h; simp [posOf]
  | [], _ :: _, ρ, ρ', n, h => by simp [putBack] at h
  | .v d :: as, [], ρ, ρ', n, h => by simp [putBack] at h
  | .v d :: as, r :: rs, ρ, ρ', n, h => by
    simp only [putBack] at h
    obtain ⟨h1, h2, h3⟩ := putBack_get (as := as) n h
    refine ⟨h1, fun i e => h2 i ?_, fun i j e => ?_⟩
    · simp only [posOf, Option.map_eq_none_iff] at e; exact e
    · simp only [posOf] at e
      obtain ⟨j', e', rfl⟩ := Option.map_eq_some_iff.mp e
      simpa using h3 i j' e'
  | .sl k :: as, [], ρ, ρ', n, h => by simp [putBack] at h
  | .sl k :: as, .un :: rs, ρ, ρ', n, h => by simp [putBack] at h
  | .sl k :: as, .val _ :: rs, ρ, ρ', n, h => by simp [putBack] at h
  | .sl k :: as, .box false _ :: rs, ρ, ρ', n, h => by simp [putBack] at h
  | .sl k :: as, .box true b :: rs, ρ, ρ', n, h => by
    simp only [putBack] at h
    simp only [slotsOf] at n
    obtain ⟨n1, n2⟩ := List.nodup_cons.mp n
    split at h
    · rename_i o b0 e0
      obtain ⟨h1, h2, h3⟩ := putBack_get n2 h
      have hk : k < ρ.length := (List.getElem?_eq_some_iff.mp e0).1
      have nk : posOf as k = none := by
        cases q : posOf as k with
        | none => rfl
        | some j => exact absurd (mem_slotsOf (posOf_get q)) n1
      refine ⟨by rw [h1, List.length_set], fun i e => ?_, fun i j e => ?_⟩
      · simp only [posOf] at e
        split at e
        · cases e
        · rename_i ne
          rw [h2 i (by simpa using e), List.getElem?_set_ne ne]
      · simp only [posOf] at e
        split at e
        · rename_i ee
          cases e
          subst ee
          refine ⟨o, b, b0, by simp, e0, ?_⟩
          rw [h2 k nk, List.getElem?_set_self hk]
        · rename_i ne
          obtain ⟨j', e', rfl⟩ := Option.map_eq_some_iff.mp e
          obtain ⟨o', b', b1, q1, q2, q3⟩ := h3 i j' e'
          rw [List.getElem?_set_ne ne] at q2
          exact ⟨o', b', b1, by simpa using q1, q2, q3⟩
    · cases h
/-- the callee's names for the boxes -/
def ownC (as : List AK) (own : Own) : Own := fun a => match own a with
  | some (.slot i p) => (match posOf as i with
    | some j => some (.slot j p)
    | none => none)
  | _ => none
/-- the caller's names again -/
def ownB (as : List AK) (own ownc : Own) : Own := fun a => match ownc a with
  | some (.slot j p) => (match as[j]? with
    | some (.sl i) => some (.slot i p)
    | _ => none)
  | some (.tmp _) => none
  | none => if (ownC as own a).isSome then none else own a
theorem of_ownC {as : List AK} {own : Own} {a : Addr} {o : Owner} (h : ownC as own a = some o) : ∃ i j p, o = .slot j p ∧ own a = some (.slot i p) ∧ posOf as i = some j := by
  unfold ownC at h
  split at h
  · rename_i i p e
    split at h
    · rename_i j e2
      cases h
      exact ⟨i, j, p, rfl, e, e2⟩
    · cases h
  · cases h
theorem ownC_of {as : List AK} {own : Own} {a : Addr} {i j : Nat} {p : List Nat} (h : own a = some (.slot i p)) (q : posOf as i = some j) : ownC as own a = some (.slot j p) := by
  unfold ownC; rw [h]; simp only [q]
theorem ownC_none {as : List AK} {own : Own} {a : Addr} (h : own a = none) : ownC as own a = none := by
  unfold ownC; rw [h]
section
variable {X : Cx} {x : Str} {p pos : Pos} {e : Expr} {es : List Expr} {fa : FAK} {k : Nat} {f : Addr} {fd : FuncData} {ps : List Str} {g : List Slot → Option (D × List Slot)}
theorem de_callIO (F : FnOk X.prog X.w X.K X.mg X.base CX0 k f fd ps (spIO (GX X) g)) (hr : Room k X.A) (hg : Gl X x) (hm : X.mg x = some (.ref f)) (hk : PySem.W.keepIn X.K (.ref f) = true) (hb : Binds X.K fd ps [])
    (ha : DAK X (e :: es) fa) (hdb : (x == ("__debug__" : Str)) = false := by decide) (he : starEach (e :: es) X.env = (false, eval e X.env) :: starEach es X.env := by rfl) (hpl : (backTo pos (starEach es X.env)).any (·.1) = false := by rfl) :
    DE X (.Call (.Name x p) (e :: es) [] pos) (fIO g fa) := weakE (pe_call F hr hg hm hk hb .nil pass0 ha hdb he hpl) fun σ H Q ⟨Bs, M, own, ρ, d, ρ', R, h, kk⟩ => by
  unfold fIO at h
  split at h
  · rename_i as ρ1 e1
    split at h
    · rename_i nd
      split at h
      · rename_i ρc e2
        split at h
        · rename_i d' rc e3
          split at h
          · rename_i ρ2 e4
            cases h
            refine ⟨Bs, M, own, ρ, _, _, R, e1, fun vs H1 own1 G1 R1 r1 => ?_⟩
            show spIO (GX X) g (vs ++ []) H1 Q E0
            rw [List.append_nil]
            obtain ⟨al, ag⟩ := argSlots_get e2
            obtain ⟨bl, bn, bs⟩ := putBack_get nd e4
            have dom : ∀ a, (own1 a).isSome = true → ∃ o, H1 a = some o := R1.there
            -- the callee's view
            have hfb : ∀ a, fb (fun a => fb M own1 a ∧ ownC as own1 a = none) (ownC as own1) a → fb M own1 a := fun a q => by
              rcases q with q | q
              · exact q.1
              · obtain ⟨o, e⟩ := Option.isSome_iff_exists.mp q
                obtain ⟨i, j, p, _, e', _⟩ := of_ownC e
                exact .inr (by rw [e']; rfl)
            have xc : Ext (fb M own1) H1 (fb (fun a => fb M own1 a ∧ ownC as own1 a = none) (ownC as own1)) H1 := fun a o e n => ⟨e, fun q => n (hfb a q)⟩
            refine ⟨⟨fun a => if (ownC as own1 a).isSome = true then none else H1 a, fun j => match vs[j]? with | some (.ref a) => some a | _ => none⟩, fun a => fb M own1 a ∧ ownC as own1 a = none, ownC as own1, ρc, d, rc, ?_, e3, fun v H2 own2 G2 R2 r2 => ?_⟩
            · refine ⟨by rw [List.length_map, al, r1.len], fun a o e => ?_, fun a o e => ?_, fun a q => ?_, fun a q => ?_, fun a c j p q1 q2 => ?_, fun j s u q1 q2 => ?_, fun j b u q1 q2 => ?_⟩
              · simp only at e; split at e
                · cases e
                · exact e
              · simp only at e; split at e
                · cases e
                · rename_i n
                  cases q : ownC as own1 a with
                  | none => rfl
                  | some _ => rw [q] at n; simp at n
              · obtain ⟨o, q'⟩ := R1.dom q.1
                exact ⟨o, by simp only [q.2]; simpa using q'⟩
              · obtain ⟨o, q'⟩ := Option.isSome_iff_exists.mp q
                obtain ⟨i, j, p, _, e', _⟩ := of_ownC q'
                exact dom a (by rw [e']; rfl)
              · obtain ⟨i1, j1, p1, z1, o1, w1⟩ := of_ownC q1
                obtain ⟨i2, j2, p2, z2, o2, w2⟩ := of_ownC q2
                cases z1; cases z2
                have y1 := posOf_get w1
                have y2 := posOf_get w2
                rw [y1] at y2
                cases y2
                exact R1.inj a c i1 p o1 o2
              · rcases ag j s q1 with ⟨dd, rfl, q3⟩ | ⟨i, o, b, rfl, q3, q4, _⟩
                · obtain ⟨y, q5, q6⟩ := r1.get q3
                  rw [List.getElem?_map, q5] at q2
                  cases q2
                  exact ⟨y, rfl, q6.ext xc⟩
                · obtain ⟨y, q5, q6⟩ := r1.get q3
                  rw [List.getElem?_map, q5] at q2
                  cases q2
                  obtain ⟨u', q7, q8⟩ := R1.slots i _ _ q4 q6
                  cases q7
                  exact ⟨y, rfl, q8.remap xc fun a p q => ⟨ownC_of q (posOf_of nd q3), rfl⟩⟩
              · rcases ag j _ q1 with ⟨dd, q, q3⟩ | ⟨i, o, b', q, q3, q4, hbox⟩
                · cases q
                · cases q
                  obtain ⟨y, q5, q6⟩ := r1.get q3
                  rw [List.getElem?_map, q5] at q2
                  cases q2
                  obtain ⟨u', q7, q8⟩ := R1.slots i _ _ q4 q6
                  cases q7
                  cases b with
                  | own _ => simp only [RepB] at q8; obtain ⟨a, _, rfl, _⟩ := q8; exact ⟨a, rfl, by simp only [q5]⟩
                  | odct _ _ => simp only [RepB] at q8; obtain ⟨a, _, rfl, _⟩ := q8; exact ⟨a, rfl, by simp only [q5]⟩
                  | imm dd => cases hbox
            · -- back at the caller
              have cb : ∀ a o, ownC as own1 a = none → H1 a = some o → H2 a = some o := fun a o q e => R2.base a o (by simp only [q]; simpa using e)
              have ca : ∀ a o, ownC as own1 a = none → H1 a = some o → own2 a = none := fun a o q e => R2.apart a o (by simp only [q]; simpa using e)
              have ob : ∀ a o, ownB as own1 own2 a = some o → (∃ i j p, o = .slot i p ∧ own2 a = some (.slot j p) ∧ as[j]? = some (.sl i)) ∨ (own2 a = none ∧ ownC as own1 a = none ∧ own1 a = some o) := fun a o e => by
                unfold ownB at e
                split at e
                · rename_i j p e5
                  split at e
                  · rename_i i e6
                    cases e
                    exact .inl ⟨i, j, p, rfl, e5, e6⟩
                  · cases e
                · cases e
                · rename_i e5
                  split at e
                  · cases e
                  · rename_i n
                    refine .inr ⟨e5, ?_, e⟩
                    cases q : ownC as own1 a with
                    | none => rfl
                    | some _ => rw [q] at n; simp at n
              have ob_in : ∀ a i j p, own2 a = some (.slot j p) → as[j]? = some (.sl i) → ownB as own1 own2 a = some (.slot i p) := fun a i j p q1 q2 => by unfold ownB; rw [q1]; simp only [q2]
              have ob_out : ∀ a o, own2 a = none → ownC as own1 a = none → own1 a = some o → ownB as own1 own2 a = some o := fun a o q1 q2 q3 => by unfold ownB; rw [q1]; simp only [q2]; simpa using q3
              have nofb : ∀ a, ¬ fb M own1 a → ownC as own1 a = none := fun a n => ownC_none (by
                cases q : own1 a with
                | none => rfl
                | some o => exact absurd (.inr (by rw [q]; rfl)) n)
              have ext : Ext (fb M own1) H1 (fb M (ownB as own1 own2)) H2 := fun a o e n => by
                have nc := nofb a n
                refine ⟨cb a o nc e, fun q => ?_⟩
                rcases q with q | q
                · exact n (.inl q)
                · obtain ⟨o', q'⟩ := Option.isSome_iff_exists.mp q
                  rcases ob a o' q' with ⟨i, j, p, _, q5, _⟩ | ⟨_, _, q5⟩
                  · rw [ca a o nc e] at q5; cases q5
                  · exact n (.inr (by rw [q5]; rfl))
              have R9 : RE (GX X) Bs M (ownB as own1 own2) H2 ρ' σ := by
                refine ⟨by rw [bl]; exact R1.len, fun a o e => ?_, fun a o e => ?_, R1.mb, fun a e => ?_, fun a c i p q1 q2 => ?_, fun i s u q1 q2 => ?_, fun i b u q1 q2 => ?_⟩
                · exact cb a o (ownC_none (R1.apart a o e)) (R1.base a o e)
                · have nc := ownC_none (as := as) (R1.apart a o e)
                  have h2 := ca a o nc (R1.base a o e)
                  cases q : ownB as own1 own2 a with
                  | none => rfl
                  | some o' =>
                    rcases ob a o' q with ⟨i, j, p, _, q5, _⟩ | ⟨_, _, q5⟩
                    · rw [h2] at q5; cases q5
                    · rw [R1.apart a o e] at q5; cases q5
                · obtain ⟨o', q'⟩ := Option.isSome_iff_exists.mp e
                  rcases ob a o' q' with ⟨i, j, p, _, q5, _⟩ | ⟨_, q6, q5⟩
                  · exact R2.there a (by rw [q5]; rfl)
                  · obtain ⟨o2, q7⟩ := R1.there a (by rw [q5]; rfl)
                    exact ⟨o2, cb a o2 q6 q7⟩
                · rcases ob a _ q1 with ⟨i1, j1, p1, z1, w1, y1⟩ | ⟨w1, y1, z1⟩
                  · cases z1
                    rcases ob c _ q2 with ⟨i2, j2, p2, z2, w2, y2⟩ | ⟨w2, y2, z2⟩
                    · cases z2
                      have e1 := posOf_of nd y1
                      have e2 := posOf_of nd y2
                      rw [e1] at e2
                      cases e2
                      exact R2.inj a c j1 p w1 w2
                    · have := ownC_of z2 (posOf_of nd y1)
                      rw [y2] at this; cases this
                  · rcases ob c _ q2 with ⟨i2, j2, p2, z2, w2, y2⟩ | ⟨w2, y2, z2⟩
                    · cases z2
                      have := ownC_of z1 (posOf_of nd y2)
                      rw [y1] at this; cases this
                    · exact R1.inj a c i p z1 z2
                · cases hp : posOf as i with
                  | none =>
                    rw [bn i hp] at q1
                    refine (R1.slots i s u q1 q2).ext ext fun a p e => ?_
                    have nc : ownC as own1 a = none := by unfold ownC; rw [e]; simp only [hp]
                    obtain ⟨o, eo⟩ := R1.there a (by rw [e]; rfl)
                    exact ⟨ob_out a _ (ca a o nc eo) nc e, by rw [eo]; exact cb a o nc eo⟩
                  | some j =>
                    obtain ⟨o, b, b0, w1, w2, w3⟩ := bs i j hp
                    rw [w3] at q1
                    cases q1
                    obtain ⟨y, w4, w5⟩ := r1.get (posOf_get hp)
                    rw [w5] at q2
                    cases q2
                    obtain ⟨u', w6, w7⟩ := R2.at w1
                    rw [List.getElem?_map, w4] at w6
                    cases w6
                    obtain ⟨v', ev, rb⟩ := w7
                    cases ev
                    refine ⟨y, rfl, rb.remap (fun a o e n => ⟨e, fun q => ?_⟩) fun a p e => ⟨ob_in a i j p e (posOf_get hp), rfl⟩⟩
                    rcases q with q | q
                    · exact n (.inl ⟨.inl q, ownC_none (by
                        cases z : own1 a with
                        | none => rfl
                        | some oo => exact absurd q (R1.notM z))⟩)
                    · obtain ⟨o', q'⟩ := Option.isSome_iff_exists.mp q
                      rcases ob a o' q' with ⟨_, _, _, _, q5, _⟩ | ⟨_, q6, q5⟩
                      · exact n (.inr (by rw [q5]; rfl))
                      · exact n (.inl ⟨.inr (by rw [q5]; rfl), q6⟩)
                · cases hp : posOf as i with
                  | none =>
                    rw [bn i hp] at q1
                    exact R1.pins i b u q1 q2
                  | some j =>
                    obtain ⟨o, b', b0, w1, w2, w3⟩ := bs i j hp
                    rw [w3] at q1
                    cases q1
                    exact R1.pins i b0 u w2 q2
              refine kk v H2 (ownB as own1 own2) (G1.trans ⟨ext, fun a p e => ?_, G2.dom⟩) R9 (r2.ext fun a o e n => ⟨e, fun q => ?_⟩)
              · have nc : ownC as own1 a = none := by unfold ownC; rw [e]
                obtain ⟨o, eo⟩ := R1.there a (by rw [e]; rfl)
                exact ⟨ob_out a _ (ca a o nc eo) nc e, by rw [eo]; exact cb a o nc eo⟩
              · rcases q with q | q
                · exact n (.inl ⟨.inl q, ownC_none (by
                    cases z : own1 a with
                    | none => rfl
                    | some oo => exact absurd q (R1.notM z))⟩)
                · obtain ⟨o', q'⟩ := Option.isSome_iff_exists.mp q
                  rcases ob a o' q' with ⟨_, _, _, _, q5, _⟩ | ⟨_, q6, q5⟩
                  · exact n (.inr (by rw [q5]; rfl))
                  · exact n (.inl ⟨.inr (by rw [q5]; rfl), q6⟩)
          · cases h
        · cases h
      · cases h
    · cases h
  · cases h
end
end DL
end

section
set_option Elab.async false
set_option linter.all false
set_option maxRecDepth 100000
/-! DL9: new lists to be changed, handed back; index, slices -/
namespace DL
open PySem PySem.Spec PyProof.Rows L2

section
variable {mg : Gx} {A A' : Addr → Prop} {H H' : Hp}
mutual
theorem RepF.ext (x : Ext A H A' H') : ∀ {p : List Nat} {b : B} {v : V} {F : List (Addr × List Nat)}, RepF mg A H p b v F → (∀ y ∈ F, ¬ A y.1) → RepF mg A' H' p b v F ∧ ∀ y ∈ F, ¬ A' y.1
  | _, .imm d, v, F, h, n => by
    simp only [RepF] at h ⊢
    obtain ⟨h1, rfl⟩ := h
    exact ⟨⟨h1.ext x, rfl⟩, fun y hy => by simp at hy⟩
  | p, .own bs, v, F, h, n => by
    simp only [RepF] at h ⊢
    obtain ⟨a, xs, F', rfl, h1, h2, rfl⟩ := h
    obtain ⟨q1, q2⟩ := x a _ h1 (n (a, p) List.mem_cons_self)
    obtain ⟨q3, q4⟩ := RepFs.ext x h2 fun y hy => n y (List.mem_cons_of_mem _ hy)
    refine ⟨⟨a, xs, F', rfl, q1, q3, rfl⟩, fun y hy => ?_⟩
    rcases List.mem_cons.mp hy with rfl | hy
    · exact q2
    · exact q4 y hy
  | p, .odct ks ds, v, F, h, n => by
    simp only [RepF] at h ⊢
    obtain ⟨a, kvs, rfl, h1, h2, h3, rfl⟩ := h
    obtain ⟨q1, q2⟩ := x a _ h1 (n (a, p) List.mem_cons_self)
    refine ⟨⟨a, kvs, rfl, q1, h2, h3.ext x, rfl⟩, fun y hy => ?_⟩
    have : y = (a, p) := by simpa using hy
    subst this
    exact q2
theorem RepFs.ext (x : Ext A H A' H') : ∀ {p : List Nat} {k : Nat} {bs : List B} {vs : List V} {F : List (Addr × List Nat)}, RepFs mg A H p k bs vs F → (∀ y ∈ F, ¬ A y.1) → RepFs mg A' H' p k bs vs F ∧ ∀ y ∈ F, ¬ A' y.1
  | _, _, [], vs, F, h, n => by
    simp only [RepFs] at h ⊢
    obtain ⟨h1, rfl⟩ := h
    exact ⟨⟨h1, rfl⟩, fun y hy => by simp at hy⟩
  | p, k, b :: bs, vs, F, h, n => by
    simp only [RepFs] at h ⊢
    obtain ⟨y, ys, F1, F2, rfl, h1, h2, rfl⟩ := h
    obtain ⟨q1, q2⟩ := RepF.ext x h1 fun y hy => n y (List.mem_append_left _ hy)
    obtain ⟨q3, q4⟩ := RepFs.ext x h2 fun y hy => n y (List.mem_append_right _ hy)
    exact ⟨⟨y, ys, F1, F2, rfl, q1, q3, rfl⟩, fun z hz => (List.mem_append.mp hz).elim (q2 z) (q4 z)⟩
end
mutual
theorem RepF.shift {q : List Nat} : ∀ {p : List Nat} {b : B} {v : V} {F : List (Addr × List Nat)}, RepF mg A H p b v F → RepF mg A H (p ++ q) b v (F.map fun x => (x.1, x.2 ++ q))
  | _, .imm d, v, F, h => by
    simp only [RepF] at h ⊢
    obtain ⟨h1, rfl⟩ := h
    exact ⟨h1, rfl⟩
  | p, .own bs, v, F, h => by
    simp only [RepF] at h ⊢
    obtain ⟨a, xs, F', rfl, h1, h2, rfl⟩ := h
    exact ⟨a, xs, _, rfl, h1, RepFs.shift h2, rfl⟩
  | p, .odct ks ds, v, F, h => by
    simp only [RepF] at h ⊢
    obtain ⟨a, kvs, rfl, h1, h2, h3, rfl⟩ := h
    exact ⟨a, kvs, rfl, h1, h2, h3, rfl⟩
theorem RepFs.shift {q : List Nat} : ∀ {p : List Nat} {k : Nat} {bs : List B} {vs : List V} {F : List (Addr × List Nat)}, RepFs mg A H p k bs vs F → RepFs mg A H (p ++ q) k bs vs (F.map fun x => (x.1, x.2 ++ q))
  | _, _, [], vs, F, h => by
    simp only [RepFs] at h ⊢
    obtain ⟨h1, rfl⟩ := h
    exact ⟨h1, rfl⟩
  | p, k, b :: bs, vs, F, h => by
    simp only [RepFs] at h ⊢
    obtain ⟨y, ys, F1, F2, rfl, h1, h2, rfl⟩ := h
    exact ⟨y, ys, _, _, rfl, RepF.shift h1, RepFs.shift h2, by rw [List.map_append]⟩
end
mutual
theorem RepF.suffix : ∀ {p : List Nat} {b : B} {v : V} {F : List (Addr × List Nat)}, RepF mg A H p b v F → (∀ x ∈ F, p <:+ x.2) ∧ (F.map (·.2)).Nodup
  | _, .imm d, v, F, h => by
    simp only [RepF] at h
    obtain ⟨_, rfl⟩ := h
    exact ⟨fun x hx => by simp at hx, by simp⟩
  | p, .own bs, v, F, h => by
    simp only [RepF] at h
    obtain ⟨a, xs, F', rfl, h1, h2, rfl⟩ := h
    obtain ⟨q1, q2⟩ := RepFs.suffix h2
    refine ⟨fun x hx => ?_, ?_⟩
    · rcases List.mem_cons.mp hx with rfl | hx
      · exact List.suffix_refl _
      · obtain ⟨j, _, q⟩ := q1 x hx
        exact (List.suffix_cons j p).trans q
    · rw [List.map_cons, List.nodup_cons]
      refine ⟨fun hm => ?_, q2⟩
      obtain ⟨x, hx, e⟩ := List.mem_map.mp hm
      obtain ⟨j, _, q⟩ := q1 x hx
      rw [e] at q
      exact no_suffix_cons q
  | p, .odct ks ds, v, F, h => by
    simp only [RepF] at h
    obtain ⟨a, kvs, rfl, h1, h2, h3, rfl⟩ := h
    exact ⟨fun x hx => by have : x = (a, p) := by simpa using hx
                          subst this; exact List.suffix_refl _, by simp⟩
theorem RepFs.suffix : ∀ {p : List Nat} {k : Nat} {bs : List B} {vs : List V} {F : List (Addr × List Nat)}, RepFs mg A H p k bs vs F → (∀ x ∈ F, ∃ j, k ≤ j ∧ (j :: p) <:+ x.2) ∧ (F.map (·.2)).Nodup
  | _, _, [], vs, F, h => by
    simp only [RepFs] at h
    obtain ⟨_, rfl⟩ := h
    exact ⟨fun x hx => by simp at hx, by simp⟩
  | p, k, b :: bs, vs, F, h => by
    simp only [RepFs] at h
    obtain ⟨y, ys, F1, F2, rfl, h1, h2, rfl⟩ := h
    obtain ⟨q1, q2⟩ := RepF.suffix h1
    obtain ⟨q3, q4⟩ := RepFs.suffix h2
    refine ⟨fun x hx => ?_, ?_⟩
    · rcases List.mem_append.mp hx with hx | hx
      · exact ⟨k, Nat.le_refl _, q1 x hx⟩
      · obtain ⟨j, hj, q⟩ := q3 x hx
        exact ⟨j, by omega, q⟩
    · rw [List.map_append, List.nodup_append]
      refine ⟨q2, q4, fun a ha c hc e => ?_⟩
      obtain ⟨x, hx, rfl⟩ := List.mem_map.mp ha
      obtain ⟨z, hz, rfl⟩ := List.mem_map.mp hc
      obtain ⟨j, hj, q⟩ := q3 z hz
      have q' := q1 x hx
      rw [e] at q'
      obtain ⟨t1, e1⟩ := q
      obtain ⟨t2, e2⟩ := q'
      have e3 : t1 ++ j :: p = t2 ++ k :: p := e1.trans e2.symm
      have l : t1.length = t2.length := by
        have := congrArg List.length e3
        simp at this; omega
      have := (List.append_inj e3 l).2
      cases this
      omega
end
/-- owned by slot i by the places of F -/
def ownF (own : Own) (i : Nat) (F : List (Addr × List Nat)) : Own := fun a => match F.lookup a with
  | some p => some (.slot i p)
  | none => own a
theorem ownF_in {own : Own} {i : Nat} {F : List (Addr × List Nat)} {a : Addr} {p : List Nat} (n : (F.map (·.1)).Nodup) (h : (a, p) ∈ F) : ownF own i F a = some (.slot i p) := by
  unfold ownF; rw [lookup_mem n h]
theorem ownF_out {own : Own} {i : Nat} {F : List (Addr × List Nat)} {a : Addr} (h : ∀ x ∈ F, x.1 ≠ a) : ownF own i F a = own a := by
  unfold ownF
  cases e : F.lookup a with
  | none => rfl
  | some p => exact absurd rfl (h _ (of_lookup e))
theorem of_ownF {own : Own} {i : Nat} {F : List (Addr × List Nat)} {a : Addr} {o : Owner} (h : ownF own i F a = some o) : (∃ p, o = .slot i p ∧ (a, p) ∈ F) ∨ own a = some o := by
  unfold ownF at h
  split at h
  · rename_i p e
    cases h
    exact .inl ⟨p, rfl, of_lookup e⟩
  · exact .inr h
mutual
theorem RepF.box {own : Own} {i : Nat} (x : Ext A H A' H) : ∀ {p : List Nat} {b : B} {v : V} {F : List (Addr × List Nat)}, RepF mg A H p b v F → (∀ y ∈ F, own y.1 = some (.slot i y.2)) → RepB mg A' own H i p b v
  | _, .imm d, v, F, h, n => by simp only [RepF, RepB] at h ⊢; exact h.1.ext x
  | p, .own bs, v, F, h, n => by
    simp only [RepF, RepB] at h ⊢
    obtain ⟨a, xs, F', rfl, h1, h2, rfl⟩ := h
    exact ⟨a, xs, rfl, n (a, p) List.mem_cons_self, h1, RepFs.box x h2 fun y hy => n y (List.mem_cons_of_mem _ hy)⟩
  | p, .odct ks ds, v, F, h, n => by
    simp only [RepF, RepB] at h ⊢
    obtain ⟨a, kvs, rfl, h1, h2, h3, rfl⟩ := h
    exact ⟨a, kvs, rfl, n (a, p) List.mem_cons_self, h1, h2, h3.ext x⟩
theorem RepFs.box {own : Own} {i : Nat} (x : Ext A H A' H) : ∀ {p : List Nat} {k : Nat} {bs : List B} {vs : List V} {F : List (Addr × List Nat)}, RepFs mg A H p k bs vs F → (∀ y ∈ F, own y.1 = some (.slot i y.2)) → RepBs mg A' own H i p k bs vs
  | _, _, [], vs, F, h, n => by simp only [RepFs, RepBs] at h ⊢; exact h.1
  | p, k, b :: bs, vs, F, h, n => by
    simp only [RepFs, RepBs] at h ⊢
    obtain ⟨y, ys, F1, F2, rfl, h1, h2, rfl⟩ := h
    exact ⟨y, ys, rfl, RepF.box x h1 fun y hy => n y (List.mem_append_left _ hy), RepFs.box x h2 fun y hy => n y (List.mem_append_right _ hy)⟩
end
end
mutual
/-- what is ours for the time being stays -/
theorem RepF.go {mg : Gx} {M : Addr → Prop} {own own' : Own} {H H' : Hp} (G : Go M own H own' H') : ∀ {p : List Nat} {b : B} {v : V} {F : List (Addr × List Nat)}, RepF mg (fb M own) H p b v F → (∀ y ∈ F, own y.1 = some (.tmp y.1)) → RepF mg (fb M own') H' p b v F
  | _, .imm d, v, F, h, n => by
    simp only [RepF] at h ⊢
    exact ⟨h.1.ext G.ext, h.2⟩
  | p, .own bs, v, F, h, n => by
    simp only [RepF] at h ⊢
    obtain ⟨a, xs, F', rfl, h1, h2, rfl⟩ := h
    have := (G.tmp a a (n (a, p) List.mem_cons_self)).2
    exact ⟨a, xs, F', rfl, by rw [this]; exact h1, RepFs.go G h2 fun y hy => n y (List.mem_cons_of_mem _ hy), rfl⟩
  | p, .odct ks ds, v, F, h, n => by
    simp only [RepF] at h ⊢
    obtain ⟨a, kvs, rfl, h1, h2, h3, rfl⟩ := h
    have := (G.tmp a a (n (a, p) List.mem_cons_self)).2
    exact ⟨a, kvs, rfl, by rw [this]; exact h1, h2, h3.ext G.ext, rfl⟩
theorem RepFs.go {mg : Gx} {M : Addr → Prop} {own own' : Own} {H H' : Hp} (G : Go M own H own' H') : ∀ {p : List Nat} {k : Nat} {bs : List B} {vs : List V} {F : List (Addr × List Nat)}, RepFs mg (fb M own) H p k bs vs F → (∀ y ∈ F, own y.1 = some (.tmp y.1)) → RepFs mg (fb M own') H' p k bs vs F
  | _, _, [], vs, F, h, n => by simpa only [RepFs] using h
  | p, k, b :: bs, vs, F, h, n => by
    simp only [RepFs] at h ⊢
    obtain ⟨y, ys, F1, F2, rfl, h1, h2, rfl⟩ := h
    exact ⟨y, ys, F1, F2, rfl, RepF.go G h1 fun y hy => n y (List.mem_append_left _ hy), RepFs.go G h2 fun y hy => n y (List.mem_append_right _ hy), rfl⟩
end
mutual
theorem RepF.stands {mg : Gx} {A : Addr → Prop} {H : Hp} : ∀ {p : List Nat} {b : B} {v : V} {F : List (Addr × List Nat)}, RepF mg A H p b v F → ∀ y ∈ F, ∃ o, H y.1 = some o
  | _, .imm d, v, F, h, y, hy => by simp only [RepF] at h; rw [h.2] at hy; simp at hy
  | p, .own bs, v, F, h, y, hy => by
    simp only [RepF] at h
    obtain ⟨a, xs, F', rfl, h1, h2, rfl⟩ := h
    rcases List.mem_cons.mp hy with rfl | hy
    · exact ⟨_, h1⟩
    · exact RepFs.stands h2 y hy
  | p, .odct ks ds, v, F, h, y, hy => by
    simp only [RepF] at h
    obtain ⟨a, kvs, rfl, h1, h2, h3, rfl⟩ := h
    have : y = (a, p) := by simpa using hy
    subst this
    exact ⟨_, h1⟩
theorem RepFs.stands {mg : Gx} {A : Addr → Prop} {H : Hp} : ∀ {p : List Nat} {k : Nat} {bs : List B} {vs : List V} {F : List (Addr × List Nat)}, RepFs mg A H p k bs vs F → ∀ y ∈ F, ∃ o, H y.1 = some o
  | _, _, [], vs, F, h, y, hy => by simp only [RepFs] at h; rw [h.2] at hy; simp at hy
  | p, k, b :: bs, vs, F, h, y, hy => by
    simp only [RepFs] at h
    obtain ⟨z, zs, F1, F2, rfl, h1, h2, rfl⟩ := h
    exact (List.mem_append.mp hy).elim (RepF.stands h1 y) (RepFs.stands h2 y)
end
theorem snd_inj : ∀ {F : List (Addr × List Nat)} {a c : Addr} {p : List Nat}, (F.map (·.2)).Nodup → (a, p) ∈ F → (c, p) ∈ F → a = c
  | [], _, _, _, _, h, _ => by simp at h
  | (b, q) :: F, a, c, p, n, h1, h2 => by
    rw [List.map_cons, List.nodup_cons] at n
    rcases List.mem_cons.mp h1 with e1 | h1
    · rcases List.mem_cons.mp h2 with e2 | h2
      · cases e1; cases e2; rfl
      · cases e1; exact absurd (List.mem_map.mpr ⟨_, h2, rfl⟩) n.1
    · rcases List.mem_cons.mp h2 with e2 | h2
      · cases e2; exact absurd (List.mem_map.mpr ⟨_, h1, rfl⟩) n.1
      · exact snd_inj n.2 h1 h2
section
variable {mg : Gx} {Bs : Fx} {M : Addr → Prop} {own1 : Own} {H1 : Hp} {ρ1 : List Slot} {σ : L2.St}
/-- slot i is given a new thing of its own -/
theorem RE.setF (R1 : RE mg Bs M own1 H1 ρ1 σ) {i : Nat} {b : B} {v : V} {F : List (Addr × List Nat)} (r : RepF mg (fb M own1) H1 [] b v F) (nd : (F.map (·.1)).Nodup) (un : ∀ y ∈ F, own1 y.1 = some (.tmp y.1)) :
    RE mg Bs M (ownF (unown i own1) i F) H1 (ρ1.set i (.box false b)) (σ.set i (some v)) := by
  have hfb : ∀ a, fb M (ownF (unown i own1) i F) a → fb M own1 a := fun a q => by
    rcases q with q | q
    · exact .inl q
    · obtain ⟨o, e⟩ := Option.isSome_iff_exists.mp q
      rcases of_ownF e with ⟨p, _, hp⟩ | e
      · exact .inr (by rw [show own1 a = _ from un _ hp]; rfl)
      · exact fb_unown (.inr (by rw [e]; rfl))
  have x : Ext (fb M own1) H1 (fb M (ownF (unown i own1) i F)) H1 := fun a o e n => ⟨e, fun q => n (hfb a q)⟩
  have pnd := (RepF.suffix r).2
  have slotOut : ∀ {a : Addr} {j : Nat} {p : List Nat}, own1 a = some (.slot j p) → ∀ y ∈ F, y.1 ≠ a := fun {a j p} e y hy z => by rw [← z, un y hy] at e; cases e
  refine ⟨by rw [List.length_set, List.length_set]; exact R1.len, R1.base, fun a o e => ?_, R1.mb, fun a e => ?_, fun a c j p e1 e2 => ?_, fun j s w e1 e2 => ?_, fun j b' w e1 e2 => ?_⟩
  · rw [ownF_out fun y hy z => by
      have q := R1.apart a o e
      rw [← z, un y hy] at q; cases q]
    exact unown_none (R1.apart a o e)
  · obtain ⟨o, e⟩ := Option.isSome_iff_exists.mp e
    rcases of_ownF e with ⟨p, _, hp⟩ | e
    · exact RepF.stands r _ hp
    · exact R1.there a (by rw [(of_unown e).1]; rfl)
  · rcases of_ownF e1 with ⟨p1, z1, h1⟩ | e1
    · rcases of_ownF e2 with ⟨p2, z2, h2⟩ | e2
      · cases z1; cases z2
        exact snd_inj pnd h1 h2
      · cases z1
        exact absurd rfl ((of_unown e2).2 _)
    · rcases of_ownF e2 with ⟨p2, z2, h2⟩ | e2
      · cases z2
        exact absurd rfl ((of_unown e1).2 _)
      · exact R1.inj a c j p (of_unown e1).1 (of_unown e2).1
  · by_cases hj : i = j
    · subst hj
      have hi : i < ρ1.length := by
        have := (List.getElem?_eq_some_iff.mp e1).1
        simpa using this
      rw [List.getElem?_set_self hi] at e1
      rw [List.getElem?_set_self (by rw [← R1.len]; exact hi)] at e2
      cases e1; cases e2
      exact ⟨v, rfl, r.box x fun y hy => ownF_in nd hy⟩
    · rw [List.getElem?_set_ne hj] at e1 e2
      refine (R1.slots j s w e1 e2).ext x fun a p e => ⟨?_, rfl⟩
      rw [ownF_out (slotOut e)]
      exact unown_other e (Ne.symm hj)
  · by_cases hj : i = j
    · subst hj
      by_cases hi : i < ρ1.length
      · rw [List.getElem?_set_self hi] at e1; cases e1
      · rw [List.getElem?_eq_none (by rw [List.length_set]; omega)] at e1; cases e1
    · rw [List.getElem?_set_ne hj] at e1 e2
      exact R1.pins j b' w e1 e2
theorem go_setF {H0 : Hp} {own0 : Own} {i : Nat} {F : List (Addr × List Nat)} (R0 : ∀ a, (own0 a).isSome = true → ∃ o, H0 a = some o) (G : Go M own0 H0 own1 H1) (un : ∀ y ∈ F, own1 y.1 = some (.tmp y.1)) (fr : ∀ y ∈ F, H0 y.1 = none) : Go M own0 H0 (ownF (unown i own1) i F) H1 := by
  refine ⟨G.ext.trans fun a o e n => ⟨e, fun q => n ?_⟩, fun a p e => ?_, G.dom⟩
  · rcases q with q | q
    · exact .inl q
    · obtain ⟨o, e⟩ := Option.isSome_iff_exists.mp q
      rcases of_ownF e with ⟨p, _, hp⟩ | e
      · exact .inr (by rw [show own1 a = _ from un _ hp]; rfl)
      · exact fb_unown (.inr (by rw [e]; rfl))
  · obtain ⟨e1, e2⟩ := G.tmp a p e
    refine ⟨?_, e2⟩
    rw [ownF_out fun y hy z => by
      obtain ⟨o, q⟩ := R0 a (by rw [e]; rfl)
      rw [← z, fr y hy] at q; cases q]
    exact unown_tmp e1
end

/-! ### expressions that give new things -/
def fImm (f : FE) : FF := fun ρ => match f ρ with
  | some (d, ρ1) => some (.imm d, ρ1)
  | none => none
abbrev FAF := List Slot → Option (List B × List Slot)
/-- several, each with its own places -/
def RFs (mg : Gx) (A : Addr → Prop) (H : Hp) : List B → List V → List (List (Addr × List Nat)) → Prop
  | [], vs, Fs => vs = [] ∧ Fs = []
  | b :: bs, vs, Fs => ∃ x xs F Gs, vs = x :: xs ∧ Fs = F :: Gs ∧ RepF mg A H [] b x F ∧ RFs mg A H bs xs Gs
def cAF (mg : Gx) (f : FAF) : TA := fun σ H Q => ∃ Bs M own ρ bs ρ', RE mg Bs M own H ρ σ ∧ f ρ = some (bs, ρ') ∧
  ∀ vs H' own' Fs, Go M own H own' H' → RE mg Bs M own' H' ρ' σ → RFs mg (fb M own') H' bs vs Fs → (Fs.flatten.map (·.1)).Nodup → (∀ x ∈ Fs.flatten, H x.1 = none ∧ own' x.1 = some (.tmp x.1)) → Q vs H'
abbrev DAF (X : Cx) (es : List Expr) (f : FAF) : Prop := PA X es (cAF (GX X) f)
def afNil : FAF := fun ρ => some ([], ρ)
def afCons (f : FF) (r : FAF) : FAF := fun ρ => match f ρ with
  | some (b, ρ1) => (match r ρ1 with
    | some (bs, ρ2) => some (b :: bs, ρ2)
    | none => none)
  | none => none
section
variable {X : Cx} {e : Expr} {es : List Expr} {fe : FE} {f : FF} {r : FAF} {pos lpos : Pos} {x : Str}
theorem df_e (h : DE X e fe) : DF X e (fImm fe) := weakE h fun σ H Q ⟨Bs, M, own, ρ, b, ρ', R, q, k⟩ => by
  unfold fImm at q
  split at q
  · rename_i d ρ1 e1
    cases q
    exact ⟨Bs, M, own, ρ, _, _, R, e1, fun v H' own' G R' r => k v H' own' [] G R' (by simp only [RepF]; exact ⟨r, trivial⟩) (by simp) (by simp)⟩
  · cases q
theorem daf_nil : DAF X [] afNil := weakA pa_nil fun σ H Q ⟨Bs, M, own, ρ, b, ρ', R, q, k⟩ => by
  cases q
  exact k [] H own [] .refl R ⟨rfl, rfl⟩ (by simp) (by simp)
theorem RFs.go {mg : Gx} {M : Addr → Prop} {own own' : Own} {H H' : Hp} (G : Go M own H own' H') : ∀ {bs : List B} {vs : List V} {Fs : List (List (Addr × List Nat))}, RFs mg (fb M own) H bs vs Fs → (∀ y ∈ Fs.flatten, own y.1 = some (.tmp y.1)) → RFs mg (fb M own') H' bs vs Fs
  | [], vs, Fs, h, n => h
  | b :: bs, vs, Fs, h, n => by
    obtain ⟨x, xs, F, Gs, rfl, rfl, h1, h2⟩ := h
    exact ⟨x, xs, F, Gs, rfl, rfl, h1.go G fun y hy => n y (by simp [hy]), RFs.go G h2 fun y hy => n y (by simp only [List.flatten_cons, List.mem_append]; exact .inr hy)⟩
theorem daf_cons (ha : DF X e f) (hr : DAF X es r) (hs : starEach (e :: es) X.env = (false, eval e X.env) :: starEach es X.env := by rfl) : DAF X (e :: es) (afCons f r) := weakA (pa_cons ha hr hs) fun σ H Q ⟨Bs, M, own, ρ, bs, ρ', R, q, k⟩ => by
  unfold afCons at q
  split at q
  · rename_i b ρ1 e1
    split at q
    · rename_i bs' ρ2 e2
      cases q
      refine ⟨Bs, M, own, ρ, _, _, R, e1, fun v H1 own1 F G1 R1 r1 nd1 fr1 => ?_⟩
      refine ⟨Bs, M, own1, _, _, _, R1, e2, fun vs H2 own2 Fs G2 R2 r2 nd2 fr2 => ?_⟩
      refine k (v :: vs) H2 own2 (F :: Fs) (G1.trans G2) R2 ⟨v, vs, F, Fs, rfl, rfl, r1.go G2 fun y hy => (fr1 y hy).2, r2⟩ ?_ fun y hy => ?_
      · rw [List.flatten_cons, List.map_append, List.nodup_append]
        refine ⟨nd1, nd2, fun a ha c hc z => ?_⟩
        obtain ⟨y, hy, rfl⟩ := List.mem_map.mp ha
        obtain ⟨y', hy', rfl⟩ := List.mem_map.mp hc
        obtain ⟨o, q⟩ := r1.stands y hy
        rw [z, (fr2 y' hy').1] at q; cases q
      · rw [List.flatten_cons] at hy
        rcases List.mem_append.mp hy with hy | hy
        · exact ⟨(fr1 y hy).1, (G2.tmp _ _ (fr1 y hy).2).1⟩
        · exact ⟨G1.fresh (fr2 y hy).1, (fr2 y hy).2⟩
    · cases q
  · cases q
theorem RFs.len {mg : Gx} {A : Addr → Prop} {H : Hp} : ∀ {bs : List B} {vs : List V} {Fs : List (List (Addr × List Nat))}, RFs mg A H bs vs Fs → vs.length = bs.length
  | [], vs, Fs, h => by obtain ⟨rfl, _⟩ := h; rfl
  | b :: bs, vs, Fs, h => by
    obtain ⟨x, xs, F, Gs, rfl, rfl, h1, h2⟩ := h
    simp [RFs.len h2]
/-- together, as the items of a list -/
theorem RFs.join {mg : Gx} {A : Addr → Prop} {H : Hp} : ∀ {k : Nat} {bs : List B} {vs : List V} {Fs : List (List (Addr × List Nat))}, RFs mg A H bs vs Fs → ∃ F, RepFs mg A H [] k bs vs F ∧ F.map (·.1) = Fs.flatten.map (·.1)
  | k, [], vs, Fs, h => by
    obtain ⟨rfl, rfl⟩ := h
    exact ⟨[], by simp [RepFs], rfl⟩
  | k, b :: bs, vs, Fs, h => by
    obtain ⟨x, xs, F, Gs, rfl, rfl, h1, h2⟩ := h
    obtain ⟨F2, q1, q2⟩ := RFs.join (k := k + 1) h2
    refine ⟨F.map (fun x => (x.1, x.2 ++ [k])) ++ F2, ?_, ?_⟩
    · simp only [RepFs]
      exact ⟨x, xs, _, F2, rfl, by simpa using h1.shift (q := [k]), q1, rfl⟩
    · rw [List.map_append, List.flatten_cons, List.map_append, q2, List.map_map]
      rfl
def fLstF (r : FAF) : FF := fun ρ => match r ρ with
  | some (bs, ρ1) => if bs.length ≤ sizeLine then some (.own bs, ρ1) else none
  | none => none
theorem tmp_of_fst {own : Own} {F : List (Addr × List Nat)} {Fs : List (List (Addr × List Nat))} {P : Addr → Prop} (e : F.map (·.1) = Fs.flatten.map (·.1)) (h : ∀ x ∈ Fs.flatten, P x.1) : ∀ y ∈ F, P y.1 := fun y hy => by
  have : y.1 ∈ Fs.flatten.map (·.1) := by rw [← e]; exact List.mem_map.mpr ⟨y, hy, rfl⟩
  obtain ⟨z, hz, e'⟩ := List.mem_map.mp this
  rw [← e']; exact h z hz
theorem df_lst (h : DAF X es r) : DF X (.List es pos) (fLstF r) := weakE (pe_lst h) fun σ H Q ⟨Bs, M, own, ρ, b, ρ', R, q, k⟩ => by
  unfold fLstF at q
  split at q
  · rename_i bs ρ1 e1
    split at q
    · rename_i hl
      cases q
      refine ⟨Bs, M, own, ρ, _, _, R, e1, fun vs H1 own1 Fs G1 R1 r1 nd1 fr1 => ⟨by rw [r1.len]; exact hl, fun p hp => ?_⟩⟩
      obtain ⟨R2, G2⟩ := R1.tmpNew (o := .lst vs) hp
      have r2 := r1.go G2 fun y hy => (fr1 y hy).2
      obtain ⟨F, q1, q2⟩ := RFs.join (k := 0) r2
      have st : ∀ y ∈ F, y.1 ≠ p := tmp_of_fst (own := own1) (P := fun a => a ≠ p) q2 fun x hx z => by
        obtain ⟨o, q⟩ := R1.there x.1 (by rw [(fr1 x hx).2]; rfl)
        rw [z, hp] at q; cases q
      refine k (.ref p) _ _ ((p, []) :: F) (G1.trans G2) R2 ?_ ?_ fun y hy => ?_
      · simp only [RepF]
        exact ⟨p, vs, F, rfl, upd_same, q1, rfl⟩
      · rw [List.map_cons, List.nodup_cons]
        refine ⟨fun hm => ?_, by rw [q2]; exact nd1⟩
        obtain ⟨y, hy, e⟩ := List.mem_map.mp hm
        exact st y hy e
      · rcases List.mem_cons.mp hy with rfl | hy
        · exact ⟨G1.fresh hp, ownAt_same⟩
        · refine ⟨tmp_of_fst (own := own1) (P := fun a => H a = none) q2 (fun x hx => (fr1 x hx).1) y hy, ?_⟩
          rw [ownAt_ne (st y hy)]
          exact tmp_of_fst (own := own1) (P := fun a => own1 a = some (.tmp a)) q2 (fun x hx => (fr1 x hx).2) y hy
    · cases q
  · cases q
def fRetF (f : FF) : FS := fun ρ => match f ρ with
  | some (b, ρ1) => some (.rf b ρ1)
  | none => none
theorem ds_retF (h : DF X e f) : DS X (.Return (some e) pos) (fRetF f) := weakS (ps_ret h) fun Dn σ H ⟨Bs, M, own, ρ, o, R, q, p⟩ => by
  unfold fRetF at q
  split at q
  · rename_i b ρ1 e1
    cases q
    refine ⟨Bs, M, own, ρ, _, _, R, e1, fun v H1 own1 F G1 R1 r1 nd fr => p v σ H1 own1 F G1 R1 r1 nd fun x hx => ⟨?_, (fr x hx).2⟩⟩
    cases z : Bs.h x.1 with
    | none => rfl
    | some o => have := R.base _ _ z; rw [(fr x hx).1] at this; cases this
  · cases q
/-- name = a new thing, to be changed -/
def fSetF (i : Nat) (f : FF) : FS := fun ρ => match f ρ with
  | some (b, ρ1) => some (.nx (ρ1.set i (.box false b)))
  | none => none
theorem cS_setF {mg : Gx} {W : WX} {i : Nat} : ∀ Dn σ H, cS mg W (fSetF i f) Dn σ H → tAsg (cF mg f) (gName i) Dn σ H := fun Dn σ H ⟨Bs, M, own, ρ, o, R, q, p⟩ => by
  unfold fSetF at q
  split at q
  · rename_i b ρ1 e1
    cases q
    exact ⟨Bs, M, own, ρ, _, _, R, e1, fun v H1 own1 F G1 R1 r1 nd fr => p _ H1 _ (go_setF R.there G1 (fun y hy => (fr y hy).2) fun y hy => (fr y hy).1) (R1.setF r1 nd fun y hy => (fr y hy).2)⟩
  · cases q
theorem ds_setF {i : Nat} {pos' : Pos} (hN : X.N.Nodup) (hi : X.N[i]? = some x) (hx : Loc X.env.scope x) (he : DF X e f) (hs : swapsWith e (some (.Name x pos')) pos.line X.env = pure false := by rfl) (hf : X.fn x = true ∨ X.env.scope.names.lookup x = some .local := by first | exact .inl rfl | exact .inr rfl | assumption) :
    DS X (.Assign [.Name x pos'] e pos) (fSetF i f) := weakS (ps_set hN hi hx he hs hf) cS_setF
end

/-! ### defs that hand back a new thing -/
def spFr (mg : Gx) (g : List D → Option B) : Sp := fun vs H Q _ => ∃ (A : Addr → Prop) (ds : List D) (b : B), (∀ a, H a = none → ¬ A a) ∧ Reps mg A H ds vs ∧ g ds = some b ∧
  ∀ v H' F, Same H H' → RepF mg (fun a => A a ∨ ∃ y ∈ F, y.1 = a) H' [] b v F → (F.map (·.1)).Nodup → (∀ y ∈ F, H y.1 = none) → Q v H'
def fnF (n m : Nat) (F : FS) : List D → Option B := fun ds => if ds.length = m then (match F (ds.map .val ++ List.replicate (n - m) .un) with
  | some (.rf b _) => some b
  | _ => none) else none
section
variable {P : Program} {w : World} {K : PySem.W.Frag} {mg : Str → Option Value} {base : Heap}
mutual
theorem RepF.sub {mg : Gx} {A A' : Addr → Prop} {H : Hp} (x : ∀ a, A' a → A a) : ∀ {p : List Nat} {b : B} {v : V} {F : List (Addr × List Nat)}, RepF mg A H p b v F → RepF mg A' H p b v F
  | _, .imm d, v, F, h => by simp only [RepF] at h ⊢; exact ⟨h.1.ext fun a o e n => ⟨e, fun q => n (x a q)⟩, h.2⟩
  | p, .own bs, v, F, h => by
    simp only [RepF] at h ⊢
    obtain ⟨a, xs, F', rfl, h1, h2, rfl⟩ := h
    exact ⟨a, xs, F', rfl, h1, RepFs.sub x h2, rfl⟩
  | p, .odct ks ds, v, F, h => by
    simp only [RepF] at h ⊢
    obtain ⟨a, kvs, rfl, h1, h2, h3, rfl⟩ := h
    exact ⟨a, kvs, rfl, h1, h2, h3.ext fun a o e n => ⟨e, fun q => n (x a q)⟩, rfl⟩
theorem RepFs.sub {mg : Gx} {A A' : Addr → Prop} {H : Hp} (x : ∀ a, A' a → A a) : ∀ {p : List Nat} {k : Nat} {bs : List B} {vs : List V} {F : List (Addr × List Nat)}, RepFs mg A H p k bs vs F → RepFs mg A' H p k bs vs F
  | _, _, [], vs, F, h => by simpa only [RepFs] using h
  | p, k, b :: bs, vs, F, h => by
    simp only [RepFs] at h ⊢
    obtain ⟨y, ys, F1, F2, rfl, h1, h2, rfl⟩ := h
    exact ⟨y, ys, F1, F2, rfl, RepF.sub x h1, RepFs.sub x h2, rfl⟩
end
theorem fn_okF {x qual : Str} {st : Stmt} {f : Addr} {fd : FuncData} {N ps : List Str} {k n m : Nat} {F : FS} (Fu : Fun K x qual st f fd) (S : FnScope N ps (defScope st)) (hn : N.length = n) (hm : ps.length = m) (hle : m ≤ n)
    (body : ∀ (cdv : Value) (A : Around) (outer : List Env) (s : Shared) (H : Hp) (E : XK), Room k (A.deeper (envOfC qual (defScope st) s.heap.objs.size f cdv)) →
      DSs (cxOf CX0 P w K mg base N qual (defScope st) f cdv A outer s H E).nox (defBody st) F) : FnOk P w K mg base CX0 (k + 1) f fd ps (spFr ⟨mg, K⟩ (fnF n m F)) := by
  refine Fu.ok S (fun vs H Q E h => ?_) (fun cdv A outer s H vs Q E hr h => ?_)
  · obtain ⟨A, ds, d, hA, r, e, q⟩ := h
    unfold fnF at e
    split at e
    · rename_i z
      rw [r.length, z, hm]
    · cases e
  · obtain ⟨A', ds, d, hA, r, e, q⟩ := h
    refine ⟨_, body cdv A outer s H E hr, ?_⟩
    unfold fnF at e
    split at e
    · rename_i z
      have R := RE.start hA r hn z hle
      split at e
      · rename_i b ρ' e'
        cases e
        refine ⟨_, _, _, _, _, R, e', fun v σ' H' own' F' G R' r' nd fr => q v H' F' (fun a o e => R'.base a o e) (r'.sub fun a h => ?_) nd fun y hy => (fr y hy).1⟩
        rcases h with h | ⟨y, hy, rfl⟩
        · exact .inl h
        · exact .inr (by rw [(fr y hy).2]; rfl)
      · cases e
    · cases e
end
def fCallF (g : List D → Option B) (fa : FA) : FF := fun ρ => match fa ρ with
  | some (ds, ρ1) => (match g ds with
    | some b => some (b, ρ1)
    | none => none)
  | none => none
section
variable {mg : Gx} {Bs : Fx} {M : Addr → Prop} {own : Own} {H H' : Hp} {ρ : List Slot} {σ : L2.St}
/-- new things come in beside the slots -/
theorem RE.come (R : RE mg Bs M own H ρ σ) (s : Same H H') {F : List (Addr × List Nat)} (nd : (F.map (·.1)).Nodup) (fr : ∀ y ∈ F, H y.1 = none) (st : ∀ y ∈ F, ∃ o, H' y.1 = some o) :
    ∃ own', RE mg Bs M own' H' ρ σ ∧ Go M own H own' H' ∧ (∀ y ∈ F, own' y.1 = some (.tmp y.1)) ∧ ∀ a, fb M own' a → fb M own a ∨ ∃ y ∈ F, y.1 = a := by
  refine ⟨fun a => match F.lookup a with | some _ => some (.tmp a) | none => own a, ?_⟩
  have out : ∀ {a : Addr}, (∀ y ∈ F, y.1 ≠ a) → F.lookup a = none := fun {a} h => by
    cases e : F.lookup a with
    | none => rfl
    | some p => exact absurd rfl (h _ (of_lookup e))
  have old : ∀ {a : Addr} {o : HO}, H a = some o → F.lookup a = none := fun {a o} e => out fun y hy z => by rw [← z, fr y hy] at e; cases e
  have back : ∀ a, fb M (fun a => match F.lookup a with | some _ => some (.tmp a) | none => own a) a → fb M own a ∨ ∃ y ∈ F, y.1 = a := fun a q => by
    rcases q with q | q
    · exact .inl (.inl q)
    · cases e : F.lookup a with
      | none => simp only [e] at q; exact .inl (.inr q)
      | some p => exact .inr ⟨_, of_lookup e, rfl⟩
  have x : Ext (fb M own) H (fb M (fun a => match F.lookup a with | some _ => some (.tmp a) | none => own a)) H' := fun a o e n => ⟨s a o e, fun q => by
    rcases back a q with q | ⟨y, hy, rfl⟩
    · exact n q
    · rw [fr y hy] at e; cases e⟩
  refine ⟨⟨R.len, fun a o e => s a o (R.base a o e), fun a o e => ?_, R.mb, fun a e => ?_, fun a c j p e1 e2 => ?_, fun i t u e1 e2 => (R.slots i t u e1 e2).ext x fun a p e => ?_, R.pins⟩, ⟨x, fun a p e => ?_, fun a o e => ⟨o, s a o e⟩⟩, fun y hy => ?_, back⟩
  · simp only [old (R.base a o e)]; exact R.apart a o e
  · cases q : F.lookup a with
    | none => simp only [q] at e; obtain ⟨o, z⟩ := R.there a e; exact ⟨o, s a o z⟩
    | some p => exact st _ (of_lookup q)
  · cases q1 : F.lookup a with
    | some _ => simp only [q1] at e1; cases e1
    | none =>
      cases q2 : F.lookup c with
      | some _ => simp only [q2] at e2; cases e2
      | none => simp only [q1] at e1; simp only [q2] at e2; exact R.inj a c j p e1 e2
  · obtain ⟨o, z⟩ := R.there a (by rw [e]; rfl)
    exact ⟨by simp only [old z]; exact e, by rw [z, s a o z]⟩
  · obtain ⟨o, z⟩ := R.there a (by rw [e]; rfl)
    exact ⟨by simp only [old z]; exact e, by rw [z, s a o z]⟩
  · simp only [lookup_mem (p := y.2) nd hy]
end
section
variable {X : Cx} {x : Str} {p pos : Pos} {e : Expr} {es : List Expr} {fr : FA} {k : Nat} {f : Addr} {fd : FuncData} {ps : List Str} {g : List D → Option B}
theorem df_call (F : FnOk X.prog X.w X.K X.mg X.base CX0 k f fd ps (spFr (GX X) g)) (hr : Room k X.A) (hg : Gl X x) (hm : X.mg x = some (.ref f)) (hk : PySem.W.keepIn X.K (.ref f) = true) (hb : Binds X.K fd ps [])
    (ha : DA X (e :: es) fr) (hdb : (x == ("__debug__" : Str)) = false := by decide) (he : starEach (e :: es) X.env = (false, eval e X.env) :: starEach es X.env := by rfl) (hpl : (backTo pos (starEach es X.env)).any (·.1) = false := by rfl) :
    DF X (.Call (.Name x p) (e :: es) [] pos) (fCallF g fr) := weakE (pe_call F hr hg hm hk hb .nil pass0 ha hdb he hpl) fun σ H Q ⟨Bs, M, own, ρ, d, ρ', R, h, kk⟩ => by
  unfold fCallF at h
  split at h
  · rename_i ds ρ1 e1
    split at h
    · rename_i b e2
      cases h
      refine ⟨Bs, M, own, ρ, _, _, R, e1, fun vs H1 own1 G1 R1 r1 => ?_⟩
      refine ⟨fb M own1, ds, d, fun a q => R1.fresh q, by rw [List.append_nil]; exact r1, e2, fun v H2 Fs s2 r2 nd fr2 => ?_⟩
      obtain ⟨own2, R2, G2, t2, b2⟩ := R1.come s2 nd fr2 r2.stands
      exact kk v H2 own2 Fs (G1.trans G2) R2 (r2.sub b2) nd fun y hy => ⟨G1.fresh (fr2 y hy), t2 y hy⟩
    · cases h
  · cases h
end

/-! ### xs.index(x) -/
def dIndex (d e : D) : Option D := match toPy d, toPy e with
  | some (.list qs), some p => if SeqAt.shaped p = true ∧ SeqAt.shaped (.list qs) = true then (match qs.findIdx? fun z => PyData.eqv z p with
    | some j => some (.int (j : Nat))
    | none => none) else none
  | _, _ => none
section
variable {X : Cx} {o e : Expr} {fo fe : FQ} {apos cpos : Pos}
theorem dq_index (hu : X.A.units + 65 < cLine) (ho : DK X o fo) (he : DQ X e fe) (hbase : attributeBase o "index" X.env (eval o X.env) = eval o X.env := by rfl)
    (hfew : ((backTo cpos (starEach [e] X.env)).all (fun x => !x.1) && (backToKw cpos (keywordEach [] X.env)).all (fun x => x.1.isSome)
      && decide ([e].length + ([] : List Keyword).length + (if ([] : List Keyword).isEmpty then 0 else 1) < 30)) = true := by rfl)
    (hline : (apos.endLine == cpos.line) = true := by rfl) (hs : starEach [e] X.env = (false, eval e X.env) :: starEach [] X.env := by rfl) (hplain : (backTo cpos (starEach [] X.env)).any (·.1) = false := by rfl) :
    DQ X (.Call (.Attribute o "index" apos) [e] [] cpos) (qBin dIndex fo fe) :=
  weakE (pe_bm PySem.F.plainAttrs_list PySem.F.slot_list_index PySem.F.type_list_index (mt_indexD hu) ho (pa_cons he pa_nil hs) hbase hfew hline hs hplain) fun σ H Q ⟨Bs, M, own, ρ, d, R, h, k⟩ => by
    unfold qBin at h
    split at h
    · rename_i x y e1 e2
      unfold dIndex at h
      split at h
      · rename_i qs q p1 p2
        split at h
        · rename_i hc
          split at h
          · rename_i j hj
            cases h
            refine ⟨Bs, M, own, ρ, _, R, e1, fun v H1 s1 r1 => ?_⟩
            have hl : ∀ {A : Addr → Prop} {H : Hp}, Rep (GX X) A H x v → ∃ a xs, v = .ref a ∧ H a = some (.lst xs) := fun {A H} r => by
              cases x with
              | lst ds => simp only [Rep] at r; obtain ⟨a, xs, rfl, _, h, _⟩ := r; exact ⟨a, xs, rfl, h⟩
              | tup ds => simp only [toPy] at p1; obtain ⟨_, _, z⟩ := Option.map_eq_some_iff.mp p1; cases z
              | _ => simp [toPy] at p1
            obtain ⟨a, xs, ev, ha⟩ := hl r1
            refine ⟨by rw [ev]; exact .inl ⟨rfl, xs, .inl (.inl ha)⟩, Bs, M, own, ρ, _, R.same s1, e2, fun w H2 s2 r2 => ?_⟩
            obtain ⟨hlt, hz, hno⟩ := List.findIdx?_eq_some_iff_getElem.mp hj
            refine ⟨a, w, q, qs, j, qs[j], ev, rfl, by rw [← ev]; exact toPy_dp p1 (r1.ext (Same.ext s2)), toPy_dp p2 r2, hc.2, hc.1, List.getElem?_eq_getElem hlt, hz, fun m z' hm e => ?_, ?_⟩
            · obtain ⟨hm', rfl⟩ := List.getElem?_eq_some_iff.mp e
              simpa using hno m hm
            · exact k _ H2 (s1.trans s2) (by simp [Rep])
          · cases h
        · cases h
      · cases h
    · cases h
end

/-! ### slices -/
def cutL {α : Type} (xs : List α) (lo hi : Option Int) : List α := (xs.drop (HT.sIx xs.length 0 lo)).take (HT.sIx xs.length xs.length hi - HT.sIx xs.length 0 lo)
abbrev FO := List Slot → Option (Option Int)
def oNone : FO := fun _ => some none
def oSome (f : FQ) : FO := fun ρ => match f ρ with
  | some (.int i) => some (some i)
  | _ => none
def cO (mg : Gx) (f : FO) : TO := fun σ H Q => ∃ Bs M own ρ o, RE mg Bs M own H ρ σ ∧ f ρ = some o ∧ ∀ H', Same H H' → Q o H'
abbrev DO (X : Cx) (o : Option Expr) (f : FO) : Prop := PO X o (cO (GX X) f)
def dCut (d : D) (lo hi : Option Int) : Option D := match d with
  | .tup ds => some (.tup (cutL ds lo hi))
  | .lst ds => some (.lst (cutL ds lo hi))
  | .scr ns => some (.lst ((cutL ns lo hi).map .int))
  | .str z => if z.length ≤ sizeLine then some (.str (cutS z lo hi)) else none
  | _ => none
def qCut (f : FQ) (lo hi : FO) : FQ := fun ρ => match f ρ, lo ρ, hi ρ with
  | some d, some l, some h => dCut d l h
  | _, _, _ => none
def rSlAll (K : PySem.W.Frag) : V → Option Int → Option Int → Hp → VK → Prop := fun x lo hi H Q => rSlL K x lo hi H Q ∨ rSlA K x lo hi H Q ∨ rSlS x lo hi H Q
theorem sl_all {X : Cx} : SlR X (rSlAll X.K) := sl_list.or (sl_tupA.or sl_str)
theorem Reps.cut {mg : Gx} {A : Addr → Prop} {H : Hp} {ds : List D} {vs : List V} (r : Reps mg A H ds vs) (lo hi : Option Int) : Reps mg A H (cutL ds lo hi) (cutV vs lo hi) := by
  unfold cutL cutV
  rw [r.length]
  exact (r.drop _).take _
theorem cut_map (ns : List Int) (lo hi : Option Int) : cutV (ns.map V.int) lo hi = (cutL ns lo hi).map V.int := by
  unfold cutV cutL
  rw [List.length_map, ← List.map_drop, ← List.map_take]
section
variable {X : Cx} {e : Expr} {f fe : FQ} {fl fh : FO} {lo hi : Option Expr} {p2 pos : Pos}
theorem do_none : DO X none oNone := ⟨fun pins s σ H Q I h => po_none.run pins s σ H Q I (by
  obtain ⟨Bs, M, own, ρ, o, R, q, k⟩ := h
  cases q
  exact k H fun _ _ q => q)⟩
theorem do_some (h : DQ X e fe) : DO X (some e) (oSome fe) := ⟨fun pins s σ H Q I hq => (po_some h).run pins s σ H Q I (by
  obtain ⟨Bs, M, own, ρ, o, R, q, k⟩ := hq
  unfold oSome at q
  split at q
  · rename_i i e1
    cases q
    exact ⟨Bs, M, own, ρ, _, R, e1, fun v H' s r => by simp only [Rep] at r; exact ⟨i, r, k H' s⟩⟩
  · cases q)⟩
theorem dq_cut (he : DQ X e f) (hl : DO X lo fl) (hh : DO X hi fh) : DQ X (.Subscript e (.Slice lo hi none p2) pos) (qCut f fl fh) := weakE (pe_slice sl_all he hl hh) fun σ H Q ⟨Bs, M, own, ρ, d, R, q, k⟩ => by
  unfold qCut at q
  split at q
  · rename_i d0 l h e1 e2 e3
    refine ⟨Bs, M, own, ρ, _, R, e1, fun v H1 s1 r1 => ?_⟩
    refine ⟨Bs, M, own, ρ, _, R.same s1, e2, fun H2 s2 => ?_⟩
    refine ⟨Bs, M, own, ρ, _, R.same (s1.trans s2), e3, fun H3 s3 => ?_⟩
    have R3 := R.same ((s1.trans s2).trans s3)
    have r3 := r1.ext (Same.ext (A := fb M own) (s2.trans s3))
    have s13 := (s1.trans s2).trans s3
    cases d0 with
    | tup ds =>
      simp only [dCut] at q; cases q
      simp only [Rep] at r3
      obtain ⟨a, xs, rfl, na, ha, ra⟩ := r3
      refine .inr (.inl ⟨a, xs, rfl, .inl (.inl ha), fun z => ?_, fun _ p hp => ?_⟩)
      · have ec : cutL ds l h = ds := by
          unfold cutL
          rw [← ra.length, z.1, z.2, List.drop_zero, Nat.sub_zero, ra.length, List.take_length]
        exact k _ H3 s13 (by simp only [Rep]; exact ⟨a, xs, rfl, na, ha, by rw [ec]; exact ra⟩)
      · have s := same_upd (o := .tup (cutV xs l h)) hp
        exact k _ _ (s13.trans s) (by simp only [Rep]; exact ⟨p, _, rfl, R3.fresh hp, upd_same, (ra.cut l h).ext (Same.ext s)⟩)
    | lst ds =>
      simp only [dCut] at q; cases q
      simp only [Rep] at r3
      obtain ⟨a, xs, rfl, na, ha, ra⟩ := r3
      refine .inl ⟨a, xs, rfl, .inl (.inl ha), fun p hp => ?_⟩
      have s := same_upd (o := .lst (cutV xs l h)) hp
      exact k _ _ (s13.trans s) (by simp only [Rep]; exact ⟨p, _, rfl, R3.fresh hp, upd_same, (ra.cut l h).ext (Same.ext s)⟩)
    | scr ns =>
      simp only [dCut] at q; cases q
      simp only [Rep] at r3
      obtain ⟨a, rfl, ha⟩ := r3
      refine .inl ⟨a, _, rfl, scr_sq (mg := GX X) ha, fun p hp => ?_⟩
      have s := same_upd (o := .lst (cutV (ns.map V.int) l h)) hp
      exact k _ _ (s13.trans s) (by simp only [Rep]; exact ⟨p, _, rfl, R3.fresh hp, upd_same, by rw [cut_map]; exact Reps_ints _⟩)
    | str z =>
      simp only [dCut] at q
      split at q
      · rename_i hz
        cases q
        simp only [Rep] at r3
        exact .inr (.inr ⟨z, r3, hz, k _ H3 s13 (by simp [Rep])⟩)
      · cases q
    | _ => simp [dCut] at q
  · cases q
end
end DL
end

section
set_option Elab.async false
set_option linter.all false
set_option maxRecDepth 100000
/-! DL10: lists looked at once, targets side by side -/
namespace DL
open PySem PySem.Spec PyProof.Rows L2
section
variable {X : Cx} {e : Expr} {es : List Expr} {f : FQA} {pos : Pos}
theorem dk_lst (h : DQA X es f) : DK X (.List es pos) (qArgs dLst f) := weakE (pe_lst (weakA h fun σ H Q q => q)) fun σ H Q ⟨Bs, M, own, ρ, d, R, q, k⟩ => by
  unfold qArgs at q
  split at q
  · rename_i ds e1
    unfold dLst at q
    split at q
    · rename_i hl
      cases q
      refine ⟨Bs, M, own, ρ, _, R, e1, fun vs H1 s1 r1 => ⟨by rw [r1.length]; exact hl, fun p hp => ?_⟩⟩
      have s := same_upd (o := .lst vs) hp
      refine k _ _ (s1.trans s) ?_
      simp only [Rep]
      exact ⟨p, vs, rfl, fun m => (R.same s1).fresh hp (.inl m), upd_same, (r1.ext (Same.ext s)).ext fun a o e n => ⟨e, fun q => n (.inl q)⟩⟩
    · cases q
  · cases q
end
/-! ### x, y(, z) = new or not -/
def slotF : B → Slot
  | .imm d => .val d
  | b => .box false b
def setSF : List Nat → List B → List Slot → List Slot
  | i :: is, b :: bs, ρ => setSF is bs (ρ.set i (slotF b))
  | _, _, ρ => ρ
def setSV : List Nat → List V → L2.St → L2.St
  | i :: is, v :: vs, σ => setSV is vs (σ.set i (some v))
  | _, _, σ => σ
section
variable {mg : Gx} {Bs : Fx} {M : Addr → Prop} {own own0 own1 : Own} {H H0 H1 : Hp} {ρ ρ1 : List Slot} {σ : L2.St}
theorem RE.setS (R1 : RE mg Bs M own1 H1 ρ1 σ) {i : Nat} {b : B} {v : V} {F : List (Addr × List Nat)} (r : RepF mg (fb M own1) H1 [] b v F) (nd : (F.map (·.1)).Nodup) (un : ∀ y ∈ F, own1 y.1 = some (.tmp y.1)) :
    RE mg Bs M (ownF (unown i own1) i F) H1 (ρ1.set i (slotF b)) (σ.set i (some v)) := by
  cases b with
  | imm d =>
    simp only [RepF] at r
    obtain ⟨r, rfl⟩ := r
    exact R1.setVal r
  | own bs => exact R1.setF r nd un
  | odct ks ds => exact R1.setF r nd un
theorem fb_ownF {i : Nat} {F : List (Addr × List Nat)} (un : ∀ y ∈ F, own1 y.1 = some (.tmp y.1)) : ∀ a, fb M (ownF (unown i own1) i F) a → fb M own1 a := fun a q => by
  rcases q with q | q
  · exact .inl q
  · obtain ⟨o, e⟩ := Option.isSome_iff_exists.mp q
    rcases of_ownF e with ⟨p, _, hp⟩ | e
    · exact .inr (by rw [show own1 a = _ from un _ hp]; rfl)
    · exact fb_unown (.inr (by rw [e]; rfl))
theorem RFs.sub {A A' : Addr → Prop} (x : ∀ a, A' a → A a) : ∀ {bs : List B} {vs : List V} {Fs : List (List (Addr × List Nat))}, RFs mg A H bs vs Fs → RFs mg A' H bs vs Fs
  | [], _, _, h => h
  | b :: bs, vs, Fs, h => by
    obtain ⟨y, ys, F, Gs, rfl, rfl, h1, h2⟩ := h
    exact ⟨y, ys, F, Gs, rfl, rfl, h1.sub x, RFs.sub x h2⟩
theorem set_side (R0 : ∀ a, (own0 a).isSome = true → ∃ o, H0 a = some o) : ∀ {is : List Nat} {bs : List B} {vs : List V} {Fs : List (List (Addr × List Nat))} {own1 : Own} {ρ1 : List Slot} {σ : L2.St}, is.length = bs.length → RE mg Bs M own1 H1 ρ1 σ → Go M own0 H0 own1 H1 → RFs mg (fb M own1) H1 bs vs Fs → (Fs.flatten.map (·.1)).Nodup →
    (∀ y ∈ Fs.flatten, H0 y.1 = none ∧ own1 y.1 = some (.tmp y.1)) → ∃ own2, RE mg Bs M own2 H1 (setSF is bs ρ1) (setSV is vs σ) ∧ Go M own0 H0 own2 H1
  | [], [], vs, Fs, own1, ρ1, σ, hl, R, G, r, nd, t => by
    obtain ⟨rfl, rfl⟩ := r
    exact ⟨own1, R, G⟩
  | i :: is, b :: bs, vs, Fs, own1, ρ1, σ, hl, R, G, r, nd, t => by
    obtain ⟨y, ys, F, Gs, rfl, rfl, h1, h2⟩ := r
    rw [List.flatten_cons, List.map_append, List.nodup_append] at nd
    obtain ⟨n1, n2, n3⟩ := nd
    have tF : ∀ y ∈ F, own1 y.1 = some (.tmp y.1) := fun y hy => (t y (by rw [List.flatten_cons]; exact List.mem_append_left _ hy)).2
    have fF : ∀ y ∈ F, H0 y.1 = none := fun y hy => (t y (by rw [List.flatten_cons]; exact List.mem_append_left _ hy)).1
    refine set_side R0 (is := is) (bs := bs) (Fs := Gs) (by simpa using hl) (R.setS (i := i) h1 n1 tF) (go_setF R0 G tF fF) (h2.sub (fb_ownF tF)) n2 fun z hz => ?_
    have q := t z (by rw [List.flatten_cons]; exact List.mem_append_right _ hz)
    refine ⟨q.1, ?_⟩
    rw [ownF_out fun y hy e => n3 _ (List.mem_map_of_mem hy) _ (List.mem_map_of_mem hz) e]
    exact unown_tmp q.2
def fParF (is : List Nat) (f : FAF) : FS := fun ρ => match f ρ with
  | some (bs, ρ1) => if is.length = bs.length then some (.nx (setSF is bs ρ1)) else none
  | none => none
end
section
variable {X : Cx}
theorem ds_parF {i j : Nat} {x y : Str} {a b : Expr} {fa : FAF} {px py pt pos : Pos} {kt k2 pt2} (hc : X.calm = true) (hN : X.N.Nodup) (hi : X.N[i]? = some x) (hj : X.N[j]? = some y) (hij : i ≠ j)
    (hx : X.env.scope.names.lookup x = some .local) (hy : X.env.scope.names.lookup y = some .local) (ha : DAF X [a, b] fa)
    (hw : swappedStores [.Tuple [.Name x px, .Name y py] kt pt] (.Tuple [a, b] k2 pt2) X.env = pure (some [x, y]))
    (hs : swapsWithSole [.Tuple [.Name x px, .Name y py] kt pt] (.Tuple [a, b] k2 pt2) pos.line X.env = pure false := by rfl) :
    DS X (.Assign [.Tuple [.Name x px, .Name y py] kt pt] (.Tuple [a, b] k2 pt2) pos) (fParF [i, j] fa) := weakS (ps_par hc hN hi hj hij hx hy ha hw hs) fun Dn σ H ⟨Bs, M, own, ρ, o, R, h, p⟩ => by
  unfold fParF at h
  split at h
  · rename_i bs ρ1 e1
    split at h
    · rename_i hl
      cases h
      refine ⟨Bs, M, own, ρ, _, _, R, e1, fun vs H1 own1 Fs G1 R1 r1 nd t => ?_⟩
      obtain ⟨own2, R2, G2⟩ := set_side (R.there) hl R1 G1 r1 nd t
      match bs, vs, hl, r1, R2 with
      | [b1, b2], vs, _, r1, R2 =>
        obtain ⟨y1, ys, F, Gs, rfl, rfl, h1, h2⟩ := r1
        obtain ⟨y2, ys, F, Gs, rfl, rfl, h2, h3⟩ := h2
        obtain ⟨rfl, rfl⟩ := h3
        exact ⟨y1, y2, rfl, p _ H1 _ G2 R2⟩
    · cases h
  · cases h
theorem ds_parF3 {i j l : Nat} {x y z : Str} {a b c : Expr} {fa : FAF} {px py pz pt pos : Pos} {kt k2 pt2} (hc : X.calm = true) (hN : X.N.Nodup) (hi : X.N[i]? = some x) (hj : X.N[j]? = some y) (hl : X.N[l]? = some z) (hij : i ≠ j) (hil : i ≠ l) (hjl : j ≠ l)
    (hx : X.env.scope.names.lookup x = some .local) (hy : X.env.scope.names.lookup y = some .local) (hz : X.env.scope.names.lookup z = some .local) (ha : DAF X [a, b, c] fa)
    (hw : swappedStores [.Tuple [.Name x px, .Name y py, .Name z pz] kt pt] (.Tuple [a, b, c] k2 pt2) X.env = pure (some [x, y, z]))
    (hs : swapsWithSole [.Tuple [.Name x px, .Name y py, .Name z pz] kt pt] (.Tuple [a, b, c] k2 pt2) pos.line X.env = pure false := by rfl) :
    DS X (.Assign [.Tuple [.Name x px, .Name y py, .Name z pz] kt pt] (.Tuple [a, b, c] k2 pt2) pos) (fParF [i, j, l] fa) := weakS (ps_par3 hc hN hi hj hl hij hil hjl hx hy hz ha hw hs) fun Dn σ H ⟨Bs, M, own, ρ, o, R, h, p⟩ => by
  unfold fParF at h
  split at h
  · rename_i bs ρ1 e1
    split at h
    · rename_i hl
      cases h
      refine ⟨Bs, M, own, ρ, _, _, R, e1, fun vs H1 own1 Fs G1 R1 r1 nd t => ?_⟩
      obtain ⟨own2, R2, G2⟩ := set_side (R.there) hl R1 G1 r1 nd t
      match bs, vs, hl, r1, R2 with
      | [b1, b2, b3], vs, _, r1, R2 =>
        obtain ⟨y1, ys, F, Gs, rfl, rfl, h1, h2⟩ := r1
        obtain ⟨y2, ys, F, Gs, rfl, rfl, h2, h3⟩ := h2
        obtain ⟨y3, ys, F, Gs, rfl, rfl, h3, h4⟩ := h3
        obtain ⟨rfl, rfl⟩ := h4
        exact ⟨y1, y2, y3, rfl, p _ H1 _ G2 R2⟩
    · cases h
  · cases h
end
/-! ### op= on ints -/
def dAddI : D → D → Option D
  | .int i, .int j => some (.int (i + j))
  | _, _ => none
def dSubI : D → D → Option D
  | .int i, .int j => some (.int (i - j))
  | _, _ => none
theorem od_iadd {mg : Gx} : OpD mg (ipI fun i j => i + j) dAddI := od_int0 (g := fun i j => .int (i + j)) fun d e z h => by
  cases d <;> cases e <;> simp only [dAddI, reduceCtorEq, Option.some.injEq] at h
  exact ⟨_, _, rfl, rfl, fun A H => by rw [← h]; simp [Rep]⟩
theorem od_isub {mg : Gx} : OpD mg (ipI fun i j => i - j) dSubI := od_int0 (g := fun i j => .int (i - j)) fun d e z h => by
  cases d <;> cases e <;> simp only [dSubI, reduceCtorEq, Option.some.injEq] at h
  exact ⟨_, _, rfl, rfl, fun A H => by rw [← h]; simp [Rep]⟩
/-! ### the law's start -/
theorem law_start {mg : Str → Option Value} {K : PySem.W.Frag} {H : Hp} {a : Addr} {ns : List Int} {n : Nat} {g : List D → Option D} {E : XK} (hl : ns.length ≤ n) (hO : Only H) (hS : SqL K H a (ns.map V.int)) (hg : g [.scr ns] = some (.bl true)) :
    spD ⟨mg, K⟩ g [.ref a] H (fun v _ => v = .bl true) E := by
  refine ⟨fun _ => False, [.scr ns], _, fun _ _ => id, ?_, hg, fun v H' _ r => by simpa [Rep] using r⟩
  simp only [Reps, Rep]
  exact ⟨_, _, rfl, ⟨a, rfl, hS.elim (fun h => .inl ⟨id, h⟩) .inr⟩, rfl⟩
end DL
end

section
set_option Elab.async false
set_option linter.all false
set_option maxRecDepth 100000
/-! DL11: is None, isinstance, signs in texts, list(..), int(..), abs -/
namespace DL
open PySem PySem.Spec PyProof.Rows L2
section
variable {mg : Gx} {K : PySem.W.Frag}
/-! ### is None -/
def noneB : D → Option Bool
  | .non => some true
  | .opq _ => none
  | _ => some false
theorem noneB_rep {A : Addr → Prop} {H : Hp} {d : D} {b : Bool} {v : V} (h : noneB d = some b) (r : Rep mg A H d v) : decide (v = .non) = b := by
  cases d with
  | non => simp only [noneB] at h; cases h; simp only [Rep] at r; rw [r]; rfl
  | opq w => simp [noneB] at h
  | bl x => simp only [noneB] at h; cases h; simp only [Rep] at r; rw [r]; rfl
  | int x => simp only [noneB] at h; cases h; simp only [Rep] at r; rw [r]; rfl
  | str x => simp only [noneB] at h; cases h; simp only [Rep] at r; rw [r]; rfl
  | tup ds => simp only [noneB] at h; cases h; simp only [Rep] at r; obtain ⟨a, xs, rfl, _⟩ := r; rfl
  | lst ds => simp only [noneB] at h; cases h; simp only [Rep] at r; obtain ⟨a, xs, rfl, _⟩ := r; rfl
  | tpx ds => simp only [noneB] at h; cases h; simp only [Rep] at r; obtain ⟨a, xs, o, rfl, _⟩ := r; rfl
  | dct ks ds => simp only [noneB] at h; cases h; simp only [Rep] at r; obtain ⟨a, xs, rfl, _⟩ := r; rfl
  | obj c fn ds => simp only [noneB] at h; cases h; simp only [Rep] at r; obtain ⟨a, C, dx, fs, rfl, _⟩ := r; rfl
  | scr ns => simp only [noneB] at h; cases h; simp only [Rep] at r; obtain ⟨a, rfl, _⟩ := r; rfl
def dIs (d e : D) : Option D := match e with
  | .non => (noneB d).map .bl
  | _ => none
def dIsNot (d e : D) : Option D := match e with
  | .non => (noneB d).map fun b => .bl (!b)
  | _ => none
theorem od_is : OpD mg (fun x y H Q => y = .non ∧ Q (.bl (decide (x = .non))) H) dIs := fun A H x y d e z Q hA rx ry h k => by
  unfold dIs at h
  split at h
  · obtain ⟨b, e1, rfl⟩ := Option.map_eq_some_iff.mp h
    simp only [Rep] at ry
    refine ⟨ry, ?_⟩
    rw [noneB_rep e1 rx]
    exact k _ H (fun _ _ q => q) (by simp [Rep])
  · cases h
theorem od_isnot : OpD mg (fun x y H Q => y = .non ∧ Q (.bl (!decide (x = .non))) H) dIsNot := fun A H x y d e z Q hA rx ry h k => by
  unfold dIsNot at h
  split at h
  · obtain ⟨b, e1, rfl⟩ := Option.map_eq_some_iff.mp h
    simp only [Rep] at ry
    refine ⟨ry, ?_⟩
    rw [noneB_rep e1 rx]
    exact k _ H (fun _ _ q => q) (by simp [Rep])
  · cases h
/-! ### a sign in a text, something in a list -/
def dInX (d e : D) : Option D := match e with
  | .str z => (match d with
    | .str x => (match x.cps.toList with
      | [c] => some (.bl (decide (c ∈ z.cps.toList)))
      | _ => none)
    | _ => none)
  | _ => dIn d e
def dNotInX (d e : D) : Option D := match e with
  | .str z => (match d with
    | .str x => (match x.cps.toList with
      | [c] => some (.bl (!decide (c ∈ z.cps.toList)))
      | _ => none)
    | _ => none)
  | _ => dNotIn d e
theorem one_sign {x : Str} {c : Nat} (h : x.cps.toList = [c]) : x = ⟨#[c]⟩ := by
  cases x with
  | mk a =>
    congr 1
    exact Array.toList_inj.mp h
/-! ### isinstance(x, T), T built in -/
def tyD : D → Option String
  | .non => some "NoneType"
  | .bl _ => some "bool"
  | .int _ => some "int"
  | .str _ => some "str"
  | .tup _ => some "tuple"
  | .tpx _ => some "tuple"
  | .lst _ => some "list"
  | .dct _ _ => some "dict"
  | _ => none
theorem tyD_rep {A : Addr → Prop} {H : Hp} {d : D} {t : String} {v : V} (h : tyD d = some t) (r : Rep mg A H d v) : TyX K H v (.type t) := by
  cases d with
  | non => simp only [tyD, Rep] at h r; cases h; subst r; exact .base .non
  | bl x => simp only [tyD, Rep] at h r; cases h; subst r; exact .base (.bl x)
  | int x => simp only [tyD, Rep] at h r; cases h; subst r; exact .base (.int x)
  | str x => simp only [tyD, Rep] at h r; cases h; subst r; exact .base (.str x)
  | tup ds => simp only [tyD, Rep] at h r; cases h; obtain ⟨a, xs, rfl, _, e, _⟩ := r; exact .base (.tup e)
  | lst ds => simp only [tyD, Rep] at h r; cases h; obtain ⟨a, xs, rfl, _, e, _⟩ := r; exact .base (.lst e)
  | tpx ds => simp only [tyD, Rep] at h r; cases h; obtain ⟨a, xs, o, rfl, _, e, _⟩ := r; exact .fTuple e
  | dct ks ds =>
    simp only [tyD, Rep] at h r; cases h
    obtain ⟨a, kvs, rfl, _, e, _⟩ := r
    rcases e with e | ⟨o, e⟩
    · exact .base (.dK e)
    · exact .fDict e
  | _ => simp [tyD] at h
def isiB (s t : String) : Bool := s == t || (s == "bool" && t == "int")
def tys1 : List String := ["NoneType", "bool", "int", "str", "tuple", "list", "dict"]
def tys2 : List String := ["bool", "int", "str", "tuple", "list", "dict"]
theorem kit_b : ∀ s ∈ tys1, ∀ t ∈ tys2, PySem.W.kitOne K (.type s) (.type t) = some (isiB s t) := by
  intro s hs t ht
  simp only [tys1, tys2, List.mem_cons, List.not_mem_nil, or_false] at hs ht
  rcases hs with rfl | rfl | rfl | rfl | rfl | rfl | rfl <;> rcases ht with rfl | rfl | rfl | rfl | rfl | rfl <;> kernel_rfl
def dIsi : List D → Option D
  | [d, .opq (.ty t)] => (match tyD d with
    | some s => if s ∈ tys1 ∧ t ∈ tys2 then some (.bl (isiB s t)) else none
    | none => none)
  | _ => none
theorem cd_isi : CallD mg (rIsi K) dIsi := fun A H xs ds z Q hA r h k => by
  unfold dIsi at h
  split at h
  · rename_i d t
    split at h
    · rename_i s e1
      split at h
      · rename_i hc
        cases h
        simp only [Reps, Rep] at r
        obtain ⟨v, _, rfl, rv, w, _, rfl, rfl, rfl⟩ := r
        exact ⟨v, .ty t, .type s, .type t, isiB s t, rfl, .ty t, tyD_rep e1 rv, kit_b s hc.1 t hc.2, k _ H (fun _ _ q => q) (by simp [Rep])⟩
      · cases h
    · cases h
  · cases h
end
section
variable {X : Cx} {x : Str} {pos : Pos}
/-- the name of a built-in class -/
theorem dq_ty {T : String} (hg : Gl X x) (hm : X.mg x = none) (hv : bootBuiltins x = some (.type T)) (hn : x ≠ "__name__" := by decide) (hd : (x == ("__debug__" : Str)) = false := by decide) : DQ X (.Name x pos) (qC (.opq (.ty T))) :=
  dq_c (pe_bltn (v := .ty T) hg hm hv rfl hn hd) rfl fun _ _ => by simp [Rep]
end
end DL
end

section
set_option Elab.async false
set_option linter.all false
set_option maxRecDepth 100000
/-! DL12: methods by the class of the thing at hand -/
namespace DL
open PySem PySem.Spec PyProof.Rows L2
/-- each class of the table g has the method m, and it does what g tells -/
def MethOk (X : Cx) (m : Str) (k : Nat) (g : Str → Option (List D → Option D)) : Prop :=
  ∀ c gg, g c = some gg → ∃ C f fd ps, X.mg c = some (.ref C) ∧ Cls X.K C ∧ Meth X.K C m f ∧ FnOk X.prog X.w X.K X.mg X.base CX0 k f fd ps (spD (GX X) gg) ∧ Binds X.K fd ps []
def fMeth (m : Str) (g : Str → Option (List D → Option D)) (fo : FE) (fa : FA) : FE := fun ρ => match fo ρ with
  | some (.obj c fn ds, ρ1) => if m ∈ fn then none else (match g c with
    | some gg => (match fa ρ1 with
      | some (as, ρ2) => (match gg (.obj c fn ds :: as) with
        | some z => some (z, ρ2)
        | none => none)
      | none => none)
    | none => none)
  | _ => none
theorem lookup_none {m : Str} : ∀ {fs : List (Str × V)}, m ∉ fs.map (·.1) → fs.lookup m = none
  | [], _ => rfl
  | (n, v) :: fs, h => by
    have hn : (m == n) = false := beq_eq_false_iff_ne.mpr fun e => h (by rw [e]; simp)
    simp only [List.lookup, hn]
    exact lookup_none fun q => h (List.mem_cons_of_mem _ q)
section
variable {X : Cx} {o e : Expr} {es : List Expr} {fo : FE} {fa : FA} {m : Str} {k : Nat} {g : Str → Option (List D → Option D)} {pos apos : Pos}
theorem cE_meth {c : Str} {C : Addr} {fn : List Str} {ds : List D} {gg : List D → Option D} {E : XK} {σ : L2.St} {H : Hp} {Q : VK} {Bs : Fx} {M : Addr → Prop} {own : Own} {ρ ρ1 ρ2 : List Slot} {as : List D} {z : D}
    (hC : X.mg c = some (.ref C)) (R : RE (GX X) Bs M own H ρ σ) (h1 : fo ρ = some (.obj c fn ds, ρ1)) (hn : m ∉ fn) (h2 : fa ρ1 = some (as, ρ2)) (h3 : gg (.obj c fn ds :: as) = some z)
    (kk : ∀ v H' own', Go M own H own' H' → RE (GX X) Bs M own' H' ρ2 σ → Rep (GX X) (fb M own') H' z v → Q v H') : tMeth C m (spD (GX X) gg) [] E (cE (GX X) fo) (cA (GX X) fa) σ H Q := by
  refine ⟨Bs, M, own, ρ, _, _, R, h1, fun x H1 own1 G1 R1 r1 => ?_⟩
  have r1' := r1
  simp only [Rep] at r1
  obtain ⟨a, C', dx, fs, rfl, na, hc', ha, hf, rs⟩ := r1
  have : C' = C := by
    have q : X.mg c = some (.ref C') := hc'
    rw [hC] at q
    injection q with q; injection q with q; exact q.symm
  subst this
  refine ⟨a, dx, fs, rfl, ha, lookup_none (by rw [hf]; exact hn), Bs, M, own1, ρ1, _, _, R1, h2, fun vs H2 own2 G2 R2 r2 => ?_⟩
  refine ⟨fb M own2, .obj c fn ds :: as, z, fun a q => R2.fresh q, ?_, h3, fun u H3 s3 r3 => ?_⟩
  · rw [List.append_nil]
    simp only [Reps]
    exact ⟨_, _, rfl, r1'.ext G2.ext, r2⟩
  · exact kk u H3 own2 ((G1.trans G2).trans (R2.goSame s3)) (R2.same s3) r3
theorem meth_nil {mg : Gx} {C : Addr} {sp : Sp} {E : XK} {σ : L2.St} {H : Hp} {Q : VK} (h : tMeth C m sp [] E (cE mg fo) (cA mg fNil) σ H Q) : tMeth C m sp [] E (cE mg fo) tNil σ H Q := by
  obtain ⟨Bs1, M1, own1, ρ3, d3, ρ4, R3, e3, k3⟩ := h
  refine ⟨Bs1, M1, own1, ρ3, d3, ρ4, R3, e3, fun x H1 own2 G1 R1 r1 => ?_⟩
  obtain ⟨a, dx, fs, e1, e2, e4, Bs5, M5, own5, ρ5, as5, ρ6, R5, e5, k5⟩ := k3 x H1 own2 G1 R1 r1
  refine ⟨a, dx, fs, e1, e2, e4, ?_⟩
  cases e5
  exact k5 [] H1 own5 .refl R5 (by simp [Reps])
theorem de_meth {pl : Sem Bool} (he : DE X o fo) (hm : MethOk X m k g) (hr : Room k X.A) (ha : DA X (e :: es) fa)
    (hst : starEach (e :: es) X.env = (false, eval e X.env) :: starEach es X.env := by rfl) (hpl : (backTo pos (starEach es X.env)).any (·.1) = false := by rfl)
    (ht : eval (.Call (.Attribute o m apos) (e :: es) [] pos) X.env = (do
      let ov ← eval o X.env
      standAt apos.atName
      let (f, first) ← holding [ov] (getMethod ov m pl)
      callWith pos f first (backTo pos (starEach (e :: es) X.env)) (backToKw pos (keywordEach [] X.env))) := by rfl) : DE X (.Call (.Attribute o m apos) (e :: es) [] pos) (fMeth m g fo fa) := by
  refine ⟨fun pins s σ H Q I ⟨Bs, M, own, ρ, d, ρ', R, h, kk⟩ => ?_⟩
  unfold fMeth at h
  split at h
  · rename_i c fn ds ρ1 h1
    split at h
    · cases h
    · rename_i hn
      split at h
      · rename_i gg hg
        split at h
        · rename_i as ρ2 h2
          split at h
          · rename_i z h3
            cases h
            obtain ⟨C, f, fd, ps, hC, hcl, hme, F, hb⟩ := hm c gg hg
            exact (pe_meth he hcl hme F hr hb .nil pass0 ha hst hpl ht).run pins s σ H Q I (cE_meth hC R h1 hn h2 h3 kk)
          · cases h
        · cases h
      · cases h
  · cases h
theorem de_meth0 {pl : Sem Bool} (he : DE X o fo) (hm : MethOk X m k g) (hr : Room k X.A)
    (ht : eval (.Call (.Attribute o m apos) [] [] pos) X.env = (do
      let ov ← eval o X.env
      standAt apos.atName
      let (f, first) ← holding [ov] (getMethod ov m pl)
      callWith pos f first (backTo pos (starEach [] X.env)) (backToKw pos (keywordEach [] X.env))) := by rfl) : DE X (.Call (.Attribute o m apos) [] [] pos) (fMeth m g fo fNil) := by
  refine ⟨fun pins s σ H Q I ⟨Bs, M, own, ρ, d, ρ', R, h, kk⟩ => ?_⟩
  unfold fMeth at h
  split at h
  · rename_i c fn ds ρ1 h1
    split at h
    · cases h
    · rename_i hn
      split at h
      · rename_i gg hg
        split at h
        · rename_i as ρ2 h2
          split at h
          · rename_i z h3
            cases h
            obtain ⟨C, f, fd, ps, hC, hcl, hme, F, hb⟩ := hm c gg hg
            exact (pe_meth0 he hcl hme F hr hb .nil pass0 ht).run pins s σ H Q I (meth_nil (cE_meth hC R h1 hn h2 h3 kk))
          · cases h
        · cases h
      · cases h
  · cases h
end
end DL
end

section
set_option Elab.async false
set_option linter.all false
set_option maxRecDepth 100000
/-! DL13: C(), where __init__ is object's; a field read -/
namespace DL
open PySem PySem.Spec PyProof.Rows L2
structure Bare (K : PySem.W.Frag) (C : Addr) : Prop where
  makes : PySem.W.makesIn K C = true
  init : PySem.W.findIn K (.ref C) "__init__" = some (some (.builtin "object.__init__"))
  kp : PySem.W.keepIn K (.ref C) = true
section
variable {X : Cx} {C : Addr} {c x : Str} {p pos : Pos}
theorem run_bare {pins : List (Addr × Obj)} {σ : L2.St} {H : Hp} {s : Shared} {Q : VK} (M : Bare X.K C) (I : Inv X pins σ H s)
    (h : ∀ x dx, H x = none → H dx = none → dx ≠ x → Q (.ref x) (upd (upd H dx (.own x)) x (.ins C dx []))) :
    wpAny (model X.prog X.w) X.A (call (.ref C) []) (EP X pins σ Q) X.xe s := by
  have hq := h (s.heap.objs.size + 1) s.heap.objs.size (I.hok.fresh (Nat.le_succ _)) (I.hok.fresh (Nat.le_refl _)) (Nat.ne_of_lt (Nat.lt_succ_self _))
  have I2 := Inv.made (C := C) I
  refine wpAny_call (make_map0 I.kIn M.makes M.init (fun self => PySem.W.Looks.of_pure (PySem.W.oi_bind _)) ?_)
  have Y := PySem.W.makes_of (M := model X.prog X.w) I.kIn M.makes
  have t1 : PySem.W.Looks (model X.prog X.w) ((s.heap.push PySem.W.emptyDict).push (PySem.W.instObj C s.heap.objs.size)) (typeOf (.ref (s.heap.objs.size + 1))) (.ref C) := (PySem.W.Looks.ld (by heap_get)).andThen .now
  have t2 : PySem.W.Looks (model X.prog X.w) ((s.heap.push PySem.W.emptyDict).push (PySem.W.instObj C s.heap.objs.size)) (isInstance (.ref (s.heap.objs.size + 1)) (.type "object")) true := t1.andThen (Y.top.keeps fun b o e => Heap.get?_push_of_some _ (Heap.get?_push_of_some _ e))
  refine codeAny_call_builtin PySem.W.oi_plain PySem.W.entry_oi (@PySem.W.check_slot (model X.prog X.w) _ _ _ "object.__init__" "object" "__init__" (.ref (s.heap.objs.size + 1)) [] [] _ PySem.W.oi_kind PySem.W.oi_split t2 (PySem.W.oi_args (.ref (s.heap.objs.size + 1))) ?_)
  rw [PySem.W.oi_run]
  exact wpAny_pure ⟨rfl, V.ref (s.heap.objs.size + 1), _, I2, rfl, hq⟩
def tBare (C : Addr) : TE := fun σ H Q => ∀ x dx, H x = none → H dx = none → dx ≠ x → Q (.ref x) (upd (upd H dx (.own x)) x (.ins C dx []))
theorem pe_bare (M : Bare X.K C) (hg : Gl X x) (hm : X.mg x = some (.ref C)) (hdb : (x == ("__debug__" : Str)) = false := by decide) : PE X (.Call (.Name x p) [] [] pos) (tBare C) := by
  refine ⟨fun pins s σ H Q I h => ?_⟩
  refine wpAny_Call_Name_kw (ld_glob I hg hm ?_ hdb)
  exact PySem.W.callWith_K0 I.kIn M.kp (run_bare M I h)
/-- C() -/
theorem de_bare (M : Bare X.K C) (hg : Gl X x) (hm : X.mg x = some (.ref C)) (hdb : (x == ("__debug__" : Str)) = false := by decide) : DE X (.Call (.Name x p) [] [] pos) (fC (.obj x [] [])) :=
  weakE (pe_bare M hg hm hdb) fun σ H Q ⟨Bs, Mm, own, ρ, d, ρ', R, h, k⟩ a dx ha hd hne => by
    cases h
    have s1 := same_upd (o := .own a) hd
    have ha2 : (upd H dx (.own a)) a = none := by rw [upd_ne (Ne.symm hne)]; exact ha
    have s2 := same_upd (o := .ins C dx []) ha2
    refine k _ _ own (R.goSame (s1.trans s2)) (R.same (s1.trans s2)) ?_
    simp only [Rep]
    exact ⟨a, C, dx, [], rfl, R.fresh ha, hm, upd_same, rfl, by simp [Reps]⟩
end
end DL
end

section
set_option Elab.async false
set_option linter.all false
set_option maxRecDepth 100000
/-! DL14: fields; and, or as values -/
namespace DL
open PySem PySem.Spec PyProof.Rows L2
def FldOk (X : Cx) (cs : List Str) (f : Str) : Prop := ∀ c ∈ cs, ∃ C, X.mg c = some (.ref C) ∧ Cls X.K C ∧ NoAttr X.K C f
def qFld (cs : List Str) (f : Str) (fe : FQ) : FQ := fun ρ => match fe ρ with
  | some (.obj c fn ds) => if c ∈ cs then (fn.zip ds).lookup f else none
  | _ => none
theorem fld_rep {mg : Gx} {A : Addr → Prop} {H : Hp} {f : Str} : ∀ {fs : List (Str × V)} {ds : List D} {d : D}, Reps mg A H ds (fs.map (·.2)) → ((fs.map (·.1)).zip ds).lookup f = some d → ∃ v, fs.lookup f = some v ∧ Rep mg A H d v
  | [], ds, d, r, h => by simp [List.lookup] at h
  | (n, v) :: fs, [], d, r, h => by simp [List.lookup] at h
  | (n, v) :: fs, e :: ds, d, r, h => by
    simp only [List.map_cons, Reps] at r
    obtain ⟨x, xs, e1, r1, r2⟩ := r
    injection e1 with e1 e2
    subst e1; subst e2
    simp only [List.map_cons, List.zip_cons_cons, List.lookup] at h ⊢
    cases q : f == n with
    | true => simp only [q] at h ⊢; cases h; exact ⟨_, rfl, r1⟩
    | false => simp only [q] at h ⊢; exact fld_rep r2 h
section
variable {X : Cx} {e a b : Expr} {rest : List Expr} {fe : FQ} {f : Str} {cs : List Str} {pos : Pos} {fa fb' : FE}
theorem dq_fld (he : DQ X e fe) (hc : FldOk X cs f) (hb : attributeBase e f X.env (eval e X.env) = eval e X.env := by rfl) : DQ X (.Attribute e f pos) (qFld cs f fe) := weakE (pe_fld he hb) fun σ H Q ⟨Bs, M, own, ρ, d, R, h, k⟩ => by
  unfold qFld at h
  split at h
  · rename_i c fn ds e1
    split at h
    · rename_i hm
      refine ⟨Bs, M, own, ρ, _, R, e1, fun v H1 s1 r1 => ?_⟩
      simp only [Rep] at r1
      obtain ⟨a, C, dx, fs, rfl, na, hmg, ha, hf, rs⟩ := r1
      obtain ⟨C', hC, hcl, hno⟩ := hc c hm
      have : C = C' := by
        have q : X.mg c = some (.ref C) := hmg
        rw [hC] at q
        injection q with q; injection q with q; exact q.symm
      subst this
      rw [← hf] at h
      obtain ⟨v, l, r⟩ := fld_rep rs h
      exact ⟨a, C, dx, fs, v, rfl, ha, hcl, hno, l, k v H1 s1 r⟩
    · cases h
  · cases h
/-! ### and, or, not as values (of truths) -/
def fAndV (f g : FE) : FE := fun ρ => match f ρ with
  | some (.bl true, ρ1) => g ρ1
  | some (.bl false, ρ1) => some (.bl false, ρ1)
  | _ => none
def fOrV (f g : FE) : FE := fun ρ => match f ρ with
  | some (.bl true, ρ1) => some (.bl true, ρ1)
  | some (.bl false, ρ1) => g ρ1
  | _ => none
def fNotV (f : FE) : FE := fun ρ => match f ρ with
  | some (.bl b, ρ1) => some (.bl (!b), ρ1)
  | _ => none
theorem de_bo1 {op : BoolOp} {f : FE} (h : DE X a f) : DE X (.BoolOp op [a] pos) f := pe_one h
theorem de_and (ha : DE X a fa) (hb : DE X (.BoolOp .And (b :: rest) pos) fb') : DE X (.BoolOp .And (a :: b :: rest) pos) (fAndV fa fb') := weakE (pe_and ha hb) fun σ H Q ⟨Bs, M, own, ρ, d, ρ', R, h, k⟩ => by
  unfold fAndV at h
  split at h
  · rename_i ρ1 e1
    refine ⟨Bs, M, own, ρ, _, _, R, e1, fun v H1 own1 G1 R1 r1 => ?_⟩
    simp only [Rep] at r1
    exact ⟨true, r1, by rw [if_pos rfl]; exact ⟨Bs, M, own1, ρ1, _, _, R1, h, fun v H2 own2 G2 R2 r2 => k v H2 own2 (G1.trans G2) R2 r2⟩⟩
  · rename_i ρ1 e1
    cases h
    refine ⟨Bs, M, own, ρ, _, _, R, e1, fun v H1 own1 G1 R1 r1 => ?_⟩
    simp only [Rep] at r1
    exact ⟨false, r1, by rw [if_neg (by decide)]; exact k _ H1 own1 G1 R1 (by simp [Rep])⟩
  · cases h
theorem de_or (ha : DE X a fa) (hb : DE X (.BoolOp .Or (b :: rest) pos) fb') : DE X (.BoolOp .Or (a :: b :: rest) pos) (fOrV fa fb') := weakE (pe_or ha hb) fun σ H Q ⟨Bs, M, own, ρ, d, ρ', R, h, k⟩ => by
  unfold fOrV at h
  split at h
  · rename_i ρ1 e1
    cases h
    refine ⟨Bs, M, own, ρ, _, _, R, e1, fun v H1 own1 G1 R1 r1 => ?_⟩
    simp only [Rep] at r1
    exact ⟨true, r1, by rw [if_pos rfl]; exact k _ H1 own1 G1 R1 (by simp [Rep])⟩
  · rename_i ρ1 e1
    refine ⟨Bs, M, own, ρ, _, _, R, e1, fun v H1 own1 G1 R1 r1 => ?_⟩
    simp only [Rep] at r1
    exact ⟨false, r1, by rw [if_neg (by decide)]; exact ⟨Bs, M, own1, ρ1, _, _, R1, h, fun v H2 own2 G2 R2 r2 => k v H2 own2 (G1.trans G2) R2 r2⟩⟩
  · cases h
theorem de_not (ha : DE X a fa) : DE X (.UnaryOp .Not a pos) (fNotV fa) := weakE (pe_not ha) fun σ H Q ⟨Bs, M, own, ρ, d, ρ', R, h, k⟩ => by
  unfold fNotV at h
  split at h
  · rename_i b ρ1 e1
    cases h
    refine ⟨Bs, M, own, ρ, _, _, R, e1, fun v H1 own1 G1 R1 r1 => ?_⟩
    simp only [Rep] at r1
    exact ⟨b, r1, k _ H1 own1 G1 R1 (by simp [Rep])⟩
  · cases h
end
end DL
end

section
set_option Elab.async false
set_option linter.all false
set_option maxRecDepth 100000
/-! DL15: in, not in over lists and texts; int, abs; list(..) -/
namespace DL
open PySem PySem.Spec PyProof.Rows L2
section
variable {mg : Gx} {K : PySem.W.Frag}
def rInX (K : PySem.W.Frag) : R2 := fun x y H Q => rInD K x y H Q ∨ (∃ (c : Nat) (z : Str), x = .str ⟨#[c]⟩ ∧ y = .str z ∧ Q (.bl (decide (c ∈ z.cps.toList))) H)
def rNotInX (K : PySem.W.Frag) : R2 := fun x y H Q => rNotInD K x y H Q ∨ (∃ (c : Nat) (z : Str), x = .str ⟨#[c]⟩ ∧ y = .str z ∧ Q (.bl (!decide (c ∈ z.cps.toList))) H)
theorem od_inX : OpD mg (rInX K) dInX := fun A H x y d e z Q hA rx ry h k => by
  unfold dInX at h
  split at h
  · split at h
    · split at h
      · rename_i zz d0 xx l0 c hc
        cases h
        simp only [Rep] at rx ry
        exact .inr ⟨c, zz, by rw [rx, one_sign hc], ry, k _ H (fun _ _ q => q) (by simp [Rep])⟩
      · cases h
    · cases h
  · exact .inl (od_in A H x y _ _ z Q hA rx ry h k)
theorem od_notinX : OpD mg (rNotInX K) dNotInX := fun A H x y d e z Q hA rx ry h k => by
  unfold dNotInX at h
  split at h
  · split at h
    · split at h
      · rename_i zz d0 xx l0 c hc
        cases h
        simp only [Rep] at rx ry
        exact .inr ⟨c, zz, by rw [rx, one_sign hc], ry, k _ H (fun _ _ q => q) (by simp [Rep])⟩
      · cases h
    · cases h
  · exact .inl (od_notin A H x y _ _ z Q hA rx ry h k)
theorem op_inX {X : Cx} (hu : X.A.units + 65 < cLine) : OpR X (compareOp .In) (rInX X.K) := (op_inD hu).or op_in_sign
theorem op_notInX {X : Cx} (hu : X.A.units + 65 < cLine) : OpR X (compareOp .NotIn) (rNotInX X.K) := (op_notInD hu).or op_notIn_sign
/-! ### int(..), abs(..), list(..) -/
def dInt1 : List D → Option D
  | [.int i] => some (.int i)
  | [.bl b] => some (.int (if b then 1 else 0))
  | _ => none
theorem cd_int1 : CallD mg (fun xs H Q => (∃ i, xs = [.int i] ∧ Q (.int i) H) ∨ ∃ k, xs = [.bl k] ∧ Q (.int (if k then 1 else 0)) H) dInt1 := fun A H xs ds z Q hA r h k => by
  unfold dInt1 at h
  split at h
  · cases h
    simp only [Reps, Rep] at r
    obtain ⟨v, _, rfl, rfl, rfl⟩ := r
    exact .inl ⟨_, rfl, k _ H (fun _ _ q => q) (by simp [Rep])⟩
  · cases h
    simp only [Reps, Rep] at r
    obtain ⟨v, _, rfl, rfl, rfl⟩ := r
    exact .inr ⟨_, rfl, k _ H (fun _ _ q => q) (by simp [Rep])⟩
  · cases h
def dAbs : List D → Option D
  | [.int i] => some (.int (if i < 0 then -i else i))
  | _ => none
theorem cd_abs : CallD mg (fun xs H Q => ∃ i, xs = [.int i] ∧ Q (.int (if i < 0 then -i else i)) H) dAbs := fun A H xs ds z Q hA r h k => by
  unfold dAbs at h
  split at h
  · cases h
    simp only [Reps, Rep] at r
    obtain ⟨v, _, rfl, rfl, rfl⟩ := r
    exact ⟨_, rfl, k _ H (fun _ _ q => q) (by simp [Rep])⟩
  · cases h
theorem cd_list : CallD mg (fun xs H Q => ∃ p ys, xs = [.ref p] ∧ (SqL K H p ys ∨ SqT K H p ys) ∧ ∀ l, H l = none → Q (.ref l) (upd H l (.lst ys))) dList := fun A H xs ds z Q hA r h k => by
  match ds, h with
  | [.tup es], h =>
    simp only [dList] at h; cases h
    simp only [Reps, Rep] at r
    obtain ⟨v, _, rfl, ⟨a, ys, rfl, na, ha, ra⟩, rfl⟩ := r
    refine ⟨a, ys, rfl, .inr (.inl (.inl ha)), fun p hp => ?_⟩
    have s := same_upd (o := .lst ys) hp
    exact k _ _ s (by simp only [Rep]; exact ⟨p, _, rfl, hA p hp, upd_same, ra.ext (Same.ext s)⟩)
  | [.lst es], h =>
    simp only [dList] at h; cases h
    simp only [Reps, Rep] at r
    obtain ⟨v, _, rfl, ⟨a, ys, rfl, na, ha, ra⟩, rfl⟩ := r
    refine ⟨a, ys, rfl, .inl (.inl (.inl ha)), fun p hp => ?_⟩
    have s := same_upd (o := .lst ys) hp
    exact k _ _ s (by simp only [Rep]; exact ⟨p, _, rfl, hA p hp, upd_same, ra.ext (Same.ext s)⟩)
end
end DL
end

section
set_option Elab.async false
set_option linter.all false
set_option maxRecDepth 100000
/-! DL16: list(range(n)) -/
namespace DL
open PySem PySem.Spec PyProof.Rows L2
theorem reps_ints {mg : Gx} {A : Addr → Prop} {H : Hp} : ∀ l : List Int, Reps mg A H (l.map D.int) (l.map V.int)
  | [] => by simp [Reps]
  | i :: l => by
    simp only [List.map_cons, Reps]
    exact ⟨_, _, rfl, by simp [Rep], reps_ints l⟩
theorem rg_eq (n : Int) : rgV 0 n = ((List.range n.toNat).map fun i => ((i : Nat) : Int)).map V.int := by
  unfold rgV
  rw [List.map_map, Int.sub_zero]
  refine List.map_congr_left fun i _ => ?_
  show V.int (0 + (i : Int)) = V.int (i : Int)
  rw [Int.zero_add]
def rgD (n : Int) : List D := ((List.range n.toNat).map fun i => ((i : Nat) : Int)).map D.int
def fListRg (f : FE) : FE := fun ρ => match f ρ with
  | some (.int n, ρ1) => if -(2 ^ 62) ≤ n ∧ n ≤ 16777216 then some (.lst (rgD n), ρ1) else none
  | _ => none
def fListRgF (f : FE) : FF := fun ρ => match f ρ with
  | some (.int n, ρ1) => if -(2 ^ 62) ≤ n ∧ n ≤ 16777216 then some (.own ((rgD n).map .imm), ρ1) else none
  | _ => none
section
variable {X : Cx} {a : Expr} {f : FE} {p p2 pos pos2 : Pos}
theorem rgok {n : Int} (h1 : -(2 ^ 62) ≤ n) (h2 : n ≤ 16777216) : RgOk 0 n := ⟨by omega, by omega, h1, by omega, by omega⟩
theorem de_listRg (hc : X.calm = true) (hg : Gl X "list") (hm : X.mg "list" = none) (hg2 : Gl X "range") (hm2 : X.mg "range" = none) (ha : DE X a f)
    (na : starEach [a] X.env = (false, eval a X.env) :: starEach [] X.env := by rfl)
    (nb : starEach [Expr.Call (.Name "range" p2) [a] [] pos2] X.env = (false, eval (.Call (.Name "range" p2) [a] [] pos2) X.env) :: starEach [] X.env := by rfl) :
    DE X (.Call (.Name "list" p) [.Call (.Name "range" p2) [a] [] pos2] [] pos) (fListRg f) := weakE (pe_listRg hc hg hm (prg_1 hg2 hm2 ha na) nb) fun σ H Q ⟨Bs, M, own, ρ, d, ρ', R, h, k⟩ => by
  unfold fListRg at h
  split at h
  · rename_i n ρ1 e1
    split at h
    · rename_i hb
      cases h
      refine ⟨Bs, M, own, ρ, _, _, R, e1, fun v H1 own1 G1 R1 r1 => ?_⟩
      simp only [Rep] at r1
      refine ⟨n, r1, rgok hb.1 hb.2, fun q hq => ?_⟩
      have s := same_upd (o := .lst (rgV 0 n)) hq
      refine k _ _ own1 (G1.trans (R1.goSame s)) (R1.same s) ?_
      simp only [Rep]
      exact ⟨q, _, rfl, R1.fresh hq, upd_same, by rw [rg_eq]; exact reps_ints _⟩
    · cases h
  · cases h
theorem df_listRg (hc : X.calm = true) (hg : Gl X "list") (hm : X.mg "list" = none) (hg2 : Gl X "range") (hm2 : X.mg "range" = none) (ha : DE X a f)
    (na : starEach [a] X.env = (false, eval a X.env) :: starEach [] X.env := by rfl)
    (nb : starEach [Expr.Call (.Name "range" p2) [a] [] pos2] X.env = (false, eval (.Call (.Name "range" p2) [a] [] pos2) X.env) :: starEach [] X.env := by rfl) :
    DF X (.Call (.Name "list" p) [.Call (.Name "range" p2) [a] [] pos2] [] pos) (fListRgF f) := weakE (pe_listRg hc hg hm (prg_1 hg2 hm2 ha na) nb) fun σ H Q ⟨Bs, M, own, ρ, b, ρ', R, h, k⟩ => by
  unfold fListRgF at h
  split at h
  · rename_i n ρ1 e1
    split at h
    · rename_i hb
      cases h
      refine ⟨Bs, M, own, ρ, _, _, R, e1, fun v H1 own1 G1 R1 r1 => ?_⟩
      simp only [Rep] at r1
      refine ⟨n, r1, rgok hb.1 hb.2, fun q hq => ?_⟩
      obtain ⟨R2, G2⟩ := R1.tmpNew (o := .lst (rgV 0 n)) hq
      refine k (.ref q) _ _ [(q, [])] (G1.trans G2) R2 ?_ (by simp) fun y hy => ?_
      · simp only [RepF]
        exact ⟨q, _, [], rfl, upd_same, by rw [rg_eq]; exact RepFs_imm (reps_ints _), rfl⟩
      · rw [List.mem_singleton.mp hy]
        exact ⟨G1.fresh hq, ownAt_same⟩
    · cases h
  · cases h
end
end DL
end

section
set_option Elab.async false
set_option linter.all false
set_option maxRecDepth 100000
/-! DL17: defs that may raise, their calls, try .. except C as e; a hook with one more look -/
namespace DL
open PySem PySem.Spec PyProof.Rows L2
def fRaise (c : Str) : FS := fun ρ => some (.ex c ρ)
theorem ds_raise {X : Cx} {e : Expr} {pos : Pos} {c : Str} {C : Addr} (hc : X.calm = true) (hm : X.mg c = some (.ref C)) (he : PMk X e (fun _ H Q => Q (.ref C) none H)) : DS X (.Raise (some e) none pos) (fRaise c) :=
  weakS (ps_raise hc takes_WT he) fun Dn σ H ⟨Bs, M, own, ρ, o, R, h, p⟩ => by
    cases h
    exact p C σ H own hm .refl R
abbrev GXn := List D → Option (Except Str D)
/-- the promise of a def that changes nothing, and may raise -/
def spX (mg : Gx) (g : GXn) : Sp := fun vs H Q E => ∃ (A : Addr → Prop) (ds : List D) (r : Except Str D), (∀ a, H a = none → ¬ A a) ∧ Reps mg A H ds vs ∧ g ds = some r ∧
  (∀ d, r = .ok d → ∀ v H', Same H H' → Rep mg A H' d v → Q v H') ∧ (∀ c, r = .error c → ∀ C H', mg.mg c = some (.ref C) → Same H H' → E (.ref C) none H')
def fnX (n m : Nat) (F : FS) : GXn := fun ds => if ds.length = m then (match F (ds.map .val ++ List.replicate (n - m) .un) with
  | some (.rt d _) => some (.ok d)
  | some (.nx _) => some (.ok .non)
  | some (.ex c _) => some (.error c)
  | _ => none) else none
section
variable {P : Program} {w : World} {K : PySem.W.Frag} {base : Heap}
theorem fn_okX {mg : Str → Option Value} {x qual : Str} {st : Stmt} {f : Addr} {fd : FuncData} {N ps : List Str} {k n m : Nat} {F : FS} (Fu : Fun K x qual st f fd) (S : FnScope N ps (defScope st)) (hn : N.length = n) (hm : ps.length = m) (hle : m ≤ n)
    (body : ∀ (cdv : Value) (A : Around) (outer : List Env) (s : Shared) (H : Hp) (E : XK), Room k (A.deeper (envOfC qual (defScope st) s.heap.objs.size f cdv)) →
      DSs (cxOf (L2.CX P w) P w K mg base N qual (defScope st) f cdv A outer s H E) (defBody st) F) : FnOk P w K mg base (L2.CX P w) (k + 1) f fd ps (spX ⟨mg, K⟩ (fnX n m F)) := by
  refine Fu.okX S (fun vs H Q E h => ?_) (fun cdv A outer s H vs Q E hr h => ?_)
  · obtain ⟨A, ds, d, hA, r, e, q⟩ := h
    unfold fnX at e
    split at e
    · rename_i z
      rw [r.length, z, hm]
    · cases e
  · obtain ⟨A', ds, d, hA, r, e, q1, q2⟩ := h
    refine ⟨_, body cdv A outer s H E hr, ?_⟩
    unfold fnX at e
    split at e
    · rename_i z
      have R := RE.start hA r hn z hle
      have fin : ∀ {v : V} {H' : Hp} {own' : Own} {d : D}, Rep ⟨mg, K⟩ (fb A' own') H' d v → Rep ⟨mg, K⟩ A' H' d v := fun {v H' own' d} h => h.ext fun a o e n => ⟨e, fun q => n (.inl q)⟩
      split at e
      · rename_i d' ρ' e'
        cases e
        exact ⟨_, _, _, _, _, R, e', fun v σ' H' own' G R' r' => q1 _ rfl v H' (fun a o e => R'.base a o e) (fin r')⟩
      · rename_i ρ' e'
        cases e
        exact ⟨_, _, _, _, _, R, e', fun σ' H' own' G R' => q1 _ rfl .non H' (fun a o e => R'.base a o e) (by simp [Rep])⟩
      · rename_i c ρ' e'
        cases e
        exact ⟨_, _, _, _, _, R, e', fun C σ' H' own' hmc G R' => WT_of (W := fun cls d _ H => E cls d H) (takes_of rfl rfl rfl rfl) (q2 _ rfl C H' hmc fun a o e => R'.base a o e)⟩
      · cases e
    · cases e
end
/-! ### its call, where its answer is stored -/
abbrev FX := List Slot → Option (Except Str D × List Slot)
def fCallX (g : GXn) (fa : FA) : FX := fun ρ => match fa ρ with
  | some (ds, ρ1) => (match g ds with
    | some r => some (r, ρ1)
    | none => none)
  | none => none
def fAsgX (f : FX) (g : FG) : FS := fun ρ => match f ρ with
  | some (.ok d, ρ1) => (match g d ρ1 with
    | some ρ2 => some (.nx ρ2)
    | none => none)
  | some (.error c, ρ1) => some (.ex c ρ1)
  | none => none
section
variable {X : Cx} {x y : Str} {p pos pos' : Pos} {e : Expr} {es : List Expr} {fa : FA} {k : Nat} {f : Addr} {fd : FuncData} {ps : List Str} {g : GXn}
theorem cS_asgX {is : List Nat} {gs : FG} : ∀ Dn σ H, cS (GX X) (WT X) (fAsgX (fCallX g fa) gs) Dn σ H → tAsg (tCallS (spX (GX X) g) (WE (WT X)) (cA (GX X) fa)) (cG (GX X) is gs) Dn σ H := fun Dn σ H ⟨Bs, M, own, ρ, o, R, h, p⟩ => by
  unfold fAsgX fCallX at h
  cases e1 : fa ρ with
  | none => rw [e1] at h; cases h
  | some z =>
    obtain ⟨ds, ρ1⟩ := z
    rw [e1] at h
    simp only at h
    cases e2 : g ds with
    | none => rw [e2] at h; cases h
    | some r =>
      rw [e2] at h
      refine ⟨Bs, M, own, ρ, ds, ρ1, R, e1, fun vs H1 own1 G1 R1 r1 => ?_⟩
      refine ⟨fb M own1, ds, r, fun a q => R1.fresh q, r1, e2, fun d er v H2 s2 r2 => ?_, fun c er C H2 hm s2 => ?_⟩
      · subst er
        simp only at h
        cases e3 : gs d ρ1 with
        | none => rw [e3] at h; cases h
        | some ρ2 =>
          rw [e3] at h
          cases h
          exact ⟨Bs, M, own1, ρ1, d, ρ2, R1.same s2, r2, e3, fun σ2 own2 G2 R2 _ _ => p σ2 H2 own2 ((G1.trans (R1.goSame s2)).trans G2) R2⟩
      · subst er
        cases h
        exact p C σ H2 own1 hm (G1.trans (R1.goSame s2)) (R1.same s2)
theorem cS_setX {i : Nat} : ∀ Dn σ H, cS (GX X) (WT X) (fAsgX (fCallX g fa) (gN i)) Dn σ H → tAsg (tCallS (spX (GX X) g) (WE (WT X)) (cA (GX X) fa)) (gName i) Dn σ H := fun Dn σ H h => by
  have := cS_asgX (is := [i]) Dn σ H h
  obtain ⟨Bs, M, own, ρ, ds, ρ1, R, e1, k⟩ := this
  refine ⟨Bs, M, own, ρ, ds, ρ1, R, e1, fun vs H1 own1 G1 R1 r1 => ?_⟩
  obtain ⟨A, ds', r, hA, r2, e2, k1, k2⟩ := k vs H1 own1 G1 R1 r1
  refine ⟨A, ds', r, hA, r2, e2, fun d er v H2 s2 r3 => ?_, k2⟩
  obtain ⟨Bs', M', own', ρ', d', ρ2, R', r4, e3, k3⟩ := k1 d er v H2 s2 r3
  cases e3
  exact k3 _ _ (go_unown (i := i)) (R'.setVal r4) (by rw [List.length_set]) fun j hj => by
    rw [List.getElem?_set_ne (fun e => hj (by simp [e]))]
theorem ds_asgX {tg : Expr} {is : List Nat} {gs : FG} (F : FnOk X.prog X.w X.K X.mg X.base (L2.CX X.prog X.w) k f fd ps (spX (GX X) g)) (hr : Room k X.A) (hg : Gl X x) (hm : X.mg x = some (.ref f)) (hk : PySem.W.keepIn X.K (.ref f) = true) (hb : Binds X.K fd ps [])
    (ha : DA X (e :: es) fa) (hgs : DG X tg is gs) (hdb : (x == ("__debug__" : Str)) = false := by decide) (he : starEach (e :: es) X.env = (false, eval e X.env) :: starEach es X.env := by rfl) (hpl : (backTo pos (starEach es X.env)).any (·.1) = false := by rfl)
    (hs : swapsWithSole [tg] (.Call (.Name x p) (e :: es) [] pos) pos'.line X.env = pure false := by rfl) (hw : swappedStores [tg] (.Call (.Name x p) (e :: es) [] pos) X.env = pure none := by rfl)
    (h1 : (assignEach [tg] X.env).map (·.2) = [assign tg X.env] := by rfl) : DS X (.Assign [tg] (.Call (.Name x p) (e :: es) [] pos) pos') (fAsgX (fCallX g fa) gs) :=
  weakS (ps_asg (pe_callS F hr hg hm hk hb (fun σ => passAt takes_WT σ) ha hdb he hpl) hgs hs hw h1) cS_asgX
theorem ds_setX {i : Nat} {py : Pos} (hN : X.N.Nodup) (hi : X.N[i]? = some y) (hx : Loc X.env.scope y) (F : FnOk X.prog X.w X.K X.mg X.base (L2.CX X.prog X.w) k f fd ps (spX (GX X) g)) (hr : Room k X.A) (hg : Gl X x) (hm : X.mg x = some (.ref f)) (hk : PySem.W.keepIn X.K (.ref f) = true) (hb : Binds X.K fd ps [])
    (ha : DA X (e :: es) fa) (hdb : (x == ("__debug__" : Str)) = false := by decide) (he : starEach (e :: es) X.env = (false, eval e X.env) :: starEach es X.env := by rfl) (hpl : (backTo pos (starEach es X.env)).any (·.1) = false := by rfl)
    (hs : swapsWith (.Call (.Name x p) (e :: es) [] pos) (some (.Name y py)) pos'.line X.env = pure false := by rfl) (hf : X.fn y = true ∨ X.env.scope.names.lookup y = some .local := by first | exact .inl rfl | exact .inr rfl | assumption) :
    DS X (.Assign [.Name y py] (.Call (.Name x p) (e :: es) [] pos) pos') (fAsgX (fCallX g fa) (gN i)) :=
  weakS (ps_set hN hi hx (pe_callS F hr hg hm hk hb (fun σ => passAt takes_WT σ) ha hdb he hpl) hs hf) cS_setX
end
/-! ### try: body / except c as n: r = isinstance(n, A) and isinstance(n, B) -/
theorem PostS.imp {mg : Gx} {W W' : WX} {Bs : Fx} {M : Addr → Prop} {own : Own} {H : Hp} {Dn : Ends} {o : Out} (hw : ∀ c d σ H, W c d σ H → W' c d σ H) (h : PostS mg W Bs M own H Dn o) : PostS mg W' Bs M own H Dn o := by
  cases o with
  | nx ρ => exact h
  | bk ρ => exact h
  | ct ρ => exact h
  | rt d ρ => exact h
  | rf b ρ => exact h
  | ex c ρ => exact fun C σ' H' own' m G R => hw _ _ _ _ (h C σ' H' own' m G R)
def fTryIs (Fb : FS) (c : Str) (i r : Nat) (b : Bool) : FS := fun ρ => match Fb ρ with
  | some (.ex c' ρ1) => if c' = c ∧ i < ρ1.length then some (.nx (((ρ1.set i .un).set r (.val (.bl b))).set i .un)) else none
  | o => o
/-- isinstance asked of the exception in slot i -/
def tIsI (i : Nat) (b : Bool) : Addr → TE := fun a σ H Q => σ[i]? = some (some (.ref a)) ∧ Q (.bl b) H
section
variable {X : Cx}
theorem pe_isE {a D : Addr} {oe : Obj} {pn : List (Addr × Obj)} {i : Nat} {n cn : Str} {p p1 p2 pos : Pos} {v : V} {cv : Value} {b : Bool} (C : ExcC X.K D) (hz : Zc (.ref D) none oe) (hf : ∃ vs, oe.data = .fields vs) (hg : Gl X "isinstance") (hm : X.mg "isinstance" = none)
    (hN : X.N[i]? = some n) (hv : Vis X.env.scope n) (hd : (n == ("__debug__" : Str)) = false) (hcd : (n == ("__classdict__" : Str)) = false) (hc : PE (X.suite a ((a, oe) :: pn)) (.Name cn p2) (tC v)) (hu : ∀ u, RelV v u → u = cv) (hk : PySem.W.kitOne X.K (.ref D) cv = some b)
    (hs1 : starEach [.Name n p1, .Name cn p2] X.env = (false, eval (.Name n p1) X.env) :: starEach [.Name cn p2] X.env := by rfl) (hs2 : starEach [.Name cn p2] X.env = (false, eval (.Name cn p2) X.env) :: starEach [] X.env := by rfl) (hpl : (backTo pos (starEach [.Name cn p2] X.env)).any (·.1) = false := by rfl) :
    PE (X.suite a ((a, oe) :: pn)) (.Call (.Name "isinstance" p) [.Name n p1, .Name cn p2] [] pos) (tIsI i b a) := by
  have h := pe_callB (X := X.suite a ((a, oe) :: pn)) (p := p) (pos := pos) (call_isE C hz hf) hg hm PyProof.Rows.boot_isinstance (pa_cons (pe_var hN hv hd hcd) (pa_cons hc pa_nil hs2) hs1) (by decide) (by decide) hs1 hpl
  exact weakE h fun σ H Q ⟨e, q⟩ => ⟨.ref a, e, v, cv, b, rfl, hu, hk, q⟩
theorem ds_tryIs {body : List Stmt} {Fb : FS} {c n y an bn : Str} {C : Addr} {i r : Nat} {np pos pos' py p0 p1 p2 p3 p4 p5 pb ps q1 q2 : Pos} {va vb : V} {cva cvb : Value} (hs : X.stack = X.env :: X.outer) (hf : X.env.frame = some X.env.locals) (hN : X.N.Nodup) (hi : X.N[i]? = some n) (hln : X.env.kindOf n = some .local) (hlv : X.env.scope.names.lookup n = some .local)
    (hr : X.N[r]? = some y) (hy : Loc X.env.scope y) (hfy : X.fn y = true ∨ X.env.scope.names.lookup y = some .local)
    (hgc : Gl X c) (hdc : (c == ("__debug__" : Str)) = false) (hmc : X.mg c = some (.ref C)) (hx : PySem.W.exmOne X.K (.ref C) (.ref C) = some true) (EC : ExcC X.K C)
    (hg : Gl X "isinstance") (hm : X.mg "isinstance" = none) (hnd : (n == ("__debug__" : Str)) = false) (hnc : (n == ("__classdict__" : Str)) = false)
    (ha : ∀ a pn, PE (X.suite a pn) (.Name an p2) (tC va)) (hua : ∀ u, RelV va u → u = cva) (hka : PySem.W.kitOne X.K (.ref C) cva = some true)
    (hb : ∀ a pn, PE (X.suite a pn) (.Name bn p5) (tC vb)) (hub : ∀ u, RelV vb u → u = cvb) (hkb : PySem.W.kitOne X.K (.ref C) cvb = some true)
    (hbody : ∀ (pn : List (Addr × Obj)) (xe : Value → Shared → Prop), PassesOwn (model X.prog X.w) X.A X.env xe → DSs (X.tr pn xe) body Fb)
    (hs1 : starEach [.Name n p1, .Name an p2] X.env = (false, eval (.Name n p1) X.env) :: starEach [.Name an p2] X.env := by rfl) (hs2 : starEach [.Name an p2] X.env = (false, eval (.Name an p2) X.env) :: starEach [] X.env := by rfl) (hpl : (backTo q1 (starEach [.Name an p2] X.env)).any (·.1) = false := by rfl)
    (hs3 : starEach [.Name n p4, .Name bn p5] X.env = (false, eval (.Name n p4) X.env) :: starEach [.Name bn p5] X.env := by rfl) (hs4 : starEach [.Name bn p5] X.env = (false, eval (.Name bn p5) X.env) :: starEach [] X.env := by rfl) (hpl2 : (backTo q2 (starEach [.Name bn p5] X.env)).any (·.1) = false := by rfl)
    (hsw : swapsWith (.BoolOp .And [.Call (.Name "isinstance" p0) [.Name n p1, .Name an p2] [] q1, .Call (.Name "isinstance" p3) [.Name n p4, .Name bn p5] [] q2] pb) (some (.Name y py)) ps.line X.env = pure false := by rfl) :
    DS X (.Try body [.ExceptHandler (some (.Name c np)) (some n) [.Assign [.Name y py] (.BoolOp .And [.Call (.Name "isinstance" p0) [.Name n p1, .Name an p2] [] q1, .Call (.Name "isinstance" p3) [.Name n p4, .Name bn p5] [] q2] pb) ps] pos'] [] [] pos) (fTryIs Fb c i r true) := by
  have hvis : Vis X.env.scope n := .inl hlv
  have H0 := ps_try_as (X := X) (x := c) (n := n) (c := .ref C) (i := i) (body := body) (b₀ := .Assign [.Name y py] (.BoolOp .And [.Call (.Name "isinstance" p0) [.Name n p1, .Name an p2] [] q1, .Call (.Name "isinstance" p3) [.Name n p4, .Name bn p5] [] q2] pb) ps) (suite := []) (np := np) (pos := pos) (pos' := pos')
    (tb := fun W => cS (GX X) W Fb) (ts := fun a cls d Dn σ H => cls = .ref C ∧ d = none ∧ σ[i]? = some (some (.ref a)) ∧ Dn.nx (σ.set r (some (.bl true))) H) (Wout := WT X)
    hs hf hN hi hln ⟨hgc, hdc, .inl hmc⟩ takes_WT
    (fun W pn xe tk po => weakSs (hbody pn xe po) fun Dn σ H ⟨Bs, M, own, ρ, o, R, h, p⟩ => ⟨Bs, M, own, ρ, o, R, h, p.imp fun _ _ _ _ w => WT_of tk w⟩)
    (fun a oe cls d pn hz hfl => by
      refine ⟨fun pins s σ H Dn I h => ?_⟩
      obtain ⟨rfl, rfl, hσ, hn⟩ := h
      have A1 : PE (X.suite a ((a, oe) :: pn)) (.Call (.Name "isinstance" p0) [.Name n p1, .Name an p2] [] q1) (tIsI i true a) := pe_isE EC hz hfl hg hm hi hvis hnd hnc (ha a _) hua hka hs1 hs2 hpl
      have A2 : PE (X.suite a ((a, oe) :: pn)) (.Call (.Name "isinstance" p3) [.Name n p4, .Name bn p5] [] q2) (tIsI i true a) := pe_isE EC hz hfl hg hm hi hvis hnd hnc (hb a _) hub hkb hs3 hs4 hpl2
      have A3 := pss_one (ps_set (X := X.suite a ((a, oe) :: pn)) (i := r) (x := y) (pos' := py) (pos := ps) hN hr hy (pe_and (pos := pb) A1 (pe_one A2)) hsw hfy)
      refine A3.run pins s σ H Dn I ?_
      exact ⟨hσ, true, rfl, iteT ⟨hσ, hn⟩⟩)
  refine weakS H0 fun Dn σ H ⟨Bs, M, own, ρ, o, R, h, p⟩ => ?_
  unfold fTryIs at h
  cases e1 : Fb ρ with
  | none => rw [e1] at h; cases h
  | some o1 =>
    rw [e1] at h
    cases o1 with
    | nx ρ1 => cases h; exact ⟨Bs, M, own, ρ, _, R, e1, p⟩
    | bk ρ1 => cases h; exact ⟨Bs, M, own, ρ, _, R, e1, p⟩
    | ct ρ1 => cases h; exact ⟨Bs, M, own, ρ, _, R, e1, p⟩
    | rt d ρ1 => cases h; exact ⟨Bs, M, own, ρ, _, R, e1, p⟩
    | rf b ρ1 => cases h; exact ⟨Bs, M, own, ρ, _, R, e1, p⟩
    | ex c' ρ1 =>
      simp only at h
      split at h
      · rename_i ec
        obtain ⟨ec, hil⟩ := ec
        subst ec
        cases h
        refine ⟨Bs, M, own, ρ, _, R, e1, fun C' σ' H' own' hmc' G R' => ?_⟩
        have eC : C' = C := by
          have q : X.mg c' = some (.ref C') := hmc'
          rw [hmc] at q
          injection q with q; injection q with q; exact q.symm
        subst eC
        refine ⟨true, hx, fun _ a na => ⟨rfl, rfl, ?_, ?_⟩, fun z => nomatch z⟩
        · rw [List.getElem?_set_self (by rw [← R'.len]; exact hil)]
        · have R2 := R'.clear (i := i) (w' := some (.ref a))
          have R3 := R2.setVal (i := r) (d := .bl true) (v := .bl true) (by simp [Rep])
          exact p _ H' _ (((G.trans go_unown).trans go_unown).trans go_unown) (R3.clear (i := i) (w' := none))
      · cases h
end
/-! ### a hook with one more look -/
abbrev AlE : Type := He.Al × Bool
def obsEx (fa : List He.Fa) (fn : List He.FnD) (ex : PySem.W.Frag → Bool) (K : PySem.W.Frag) : AlE := (He.obsE fa fn K, ex K)
def obsExG (n : Nat) (fa : List He.Fa) (fn : List He.FnD) (ex : PySem.W.Frag → Bool) (g : Addr → Option Obj) : AlE := obsEx fa fn ex (He.frG g (He.asG g n))
def hookEx (n : Nat) (fa : List He.Fa) (fn : List He.FnD) (ex : PySem.W.Frag → Bool) : PySem.W.Hook where
  α := AlE
  obs := fun s => obsExG n fa fn ex s.heap.get?
  val := fun _ => (He.valE fn, true)
  says := fun _ h => ∃ K : PySem.W.Frag, K.In h ∧ He.SaysE fa fn K ∧ ex K = true
  of := fun _ _ e => ⟨_, He.frG_in, congrArg Prod.fst e, congrArg Prod.snd e⟩
  keeps := fun _ _ _ ⟨K, hK, c⟩ k => ⟨K, PySem.W.Frag.In.keeps hK k, c⟩
theorem obsExG_eq {n : Nat} {fa : List He.Fa} {fn : List He.FnD} {ex : PySem.W.Frag → Bool} {g : Addr → Option Obj} {s : Shared} (h : ∀ a, g a = s.heap.get? a) : obsExG n fa fn ex g = (hookEx n fa fn ex).obs s := by
  obtain rfl : g = s.heap.get? := funext h
  rfl
/-- what isinstance wants of an own exception class, as a test -/
def excCB (K : PySem.W.Frag) (D : Addr) : Bool :=
  decide (PySem.W.findIn K (.ref D) "__getattribute__" = some (some (.builtin "BaseException.__getattribute__"))) && (decide (PySem.W.findIn K (.ref D) "__getattr__" = some none) && (decide (PySem.W.subIn K (.ref D) (.type "BaseException") = some true) && (PySem.W.hasDictIn K D &&
  (decide (PySem.W.findIn K (.ref D) "__class__" = some (some (.builtin "object.__class__"))) && (decide (PySem.W.specialIn K (.builtin "object.__class__") "__get__" = some (some (.builtin "getset_descriptor.__get__"))) && (decide (PySem.W.takesIn K (.builtin "object.__class__") = some true) && decide (PySem.W.mroIn K D (.type "object") = some true)))))))
theorem excCB_ok {K : PySem.W.Frag} {D : Addr} (h : excCB K D = true) : ExcC K D := by
  unfold excCB at h
  simp only [Bool.and_eq_true, decide_eq_true_eq] at h
  obtain ⟨h1, h2, h3, h4, h5, h6, h7, h8⟩ := h
  exact ⟨h1, h2, h3, h4, h5, h6, h7, h8⟩
def kitB (K : PySem.W.Frag) (D : Addr) (c : Value) : Bool := decide (PySem.W.kitOne K (.ref D) c = some true)
theorem kitB_ok {K : PySem.W.Frag} {D : Addr} {c : Value} (h : kitB K D c = true) : PySem.W.kitOne K (.ref D) c = some true := of_decide_eq_true h
end DL
end

section
set_option Elab.async false
set_option linter.all false
set_option maxRecDepth 100000
/-! DL18: [x] * n; comprehensions whose items are new lists -/
namespace DL
open PySem PySem.Spec PyProof.Rows L2
def repL {α : Type} (k : Int) (ds : List α) : List α := (List.replicate k.toNat ds).flatten
def dRep : D → D → Option D
  | .lst ds, .int k => if -(2 ^ 63) ≤ k ∧ k < 2 ^ 63 ∧ ds.length * k.toNat ≤ sizeLine then some (.lst (repL k ds)) else none
  | _, _ => none
section
variable {mg : Gx} {A : Addr → Prop} {H : Hp}
theorem Reps.rep {ds : List D} {vs : List V} (r : Reps mg A H ds vs) : ∀ n : Nat, Reps mg A H (List.replicate n ds).flatten (List.replicate n vs).flatten
  | 0 => by simpa using Reps.nil
  | n + 1 => by
    rw [List.replicate_succ, List.replicate_succ, List.flatten_cons, List.flatten_cons]
    exact r.append (Reps.rep r n)
theorem od_rep : OpD mg rRep dRep := fun A H x y d e z Q hA r1 r2 h k => by
  unfold dRep at h
  split at h
  · rename_i ds i
    split at h
    · rename_i hc
      cases h
      simp only [Rep] at r1 r2
      obtain ⟨a, xs, rfl, na, ha, rs⟩ := r1
      refine ⟨a, i, xs, rfl, r2, ha, hc.1, hc.2.1, by rw [rs.length]; exact hc.2.2, fun p hp => ?_⟩
      have s := same_upd (o := .lst (List.replicate i.toNat xs).flatten) hp
      exact k _ _ s (by simp only [Rep]; exact ⟨p, _, rfl, hA p hp, upd_same, (rs.rep _).ext (Same.ext s)⟩)
    · cases h
  · cases h
end
/-- [..] * n, new -/
def fRepF (fa : FA) (fk : FE) : FF := fun ρ => match fa ρ with
  | some (ds, ρ1) => (match fk ρ1 with
    | some (.int k, ρ2) => if ds.length ≤ sizeLine ∧ -(2 ^ 63) ≤ k ∧ k < 2 ^ 63 ∧ ds.length * k.toNat ≤ sizeLine then some (.own ((repL k ds).map .imm), ρ2) else none
    | _ => none)
  | none => none
section
variable {X : Cx} {es : List Expr} {e : Expr} {fa : FA} {fk : FE} {pos lpos : Pos}
theorem df_rep (ha : DA X es fa) (hk : DE X e fk) : DF X (.BinOp (.List es lpos) .Mult e pos) (fRepF fa fk) := weakE (pe_op op_rep (pe_lst ha) hk) fun σ H Q ⟨Bs, M, own, ρ, b, ρ', R, q, kk⟩ => by
  unfold fRepF at q
  split at q
  · rename_i ds ρ1 e1
    split at q
    · rename_i i ρ2 e2
      split at q
      · rename_i hc
        cases q
        refine ⟨Bs, M, own, ρ, _, _, R, e1, fun vs H1 own1 G1 R1 r1 => ⟨by rw [r1.length]; exact hc.1, fun p hp => ?_⟩⟩
        have s1 := same_upd (o := .lst vs) hp
        have R2 := R1.same s1
        refine ⟨Bs, M, own1, ρ1, _, _, R2, e2, fun v H3 own3 G3 R3 r3 => ?_⟩
        simp only [Rep] at r3
        have np := R1.fresh hp
        obtain ⟨h3, n3⟩ := G3.ext p _ upd_same np
        refine ⟨p, i, vs, rfl, r3, h3, hc.2.1, hc.2.2.1, by rw [r1.length]; exact hc.2.2.2, fun p' hp' => ?_⟩
        obtain ⟨R4, G4⟩ := R3.tmpNew (o := .lst (List.replicate i.toNat vs).flatten) hp'
        have Gall := ((G1.trans (R1.goSame s1)).trans G3).trans G4
        refine kk (.ref p') _ _ [(p', [])] Gall R4 ?_ (by simp) fun y hy => ?_
        · simp only [RepF]
          have rr := (((r1.ext (Same.ext s1)).ext G3.ext).ext G4.ext).rep i.toNat
          exact ⟨p', _, [], rfl, upd_same, RepFs_imm rr, rfl⟩
        · have ey : y = (p', []) := by simpa using hy
          subst ey
          exact ⟨((G1.trans (R1.goSame s1)).trans G3).fresh hp', ownAt_same⟩
      · cases q
    · cases q
  · cases q
end
/-! ### [new for x in ..] -/
def lcGoF (g : FG) (c : FT) (e : FF) (vs : List Nat) : List D → List Slot → Option (List B × List Slot)
  | [], ρ => some ([], ρ)
  | d :: ds, ρ => match g d ρ with
    | some ρ1 => (match c ρ1 with
      | some (true, ρ2) => (match e ρ2 with
        | some (y, ρ3) => (match lcGoF g c e vs ds (wip ρ3 vs) with
          | some (ys, ρ4) => some (y :: ys, ρ4)
          | none => none)
        | none => none)
      | some (false, ρ2) => lcGoF g c e vs ds (wip ρ2 vs)
      | none => none)
    | none => none
def fLcFF (f : FI) (g : FG) (vs : List Nat) (c : FT) (e : FF) : FF := fun ρ => match f ρ with
  | some (ds, ρ1) => if noBox ρ1 vs = true ∧ ds.length ≤ sizeLine then (match lcGoF g c e vs ds (wip ρ1 vs) with
    | some (ys, ρ2) => some (.own ys, unwip ρ1 ρ2 vs)
    | none => none) else none
  | none => none
section
variable {mg : Gx} {A : Addr → Prop} {H : Hp} {a : Addr} {o : HO}
mutual
theorem RepF.updAt (x : Ext A H A (upd H a o)) : ∀ {p : List Nat} {b : B} {v : V} {F : List (Addr × List Nat)}, RepF mg A H p b v F → (∀ y ∈ F, y.1 ≠ a) → RepF mg A (upd H a o) p b v F
  | _, .imm d, v, F, h, n => by
    simp only [RepF] at h ⊢
    exact ⟨h.1.ext x, h.2⟩
  | p, .own bs, v, F, h, n => by
    simp only [RepF] at h ⊢
    obtain ⟨c, xs, F', rfl, h1, h2, rfl⟩ := h
    exact ⟨c, xs, F', rfl, by rw [upd_ne (n (c, p) List.mem_cons_self)]; exact h1, RepFs.updAt x h2 fun y hy => n y (List.mem_cons_of_mem _ hy), rfl⟩
  | p, .odct ks ds, v, F, h, n => by
    simp only [RepF] at h ⊢
    obtain ⟨c, kvs, rfl, h1, h2, h3, rfl⟩ := h
    exact ⟨c, kvs, rfl, by rw [upd_ne (n (c, p) List.mem_cons_self)]; exact h1, h2, h3.ext x, rfl⟩
theorem RepFs.updAt (x : Ext A H A (upd H a o)) : ∀ {p : List Nat} {k : Nat} {bs : List B} {vs : List V} {F : List (Addr × List Nat)}, RepFs mg A H p k bs vs F → (∀ y ∈ F, y.1 ≠ a) → RepFs mg A (upd H a o) p k bs vs F
  | _, _, [], vs, F, h, n => by simpa only [RepFs] using h
  | p, k, b :: bs, vs, F, h, n => by
    simp only [RepFs] at h ⊢
    obtain ⟨y, ys, F1, F2, rfl, h1, h2, rfl⟩ := h
    exact ⟨y, ys, F1, F2, rfl, RepF.updAt x h1 fun y hy => n y (List.mem_append_left _ hy), RepFs.updAt x h2 fun y hy => n y (List.mem_append_right _ hy), rfl⟩
end
theorem RFs.updAt (x : Ext A H A (upd H a o)) : ∀ {bs : List B} {vs : List V} {Fs : List (List (Addr × List Nat))}, RFs mg A H bs vs Fs → (∀ y ∈ Fs.flatten, y.1 ≠ a) → RFs mg A (upd H a o) bs vs Fs
  | [], vs, Fs, h, n => h
  | b :: bs, vs, Fs, h, n => by
    obtain ⟨y, ys, F, Gs, rfl, rfl, h1, h2⟩ := h
    exact ⟨y, ys, F, Gs, rfl, rfl, h1.updAt x fun z hz => n z (by rw [List.flatten_cons]; exact List.mem_append_left _ hz), RFs.updAt x h2 fun z hz => n z (by rw [List.flatten_cons]; exact List.mem_append_right _ hz)⟩
theorem RFs.snoc {b : B} {v : V} {F : List (Addr × List Nat)} (h : RepF mg A H [] b v F) : ∀ {bs : List B} {vs : List V} {Fs : List (List (Addr × List Nat))}, RFs mg A H bs vs Fs → RFs mg A H (bs ++ [b]) (vs ++ [v]) (Fs ++ [F])
  | [], vs, Fs, r => by
    obtain ⟨rfl, rfl⟩ := r
    exact ⟨v, [], F, [], rfl, rfl, h, rfl, rfl⟩
  | c :: bs, vs, Fs, r => by
    obtain ⟨y, ys, F', Gs, rfl, rfl, h1, h2⟩ := r
    exact ⟨y, _, F', _, rfl, rfl, h1, RFs.snoc h h2⟩
end
section
variable {X : Cx} {elt tg iter : Expr} {ifs : List Expr} {scope : Scope} {own0 : List (Str × Nat)} {pos : Pos} {f : FI} {g : FG} {is : List Nat} {ft : FT} {fe : FF}
/-- how the new list's items stand on the way -/
structure LcI (mg : Gx) (Bs : Fx) (M : Addr → Prop) (own1 : Own) (H1 : Hp) (Da : Addr) (σw : L2.St) (g : FG) (ft : FT) (fe : FF) (vs : List Nat) (yss : List B) (ρ2 : List Slot) (ds : List D) (i : Nat) (H' : Hp) (own' : Own) (ρ' : List Slot) (accb : List B) (acc : List V) (Fs : List (List (Addr × List Nat))) (zs : List B) : Prop where
  go : Go M (ownAt own1 Da (.tmp Da)) (upd H1 Da (.lst [])) own' (upd H' Da (.lst []))
  re : RE mg Bs M own' H' ρ' σw
  own : own' Da = some (.tmp Da)
  at_ : H' Da = some (.lst acc)
  reps : RFs mg (fb M own') H' accb acc Fs
  nd : (Fs.flatten.map (·.1)).Nodup
  tmp : ∀ x ∈ Fs.flatten, (H1 x.1 = none ∧ own' x.1 = some (.tmp x.1)) ∧ x.1 ≠ Da
  rest : lcGoF g ft fe vs (ds.drop i) ρ' = some (zs, ρ2)
  all : accb ++ zs = yss
  len : accb.length ≤ i
theorem cF_lcF {mg : Gx} {vs : List Nat} (hs : ∀ j ∈ is, j ∈ vs) : ∀ σ H Q, cF mg (fLcFF f g vs ft fe) σ H Q → tLc (cI mg f) (cG mg is g) (cT mg ft) (cF mg fe) vs σ H Q := by
  intro σ H Q ⟨Bs, M, own, ρ, d, ρ', R, h, k⟩
  unfold fLcFF at h
  split at h
  · rename_i ds ρ1 e1
    split at h
    · rename_i hc
      obtain ⟨nb, hsz⟩ := hc
      split at h
      · rename_i yss ρ2 e2
        cases h
        refine ⟨Bs, M, own, ρ, ds, ρ1, R, e1, fun J H1 own1 G1 R1 wk => ?_⟩
        intro Da hDa
        obtain ⟨R1t, G1t⟩ := R1.tmpNew (o := .lst []) hDa
        have R1w := R1t.wipe vs
        have tD : unowns (ownAt own1 Da (.tmp Da)) vs Da = some (.tmp Da) := unowns_tmp ownAt_same vs
        refine ⟨fun i m H' => m = ds.length - i ∧ i ≤ ds.length ∧ ∃ own' ρ' accb acc Fs zs, LcI mg Bs M own1 H1 Da (L2.wipe σ vs) g ft fe vs yss ρ2 ds i H' own' ρ' accb acc Fs zs,
          ⟨ds.length, by simp, Nat.zero_le _, unowns (ownAt own1 Da (.tmp Da)) vs, wip ρ1 vs, [], [], [], yss, ⟨by rw [upd_upd]; exact go_unowns vs, R1w, tD, upd_same, ⟨rfl, rfl⟩, by simp, fun x hx => by simp at hx, by simpa using e2, by simp, by simp⟩⟩, ?_⟩
        rintro i m H2 ⟨rfl, hi, own2, ρ3, accb, acc, Fs, zs, L⟩
        have x2 : Ext (fb M (ownAt own1 Da (.tmp Da))) (upd H1 Da (.lst [])) (fb M own2) H2 := fun a o q n => by
          have na : a ≠ Da := fun z => n (.inr (by rw [z, ownAt_same]; rfl))
          obtain ⟨q1, q2⟩ := L.go.ext a o q n
          rw [upd_ne na] at q1
          exact ⟨q1, q2⟩
        have x12 : Ext (fb M own1) H1 (fb M own2) H2 := G1t.ext.trans x2
        have nds : ∀ {b : Addr}, H2 b = none → H1 b = none := fun {b} q => by
          have nb : b ≠ Da := fun z => by rw [z, L.at_] at q; cases q
          have := L.go.fresh (a := b) (by rw [upd_ne nb]; exact q)
          rw [upd_ne nb] at this
          exact this
        by_cases hlt : i < ds.length
        · have e3 := L.rest
          rw [List.drop_eq_getElem_cons hlt] at e3
          unfold lcGoF at e3
          split at e3
          · rename_i ρ4 e6
            refine .inr ⟨wk.goes i H2 _ hlt x12, fun H' => ∃ own' ρ' accb acc Fs zs, LcI mg Bs M own1 H1 Da (L2.wipe σ vs) g ft fe vs yss ρ2 ds (i + 1) H' own' ρ' accb acc Fs zs,
              fun H' q => ⟨ds.length - (i + 1), by omega, rfl, hlt, q⟩, fun x H3 y => ?_⟩
            obtain ⟨s3, r3⟩ := wk.yields i H2 x H3 _ x12 (fun a q => L.re.fresh q) y
            have R3 := L.re.same s3
            have G23 := L.re.goSame s3
            refine ⟨Bs, M, own2, ρ3, _, ρ4, R3, r3 _ (List.getElem?_eq_getElem hlt), e6, fun σ4 own4 G4 R4 l4 q4 => ⟨wipe_same l4 q4 hs, ?_⟩⟩
            have hw4 : L2.wipe σ4 vs = L2.wipe σ vs := wipe_same l4 q4 hs
            have stepG : ∀ {own5 : Own} {H5 : Hp}, Go M own2 H2 own5 H5 → Go M (ownAt own1 Da (.tmp Da)) (upd H1 Da (.lst [])) own5 (upd H5 Da (.lst [])) := fun {own5 H5} G5 => by
              refine ⟨fun a o q n => ?_, fun a p q => ?_, fun a o q => ?_⟩
              · have na : a ≠ Da := fun z => n (.inr (by rw [z, ownAt_same]; rfl))
                obtain ⟨q1, q2⟩ := x2 a o q n
                obtain ⟨q3, q4⟩ := G5.ext a o q1 q2
                exact ⟨by rw [upd_ne na]; exact q3, q4⟩
              · obtain ⟨q1, q2⟩ := L.go.tmp a p q
                obtain ⟨q3, q4⟩ := G5.tmp a p q1
                refine ⟨q3, ?_⟩
                by_cases na : a = Da
                · subst na; rw [upd_same, upd_same]
                · rw [upd_ne na] at q2 ⊢
                  rw [q4, q2]
              · by_cases na : a = Da
                · subst na; exact ⟨_, upd_same⟩
                · rw [upd_ne na]
                  obtain ⟨o2, q2⟩ := L.go.dom a o q
                  rw [upd_ne na] at q2
                  exact G5.dom a o2 q2
            split at e3
            · rename_i ρ5 e7
              split at e3
              · rename_i yv ρ6 e8
                split at e3
                · rename_i ys' ρ7 e9
                  cases e3
                  refine ⟨Bs, M, own4, ρ4, _, _, R4, e7, fun H5 own5 G5 R5 => iteT ?_⟩
                  refine ⟨Bs, M, own5, ρ5, _, _, R5, e8, fun v H6 own6 F6 G6 R6 r6 nd6 fr6 => ?_⟩
                  have G25 : Go M own2 H2 own5 H5 := (G23.trans G4).trans G5
                  have G26 : Go M own2 H2 own6 H6 := G25.trans G6
                  obtain ⟨t6, h6⟩ := G26.tmp Da Da L.own
                  have lacc : acc.length = accb.length := L.reps.len
                  refine ⟨acc, by rw [h6]; exact L.at_, by have := L.len; omega, ?_⟩
                  have R6' := (R6.tmpSet (o := .lst (acc ++ [v])) t6).wipe vs
                  rw [hw4] at R6'
                  have F6ne : ∀ y ∈ F6, y.1 ≠ Da := fun y hy z => by
                    have q := (fr6 y hy).1
                    rw [z, (G25.tmp Da Da L.own).2, L.at_] at q; cases q
                  have xs : Ext (fb M own6) H6 (fb M own6) (upd H6 Da (.lst (acc ++ [v]))) := ext_tmpSet t6
                  have rA : RFs mg (fb M own6) H6 (accb ++ [yv]) (acc ++ [v]) (Fs ++ [F6]) := RFs.snoc r6 (L.reps.go G26 fun y hy => (L.tmp y hy).1.2)
                  have tA : ∀ y ∈ (Fs ++ [F6]).flatten, (H1 y.1 = none ∧ own6 y.1 = some (.tmp y.1)) ∧ y.1 ≠ Da := fun y hy => by
                    rw [List.flatten_append] at hy
                    rcases List.mem_append.mp hy with hy | hy
                    · exact ⟨⟨(L.tmp y hy).1.1, (G26.tmp _ _ (L.tmp y hy).1.2).1⟩, (L.tmp y hy).2⟩
                    · have hy' : y ∈ F6 := by simpa using hy
                      exact ⟨⟨nds (G25.fresh (fr6 y hy').1), (fr6 y hy').2⟩, F6ne y hy'⟩
                  have rB := (rA.updAt xs fun y hy => (tA y hy).2).go (go_unowns vs) fun y hy => (tA y hy).1.2
                  refine ⟨unowns own6 vs, wip ρ6 vs, accb ++ [yv], acc ++ [v], Fs ++ [F6], ys', ⟨?_, R6', unowns_tmp t6 vs, upd_same, rB, ?_, fun y hy => ⟨⟨(tA y hy).1.1, unowns_tmp (tA y hy).1.2 vs⟩, (tA y hy).2⟩, e9, by rw [List.append_assoc]; exact L.all, by rw [List.length_append]; have := L.len; simp; omega⟩⟩
                  · rw [upd_upd]
                    exact stepG (G26.trans (go_unowns vs))
                  · rw [List.flatten_append, List.map_append, List.nodup_append]
                    refine ⟨L.nd, by simpa using nd6, fun a ha c hc z => ?_⟩
                    obtain ⟨y, hy, rfl⟩ := List.mem_map.mp ha
                    obtain ⟨y', hy', rfl⟩ := List.mem_map.mp hc
                    have hy'' : y' ∈ F6 := by simpa using hy'
                    obtain ⟨o5, q5⟩ := G25.dom y.1 _ (L.re.there y.1 (by rw [(L.tmp y hy).1.2]; rfl)).choose_spec
                    rw [z, (fr6 y' hy'').1] at q5; cases q5
                · cases e3
              · cases e3
            · rename_i ρ5 e7
              refine ⟨Bs, M, own4, ρ4, _, _, R4, e7, fun H5 own5 G5 R5 => iteF ?_⟩
              have G25 : Go M own2 H2 own5 H5 := (G23.trans G4).trans G5
              obtain ⟨t5, h5⟩ := G25.tmp Da Da L.own
              have R5' := R5.wipe vs
              rw [hw4] at R5'
              have rA := L.reps.go G25 fun y hy => (L.tmp y hy).1.2
              have tA : ∀ y ∈ Fs.flatten, own5 y.1 = some (.tmp y.1) := fun y hy => (G25.tmp _ _ (L.tmp y hy).1.2).1
              exact ⟨unowns own5 vs, wip ρ5 vs, accb, acc, Fs, zs, ⟨stepG (G25.trans (go_unowns vs)), R5', unowns_tmp t5 vs, by rw [h5]; exact L.at_, rA.go (go_unowns vs) tA, L.nd, fun y hy => ⟨⟨(L.tmp y hy).1.1, unowns_tmp (tA y hy) vs⟩, (L.tmp y hy).2⟩, e3, L.all, by have := L.len; omega⟩⟩
            · cases e3
          · cases e3
        · have e : i = ds.length := by omega
          subst e
          have e3 := L.rest
          rw [List.drop_length] at e3
          have ez : zs = [] ∧ ρ3 = ρ2 := by
            unfold lcGoF at e3
            cases e3; exact ⟨rfl, rfl⟩
          obtain ⟨rfl, rfl⟩ := ez
          refine .inl ⟨wk.stops H2 _ x12, ?_⟩
          have R9 := R1.back L.re x12 nb
          have eA := L.all
          rw [List.append_nil] at eA
          subst eA
          obtain ⟨F, q1, q2⟩ := RFs.join (k := 0) L.reps
          have ft' : ∀ y ∈ F, (H1 y.1 = none ∧ own2 y.1 = some (.tmp y.1)) ∧ y.1 ≠ Da := tmp_of_fst (own := own2) (P := fun a => (H1 a = none ∧ own2 a = some (.tmp a)) ∧ a ≠ Da) q2 L.tmp
          refine k (.ref Da) H2 own2 ((Da, []) :: F) ⟨G1.ext.trans x12, fun a p q => ?_, fun a o q => ?_⟩ R9 ?_ ?_ fun y hy => ?_
          · obtain ⟨q1, q2⟩ := G1.tmp a p q
            have na : a ≠ Da := fun z => by
              obtain ⟨u, z'⟩ := R1.there a (by rw [q1]; rfl)
              rw [z, hDa] at z'; cases z'
            obtain ⟨q3, q4⟩ := L.go.tmp a p (by rw [ownAt_ne na]; exact q1)
            rw [upd_ne na, upd_ne na] at q4
            exact ⟨q3, by rw [q4, q2]⟩
          · obtain ⟨o1, q1⟩ := G1.dom a o q
            have na : a ≠ Da := fun z => by rw [z, hDa] at q1; cases q1
            obtain ⟨o2, q2⟩ := L.go.dom a o1 (by rw [upd_ne na]; exact q1)
            rw [upd_ne na] at q2
            exact ⟨o2, q2⟩
          · simp only [RepF]
            exact ⟨Da, acc, F, rfl, L.at_, q1, rfl⟩
          · rw [List.map_cons, List.nodup_cons]
            refine ⟨fun hm => ?_, by rw [q2]; exact L.nd⟩
            obtain ⟨y, hy, e⟩ := List.mem_map.mp hm
            exact (ft' y hy).2 e
          · rcases List.mem_cons.mp hy with rfl | hy
            · exact ⟨G1.fresh hDa, L.own⟩
            · exact ⟨G1.fresh (ft' y hy).1.1, (ft' y hy).1.2⟩
      · cases h
    · cases h
  · cases h
theorem df_lcF (hc : X.calm = true) (hN : X.N.Nodup) (hi : DI X tg iter f) (ok : BlkOk X.N X.env.scope scope own0) (hs : ∀ j ∈ is, j ∈ own0.map (·.2))
    (hg : ∀ (s : Shared) (H : Hp) (C : Addr) (cl : List (Str × Addr)) (fp : List Addr), DG (X.blk s H scope (compEnvC scope cl C X.env) fp) tg is g) (ht : ∀ (s : Shared) (H : Hp) (C : Addr) (cl : List (Str × Addr)) (fp : List Addr), DTs (X.blk s H scope (compEnvC scope cl C X.env) fp) ifs ft)
    (he : ∀ (s : Shared) (H : Hp) (C : Addr) (cl : List (Str × Addr)) (fp : List Addr), DF (X.blk s H scope (compEnvC scope cl C X.env) fp) elt fe) (hf : ∀ x, foldedSetIterable iter X.env x = pure x := by intro _; rfl) :
    DF X (.ListComp elt [⟨tg, iter, ifs, 0⟩] scope pos) (fLcFF f g (own0.map (·.2)) ft fe) := weakE (pe_lc hc hN hi ok hg ht he hf) (cF_lcF hs)
end
end DL
end

section
set_option Elab.async false
set_option linter.all false
set_option maxRecDepth 100000
/-! SetL: set(a list of ints), sorted -/
namespace L2
open PySem PySem.Spec PyProof.Rows
/-- a set as it is born -/
abbrev bornS (w : World) : Obj := { cls := .type "set", dict := none, data := .set #[] 0 (.fresh 0 0 (!w.params.followText "set-order")) }
section
variable {P : Program} {w : World} {A : Around} {E : Value → Shared → Prop} {s : Shared}
theorem born_get {h : Heap} : (h.push (bornS w)).get? h.objs.size = some (bornS w) := Heap.get?_push_size _ rfl
set_option maxHeartbeats 3200000 in
theorem call_setL {l : Addr} {its : Array Value} (ns : List Int) {Q : Value → Shared → Prop} (hd : A.handled = none) (hL : s.heap.IsList l its) (hI : IntsAre its.toList ns) (hb : ns.length + 1 < scanBound)
    (done : ∀ (h' : Heap) (tk c : Nat), SetR w h' s.heap.objs.size (fun j => decide (j ∈ ns)) c → c ≤ ns.length → (∀ b o, s.heap.get? b = some o → h'.get? b = some o) → Q (.ref s.heap.objs.size) { s with heap := h', toks := tk }) :
    wpAny (model P w) A (call (.type "set") [.ref l]) Q E s := by
  have sz : its.size = ns.length := by rw [← Array.length_toList]; exact IntsAre.length hI
  obtain ⟨c0, tl, hmro⟩ := F.called_set.mro
  have k1 := F.called_set.made
  have k2 := F.called_set.sub
  have k3 := F.called_set.notType
  have k4 := F.called_set.canCreate
  have k5 := F.typeCall_set_1 (.ref l)
  refine wpAny_call (codeAny_of_tree ?_)
  show wpAny _ _ (callAny (.type "set") _) _ _ _
  refine wpAny_pure ⟨Code.quiet_builtin _ (by decide +kernel), codeAny_builtin F.entry_type_call ?_⟩
  rw [Around.under_plain (weight_type_call_type "set" [.ref l] []) rfl]
  repeat (any_goals (first | assumption | wp_step))
  refine codeAny_mono (code_set_led1 (.ref l) (E := E) (Q₁ := fun ob t => ob = .ref s.heap.objs.size ∧ t = { s with heap := s.heap.push (bornS w) }) ⟨rfl, rfl⟩) fun r t hr => ?_
  cases r with
  | error e => exact hr
  | ok fl =>
    cases fl with
    | ret ob =>
      obtain ⟨rfl, rfl⟩ := hr
      have isT : Shared.TypeIs { s with heap := s.heap.push (bornS w) } (.ref s.heap.objs.size) "set" := ⟨_, born_get, rfl⟩
      have k6 := F.called_set.init.lookup
      have k7 := F.called_set.init.bind (.ref s.heap.objs.size)
      repeat (any_goals (first | assumption | wp_step))
      refine codeAny_mono (codeAny_call_builtin (R := wants (fun r t => r = .none ∧ ∃ h' tk c, t = { s with heap := h', toks := tk } ∧ SetR w h' s.heap.objs.size (fun j => decide (j ∈ ns)) c ∧ c ≤ ns.length ∧ ∀ b o, s.heap.get? b = some o → h'.get? b = some o) E)
        F.called_set.init.plain F.entry_set_init (check_set_init_1 isT ?_)) fun r2 t2 hr2 => ?_
      · have hL1 : (s.heap.push (bornS w)).IsList l its := hL.push _
        obtain ⟨⟨oc, od, odt, osl⟩, ho, e1, nl, e2⟩ := hL1
        simp only at e1 e2
        subst e1; subst e2
        have hlt : l < s.heap.objs.size := by
          obtain ⟨o', q, _⟩ := hL
          exact Heap.lt_size q
        have hL2 : (s.heap.push (bornS w)).IsList l its := ⟨_, ho, rfl, nl, rfl⟩
        have k8 := F.sub_list_set
        have k9 := F.sub_list_frozenset
        have k10 : (Value.type "list" == Value.type "dict") = false := by decide
        unfold Builtin.«set.__init__» noKeywords Builtin.Frozenset.updateFrom
        generalize hPI : pyIter = PI
        wp_walk
        subst hPI
        refine wpAny_pyIter_list hL2 (wpAny_bind (wpAny_runValue ?_))
        have zz : (s.heap.push (bornS w)).objs.size = s.heap.objs.size + 1 := Heap.size_push ..
        have ne : l ≠ (s.heap.push (bornS w)).objs.size := by rw [zz]; exact Nat.ne_of_lt (Nat.lt_succ_of_lt hlt)
        have out : s.heap.objs.size ∉ [(s.heap.push (bornS w)).objs.size, l] := by
          rw [zz]
          intro hm
          rcases List.mem_cons.mp hm with q | q
          · omega
          · have e : s.heap.objs.size = l := by simpa using q
            exact absurd hlt (by rw [e]; exact Nat.lt_irrefl _)
        have vals : ∀ (i : Nat) (v : Value), its[i]? = some v → ∃ k t, ns[i]? = some k ∧ v = .int k t := fun i v hv => by
          obtain ⟨t, e⟩ := PyProof.Rows.IntsAre.int_at hI i v (by rw [Array.getElem?_toList]; exact hv)
          have hi : i < ns.length := sz ▸ (Array.getElem?_eq_some_iff.mp hv).1
          exact ⟨_, t, List.getElem?_eq_getElem hi, by rw [e]; simp [List.getD_eq_getElem?_getD, hi]⟩
        refine set_update_ints ((Walks.list (by simp [hd]) _ l ne its).toS) s.heap.objs.size out ns sz hb vals (its.size - 0) 0 _ (by omega) (Nat.zero_le _) ⟨⟨_, Heap.get?_push_size _ rfl, rfl, rfl⟩, hL2.push _⟩
          ⟨0, Nat.le_refl 0, setR_new_at (Heap.get?_push_of_some _ born_get)⟩ fun s' c' hm hc' hS' => ?_
        obtain ⟨h', g2, d', tk', os'⟩ := s'
        obtain rfl : g2 = s.gens := hm.gens
        obtain rfl : d' = s.drawn := hm.drawn
        obtain rfl : os' = s.os := hm.os
        refine wpAny_pure ?_
        show wpAny _ _ (ret Value.none) _ _ _
        refine wpAny_pure ⟨rfl, h', tk', c', rfl, hS', by rw [← sz]; exact hc', fun b o e => ?_⟩
        have lb : b < s.heap.objs.size := Heap.lt_size e
        refine hm.heap b o (fun hmem => ?_) (Heap.get?_push_of_some _ (Heap.get?_push_of_some _ e))
        rcases List.mem_cons.mp hmem with q | q
        · exact absurd lb (by rw [q]; exact Nat.lt_irrefl _)
        · have e2 : b = (s.heap.push (bornS w)).objs.size := by simpa using q
          rw [zz] at e2
          exact absurd lb (by rw [e2]; exact Nat.not_lt.mpr (Nat.le_succ _))
      · cases r2 with
        | error e => exact hr2
        | ok fl2 =>
          cases fl2 with
          | ret r =>
            obtain ⟨rfl, h', tk, c', rfl, hS', hc', hk'⟩ := hr2
            repeat (any_goals (first | assumption | wp_step))
            exact done _ _ _ hS' hc' hk'
          | _ => exact hr2.elim
    | _ => exact hr.elim
end
/-- set(xs), xs a list of fewer than 64 ints -/
def rSetLs (K : PySem.W.Frag) (w : World) : List V → Hp → VK → Prop := fun xs H Q => ∃ (l : Addr) (ns : List Int), xs = [V.ref l] ∧ SqL K H l (ns.map V.int) ∧ ns.length < 64 ∧
  ∀ a c, H a = none → c ≤ ns.length → Q (.ref a) (upd H a (SetO w a (fun j => decide (j ∈ ns)) c))
theorem cr_setL {X : Cx} (hc : X.calm = true) : CallR X (.type "set") (rSetLs X.K X.w) := by
  intro pins s σ H xs us Q I r h
  obtain ⟨l, ns, rfl, hl, hlen, q⟩ := h
  rw [Vals.ref1 r]
  obtain ⟨its, rv, pl, hz⟩ := I.list hl
  refine call_setL (P := X.prog) (w := X.w) ns (I.ok.hd hc) pl.isList (by simpa using rv.ints) (by unfold scanBound; omega) fun h' tk c R hcn k => ?_
  exact ⟨.ref s.heap.objs.size, upd H s.heap.objs.size (SetO X.w s.heap.objs.size (fun j => decide (j ∈ ns)) c), I.laid (t' := tk) k (Nat.le_refl _) (setO_new R), rfl, q _ _ (I.hok.fresh (Nat.le_refl _)) hcn⟩
end L2
namespace DL
open PySem PySem.Spec PyProof.Rows L2
/-- ns rising, its members those of ms -/
def SortedOf (ms ns : List Int) : Prop := ns.Pairwise (· < ·) ∧ ∀ k, k ∈ ns ↔ k ∈ ms
theorem sorted_uniq : ∀ {l l' : List Int}, l.Pairwise (· < ·) → l'.Pairwise (· < ·) → (∀ k, k ∈ l ↔ k ∈ l') → l = l'
  | [], [], _, _, _ => rfl
  | [], y :: l', _, _, h => absurd ((h y).mpr List.mem_cons_self) (by simp)
  | x :: l, [], _, _, h => absurd ((h x).mp List.mem_cons_self) (by simp)
  | x :: l, y :: l', p, p', h => by
    obtain ⟨p1, p2⟩ := List.pairwise_cons.mp p
    obtain ⟨q1, q2⟩ := List.pairwise_cons.mp p'
    have e : x = y := by
      rcases List.mem_cons.mp ((h x).mp List.mem_cons_self) with e | e
      · exact e
      · rcases List.mem_cons.mp ((h y).mpr List.mem_cons_self) with e2 | e2
        · exact e2.symm
        · have := q1 x e; have := p1 y e2; omega
    subst e
    congr 1
    refine sorted_uniq p2 q2 fun k => ⟨fun hk => ?_, fun hk => ?_⟩
    · rcases List.mem_cons.mp ((h k).mp (List.mem_cons_of_mem _ hk)) with e | e
      · have := p1 k hk; omega
      · exact e
    · rcases List.mem_cons.mp ((h k).mpr (List.mem_cons_of_mem _ hk)) with e | e
      · have := q1 k hk; omega
      · exact e
open Classical in
/-- sorted(set(xs)), where the rising list is known -/
noncomputable def dSortSet : D → Option D := fun d => match d with
  | .lst ds => (match intsD ds with
    | some ms => if h : ms.length < 64 ∧ ∃ ns, SortedOf ms ns then some (.lst (h.2.choose.map .int)) else none
    | none => none)
  | _ => none
theorem dSortSet_of {ds : List D} {ms ns : List Int} (h : intsD ds = some ms) (hl : ms.length < 64) (hs : SortedOf ms ns) : dSortSet (.lst ds) = some (.lst (ns.map .int)) := by
  unfold dSortSet
  simp only [h]
  have hx : ms.length < 64 ∧ ∃ ns, SortedOf ms ns := ⟨hl, ns, hs⟩
  rw [dif_pos hx]
  have q := hx.2.choose_spec
  have : hx.2.choose = ns := sorted_uniq q.1 hs.1 fun k => (q.2 k).trans (hs.2 k).symm
  rw [this]
noncomputable def fSortSet (fe : FE) : FE := fun ρ => match fe ρ with
  | some (d, ρ1) => (match dSortSet d with
    | some z => some (z, ρ1)
    | none => none)
  | none => none
theorem de_sortSet {X : Cx} {e : Expr} {fe : FE} {p p2 q pos : Pos} (hc : X.calm = true) (hg : Gl X "sorted") (hm : X.mg "sorted" = none) (hg2 : Gl X "set") (hm2 : X.mg "set" = none) (ha : DE X e fe)
    (h1 : starEach [e] X.env = (false, eval e X.env) :: starEach [] X.env := by rfl) (h2 : starEach [.Call (.Name "set" p2) [e] [] q] X.env = (false, eval (.Call (.Name "set" p2) [e] [] q) X.env) :: starEach [] X.env := by rfl)
    (hp1 : (backTo q (starEach [] X.env)).any (·.1) = false := by rfl) (hp2 : (backTo pos (starEach [] X.env)).any (·.1) = false := by rfl) :
    DE X (.Call (.Name "sorted" p) [.Call (.Name "set" p2) [e] [] q] [] pos) (fSortSet fe) := by
  have hs := pe_callTy (p := p2) (pos := q) (cr_setL hc) hg2 hm2 PyProof.Rows.boot_set (pa_cons ha pa_nil h1) (by decide) (by decide) h1 hp1
  have hh := pe_callB (p := p) (pos := pos) (cr_sortedSet hc) hg hm (by decide +kernel) (pa_cons hs pa_nil h2) (by decide) (by decide) h2 hp2
  refine weakE hh fun σ H Q ⟨Bs, M, own, ρ, d, ρ', R, h, k⟩ => ?_
  unfold fSortSet at h
  split at h
  · rename_i d1 ρ1 e1
    split at h
    · rename_i z e2
      cases h
      refine ⟨Bs, M, own, ρ, _, _, R, e1, fun v H1 own1 G1 R1 r1 => ?_⟩
      unfold dSortSet at e2
      split at e2
      · rename_i ds
        split at e2
        · rename_i ms e3
          split at e2
          · rename_i hx
            cases e2
            simp only [Rep] at r1
            obtain ⟨a, xs, rfl, na, hxa, rs⟩ := r1
            rw [ints_rep e3 rs] at hxa
            refine ⟨a, ms, rfl, .inl (.inl hxa), hx.1, fun a2 c hn hcn => ?_⟩
            have s1 := same_upd (o := SetO X.w a2 (fun j => decide (j ∈ ms)) c) hn
            refine ⟨a2, _, c, rfl, upd_same, Nat.lt_of_le_of_lt hcn hx.1, fun ns p2 hpw hmem hnl hp2 => ?_⟩
            have s2 := same_upd (o := .lst (ns.map V.int)) hp2
            have q := hx.2.choose_spec
            have en : hx.2.choose = ns := sorted_uniq q.1 hpw fun k => (q.2 k).trans ((hmem k).trans (by simp)).symm
            rw [en] at k
            refine k _ _ own1 ((G1.trans (R1.goSame s1)).trans ((R1.same s1).goSame s2)) ((R1.same s1).same s2) ?_
            simp only [Rep]
            refine ⟨p2, _, rfl, (R1.same s1).fresh hp2, upd_same, ?_⟩
            exact Reps_ints ns
          · cases e2
        · cases e2
      · cases e2
    · cases h
  · cases h
end DL
end

section
set_option Elab.async false
set_option linter.all false
set_option maxRecDepth 100000
/-! DL19: a token is out: text.replace(letter, '') where letter was cut off the text -/
namespace L2
open PySem PySem.Spec PyProof.Rows
theorem thnT {α : Type} {M : Model} {A : Around} {t : Sem α} {Q Q' : α → Shared → Prop} {E : Value → Shared → Prop} {s : Shared} {n : Nat} (hk : n ≤ s.toks) (h : wpAny M A t Q E s) (f : ∀ a s', n ≤ s'.toks → Q a s' → Q' a s') : wpAny M A t Q' E s :=
  wpAny_mono (PySem.wpAny_toks_of hk h) (fun a s' x => f a s' x.1 x.2) fun _ _ x => x.2
section
variable {X : Cx}
/-- for, a token being out at each turn -/
theorem pst_forT {tg it : Expr} {body : List Stmt} {wi : TI} {g : TG} {tb : TS} {pos : Pos} (po : PassesOwn (model X.prog X.w) X.A X.env X.xe) (calm : X.calm = true) (pi : PI X tg it wi) (pg : PG X tg g) (pb : PSsT X body tb)
    (fs : ∀ x, foldedSetIterable it X.env x = pure x := by intro _; rfl) : PST X (.For tg it body [] pos) (tFor wi g tb) := by
  intro pins s σ H D tok I h
  refine wpAny_For (thnT tok (pi.run pins s σ H _ I h) fun v s1 k1 h1 => thnT k1 h1 fun w s2 k2 h2 => ?_) fs
  obtain ⟨ia, fp, tn, J, H2, rfl, I2, T, at2, free2, W, ⟨m0, w0⟩, turn⟩ := h2
  have ok : ∀ {G : Hp}, (∀ b ∈ fp, G b = none) → ∀ b ∈ fp, FpOk X pins G b := fun z b hb => ⟨z b hb, (free2 b hb).2⟩
  refine codeAny_forLoop_any (fun n t => 1 ≤ t.toks ∧ ∃ i τ G, Inv X pins τ G t ∧ tn i t.heap ∧ (∀ b ∈ fp, G b = none) ∧ W i n τ G) ?_ m0 ⟨k2, 0, σ, H2, I2, at2, fun b hb => (free2 b hb).1, w0⟩
  rintro n t ⟨kt, i, τ, G, It, att, frt, wt⟩
  rcases turn i n τ G wt with ⟨end_, fin⟩ | ⟨more, N, less, step⟩
  · refine wpAny_passesOwn po (thnT kt (T.done X rfl rfl rfl calm i pins t τ G X.xe It (ok frt) att end_) fun r t1 k1 hr => ?_)
    obtain ⟨rfl, I1⟩ := hr
    exact wpAny_execs_nil ⟨τ, G, I1, fin⟩
  refine wpAny_passesOwn po (thnT kt (T.item X rfl rfl rfl calm i pins t τ G X.xe It (ok frt) att more) fun r t1 k1 hr => ?_)
  obtain ⟨u, rfl, hu⟩ := hr
  refine wpAny_passesOwn po (thnT k1 hu fun _ t2 kk hx => ?_)
  obtain ⟨x, G2, I3, rx, yx, at3, fr3⟩ := hx
  refine wpAny_passesOwn po (thnT kk (pg.run _ t2 τ G2 x u _ (I3.pinned (ok fr3) (T.obj _ _ at3)) rx (step x G2 yx)) fun _ t3 k3 ht => ?_)
  obtain ⟨τ3, G3, I4, q4⟩ := ht
  refine wpAny_passesOwn po (thnT k3 (pb _ t3 τ3 G3 _ k3 I4 q4) fun f t4 k4 q5 => ?_)
  have back : ∀ {τ5 : St} {G5 : Hp}, Inv X (pins ++ pinsAt fp t2.heap) τ5 G5 t4 → N τ5 G5 → ∃ m, m < n ∧ 1 ≤ t4.toks ∧ ∃ i τ G, Inv X pins τ G t4 ∧ tn i t4.heap ∧ (∀ b ∈ fp, G b = none) ∧ W i m τ G := fun {τ5 G5} I5 n5 => by
    obtain ⟨m, hm, w5⟩ := less τ5 G5 n5
    have pinned : ∀ b ∈ fp, ∀ o, t2.heap.get? b = some o → t4.heap.get? b = some o ∧ G5 b = none := fun b hb o e => by
      have z := I5.pin (b, o) (List.mem_append_right _ (List.mem_append_right _ (mem_pinsAt hb e)))
      exact ⟨z.1, z.2.1⟩
    refine ⟨m, hm, k4, i + 1, τ5, G5, I5.unpinned, T.keep _ _ _ at3 fun b hb o e => (pinned b hb o e).1, fun b hb => ?_, w5⟩
    obtain ⟨o, e, _⟩ := T.obj _ _ at3 b hb
    exact (pinned b hb o e).2
  cases f with
  | next =>
    obtain ⟨τ5, G5, I5, n5⟩ := q5
    exact back I5 n5
  | cont =>
    obtain ⟨τ5, G5, I5, n5⟩ := q5
    exact back I5 n5
  | brk =>
    obtain ⟨τ5, G5, I5, z⟩ := q5
    exact ⟨τ5, G5, I5.unpinned, z⟩
  | ret v =>
    obtain ⟨x5, τ5, G5, I5, r5, z⟩ := q5
    exact ⟨x5, τ5, G5, I5.unpinned, r5, z⟩
/-! ### a local name's object -/
/-- the name n holds the object u itself -/
def Holds1 (X : Cx) (n : Str) (u : Value) (s : Shared) : Prop := ∃ m, s.heap.Ns X.env.locals m ∧ m n = some u
section
variable {pins : List (Addr × Obj)} {σ : St} {H : Hp} {s : Shared}
/-- a local name is stored: what stands behind it, with the names' objects -/
theorem store1 {M : Model} {A : Around} {E : Value → Shared → Prop} {i : Nat} {x : Str} {v : V} {u : Value} {Q : Unit → Shared → Prop} (I : Inv X pins σ H s) (nd : X.N.Nodup) (hi : X.N[i]? = some x) (hl : X.env.kindOf x = some .local) (r : RelV v u)
    (fin : ∀ s', Inv X pins (σ.set i (some v)) H s' → s'.toks = s.toks + 1 → Holds1 X x u s' → (∀ y w, y ≠ x → Holds1 X y w s → Holds1 X y w s') → Q () s') : wpAny M A (storeName X.env x u) Q E s := by
  obtain ⟨m, ns, look⟩ := I.loc
  have notCls : (X.env.scope.kind == .class || (X.env.scope.kind == .module && X.env.locals != X.env.globals)) = false := by rw [I.ok.kind] <;> rfl
  refine wpAny_storeName_local hl ns (fun h' ns' sb => ?_) notCls
  have old : ∀ b o, X.s_0.heap.get? b = some o → b ≠ X.env.locals := fun b o e z => by
    have l1 := Heap.lt_size e
    rw [z] at l1
    exact absurd I.ok.above (Nat.not_le.mpr l1)
  have B := I.base
  have lenσ : i < σ.length := I.len ▸ (List.getElem?_eq_some_iff.mp hi).1
  have tr : HOk X.prog X.w H h' := fun b ob e => (I.hok b ob e).stay (fun c w' hc q => (sb.2 c fun z => by
    subst z
    rcases hc with hc | hc
    · rw [← hc, I.free] at e; cases e
    · rw [I.free] at hc; cases hc).trans q) (fun _ q => q) fun _ _ q => q
  refine fin _ ⟨I.ok, I.os, I.bare, ⟨fun b o e n hb hx => (sb.2 b (old b o e)).trans (B.keep b o e n hb hx), fun b o e n hb hx => ?_, B.free, fun b o e hx => ?_, B.tups, B.frzs, B.tbls⟩, ⟨_, ns', fun j y v' e1 e2 e3 => ?_⟩, fun y c e => ?_, I.free, I.freeC, fun p hp => ?_, tr, by rw [List.length_set]; exact I.len⟩ rfl ⟨_, ns', if_pos rfl⟩ fun y w ne hw => ?_
  · obtain ⟨sl, q⟩ := B.slot b o e n hb hx
    exact ⟨sl, (sb.2 b (old b o e)).trans q⟩
  · obtain ⟨o', q⟩ := B.there b o e hx
    exact ⟨o', (sb.2 b (old b o e)).trans q⟩
  · by_cases ij : i = j
    · subst ij
      have ey : y = x := by rw [hi] at e1; exact (Option.some.inj e1).symm
      rw [List.getElem?_set_self lenσ] at e2
      have ev : v' = v := (Option.some.inj (Option.some.inj e2)).symm
      subst ey; subst ev
      exact ⟨u, r, .inl ⟨hl, if_pos rfl⟩⟩
    · rw [List.getElem?_set_ne ij] at e2
      obtain ⟨u', r', l⟩ := look j y v' e1 e2 e3
      refine ⟨u', r', l.imp (fun ⟨k, e⟩ => ⟨k, (if_neg fun z => ij ?_).trans e⟩) fun ⟨k, c, e, z⟩ => ⟨k, c, e, z.sameBut sb (I.cne y c e)⟩⟩
      subst z
      exact nodup_ix nd hi e1
  · obtain ⟨w', z⟩ := I.cell y c e
    exact ⟨w', z.sameBut sb (I.cne y c e)⟩
  · obtain ⟨q1, q2, q3, q4, q5⟩ := I.pin p hp
    exact ⟨(sb.2 p.1 q3).trans q1, q2, q3, q4, q5⟩
  · obtain ⟨m2, ns2, hm2⟩ := hw
    refine ⟨_, ns', (if_neg ne).trans ?_⟩
    obtain ⟨o1, es1, ep1, g1, d1, _, f1⟩ := ns
    obtain ⟨o2, es2, ep2, g2, d2, _, f2⟩ := ns2
    rw [g1] at g2
    obtain rfl := Option.some.inj g2
    rw [d1] at d2
    cases d2
    rw [← f1, f2, hm2]
/-- its name, read -/
theorem read1 {x : Str} {u : Value} {pos : Pos} {Q E : Value → Shared → Prop} (I : Inv X pins σ H s) (hl : X.env.kindOf x = some .local) (h : Holds1 X x u s) (fin : Q u s) (hd : (x == ("__debug__" : Str)) = false := by decide) : wpAny (model X.prog X.w) X.A (eval (.Name x pos) X.env) Q E s := by
  obtain ⟨m, ns, hm⟩ := h
  exact wpAny_Name (wpAny_loadName_local I.ok.kind hl ns hm fin) hd
end
end
end L2
end

section
set_option Elab.async false
set_option linter.all false
set_option maxRecDepth 100000
/-! DL20: .. over data -/
namespace DL
open PySem PySem.Spec PyProof.Rows L2
abbrev DST (X : Cx) (st : Stmt) (f : FS) : Prop := PST X st (cS (GX X) (WT X) f)
abbrev DSsT (X : Cx) (st : List Stmt) (f : FS) : Prop := PSsT X st (cS (GX X) (WT X) f)
theorem weakST {X : Cx} {st : Stmt} {t t' : TS} (h : PST X st t) (w : ∀ Dn σ H, t' Dn σ H → t Dn σ H) : PST X st t' := fun pins s σ H Dn k I q => h pins s σ H Dn k I (w _ _ _ q)
theorem weakSsT {X : Cx} {st : List Stmt} {t t' : TS} (h : PSsT X st t) (w : ∀ Dn σ H, t' Dn σ H → t Dn σ H) : PSsT X st t' := fun pins s σ H Dn k I q => h pins s σ H Dn k I (w _ _ _ q)
section
variable {X : Cx} {st : Stmt} {rest body : List Stmt} {F G : FS} {f : FI} {g : FG} {is : List Nat} {pos : Pos} {tg it : Expr} {x : Str}
theorem dst_of (h : DS X st F) : DST X st F := PST.of h
theorem dsst_of (h : DSs X rest F) : DSsT X rest F := PSsT.of h
theorem dsst_cons (h1 : DST X st F) (h2 : DSsT X rest G) : DSsT X (st :: rest) (fSeq F G) := weakSsT (psst_cons h1 h2) cS_seq
theorem dst_for (hp : PassesOwn (model X.prog X.w) X.A X.env X.xe) (hc : X.calm = true) (hi : DI X tg it f) (hg : DG X tg is g) (hb : DSsT X body F)
    (hs : ∀ x, foldedSetIterable it X.env x = pure x := by intro _; rfl) : DST X (.For tg it body [] pos) (fFor f g F) := weakST (pst_forT hp hc hi hg hb hs) cS_for
theorem dss_str {i j : Nat} {c : Str} {cpos pos' : Pos} (hN : X.N.Nodup) (hi : X.N[i]? = some x) (hx : Loc X.env.scope x) (h2 : DSsT X rest G)
    (hs : swapsWith (.Constant (.str c) j cpos) (some (.Name x pos')) pos.line X.env = pure false := by rfl) (hf : X.fn x = true ∨ X.env.scope.names.lookup x = some .local := by first | exact .inl rfl | exact .inr rfl | assumption) :
    DSs X (.Assign [.Name x pos'] (.Constant (.str c) j cpos) pos :: rest) (fSeq (fAsg (fq (qC (.str c))) (gN i)) G) := weakSs (pss_str hN hi hx h2 hs hf) fun Dn σ H h => by
  obtain ⟨Bs, M, own, ρ, o, R, e, p⟩ := cS_seq Dn σ H h
  have e' : (fAsg (fq (qC (.str c))) (gN i)) ρ = some (.nx (ρ.set i (.val (.str c)))) := rfl
  rw [e'] at e
  cases e
  exact p _ H _ go_unown (R.setVal (by simp [Rep]))
/-- letter = text[..]; answer = answer + letter; text = text.replace(letter, '') -/
def fLetters (l a t : Nat) (fk : FE) : FS := fun ρ => match ρ[t]? with
  | some (.val (.str z)) => (match fk ρ with
    | some (.int k, ρ1) => (match atI z.cps.toList k, ρ1[a]?, ρ1[t]? with
      | some c, some (.val (.str y)), some (.val (.str z')) => if z.length ≤ 1000 ∧ z'.length ≤ 1000 ∧ y.length ≤ 1000 ∧ l < ρ1.length then some (.nx (((ρ1.set l (.val (.str ⟨#[c]⟩))).set a (.val (.str (y ++ ⟨#[c]⟩)))).set t (.val (.str (Txt.replace z' ⟨#[c]⟩ ""))))) else none
      | _, _, _ => none)
    | _ => none)
  | _ => none
theorem not_empty {c : Nat} : ((⟨#[c]⟩ : Str) == ("" : Str)) = false := by
  cases q : ((⟨#[c]⟩ : Str) == ("" : Str)) with
  | false => rfl
  | true =>
    have := congrArg Str.length (eq_of_beq q)
    have h1 : (⟨#[c]⟩ : Str).length = 1 := rfl
    have h2 : ("" : Str).length = 0 := by decide
    rw [h1, h2] at this
    cases this
theorem dsst_letters {l a t : Nat} {nl na nt : Str} {ik : Expr} {fk : FE} {j : Nat} {p1 p2 p3 p4 p5 p6 p7 p8 p9 p10 p11 p12 p13 q1 q2 q3 : Pos} (nd : X.N.Nodup) (hl : X.N[l]? = some nl) (ha : X.N[a]? = some na) (ht : X.N[t]? = some nt) (la : l ≠ a) (lt : l ≠ t) (at_ : a ≠ t)
    (kl : X.env.kindOf nl = some .local) (ka : X.env.kindOf na = some .local) (kt : X.env.kindOf nt = some .local) (va : Vis X.env.scope na) (vt : Vis X.env.scope nt) (hk : DE X ik fk) (pl : PlainIx ik)
    (d1 : (nl == ("__debug__" : Str)) = false) (d2 : (na == ("__debug__" : Str)) = false) (d3 : (na == ("__classdict__" : Str)) = false) (d4 : (nt == ("__debug__" : Str)) = false) (d5 : (nt == ("__classdict__" : Str)) = false)
    (s1 : swapsWith (.Subscript (.Name nt p2) ik p3) (some (.Name nl p1)) q1.line X.env = pure false := by rfl)
    (s2 : swapsWith (.BinOp (.Name na p5) .Add (.Name nl p6) p7) (some (.Name na p4)) q2.line X.env = pure false := by rfl)
    (s3 : swapsWith (.Call (.Attribute (.Name nt p9) "replace" p10) [.Name nl p11, .Constant (.str "") j p12] [] p13) (some (.Name nt p8)) q3.line X.env = pure false := by rfl)
    (hst : starEach [.Name nl p11, .Constant (.str "") j p12] X.env = [(false, eval (.Name nl p11) X.env), (false, eval (.Constant (.str "") j p12) X.env)] := by rfl)
    (hbase : attributeBase (.Name nt p9) "replace" X.env (eval (.Name nt p9) X.env) = eval (.Name nt p9) X.env := by rfl) (hline : (p10.endLine == p13.line) = true := by rfl) :
    DSsT X [.Assign [.Name nl p1] (.Subscript (.Name nt p2) ik p3) q1, .Assign [.Name na p4] (.BinOp (.Name na p5) .Add (.Name nl p6) p7) q2, .Assign [.Name nt p8] (.Call (.Attribute (.Name nt p9) "replace" p10) [.Name nl p11, .Constant (.str "") j p12] [] p13) q3] (fLetters l a t fk) := by
  intro pins s σ H D tok I h
  obtain ⟨Bs, M, own, ρ, o, R, e, p⟩ := h
  unfold fLetters at e
  split at e
  case h_2 => cases e
  rename_i z ez
  split at e
  case h_2 => cases e
  rename_i k ρ1 ek
  split at e
  case h_2 => cases e
  rename_i c y z' ec ey ez'
  split at e
  case isFalse => cases e
  rename_i hb
  cases e
  obtain ⟨w0, g0, v0, rfl, r0⟩ := R.at ez
  simp only [Rep] at r0
  subst r0
  -- the letter
  refine wpAny_execs_cons (wpAny_Assign_Name (Subscript_ (raw_name ht vt I g0 (fun v rv => thnT tok (hk.run pins s σ H (fun v H' => ∃ own', Go M own H own' H' ∧ RE (GX X) Bs M own' H' ρ1 σ ∧ v = .int k) I ⟨Bs, M, own, ρ, _, ρ1, R, ek, fun v H' own' G R' r' => ⟨own', G, R', by simpa only [Rep] using r'⟩⟩) fun u t1 k1 hu => ?_) d4 d5)) s1)
  obtain ⟨v1, H1, I1, ru, own1, G1, R1, rfl⟩ := hu
  obtain ⟨tz, rfl⟩ := rv
  obtain ⟨tk, rfl⟩ := ru
  obtain ⟨jx, h1, h2, h3, h4, h5⟩ := atI_get ec
  have hl0 : z.cps.toList.length = z.length := by simp [Str.length]
  rw [hl0] at h1 h4 h5
  have b1 : z.length ≤ 1000 := hb.1
  refine tail_any (typeIs_str t1 z tz) slot_str_getitem.lookup (getItem_str (c := c) (by
    have e1 : decide (k < -(2 ^ 63 : Int)) = false := decide_eq_false (by omega)
    have e2 : decide (k ≥ 2 ^ 63) = false := decide_eq_false (by omega)
    rw [e1, e2, Bool.or_false]) (by rw [h1]; simpa using h2) ?_) (pl _ _)
  refine store1 (v := .str ⟨#[c]⟩) (I1.tok _) nd hl kl ⟨_, rfl⟩ fun t2 I2 k2 L2 _ => ?_
  have k2' : t2.toks = t1.toks + 2 := k2
  have R2 := R1.setVal (i := l) (d := .str ⟨#[c]⟩) (v := .str ⟨#[c]⟩) (by simp [Rep])
  -- the answer
  have ea2 : (ρ1.set l (.val (.str ⟨#[c]⟩)))[a]? = some (.val (.str y)) := by rw [List.getElem?_set_ne la]; exact ey
  obtain ⟨wa, ga, va', rfl, ra⟩ := R2.at ea2
  simp only [Rep] at ra
  subst ra
  refine wpAny_execs_cons (wpAny_Assign_Name (wpAny_BinOp (raw_name ha va I2 ga (fun v rv => read1 I2 kl L2 ?_ d1) d2 d3)) s2)
  obtain ⟨ty, rfl⟩ := rv
  have hadd : wpAny (model X.prog X.w) X.A (binaryOp .Add (.str y ty) (.str ⟨#[c]⟩ t1.toks)) (fun w t => (∃ t', w = .str (y ++ ⟨#[c]⟩) t') ∧ ∃ n, t = { t2 with toks := n }) X.xe t2 :=
    add_str (fun t' n => ⟨⟨t', rfl⟩, n, rfl⟩) (by
      have h1 : (⟨#[c]⟩ : Str).length = 1 := rfl
      have h2 : y.length ≤ 1000 := hb.2.2.1
      rw [h1, sizeLine_eq]; omega)
  refine thnT (Nat.le_refl _) hadd fun w t3 k3 hw => ?_
  obtain ⟨⟨t', rfl⟩, n3, rfl⟩ := hw
  refine store1 (v := .str (y ++ ⟨#[c]⟩)) (I2.tok _) nd ha ka ⟨_, rfl⟩ fun t4 I4 k4 _ keep4 => ?_
  have L4 : Holds1 X nl (.str ⟨#[c]⟩ t1.toks) t4 := keep4 nl _ (fun z => la (nodup_ix nd hl (z ▸ ha))) L2
  have R4 := R2.setVal (i := a) (d := .str (y ++ ⟨#[c]⟩)) (v := .str (y ++ ⟨#[c]⟩)) (by simp [Rep])
  have k4' : t1.toks < t4.toks := by
    have k3' : t2.toks ≤ n3 := k3
    have k4'' : t4.toks = n3 + 1 := k4
    omega
  -- the text
  have et4 : ((ρ1.set l (.val (.str ⟨#[c]⟩))).set a (.val (.str (y ++ ⟨#[c]⟩))))[t]? = some (.val (.str z')) := by rw [List.getElem?_set_ne at_, List.getElem?_set_ne lt]; exact ez'
  obtain ⟨wt, gt, vt', rfl, rt⟩ := R4.at et4
  simp only [Rep] at rt
  subst rt
  refine wpAny_execs_cons (wpAny_Assign_Name (PySem.Call_method2 hbase hst hline (raw_name ht vt I4 gt (fun v rv => ?_) d4 d5)) s3)
  obtain ⟨tz4, rfl⟩ := rv
  refine ⟨"str", _, PySem.F.plainAttrs_str, PySem.F.slot_str_replace, PySem.F.type_str_replace, typeIs_str _ _ _, (fun _ e => nomatch e), Calls.callWith_builtin rfl (Calls.evalArgs_plain (Calls.spliced_cons (read1 I4 kl L4 ?_ d1)))⟩
  refine Calls.spliced_cons (Calls.Constant_str (Calls.spliced_nil ?_))
  refine PySem.SC.replace (by show t1.toks ≠ 0; omega) (by show t4.toks ≠ 0; omega) (by show t1.toks ≠ t4.toks; omega) not_empty (by
    have h2 : ("" : Str).length = 0 := by decide
    have h3 : z'.length ≤ 1000 := hb.2.1
    rw [h2]; omega) fun t' n => ?_
  refine store1 (v := .str (Txt.replace z' ⟨#[c]⟩ "")) (I4.tok _) nd ht kt ⟨_, rfl⟩ fun t5 I5 _ _ _ => ?_
  exact wpAny_execs_nil ⟨_, H1, I5, p _ H1 _ (((G1.trans go_unown).trans go_unown).trans go_unown) (R4.setVal (i := t) (by simp [Rep]))⟩
end
end DL
end

section
set_option Elab.async false
set_option linter.all false
set_option maxRecDepth 100000
/-! DL21: tuples whose object is known: made of lists, index of a truth -/
namespace DL
open PySem PySem.Spec PyProof.Rows L2
theorem mt_tupIdxB {X : Cx} : MtR X "tuple.index" (fun x xs H Q => ∃ p, ∃ bs : List Bool, ∃ b j, x = .ref p ∧ xs = [.bl b] ∧ SqT X.K H p (bs.map V.bl) ∧ bs[j]? = some b ∧ (∀ m, m < j → bs[m]? ≠ some b) ∧ Q (.int (j : Nat)) H) := by
  intro pins s σ H x xs v us Q I rx rs h
  obtain ⟨p, bs, b, j, rfl, rfl, hq, hb, hno, q⟩ := h
  cases rx
  obtain ⟨u, rfl, rfl⟩ := vals1 rs
  obtain ⟨its, r, pl, hz⟩ := I.tuple hq
  obtain ⟨⟨cl, di, da, sl⟩, ho, e1, n, e2⟩ := pl
  simp only at e1 e2
  subst e1; subst e2
  have flat : (bs.map V.bl).all flatV = true := by
    rw [List.all_map]
    exact List.all_eq_true.mpr fun _ _ => rfl
  have len : its.toArray.size = bs.length := by rw [List.size_toArray, ← r.length, List.length_map]
  have item : ∀ (m : Nat) (hm : m < its.toArray.size), ∃ c, bs[m]? = some c ∧ its.toArray[m] = Value.bool c := fun m hm => by
    have hm' : m < bs.length := len ▸ hm
    obtain ⟨w, e3, e4⟩ := r.get (i := m) (x := .bl bs[m]) (by simp [hm'])
    have e4' : w = Value.bool bs[m] := e4
    refine ⟨bs[m], List.getElem?_eq_getElem hm', ?_⟩
    rw [← e4', ← (List.getElem?_eq_some_iff.mp e3).2]
    simp
  have lj : j < its.toArray.size := len ▸ (List.getElem?_eq_some_iff.mp hb).1
  refine call_meets PySem.F.slot_tuple_index ⟨_, ho, rfl⟩ PySem.F.entry_tuple_index (PySem.F.args_tuple_index_2 _ _) (TI.tuple_indexAt p its.toArray n di sl (.bool b) (eqU (.bl b)) j lj ?_ fun m hm lt => ?_)
    ⟨ho, fun w hw => mem_eqAt (x := .bl b) rfl rfl r flat w (by simpa using hw), ⟨.int (j : Nat), H, I.tok _, ⟨_, rfl⟩, q⟩⟩
  · obtain ⟨c, q1, q2⟩ := item j lj
    rw [hb] at q1; cases q1
    rw [q2]
    exact beq_self_eq_true b
  · obtain ⟨c, q1, q2⟩ := item m hm
    rw [q2]
    show (c == b) = false
    exact beq_false_of_ne fun z => hno m lt (by rw [q1, z])
/-- tuple(a list), the new object known -/
def rTupX (K : PySem.W.Frag) : List V → Hp → VK → Prop := fun xs H Q => ∃ p ys, xs = [.ref p] ∧ SqL K H p ys ∧ ∀ l o, H l = none → o.dict = none → Q (.ref l) (upd H l (.frz o (.tup ys)))
theorem call_tupX {X : Cx} : CallR X (.type "tuple") (rTupX X.K) := by
  intro pins s σ H xs us Q I r h
  obtain ⟨p, ys, rfl, hq, q⟩ := h
  obtain ⟨u, rfl, rx⟩ := vals1 r
  cases rx
  obtain ⟨its, rv, pl, hz⟩ := I.list hq
  refine call_tuple_list pl.isList (fun h' keep => ?_) (by have := rv.length; simp only [List.size_toArray]; omega)
  have I1 : Inv X pins σ H { s with heap := h' } := I.kept (t' := s.toks) keep
  have hn := I1.hok.fresh (Nat.le_refl _)
  have ge : (h'.push { cls := .type "tuple", data := .seq its.toArray }).get? h'.objs.size = some { cls := .type "tuple", data := .seq its.toArray } := Heap.get?_push_size _ rfl
  exact ⟨.ref h'.objs.size, _, I1.laid (t' := s.toks) (o := .frz { cls := .type "tuple", data := .seq its.toArray } (.tup ys)) (fun b o e => Heap.get?_push_of_some _ e) (Nat.le_refl _) ⟨ge, hz, its, rv, ⟨_, ge, rfl, _, rfl⟩⟩, rfl, q _ _ hn rfl⟩
def dTupX : List D → Option D
  | [.lst ds] => some (.tpx ds)
  | _ => none
theorem cd_tupX {mg : Gx} {K : PySem.W.Frag} : CallD mg (rTupX K) dTupX := fun A H xs ds z Q hA r h k => by
  match ds, h with
  | [.lst es], h =>
    simp only [dTupX] at h; cases h
    simp only [Reps, Rep] at r
    obtain ⟨v, _, rfl, ⟨a, ys, rfl, na, ha, ra⟩, rfl⟩ := r
    refine ⟨a, ys, rfl, .inl (.inl ha), fun p o hp hd => ?_⟩
    have s := same_upd (o := .frz o (.tup ys)) hp
    exact k _ _ s (by simp only [Rep]; exact ⟨p, _, o, rfl, hA p hp, upd_same, hd, ra.ext (Same.ext s)⟩)
/-- o.m(..), o a tuple whose object is known -/
def tTM (r : V → List V → Hp → VK → Prop) (to : TE) (t : TA) : TE := fun σ H Q => to σ H fun x H1 => (∃ a xs o, x = .ref a ∧ H1 a = some (.frz o (.tup xs)) ∧ o.dict = none) ∧ t σ H1 fun xs H2 => r x xs H2 Q
theorem pe_tm {X : Cx} {o e : Expr} {es : List Expr} {to : TE} {t : TA} {name : Str} {apos cpos : Pos} {id : String} {r : V → List V → Hp → VK → Prop} (slot : PySem.Slot "tuple" name id) (hty : typeOf (.builtin id) = pure (.type "method_descriptor")) (hm : MtR X id r) (ho : PE X o to) (ha : PA X (e :: es) t)
    (hbase : attributeBase o name X.env (eval o X.env) = eval o X.env)
    (hfew : ((backTo cpos (starEach (e :: es) X.env)).all (fun x => !x.1) && (backToKw cpos (keywordEach [] X.env)).all (fun x => x.1.isSome) && decide ((e :: es).length + ([] : List Keyword).length + (if ([] : List Keyword).isEmpty then 0 else 1) < 30)) = true)
    (hline : (apos.endLine == cpos.line) = true) (hs : starEach (e :: es) X.env = (false, eval e X.env) :: starEach es X.env) (hplain : (backTo cpos (starEach es X.env)).any (·.1) = false) : PE X (.Call (.Attribute o name apos) (e :: es) [] cpos) (tTM r to t) := by
  refine ⟨fun pins s σ H Q I h => ?_⟩
  refine wpAny_Call_method_late hbase hfew hline rfl (thn (ho.run pins s σ H _ I h) fun v s1 hv => ?_)
  obtain ⟨x, H1, I1, r1, ⟨a, xs, ob, rfl, hf, hd⟩, q1⟩ := hv
  cases r1
  obtain ⟨hg, hz, its, rv, it⟩ := I1.hok _ _ hf
  refine ⟨"tuple", id, PySem.F.plainAttrs_tuple, slot, hty, ?_, fun b e => ?_, ?_⟩
  · obtain ⟨o2, e1, e2, _⟩ := it
    exact ⟨o2, e1, e2⟩
  · cases e
    exact ⟨ob, hg, hd⟩
  · have hA := ha.run cpos pins s1 σ H1 _ I1 q1
    rw [hs] at hA ⊢
    refine Calls.callWith_builtin (by show (false || (backTo cpos (starEach es X.env)).any (·.1)) = false; rw [hplain] <;> rfl) (Calls.evalArgs_plain (thn hA fun us s2 hq => ?_))
    obtain ⟨vs, H2, I2, r2, q2⟩ := hq
    exact hm pins s2 σ H2 (.ref a) vs _ us Q I2 rfl r2 q2
def dIdxTB : D → D → Option D
  | .tpx ds, .bl b => (match bools ds with
    | some bs => (bs.findIdx? (· == b)).map fun j => .int (j : Nat)
    | none => none)
  | _, _ => none
theorem dq_idxTB {X : Cx} {o e : Expr} {fo fe : FQ} {apos cpos : Pos} (ho : DQ X o fo) (he : DQ X e fe) (hbase : attributeBase o "index" X.env (eval o X.env) = eval o X.env := by rfl)
    (hfew : ((backTo cpos (starEach [e] X.env)).all (fun x => !x.1) && (backToKw cpos (keywordEach [] X.env)).all (fun x => x.1.isSome)
      && decide ([e].length + ([] : List Keyword).length + (if ([] : List Keyword).isEmpty then 0 else 1) < 30)) = true := by rfl)
    (hline : (apos.endLine == cpos.line) = true := by rfl) (hs : starEach [e] X.env = (false, eval e X.env) :: starEach [] X.env := by rfl) (hplain : (backTo cpos (starEach [] X.env)).any (·.1) = false := by rfl) :
    DQ X (.Call (.Attribute o "index" apos) [e] [] cpos) (qBin dIdxTB fo fe) :=
  weakE (pe_tm PySem.F.slot_tuple_index PySem.F.type_tuple_index mt_tupIdxB ho (pa_cons he pa_nil hs) hbase hfew hline hs hplain) fun σ H Q ⟨Bs, M, own, ρ, d, R, h, k⟩ => by
    unfold qBin at h
    split at h
    · rename_i x y e1 e2
      unfold dIdxTB at h
      split at h
      · rename_i ds b
        split at h
        · rename_i bs e3
          obtain ⟨j, hj, rfl⟩ := Option.map_eq_some_iff.mp h
          refine ⟨Bs, M, own, ρ, _, R, e1, fun v H1 s1 r1 => ?_⟩
          simp only [Rep] at r1
          obtain ⟨a, xs, o', rfl, na, ha, hd, ra⟩ := r1
          rw [bools_rep e3 ra] at ha
          refine ⟨⟨a, _, o', rfl, ha, hd⟩, Bs, M, own, ρ, _, R.same s1, e2, fun w H2 s2 r2 => ?_⟩
          simp only [Rep] at r2
          obtain ⟨hlt, hz, hno⟩ := List.findIdx?_eq_some_iff_getElem.mp hj
          have eb : bs[j] = b := by simpa using hz
          refine ⟨a, bs, b, j, rfl, by rw [r2], .inl (.inr ⟨o', s2 _ _ ha⟩), by rw [List.getElem?_eq_getElem hlt, eb], fun m hm z => ?_, k _ H2 (s1.trans s2) (by simp [Rep])⟩
          obtain ⟨hm', e5⟩ := List.getElem?_eq_some_iff.mp z
          have := hno m hm
          rw [e5] at this
          simp at this
        · cases h
      · cases h
    · cases h
end DL
end

section
set_option Elab.async false
set_option linter.all false
set_option maxRecDepth 100000
/-! DL22: name = a comprehension, to be changed -/
namespace DL
open PySem PySem.Spec PyProof.Rows L2
theorem boot_ValueError : bootBuiltins "ValueError" = some (.type "ValueError") := by decide +kernel
section
variable {X : Cx} {elt tg iter : Expr} {ifs : List Expr} {scope : Scope} {own0 : List (Str × Nat)} {pos py spos : Pos} {f : FI} {g : FG} {is : List Nat} {ft : FT} {fe : FE} {ff : FF} {i : Nat} {y : Str}
theorem ds_setLcF (hc : X.calm = true) (hN : X.N.Nodup) (hy : X.N[i]? = some y) (hyl : X.env.scope.names.lookup y = some .local)
    (hsw : swapsWith (.ListComp elt [⟨tg, iter, ifs, 0⟩] scope pos) (some (.Name y py)) spos.line X.env = pure true) (hi : DI X tg iter f) (ok : BlkOk X.N X.env.scope scope own0) (hs : ∀ j ∈ is, j ∈ own0.map (·.2))
    (hg : ∀ (s : Shared) (H : Hp) (C : Addr) (cl : List (Str × Addr)) (fp : List Addr), DG (X.blk s H scope (compEnvC scope cl C X.env) fp) tg is g) (ht : ∀ (s : Shared) (H : Hp) (C : Addr) (cl : List (Str × Addr)) (fp : List Addr), DTs (X.blk s H scope (compEnvC scope cl C X.env) fp) ifs ft)
    (he : ∀ (s : Shared) (H : Hp) (C : Addr) (cl : List (Str × Addr)) (fp : List Addr), DE (X.blk s H scope (compEnvC scope cl C X.env) fp) elt fe) (hf : ∀ x, foldedSetIterable iter X.env x = pure x := by intro _; rfl) :
    DS X (.Assign [.Name y py] (.ListComp elt [⟨tg, iter, ifs, 0⟩] scope pos) spos) (fSetF i (fLcF f g (own0.map (·.2)) ft fe)) :=
  weakS (ps_setLc hc hN hy hyl hsw hi ok hg ht he hf) fun Dn σ H h => cF_lc hs σ H _ (cS_setF Dn σ H h)
theorem ds_setLcFF (hc : X.calm = true) (hN : X.N.Nodup) (hy : X.N[i]? = some y) (hyl : X.env.scope.names.lookup y = some .local)
    (hsw : swapsWith (.ListComp elt [⟨tg, iter, ifs, 0⟩] scope pos) (some (.Name y py)) spos.line X.env = pure true) (hi : DI X tg iter f) (ok : BlkOk X.N X.env.scope scope own0) (hs : ∀ j ∈ is, j ∈ own0.map (·.2))
    (hg : ∀ (s : Shared) (H : Hp) (C : Addr) (cl : List (Str × Addr)) (fp : List Addr), DG (X.blk s H scope (compEnvC scope cl C X.env) fp) tg is g) (ht : ∀ (s : Shared) (H : Hp) (C : Addr) (cl : List (Str × Addr)) (fp : List Addr), DTs (X.blk s H scope (compEnvC scope cl C X.env) fp) ifs ft)
    (he : ∀ (s : Shared) (H : Hp) (C : Addr) (cl : List (Str × Addr)) (fp : List Addr), DF (X.blk s H scope (compEnvC scope cl C X.env) fp) elt ff) (hf : ∀ x, foldedSetIterable iter X.env x = pure x := by intro _; rfl) :
    DS X (.Assign [.Name y py] (.ListComp elt [⟨tg, iter, ifs, 0⟩] scope pos) spos) (fSetF i (fLcFF f g (own0.map (·.2)) ft ff)) :=
  weakS (ps_setLc hc hN hy hyl hsw hi ok hg ht he hf) fun Dn σ H h => cF_lcF hs σ H _ (cS_setF Dn σ H h)
end
/-! ### all(a tuple of truths) -/
def rAllT (K : PySem.W.Frag) : List V → Hp → VK → Prop := fun vs H Q => ∃ (a : Addr) (bs : List Bool), vs = [V.ref a] ∧ SqT K H a (bs.map V.bl) ∧ Q (.bl (bs.all id)) H
theorem cr_allT {X : Cx} (calm : X.calm = true) : CallR X (.builtin "all") (rAllT X.K) := by
  intro pins s σ H vs us Q I r h
  obtain ⟨a, bs, rfl, hs, q⟩ := h
  obtain ⟨its, rv, it, _⟩ := I.tuple hs
  rw [Vals.ref1 r]
  have eb := rv.bls
  have lt : a < s.heap.objs.size := by
    obtain ⟨_, e, _⟩ := it
    exact Heap.lt_size e
  refine call_all_walk (wpAny_pyIter_tuple it ⟨_, _, _, _, _, _, _, rfl, Walks.tuple (A := X.A.in1) (I.ok.hd calm) _ a (Nat.ne_of_lt lt) its.toArray, ⟨⟨_, Heap.get?_push_size _ rfl, rfl, rfl⟩, ?_⟩, truth_bools eb, fun h' tk hk => ?_⟩)
  · obtain ⟨o, e1, e2, e3⟩ := it
    exact ⟨o, Heap.get?_push_of_some _ e1, e2, e3⟩
  · refine ⟨.bl _, H, I.kept fun b o eo => hk b o (fun hm => ?_) (Heap.get?_push_of_some _ eo), ?_, q⟩
    · have eb2 : b = s.heap.objs.size := by simpa using hm
      exact absurd (Heap.lt_size eo) (by rw [eb2]; exact Nat.lt_irrefl _)
    · show Value.bool _ = Value.bool _
      rw [List.size_toArray, eb, List.length_map, L2.all_range]
def dAllT : List D → Option D
  | [.tup ds] => (bools ds).map fun bs => .bl (bs.all id)
  | _ => none
theorem cd_allT {mg : Gx} {K : PySem.W.Frag} : CallD mg (rAllT K) dAllT := fun A H xs ds z Q hA r h k => by
  unfold dAllT at h
  split at h
  · obtain ⟨bs, e, rfl⟩ := Option.map_eq_some_iff.mp h
    simp only [Reps, Rep] at r
    obtain ⟨v, _, rfl, ⟨a, ys, rfl, na, ha, ra⟩, rfl⟩ := r
    rw [bools_rep e ra] at ha
    exact ⟨a, bs, rfl, .inl (.inl ha), k _ H (fun _ _ q => q) (by simp [Rep])⟩
  · cases h
end DL
end

section
set_option Elab.async false
set_option linter.all false
set_option maxRecDepth 100000
set_option maxHeartbeats 2000000
/-! DL23: defs that may ask for repr: nothing is being told when they are called -/
namespace DL
open PySem PySem.Spec PyProof.Rows L2
/-- a def's promise, no repr being under way -/
structure FnG (P : Program) (w : World) (K : PySem.W.Frag) (mg : Str → Option Value) (base : Heap) (k : Nat) (f : Addr) (fd : FuncData) (ps : List Str) (sp : Sp) : Prop where
  many : ∀ xs G q z, sp xs G q z → xs.length = ps.length
  does : ∀ (A : Around) (callers : List Env) (s : Shared) (G : Hp) (given : Args) (ws : List Value) (xs : List V) (q : VK) (z : XK), Room k A → A.guards = some [] → Env0 P w K mg base A callers s G →
    BindsTo s fd given (ps.zip ws) → Vals xs ws → sp xs G q z → codeAny (model P w) A (.call (.ref f) given) (CR CX0 callers P w G s q z) s
section
variable {P : Program} {w : World} {K : PySem.W.Frag} {mg : Str → Option Value} {base : Heap}
theorem fnG_of {k : Nat} {f : Addr} {name qual : Str} {pa : Arguments} {body : List Stmt} {sco : Scope} {dv kv dc pm cv ct oc : Value} {an od : Option Addr} {sl : Array (Option Value)} {N ps : List Str} {sp : Sp}
    (here : K.lookup f = some ⟨oc, od, .func (PySem.W.fnOf name qual pa body sco dv kv dc pm an cv ct), sl⟩) (code : PySem.W.codeIn K cv qual = true) (S : FnScope N ps sco) (many : ∀ xs G q z, sp xs G q z → xs.length = ps.length)
    (inner : ∀ (A : Around) (callers : List Env) (s : Shared) (G : Hp) (xs : List V) (q : VK) (z : XK), Room k (A.deeper (envOfC qual sco s.heap.objs.size f cv)) → A.guards = some [] → sp xs G q z →
      ∃ t, PSs (cxOf CX0 P w K mg base N qual sco f cv A callers s G z) body t ∧ t { nx := fun _ G' => q .non G', rt := q } (start N xs) G) :
    FnG P w K mg base (k + 1) f (PySem.W.fnOf name qual pa body sco dv kv dc pm an cv ct) ps sp := by
  refine ⟨many, fun A callers s G given ws xs q z room quiet at0 bound rel want => ?_⟩
  have size := many _ _ _ _ want
  have inK : K.In s.heap := at0.mod.kin.keeps fun b o e => (at0.bs b o e).1
  have nolim : s.heap.NoLimit := at0.mod.nolimit.keeps fun b o e => (at0.bs b o e).1
  have kinds : ∀ y ∈ ps.zip ws, sco.names.lookup y.1 = some .local ∨ (sco.names.lookup y.1 = some .cell ∧ ((cellsFrom (s.heap.objs.size + 1) sco.names []).lookup y.1).isSome = true) := by
    rintro ⟨n, v⟩ mem
    exact (S.par n (List.of_mem_zip mem).1).imp id fun cell => ⟨cell, PySem.W.cellsFrom_some _ _ _ (.inl cell)⟩
  refine codeAny_call_function room.depth (inK _ _ here) rfl S.co S.gen rfl (PySem.W.codeRec_of inK code) (bound _ _ _ _ ?_)
  refine wpAny_newFunctionEnv_cells S.kind kinds fun env isEnv s1 inCall => ?_
  subst isEnv
  refine ⟨nolim.keeps inCall.toInCall.keep, codeAny_func ?_⟩
  obtain ⟨t, reads, meets⟩ := inner A callers s G xs q z (room.deeper _) quiet want
  refine wpAny_mono (reads.run [] s1 (start N xs) G _ (inv_start S room.hd at0 size rel inCall) meets) (fun flow s' out => ?_) fun e s' out => out
  match flow, out with
  | .ret u, ⟨v, _, G', J, rv, hq⟩ => exact ⟨v, G', J.os, J.bare, J.base, J.hok, rv, hq⟩
  | .next, ⟨_, G', J, hq⟩ => exact ⟨.non, G', J.os, J.bare, J.base, J.hok, rfl, hq⟩
  | .brk, ⟨_, _, _, no⟩ => exact no.elim
  | .cont, ⟨_, _, _, no⟩ => exact no.elim
theorem fn_okG {x qual : Str} {st : Stmt} {f : Addr} {fd : FuncData} {N ps : List Str} {k n m : Nat} {F : FS} (Fu : Fun K x qual st f fd) (S : FnScope N ps (defScope st)) (hn : N.length = n) (hm : ps.length = m) (hle : m ≤ n)
    (body : ∀ (cdv : Value) (A : Around) (outer : List Env) (s : Shared) (H : Hp) (E : XK), Room k (A.deeper (envOfC qual (defScope st) s.heap.objs.size f cdv)) → A.guards = some [] →
      DSs (cxOf CX0 P w K mg base N qual (defScope st) f cdv A outer s H E).nox (defBody st) F) : FnG P w K mg base (k + 1) f fd ps (spD ⟨mg, K⟩ (fnD n m F)) := by
  obtain ⟨oc, od, kV, doc, pm, an, cdv, ct, osl, rfl, lk, hcd⟩ := Fu.ex
  refine fnG_of lk hcd S (fun vs H Q E h => ?_) (fun A outer s H vs Q E hr hgd h => ?_)
  · obtain ⟨A, ds, d, hA, r, e, q⟩ := h
    unfold fnD at e
    split at e
    · rename_i z
      rw [r.length, z, hm]
    · cases e
  · obtain ⟨A', ds, d, hA, r, e, q⟩ := h
    refine ⟨_, (body cdv A outer s H E hr hgd).nox, ?_⟩
    unfold fnD at e
    split at e
    · rename_i z
      have R := RE.start hA r hn z hle
      have fin : ∀ {v : V} {H' : Hp} {own' : Own} {d : D}, Rep ⟨mg, K⟩ (fb A' own') H' d v → Rep ⟨mg, K⟩ A' H' d v := fun {v H' own' d} h => h.ext fun a o e n => ⟨e, fun q => n (.inl q)⟩
      split at e
      · rename_i d' ρ' e'
        cases e
        exact ⟨_, _, _, _, _, R, e', fun v σ' H' own' G R' r' => q v H' (fun a o e => R'.base a o e) (fin r')⟩
      · rename_i ρ' e'
        cases e
        exact ⟨_, _, _, _, _, R, e', fun σ' H' own' G R' => q _ H' (fun a o e => R'.base a o e) (by simp [Rep])⟩
      · cases e
    · cases e
end
section
variable {X : Cx} {x : Str} {p pos : Pos} {e : Expr} {es : List Expr} {fa : FA} {qa : FQA} {k : Nat} {f : Addr} {fd : FuncData} {ps : List Str} {sp : Sp} {g : List D → Option D} {t : TA}
theorem runG {pins : List (Addr × Obj)} {σ : L2.St} {G : Hp} {s : Shared} {q : VK} {ws : List Value} {xs : List V} (F : FnG X.prog X.w X.K X.mg X.base k f fd ps sp) (room : Room k X.A) (quiet : X.A.guards = some []) (bound : Binds X.K fd ps []) (I : Inv X pins σ G s) (rel : Vals xs ws) (want : sp xs G q E0) :
    wpAny (model X.prog X.w) X.A (call (.ref f) ws) (EP X pins σ q) X.xe s := by
  have size : ws.length = ps.length := by rw [← rel.length]; exact F.many _ _ _ _ want
  have bd := bound s ws I.kIn (by rw [List.append_nil]; exact size)
  rw [List.append_nil] at bd
  refine wpAny_call (codeAny_mono (F.does X.A X.stack s G ⟨ws, []⟩ ws xs q E0 room quiet I.env0 bd rel want) fun r s' out => ?_)
  match r, out with
  | .error _, no => exact (show False from no).elim
  | .ok (.ret u), got => exact I.after got
  | .ok .next, no => exact (show False from no).elim
  | .ok .brk, no => exact (show False from no).elim
  | .ok .cont, no => exact (show False from no).elim
theorem pe_callG (F : FnG X.prog X.w X.K X.mg X.base k f fd ps sp) (room : Room k X.A) (quiet : X.A.guards = some []) (hg : Gl X x) (hm : X.mg x = some (.ref f)) (hk : PySem.W.keepIn X.K (.ref f) = true) (bound : Binds X.K fd ps []) (args : PA X (e :: es) t)
    (dbg : (x == ("__debug__" : Str)) = false := by decide) (star : starEach (e :: es) X.env = (false, eval e X.env) :: starEach es X.env := by rfl) (plain : (backTo pos (starEach es X.env)).any (·.1) = false := by rfl) :
    PE X (.Call (.Name x p) (e :: es) [] pos) (tCall sp [] E0 t) := ⟨fun pins s σ G q I want =>
  wpAny_Call_Name_kw (ld_glob I hg hm (PySem.W.callWith_K (h₀ := X.base) I.ok.mod.kin hk (thn (args.run pos pins s σ G _ I want) fun ws s1 ⟨xs, G1, I1, rel, got⟩ => ⟨I1.kIn, runG F room quiet bound I1 rel (by have got' : sp (xs ++ []) G1 q E0 := got; rwa [List.append_nil] at got')⟩) star plain) dbg)⟩
theorem de_callG (F : FnG X.prog X.w X.K X.mg X.base k f fd ps (spD (GX X) g)) (room : Room k X.A) (quiet : X.A.guards = some []) (hg : Gl X x) (hm : X.mg x = some (.ref f)) (hk : PySem.W.keepIn X.K (.ref f) = true) (bound : Binds X.K fd ps [])
    (ha : DA X (e :: es) fa) (dbg : (x == ("__debug__" : Str)) = false := by decide) (star : starEach (e :: es) X.env = (false, eval e X.env) :: starEach es X.env := by rfl) (plain : (backTo pos (starEach es X.env)).any (·.1) = false := by rfl) :
    DE X (.Call (.Name x p) (e :: es) [] pos) (fArgs g fa) := weakE (pe_callG F room quiet hg hm hk bound ha dbg star plain) cE_sp
theorem dq_callG (F : FnG X.prog X.w X.K X.mg X.base k f fd ps (spD (GX X) g)) (room : Room k X.A) (quiet : X.A.guards = some []) (hg : Gl X x) (hm : X.mg x = some (.ref f)) (hk : PySem.W.keepIn X.K (.ref f) = true) (bound : Binds X.K fd ps [])
    (ha : DQA X (e :: es) qa) (dbg : (x == ("__debug__" : Str)) = false := by decide) (star : starEach (e :: es) X.env = (false, eval e X.env) :: starEach es X.env := by rfl) (plain : (backTo pos (starEach es X.env)).any (·.1) = false := by rfl) :
    DQ X (.Call (.Name x p) (e :: es) [] pos) (qArgs g qa) := weakE (pe_callG F room quiet hg hm hk bound ha dbg star plain) fun σ H Q ⟨Bs, M, own, ρ, d, R, h, kk⟩ => by
  unfold qArgs at h
  split at h
  · rename_i xs e1
    refine ⟨Bs, M, own, ρ, _, R, e1, fun v H1 s1 r1 => ?_⟩
    exact ⟨fb M own, _, _, fun a q => (R.same s1).fresh q, by rw [List.append_nil]; exact r1, h, fun u H3 s3 r3 => kk u H3 (s1.trans s3) r3⟩
  · cases h
end
/-! ### a law's end -/
section
variable {P : Program} {w : World} {K : PySem.W.Frag} {mg mb : Str → Option Value} {k : Nat} {fa a : Addr} {fd : FuncData} {x : Str} {sp : Sp} {s1 : Shared} {us : List Value} {ns : List Int}
abbrev Good (s1 : Shared) (r : Result) (s' : Shared) : Prop := r = .ok (.ret (.bool true)) ∧ OldK s1.heap s'.heap ∧ s'.os = s1.os ∧ AllBare s'.gens
/-- from a heap in which at most the script is known -/
theorem law_from {H : Hp} (inK : K.In s1.heap) (hns : s1.heap.Ns mainGlobals mg) (hbn : s1.heap.Ns builtinsNs mb) (boot : ∀ y : Str, y ≠ "__name__" → mb y = bootBuiltins y) (nolim : s1.heap.NoLimit) (nogen : s1.gens = #[])
    (ha : s1.heap.get? a = some { cls := .type "list", data := .seq us.toArray }) (room : Room k callerA) (quiet : callerA.guards = some [])
    (F : ∀ base : Heap, K.In base → base.Ns mainGlobals mg → FnG P w K mg base k fa fd [x] sp) (bind : ∀ (s : Shared) (u : Value), BindsTo s fd ⟨[u], []⟩ [(x, u)])
    (only : Only H) (hok : HOk P w H s1.heap) (just : ∀ b, H b ≠ none → b = a) (own : H a ≠ none → K.lookup a = none) (want : sp [.ref a] H (fun v _ => v = .bl true) E0) :
    codeAny (model P w) callerA (.call (.ref fa) ⟨[.ref a], []⟩) (Good s1) s1 := by
  have low : ∀ {b : Addr} {o : Obj}, s1.heap.get? b = some o → H b = none → (hidT s1.heap H).get? b = some o := fun e n => hidT_get e n
  have dicts : ∀ {b : Addr} {o : Obj} {es : Array DictEntry} {ep : Nat}, s1.heap.get? b = some o → o.data = .dict es ep → H b = none := fun {b o es ep} e d => Classical.byContradiction fun no => by
    obtain rfl := just b no
    rw [ha] at e
    cases e
    exact nomatch (show Data.seq us.toArray _ = Data.dict es ep from d)
  have names : ∀ {b : Addr} {m : Str → Option Value}, s1.heap.Ns b m → (hidT s1.heap H).Ns b m := fun ⟨o, es, ep, e, d, r⟩ => ⟨o, es, ep, low e (dicts e d), d, r⟩
  have below : K.In (hidT s1.heap H) := fun b o e => low (inK b o e) (Classical.byContradiction fun no => by
    obtain rfl := just b no
    rw [own no] at e
    cases e)
  obtain ⟨mc, l1, l2⟩ := nolim
  have at0 : Env0 P w K mg (hidT s1.heap H) callerA [] s1 H := ⟨rfl, ⟨below, names hns, ⟨mb, names hbn, boot⟩, ⟨mc, names l1, l2⟩⟩, fun b o e => of_hidT e, Nat.le_of_eq (hidT_size _ _), trivial, fun b hb => absurd (show b ∈ ([] : List Addr) from hb) (by simp), hok, .of_eq nogen⟩
  refine codeAny_mono ((F _ below (names hns)).does callerA [] s1 H ⟨[.ref a], []⟩ [.ref a] [.ref a] _ _ room quiet at0 (bind s1 (.ref a)) (.cons rfl .nil) want) fun r s' out => ?_
  match r, out with
  | .error _, no => exact (show False from no).elim
  | .ok .next, no => exact (show False from no).elim
  | .ok .brk, no => exact (show False from no).elim
  | .ok .cont, no => exact (show False from no).elim
  | .ok (.ret u), ⟨v, H', os, bare, un, hok', rv, hv⟩ =>
    obtain rfl : v = .bl true := hv
    obtain rfl : u = Value.bool true := rv
    refine ⟨rfl, OldK.of_keep fun b o e => ?_, os, bare⟩
    match only b with
    | .inl no => exact un.keep b o e no (fun z => absurd (show b ∈ ([] : List Addr) from z) (by simp)) (by simp)
    | .inr ⟨oo, ys, fz⟩ =>
      have was := (hok b _ fz).1
      rw [e] at was
      cases was
      exact (hok' b _ (un.frzs b _ _ fz)).1
theorem law_callG (inK : K.In s1.heap) (hns : s1.heap.Ns mainGlobals mg) (hbn : s1.heap.Ns builtinsNs mb) (boot : ∀ y : Str, y ≠ "__name__" → mb y = bootBuiltins y) (nolim : s1.heap.NoLimit) (nogen : s1.gens = #[])
    (ha : s1.heap.get? a = some { cls := .type "list", data := .seq us.toArray }) (are : IntsAre us ns) (few : ns.length ≤ sizeLine) (room : Room k callerA) (quiet : callerA.guards = some [])
    (F : ∀ base : Heap, K.In base → base.Ns mainGlobals mg → FnG P w K mg base k fa fd [x] sp) (bind : ∀ (s : Shared) (u : Value), BindsTo s fd ⟨[u], []⟩ [(x, u)])
    (want : ∀ H : Hp, Only H → SqL K H a (ns.map V.int) → sp [.ref a] H (fun v _ => v = .bl true) E0) : codeAny (model P w) callerA (.call (.ref fa) ⟨[.ref a], []⟩) (Good s1) s1 := by
  have rel := vals_ints are
  have go := fun H => law_from (H := H) inK hns hbn boot nolim nogen ha room quiet F bind
  rcases known : K.lookup a with _ | o
  · let one : Hp := fun b => if b = a then some (.frz { cls := .type "list", data := .seq us.toArray } (.lst (ns.map V.int))) else none
    have at_a : one a = some (.frz { cls := .type "list", data := .seq us.toArray } (.lst (ns.map V.int))) := if_pos rfl
    have off : ∀ {b : Addr}, b ≠ a → one b = none := fun ne => if_neg ne
    have only : Only one := fun b => by
      by_cases q : b = a
      · subst q
        exact .inr ⟨_, _, at_a⟩
      · exact .inl (off q)
    refine go one only (fun b u hu => ?_) (fun b hb => Classical.byContradiction fun q => hb (off q)) (fun _ => known) (want one only (.inl (.inr ⟨_, at_a⟩)))
    by_cases q : b = a
    · subst q
      rw [at_a] at hu
      cases hu
      exact ⟨ha, by rw [List.length_map]; exact few, us, _, rel, ha⟩
    · rw [off q] at hu
      cases hu
  · have e := inK a o known
    rw [ha] at e
    cases e
    exact go (fun _ => none) (fun _ => .inl rfl) (fun b u hu => nomatch (show (none : Option HO) = some u from hu)) (fun b hb => absurd rfl hb) (fun hb => absurd rfl hb)
      (want _ (fun _ => .inl rfl) (.inr ⟨_, us.toArray, _, known, rfl, rfl, rfl, by rw [List.size_toArray, are.length]; exact few, by simpa using rel⟩))
end
theorem quiet_caller : callerA.guards = some [] := by first | rfl | decide
/-- a law over a head by facts, its def being of those that may ask for repr -/
theorem walk_ofG {l : PySem.W.OpenLaw} {n k : Nat} {q : Program} {loose : List Str} {XP : (Str → Option Value) → Heap → Prop} {YP : World → Heap → Prop} {d : DefRec} {x : Str}
    (most : l.most = some n) (few : n ≤ sizeLine) (nodef : d.params.defaults = []) (room : Room k callerA)
    (F : ∀ (w : World) (mg : Str → Option Value) (fa : Addr) (h : Heap), YP w h → h.Ns mainGlobals mg → mg d.name = some (.ref fa) →
      ∃ (K : PySem.W.Frag) (fd : FuncData) (sp : Sp), K.In h ∧ (∀ (s : Shared) (u : Value), BindsTo s fd ⟨[u], []⟩ [(x, u)]) ∧
        (∀ (H : Hp) (a : Addr) (ns : List Int), ns.length ≤ n → Only H → SqL K H a (ns.map V.int) → sp [.ref a] H (fun v _ => v = .bl true) E0) ∧
        ∀ base : Heap, K.In base → base.Ns mainGlobals mg → FnG l.prog w K mg base k fa fd [x] sp) :
    PySem.W.WalkO q loose XP YP l.row.toRowW d [] (fun f vs => PySem.call f vs) :=
  Att.attach_call most nodef fun w s0 s1 mg mb fa o pm cd doc a us ns gr y ho hd hcd hmg hobj hints hlen nogen => by
    obtain ⟨K, fd, sp, inK, bind, want, fine⟩ := F w mg fa _ y gr.T.g hmg
    exact law_callG inK gr.T.g gr.T.b gr.T.builtins gr.T.nolimit nogen hobj hints (Nat.le_trans hlen few) room quiet_caller fine bind fun H only sq => want H a ns hlen only sq
end DL
end

section
set_option Elab.async false
set_option linter.all false
set_option maxRecDepth 100000
set_option maxHeartbeats 2000000
/-! DL24: repr over data, texts held against texts, is False, the place of a sign -/
namespace DL
open PySem PySem.Spec PyProof.Rows L2
/-! ### repr -/
def rRepr (K : PySem.W.Frag) : List V → Hp → VK → Prop := fun xs H Q => ∃ x d, xs = [x] ∧ Dp K H x d ∧ d.showable = true ∧ d.hasDict = false ∧ d.depth ≤ 64 ∧ d.shown.length ≤ sizeLine ∧ Q (.str d.shown) H
theorem call_repr {X : Cx} (quiet : X.A.guards = some []) (hu : X.A.units + 65 < cLine) : CallR X (.builtin "repr") (rRepr X.K) := by
  intro pins s σ H xs us Q I r h
  obtain ⟨x, d, rfl, dp, sh, nd, dep, len, q⟩ := h
  obtain ⟨u, rfl, rx⟩ := vals1 r
  obtain ⟨as, rd⟩ := Dp.reads I d x u dp rx
  have big : ∀ a, u = .ref a → wpAny (model X.prog X.w) X.A (call (.builtin "repr") [u]) (EP X pins σ Q) X.xe s := fun a ea => by
    subst ea
    exact repr_of_reads' rd sh (PyData.noDict_hsm nd) quiet (by omega) (fun _ _ e => e) (fun h' u tk keep => ⟨.str d.shown, H, I.kept keep, ⟨u, rfl⟩, q⟩) len
  cases d with
  | none => cases rd; exact PySem.P.repr_of_none ⟨.str _, H, I.tok _, ⟨_, rfl⟩, by simpa only [PyData.shown] using q⟩
  | bool b => cases rd; exact PySem.P.repr_of_bool ⟨.str _, H, I.tok _, ⟨_, rfl⟩, by simpa only [PyData.shown] using q⟩
  | int i => cases rd; exact PySem.P.repr_of_int (by simpa [PyData.showable] using sh) ⟨.str _, H, I.tok _, ⟨_, rfl⟩, by simpa only [PyData.shown] using q⟩
  | str z => cases rd; exact PySem.P.repr_of_str ⟨.str _, H, I.tok _, ⟨_, rfl⟩, by simpa only [PyData.shown] using q⟩ (by simpa only [PyData.shown] using len)
  | list ds => cases rd; exact big _ rfl
  | tuple ds => cases rd; exact big _ rfl
  | dict kvs => cases dp
def dRepr : List D → Option D
  | [d] => (match toPy d with
    | some p => if p.showable = true ∧ p.canLay0 = true ∧ p.depth ≤ 64 ∧ p.shown.length ≤ sizeLine then some (.str p.shown) else none
    | none => none)
  | _ => none
theorem cd_repr {mg : Gx} : CallD mg (rRepr mg.K) dRepr := fun A H xs ds z Q hA r h k => by
  match ds, h with
  | [d], h =>
    simp only [dRepr] at h
    split at h
    · rename_i p hp
      split at h
      · rename_i c
        cases h
        simp only [Reps] at r
        obtain ⟨v, _, rfl, rd, rfl⟩ := r
        exact ⟨v, p, rfl, toPy_dp hp rd, c.1, PyData.hasDict_of_canLay p c.2.1, c.2.2.1, c.2.2.2, k _ H (fun _ _ q => q) (by simp [Rep])⟩
      · cases h
    · cases h
/-! ### text == text -/
def dEqS : D → D → Option D
  | .str x, .str y => some (.bl (x == y))
  | _, _ => none
def dNeS : D → D → Option D
  | .str x, .str y => some (.bl (!(x == y)))
  | _, _ => none
theorem od_eqS {mg : Gx} : OpD mg rEq dEqS := fun A H x y d e z Q hA rx ry h k => by
  cases d <;> cases e <;> simp only [dEqS, reduceCtorEq, Option.some.injEq] at h
  simp only [Rep] at rx ry
  subst rx; subst ry; subst h
  refine ⟨rfl, ?_⟩
  rw [dec_str]
  exact k _ H (fun _ _ q => q) (by simp [Rep])
theorem od_neS {mg : Gx} : OpD mg rNe dNeS := fun A H x y d e z Q hA rx ry h k => by
  cases d <;> cases e <;> simp only [dNeS, reduceCtorEq, Option.some.injEq] at h
  simp only [Rep] at rx ry
  subst rx; subst ry; subst h
  refine ⟨rfl, ?_⟩
  rw [dec_str]
  exact k _ H (fun _ _ q => q) (by simp [Rep])
/-! ### is False, is True -/
def rIsB (no : Bool) : R2 := fun x y H Q => ∃ b, y = .bl b ∧ ((∃ a, x = .bl a ∧ Q (.bl (no != decide (a = b))) H) ∨ ((x = .non ∨ ∃ i, x = .int i) ∧ Q (.bl no) H))
theorem op_isB {X : Cx} : OpR X (compareOp .Is) (rIsB false) := by
  intro pins s σ H x y v u Q I rx ry h
  obtain ⟨b, rfl, h⟩ := h
  cases (show u = Value.bool b from ry)
  rcases h with ⟨a, rfl, q⟩ | ⟨rfl | ⟨i, rfl⟩, q⟩
  · cases (show v = Value.bool a from rx)
    by_cases e : a = b
    · subst e
      exact wpAny_is_self rfl ⟨.bl true, H, I, rfl, by simpa using q⟩
    · exact wpAny_is_other rfl (fun z => e (Value.bool.inj z)) ⟨.bl false, H, I, rfl, by simpa [e] using q⟩
  · cases (show v = Value.none from rx)
    exact wpAny_is_other rfl (fun z => nomatch z) ⟨.bl false, H, I, rfl, q⟩
  · obtain ⟨t, rfl⟩ := rx
    exact wpAny_is_other rfl (fun z => nomatch z) ⟨.bl false, H, I, rfl, q⟩
def dIsB : D → D → Option D
  | .bl a, .bl b => some (.bl (decide (a = b)))
  | .non, .bl _ => some (.bl false)
  | .int _, .bl _ => some (.bl false)
  | _, _ => none
theorem od_isB {mg : Gx} : OpD mg (rIsB false) dIsB := fun A H x y d e z Q hA rx ry h k => by
  cases d <;> cases e <;> simp only [dIsB, reduceCtorEq, Option.some.injEq] at h
  all_goals
    simp only [Rep] at rx ry
    subst rx; subst ry; subst h
  · exact ⟨_, rfl, .inr ⟨.inl rfl, k _ H (fun _ _ q => q) (by simp [Rep])⟩⟩
  · exact ⟨_, rfl, .inl ⟨_, rfl, k _ H (fun _ _ q => q) (by simp [Rep])⟩⟩
  · exact ⟨_, rfl, .inr ⟨.inr ⟨_, rfl⟩, k _ H (fun _ _ q => q) (by simp [Rep])⟩⟩
/-! ### text.index(sign) -/
def dIdxS : D → D → Option D
  | .str x, .str y => (match Builtin.Str.occurrences x y 0 x.length 1 with
    | i :: _ => some (.int (i : Nat))
    | [] => none)
  | _, _ => none
section
variable {X : Cx} {o e : Expr} {fo fe : FQ} {apos cpos : Pos}
theorem dq_idxS (ho : DQ X o fo) (he : DQ X e fe) (hbase : attributeBase o "index" X.env (eval o X.env) = eval o X.env := by rfl)
    (hfew : ((backTo cpos (starEach [e] X.env)).all (fun x => !x.1) && (backToKw cpos (keywordEach [] X.env)).all (fun x => x.1.isSome)
      && decide ([e].length + ([] : List Keyword).length + (if ([] : List Keyword).isEmpty then 0 else 1) < 30)) = true := by rfl)
    (hline : (apos.endLine == cpos.line) = true := by rfl) (hs : starEach [e] X.env = (false, eval e X.env) :: starEach [] X.env := by rfl) (hplain : (backTo cpos (starEach [] X.env)).any (·.1) = false := by rfl) :
    DQ X (.Call (.Attribute o "index" apos) [e] [] cpos) (qBin dIdxS fo fe) :=
  weakE (pe_bm PySem.F.plainAttrs_str PySem.F.slot_str_index PySem.F.type_str_index mt_sindex ho (pa_cons he pa_nil hs) hbase hfew hline hs hplain) fun σ H Q ⟨Bs, M, own, ρ, d, R, h, k⟩ => by
    unfold qBin at h
    split at h
    case h_2 => cases h
    rename_i x y e1 e2
    unfold dIdxS at h
    split at h
    case h_2 => cases h
    rename_i a b
    split at h
    case h_2 => cases h
    rename_i i rest hoc
    cases h
    refine ⟨Bs, M, own, ρ, _, R, e1, fun v H1 s1 r1 => ?_⟩
    simp only [Rep] at r1
    subst r1
    refine ⟨?_, Bs, M, own, ρ, _, R.same s1, e2, fun w H2 s2 r2 => ?_⟩
    · exact (rfl : ("str" : String) = "str")
    · simp only [Rep] at r2
      subst r2
      exact ⟨a, b, i, rest, rfl, rfl, hoc, k _ H2 (s1.trans s2) (by simp [Rep])⟩
end
end DL
end

section
set_option Elab.async false
set_option linter.all false
set_option maxRecDepth 100000
set_option maxHeartbeats 4000000
/-! DL25: for x in reversed(text) -/
namespace RS
open PySem PySem.Spec PyProof.Rows L2
theorem text_norev : typeLookup (.type "str") "__reversed__" = pure none := by
  rw [typeLookup_type, builtinLookup_eq_fast]
  kernel_rfl
theorem text_item : typeLookup (.type "str") "__getitem__" = pure (some (.builtin "str.__getitem__")) := by
  rw [typeLookup_type, builtinLookup_eq_fast]
  kernel_rfl
/-- what walks a text from its end: the next place i -/
def walker (x : Str) (t : Tok) (i : Int) : Obj := { cls := .type "reversed", data := .fields #[.str x t, rawInt i] }
def Walking (h : Heap) (a : Addr) (x : Str) (t : Tok) (i : Int) : Prop := ∃ o, h.get? a = some o ∧ o.cls = .type "reversed" ∧ o.data = .fields #[.str x t, rawInt i]
section
variable {prog : Program} {w : World} {A : Around} {E : Value → Shared → Prop} {s : Shared} {x : Str} {t : Tok} {a : Addr}
theorem Walking.ty {i : Int} (h : Walking s.heap a x t i) : s.TypeIs (.ref a) "reversed" := by
  obtain ⟨o, ho, hc, _⟩ := h
  exact ⟨o, ho, hc⟩
theorem new_rev {Q : Value → Shared → Prop} (small : x.length ≤ 1000) (h : Q (.ref s.heap.objs.size) { s with heap := s.heap.push (walker x t ((x.length : Int) - 1)), toks := s.toks + 1 + 1 }) :
    codeAny (model prog w) A (.call (.builtin "reversed.__new__") ⟨[.type "reversed", .str x t], []⟩) (wants Q E) s := by
  have hT : s.TypeIs (.str x t) "str" := typeIs_str s x t
  refine codeAny_of_tree ?_
  show wpAny _ A.in1 (do checkBuiltinCall "reversed.__new__" ⟨[.type "reversed", .str x t], []⟩; again (.builtin "reversed.__new__" ⟨[.type "reversed", .str x t], []⟩)) _ _ s
  refine wpAny_bind (wpAny_of_eq (F.newCall_reversed_1 (.str x t)) (wpAny_pure (And.intro (plainId_quiet F.plain_reversed_new _) (codeAny_builtin F.entry_reversed_new ?_))))
  rw [Around.under_plainId F.plain_reversed_new (_ : Args)]
  unfold Builtin.«reversed.__new__»
  refine wpAny_bind <| wpAny_of_eq (newClass_reversed _) ?_
  try dsimp only
  refine wpAny_bind (wpAny_of_eq (a := PUnit.unit) (by first | rfl | kernel_rfl) ?_)
  try dsimp only
  refine wpAny_bind (wpAny_of_eq (a := PUnit.unit) (by first | rfl | kernel_rfl) ?_)
  try dsimp only
  refine wpAny_bind (wpAny_specialOf hT text_norev ?_)
  try dsimp only
  refine wpAny_bind ?_
  wp_delta
  refine wpAny_bind (wpAny_isInstance (T := "str") (U := "dict") (b := false) hT PySem.F.sub_str_dict ?_)
  try dsimp only
  try rw [if_neg Bool.false_ne_true]
  try dsimp only
  refine wpAny_bind (wpAny_specialOf hT text_item ?_)
  try dsimp only
  try rw [if_pos (by decide +kernel)]
  refine wpAny_pure ?_
  try dsimp only
  try rw [if_neg (by decide)]
  try dsimp only
  refine wpAny_bind (PySem.P.len_str (by omega) ?_)
  refine wpAny_bind (wpAny_of_eq (a := some ((x.length : Nat) : Int)) (by rfl) ?_)
  try dsimp only
  refine wpAny_bind ?_
  show wpAny _ _ (newObj (.type "reversed") (.fields #[.str x t, rawInt ((x.length : Int) - 1)])) _ _ _
  exact wpAny_newObj_type (wpAny_pure h)
theorem call_rev {Q : Value → Shared → Prop} (small : x.length ≤ 1000) (h : Q (.ref s.heap.objs.size) { s with heap := s.heap.push (walker x t ((x.length : Int) - 1)), toks := s.toks + 1 + 1 }) :
    wpAny (model prog w) A (call (.type "reversed") [.str x t]) Q E s :=
  callType_codes (Q₁ := fun ob s2 => s2.TypeIs ob "reversed" ∧ Q ob s2) RT.called_rt (F.typeCall_reversed_1 _) F.entry_object_init (new_rev (A := A.in1) small ⟨⟨_, Heap.get?_push_size _ rfl, rfl⟩, h⟩)
    fun ob s2 h2 => ⟨h2.1, F.args_object_init_2 ob _, object_init_meets RT.called_rt.init.lookup RT.called_rt.made (by decide) prog w A.in1 _ s2 ⟨h2.1, rfl, h2.2⟩⟩
theorem next_item {i c : Nat} {Q : Option Value → Shared → Prop} (at_ : Walking s.heap a x t (i : Int)) (hc : x.cps[i]? = some c) (small : x.length ≤ 1000)
    (hQ : ∀ h', Walking h' a x t ((i : Int) - 1) → Heap.SameBut a s.heap h' → Q (some (.str ⟨#[c]⟩ (s.toks + 1))) { s with heap := h', toks := s.toks + 1 + 1 }) : wpAny (model prog w) A (pyNext (.ref a)) Q E s := by
  obtain ⟨o, ho, hcl, hd⟩ := id at_
  have hi : i < x.length := (Array.getElem?_eq_some_iff.mp hc).1
  have hT : s.TypeIs (.str x t) "str" := typeIs_str s x t
  unfold pyNext
  refine wpAny_bind <| wpAny_attempt <| wpAny_callSpecial?_slot (name := Str.ofString "__next__") at_.ty RT.slot_rt_next <| wpAny_call_entry RT.slot_rt_next at_.ty RT.entry_rt_next ?_ (RT.args_rt_next _)
  unfold Builtin.«reversed.__next__»
  refine wpAny_bind (wpAny_of_eq (a := (Value.ref a, [])) rfl ?_)
  try dsimp only
  refine wpAny_bind (wpAny_field ho hd (x := .str x t) rfl ?_)
  try dsimp only
  refine wpAny_bind (wpAny_field ho hd (x := rawInt ((i : Nat) : Int)) rfl ?_)
  show wpAny _ _ (if ((i : Nat) : Int) < 0 then _ else _) _ _ s
  rw [if_neg (Int.not_lt.mpr (Int.natCast_nonneg i))]
  try dsimp only
  refine wpAny_bind (wpAny_specialOf hT text_item ?_)
  try dsimp only
  try rw [if_neg (by decide)]
  try dsimp only
  refine wpAny_bind (wpAny_mkInt ?_)
  refine wpAny_bind (wpAny_attempt ?_)
  have place : (seqIndex? (i : Int) x.length).bind (x.cps[·]?) = some c := by
    rw [show seqIndex? (i : Int) x.length = some i from seqIndex_of (by omega) (by omega)]
    exact hc
  refine PySem.P.getItem_str (s := { s with toks := s.toks + 1 }) (c := c) ?_ place ?_
  · have e1 : decide ((i : Int) < -(2 ^ 63 : Int)) = false := decide_eq_false (by omega)
    have e2 : decide ((i : Int) ≥ 2 ^ 63) = false := decide_eq_false (by omega)
    rw [e1, e2, Bool.or_false]
  try dsimp only
  refine wpAny_bind (wpAny_field (s := { s with toks := s.toks + 1 + 1 }) ho hd (x := rawInt ((i : Nat) : Int)) rfl ?_)
  try dsimp only
  refine wpAny_bind (wpAny_setField (s := { s with toks := s.toks + 1 + 1 }) ho hd (by simp) ?_)
  have st := fun (h' : Heap) (e : h' = s.heap.update a (Obj.mapFields (·.setIfInBounds 1 (rawInt ((i : Int) - 1))))) => hQ h' (by
    subst e
    exact ⟨_, Heap.get?_update_self _ ho (Obj.isFreed_of_fields (Obj.data_mapFields hd _)), (Obj.cls_mapFields ..).trans hcl, by rw [Obj.data_mapFields hd]; simp⟩) (by subst e; exact Heap.SameBut.update ..)
  first
  | exact wpAny_pure ⟨_, rfl, wpAny_pure (st _ rfl)⟩
  | exact wpAny_bind (wpAny_pure (wpAny_pure ⟨_, rfl, wpAny_pure (st _ rfl)⟩))
theorem next_end {Q : Option Value → Shared → Prop} (calm : A.handled = none) (at_ : Walking s.heap a x t (-1)) (hQ : ∀ h', Heap.ExtBut a s.heap h' → Q none { s with heap := h' }) : wpAny (model prog w) A (pyNext (.ref a)) Q E s := by
  obtain ⟨o, ho, hcl, hd⟩ := id at_
  unfold pyNext
  refine wpAny_bind <| wpAny_attempt <| wpAny_callSpecial?_slot (name := Str.ofString "__next__") at_.ty RT.slot_rt_next <| wpAny_call_entry RT.slot_rt_next at_.ty RT.entry_rt_next ?_ (RT.args_rt_next _)
  unfold Builtin.«reversed.__next__»
  refine wpAny_bind (wpAny_of_eq (a := (Value.ref a, [])) rfl ?_)
  try dsimp only
  refine wpAny_bind (wpAny_field ho hd (x := .str x t) rfl ?_)
  try dsimp only
  refine wpAny_bind <| wpAny_field ho hd (x := rawInt (-1)) rfl ?_
  show wpAny _ _ (if (-1 : Int) < 0 then _ else _) _ _ (s : Shared)
  rw [if_pos (show (-1 : Int) < 0 by decide)]
  try dsimp only
  refine wpAny_bind (wpAny_rule ?_)
  refine wpAny_bind ?_
  wp_delta
  refine wpAny_bind <| wpAny_setField ho hd (by simp) ?_
  have next := Heap.get?_update_self (Obj.mapFields (·.setIfInBounds 1 (rawInt (-1)))) ho (Obj.isFreed_of_fields (Obj.data_mapFields hd _))
  refine wpAny_setField (s := { s with heap := s.heap.update a (Obj.mapFields (·.setIfInBounds 1 (rawInt (-1)))) }) next (Obj.data_mapFields hd _) (by simp) ?_
  try dsimp only
  first
  | show wpAny _ _ (newExc (.type "StopIteration") ([] : List Value) >>= _) _ _ _
  | (refine wpAny_bind ?_; show wpAny _ _ (newExc (.type "StopIteration") ([] : List Value) >>= _) _ _ _)
  | (refine wpAny_bind ?_; wp_delta; show wpAny _ _ (newExc (.type "StopIteration") ([] : List Value) >>= _) _ _ _)
  refine wpAny_bind ?_
  simp only [newExc, newTuple]
  refine wpAny_bind <| wpAny_newObj_type ?_ (by size_fits)
  refine wpAny_bind (m := firstArgMember _ _) <| wpAny_of_eq (a := Value.none) (by first | rfl | (simp only [firstArgMember]; rfl)) ?_
  refine wpAny_newObj_type ?_ (by size_fits)
  simp only [raiseNew]
  refine wpAny_bind (wpAny_handled ?_)
  first
  | rw [show A.in1.handled = none from calm]
  | rw [calm]
  refine wpAny_bind (wpAny_pure (wpAny_throw ?_))
  refine wpAny_bind <| wpAny_isInstance (T := "StopIteration") (b := true) ⟨_, Heap.get?_push_size _ rfl, rfl⟩ isSubtype_stop ?_
  refine wpAny_pure (hQ _ (((?_ : Heap.ExtBut a s.heap _).push _).push _))
  exact fun b ob hb e => (Heap.get?_update_other _ _ (Ne.symm hb)).trans <| (Heap.get?_update_other _ _ (Ne.symm hb)).trans e
theorem iter_self {i : Int} {Q : Value → Shared → Prop} (at_ : Walking s.heap a x t i) (h : Q (.ref a) s) : wpAny (model prog w) A (pyIter (.ref a)) Q E s :=
  wpAny_pyIter_slot at_.ty RT.slot_rt_iter <| wpAny_call_entry RT.slot_rt_iter at_.ty RT.entry_rt_iter (by
    show wpAny _ _ (ret (.ref a)) _ _ s
    exact wpAny_pure ⟨_, rfl, "reversed", _, at_.ty, RT.slot_rt_next.lookup, h⟩) (RT.args_rt_iter _)
end
/-- a text from its end -/
def ItsR (x : Str) : It := ⟨fun i _ => i < x.cps.size, fun i H v H' => H' = H ∧ ∃ c, x.cps[x.cps.size - 1 - i]? = some c ∧ v = .str ⟨#[c]⟩, fun i _ => x.cps.size ≤ i⟩
theorem turn_rev {P : Program} {w : World} {K : PySem.W.Frag} {tg : Expr} (a : Addr) (x : Str) (t : Tok) (small : x.length ≤ 1000) : Turn P w K tg (ItsR x) [a] a (fun i h => i ≤ x.cps.size ∧ Walking h a x t ((x.cps.size : Int) - 1 - (i : Nat))) where
  mem := by simp
  obj := by
    rintro i h ⟨_, o, e, _, d⟩ b hb
    obtain rfl := List.mem_singleton.mp hb
    exact ⟨o, e, fun v z => by rw [d] at z; cases z⟩
  keep := by
    rintro i h h' ⟨le, o, ho, r⟩ k
    exact ⟨le, o, k a (by simp) o ho, r⟩
  item := by
    intro X hP hw hK calm i pins s σ H E I free st go
    subst hP hw hK
    obtain ⟨f0, f1, f2, f3, f4, f5⟩ := free a (by simp)
    have go' : i < x.cps.size := go
    have e1 : (x.cps.size : Int) - 1 - ((i : Nat) : Int) = ((x.cps.size - 1 - i : Nat) : Int) := by omega
    have wk := st.2
    rw [e1] at wk
    obtain ⟨c, hc⟩ : ∃ c, x.cps[x.cps.size - 1 - i]? = some c := ⟨_, Array.getElem?_eq_getElem (by omega)⟩
    refine next_item wk hc small fun h' wk' same => ?_
    have e2 : ((x.cps.size - 1 - i : Nat) : Int) - 1 = (x.cps.size : Int) - 1 - ((i + 1 : Nat) : Int) := by omega
    rw [e2] at wk'
    have J : Inv X pins σ H { s with heap := h', toks := s.toks + 1 + 1 } := I.turned (t' := s.toks + 1 + 1) (fun b o hb e => (same.2 b hb).trans e) f0 f1 f3 f4 f5
    obtain ⟨o, e, hcl, d⟩ := id wk'
    exact ⟨_, rfl, go_of (s := { s with heap := h', toks := s.toks + 1 + 1 }) e hcl d (by decide) ⟨.str ⟨#[c]⟩, H, J, ⟨_, rfl⟩, ⟨rfl, c, hc, rfl⟩, ⟨go', wk'⟩, fun b hb => (free b hb).1⟩⟩
  done := by
    intro X hP hw hK calm i pins s σ H E I free st stop
    subst hP hw hK
    obtain ⟨f0, f1, f2, f3, f4, f5⟩ := free a (by simp)
    have stop' : x.cps.size ≤ i := stop
    have e1 : (x.cps.size : Int) - 1 - ((i : Nat) : Int) = -1 := by have := st.1; omega
    have wk := st.2
    rw [e1] at wk
    exact next_end (I.ok.hd calm) wk fun h' but => ⟨rfl, I.turned (t' := s.toks) (fun b o hb e => but b o hb e) f0 f1 f3 f4 f5⟩
  self := fun A i s Q E st h => iter_self st.2 h
def iRevS (te : TE) : TI := fun σ H R => te σ H fun v H1 => ∃ x, v = .str x ∧ x.length ≤ 1000 ∧ R (ItsR x) H1
theorem pi_revS {X : Cx} {tg e : Expr} {te : TE} {p pos : Pos} (hg : Gl X "reversed") (hm : X.mg "reversed" = none) (he : PE X e te) (hs : starEach [e] X.env = (false, eval e X.env) :: starEach [] X.env := by rfl) : PI X tg (.Call (.Name "reversed" p) [e] [] pos) (iRevS te) := by
  refine ⟨fun pins s σ H R I h => Call_ (ld_blt I hg hm PyProof.Rows.boot_reversed (PyProof.Rows.callWith_type1 (args_cons (thn (he.run pins s σ H _ I h) fun u s1 got => args_nil ?_) hs) hs rfl))⟩
  obtain ⟨v, H1, I1, r1, x, rfl, small, q⟩ := got
  obtain ⟨t, rfl⟩ := r1
  refine call_rev small (iter_self (x := x) (t := t) (i := (x.length : Int) - 1) ⟨_, Heap.get?_push_size _ rfl, rfl, rfl⟩ (pi_one (tk := s1.toks + 1 + 1) I1 _ (turn_rev _ x t small) ⟨Nat.zero_le _, ?_⟩ q))
  rw [show (x.cps.size : Int) - 1 - ((0 : Nat) : Int) = (x.length : Int) - 1 by show (x.cps.size : Int) - 1 - 0 = (x.cps.size : Int) - 1; omega]
  exact ⟨_, Heap.get?_push_size _ rfl, rfl, rfl⟩
end RS
namespace DL
open PySem PySem.Spec PyProof.Rows L2
theorem wk_revS {mg : Gx} {A : Addr → Prop} {H : Hp} {x : Str} : Wk mg (RS.ItsR x) A H ((signs x).reverse.map .str) where
  goes := fun i H1 A1 hi _ => by rw [List.length_map, List.length_reverse, signs_len] at hi; exact hi
  stops := fun H1 A1 _ => by rw [List.length_map, List.length_reverse, signs_len]; exact Nat.le_refl _
  yields := fun i H1 v H2 A1 e hA y => by
    obtain ⟨rfl, c, hc, rfl⟩ := y
    refine ⟨fun _ _ q => q, fun d hd => ?_⟩
    have hi : i < (signs x).length := by
      have := (List.getElem?_eq_some_iff.mp hd).1
      rw [List.length_map, List.length_reverse] at this
      exact this
    rw [List.getElem?_map, List.getElem?_reverse hi, signs_get, signs_len, hc] at hd
    cases hd
    simp [Rep]
/-- reversed(text) -/
def fRevS (f : FE) : FI := fun ρ => match f ρ with
  | some (.str x, ρ1) => if x.length ≤ 1000 then some ((signs x).reverse.map .str, ρ1) else none
  | _ => none
theorem di_revS {X : Cx} {tg e : Expr} {f : FE} {p pos : Pos} (hg : Gl X "reversed") (hm : X.mg "reversed" = none) (he : DE X e f) (hs : starEach [e] X.env = (false, eval e X.env) :: starEach [] X.env := by rfl) : DI X tg (.Call (.Name "reversed" p) [e] [] pos) (fRevS f) := ⟨fun pins s σ H R I h => by
  obtain ⟨Bs, M, own, ρ, ds, ρ', RR, q, k⟩ := h
  unfold fRevS at q
  split at q
  · rename_i x ρ1 e1
    split at q
    · rename_i small
      cases q
      exact (RS.pi_revS (tg := tg) hg hm he hs).run pins s σ H R I ⟨Bs, M, own, ρ, _, _, RR, e1, fun v H' own' G R' r => by
        simp only [Rep] at r
        subst r
        exact ⟨x, rfl, small, k _ H' own' G R' wk_revS⟩⟩
    · cases q
  · cases q⟩
end DL
end

section
set_option Elab.async false
set_option linter.all false
set_option maxRecDepth 100000
set_option maxHeartbeats 2000000
/-! DL26: x < y over data that are alike -/
namespace DL
open PySem PySem.Spec PyProof.Rows L2
def rLtP (K : PySem.W.Frag) : R2 := fun x y H Q => ∃ d e, Dp K H x d ∧ Dp K H y e ∧ PySem.W.alike d e = true ∧ d ≠ .none ∧ d.depth ≤ 64 ∧ Q (.bl (PySem.W.dataLt d e)) H
theorem op_ltP {X : Cx} (hu : X.A.units + 65 < cLine) : OpR X (compareOp .Lt) (rLtP X.K) := by
  intro pins s σ H x y v u Q I rx ry h
  obtain ⟨d, e, hd, he, al, nn, dep, q⟩ := h
  obtain ⟨as, r1⟩ := Dp.reads I d x v hd rx
  obtain ⟨bs, r2⟩ := Dp.reads I e y u he ry
  have z := PySem.W.rcLt_alike d e X.A s v u as bs r1 r2 al nn (by have := Nat.min_le_left d.depth e.depth; omega)
  exact z X.prog X.w _ _ ⟨.bl _, H, I, rfl, q⟩
def dLtP (d e : D) : Option D := match toPy d, toPy e with
  | some p, some q => (match p with
    | .none => none
    | _ => if PySem.W.alike p q = true ∧ p.depth ≤ 64 then some (.bl (PySem.W.dataLt p q)) else none)
  | _, _ => none
theorem od_ltP {mg : Gx} : OpD mg (rLtP mg.K) dLtP := fun A H x y d e z Q hA rx ry h k => by
  unfold dLtP at h
  split at h
  case h_2 => cases h
  rename_i p q e1 e2
  have key : p ≠ .none ∧ PySem.W.alike p q = true ∧ p.depth ≤ 64 ∧ z = .bl (PySem.W.dataLt p q) := by
    cases p with
    | none => cases h
    | _ =>
      dsimp only at h
      split at h
      · rename_i c
        cases h
        exact ⟨fun z => (nomatch z), c.1, c.2, rfl⟩
      · cases h
  obtain ⟨nn, al, dep, rfl⟩ := key
  exact ⟨p, q, toPy_dp e1 rx, toPy_dp e2 ry, al, nn, dep, k _ H (fun _ _ q => q) (by simp [Rep])⟩
end DL
end

section
set_option Elab.async false
set_option linter.all false
set_option maxRecDepth 100000
set_option maxHeartbeats 2000000
/-! DL27: min of two, a class without own __init__ looked at -/
namespace DL
open PySem PySem.Spec PyProof.Rows L2
def dMin2 : List D → Option D
  | [.int i, .int j] => some (.int (if j < i then j else i))
  | _ => none
theorem cd_min2 {mg : Gx} : CallD mg (fun xs H Q => ∃ i j, xs = [.int i, .int j] ∧ Q (.int (if j < i then j else i)) H) dMin2 := fun A H xs ds z Q hA r h k => by
  unfold dMin2 at h
  split at h
  · rename_i i j
    cases h
    simp only [Reps, Rep] at r
    obtain ⟨v, _, rfl, rfl, v2, _, rfl, rfl, rfl⟩ := r
    exact ⟨i, j, rfl, k _ H (fun _ _ q => q) (by simp [Rep])⟩
  · cases h
def bareB (K : PySem.W.Frag) (C : Addr) : Bool := PySem.W.makesIn K C && (decide (PySem.W.findIn K (.ref C) "__init__" = some (some (.builtin "object.__init__"))) && PySem.W.keepIn K (.ref C))
theorem bareB_ok {K : PySem.W.Frag} {C : Addr} (h : bareB K C = true) : Bare K C := by
  obtain ⟨h1, h2⟩ := Bool.and_eq_true_iff.mp h
  obtain ⟨h2, h3⟩ := Bool.and_eq_true_iff.mp h2
  exact ⟨h1, of_decide_eq_true h2, h3⟩
end DL
end

section
set_option Elab.async false
set_option linter.all false
set_option maxRecDepth 100000
set_option maxHeartbeats 0

/-! the walk of law_weighwalk_k19_least_best_ways; printed by gen.py -/
namespace K19
open PySem PySem.Spec PyProof.Rows L2 DL

def topS (i : Nat) : Stmt := PySem.Challenge.pw_weighwalk_k19_least_best_ways.main.body.getD i (.Pass ⟨0, 0, 0, 0⟩)
def clsS (i j : Nat) : Stmt := match topS i with
  | .ClassDef _ _ _ b _ _ _ _ _ _ _ => b.getD j (.Pass ⟨0, 0, 0, 0⟩)
  | s => s
abbrev s_column_at : Stmt := topS 8
abbrev s_check_word : Stmt := topS 12
abbrev s_table_of : Stmt := topS 13
abbrev s_Costs_picks : Stmt := clsS 25 0
abbrev s_Truths_picks : Stmt := clsS 25 0
abbrev s_Costs_nought : Stmt := clsS 26 1
abbrev s_Costs_one : Stmt := clsS 26 2
abbrev s_Costs_plus : Stmt := clsS 26 3
abbrev s_Costs_times : Stmt := clsS 26 4
abbrev s_Truths_nought : Stmt := clsS 27 1
abbrev s_Truths_one : Stmt := clsS 27 2
abbrev s_Truths_plus : Stmt := clsS 27 3
abbrev s_Truths_times : Stmt := clsS 27 4
abbrev s__law_next : Stmt := topS 29
abbrev s__law_state : Stmt := topS 30
abbrev s__law_on : Stmt := topS 36
abbrev s__law_is_way : Stmt := topS 39
abbrev s_dot : Stmt := topS 7
abbrev s_way_weight : Stmt := topS 17
abbrev s_first_good : Stmt := topS 18
abbrev s__law_letters : Stmt := topS 31
abbrev s__law_word : Stmt := topS 32
abbrev s__law_weight : Stmt := topS 33
abbrev s__law_best_of : Stmt := topS 37
abbrev s_row_by : Stmt := topS 9
abbrev s_by_column : Stmt := topS 10
abbrev s__law_line : Stmt := topS 34
abbrev s__law_due : Stmt := topS 38
abbrev s_ahead : Stmt := topS 14
abbrev s_columns_of : Stmt := topS 15
abbrev s__law_machine : Stmt := topS 35
abbrev s_weight : Stmt := topS 16
abbrev s_best_way : Stmt := topS 19
abbrev s_law : Stmt := topS 40
/-- column_at: slots 0 table, 1 at, 2 row -/
noncomputable def F_column_at : FS :=
  (fRet (fArgs dTuple (fCons (fLc (fIter (fq (qVar 0))) (gN 2) [2] fTrue (fq (qBin dIx (qVar 2) (qVar 1)))) fNil)))
noncomputable def g_column_at : List D → Option D := fnD 3 2 F_column_at
/-- check_word: slots 0 letters, 1 word, 2 letter -/
noncomputable def F_check_word : FS :=
  (fSeq (fIfS (fNot (fB (fq (qArgs dIsi (qCons (qVar 1) (qCons (qC (.opq (.ty "str"))) qNil)))))) fNever fNext)
  (fFor (fIter (fq (qVar 1))) (gN 2) (fIfS (fB (fq (qLook dNotInX (qVar 2) (qVar 0)))) fNever fNext)))
noncomputable def g_check_word : List D → Option D := fnD 3 2 F_check_word
/-- table_of: slots 0 machine, 1 letter -/
noncomputable def F_table_of : FS :=
  (fRet (fq (qBin dIx (qBin dIx (qVar 0) (qC (.int 2))) (qBin dIdxS (qBin dIx (qVar 0) (qC (.int 0))) (qVar 1)))))
noncomputable def g_table_of : List D → Option D := fnD 2 2 F_table_of
/-- Costs_picks: slots 0 self -/
noncomputable def F_Costs_picks : FS :=
  (fRet (fq (qC (.bl true))))
noncomputable def g_Costs_picks : List D → Option D := fnD 1 1 F_Costs_picks
/-- Truths_picks: slots 0 self -/
noncomputable def F_Truths_picks : FS :=
  (fRet (fq (qC (.bl true))))
noncomputable def g_Truths_picks : List D → Option D := fnD 1 1 F_Truths_picks
noncomputable def tb_picks : Str → Option (List D → Option D) := fun c => if c = "Costs" then some g_Costs_picks else if c = "Truths" then some g_Truths_picks else none
/-- Costs_nought: slots 0 self -/
noncomputable def F_Costs_nought : FS :=
  (fRet (fq (qC .non)))
noncomputable def g_Costs_nought : List D → Option D := fnD 1 1 F_Costs_nought
/-- Costs_one: slots 0 self -/
noncomputable def F_Costs_one : FS :=
  (fRet (fq (qC (.int 0))))
noncomputable def g_Costs_one : List D → Option D := fnD 1 1 F_Costs_one
/-- Costs_plus: slots 0 self, 1 x, 2 y -/
noncomputable def F_Costs_plus : FS :=
  (fSeq (fIfS (fB (fq (qLook dIs (qVar 1) (qC .non)))) (fRet (fq (qVar 2))) fNext)
  (fSeq (fIfS (fB (fq (qLook dIs (qVar 2) (qC .non)))) (fRet (fq (qVar 1))) fNext)
  (fRet (fArgs dMin2 (fCons (fq (qVar 1)) (fCons (fq (qVar 2)) fNil))))))
noncomputable def g_Costs_plus : List D → Option D := fnD 3 3 F_Costs_plus
/-- Costs_times: slots 0 self, 1 x, 2 y -/
noncomputable def F_Costs_times : FS :=
  (fSeq (fIfS (fOr (fB (fq (qLook dIs (qVar 1) (qC .non)))) (fB (fq (qLook dIs (qVar 2) (qC .non))))) (fRet (fq (qC .non))) fNext)
  (fRet (fq (qBin dAdd (qVar 1) (qVar 2)))))
noncomputable def g_Costs_times : List D → Option D := fnD 3 3 F_Costs_times
/-- Truths_nought: slots 0 self -/
noncomputable def F_Truths_nought : FS :=
  (fRet (fq (qC (.bl false))))
noncomputable def g_Truths_nought : List D → Option D := fnD 1 1 F_Truths_nought
noncomputable def tb_nought : Str → Option (List D → Option D) := fun c => if c = "Costs" then some g_Costs_nought else if c = "Truths" then some g_Truths_nought else none
/-- Truths_one: slots 0 self -/
noncomputable def F_Truths_one : FS :=
  (fRet (fq (qC (.bl true))))
noncomputable def g_Truths_one : List D → Option D := fnD 1 1 F_Truths_one
noncomputable def tb_one : Str → Option (List D → Option D) := fun c => if c = "Costs" then some g_Costs_one else if c = "Truths" then some g_Truths_one else none
/-- Truths_plus: slots 0 self, 1 x, 2 y -/
noncomputable def F_Truths_plus : FS :=
  (fRet (fOrV (fq (qVar 1)) (fq (qVar 2))))
noncomputable def g_Truths_plus : List D → Option D := fnD 3 3 F_Truths_plus
noncomputable def tb_plus : Str → Option (List D → Option D) := fun c => if c = "Costs" then some g_Costs_plus else if c = "Truths" then some g_Truths_plus else none
/-- Truths_times: slots 0 self, 1 x, 2 y -/
noncomputable def F_Truths_times : FS :=
  (fRet (fAndV (fq (qVar 1)) (fq (qVar 2))))
noncomputable def g_Truths_times : List D → Option D := fnD 3 3 F_Truths_times
noncomputable def tb_times : Str → Option (List D → Option D) := fun c => if c = "Costs" then some g_Costs_times else if c = "Truths" then some g_Truths_times else none
/-- _law_next: slots 0 state, 1 many, 2 found -/
noncomputable def F__law_next : FS :=
  (fSeq (fIfS (fB (fq (qLook dEq (qLook1 dLen (qPeek 0)) (qC (.int 2))))) (fSeq (fAsg (fq (qBin dMod (fpV (fpIx (fpN 0) (qC (.int 0)))) (qVar 1))) (gN 2))
  (fSeq (fPut 0 (fq (qBin dDiv (fpV (fpIx (fpN 0) (qC (.int 0)))) (qVar 1))) (fpN 0) (qC (.int 0)))
  (fSeq (fIfS (fB (fq (qLook dEq (fpK (fpIx (fpN 0) (qC (.int 0)))) (qC (.int 0))))) (fDrop (fChg 0 (fpN 0) (qCons (qC (.int 0)) qNil) chPopAt)) fNext)
  (fRet (fq (qVar 2)))))) fNext)
  (fSeq (fPut 0 (fq (qBin dMod (qBin dAdd (qBin dMulI (fpV (fpIx (fpN 0) (qC (.int 0)))) (qC (.int 1181783497276652981))) (qC (.int 12345678910987))) (qC (.int 2305843009213693951)))) (fpN 0) (qC (.int 0)))
  (fRet (fq (qBin dMod (qBin dDiv (fpV (fpIx (fpN 0) (qC (.int 0)))) (qC (.int 65537))) (qVar 1))))))
noncomputable def g__law_next : List Slot → Option (D × List Slot) := fnIO 3 2 F__law_next
/-- _law_state: slots 0 script, 1 seed, 2 cell -/
noncomputable def F__law_state : FS :=
  (fSeq (fAsg (fq (qC (.int 1000003))) (gN 1))
  (fSeq (fFor (fIter (fq (qCut (qVar 0) oNone (oSome (qC (.int 200)))))) (gN 2) (fAsg (fq (qBin dMod (qBin dAdd (qBin dAdd (qBin dMulI (qVar 1) (qC (.int 7368787))) (qBin dMod (qVar 2) (qBin dPow (qC (.int 10)) (qC (.int 30))))) (qC (.int 11))) (qC (.int 2305843009213693951)))) (gN 1)))
  (fSeq (fIfS (fAnd (fB (fq (qLook dGt (qArgs dLen (qCons (qVar 0) qNil)) (qC (.int 0))))) (fAnd (fB (fq (qLook dGt (qBin dIx (qVar 0) (qC (.int 0))) (qC (.int 1))))) (fB (fq (qLook dEq (qBin dMod (qBin dIx (qVar 0) (qC (.int 0))) (qC (.int 2))) (qC (.int 1))))))) (fRetF (fLstF (afCons (fImm (fq (qBin dDiv (qBin dIx (qVar 0) (qC (.int 0))) (qC (.int 2))))) (afCons (fImm (fq (qVar 1))) afNil)))) fNext)
  (fRetF (fLstF (afCons (fImm (fq (qVar 1))) afNil))))))
noncomputable def g__law_state : List D → Option B := fnF 3 1 F__law_state
/-- _law_on: slots 0 costs, 1 x, 2 y -/
noncomputable def F__law_on : FS :=
  (fSeq (fIfS (fOr (fB (fq (qLook dIs (qVar 1) (qC .non)))) (fOr (fB (fq (qLook dIs (qVar 2) (qC .non)))) (fOr (fB (fq (qLook dIsB (qVar 1) (qC (.bl false))))) (fB (fq (qLook dIsB (qVar 2) (qC (.bl false)))))))) (fRet (fq (qC .non))) fNext)
  (fRet (fIf (fB (fq (qVar 0))) (fq (qBin dAdd (qVar 1) (qVar 2))) (fq (qC (.bl true))))))
noncomputable def g__law_on : List D → Option D := fnD 3 3 F__law_on
/-- _law_is_way: slots 0 found, 1 due -/
noncomputable def F__law_is_way : FS :=
  (fRet (fAndV (fq (qArgs dIsi (qCons (qVar 0) (qCons (qC (.opq (.ty "tuple"))) qNil)))) (fq (qBin dEqS (qArgs dRepr (qCons (qVar 0) qNil)) (qArgs dRepr (qCons (qVar 1) qNil))))))
noncomputable def g__law_is_way : List D → Option D := fnD 2 2 F__law_is_way
/-- dot: slots 0 kind, 1 row, 2 column, 3 total, 4 x, 5 y -/
noncomputable def F_dot : FS :=
  (fSeq (fAsg (fMeth "nought" tb_nought (fq (qVar 0)) fNil) (gN 3))
  (fSeq (fFor (fZip (fCons (fq (qVar 1)) (fCons (fq (qVar 2)) fNil))) (gT 2 (gsC (gN 4) (gsC (gN 5) gs0))) (fAsg (fMeth "plus" tb_plus (fq (qVar 0)) (fCons (fq (qVar 3)) (fCons (fMeth "times" tb_times (fq (qVar 0)) (fCons (fq (qVar 4)) (fCons (fq (qVar 5)) fNil))) fNil))) (gN 3)))
  (fRet (fq (qVar 3)))))
noncomputable def g_dot : List D → Option D := fnD 6 3 F_dot
/-- way_weight: slots 0 kind, 1 machine, 2 word, 3 way, 4 total, 5 k, 6 letter -/
noncomputable def F_way_weight : FS :=
  (fSeq (fDrop (fq (qArgs g_check_word (qCons (qBin dIx (qVar 1) (qC (.int 0))) (qCons (qVar 2) qNil)))))
  (fSeq (fAsg (fq (qBin dIx (qBin dIx (qVar 1) (qC (.int 1))) (qBin dIx (qVar 3) (qC (.int 0))))) (gN 4))
  (fSeq (fFor (fEnum (fCons (fq (qVar 2)) fNil)) (gT 2 (gsC (gN 5) (gsC (gN 6) gs0))) (fAsg (fMeth "times" tb_times (fq (qVar 0)) (fCons (fq (qVar 4)) (fCons (fq (qBin dIx (qBin dIx (qArgs g_table_of (qCons (qVar 1) (qCons (qVar 6) qNil))) (qBin dIx (qVar 3) (qVar 5))) (qBin dIx (qVar 3) (qBin dAdd (qVar 5) (qC (.int 1)))))) fNil))) (gN 4)))
  (fRet (fMeth "times" tb_times (fq (qVar 0)) (fCons (fq (qVar 4)) (fCons (fq (qBin dIx (qBin dIx (qVar 1) (qC (.int 3))) (qBin dIx (qVar 3) (qUn dNeg (qC (.int 1)))))) fNil)))))))
noncomputable def g_way_weight : List D → Option D := fnD 7 4 F_way_weight
/-- first_good: slots 0 kind, 1 so_far, 2 row, 3 column, 4 due, 5 room, 6 x -/
noncomputable def F_first_good : FS :=
  (fSeq (fFor (fEnum (fCons (fq (qVar 2)) fNil)) (gT 2 (gsC (gN 5) (gsC (gN 6) gs0))) (fIfS (fB (fBin dEq (fMeth "times" tb_times (fq (qVar 0)) (fCons (fMeth "times" tb_times (fq (qVar 0)) (fCons (fq (qVar 1)) (fCons (fq (qVar 6)) fNil))) (fCons (fq (qBin dIx (qVar 3) (qVar 5))) fNil))) (fq (qVar 4)))) (fRet (fq (qVar 5))) fNext))
  (fRet (fq (qC .non))))
noncomputable def g_first_good : List D → Option D := fnD 7 5 F_first_good
/-- _law_letters: slots 0 state, 1 pool, 2 letters, 3 k, 4 at -/
noncomputable def F__law_letters : FS :=
  (fSeq (fAsg (fq (qC (.str "abcdefghijklmnopqrstuvwxyz"))) (gN 1))
  (fSeq (fAsg (fq (qC (.str ""))) (gN 2))
  (fSeq (fFor (fRange (fCons (fBin dAdd (fq (qC (.int 1))) (fIO g__law_next (akS 0 (akV (fq (qC (.int 3))) akNil)))) fNil)) (gN 3) (fSeq (fAsg (fIO g__law_next (akS 0 (akV (fq (qArgs dLen (qCons (qVar 1) qNil))) akNil))) (gN 4))
  (fSeq (fAsg (fq (qBin dAdd (qVar 2) (qBin dIx (qVar 1) (qVar 4)))) (gN 2))
  (fAsg (fq (qBin dAdd (qCut (qVar 1) oNone (oSome (qVar 4))) (qCut (qVar 1) (oSome (qBin dAdd (qVar 4) (qC (.int 1)))) oNone))) (gN 1)))))
  (fRet (fq (qVar 2))))))
noncomputable def g__law_letters : List Slot → Option (D × List Slot) := fnIO 5 1 F__law_letters
/-- _law_word: slots 0 state, 1 letters, 2 size, 3 word, 4 k -/
noncomputable def F__law_word : FS :=
  (fSeq (fAsg (fq (qC (.str ""))) (gN 3))
  (fSeq (fFor (fRange (fCons (fq (qVar 2)) fNil)) (gN 4) (fAsg (fBin dAdd (fq (qVar 3)) (fBin dIx (fq (qVar 1)) (fIO g__law_next (akS 0 (akV (fq (qArgs dLen (qCons (qVar 1) qNil))) akNil))))) (gN 3)))
  (fRet (fq (qVar 3)))))
noncomputable def g__law_word : List Slot → Option (D × List Slot) := fnIO 5 3 F__law_word
/-- _law_weight: slots 0 state, 1 costs, 2 thin -/
noncomputable def F__law_weight : FS :=
  (fSeq (fIfS (fB (fq (qVar 1))) (fRet (fBin dIx (fArgs dLst (fCons (fq (qC .non)) (fCons (fq (qC (.int 0))) (fCons (fq (qC (.int 1))) (fCons (fq (qUn dNeg (qC (.int 1)))) (fCons (fq (qC (.int 0))) (fCons (fq (qC (.int 1))) fNil))))))) (fIO g__law_next (akS 0 (akV (fBin dIx (fArgs dLst (fCons (fq (qC (.int 3))) (fCons (fq (qC (.int 6))) fNil))) (fq (qVar 2))) akNil))))) fNext)
  (fRet (fBin dGt (fIO g__law_next (akS 0 (akV (fq (qBin dAdd (qC (.int 2)) (qBin dMulI (qC (.int 2)) (qVar 2)))) akNil))) (fq (qC (.int 0))))))
noncomputable def g__law_weight : List Slot → Option (D × List Slot) := fnIO 3 3 F__law_weight
/-- _law_best_of: slots 0 costs, 1 row, 2 coming, 3 best, 4 room, 5 x, 6 whole, 7 told -/
noncomputable def F__law_best_of : FS :=
  (fSeq (fAsg (fq (qC .non)) (gN 3))
  (fSeq (fFor (fEnum (fCons (fq (qVar 1)) fNil)) (gT 2 (gsC (gN 4) (gsC (gN 5) gs0))) (fIfS (fB (fq (qLook dIsNot (qBin dIx (qVar 2) (qVar 4)) (qC .non)))) (fSeq (fAsg (fq (qArgs g__law_on (qCons (qVar 0) (qCons (qVar 5) (qCons (qBin dIx (qBin dIx (qVar 2) (qVar 4)) (qC (.int 0))) qNil))))) (gN 6))
  (fIfS (fB (fq (qLook dIsNot (qVar 6) (qC .non)))) (fSeq (fAsg (fArgs dTup (fCons (fIf (fB (fq (qVar 0))) (fq (qVar 6)) (fq (qC (.int 0)))) (fCons (fBin dAdd (fArgs dTup (fCons (fq (qVar 4)) fNil)) (fq (qBin dIx (qBin dIx (qVar 2) (qVar 4)) (qC (.int 1))))) fNil))) (gN 7))
  (fIfS (fOr (fB (fq (qLook dIs (qVar 3) (qC .non)))) (fB (fq (qLook dLtP (qVar 7) (qVar 3))))) (fAsg (fq (qVar 7)) (gN 3)) fNext)) fNext)) fNext))
  (fRet (fq (qVar 3)))))
noncomputable def g__law_best_of : List D → Option D := fnD 8 3 F__law_best_of
/-- row_by: slots 0 kind, 1 row, 2 table, 3 at -/
noncomputable def F_row_by : FS :=
  (fSeq (fIfS (fB (fBin dEq (fq (qVar 2)) (fArgs dTup fNil))) (fRet (fArgs dTup fNil)) fNext)
  (fRet (fArgs dTuple (fCons (fLc (fRange (fCons (fq (qArgs dLen (qCons (qBin dIx (qVar 2) (qC (.int 0))) qNil))) fNil)) (gN 3) [3] fTrue (fq (qArgs g_dot (qCons (qVar 0) (qCons (qVar 1) (qCons (qArgs g_column_at (qCons (qVar 2) (qCons (qVar 3) qNil))) qNil)))))) fNil))))
noncomputable def g_row_by : List D → Option D := fnD 4 3 F_row_by
/-- by_column: slots 0 kind, 1 table, 2 column, 3 row -/
noncomputable def F_by_column : FS :=
  (fRet (fArgs dTuple (fCons (fLc (fIter (fq (qVar 1))) (gN 3) [3] fTrue (fq (qArgs g_dot (qCons (qVar 0) (qCons (qVar 3) (qCons (qVar 2) qNil)))))) fNil)))
noncomputable def g_by_column : List D → Option D := fnD 4 3 F_by_column
/-- _law_line: slots 0 state, 1 costs, 2 thin, 3 many, 4 k -/
noncomputable def F__law_line : FS :=
  (fRet (fArgs dTuple (fCons (fLc (fRange (fCons (fq (qVar 3)) fNil)) (gN 4) [4] fTrue (fIO g__law_weight (akS 0 (akV (fq (qVar 1)) (akV (fq (qVar 2)) akNil))))) fNil)))
noncomputable def g__law_line : List Slot → Option (D × List Slot) := fnIO 5 4 F__law_line
/-- _law_due: slots 0 costs, 1 machine, 2 word, 3 letters, 4 start, 5 tables, 6 ends, 7 coming, 8 letter, 9 table, 10 x, 11 row -/
noncomputable def F__law_due : FS :=
  (fSeq (fAsg (fq (qVar 1)) (gT 4 (gsC (gN 3) (gsC (gN 4) (gsC (gN 5) (gsC (gN 6) gs0))))))
  (fSeq (fAsg (fLc (fIter (fq (qVar 6))) (gN 10) [10] fTrue (fIf (fOr (fB (fq (qLook dIs (qVar 10) (qC .non)))) (fB (fq (qLook dIsB (qVar 10) (qC (.bl false)))))) (fq (qC .non)) (fArgs dTup (fCons (fIf (fB (fq (qVar 0))) (fq (qVar 10)) (fq (qC (.int 0)))) (fCons (fArgs dTup fNil) fNil))))) (gN 7))
  (fSeq (fFor (fRevS (fq (qVar 2))) (gN 8) (fSeq (fAsg (fq (qBin dIx (qVar 5) (qBin dIdxS (qVar 3) (qVar 8)))) (gN 9))
  (fAsg (fLc (fIter (fq (qVar 9))) (gN 11) [11] fTrue (fq (qArgs g__law_best_of (qCons (qVar 0) (qCons (qVar 11) (qCons (qVar 7) qNil)))))) (gN 7))))
  (fRet (fq (qArgs g__law_best_of (qCons (qVar 0) (qCons (qVar 4) (qCons (qVar 7) qNil)))))))))
noncomputable def g__law_due : List D → Option D := fnD 12 3 F__law_due
/-- ahead: slots 0 kind, 1 machine, 2 word, 3 row, 4 letter -/
noncomputable def F_ahead : FS :=
  (fSeq (fDrop (fq (qArgs g_check_word (qCons (qBin dIx (qVar 1) (qC (.int 0))) (qCons (qVar 2) qNil)))))
  (fSeq (fAsg (fq (qBin dIx (qVar 1) (qC (.int 1)))) (gN 3))
  (fSeq (fFor (fIter (fq (qVar 2))) (gN 4) (fAsg (fq (qArgs g_row_by (qCons (qVar 0) (qCons (qVar 3) (qCons (qArgs g_table_of (qCons (qVar 1) (qCons (qVar 4) qNil))) qNil))))) (gN 3)))
  (fRet (fq (qVar 3))))))
noncomputable def g_ahead : List D → Option D := fnD 5 3 F_ahead
/-- columns_of: slots 0 kind, 1 machine, 2 word, 3 found, 4 letter -/
noncomputable def F_columns_of : FS :=
  (fSeq (fBox 3 (fCons (fq (qBin dIx (qVar 1) (qC (.int 3)))) fNil))
  (fSeq (fFor (fRevS (fq (qVar 2))) (gN 4) (fDrop (fChg 3 (fpN 3) (qCons (qArgs g_by_column (qCons (qVar 0) (qCons (qArgs g_table_of (qCons (qVar 1) (qCons (qVar 4) qNil))) (qCons (fpV (fpIx (fpN 3) (qUn dNeg (qC (.int 1))))) qNil)))) qNil) chApp)))
  (fRet (fVar 3))))
noncomputable def g_columns_of : List D → Option D := fnD 5 3 F_columns_of
/-- _law_machine: slots 0 state, 1 costs, 2 letters, 3 many, 4 thin, 5 few, 6 tables, 7 letter, 8 line, 9 k -/
noncomputable def F__law_machine : FS :=
  (fSeq (fAsg (fArgs dTup (fCons (fIO g__law_next (akS 0 (akV (fq (qC (.int 2))) akNil))) (fCons (fIO g__law_next (akS 0 (akV (fq (qC (.int 2))) akNil))) fNil))) (gT 2 (gsC (gN 4) (gsC (gN 5) gs0))))
  (fSeq (fBox 6 fNil)
  (fSeq (fFor (fIter (fq (qVar 2))) (gN 7) (fSeq (fAsg (fIO g__law_line (akS 0 (akV (fq (qVar 1)) (akV (fq (qVar 4)) (akV (fq (qVar 3)) akNil))))) (gN 8))
  (fIfS (fB (fq (qLook dEq (qVar 5) (qC (.int 0))))) (fDrop (fChgN 6 (fCons (fArgs dTuple (fCons (fLc (fRange (fCons (fq (qVar 3)) fNil)) (gN 9) [9] fTrue (fq (qBin dAdd (qCut (qVar 8) (oSome (qVar 9)) oNone) (qCut (qVar 8) oNone (oSome (qVar 9)))))) fNil)) fNil) chApp)) (fDrop (fChgN 6 (fCons (fArgs dTuple (fCons (fLc (fRange (fCons (fq (qVar 3)) fNil)) (gN 9) [9] fTrue (fIO g__law_line (akS 0 (akV (fq (qVar 1)) (akV (fq (qVar 4)) (akV (fq (qVar 3)) akNil)))))) fNil)) fNil) chApp)))))
  (fRet (fArgs dTup (fCons (fq (qVar 2)) (fCons (fIO g__law_line (akS 0 (akV (fq (qVar 1)) (akV (fq (qVar 4)) (akV (fq (qVar 3)) akNil))))) (fCons (fArgs dTuple (fCons (fVar 6) fNil)) (fCons (fIO g__law_line (akS 0 (akV (fq (qVar 1)) (akV (fq (qVar 4)) (akV (fq (qVar 3)) akNil))))) fNil)))))))))
noncomputable def g__law_machine : List Slot → Option (D × List Slot) := fnIO 10 4 F__law_machine
/-- weight: slots 0 kind, 1 machine, 2 word -/
noncomputable def F_weight : FS :=
  (fRet (fq (qArgs g_dot (qCons (qVar 0) (qCons (qArgs g_ahead (qCons (qVar 0) (qCons (qVar 1) (qCons (qVar 2) qNil)))) (qCons (qBin dIx (qVar 1) (qC (.int 3))) qNil))))))
noncomputable def g_weight : List D → Option D := fnD 3 3 F_weight
/-- best_way: slots 0 kind, 1 machine, 2 word, 3 columns, 4 due, 5 way, 6 so_far, 7 row, 8 at, 9 room -/
noncomputable def F_best_way : FS :=
  (fSeq (fIfS (fNot (fB (fMeth "picks" tb_picks (fq (qVar 0)) fNil))) fNever fNext)
  (fSeq (fDrop (fq (qArgs g_check_word (qCons (qBin dIx (qVar 1) (qC (.int 0))) (qCons (qVar 2) qNil)))))
  (fSeq (fAsg (fq (qArgs g_columns_of (qCons (qVar 0) (qCons (qVar 1) (qCons (qVar 2) qNil))))) (gN 3))
  (fSeq (fAsg (fq (qArgs g_dot (qCons (qVar 0) (qCons (qBin dIx (qVar 1) (qC (.int 1))) (qCons (qBin dIx (qVar 3) (qUn dNeg (qC (.int 1)))) qNil))))) (gN 4))
  (fSeq (fIfS (fB (fBin dEq (fq (qVar 4)) (fMeth "nought" tb_nought (fq (qVar 0)) fNil))) (fRet (fq (qC .non))) fNext)
  (fSeq (fAsg (fArgs dTup fNil) (gN 5))
  (fSeq (fAsg (fMeth "one" tb_one (fq (qVar 0)) fNil) (gN 6))
  (fSeq (fAsg (fq (qBin dIx (qVar 1) (qC (.int 1)))) (gN 7))
  (fSeq (fFor (fRange (fCons (fq (qBin dAdd (qArgs dLen (qCons (qVar 2) qNil)) (qC (.int 1)))) fNil)) (gN 8) (fSeq (fAsg (fq (qArgs g_first_good (qCons (qVar 0) (qCons (qVar 6) (qCons (qVar 7) (qCons (qBin dIx (qVar 3) (qBin dSub (qArgs dLen (qCons (qVar 2) qNil)) (qVar 8))) (qCons (qVar 4) qNil))))))) (gN 9))
  (fSeq (fAsg (fMeth "times" tb_times (fq (qVar 0)) (fCons (fq (qVar 6)) (fCons (fq (qBin dIx (qVar 7) (qVar 9))) fNil))) (gN 6))
  (fSeq (fAsg (fBin dAdd (fq (qVar 5)) (fArgs dTup (fCons (fq (qVar 9)) fNil))) (gN 5))
  (fIfS (fB (fq (qLook dLt (qVar 8) (qArgs dLen (qCons (qVar 2) qNil))))) (fAsg (fq (qBin dIx (qArgs g_table_of (qCons (qVar 1) (qCons (qBin dIx (qVar 2) (qVar 8)) qNil))) (qVar 9))) (gN 7)) fNext)))))
  (fRet (fq (qVar 5))))))))))))
noncomputable def g_best_way : List D → Option D := fnD 10 3 F_best_way
/-- law: slots 0 script, 1 state, 2 costs, 3 letters, 4 many, 5 machine, 6 kind, 7 turn, 8 word, 9 due, 10 again, 11 found, 12 whole -/
noncomputable def F_law : FS :=
  (fSeq (fSetF 1 (fCallF g__law_state (fCons (fq (qVar 0)) fNil)))
  (fSeq (fAsg (fBin dEq (fIO g__law_next (akS 1 (akV (fq (qC (.int 2))) akNil))) (fq (qC (.int 0)))) (gN 2))
  (fSeq (fAsg (fIO g__law_letters (akS 1 akNil)) (gN 3))
  (fSeq (fAsg (fBin dIx (fArgs dLst (fCons (fIO g__law_next (akS 1 (akV (fq (qC (.int 8))) akNil))) (fCons (fBin dAdd (fq (qC (.int 7))) (fIO g__law_next (akS 1 (akV (fq (qC (.int 14))) akNil)))) (fCons (fq (qC (.int 20))) (fCons (fBin dAdd (fq (qC (.int 7))) (fIO g__law_next (akS 1 (akV (fq (qC (.int 7))) akNil)))) fNil))))) (fIO g__law_next (akS 1 (akV (fq (qC (.int 4))) akNil)))) (gN 4))
  (fSeq (fAsg (fIO g__law_machine (akS 1 (akV (fq (qVar 2)) (akV (fq (qVar 3)) (akV (fq (qVar 4)) akNil))))) (gN 5))
  (fSeq (fAsg (fIf (fB (fq (qVar 2))) (fC (.obj "Costs" [] [])) (fC (.obj "Truths" [] []))) (gN 6))
  (fSeq (fFor (fRange (fCons (fq (qC (.int 2))) fNil)) (gN 7) (fSeq (fAsg (fIO g__law_word (akS 1 (akV (fq (qVar 3)) (akV (fBin dIx (fArgs dLst (fCons (fq (qC (.int 40))) (fCons (fIO g__law_next (akS 1 (akV (fq (qC (.int 41))) akNil))) (fCons (fIO g__law_next (akS 1 (akV (fq (qC (.int 6))) akNil))) fNil)))) (fIO g__law_next (akS 1 (akV (fq (qC (.int 3))) akNil)))) akNil)))) (gN 8))
  (fSeq (fAsg (fq (qArgs g__law_due (qCons (qVar 2) (qCons (qVar 5) (qCons (qVar 8) qNil))))) (gN 9))
  (fSeq (fFor (fRange (fCons (fq (qC (.int 2))) fNil)) (gN 10) (fSeq (fAsg (fq (qArgs g_best_way (qCons (qVar 6) (qCons (qVar 5) (qCons (qVar 8) qNil))))) (gN 11))
  (fIfS (fB (fq (qLook dIs (qVar 9) (qC .non)))) (fIfS (fOr (fB (fq (qLook dIsNot (qVar 11) (qC .non)))) (fB (fBin dNe (fq (qArgs g_weight (qCons (qVar 6) (qCons (qVar 5) (qCons (qVar 8) qNil))))) (fMeth "nought" tb_nought (fq (qVar 6)) fNil)))) (fRet (fq (qC (.bl false)))) fNext) (fIfS (fNot (fB (fq (qArgs g__law_is_way (qCons (qVar 11) (qCons (qBin dIx (qVar 9) (qC (.int 1))) qNil)))))) (fRet (fq (qC (.bl false)))) fNext))))
  (fIfS (fB (fq (qLook dIsNot (qVar 9) (qC .non)))) (fSeq (fAsg (fIf (fB (fq (qVar 2))) (fq (qBin dIx (qVar 9) (qC (.int 0)))) (fq (qC (.bl true)))) (gN 12))
  (fIfS (fOr (fB (fq (qLook dNe (qArgs g_weight (qCons (qVar 6) (qCons (qVar 5) (qCons (qVar 8) qNil)))) (qVar 12)))) (fB (fq (qLook dNe (qArgs g_way_weight (qCons (qVar 6) (qCons (qVar 5) (qCons (qVar 8) (qCons (qBin dIx (qVar 9) (qC (.int 1))) qNil))))) (qVar 12))))) (fRet (fq (qC (.bl false)))) fNext)) fNext)))))
  (fRet (fq (qC (.bl true)))))))))))
noncomputable def g_law : List D → Option D := fnD 13 1 F_law
structure Facts (K : PySem.W.Frag) (mg : Str → Option Value) where
  f_column_at : Addr
  fd_column_at : FuncData
  F_column_at : Fun K "column_at" "column_at" s_column_at f_column_at fd_column_at
  g_column_at : mg "column_at" = some (.ref f_column_at)
  b_column_at : Binds K fd_column_at ["table", "at"] []
  f_check_word : Addr
  fd_check_word : FuncData
  F_check_word : Fun K "check_word" "check_word" s_check_word f_check_word fd_check_word
  g_check_word : mg "check_word" = some (.ref f_check_word)
  b_check_word : Binds K fd_check_word ["letters", "word"] []
  f_table_of : Addr
  fd_table_of : FuncData
  F_table_of : Fun K "table_of" "table_of" s_table_of f_table_of fd_table_of
  g_table_of : mg "table_of" = some (.ref f_table_of)
  b_table_of : Binds K fd_table_of ["machine", "letter"] []
  f_Costs_picks : Addr
  fd_Costs_picks : FuncData
  F_Costs_picks : Fun K "picks" "Picking.picks" s_Costs_picks f_Costs_picks fd_Costs_picks
  b_Costs_picks : Binds K fd_Costs_picks ["self"] []
  f_Truths_picks : Addr
  fd_Truths_picks : FuncData
  F_Truths_picks : Fun K "picks" "Picking.picks" s_Truths_picks f_Truths_picks fd_Truths_picks
  b_Truths_picks : Binds K fd_Truths_picks ["self"] []
  f_Costs_nought : Addr
  fd_Costs_nought : FuncData
  F_Costs_nought : Fun K "nought" "Costs.nought" s_Costs_nought f_Costs_nought fd_Costs_nought
  b_Costs_nought : Binds K fd_Costs_nought ["self"] []
  f_Costs_one : Addr
  fd_Costs_one : FuncData
  F_Costs_one : Fun K "one" "Costs.one" s_Costs_one f_Costs_one fd_Costs_one
  b_Costs_one : Binds K fd_Costs_one ["self"] []
  f_Costs_plus : Addr
  fd_Costs_plus : FuncData
  F_Costs_plus : Fun K "plus" "Costs.plus" s_Costs_plus f_Costs_plus fd_Costs_plus
  b_Costs_plus : Binds K fd_Costs_plus ["self", "x", "y"] []
  f_Costs_times : Addr
  fd_Costs_times : FuncData
  F_Costs_times : Fun K "times" "Costs.times" s_Costs_times f_Costs_times fd_Costs_times
  b_Costs_times : Binds K fd_Costs_times ["self", "x", "y"] []
  f_Truths_nought : Addr
  fd_Truths_nought : FuncData
  F_Truths_nought : Fun K "nought" "Truths.nought" s_Truths_nought f_Truths_nought fd_Truths_nought
  b_Truths_nought : Binds K fd_Truths_nought ["self"] []
  f_Truths_one : Addr
  fd_Truths_one : FuncData
  F_Truths_one : Fun K "one" "Truths.one" s_Truths_one f_Truths_one fd_Truths_one
  b_Truths_one : Binds K fd_Truths_one ["self"] []
  f_Truths_plus : Addr
  fd_Truths_plus : FuncData
  F_Truths_plus : Fun K "plus" "Truths.plus" s_Truths_plus f_Truths_plus fd_Truths_plus
  b_Truths_plus : Binds K fd_Truths_plus ["self", "x", "y"] []
  f_Truths_times : Addr
  fd_Truths_times : FuncData
  F_Truths_times : Fun K "times" "Truths.times" s_Truths_times f_Truths_times fd_Truths_times
  b_Truths_times : Binds K fd_Truths_times ["self", "x", "y"] []
  f__law_next : Addr
  fd__law_next : FuncData
  F__law_next : Fun K "_law_next" "_law_next" s__law_next f__law_next fd__law_next
  g__law_next : mg "_law_next" = some (.ref f__law_next)
  b__law_next : Binds K fd__law_next ["state", "many"] []
  f__law_state : Addr
  fd__law_state : FuncData
  F__law_state : Fun K "_law_state" "_law_state" s__law_state f__law_state fd__law_state
  g__law_state : mg "_law_state" = some (.ref f__law_state)
  b__law_state : Binds K fd__law_state ["script"] []
  f__law_on : Addr
  fd__law_on : FuncData
  F__law_on : Fun K "_law_on" "_law_on" s__law_on f__law_on fd__law_on
  g__law_on : mg "_law_on" = some (.ref f__law_on)
  b__law_on : Binds K fd__law_on ["costs", "x", "y"] []
  f__law_is_way : Addr
  fd__law_is_way : FuncData
  F__law_is_way : Fun K "_law_is_way" "_law_is_way" s__law_is_way f__law_is_way fd__law_is_way
  g__law_is_way : mg "_law_is_way" = some (.ref f__law_is_way)
  b__law_is_way : Binds K fd__law_is_way ["found", "due"] []
  f_dot : Addr
  fd_dot : FuncData
  F_dot : Fun K "dot" "dot" s_dot f_dot fd_dot
  g_dot : mg "dot" = some (.ref f_dot)
  b_dot : Binds K fd_dot ["kind", "row", "column"] []
  f_way_weight : Addr
  fd_way_weight : FuncData
  F_way_weight : Fun K "way_weight" "way_weight" s_way_weight f_way_weight fd_way_weight
  g_way_weight : mg "way_weight" = some (.ref f_way_weight)
  b_way_weight : Binds K fd_way_weight ["kind", "machine", "word", "way"] []
  f_first_good : Addr
  fd_first_good : FuncData
  F_first_good : Fun K "first_good" "first_good" s_first_good f_first_good fd_first_good
  g_first_good : mg "first_good" = some (.ref f_first_good)
  b_first_good : Binds K fd_first_good ["kind", "so_far", "row", "column", "due"] []
  f__law_letters : Addr
  fd__law_letters : FuncData
  F__law_letters : Fun K "_law_letters" "_law_letters" s__law_letters f__law_letters fd__law_letters
  g__law_letters : mg "_law_letters" = some (.ref f__law_letters)
  b__law_letters : Binds K fd__law_letters ["state"] []
  f__law_word : Addr
  fd__law_word : FuncData
  F__law_word : Fun K "_law_word" "_law_word" s__law_word f__law_word fd__law_word
  g__law_word : mg "_law_word" = some (.ref f__law_word)
  b__law_word : Binds K fd__law_word ["state", "letters", "size"] []
  f__law_weight : Addr
  fd__law_weight : FuncData
  F__law_weight : Fun K "_law_weight" "_law_weight" s__law_weight f__law_weight fd__law_weight
  g__law_weight : mg "_law_weight" = some (.ref f__law_weight)
  b__law_weight : Binds K fd__law_weight ["state", "costs", "thin"] []
  f__law_best_of : Addr
  fd__law_best_of : FuncData
  F__law_best_of : Fun K "_law_best_of" "_law_best_of" s__law_best_of f__law_best_of fd__law_best_of
  g__law_best_of : mg "_law_best_of" = some (.ref f__law_best_of)
  b__law_best_of : Binds K fd__law_best_of ["costs", "row", "coming"] []
  f_row_by : Addr
  fd_row_by : FuncData
  F_row_by : Fun K "row_by" "row_by" s_row_by f_row_by fd_row_by
  g_row_by : mg "row_by" = some (.ref f_row_by)
  b_row_by : Binds K fd_row_by ["kind", "row", "table"] []
  f_by_column : Addr
  fd_by_column : FuncData
  F_by_column : Fun K "by_column" "by_column" s_by_column f_by_column fd_by_column
  g_by_column : mg "by_column" = some (.ref f_by_column)
  b_by_column : Binds K fd_by_column ["kind", "table", "column"] []
  f__law_line : Addr
  fd__law_line : FuncData
  F__law_line : Fun K "_law_line" "_law_line" s__law_line f__law_line fd__law_line
  g__law_line : mg "_law_line" = some (.ref f__law_line)
  b__law_line : Binds K fd__law_line ["state", "costs", "thin", "many"] []
  f__law_due : Addr
  fd__law_due : FuncData
  F__law_due : Fun K "_law_due" "_law_due" s__law_due f__law_due fd__law_due
  g__law_due : mg "_law_due" = some (.ref f__law_due)
  b__law_due : Binds K fd__law_due ["costs", "machine", "word"] []
  f_ahead : Addr
  fd_ahead : FuncData
  F_ahead : Fun K "ahead" "ahead" s_ahead f_ahead fd_ahead
  g_ahead : mg "ahead" = some (.ref f_ahead)
  b_ahead : Binds K fd_ahead ["kind", "machine", "word"] []
  f_columns_of : Addr
  fd_columns_of : FuncData
  F_columns_of : Fun K "columns_of" "columns_of" s_columns_of f_columns_of fd_columns_of
  g_columns_of : mg "columns_of" = some (.ref f_columns_of)
  b_columns_of : Binds K fd_columns_of ["kind", "machine", "word"] []
  f__law_machine : Addr
  fd__law_machine : FuncData
  F__law_machine : Fun K "_law_machine" "_law_machine" s__law_machine f__law_machine fd__law_machine
  g__law_machine : mg "_law_machine" = some (.ref f__law_machine)
  b__law_machine : Binds K fd__law_machine ["state", "costs", "letters", "many"] []
  f_weight : Addr
  fd_weight : FuncData
  F_weight : Fun K "weight" "weight" s_weight f_weight fd_weight
  g_weight : mg "weight" = some (.ref f_weight)
  b_weight : Binds K fd_weight ["kind", "machine", "word"] []
  f_best_way : Addr
  fd_best_way : FuncData
  F_best_way : Fun K "best_way" "best_way" s_best_way f_best_way fd_best_way
  g_best_way : mg "best_way" = some (.ref f_best_way)
  b_best_way : Binds K fd_best_way ["kind", "machine", "word"] []
  f_law : Addr
  fd_law : FuncData
  F_law : Fun K "law" "law" s_law f_law fd_law
  g_law : mg "law" = some (.ref f_law)
  b_law : Binds K fd_law ["script"] []
  ca_Costs : Addr
  cg_Costs : mg "Costs" = some (.ref ca_Costs)
  cc_Costs : Cls K ca_Costs
  cb_Costs : Bare K ca_Costs
  cm_Costs_nought : Meth K ca_Costs "nought" f_Costs_nought
  cm_Costs_one : Meth K ca_Costs "one" f_Costs_one
  cm_Costs_picks : Meth K ca_Costs "picks" f_Costs_picks
  cm_Costs_times : Meth K ca_Costs "times" f_Costs_times
  cm_Costs_plus : Meth K ca_Costs "plus" f_Costs_plus
  ca_Truths : Addr
  cg_Truths : mg "Truths" = some (.ref ca_Truths)
  cc_Truths : Cls K ca_Truths
  cb_Truths : Bare K ca_Truths
  cm_Truths_nought : Meth K ca_Truths "nought" f_Truths_nought
  cm_Truths_one : Meth K ca_Truths "one" f_Truths_one
  cm_Truths_picks : Meth K ca_Truths "picks" f_Truths_picks
  cm_Truths_times : Meth K ca_Truths "times" f_Truths_times
  cm_Truths_plus : Meth K ca_Truths "plus" f_Truths_plus
  z_tuple : mg "tuple" = none
  z_isinstance : mg "isinstance" = none
  z_str : mg "str" = none
  z_min : mg "min" = none
  z_len : mg "len" = none
  z_repr : mg "repr" = none
  z_zip : mg "zip" = none
  z_enumerate : mg "enumerate" = none
  z_range : mg "range" = none
  z_reversed : mg "reversed" = none
theorem hu65 {A : Around} {k : Nat} (hr : Room k A) : A.units + 65 < cLine := by have := hr.un; omega
section
variable {P : Program} {w : World} {K : PySem.W.Frag} {mg : Str → Option Value} {base : Heap}
theorem sc_column_at : FnScope ["table", "at", "row"] ["table", "at"] (defScope s_column_at) := ⟨rfl, rfl, rfl, by decide +kernel, rfl, by decide +kernel, by decide +kernel⟩
theorem ok_column_at (E : Facts K mg) (k : Nat) : FnOk P w K mg base CX0 (k + 1) E.f_column_at E.fd_column_at ["table", "at"] (spD ⟨mg, K⟩ g_column_at) :=
 have nd := sc_column_at.nd
 fn_ok (F := F_column_at) E.F_column_at sc_column_at rfl rfl (by decide) fun cdv A outer s H XE hr =>
 (dss_one (ds_ret (de_callTy call_tuple_of cd_tuple (by rfl) E.z_tuple boot_tuple (da_cons (de_lc (own0 := [("row", 2)]) rfl nd (di_seq (de_q (dq_var 0))) (blkOk_by (by kernel_rfl)) (by decide) (fun _ _ _ _ _ => (dg_name (i := 2) nd rfl (.inl rfl))) (fun _ _ _ _ _ => dts_nil) (fun _ _ _ _ _ => (de_q (dq_ix ix_seq od_ix (dq_var 2) (dq_var 1) (fun _ _ => rfl))))) da_nil))))
theorem sc_check_word : FnScope ["letters", "word", "letter"] ["letters", "word"] (defScope s_check_word) := ⟨rfl, rfl, rfl, by decide +kernel, rfl, by decide +kernel, by decide +kernel⟩
theorem ok_check_word (E : Facts K mg) (k : Nat) : FnOk P w K mg base CX0 (k + 1) E.f_check_word E.fd_check_word ["letters", "word"] (spD ⟨mg, K⟩ g_check_word) :=
 have nd := sc_check_word.nd
 fn_ok (F := F_check_word) E.F_check_word sc_check_word rfl rfl (by decide) fun cdv A outer s H XE hr =>
 (dss_cons
  (ds_if (dt_not (dt_val (de_q (dq_callB call_isi cd_isi (by rfl) E.z_isinstance boot_isinstance (dqa_cons (dq_var 1) (dqa_cons (dq_ty (by rfl) E.z_str boot_str) dqa_nil)))))) (dss_one ds_never) dss_nil)
 (dss_one (ds_for PassesOwn.never rfl (di_seq (de_q (dq_var 1))) (dg_name (i := 2) nd rfl (.inl rfl)) (dss_one (ds_if (dt_cmpQ (op_notInX (hu65 hr)) od_notinX (dk_q (dq_var 2)) (dk_q (dq_var 0)) (by rfl)) (dss_one ds_never) dss_nil)))))
theorem sc_table_of : FnScope ["machine", "letter"] ["machine", "letter"] (defScope s_table_of) := ⟨rfl, rfl, rfl, by decide +kernel, rfl, by decide +kernel, by decide +kernel⟩
theorem ok_table_of (E : Facts K mg) (k : Nat) : FnOk P w K mg base CX0 (k + 1) E.f_table_of E.fd_table_of ["machine", "letter"] (spD ⟨mg, K⟩ g_table_of) :=
 have nd := sc_table_of.nd
 fn_ok (F := F_table_of) E.F_table_of sc_table_of rfl rfl (by decide) fun cdv A outer s H XE hr =>
 (dss_one (ds_ret (de_q (dq_ix ix_seq od_ix (dq_ix ix_seq od_ix (dq_var 0) dq_int (fun _ _ => rfl)) (dq_idxS (dq_ix ix_seq od_ix (dq_var 0) dq_int (fun _ _ => rfl)) (dq_var 1)) (fun _ _ => rfl)))))
theorem sc_Costs_picks : FnScope ["self"] ["self"] (defScope s_Costs_picks) := ⟨rfl, rfl, rfl, by decide +kernel, rfl, by decide +kernel, by decide +kernel⟩
theorem ok_Costs_picks (E : Facts K mg) (k : Nat) : FnOk P w K mg base CX0 (k + 1) E.f_Costs_picks E.fd_Costs_picks ["self"] (spD ⟨mg, K⟩ g_Costs_picks) :=
 have nd := sc_Costs_picks.nd
 fn_ok (F := F_Costs_picks) E.F_Costs_picks sc_Costs_picks rfl rfl (by decide) fun cdv A outer s H XE hr =>
 (dss_one (ds_ret (de_q dq_bl)))
theorem sc_Truths_picks : FnScope ["self"] ["self"] (defScope s_Truths_picks) := ⟨rfl, rfl, rfl, by decide +kernel, rfl, by decide +kernel, by decide +kernel⟩
theorem ok_Truths_picks (E : Facts K mg) (k : Nat) : FnOk P w K mg base CX0 (k + 1) E.f_Truths_picks E.fd_Truths_picks ["self"] (spD ⟨mg, K⟩ g_Truths_picks) :=
 have nd := sc_Truths_picks.nd
 fn_ok (F := F_Truths_picks) E.F_Truths_picks sc_Truths_picks rfl rfl (by decide) fun cdv A outer s H XE hr =>
 (dss_one (ds_ret (de_q dq_bl)))
theorem mo_picks (E : Facts K mg) (k : Nat) : ∀ c gg, tb_picks c = some gg → ∃ C f fd ps, mg c = some (.ref C) ∧ Cls K C ∧ Meth K C "picks" f ∧ FnOk P w K mg base CX0 (k + 1) f fd ps (spD ⟨mg, K⟩ gg) ∧ Binds K fd ps [] := fun c gg h => by
  unfold tb_picks at h
  split at h
  · rename_i e
    cases h
    subst e
    exact ⟨_, _, _, _, E.cg_Costs, E.cc_Costs, E.cm_Costs_picks, ok_Costs_picks E k, E.b_Costs_picks⟩
  split at h
  · rename_i e
    cases h
    subst e
    exact ⟨_, _, _, _, E.cg_Truths, E.cc_Truths, E.cm_Truths_picks, ok_Truths_picks E k, E.b_Truths_picks⟩
  cases h
theorem sc_Costs_nought : FnScope ["self"] ["self"] (defScope s_Costs_nought) := ⟨rfl, rfl, rfl, by decide +kernel, rfl, by decide +kernel, by decide +kernel⟩
theorem ok_Costs_nought (E : Facts K mg) (k : Nat) : FnOk P w K mg base CX0 (k + 1) E.f_Costs_nought E.fd_Costs_nought ["self"] (spD ⟨mg, K⟩ g_Costs_nought) :=
 have nd := sc_Costs_nought.nd
 fn_ok (F := F_Costs_nought) E.F_Costs_nought sc_Costs_nought rfl rfl (by decide) fun cdv A outer s H XE hr =>
 (dss_one (ds_ret (de_q dq_non)))
theorem sc_Costs_one : FnScope ["self"] ["self"] (defScope s_Costs_one) := ⟨rfl, rfl, rfl, by decide +kernel, rfl, by decide +kernel, by decide +kernel⟩
theorem ok_Costs_one (E : Facts K mg) (k : Nat) : FnOk P w K mg base CX0 (k + 1) E.f_Costs_one E.fd_Costs_one ["self"] (spD ⟨mg, K⟩ g_Costs_one) :=
 have nd := sc_Costs_one.nd
 fn_ok (F := F_Costs_one) E.F_Costs_one sc_Costs_one rfl rfl (by decide) fun cdv A outer s H XE hr =>
 (dss_one (ds_ret (de_q dq_int)))
theorem sc_Costs_plus : FnScope ["self", "x", "y"] ["self", "x", "y"] (defScope s_Costs_plus) := ⟨rfl, rfl, rfl, by decide +kernel, rfl, by decide +kernel, by decide +kernel⟩
theorem ok_Costs_plus (E : Facts K mg) (k : Nat) : FnOk P w K mg base CX0 (k + 1) E.f_Costs_plus E.fd_Costs_plus ["self", "x", "y"] (spD ⟨mg, K⟩ g_Costs_plus) :=
 have nd := sc_Costs_plus.nd
 fn_ok (F := F_Costs_plus) E.F_Costs_plus sc_Costs_plus rfl rfl (by decide) fun cdv A outer s H XE hr =>
 (dss_cons
  (ds_if (dt_cmpQ op_isN od_is (dk_q (dq_var 1)) (dk_q dq_non) (by rfl)) (dss_one (ds_ret (de_q (dq_var 2)))) dss_nil)
 (dss_cons
  (ds_if (dt_cmpQ op_isN od_is (dk_q (dq_var 2)) (dk_q dq_non) (by rfl)) (dss_one (ds_ret (de_q (dq_var 1)))) dss_nil)
 (dss_one (ds_ret (de_callB (call_min2 rfl) cd_min2 (by rfl) E.z_min boot_min (da_cons (de_q (dq_var 1)) (da_cons (de_q (dq_var 2)) da_nil)))))))
theorem sc_Costs_times : FnScope ["self", "x", "y"] ["self", "x", "y"] (defScope s_Costs_times) := ⟨rfl, rfl, rfl, by decide +kernel, rfl, by decide +kernel, by decide +kernel⟩
theorem ok_Costs_times (E : Facts K mg) (k : Nat) : FnOk P w K mg base CX0 (k + 1) E.f_Costs_times E.fd_Costs_times ["self", "x", "y"] (spD ⟨mg, K⟩ g_Costs_times) :=
 have nd := sc_Costs_times.nd
 fn_ok (F := F_Costs_times) E.F_Costs_times sc_Costs_times rfl rfl (by decide) fun cdv A outer s H XE hr =>
 (dss_cons
  (ds_if (dw_t (dw_or (dt_cmpQ op_isN od_is (dk_q (dq_var 1)) (dk_q dq_non) (by rfl)) (dw_or1 (dt_cmpQ op_isN od_is (dk_q (dq_var 2)) (dk_q dq_non) (by rfl))))) (dss_one (ds_ret (de_q dq_non))) dss_nil)
 (dss_one (ds_ret (de_q (dq_binop op_addA od_add (dq_var 1) (dq_var 2))))))
theorem sc_Truths_nought : FnScope ["self"] ["self"] (defScope s_Truths_nought) := ⟨rfl, rfl, rfl, by decide +kernel, rfl, by decide +kernel, by decide +kernel⟩
theorem ok_Truths_nought (E : Facts K mg) (k : Nat) : FnOk P w K mg base CX0 (k + 1) E.f_Truths_nought E.fd_Truths_nought ["self"] (spD ⟨mg, K⟩ g_Truths_nought) :=
 have nd := sc_Truths_nought.nd
 fn_ok (F := F_Truths_nought) E.F_Truths_nought sc_Truths_nought rfl rfl (by decide) fun cdv A outer s H XE hr =>
 (dss_one (ds_ret (de_q dq_bl)))
theorem mo_nought (E : Facts K mg) (k : Nat) : ∀ c gg, tb_nought c = some gg → ∃ C f fd ps, mg c = some (.ref C) ∧ Cls K C ∧ Meth K C "nought" f ∧ FnOk P w K mg base CX0 (k + 1) f fd ps (spD ⟨mg, K⟩ gg) ∧ Binds K fd ps [] := fun c gg h => by
  unfold tb_nought at h
  split at h
  · rename_i e
    cases h
    subst e
    exact ⟨_, _, _, _, E.cg_Costs, E.cc_Costs, E.cm_Costs_nought, ok_Costs_nought E k, E.b_Costs_nought⟩
  split at h
  · rename_i e
    cases h
    subst e
    exact ⟨_, _, _, _, E.cg_Truths, E.cc_Truths, E.cm_Truths_nought, ok_Truths_nought E k, E.b_Truths_nought⟩
  cases h
theorem sc_Truths_one : FnScope ["self"] ["self"] (defScope s_Truths_one) := ⟨rfl, rfl, rfl, by decide +kernel, rfl, by decide +kernel, by decide +kernel⟩
theorem ok_Truths_one (E : Facts K mg) (k : Nat) : FnOk P w K mg base CX0 (k + 1) E.f_Truths_one E.fd_Truths_one ["self"] (spD ⟨mg, K⟩ g_Truths_one) :=
 have nd := sc_Truths_one.nd
 fn_ok (F := F_Truths_one) E.F_Truths_one sc_Truths_one rfl rfl (by decide) fun cdv A outer s H XE hr =>
 (dss_one (ds_ret (de_q dq_bl)))
theorem mo_one (E : Facts K mg) (k : Nat) : ∀ c gg, tb_one c = some gg → ∃ C f fd ps, mg c = some (.ref C) ∧ Cls K C ∧ Meth K C "one" f ∧ FnOk P w K mg base CX0 (k + 1) f fd ps (spD ⟨mg, K⟩ gg) ∧ Binds K fd ps [] := fun c gg h => by
  unfold tb_one at h
  split at h
  · rename_i e
    cases h
    subst e
    exact ⟨_, _, _, _, E.cg_Costs, E.cc_Costs, E.cm_Costs_one, ok_Costs_one E k, E.b_Costs_one⟩
  split at h
  · rename_i e
    cases h
    subst e
    exact ⟨_, _, _, _, E.cg_Truths, E.cc_Truths, E.cm_Truths_one, ok_Truths_one E k, E.b_Truths_one⟩
  cases h
theorem sc_Truths_plus : FnScope ["self", "x", "y"] ["self", "x", "y"] (defScope s_Truths_plus) := ⟨rfl, rfl, rfl, by decide +kernel, rfl, by decide +kernel, by decide +kernel⟩
theorem ok_Truths_plus (E : Facts K mg) (k : Nat) : FnOk P w K mg base CX0 (k + 1) E.f_Truths_plus E.fd_Truths_plus ["self", "x", "y"] (spD ⟨mg, K⟩ g_Truths_plus) :=
 have nd := sc_Truths_plus.nd
 fn_ok (F := F_Truths_plus) E.F_Truths_plus sc_Truths_plus rfl rfl (by decide) fun cdv A outer s H XE hr =>
 (dss_one (ds_ret (de_or (de_q (dq_var 1)) (de_bo1 (de_q (dq_var 2))))))
theorem mo_plus (E : Facts K mg) (k : Nat) : ∀ c gg, tb_plus c = some gg → ∃ C f fd ps, mg c = some (.ref C) ∧ Cls K C ∧ Meth K C "plus" f ∧ FnOk P w K mg base CX0 (k + 1) f fd ps (spD ⟨mg, K⟩ gg) ∧ Binds K fd ps [] := fun c gg h => by
  unfold tb_plus at h
  split at h
  · rename_i e
    cases h
    subst e
    exact ⟨_, _, _, _, E.cg_Costs, E.cc_Costs, E.cm_Costs_plus, ok_Costs_plus E k, E.b_Costs_plus⟩
  split at h
  · rename_i e
    cases h
    subst e
    exact ⟨_, _, _, _, E.cg_Truths, E.cc_Truths, E.cm_Truths_plus, ok_Truths_plus E k, E.b_Truths_plus⟩
  cases h
theorem sc_Truths_times : FnScope ["self", "x", "y"] ["self", "x", "y"] (defScope s_Truths_times) := ⟨rfl, rfl, rfl, by decide +kernel, rfl, by decide +kernel, by decide +kernel⟩
theorem ok_Truths_times (E : Facts K mg) (k : Nat) : FnOk P w K mg base CX0 (k + 1) E.f_Truths_times E.fd_Truths_times ["self", "x", "y"] (spD ⟨mg, K⟩ g_Truths_times) :=
 have nd := sc_Truths_times.nd
 fn_ok (F := F_Truths_times) E.F_Truths_times sc_Truths_times rfl rfl (by decide) fun cdv A outer s H XE hr =>
 (dss_one (ds_ret (de_and (de_q (dq_var 1)) (de_bo1 (de_q (dq_var 2))))))
theorem mo_times (E : Facts K mg) (k : Nat) : ∀ c gg, tb_times c = some gg → ∃ C f fd ps, mg c = some (.ref C) ∧ Cls K C ∧ Meth K C "times" f ∧ FnOk P w K mg base CX0 (k + 1) f fd ps (spD ⟨mg, K⟩ gg) ∧ Binds K fd ps [] := fun c gg h => by
  unfold tb_times at h
  split at h
  · rename_i e
    cases h
    subst e
    exact ⟨_, _, _, _, E.cg_Costs, E.cc_Costs, E.cm_Costs_times, ok_Costs_times E k, E.b_Costs_times⟩
  split at h
  · rename_i e
    cases h
    subst e
    exact ⟨_, _, _, _, E.cg_Truths, E.cc_Truths, E.cm_Truths_times, ok_Truths_times E k, E.b_Truths_times⟩
  cases h
theorem sc__law_next : FnScope ["state", "many", "found"] ["state", "many"] (defScope s__law_next) := ⟨rfl, rfl, rfl, by decide +kernel, rfl, by decide +kernel, by decide +kernel⟩
theorem ok__law_next (E : Facts K mg) (k : Nat) : FnOk P w K mg base CX0 (k + 1) E.f__law_next E.fd__law_next ["state", "many"] (spIO ⟨mg, K⟩ g__law_next) :=
 have nd := sc__law_next.nd
 fn_okIO (F := F__law_next) E.F__law_next sc__law_next rfl rfl (by decide) fun cdv A outer s H XE hr =>
 (dss_cons
  (ds_if (dt_cmpQ (op_eqD hr.units) od_eq (dk_q (dq_callB1 call_len cd_len (by rfl) E.z_len boot_len (dk_peek 0))) (dk_q dq_int) (by rfl)) (dss_cons
  (ds_set (i := 2) nd rfl (.inl rfl) (de_q (dq_binop op_mod od_mod (dq_place (dp_ix (dp_name 0) dq_int (fun _ _ => rfl))) (dq_var 1))))
 (dss_cons
  (ds_put (de_q (dq_binop op_fdivW od_div (dq_place (dp_ix (dp_name 0) dq_int (fun _ _ => rfl))) (dq_var 1))) (dp_name 0) pok_n dq_int)
 (dss_cons
  (ds_if (dt_cmpQ (op_eqD hr.units) od_eq (dk_place (dp_ix (dp_name 0) dq_int (fun _ _ => rfl))) (dk_q dq_int) (by rfl)) (dss_one (ds_expr (de_chg PySem.F.plainAttrs_list PySem.F.slot_list_pop PySem.F.type_list_pop mt_popAt chd_popAt pok_n (dp_name 0) (dqa_cons dq_int dqa_nil)))) dss_nil)
 (dss_one (ds_ret (de_q (dq_var 2))))))) dss_nil)
 (dss_cons
  (ds_put (de_q (dq_binop op_mod od_mod (dq_binop op_addA od_add (dq_binop op_mulW od_mul (dq_place (dp_ix (dp_name 0) dq_int (fun _ _ => rfl))) dq_int) dq_int) dq_int)) (dp_name 0) pok_n dq_int)
 (dss_one (ds_ret (de_q (dq_binop op_mod od_mod (dq_binop op_fdivW od_div (dq_place (dp_ix (dp_name 0) dq_int (fun _ _ => rfl))) dq_int) (dq_var 1)))))))
theorem sc__law_state : FnScope ["script", "seed", "cell"] ["script"] (defScope s__law_state) := ⟨rfl, rfl, rfl, by decide +kernel, rfl, by decide +kernel, by decide +kernel⟩
theorem ok__law_state (E : Facts K mg) (k : Nat) : FnOk P w K mg base CX0 (k + 1) E.f__law_state E.fd__law_state ["script"] (spFr ⟨mg, K⟩ g__law_state) :=
 have nd := sc__law_state.nd
 fn_okF (F := F__law_state) E.F__law_state sc__law_state rfl rfl (by decide) fun cdv A outer s H XE hr =>
 (dss_cons
  (ds_set (i := 1) nd rfl (.inl rfl) (de_q dq_int))
 (dss_cons
  (ds_for PassesOwn.never rfl (di_seq (de_q (dq_cut (dq_var 0) do_none (do_some dq_int)))) (dg_name (i := 2) nd rfl (.inl rfl)) (dss_one (ds_set (i := 1) nd rfl (.inl rfl) (de_q (dq_binop op_mod od_mod (dq_binop op_addA od_add (dq_binop op_addA od_add (dq_binop op_mulW od_mul (dq_var 1) dq_int) (dq_binop op_mod od_mod (dq_var 2) (dq_binop op_pow od_pow dq_int dq_int))) dq_int) dq_int)))))
 (dss_cons
  (ds_if (dw_t (dw_and (dt_cmpQ op_gt od_gt (dk_q (dq_callB call_len cd_len (by rfl) E.z_len boot_len (dqa_cons (dq_var 0) dqa_nil))) (dk_q dq_int) (by rfl)) (dw_and (dt_cmpQ op_gt od_gt (dk_q (dq_ix ix_seq od_ix (dq_var 0) dq_int (fun _ _ => rfl))) (dk_q dq_int) (by rfl)) (dw_and1 (dt_cmpQ (op_eqD hr.units) od_eq (dk_q (dq_binop op_mod od_mod (dq_ix ix_seq od_ix (dq_var 0) dq_int (fun _ _ => rfl)) dq_int)) (dk_q dq_int) (by rfl)))))) (dss_one (ds_retF (df_lst (daf_cons (df_e (de_q (dq_binop op_fdivW od_div (dq_ix ix_seq od_ix (dq_var 0) dq_int (fun _ _ => rfl)) dq_int))) (daf_cons (df_e (de_q (dq_var 1))) daf_nil))))) dss_nil)
 (dss_one (ds_retF (df_lst (daf_cons (df_e (de_q (dq_var 1))) daf_nil)))))))
theorem sc__law_on : FnScope ["costs", "x", "y"] ["costs", "x", "y"] (defScope s__law_on) := ⟨rfl, rfl, rfl, by decide +kernel, rfl, by decide +kernel, by decide +kernel⟩
theorem ok__law_on (E : Facts K mg) (k : Nat) : FnOk P w K mg base CX0 (k + 1) E.f__law_on E.fd__law_on ["costs", "x", "y"] (spD ⟨mg, K⟩ g__law_on) :=
 have nd := sc__law_on.nd
 fn_ok (F := F__law_on) E.F__law_on sc__law_on rfl rfl (by decide) fun cdv A outer s H XE hr =>
 (dss_cons
  (ds_if (dw_t (dw_or (dt_cmpQ op_isN od_is (dk_q (dq_var 1)) (dk_q dq_non) (by rfl)) (dw_or (dt_cmpQ op_isN od_is (dk_q (dq_var 2)) (dk_q dq_non) (by rfl)) (dw_or (dt_cmpQ op_isB od_isB (dk_q (dq_var 1)) (dk_q dq_bl) (by rfl)) (dw_or1 (dt_cmpQ op_isB od_isB (dk_q (dq_var 2)) (dk_q dq_bl) (by rfl))))))) (dss_one (ds_ret (de_q dq_non))) dss_nil)
 (dss_one (ds_ret (de_if (dt_val (de_q (dq_var 0))) (de_q (dq_binop op_addA od_add (dq_var 1) (dq_var 2))) (de_q dq_bl)))))
theorem sc__law_is_way : FnScope ["found", "due"] ["found", "due"] (defScope s__law_is_way) := ⟨rfl, rfl, rfl, by decide +kernel, rfl, by decide +kernel, by decide +kernel⟩
theorem ok__law_is_way (E : Facts K mg) (k : Nat) : FnG P w K mg base (k + 1) E.f__law_is_way E.fd__law_is_way ["found", "due"] (spD ⟨mg, K⟩ g__law_is_way) :=
 have nd := sc__law_is_way.nd
 fn_okG (F := F__law_is_way) E.F__law_is_way sc__law_is_way rfl rfl (by decide) fun cdv A outer s H XE hr quiet =>
 (dss_one (ds_ret (de_and (de_q (dq_callB call_isi cd_isi (by rfl) E.z_isinstance boot_isinstance (dqa_cons (dq_var 0) (dqa_cons (dq_ty (by rfl) E.z_tuple boot_tuple) dqa_nil)))) (de_bo1 (de_q (dq_cmp op_eq od_eqS (dq_callB (call_repr quiet (hu65 hr)) cd_repr (by rfl) E.z_repr boot_repr (dqa_cons (dq_var 0) dqa_nil)) (dq_callB (call_repr quiet (hu65 hr)) cd_repr (by rfl) E.z_repr boot_repr (dqa_cons (dq_var 1) dqa_nil)) (by rfl)))))))
theorem sc_dot : FnScope ["kind", "row", "column", "total", "x", "y"] ["kind", "row", "column"] (defScope s_dot) := ⟨rfl, rfl, rfl, by decide +kernel, rfl, by decide +kernel, by decide +kernel⟩
theorem ok_dot (E : Facts K mg) (k : Nat) : FnOk P w K mg base CX0 (k + 2) E.f_dot E.fd_dot ["kind", "row", "column"] (spD ⟨mg, K⟩ g_dot) :=
 have nd := sc_dot.nd
 fn_ok (F := F_dot) E.F_dot sc_dot rfl rfl (by decide) fun cdv A outer s H XE hr =>
 (dss_cons
  (ds_set (i := 3) nd rfl (.inl rfl) (de_meth0 (de_q (dq_var 0)) (mo_nought E k) hr))
 (dss_cons
  (ds_for PassesOwn.never rfl (di_zip (by rfl) E.z_zip (da_cons (de_q (dq_var 1)) (da_cons (de_q (dq_var 2)) da_nil))) (dg_tup rfl (dgs_cons (dg_name (i := 4) nd rfl (.inl rfl)) (dgs_cons (dg_name (i := 5) nd rfl (.inl rfl)) dgs_nil))) (dss_one (ds_set (i := 3) nd rfl (.inl rfl) (de_meth (de_q (dq_var 0)) (mo_plus E k) hr (da_cons (de_q (dq_var 3)) (da_cons (de_meth (de_q (dq_var 0)) (mo_times E k) hr (da_cons (de_q (dq_var 4)) (da_cons (de_q (dq_var 5)) da_nil))) da_nil))))))
 (dss_one (ds_ret (de_q (dq_var 3))))))
theorem sc_way_weight : FnScope ["kind", "machine", "word", "way", "total", "k", "letter"] ["kind", "machine", "word", "way"] (defScope s_way_weight) := ⟨rfl, rfl, rfl, by decide +kernel, rfl, by decide +kernel, by decide +kernel⟩
theorem ok_way_weight (E : Facts K mg) (k : Nat) : FnOk P w K mg base CX0 (k + 2) E.f_way_weight E.fd_way_weight ["kind", "machine", "word", "way"] (spD ⟨mg, K⟩ g_way_weight) :=
 have nd := sc_way_weight.nd
 fn_ok (F := F_way_weight) E.F_way_weight sc_way_weight rfl rfl (by decide) fun cdv A outer s H XE hr =>
 (dss_cons
  (ds_expr (de_q (dq_call (ok_check_word E k) hr (by rfl) E.g_check_word E.F_check_word.kp E.b_check_word (dqa_cons (dq_ix ix_seq od_ix (dq_var 1) dq_int (fun _ _ => rfl)) (dqa_cons (dq_var 2) dqa_nil)))))
 (dss_cons
  (ds_set (i := 4) nd rfl (.inl rfl) (de_q (dq_ix ix_seq od_ix (dq_ix ix_seq od_ix (dq_var 1) dq_int (fun _ _ => rfl)) (dq_ix ix_seq od_ix (dq_var 3) dq_int (fun _ _ => rfl)) (fun _ _ => rfl))))
 (dss_cons
  (ds_for PassesOwn.never rfl (di_enum (by rfl) E.z_enumerate (da_cons (de_q (dq_var 2)) da_nil)) (dg_tup rfl (dgs_cons (dg_name (i := 5) nd rfl (.inl rfl)) (dgs_cons (dg_name (i := 6) nd rfl (.inl rfl)) dgs_nil))) (dss_one (ds_set (i := 4) nd rfl (.inl rfl) (de_meth (de_q (dq_var 0)) (mo_times E k) hr (da_cons (de_q (dq_var 4)) (da_cons (de_q (dq_ix ix_seq od_ix (dq_ix ix_seq od_ix (dq_call (ok_table_of E k) hr (by rfl) E.g_table_of E.F_table_of.kp E.b_table_of (dqa_cons (dq_var 1) (dqa_cons (dq_var 6) dqa_nil))) (dq_ix ix_seq od_ix (dq_var 3) (dq_var 5) (fun _ _ => rfl)) (fun _ _ => rfl)) (dq_ix ix_seq od_ix (dq_var 3) (dq_binop op_addA od_add (dq_var 5) dq_int) (fun _ _ => rfl)) (fun _ _ => rfl))) da_nil))))))
 (dss_one (ds_ret (de_meth (de_q (dq_var 0)) (mo_times E k) hr (da_cons (de_q (dq_var 4)) (da_cons (de_q (dq_ix ix_seq od_ix (dq_ix ix_seq od_ix (dq_var 1) dq_int (fun _ _ => rfl)) (dq_ix ix_seq od_ix (dq_var 3) (dq_unop un_neg ud_neg dq_int) (fun _ _ => rfl)) (fun _ _ => rfl))) da_nil))))))))
theorem sc_first_good : FnScope ["kind", "so_far", "row", "column", "due", "room", "x"] ["kind", "so_far", "row", "column", "due"] (defScope s_first_good) := ⟨rfl, rfl, rfl, by decide +kernel, rfl, by decide +kernel, by decide +kernel⟩
theorem ok_first_good (E : Facts K mg) (k : Nat) : FnOk P w K mg base CX0 (k + 2) E.f_first_good E.fd_first_good ["kind", "so_far", "row", "column", "due"] (spD ⟨mg, K⟩ g_first_good) :=
 have nd := sc_first_good.nd
 fn_ok (F := F_first_good) E.F_first_good sc_first_good rfl rfl (by decide) fun cdv A outer s H XE hr =>
 (dss_cons
  (ds_for PassesOwn.never rfl (di_enum (by rfl) E.z_enumerate (da_cons (de_q (dq_var 2)) da_nil)) (dg_tup rfl (dgs_cons (dg_name (i := 5) nd rfl (.inl rfl)) (dgs_cons (dg_name (i := 6) nd rfl (.inl rfl)) dgs_nil))) (dss_one (ds_if (dt_cmp (op_eqD hr.units) od_eq (de_meth (de_q (dq_var 0)) (mo_times E k) hr (da_cons (de_meth (de_q (dq_var 0)) (mo_times E k) hr (da_cons (de_q (dq_var 1)) (da_cons (de_q (dq_var 6)) da_nil))) (da_cons (de_q (dq_ix ix_seq od_ix (dq_var 3) (dq_var 5) (fun _ _ => rfl))) da_nil))) (de_q (dq_var 4)) (by rfl)) (dss_one (ds_ret (de_q (dq_var 5)))) dss_nil)))
 (dss_one (ds_ret (de_q dq_non))))
theorem sc__law_letters : FnScope ["state", "pool", "letters", "k", "at"] ["state"] (defScope s__law_letters) := ⟨rfl, rfl, rfl, by decide +kernel, rfl, by decide +kernel, by decide +kernel⟩
theorem ok__law_letters (E : Facts K mg) (k : Nat) : FnOk P w K mg base CX0 (k + 2) E.f__law_letters E.fd__law_letters ["state"] (spIO ⟨mg, K⟩ g__law_letters) :=
 have nd := sc__law_letters.nd
 fn_okIO (F := F__law_letters) E.F__law_letters sc__law_letters rfl rfl (by decide) fun cdv A outer s H XE hr =>
 (dss_cons
  (ds_set (i := 1) nd rfl (.inl rfl) (de_q dq_str))
 (dss_cons
  (ds_set (i := 2) nd rfl (.inl rfl) (de_q dq_str))
 (dss_cons
  (ds_for PassesOwn.never rfl (di_range1 (by rfl) E.z_range (da_cons (de_binop op_addA od_add (de_q dq_int) (de_callIO (ok__law_next E k) hr (by rfl) E.g__law_next E.F__law_next.kp E.b__law_next (dak_s 0 (dak_v (de_q dq_int) dak_nil)))) da_nil) len1) (dg_name (i := 3) nd rfl (.inl rfl)) (dss_cons
  (ds_set (i := 4) nd rfl (.inl rfl) (de_callIO (ok__law_next E k) hr (by rfl) E.g__law_next E.F__law_next.kp E.b__law_next (dak_s 0 (dak_v (de_q (dq_callB call_len cd_len (by rfl) E.z_len boot_len (dqa_cons (dq_var 1) dqa_nil))) dak_nil))))
 (dss_cons
  (ds_set (i := 2) nd rfl (.inl rfl) (de_q (dq_binop op_addA od_add (dq_var 2) (dq_ix ix_seq od_ix (dq_var 1) (dq_var 4) (fun _ _ => rfl)))))
 (dss_one (ds_set (i := 1) nd rfl (.inl rfl) (de_q (dq_binop op_addA od_add (dq_cut (dq_var 1) do_none (do_some (dq_var 4))) (dq_cut (dq_var 1) (do_some (dq_binop op_addA od_add (dq_var 4) dq_int)) do_none))))))))
 (dss_one (ds_ret (de_q (dq_var 2)))))))
theorem sc__law_word : FnScope ["state", "letters", "size", "word", "k"] ["state", "letters", "size"] (defScope s__law_word) := ⟨rfl, rfl, rfl, by decide +kernel, rfl, by decide +kernel, by decide +kernel⟩
theorem ok__law_word (E : Facts K mg) (k : Nat) : FnOk P w K mg base CX0 (k + 2) E.f__law_word E.fd__law_word ["state", "letters", "size"] (spIO ⟨mg, K⟩ g__law_word) :=
 have nd := sc__law_word.nd
 fn_okIO (F := F__law_word) E.F__law_word sc__law_word rfl rfl (by decide) fun cdv A outer s H XE hr =>
 (dss_cons
  (ds_set (i := 3) nd rfl (.inl rfl) (de_q dq_str))
 (dss_cons
  (ds_for PassesOwn.never rfl (di_range1 (by rfl) E.z_range (da_cons (de_q (dq_var 2)) da_nil) len1) (dg_name (i := 4) nd rfl (.inl rfl)) (dss_one (ds_set (i := 3) nd rfl (.inl rfl) (de_binop op_addA od_add (de_q (dq_var 3)) (de_ix ix_seq od_ix (de_q (dq_var 1)) (de_callIO (ok__law_next E k) hr (by rfl) E.g__law_next E.F__law_next.kp E.b__law_next (dak_s 0 (dak_v (de_q (dq_callB call_len cd_len (by rfl) E.z_len boot_len (dqa_cons (dq_var 1) dqa_nil))) dak_nil))) (fun _ _ => rfl))))))
 (dss_one (ds_ret (de_q (dq_var 3))))))
theorem sc__law_weight : FnScope ["state", "costs", "thin"] ["state", "costs", "thin"] (defScope s__law_weight) := ⟨rfl, rfl, rfl, by decide +kernel, rfl, by decide +kernel, by decide +kernel⟩
theorem ok__law_weight (E : Facts K mg) (k : Nat) : FnOk P w K mg base CX0 (k + 2) E.f__law_weight E.fd__law_weight ["state", "costs", "thin"] (spIO ⟨mg, K⟩ g__law_weight) :=
 have nd := sc__law_weight.nd
 fn_okIO (F := F__law_weight) E.F__law_weight sc__law_weight rfl rfl (by decide) fun cdv A outer s H XE hr =>
 (dss_cons
  (ds_if (dt_val (de_q (dq_var 1))) (dss_one (ds_ret (de_ix ix_seq od_ix (de_lst (da_cons (de_q dq_non) (da_cons (de_q dq_int) (da_cons (de_q dq_int) (da_cons (de_q (dq_unop un_neg ud_neg dq_int)) (da_cons (de_q dq_int) (da_cons (de_q dq_int) da_nil))))))) (de_callIO (ok__law_next E k) hr (by rfl) E.g__law_next E.F__law_next.kp E.b__law_next (dak_s 0 (dak_v (de_ix ix_seq od_ix (de_lst (da_cons (de_q dq_int) (da_cons (de_q dq_int) da_nil))) (de_q (dq_var 2)) (fun _ _ => rfl)) dak_nil))) (fun _ _ => rfl)))) dss_nil)
 (dss_one (ds_ret (de_cmp op_gt od_gt (de_callIO (ok__law_next E k) hr (by rfl) E.g__law_next E.F__law_next.kp E.b__law_next (dak_s 0 (dak_v (de_q (dq_binop op_addA od_add dq_int (dq_binop op_mulW od_mul dq_int (dq_var 2)))) dak_nil))) (de_q dq_int) (by rfl)))))
theorem sc__law_best_of : FnScope ["costs", "row", "coming", "best", "room", "x", "whole", "told"] ["costs", "row", "coming"] (defScope s__law_best_of) := ⟨rfl, rfl, rfl, by decide +kernel, rfl, by decide +kernel, by decide +kernel⟩
theorem ok__law_best_of (E : Facts K mg) (k : Nat) : FnOk P w K mg base CX0 (k + 2) E.f__law_best_of E.fd__law_best_of ["costs", "row", "coming"] (spD ⟨mg, K⟩ g__law_best_of) :=
 have nd := sc__law_best_of.nd
 fn_ok (F := F__law_best_of) E.F__law_best_of sc__law_best_of rfl rfl (by decide) fun cdv A outer s H XE hr =>
 (dss_cons
  (ds_set (i := 3) nd rfl (.inl rfl) (de_q dq_non))
 (dss_cons
  (ds_for PassesOwn.never rfl (di_enum (by rfl) E.z_enumerate (da_cons (de_q (dq_var 1)) da_nil)) (dg_tup rfl (dgs_cons (dg_name (i := 4) nd rfl (.inl rfl)) (dgs_cons (dg_name (i := 5) nd rfl (.inl rfl)) dgs_nil))) (dss_one (ds_if (dt_cmpQ op_notN od_isnot (dk_q (dq_ix ix_seq od_ix (dq_var 2) (dq_var 4) (fun _ _ => rfl))) (dk_q dq_non) (by rfl)) (dss_cons
  (ds_set (i := 6) nd rfl (.inl rfl) (de_q (dq_call (ok__law_on E k) hr (by rfl) E.g__law_on E.F__law_on.kp E.b__law_on (dqa_cons (dq_var 0) (dqa_cons (dq_var 5) (dqa_cons (dq_ix ix_seq od_ix (dq_ix ix_seq od_ix (dq_var 2) (dq_var 4) (fun _ _ => rfl)) dq_int (fun _ _ => rfl)) dqa_nil))))))
 (dss_one (ds_if (dt_cmpQ op_notN od_isnot (dk_q (dq_var 6)) (dk_q dq_non) (by rfl)) (dss_cons
  (ds_set (i := 7) nd rfl (.inl rfl) (de_tup (da_cons (de_if (dt_val (de_q (dq_var 0))) (de_q (dq_var 6)) (de_q dq_int)) (da_cons (de_binop op_addA od_add (de_tup (da_cons (de_q (dq_var 4)) da_nil)) (de_q (dq_ix ix_seq od_ix (dq_ix ix_seq od_ix (dq_var 2) (dq_var 4) (fun _ _ => rfl)) dq_int (fun _ _ => rfl)))) da_nil))))
 (dss_one (ds_if (dw_t (dw_or (dt_cmpQ op_isN od_is (dk_q (dq_var 3)) (dk_q dq_non) (by rfl)) (dw_or1 (dt_cmpQ (op_ltP (hu65 hr)) od_ltP (dk_q (dq_var 7)) (dk_q (dq_var 3)) (by rfl))))) (dss_one (ds_set (i := 3) nd rfl (.inl rfl) (de_q (dq_var 7)))) dss_nil))) dss_nil))) dss_nil)))
 (dss_one (ds_ret (de_q (dq_var 3))))))
theorem sc_row_by : FnScope ["kind", "row", "table", "at"] ["kind", "row", "table"] (defScope s_row_by) := ⟨rfl, rfl, rfl, by decide +kernel, rfl, by decide +kernel, by decide +kernel⟩
theorem ok_row_by (E : Facts K mg) (k : Nat) : FnOk P w K mg base CX0 (k + 3) E.f_row_by E.fd_row_by ["kind", "row", "table"] (spD ⟨mg, K⟩ g_row_by) :=
 have nd := sc_row_by.nd
 fn_ok (F := F_row_by) E.F_row_by sc_row_by rfl rfl (by decide) fun cdv A outer s H XE hr =>
 (dss_cons
  (ds_if (dt_cmp (op_eqD hr.units) od_eq (de_q (dq_var 2)) (de_tup da_nil) (by rfl)) (dss_one (ds_ret (de_tup da_nil))) dss_nil)
 (dss_one (ds_ret (de_callTy call_tuple_of cd_tuple (by rfl) E.z_tuple boot_tuple (da_cons (de_lc (own0 := [("at", 3)]) rfl nd (di_range1 (by rfl) E.z_range (da_cons (de_q (dq_callB call_len cd_len (by rfl) E.z_len boot_len (dqa_cons (dq_ix ix_seq od_ix (dq_var 2) dq_int (fun _ _ => rfl)) dqa_nil))) da_nil) len1) (blkOk_by (by kernel_rfl)) (by decide) (fun _ _ _ _ _ => (dg_name (i := 3) nd rfl (.inl rfl))) (fun _ _ _ _ _ => dts_nil) (fun _ _ _ _ _ => (de_q (dq_call (ok_dot E k) hr (by rfl) E.g_dot E.F_dot.kp E.b_dot (dqa_cons (dq_var 0) (dqa_cons (dq_var 1) (dqa_cons (dq_call (ok_column_at E (k + 1)) hr (by rfl) E.g_column_at E.F_column_at.kp E.b_column_at (dqa_cons (dq_var 2) (dqa_cons (dq_var 3) dqa_nil))) dqa_nil))))))) da_nil)))))
theorem sc_by_column : FnScope ["kind", "table", "column", "row"] ["kind", "table", "column"] (defScope s_by_column) := ⟨rfl, rfl, rfl, by decide +kernel, rfl, by decide +kernel, by decide +kernel⟩
theorem ok_by_column (E : Facts K mg) (k : Nat) : FnOk P w K mg base CX0 (k + 3) E.f_by_column E.fd_by_column ["kind", "table", "column"] (spD ⟨mg, K⟩ g_by_column) :=
 have nd := sc_by_column.nd
 fn_ok (F := F_by_column) E.F_by_column sc_by_column rfl rfl (by decide) fun cdv A outer s H XE hr =>
 (dss_one (ds_ret (de_callTy call_tuple_of cd_tuple (by rfl) E.z_tuple boot_tuple (da_cons (de_lc (own0 := [("row", 3)]) rfl nd (di_seq (de_q (dq_var 1))) (blkOk_by (by kernel_rfl)) (by decide) (fun _ _ _ _ _ => (dg_name (i := 3) nd rfl (.inl rfl))) (fun _ _ _ _ _ => dts_nil) (fun _ _ _ _ _ => (de_q (dq_call (ok_dot E k) hr (by rfl) E.g_dot E.F_dot.kp E.b_dot (dqa_cons (dq_var 0) (dqa_cons (dq_var 3) (dqa_cons (dq_var 2) dqa_nil))))))) da_nil))))
theorem sc__law_line : FnScope ["state", "costs", "thin", "many", "k"] ["state", "costs", "thin", "many"] (defScope s__law_line) := ⟨rfl, rfl, rfl, by decide +kernel, rfl, by decide +kernel, by decide +kernel⟩
theorem ok__law_line (E : Facts K mg) (k : Nat) : FnOk P w K mg base CX0 (k + 3) E.f__law_line E.fd__law_line ["state", "costs", "thin", "many"] (spIO ⟨mg, K⟩ g__law_line) :=
 have nd := sc__law_line.nd
 fn_okIO (F := F__law_line) E.F__law_line sc__law_line rfl rfl (by decide) fun cdv A outer s H XE hr =>
 (dss_one (ds_ret (de_callTy call_tuple_of cd_tuple (by rfl) E.z_tuple boot_tuple (da_cons (de_lc (own0 := [("k", 4)]) rfl nd (di_range1 (by rfl) E.z_range (da_cons (de_q (dq_var 3)) da_nil) len1) (blkOk_by (by kernel_rfl)) (by decide) (fun _ _ _ _ _ => (dg_name (i := 4) nd rfl (.inl rfl))) (fun _ _ _ _ _ => dts_nil) (fun _ _ _ _ _ => (de_callIO (ok__law_weight E k) hr (by rfl) E.g__law_weight E.F__law_weight.kp E.b__law_weight (dak_s 0 (dak_v (de_q (dq_var 1)) (dak_v (de_q (dq_var 2)) dak_nil)))))) da_nil))))
theorem sc__law_due : FnScope ["costs", "machine", "word", "letters", "start", "tables", "ends", "coming", "letter", "table", "x", "row"] ["costs", "machine", "word"] (defScope s__law_due) := ⟨rfl, rfl, rfl, by decide +kernel, rfl, by decide +kernel, by decide +kernel⟩
theorem ok__law_due (E : Facts K mg) (k : Nat) : FnOk P w K mg base CX0 (k + 3) E.f__law_due E.fd__law_due ["costs", "machine", "word"] (spD ⟨mg, K⟩ g__law_due) :=
 have nd := sc__law_due.nd
 fn_ok (F := F__law_due) E.F__law_due sc__law_due rfl rfl (by decide) fun cdv A outer s H XE hr =>
 (dss_cons
  (ds_asg (de_q (dq_var 1)) (dg_tup rfl (dgs_cons (dg_name (i := 3) nd rfl (.inl rfl)) (dgs_cons (dg_name (i := 4) nd rfl (.inl rfl)) (dgs_cons (dg_name (i := 5) nd rfl (.inl rfl)) (dgs_cons (dg_name (i := 6) nd rfl (.inl rfl)) dgs_nil))))))
 (dss_cons
  (ds_set (i := 7) nd rfl (.inr rfl) (de_lc (own0 := [("x", 10)]) rfl nd (di_seq (de_q (dq_var 6))) (blkOk_by (by kernel_rfl)) (by decide) (fun _ _ _ _ _ => (dg_name (i := 10) nd rfl (.inl rfl))) (fun _ _ _ _ _ => dts_nil) (fun _ _ _ _ _ => (de_if (dw_t (dw_or (dt_cmpQ op_isN od_is (dk_q (dq_var 10)) (dk_q dq_non) (by rfl)) (dw_or1 (dt_cmpQ op_isB od_isB (dk_q (dq_var 10)) (dk_q dq_bl) (by rfl))))) (de_q dq_non) (de_tup (da_cons (de_if (dt_val (de_q (dq_var 0))) (de_q (dq_var 10)) (de_q dq_int)) (da_cons (de_tup da_nil) da_nil)))))))
 (dss_cons
  (ds_for PassesOwn.never rfl (di_revS (by rfl) E.z_reversed (de_q (dq_var 2))) (dg_name (i := 8) nd rfl (.inl rfl)) (dss_cons
  (ds_set (i := 9) nd rfl (.inl rfl) (de_q (dq_ix ix_seq od_ix (dq_var 5) (dq_idxS (dq_var 3) (dq_var 8)) (fun _ _ => rfl))))
 (dss_one (ds_set (i := 7) nd rfl (.inr rfl) (de_lc (own0 := [("row", 11)]) rfl nd (di_seq (de_q (dq_var 9))) (blkOk_by (by kernel_rfl)) (by decide) (fun _ _ _ _ _ => (dg_name (i := 11) nd rfl (.inl rfl))) (fun _ _ _ _ _ => dts_nil) (fun _ _ _ _ _ => (de_q (dq_call (ok__law_best_of E k) hr (by rfl) E.g__law_best_of E.F__law_best_of.kp E.b__law_best_of (dqa_cons (dq_var 0) (dqa_cons (dq_var 11) (dqa_cons (dq_var 7) dqa_nil)))))))))))
 (dss_one (ds_ret (de_q (dq_call (ok__law_best_of E k) hr (by rfl) E.g__law_best_of E.F__law_best_of.kp E.b__law_best_of (dqa_cons (dq_var 0) (dqa_cons (dq_var 4) (dqa_cons (dq_var 7) dqa_nil))))))))))
theorem sc_ahead : FnScope ["kind", "machine", "word", "row", "letter"] ["kind", "machine", "word"] (defScope s_ahead) := ⟨rfl, rfl, rfl, by decide +kernel, rfl, by decide +kernel, by decide +kernel⟩
theorem ok_ahead (E : Facts K mg) (k : Nat) : FnOk P w K mg base CX0 (k + 4) E.f_ahead E.fd_ahead ["kind", "machine", "word"] (spD ⟨mg, K⟩ g_ahead) :=
 have nd := sc_ahead.nd
 fn_ok (F := F_ahead) E.F_ahead sc_ahead rfl rfl (by decide) fun cdv A outer s H XE hr =>
 (dss_cons
  (ds_expr (de_q (dq_call (ok_check_word E (k + 2)) hr (by rfl) E.g_check_word E.F_check_word.kp E.b_check_word (dqa_cons (dq_ix ix_seq od_ix (dq_var 1) dq_int (fun _ _ => rfl)) (dqa_cons (dq_var 2) dqa_nil)))))
 (dss_cons
  (ds_set (i := 3) nd rfl (.inl rfl) (de_q (dq_ix ix_seq od_ix (dq_var 1) dq_int (fun _ _ => rfl))))
 (dss_cons
  (ds_for PassesOwn.never rfl (di_seq (de_q (dq_var 2))) (dg_name (i := 4) nd rfl (.inl rfl)) (dss_one (ds_set (i := 3) nd rfl (.inl rfl) (de_q (dq_call (ok_row_by E k) hr (by rfl) E.g_row_by E.F_row_by.kp E.b_row_by (dqa_cons (dq_var 0) (dqa_cons (dq_var 3) (dqa_cons (dq_call (ok_table_of E (k + 2)) hr (by rfl) E.g_table_of E.F_table_of.kp E.b_table_of (dqa_cons (dq_var 1) (dqa_cons (dq_var 4) dqa_nil))) dqa_nil))))))))
 (dss_one (ds_ret (de_q (dq_var 3)))))))
theorem sc_columns_of : FnScope ["kind", "machine", "word", "found", "letter"] ["kind", "machine", "word"] (defScope s_columns_of) := ⟨rfl, rfl, rfl, by decide +kernel, rfl, by decide +kernel, by decide +kernel⟩
theorem ok_columns_of (E : Facts K mg) (k : Nat) : FnOk P w K mg base CX0 (k + 4) E.f_columns_of E.fd_columns_of ["kind", "machine", "word"] (spD ⟨mg, K⟩ g_columns_of) :=
 have nd := sc_columns_of.nd
 fn_ok (F := F_columns_of) E.F_columns_of sc_columns_of rfl rfl (by decide) fun cdv A outer s H XE hr =>
 (dss_cons
  (ds_box (i := 3) nd rfl (.inl rfl) (da_cons (de_q (dq_ix ix_seq od_ix (dq_var 1) dq_int (fun _ _ => rfl))) da_nil))
 (dss_cons
  (ds_for PassesOwn.never rfl (di_revS (by rfl) E.z_reversed (de_q (dq_var 2))) (dg_name (i := 4) nd rfl (.inl rfl)) (dss_one (ds_expr (de_chg PySem.F.plainAttrs_list PySem.F.slot_list_append PySem.F.type_list_append mt_append chd_app pok_n (dp_name 3) (dqa_cons (dq_call (ok_by_column E k) hr (by rfl) E.g_by_column E.F_by_column.kp E.b_by_column (dqa_cons (dq_var 0) (dqa_cons (dq_call (ok_table_of E (k + 2)) hr (by rfl) E.g_table_of E.F_table_of.kp E.b_table_of (dqa_cons (dq_var 1) (dqa_cons (dq_var 4) dqa_nil))) (dqa_cons (dq_place (dp_ix (dp_name 3) (dq_unop un_neg ud_neg dq_int) (fun _ _ => rfl))) dqa_nil)))) dqa_nil)))))
 (dss_one (ds_ret (de_var 3)))))
theorem sc__law_machine : FnScope ["state", "costs", "letters", "many", "thin", "few", "tables", "letter", "line", "k"] ["state", "costs", "letters", "many"] (defScope s__law_machine) := ⟨rfl, rfl, rfl, by decide +kernel, rfl, by decide +kernel, by decide +kernel⟩
theorem ok__law_machine (E : Facts K mg) (k : Nat) : FnOk P w K mg base CX0 (k + 4) E.f__law_machine E.fd__law_machine ["state", "costs", "letters", "many"] (spIO ⟨mg, K⟩ g__law_machine) :=
 have nd := sc__law_machine.nd
 fn_okIO (F := F__law_machine) E.F__law_machine sc__law_machine rfl rfl (by decide) fun cdv A outer s H XE hr =>
 (dss_cons
  (ds_asg (de_tup (da_cons (de_callIO (ok__law_next E (k + 2)) hr (by rfl) E.g__law_next E.F__law_next.kp E.b__law_next (dak_s 0 (dak_v (de_q dq_int) dak_nil))) (da_cons (de_callIO (ok__law_next E (k + 2)) hr (by rfl) E.g__law_next E.F__law_next.kp E.b__law_next (dak_s 0 (dak_v (de_q dq_int) dak_nil))) da_nil))) (dg_tup rfl (dgs_cons (dg_name (i := 4) nd rfl (.inr rfl)) (dgs_cons (dg_name (i := 5) nd rfl (.inl rfl)) dgs_nil))))
 (dss_cons
  (ds_box (i := 6) nd rfl (.inl rfl) da_nil)
 (dss_cons
  (ds_for PassesOwn.never rfl (di_seq (de_q (dq_var 2))) (dg_name (i := 7) nd rfl (.inl rfl)) (dss_cons
  (ds_set (i := 8) nd rfl (.inr rfl) (de_callIO (ok__law_line E k) hr (by rfl) E.g__law_line E.F__law_line.kp E.b__law_line (dak_s 0 (dak_v (de_q (dq_var 1)) (dak_v (de_q (dq_var 4)) (dak_v (de_q (dq_var 3)) dak_nil))))))
 (dss_one (ds_if (dt_cmpQ (op_eqD hr.units) od_eq (dk_q (dq_var 5)) (dk_q dq_int) (by rfl)) (dss_one (ds_expr (de_chgN PySem.F.plainAttrs_list PySem.F.slot_list_append PySem.F.type_list_append mt_append chd_app 6 (da_cons (de_callTy call_tuple_of cd_tuple (by rfl) E.z_tuple boot_tuple (da_cons (de_lc (own0 := [("k", 9)]) rfl nd (di_range1 (by rfl) E.z_range (da_cons (de_q (dq_var 3)) da_nil) len1) (blkOk_by (by kernel_rfl)) (by decide) (fun _ _ _ _ _ => (dg_name (i := 9) nd rfl (.inl rfl))) (fun _ _ _ _ _ => dts_nil) (fun _ _ _ _ _ => (de_q (dq_binop op_addA od_add (dq_cut (dq_var 8) (do_some (dq_var 9)) do_none) (dq_cut (dq_var 8) do_none (do_some (dq_var 9))))))) da_nil)) da_nil)))) (dss_one (ds_expr (de_chgN PySem.F.plainAttrs_list PySem.F.slot_list_append PySem.F.type_list_append mt_append chd_app 6 (da_cons (de_callTy call_tuple_of cd_tuple (by rfl) E.z_tuple boot_tuple (da_cons (de_lc (own0 := [("k", 9)]) rfl nd (di_range1 (by rfl) E.z_range (da_cons (de_q (dq_var 3)) da_nil) len1) (blkOk_by (by kernel_rfl)) (by decide) (fun _ _ _ _ _ => (dg_name (i := 9) nd rfl (.inl rfl))) (fun _ _ _ _ _ => dts_nil) (fun _ _ _ _ _ => (de_callIO (ok__law_line E k) hr (by rfl) E.g__law_line E.F__law_line.kp E.b__law_line (dak_s 0 (dak_v (de_q (dq_var 1)) (dak_v (de_q (dq_var 4)) (dak_v (de_q (dq_var 3)) dak_nil))))))) da_nil)) da_nil))))))))
 (dss_one (ds_ret (de_tup (da_cons (de_q (dq_var 2)) (da_cons (de_callIO (ok__law_line E k) hr (by rfl) E.g__law_line E.F__law_line.kp E.b__law_line (dak_s 0 (dak_v (de_q (dq_var 1)) (dak_v (de_q (dq_var 4)) (dak_v (de_q (dq_var 3)) dak_nil))))) (da_cons (de_callTy call_tuple_of cd_tuple (by rfl) E.z_tuple boot_tuple (da_cons (de_var 6) da_nil)) (da_cons (de_callIO (ok__law_line E k) hr (by rfl) E.g__law_line E.F__law_line.kp E.b__law_line (dak_s 0 (dak_v (de_q (dq_var 1)) (dak_v (de_q (dq_var 4)) (dak_v (de_q (dq_var 3)) dak_nil))))) da_nil))))))))))
theorem sc_weight : FnScope ["kind", "machine", "word"] ["kind", "machine", "word"] (defScope s_weight) := ⟨rfl, rfl, rfl, by decide +kernel, rfl, by decide +kernel, by decide +kernel⟩
theorem ok_weight (E : Facts K mg) (k : Nat) : FnOk P w K mg base CX0 (k + 5) E.f_weight E.fd_weight ["kind", "machine", "word"] (spD ⟨mg, K⟩ g_weight) :=
 have nd := sc_weight.nd
 fn_ok (F := F_weight) E.F_weight sc_weight rfl rfl (by decide) fun cdv A outer s H XE hr =>
 (dss_one (ds_ret (de_q (dq_call (ok_dot E (k + 2)) hr (by rfl) E.g_dot E.F_dot.kp E.b_dot (dqa_cons (dq_var 0) (dqa_cons (dq_call (ok_ahead E k) hr (by rfl) E.g_ahead E.F_ahead.kp E.b_ahead (dqa_cons (dq_var 0) (dqa_cons (dq_var 1) (dqa_cons (dq_var 2) dqa_nil)))) (dqa_cons (dq_ix ix_seq od_ix (dq_var 1) dq_int (fun _ _ => rfl)) dqa_nil)))))))
theorem sc_best_way : FnScope ["kind", "machine", "word", "columns", "due", "way", "so_far", "row", "at", "room"] ["kind", "machine", "word"] (defScope s_best_way) := ⟨rfl, rfl, rfl, by decide +kernel, rfl, by decide +kernel, by decide +kernel⟩
theorem ok_best_way (E : Facts K mg) (k : Nat) : FnOk P w K mg base CX0 (k + 5) E.f_best_way E.fd_best_way ["kind", "machine", "word"] (spD ⟨mg, K⟩ g_best_way) :=
 have nd := sc_best_way.nd
 fn_ok (F := F_best_way) E.F_best_way sc_best_way rfl rfl (by decide) fun cdv A outer s H XE hr =>
 (dss_cons
  (ds_if (dt_not (dt_val (de_meth0 (de_q (dq_var 0)) (mo_picks E (k + 3)) hr))) (dss_one ds_never) dss_nil)
 (dss_cons
  (ds_expr (de_q (dq_call (ok_check_word E (k + 3)) hr (by rfl) E.g_check_word E.F_check_word.kp E.b_check_word (dqa_cons (dq_ix ix_seq od_ix (dq_var 1) dq_int (fun _ _ => rfl)) (dqa_cons (dq_var 2) dqa_nil)))))
 (dss_cons
  (ds_set (i := 3) nd rfl (.inl rfl) (de_q (dq_call (ok_columns_of E k) hr (by rfl) E.g_columns_of E.F_columns_of.kp E.b_columns_of (dqa_cons (dq_var 0) (dqa_cons (dq_var 1) (dqa_cons (dq_var 2) dqa_nil))))))
 (dss_cons
  (ds_set (i := 4) nd rfl (.inl rfl) (de_q (dq_call (ok_dot E (k + 2)) hr (by rfl) E.g_dot E.F_dot.kp E.b_dot (dqa_cons (dq_var 0) (dqa_cons (dq_ix ix_seq od_ix (dq_var 1) dq_int (fun _ _ => rfl)) (dqa_cons (dq_ix ix_seq od_ix (dq_var 3) (dq_unop un_neg ud_neg dq_int) (fun _ _ => rfl)) dqa_nil))))))
 (dss_cons
  (ds_if (dt_cmp (op_eqD hr.units) od_eq (de_q (dq_var 4)) (de_meth0 (de_q (dq_var 0)) (mo_nought E (k + 3)) hr) (by rfl)) (dss_one (ds_ret (de_q dq_non))) dss_nil)
 (dss_cons
  (ds_set (i := 5) nd rfl (.inl rfl) (de_tup da_nil))
 (dss_cons
  (ds_set (i := 6) nd rfl (.inl rfl) (de_meth0 (de_q (dq_var 0)) (mo_one E (k + 3)) hr))
 (dss_cons
  (ds_set (i := 7) nd rfl (.inl rfl) (de_q (dq_ix ix_seq od_ix (dq_var 1) dq_int (fun _ _ => rfl))))
 (dss_cons
  (ds_for PassesOwn.never rfl (di_range1 (by rfl) E.z_range (da_cons (de_q (dq_binop op_addA od_add (dq_callB call_len cd_len (by rfl) E.z_len boot_len (dqa_cons (dq_var 2) dqa_nil)) dq_int)) da_nil) len1) (dg_name (i := 8) nd rfl (.inl rfl)) (dss_cons
  (ds_set (i := 9) nd rfl (.inl rfl) (de_q (dq_call (ok_first_good E (k + 2)) hr (by rfl) E.g_first_good E.F_first_good.kp E.b_first_good (dqa_cons (dq_var 0) (dqa_cons (dq_var 6) (dqa_cons (dq_var 7) (dqa_cons (dq_ix ix_seq od_ix (dq_var 3) (dq_binop op_sub od_sub (dq_callB call_len cd_len (by rfl) E.z_len boot_len (dqa_cons (dq_var 2) dqa_nil)) (dq_var 8)) (fun _ _ => rfl)) (dqa_cons (dq_var 4) dqa_nil))))))))
 (dss_cons
  (ds_set (i := 6) nd rfl (.inl rfl) (de_meth (de_q (dq_var 0)) (mo_times E (k + 3)) hr (da_cons (de_q (dq_var 6)) (da_cons (de_q (dq_ix ix_seq od_ix (dq_var 7) (dq_var 9) (fun _ _ => rfl))) da_nil))))
 (dss_cons
  (ds_set (i := 5) nd rfl (.inl rfl) (de_binop op_addA od_add (de_q (dq_var 5)) (de_tup (da_cons (de_q (dq_var 9)) da_nil))))
 (dss_one (ds_if (dt_cmpQ op_lt od_lt (dk_q (dq_var 8)) (dk_q (dq_callB call_len cd_len (by rfl) E.z_len boot_len (dqa_cons (dq_var 2) dqa_nil))) (by rfl)) (dss_one (ds_set (i := 7) nd rfl (.inl rfl) (de_q (dq_ix ix_seq od_ix (dq_call (ok_table_of E (k + 3)) hr (by rfl) E.g_table_of E.F_table_of.kp E.b_table_of (dqa_cons (dq_var 1) (dqa_cons (dq_ix ix_seq od_ix (dq_var 2) (dq_var 8) (fun _ _ => rfl)) dqa_nil))) (dq_var 9) (fun _ _ => rfl))))) dss_nil))))))
 (dss_one (ds_ret (de_q (dq_var 5)))))))))))))
theorem sc_law : FnScope ["script", "state", "costs", "letters", "many", "machine", "kind", "turn", "word", "due", "again", "found", "whole"] ["script"] (defScope s_law) := ⟨rfl, rfl, rfl, by decide +kernel, rfl, by decide +kernel, by decide +kernel⟩
theorem ok_law (E : Facts K mg) (k : Nat) : FnG P w K mg base (k + 6) E.f_law E.fd_law ["script"] (spD ⟨mg, K⟩ g_law) :=
 have nd := sc_law.nd
 fn_okG (F := F_law) E.F_law sc_law rfl rfl (by decide) fun cdv A outer s H XE hr quiet =>
 (dss_cons
  (ds_setF (i := 1) nd rfl (.inl rfl) (df_call (ok__law_state E (k + 4)) hr (by rfl) E.g__law_state E.F__law_state.kp E.b__law_state (da_cons (de_q (dq_var 0)) da_nil)))
 (dss_cons
  (ds_set (i := 2) nd rfl (.inl rfl) (de_cmp (op_eqD hr.units) od_eq (de_callIO (ok__law_next E (k + 4)) hr (by rfl) E.g__law_next E.F__law_next.kp E.b__law_next (dak_s 1 (dak_v (de_q dq_int) dak_nil))) (de_q dq_int) (by rfl)))
 (dss_cons
  (ds_set (i := 3) nd rfl (.inl rfl) (de_callIO (ok__law_letters E (k + 3)) hr (by rfl) E.g__law_letters E.F__law_letters.kp E.b__law_letters (dak_s 1 dak_nil)))
 (dss_cons
  (ds_set (i := 4) nd rfl (.inl rfl) (de_ix ix_seq od_ix (de_lst (da_cons (de_callIO (ok__law_next E (k + 4)) hr (by rfl) E.g__law_next E.F__law_next.kp E.b__law_next (dak_s 1 (dak_v (de_q dq_int) dak_nil))) (da_cons (de_binop op_addA od_add (de_q dq_int) (de_callIO (ok__law_next E (k + 4)) hr (by rfl) E.g__law_next E.F__law_next.kp E.b__law_next (dak_s 1 (dak_v (de_q dq_int) dak_nil)))) (da_cons (de_q dq_int) (da_cons (de_binop op_addA od_add (de_q dq_int) (de_callIO (ok__law_next E (k + 4)) hr (by rfl) E.g__law_next E.F__law_next.kp E.b__law_next (dak_s 1 (dak_v (de_q dq_int) dak_nil)))) da_nil))))) (de_callIO (ok__law_next E (k + 4)) hr (by rfl) E.g__law_next E.F__law_next.kp E.b__law_next (dak_s 1 (dak_v (de_q dq_int) dak_nil))) (fun _ _ => rfl)))
 (dss_cons
  (ds_set (i := 5) nd rfl (.inl rfl) (de_callIO (ok__law_machine E (k + 1)) hr (by rfl) E.g__law_machine E.F__law_machine.kp E.b__law_machine (dak_s 1 (dak_v (de_q (dq_var 2)) (dak_v (de_q (dq_var 3)) (dak_v (de_q (dq_var 4)) dak_nil))))))
 (dss_cons
  (ds_set (i := 6) nd rfl (.inl rfl) (de_if (dt_val (de_q (dq_var 2))) (de_bare E.cb_Costs (by rfl) E.cg_Costs) (de_bare E.cb_Truths (by rfl) E.cg_Truths)))
 (dss_cons
  (ds_for PassesOwn.never rfl (di_range1 (by rfl) E.z_range (da_cons (de_q dq_int) da_nil) len1) (dg_name (i := 7) nd rfl (.inl rfl)) (dss_cons
  (ds_set (i := 8) nd rfl (.inl rfl) (de_callIO (ok__law_word E (k + 3)) hr (by rfl) E.g__law_word E.F__law_word.kp E.b__law_word (dak_s 1 (dak_v (de_q (dq_var 3)) (dak_v (de_ix ix_seq od_ix (de_lst (da_cons (de_q dq_int) (da_cons (de_callIO (ok__law_next E (k + 4)) hr (by rfl) E.g__law_next E.F__law_next.kp E.b__law_next (dak_s 1 (dak_v (de_q dq_int) dak_nil))) (da_cons (de_callIO (ok__law_next E (k + 4)) hr (by rfl) E.g__law_next E.F__law_next.kp E.b__law_next (dak_s 1 (dak_v (de_q dq_int) dak_nil))) da_nil)))) (de_callIO (ok__law_next E (k + 4)) hr (by rfl) E.g__law_next E.F__law_next.kp E.b__law_next (dak_s 1 (dak_v (de_q dq_int) dak_nil))) (fun _ _ => rfl)) dak_nil)))))
 (dss_cons
  (ds_set (i := 9) nd rfl (.inl rfl) (de_q (dq_call (ok__law_due E (k + 2)) hr (by rfl) E.g__law_due E.F__law_due.kp E.b__law_due (dqa_cons (dq_var 2) (dqa_cons (dq_var 5) (dqa_cons (dq_var 8) dqa_nil))))))
 (dss_cons
  (ds_for PassesOwn.never rfl (di_range1 (by rfl) E.z_range (da_cons (de_q dq_int) da_nil) len1) (dg_name (i := 10) nd rfl (.inl rfl)) (dss_cons
  (ds_set (i := 11) nd rfl (.inl rfl) (de_q (dq_call (ok_best_way E k) hr (by rfl) E.g_best_way E.F_best_way.kp E.b_best_way (dqa_cons (dq_var 6) (dqa_cons (dq_var 5) (dqa_cons (dq_var 8) dqa_nil))))))
 (dss_one (ds_if (dt_cmpQ op_isN od_is (dk_q (dq_var 9)) (dk_q dq_non) (by rfl)) (dss_one (ds_if (dw_t (dw_or (dt_cmpQ op_notN od_isnot (dk_q (dq_var 11)) (dk_q dq_non) (by rfl)) (dw_or1 (dt_cmp (op_neD hr.units) od_ne (de_q (dq_call (ok_weight E k) hr (by rfl) E.g_weight E.F_weight.kp E.b_weight (dqa_cons (dq_var 6) (dqa_cons (dq_var 5) (dqa_cons (dq_var 8) dqa_nil))))) (de_meth0 (de_q (dq_var 6)) (mo_nought E (k + 4)) hr) (by rfl))))) (dss_one (ds_ret (de_q dq_bl))) dss_nil)) (dss_one (ds_if (dt_not (dt_val (de_q (dq_callG (ok__law_is_way E (k + 4)) hr quiet (by rfl) E.g__law_is_way E.F__law_is_way.kp E.b__law_is_way (dqa_cons (dq_var 11) (dqa_cons (dq_ix ix_seq od_ix (dq_var 9) dq_int (fun _ _ => rfl)) dqa_nil)))))) (dss_one (ds_ret (de_q dq_bl))) dss_nil))))))
 (dss_one (ds_if (dt_cmpQ op_notN od_isnot (dk_q (dq_var 9)) (dk_q dq_non) (by rfl)) (dss_cons
  (ds_set (i := 12) nd rfl (.inl rfl) (de_if (dt_val (de_q (dq_var 2))) (de_q (dq_ix ix_seq od_ix (dq_var 9) dq_int (fun _ _ => rfl))) (de_q dq_bl)))
 (dss_one (ds_if (dw_t (dw_or (dt_cmpQ (op_neD hr.units) od_ne (dk_q (dq_call (ok_weight E k) hr (by rfl) E.g_weight E.F_weight.kp E.b_weight (dqa_cons (dq_var 6) (dqa_cons (dq_var 5) (dqa_cons (dq_var 8) dqa_nil))))) (dk_q (dq_var 12)) (by rfl)) (dw_or1 (dt_cmpQ (op_neD hr.units) od_ne (dk_q (dq_call (ok_way_weight E (k + 3)) hr (by rfl) E.g_way_weight E.F_way_weight.kp E.b_way_weight (dqa_cons (dq_var 6) (dqa_cons (dq_var 5) (dqa_cons (dq_var 8) (dqa_cons (dq_ix ix_seq od_ix (dq_var 9) dq_int (fun _ _ => rfl)) dqa_nil)))))) (dk_q (dq_var 12)) (by rfl))))) (dss_one (ds_ret (de_q dq_bl))) dss_nil))) dss_nil))))))
 (dss_one (ds_ret (de_q dq_bl))))))))))
end
/-! ### the head -/
def d_column_at : He.FnD := ⟨("column_at", none), "column_at", "column_at", defArgs s_column_at, defBody s_column_at, defScope s_column_at⟩
def d_check_word : He.FnD := ⟨("check_word", none), "check_word", "check_word", defArgs s_check_word, defBody s_check_word, defScope s_check_word⟩
def d_table_of : He.FnD := ⟨("table_of", none), "table_of", "table_of", defArgs s_table_of, defBody s_table_of, defScope s_table_of⟩
def d_Costs_picks : He.FnD := ⟨("Costs", some "picks"), "picks", "Picking.picks", defArgs s_Costs_picks, defBody s_Costs_picks, defScope s_Costs_picks⟩
def d_Truths_picks : He.FnD := ⟨("Truths", some "picks"), "picks", "Picking.picks", defArgs s_Truths_picks, defBody s_Truths_picks, defScope s_Truths_picks⟩
def d_Costs_nought : He.FnD := ⟨("Costs", some "nought"), "nought", "Costs.nought", defArgs s_Costs_nought, defBody s_Costs_nought, defScope s_Costs_nought⟩
def d_Costs_one : He.FnD := ⟨("Costs", some "one"), "one", "Costs.one", defArgs s_Costs_one, defBody s_Costs_one, defScope s_Costs_one⟩
def d_Costs_plus : He.FnD := ⟨("Costs", some "plus"), "plus", "Costs.plus", defArgs s_Costs_plus, defBody s_Costs_plus, defScope s_Costs_plus⟩
def d_Costs_times : He.FnD := ⟨("Costs", some "times"), "times", "Costs.times", defArgs s_Costs_times, defBody s_Costs_times, defScope s_Costs_times⟩
def d_Truths_nought : He.FnD := ⟨("Truths", some "nought"), "nought", "Truths.nought", defArgs s_Truths_nought, defBody s_Truths_nought, defScope s_Truths_nought⟩
def d_Truths_one : He.FnD := ⟨("Truths", some "one"), "one", "Truths.one", defArgs s_Truths_one, defBody s_Truths_one, defScope s_Truths_one⟩
def d_Truths_plus : He.FnD := ⟨("Truths", some "plus"), "plus", "Truths.plus", defArgs s_Truths_plus, defBody s_Truths_plus, defScope s_Truths_plus⟩
def d_Truths_times : He.FnD := ⟨("Truths", some "times"), "times", "Truths.times", defArgs s_Truths_times, defBody s_Truths_times, defScope s_Truths_times⟩
def d__law_next : He.FnD := ⟨("_law_next", none), "_law_next", "_law_next", defArgs s__law_next, defBody s__law_next, defScope s__law_next⟩
def d__law_state : He.FnD := ⟨("_law_state", none), "_law_state", "_law_state", defArgs s__law_state, defBody s__law_state, defScope s__law_state⟩
def d__law_on : He.FnD := ⟨("_law_on", none), "_law_on", "_law_on", defArgs s__law_on, defBody s__law_on, defScope s__law_on⟩
def d__law_is_way : He.FnD := ⟨("_law_is_way", none), "_law_is_way", "_law_is_way", defArgs s__law_is_way, defBody s__law_is_way, defScope s__law_is_way⟩
def d_dot : He.FnD := ⟨("dot", none), "dot", "dot", defArgs s_dot, defBody s_dot, defScope s_dot⟩
def d_way_weight : He.FnD := ⟨("way_weight", none), "way_weight", "way_weight", defArgs s_way_weight, defBody s_way_weight, defScope s_way_weight⟩
def d_first_good : He.FnD := ⟨("first_good", none), "first_good", "first_good", defArgs s_first_good, defBody s_first_good, defScope s_first_good⟩
def d__law_letters : He.FnD := ⟨("_law_letters", none), "_law_letters", "_law_letters", defArgs s__law_letters, defBody s__law_letters, defScope s__law_letters⟩
def d__law_word : He.FnD := ⟨("_law_word", none), "_law_word", "_law_word", defArgs s__law_word, defBody s__law_word, defScope s__law_word⟩
def d__law_weight : He.FnD := ⟨("_law_weight", none), "_law_weight", "_law_weight", defArgs s__law_weight, defBody s__law_weight, defScope s__law_weight⟩
def d__law_best_of : He.FnD := ⟨("_law_best_of", none), "_law_best_of", "_law_best_of", defArgs s__law_best_of, defBody s__law_best_of, defScope s__law_best_of⟩
def d_row_by : He.FnD := ⟨("row_by", none), "row_by", "row_by", defArgs s_row_by, defBody s_row_by, defScope s_row_by⟩
def d_by_column : He.FnD := ⟨("by_column", none), "by_column", "by_column", defArgs s_by_column, defBody s_by_column, defScope s_by_column⟩
def d__law_line : He.FnD := ⟨("_law_line", none), "_law_line", "_law_line", defArgs s__law_line, defBody s__law_line, defScope s__law_line⟩
def d__law_due : He.FnD := ⟨("_law_due", none), "_law_due", "_law_due", defArgs s__law_due, defBody s__law_due, defScope s__law_due⟩
def d_ahead : He.FnD := ⟨("ahead", none), "ahead", "ahead", defArgs s_ahead, defBody s_ahead, defScope s_ahead⟩
def d_columns_of : He.FnD := ⟨("columns_of", none), "columns_of", "columns_of", defArgs s_columns_of, defBody s_columns_of, defScope s_columns_of⟩
def d__law_machine : He.FnD := ⟨("_law_machine", none), "_law_machine", "_law_machine", defArgs s__law_machine, defBody s__law_machine, defScope s__law_machine⟩
def d_weight : He.FnD := ⟨("weight", none), "weight", "weight", defArgs s_weight, defBody s_weight, defScope s_weight⟩
def d_best_way : He.FnD := ⟨("best_way", none), "best_way", "best_way", defArgs s_best_way, defBody s_best_way, defScope s_best_way⟩
def d_law : He.FnD := ⟨("law", none), "law", "law", defArgs s_law, defBody s_law, defScope s_law⟩
def hfn : List He.FnD := [d_column_at, d_check_word, d_table_of, d_Costs_picks, d_Truths_picks, d_Costs_nought, d_Costs_one, d_Costs_plus, d_Costs_times, d_Truths_nought, d_Truths_one, d_Truths_plus, d_Truths_times, d__law_next, d__law_state, d__law_on, d__law_is_way, d_dot, d_way_weight, d_first_good, d__law_letters, d__law_word, d__law_weight, d__law_best_of, d_row_by, d_by_column, d__law_line, d__law_due, d_ahead, d_columns_of, d__law_machine, d_weight, d_best_way, d_law]
def hex (K : PySem.W.Frag) : Bool := bareB K (He.ga K "Costs") && (bareB K (He.ga K "Truths"))
def hfa : List He.Fa := [.glo "column_at", .glo "check_word", .glo "table_of", .glo "Costs", .glo "Truths", .glo "Costs", .glo "Costs", .glo "Costs", .glo "Costs", .glo "Truths", .glo "Truths", .glo "Truths", .glo "Truths", .glo "_law_next", .glo "_law_state", .glo "_law_on", .glo "_law_is_way", .glo "dot", .glo "way_weight", .glo "first_good", .glo "_law_letters", .glo "_law_word", .glo "_law_weight", .glo "_law_best_of", .glo "row_by", .glo "by_column", .glo "_law_line", .glo "_law_due", .glo "ahead", .glo "columns_of", .glo "_law_machine", .glo "weight", .glo "best_way", .glo "law", .keep "column_at", .keep "check_word", .keep "table_of", .meth "Costs" "picks", .meth "Truths" "picks", .meth "Costs" "nought", .meth "Costs" "one", .meth "Costs" "plus", .meth "Costs" "times", .meth "Truths" "nought", .meth "Truths" "one", .meth "Truths" "plus", .meth "Truths" "times", .keep "_law_next", .keep "_law_state", .keep "_law_on", .keep "_law_is_way", .keep "dot", .keep "way_weight", .keep "first_good", .keep "_law_letters", .keep "_law_word", .keep "_law_weight", .keep "_law_best_of", .keep "row_by", .keep "by_column", .keep "_law_line", .keep "_law_due", .keep "ahead", .keep "columns_of", .keep "_law_machine", .keep "weight", .keep "best_way", .keep "law", .free "tuple", .free "isinstance", .free "str", .free "min", .free "len", .free "repr", .free "zip", .free "enumerate", .free "range", .free "reversed", .glo "Costs", .cls "Costs", .glo "Truths", .cls "Truths"]
abbrev R : PySem.W.OpenRow := PySem.W.OpenLaw.row PySem.Challenge.rw_weighwalk_k19_least_best_ways
abbrev hk : PySem.W.Hook := hookEx 4 hfa hfn hex
def ob (s : PySem.W.SharedT) : AlE := obsExG 4 hfa hfn hex (HandSHeadRun.getT s)
theorem ob_eq (s : PySem.W.SharedT) : ob s = hk.obs s.abs := obsExG_eq (HandSHeadRun.getT_eq s)
def loose : List PySem.Str := [("_wall" : PySem.Str), ("WeighError" : PySem.Str), ("WrongKind" : PySem.Str), ("NoWord" : PySem.Str), ("NoText" : PySem.Str), ("dot" : PySem.Str), ("column_at" : PySem.Str), ("row_by" : PySem.Str), ("by_column" : PySem.Str), ("check_word" : PySem.Str), ("table_of" : PySem.Str), ("ahead" : PySem.Str), ("columns_of" : PySem.Str), ("weight" : PySem.Str), ("way_weight" : PySem.Str), ("first_good" : PySem.Str), ("best_way" : PySem.Str), ("read_whole" : PySem.Str), ("Kind" : PySem.Str), ("Picking" : PySem.Str), ("Costs" : PySem.Str), ("Truths" : PySem.Str), ("_law_next" : PySem.Str), ("_law_state" : PySem.Str), ("_law_letters" : PySem.Str), ("_law_word" : PySem.Str), ("_law_weight" : PySem.Str), ("_law_line" : PySem.Str), ("_law_machine" : PySem.Str), ("_law_on" : PySem.Str), ("_law_best_of" : PySem.Str), ("_law_due" : PySem.Str), ("_law_is_way" : PySem.Str), ("FIGURES" : PySem.Str), ("MOST_FIGURES" : PySem.Str)]
theorem run (w : World) : HandSHeadRun.RunEq R (PySem.W.view R.prog [40]) hk ob 4000 loose w := by
  intro os
  kernel_rfl
theorem facts {K : PySem.W.Frag} {h : Heap} {mg : Str → Option Value} (X : K.In h) (G : h.Ns mainGlobals mg) (c : He.SaysE hfa hfn K) (cx : hex K = true) : Nonempty (Facts K mg) := by
  obtain ⟨oc0, od0, osl0, kV0, doc0, pm0, an0, cdv0, ct0, l0, cc0⟩ := c.def_ 0 (d := d_column_at) rfl
  have F0 := fun_mk (st := s_column_at) l0 cc0 (He.keep_ok (c.fact 34 (f := .keep "column_at") rfl))
  have b0 := F0.binds (ps := ["table", "at"]) fun _ _ _ _ _ _ us hl => match us, hl with | [_, _], _ => rfl
  obtain ⟨oc1, od1, osl1, kV1, doc1, pm1, an1, cdv1, ct1, l1, cc1⟩ := c.def_ 1 (d := d_check_word) rfl
  have F1 := fun_mk (st := s_check_word) l1 cc1 (He.keep_ok (c.fact 35 (f := .keep "check_word") rfl))
  have b1 := F1.binds (ps := ["letters", "word"]) fun _ _ _ _ _ _ us hl => match us, hl with | [_, _], _ => rfl
  obtain ⟨oc2, od2, osl2, kV2, doc2, pm2, an2, cdv2, ct2, l2, cc2⟩ := c.def_ 2 (d := d_table_of) rfl
  have F2 := fun_mk (st := s_table_of) l2 cc2 (He.keep_ok (c.fact 36 (f := .keep "table_of") rfl))
  have b2 := F2.binds (ps := ["machine", "letter"]) fun _ _ _ _ _ _ us hl => match us, hl with | [_, _], _ => rfl
  obtain ⟨oc3, od3, osl3, kV3, doc3, pm3, an3, cdv3, ct3, l3, cc3⟩ := c.def_ 3 (d := d_Costs_picks) rfl
  have F3 := fun_mk (st := s_Costs_picks) l3 cc3 ((He.meth_ok (c.fact 37 (f := .meth "Costs" "picks") rfl)).kp)
  have b3 := F3.binds (ps := ["self"]) fun _ _ _ _ _ _ us hl => match us, hl with | [_], _ => rfl
  obtain ⟨oc4, od4, osl4, kV4, doc4, pm4, an4, cdv4, ct4, l4, cc4⟩ := c.def_ 4 (d := d_Truths_picks) rfl
  have F4 := fun_mk (st := s_Truths_picks) l4 cc4 ((He.meth_ok (c.fact 38 (f := .meth "Truths" "picks") rfl)).kp)
  have b4 := F4.binds (ps := ["self"]) fun _ _ _ _ _ _ us hl => match us, hl with | [_], _ => rfl
  obtain ⟨oc5, od5, osl5, kV5, doc5, pm5, an5, cdv5, ct5, l5, cc5⟩ := c.def_ 5 (d := d_Costs_nought) rfl
  have F5 := fun_mk (st := s_Costs_nought) l5 cc5 ((He.meth_ok (c.fact 39 (f := .meth "Costs" "nought") rfl)).kp)
  have b5 := F5.binds (ps := ["self"]) fun _ _ _ _ _ _ us hl => match us, hl with | [_], _ => rfl
  obtain ⟨oc6, od6, osl6, kV6, doc6, pm6, an6, cdv6, ct6, l6, cc6⟩ := c.def_ 6 (d := d_Costs_one) rfl
  have F6 := fun_mk (st := s_Costs_one) l6 cc6 ((He.meth_ok (c.fact 40 (f := .meth "Costs" "one") rfl)).kp)
  have b6 := F6.binds (ps := ["self"]) fun _ _ _ _ _ _ us hl => match us, hl with | [_], _ => rfl
  obtain ⟨oc7, od7, osl7, kV7, doc7, pm7, an7, cdv7, ct7, l7, cc7⟩ := c.def_ 7 (d := d_Costs_plus) rfl
  have F7 := fun_mk (st := s_Costs_plus) l7 cc7 ((He.meth_ok (c.fact 41 (f := .meth "Costs" "plus") rfl)).kp)
  have b7 := F7.binds (ps := ["self", "x", "y"]) fun _ _ _ _ _ _ us hl => match us, hl with | [_, _, _], _ => rfl
  obtain ⟨oc8, od8, osl8, kV8, doc8, pm8, an8, cdv8, ct8, l8, cc8⟩ := c.def_ 8 (d := d_Costs_times) rfl
  have F8 := fun_mk (st := s_Costs_times) l8 cc8 ((He.meth_ok (c.fact 42 (f := .meth "Costs" "times") rfl)).kp)
  have b8 := F8.binds (ps := ["self", "x", "y"]) fun _ _ _ _ _ _ us hl => match us, hl with | [_, _, _], _ => rfl
  obtain ⟨oc9, od9, osl9, kV9, doc9, pm9, an9, cdv9, ct9, l9, cc9⟩ := c.def_ 9 (d := d_Truths_nought) rfl
  have F9 := fun_mk (st := s_Truths_nought) l9 cc9 ((He.meth_ok (c.fact 43 (f := .meth "Truths" "nought") rfl)).kp)
  have b9 := F9.binds (ps := ["self"]) fun _ _ _ _ _ _ us hl => match us, hl with | [_], _ => rfl
  obtain ⟨oc10, od10, osl10, kV10, doc10, pm10, an10, cdv10, ct10, l10, cc10⟩ := c.def_ 10 (d := d_Truths_one) rfl
  have F10 := fun_mk (st := s_Truths_one) l10 cc10 ((He.meth_ok (c.fact 44 (f := .meth "Truths" "one") rfl)).kp)
  have b10 := F10.binds (ps := ["self"]) fun _ _ _ _ _ _ us hl => match us, hl with | [_], _ => rfl
  obtain ⟨oc11, od11, osl11, kV11, doc11, pm11, an11, cdv11, ct11, l11, cc11⟩ := c.def_ 11 (d := d_Truths_plus) rfl
  have F11 := fun_mk (st := s_Truths_plus) l11 cc11 ((He.meth_ok (c.fact 45 (f := .meth "Truths" "plus") rfl)).kp)
  have b11 := F11.binds (ps := ["self", "x", "y"]) fun _ _ _ _ _ _ us hl => match us, hl with | [_, _, _], _ => rfl
  obtain ⟨oc12, od12, osl12, kV12, doc12, pm12, an12, cdv12, ct12, l12, cc12⟩ := c.def_ 12 (d := d_Truths_times) rfl
  have F12 := fun_mk (st := s_Truths_times) l12 cc12 ((He.meth_ok (c.fact 46 (f := .meth "Truths" "times") rfl)).kp)
  have b12 := F12.binds (ps := ["self", "x", "y"]) fun _ _ _ _ _ _ us hl => match us, hl with | [_, _, _], _ => rfl
  obtain ⟨oc13, od13, osl13, kV13, doc13, pm13, an13, cdv13, ct13, l13, cc13⟩ := c.def_ 13 (d := d__law_next) rfl
  have F13 := fun_mk (st := s__law_next) l13 cc13 (He.keep_ok (c.fact 47 (f := .keep "_law_next") rfl))
  have b13 := F13.binds (ps := ["state", "many"]) fun _ _ _ _ _ _ us hl => match us, hl with | [_, _], _ => rfl
  obtain ⟨oc14, od14, osl14, kV14, doc14, pm14, an14, cdv14, ct14, l14, cc14⟩ := c.def_ 14 (d := d__law_state) rfl
  have F14 := fun_mk (st := s__law_state) l14 cc14 (He.keep_ok (c.fact 48 (f := .keep "_law_state") rfl))
  have b14 := F14.binds (ps := ["script"]) fun _ _ _ _ _ _ us hl => match us, hl with | [_], _ => rfl
  obtain ⟨oc15, od15, osl15, kV15, doc15, pm15, an15, cdv15, ct15, l15, cc15⟩ := c.def_ 15 (d := d__law_on) rfl
  have F15 := fun_mk (st := s__law_on) l15 cc15 (He.keep_ok (c.fact 49 (f := .keep "_law_on") rfl))
  have b15 := F15.binds (ps := ["costs", "x", "y"]) fun _ _ _ _ _ _ us hl => match us, hl with | [_, _, _], _ => rfl
  obtain ⟨oc16, od16, osl16, kV16, doc16, pm16, an16, cdv16, ct16, l16, cc16⟩ := c.def_ 16 (d := d__law_is_way) rfl
  have F16 := fun_mk (st := s__law_is_way) l16 cc16 (He.keep_ok (c.fact 50 (f := .keep "_law_is_way") rfl))
  have b16 := F16.binds (ps := ["found", "due"]) fun _ _ _ _ _ _ us hl => match us, hl with | [_, _], _ => rfl
  obtain ⟨oc17, od17, osl17, kV17, doc17, pm17, an17, cdv17, ct17, l17, cc17⟩ := c.def_ 17 (d := d_dot) rfl
  have F17 := fun_mk (st := s_dot) l17 cc17 (He.keep_ok (c.fact 51 (f := .keep "dot") rfl))
  have b17 := F17.binds (ps := ["kind", "row", "column"]) fun _ _ _ _ _ _ us hl => match us, hl with | [_, _, _], _ => rfl
  obtain ⟨oc18, od18, osl18, kV18, doc18, pm18, an18, cdv18, ct18, l18, cc18⟩ := c.def_ 18 (d := d_way_weight) rfl
  have F18 := fun_mk (st := s_way_weight) l18 cc18 (He.keep_ok (c.fact 52 (f := .keep "way_weight") rfl))
  have b18 := F18.binds (ps := ["kind", "machine", "word", "way"]) fun _ _ _ _ _ _ us hl => match us, hl with | [_, _, _, _], _ => rfl
  obtain ⟨oc19, od19, osl19, kV19, doc19, pm19, an19, cdv19, ct19, l19, cc19⟩ := c.def_ 19 (d := d_first_good) rfl
  have F19 := fun_mk (st := s_first_good) l19 cc19 (He.keep_ok (c.fact 53 (f := .keep "first_good") rfl))
  have b19 := F19.binds (ps := ["kind", "so_far", "row", "column", "due"]) fun _ _ _ _ _ _ us hl => match us, hl with | [_, _, _, _, _], _ => rfl
  obtain ⟨oc20, od20, osl20, kV20, doc20, pm20, an20, cdv20, ct20, l20, cc20⟩ := c.def_ 20 (d := d__law_letters) rfl
  have F20 := fun_mk (st := s__law_letters) l20 cc20 (He.keep_ok (c.fact 54 (f := .keep "_law_letters") rfl))
  have b20 := F20.binds (ps := ["state"]) fun _ _ _ _ _ _ us hl => match us, hl with | [_], _ => rfl
  obtain ⟨oc21, od21, osl21, kV21, doc21, pm21, an21, cdv21, ct21, l21, cc21⟩ := c.def_ 21 (d := d__law_word) rfl
  have F21 := fun_mk (st := s__law_word) l21 cc21 (He.keep_ok (c.fact 55 (f := .keep "_law_word") rfl))
  have b21 := F21.binds (ps := ["state", "letters", "size"]) fun _ _ _ _ _ _ us hl => match us, hl with | [_, _, _], _ => rfl
  obtain ⟨oc22, od22, osl22, kV22, doc22, pm22, an22, cdv22, ct22, l22, cc22⟩ := c.def_ 22 (d := d__law_weight) rfl
  have F22 := fun_mk (st := s__law_weight) l22 cc22 (He.keep_ok (c.fact 56 (f := .keep "_law_weight") rfl))
  have b22 := F22.binds (ps := ["state", "costs", "thin"]) fun _ _ _ _ _ _ us hl => match us, hl with | [_, _, _], _ => rfl
  obtain ⟨oc23, od23, osl23, kV23, doc23, pm23, an23, cdv23, ct23, l23, cc23⟩ := c.def_ 23 (d := d__law_best_of) rfl
  have F23 := fun_mk (st := s__law_best_of) l23 cc23 (He.keep_ok (c.fact 57 (f := .keep "_law_best_of") rfl))
  have b23 := F23.binds (ps := ["costs", "row", "coming"]) fun _ _ _ _ _ _ us hl => match us, hl with | [_, _, _], _ => rfl
  obtain ⟨oc24, od24, osl24, kV24, doc24, pm24, an24, cdv24, ct24, l24, cc24⟩ := c.def_ 24 (d := d_row_by) rfl
  have F24 := fun_mk (st := s_row_by) l24 cc24 (He.keep_ok (c.fact 58 (f := .keep "row_by") rfl))
  have b24 := F24.binds (ps := ["kind", "row", "table"]) fun _ _ _ _ _ _ us hl => match us, hl with | [_, _, _], _ => rfl
  obtain ⟨oc25, od25, osl25, kV25, doc25, pm25, an25, cdv25, ct25, l25, cc25⟩ := c.def_ 25 (d := d_by_column) rfl
  have F25 := fun_mk (st := s_by_column) l25 cc25 (He.keep_ok (c.fact 59 (f := .keep "by_column") rfl))
  have b25 := F25.binds (ps := ["kind", "table", "column"]) fun _ _ _ _ _ _ us hl => match us, hl with | [_, _, _], _ => rfl
  obtain ⟨oc26, od26, osl26, kV26, doc26, pm26, an26, cdv26, ct26, l26, cc26⟩ := c.def_ 26 (d := d__law_line) rfl
  have F26 := fun_mk (st := s__law_line) l26 cc26 (He.keep_ok (c.fact 60 (f := .keep "_law_line") rfl))
  have b26 := F26.binds (ps := ["state", "costs", "thin", "many"]) fun _ _ _ _ _ _ us hl => match us, hl with | [_, _, _, _], _ => rfl
  obtain ⟨oc27, od27, osl27, kV27, doc27, pm27, an27, cdv27, ct27, l27, cc27⟩ := c.def_ 27 (d := d__law_due) rfl
  have F27 := fun_mk (st := s__law_due) l27 cc27 (He.keep_ok (c.fact 61 (f := .keep "_law_due") rfl))
  have b27 := F27.binds (ps := ["costs", "machine", "word"]) fun _ _ _ _ _ _ us hl => match us, hl with | [_, _, _], _ => rfl
  obtain ⟨oc28, od28, osl28, kV28, doc28, pm28, an28, cdv28, ct28, l28, cc28⟩ := c.def_ 28 (d := d_ahead) rfl
  have F28 := fun_mk (st := s_ahead) l28 cc28 (He.keep_ok (c.fact 62 (f := .keep "ahead") rfl))
  have b28 := F28.binds (ps := ["kind", "machine", "word"]) fun _ _ _ _ _ _ us hl => match us, hl with | [_, _, _], _ => rfl
  obtain ⟨oc29, od29, osl29, kV29, doc29, pm29, an29, cdv29, ct29, l29, cc29⟩ := c.def_ 29 (d := d_columns_of) rfl
  have F29 := fun_mk (st := s_columns_of) l29 cc29 (He.keep_ok (c.fact 63 (f := .keep "columns_of") rfl))
  have b29 := F29.binds (ps := ["kind", "machine", "word"]) fun _ _ _ _ _ _ us hl => match us, hl with | [_, _, _], _ => rfl
  obtain ⟨oc30, od30, osl30, kV30, doc30, pm30, an30, cdv30, ct30, l30, cc30⟩ := c.def_ 30 (d := d__law_machine) rfl
  have F30 := fun_mk (st := s__law_machine) l30 cc30 (He.keep_ok (c.fact 64 (f := .keep "_law_machine") rfl))
  have b30 := F30.binds (ps := ["state", "costs", "letters", "many"]) fun _ _ _ _ _ _ us hl => match us, hl with | [_, _, _, _], _ => rfl
  obtain ⟨oc31, od31, osl31, kV31, doc31, pm31, an31, cdv31, ct31, l31, cc31⟩ := c.def_ 31 (d := d_weight) rfl
  have F31 := fun_mk (st := s_weight) l31 cc31 (He.keep_ok (c.fact 65 (f := .keep "weight") rfl))
  have b31 := F31.binds (ps := ["kind", "machine", "word"]) fun _ _ _ _ _ _ us hl => match us, hl with | [_, _, _], _ => rfl
  obtain ⟨oc32, od32, osl32, kV32, doc32, pm32, an32, cdv32, ct32, l32, cc32⟩ := c.def_ 32 (d := d_best_way) rfl
  have F32 := fun_mk (st := s_best_way) l32 cc32 (He.keep_ok (c.fact 66 (f := .keep "best_way") rfl))
  have b32 := F32.binds (ps := ["kind", "machine", "word"]) fun _ _ _ _ _ _ us hl => match us, hl with | [_, _, _], _ => rfl
  obtain ⟨oc33, od33, osl33, kV33, doc33, pm33, an33, cdv33, ct33, l33, cc33⟩ := c.def_ 33 (d := d_law) rfl
  have F33 := fun_mk (st := s_law) l33 cc33 (He.keep_ok (c.fact 67 (f := .keep "law") rfl))
  have b33 := F33.binds (ps := ["script"]) fun _ _ _ _ _ _ us hl => match us, hl with | [_], _ => rfl
  exact ⟨{
    f_column_at := _, fd_column_at := _, F_column_at := F0, g_column_at := He.glo_ok X G (c.fact 0 (f := .glo "column_at") rfl), b_column_at := b0
    f_check_word := _, fd_check_word := _, F_check_word := F1, g_check_word := He.glo_ok X G (c.fact 1 (f := .glo "check_word") rfl), b_check_word := b1
    f_table_of := _, fd_table_of := _, F_table_of := F2, g_table_of := He.glo_ok X G (c.fact 2 (f := .glo "table_of") rfl), b_table_of := b2
    f_Costs_picks := _, fd_Costs_picks := _, F_Costs_picks := F3, b_Costs_picks := b3
    cm_Costs_picks := He.meth_ok (c.fact 37 (f := .meth "Costs" "picks") rfl)
    f_Truths_picks := _, fd_Truths_picks := _, F_Truths_picks := F4, b_Truths_picks := b4
    cm_Truths_picks := He.meth_ok (c.fact 38 (f := .meth "Truths" "picks") rfl)
    f_Costs_nought := _, fd_Costs_nought := _, F_Costs_nought := F5, b_Costs_nought := b5
    cm_Costs_nought := He.meth_ok (c.fact 39 (f := .meth "Costs" "nought") rfl)
    f_Costs_one := _, fd_Costs_one := _, F_Costs_one := F6, b_Costs_one := b6
    cm_Costs_one := He.meth_ok (c.fact 40 (f := .meth "Costs" "one") rfl)
    f_Costs_plus := _, fd_Costs_plus := _, F_Costs_plus := F7, b_Costs_plus := b7
    cm_Costs_plus := He.meth_ok (c.fact 41 (f := .meth "Costs" "plus") rfl)
    f_Costs_times := _, fd_Costs_times := _, F_Costs_times := F8, b_Costs_times := b8
    cm_Costs_times := He.meth_ok (c.fact 42 (f := .meth "Costs" "times") rfl)
    f_Truths_nought := _, fd_Truths_nought := _, F_Truths_nought := F9, b_Truths_nought := b9
    cm_Truths_nought := He.meth_ok (c.fact 43 (f := .meth "Truths" "nought") rfl)
    f_Truths_one := _, fd_Truths_one := _, F_Truths_one := F10, b_Truths_one := b10
    cm_Truths_one := He.meth_ok (c.fact 44 (f := .meth "Truths" "one") rfl)
    f_Truths_plus := _, fd_Truths_plus := _, F_Truths_plus := F11, b_Truths_plus := b11
    cm_Truths_plus := He.meth_ok (c.fact 45 (f := .meth "Truths" "plus") rfl)
    f_Truths_times := _, fd_Truths_times := _, F_Truths_times := F12, b_Truths_times := b12
    cm_Truths_times := He.meth_ok (c.fact 46 (f := .meth "Truths" "times") rfl)
    f__law_next := _, fd__law_next := _, F__law_next := F13, g__law_next := He.glo_ok X G (c.fact 13 (f := .glo "_law_next") rfl), b__law_next := b13
    f__law_state := _, fd__law_state := _, F__law_state := F14, g__law_state := He.glo_ok X G (c.fact 14 (f := .glo "_law_state") rfl), b__law_state := b14
    f__law_on := _, fd__law_on := _, F__law_on := F15, g__law_on := He.glo_ok X G (c.fact 15 (f := .glo "_law_on") rfl), b__law_on := b15
    f__law_is_way := _, fd__law_is_way := _, F__law_is_way := F16, g__law_is_way := He.glo_ok X G (c.fact 16 (f := .glo "_law_is_way") rfl), b__law_is_way := b16
    f_dot := _, fd_dot := _, F_dot := F17, g_dot := He.glo_ok X G (c.fact 17 (f := .glo "dot") rfl), b_dot := b17
    f_way_weight := _, fd_way_weight := _, F_way_weight := F18, g_way_weight := He.glo_ok X G (c.fact 18 (f := .glo "way_weight") rfl), b_way_weight := b18
    f_first_good := _, fd_first_good := _, F_first_good := F19, g_first_good := He.glo_ok X G (c.fact 19 (f := .glo "first_good") rfl), b_first_good := b19
    f__law_letters := _, fd__law_letters := _, F__law_letters := F20, g__law_letters := He.glo_ok X G (c.fact 20 (f := .glo "_law_letters") rfl), b__law_letters := b20
    f__law_word := _, fd__law_word := _, F__law_word := F21, g__law_word := He.glo_ok X G (c.fact 21 (f := .glo "_law_word") rfl), b__law_word := b21
    f__law_weight := _, fd__law_weight := _, F__law_weight := F22, g__law_weight := He.glo_ok X G (c.fact 22 (f := .glo "_law_weight") rfl), b__law_weight := b22
    f__law_best_of := _, fd__law_best_of := _, F__law_best_of := F23, g__law_best_of := He.glo_ok X G (c.fact 23 (f := .glo "_law_best_of") rfl), b__law_best_of := b23
    f_row_by := _, fd_row_by := _, F_row_by := F24, g_row_by := He.glo_ok X G (c.fact 24 (f := .glo "row_by") rfl), b_row_by := b24
    f_by_column := _, fd_by_column := _, F_by_column := F25, g_by_column := He.glo_ok X G (c.fact 25 (f := .glo "by_column") rfl), b_by_column := b25
    f__law_line := _, fd__law_line := _, F__law_line := F26, g__law_line := He.glo_ok X G (c.fact 26 (f := .glo "_law_line") rfl), b__law_line := b26
    f__law_due := _, fd__law_due := _, F__law_due := F27, g__law_due := He.glo_ok X G (c.fact 27 (f := .glo "_law_due") rfl), b__law_due := b27
    f_ahead := _, fd_ahead := _, F_ahead := F28, g_ahead := He.glo_ok X G (c.fact 28 (f := .glo "ahead") rfl), b_ahead := b28
    f_columns_of := _, fd_columns_of := _, F_columns_of := F29, g_columns_of := He.glo_ok X G (c.fact 29 (f := .glo "columns_of") rfl), b_columns_of := b29
    f__law_machine := _, fd__law_machine := _, F__law_machine := F30, g__law_machine := He.glo_ok X G (c.fact 30 (f := .glo "_law_machine") rfl), b__law_machine := b30
    f_weight := _, fd_weight := _, F_weight := F31, g_weight := He.glo_ok X G (c.fact 31 (f := .glo "weight") rfl), b_weight := b31
    f_best_way := _, fd_best_way := _, F_best_way := F32, g_best_way := He.glo_ok X G (c.fact 32 (f := .glo "best_way") rfl), b_best_way := b32
    f_law := _, fd_law := _, F_law := F33, g_law := He.glo_ok X G (c.fact 33 (f := .glo "law") rfl), b_law := b33
    ca_Costs := He.ga K "Costs", cg_Costs := He.glo_ok X G (c.fact 78 (f := .glo "Costs") rfl), cc_Costs := He.cls_ok (c.fact 79 (f := .cls "Costs") rfl), cb_Costs := bareB_ok (Bool.and_eq_true_iff.mp cx).1
    ca_Truths := He.ga K "Truths", cg_Truths := He.glo_ok X G (c.fact 80 (f := .glo "Truths") rfl), cc_Truths := He.cls_ok (c.fact 81 (f := .cls "Truths") rfl), cb_Truths := bareB_ok (Bool.and_eq_true_iff.mp cx).2
    z_tuple := He.free_ok X G (c.fact 68 (f := .free "tuple") rfl)
    z_isinstance := He.free_ok X G (c.fact 69 (f := .free "isinstance") rfl)
    z_str := He.free_ok X G (c.fact 70 (f := .free "str") rfl)
    z_min := He.free_ok X G (c.fact 71 (f := .free "min") rfl)
    z_len := He.free_ok X G (c.fact 72 (f := .free "len") rfl)
    z_repr := He.free_ok X G (c.fact 73 (f := .free "repr") rfl)
    z_zip := He.free_ok X G (c.fact 74 (f := .free "zip") rfl)
    z_enumerate := He.free_ok X G (c.fact 75 (f := .free "enumerate") rfl)
    z_range := He.free_ok X G (c.fact 76 (f := .free "range") rfl)
    z_reversed := He.free_ok X G (c.fact 77 (f := .free "reversed") rfl)
  }⟩
theorem law_binds {K : PySem.W.Frag} {mg : Str → Option Value} (E : Facts K mg) : ∀ (s : Shared) (v : Value), BindsTo s E.fd_law ⟨[v], []⟩ [("script", v)] := fun s v => by
  obtain ⟨oc, od, kV, doc, pm, an, cdv, ct, osl, e, l, c⟩ := E.F_law.ex
  rw [e]
  exact .of_eq rfl
end K19
section
open PySem PySem.W PySem.Calls PySem.Spec PyProof.Rows L2 DL
theorem K19.fin (hlaw : ∀ ns : List Int, ns.length ≤ 63 → K19.g_law [.scr ns] = some (.bl true)) {w : World} {K : PySem.W.Frag} {mg : Str → Option Value} {fa : Addr} {h : Heap} (KX : K.In h) (G : h.Ns mainGlobals mg) (c : He.SaysE K19.hfa K19.hfn K) (cx : K19.hex K = true) (hmg : mg ("law" : PySem.Str) = some (.ref fa)) :
    ∃ (K : PySem.W.Frag) (fd : FuncData) (sp : L2.Sp), K.In h ∧ (∀ (s : Shared) (u : Value), BindsTo s fd ⟨[u], []⟩ [(("script" : Str), u)]) ∧
      (∀ (H : L2.Hp) (a : Addr) (ns : List Int), ns.length ≤ 63 → L2.Only H → L2.SqL K H a (ns.map L2.V.int) → sp [.ref a] H (fun v _ => v = .bl true) L2.E0) ∧
      ∀ base : Heap, K.In base → base.Ns mainGlobals mg → DL.FnG PySem.Challenge.rw_weighwalk_k19_least_best_ways.prog w K mg base 6 fa fd [("script" : Str)] sp := by
  obtain ⟨E⟩ := K19.facts KX G c cx
  obtain rfl : E.f_law = fa := Value.ref.inj (Option.some.inj (E.g_law.symm.trans hmg))
  refine ⟨K, E.fd_law, DL.spD ⟨mg, K⟩ K19.g_law, KX, K19.law_binds E, fun H a ns hl hO hS => ?_, fun base _ _ => K19.ok_law (P := PySem.Challenge.rw_weighwalk_k19_least_best_ways.prog) (w := w) E 0⟩
  exact DL.law_start hl hO hS (hlaw ns hl)
end
namespace K19
section
open PySem PySem.W PySem.Calls PyProof.Rows HandSHeadRun
abbrev Qv : PySem.Program := view R.prog [40]
abbrev dv := HandSHeadRun.topDef R.prog 40
theorem hd1 : opening R.prog = plainProg R.prog.main.scope.names := by kernel_rfl
theorem hd2 : ∀ s, fenceModules? R.prog s = some s := fun s => by kernel_rfl
theorem hd3 : defOf Qv R.name = some (dv, []) := by kernel_rfl
theorem hd4 : R.prog.theDef R.name = some (dv.params, dv.body, dv.scope) := by kernel_rfl
theorem hd5 : kwWritten? dv.params.kwonlyargs dv.params.kw_defaults = some [] := by kernel_rfl
theorem hd6 : (!R.writes || R.records.isEmpty) = true := by rfl
theorem hd7 : (chainsOk Qv && opensWell R.prog && (frees R.toRowW && R.within.isEmpty)) = true := by decide +kernel
theorem hd8 : R.prog.bare := ⟨rfl, rfl, rfl, rfl, rfl, by decide +kernel⟩
theorem hd9 : dv.name = ("law" : PySem.Str) := by kernel_rfl
theorem hd10 : dv.params.defaults = [] := by kernel_rfl
end
end K19
open PySem PySem.W PySem.Calls PyProof.Rows
theorem K19.holds_of (hlaw : ∀ ns : List Int, ns.length ≤ 63 → K19.g_law [.scr ns] = some (.bl true)) : PySem.Challenge.rw_weighwalk_k19_least_best_ways.Holds := by
  w_on; o_law
  refine HandSHeadRun.head_any (r := K19.R) (q := K19.Qv) (H := K19.hk) (ob := K19.ob) (M := 4000) (loose := K19.loose) (d := K19.dv) (kwd := []) K19.ob_eq
    K19.hd1 K19.hd2 K19.run K19.hd3 K19.hd4 K19.hd5 K19.hd6 (by first | assumption | decide +kernel) K19.hd7 K19.hd8 ?hw ?hc
  case hw => w_witness2
  case hc =>
    refine DL.walk_ofG (l := PySem.Challenge.rw_weighwalk_k19_least_best_ways) (n := 63) (k := 6) (x := "script") rfl (by decide) K19.hd10 ⟨rfl, by decide, by decide⟩ ?F
    intro w mg fa h Y G hmg0
    have Y2 : ∃ K : PySem.W.Frag, K.In h ∧ He.SaysE K19.hfa K19.hfn K ∧ K19.hex K = true := Y
    obtain ⟨K, KX, c, cx⟩ := Y2
    exact K19.fin hlaw KX G c cx ((congrArg mg K19.hd9).symm.trans hmg0)
end

section
set_option Elab.async false
set_option linter.all false
/-! Bfs: the rooms of a sure machine as they are met -/
namespace Bf
variable {S Q : Type}
theorem snocRec {P : List S → Prop} (h0 : P []) (h1 : ∀ l x, P l → P (l ++ [x])) (l : List S) : P l := by
  rw [← List.reverse_reverse l]
  induction l.reverse with
  | nil => exact h0
  | cons x r ih => rw [List.reverse_cons]; exact h1 _ _ ih
section
variable [DecidableEq S] [DecidableEq Q]
def ixd (l : List S) (x : S) : Nat := l.findIdx fun y => decide (y = x)
theorem ixd_lt {l : List S} {x : S} (h : x ∈ l) : ixd l x < l.length := List.findIdx_lt_length_of_exists ⟨x, h, by simp⟩
theorem ixd_get {l : List S} {x : S} (h : x ∈ l) : l[ixd l x]? = some x := by
  rw [List.getElem?_eq_getElem (ixd_lt h)]
  have := List.findIdx_getElem (xs := l) (p := fun y => decide (y = x)) (w := ixd_lt h)
  exact congrArg some (of_decide_eq_true this)
def exp1 (l : List S) (x : S) : List S := if x ∈ l then l else l ++ [x]
def dedup (l : List S) : List S := l.foldl exp1 []
def expd (δ : Nat → S → S) (k : Nat) (l : List S) (s : S) : List S := (List.range k).foldl (fun l a => exp1 l (δ a s)) l
def bfs (δ : Nat → S → S) (k : Nat) (s0 : S) : Nat → List S
  | 0 => [s0]
  | i + 1 => match (bfs δ k s0 i)[i]? with
    | some s => expd δ k (bfs δ k s0 i) s
    | none => bfs δ k s0 i
def rowsOf (δ : Nat → S → S) (k : Nat) (l : List S) : List (List Nat) := l.map fun s => (List.range k).map fun a => ixd l (δ a s)
theorem exp1_pre (l : List S) (x : S) : l <+: exp1 l x := by
  unfold exp1; split
  · exact List.prefix_refl _
  · exact List.prefix_append _ _
theorem mem_exp1 {l : List S} {x y : S} : y ∈ exp1 l x ↔ y ∈ l ∨ y = x := by
  unfold exp1; split
  · rename_i h
    exact ⟨.inl, fun h' => h'.elim id fun e => e ▸ h⟩
  · simp
theorem exp1_nodup {l : List S} {x : S} (h : l.Nodup) : (exp1 l x).Nodup := by
  unfold exp1; split
  · exact h
  · rename_i hx
    rw [List.nodup_append]
    exact ⟨h, by simp, fun a ha b hb e => hx (by simp at hb; rw [← hb, ← e]; exact ha)⟩
theorem foldl_exp1_pre (f : Nat → S) : ∀ (as : List Nat) (l : List S), l <+: as.foldl (fun l a => exp1 l (f a)) l
  | [], l => List.prefix_refl _
  | a :: as, l => (exp1_pre l (f a)).trans (foldl_exp1_pre f as _)
theorem foldl_exp1_nodup (f : Nat → S) : ∀ (as : List Nat) (l : List S), l.Nodup → (as.foldl (fun l a => exp1 l (f a)) l).Nodup
  | [], l, h => h
  | a :: as, l, h => foldl_exp1_nodup f as _ (exp1_nodup h)
theorem mem_foldl_exp1 (f : Nat → S) : ∀ (as : List Nat) (l : List S) (y : S), y ∈ as.foldl (fun l a => exp1 l (f a)) l ↔ y ∈ l ∨ ∃ a ∈ as, y = f a
  | [], l, y => by simp
  | a :: as, l, y => by
    rw [List.foldl_cons, mem_foldl_exp1 f as, mem_exp1]
    simp only [List.mem_cons, exists_eq_or_imp, or_assoc]
theorem expd_pre (δ : Nat → S → S) (k : Nat) (l : List S) (s : S) : l <+: expd δ k l s := foldl_exp1_pre _ _ _
theorem expd_nodup {δ : Nat → S → S} {k : Nat} {l : List S} {s : S} (h : l.Nodup) : (expd δ k l s).Nodup := foldl_exp1_nodup _ _ _ h
theorem mem_expd {δ : Nat → S → S} {k : Nat} {l : List S} {s y : S} : y ∈ expd δ k l s ↔ y ∈ l ∨ ∃ a, a < k ∧ y = δ a s := by
  unfold expd; rw [mem_foldl_exp1]; simp
section
variable {δ : Nat → S → S} {k : Nat} {s0 : S}
theorem bfs_step (i : Nat) : bfs δ k s0 i <+: bfs δ k s0 (i + 1) := by
  rw [bfs]; split
  · exact expd_pre _ _ _ _
  · exact List.prefix_refl _
theorem bfs_mono {i j : Nat} (h : i ≤ j) : bfs δ k s0 i <+: bfs δ k s0 j := by
  induction h with
  | refl => exact List.prefix_refl _
  | step _ ih => exact ih.trans (bfs_step _)
theorem bfs_nodup : ∀ i, (bfs δ k s0 i).Nodup
  | 0 => by simp [bfs]
  | i + 1 => by
    rw [bfs]; split
    · exact expd_nodup (bfs_nodup i)
    · exact bfs_nodup i
theorem bfs_pos (i : Nat) : 0 < (bfs δ k s0 i).length := by
  have := (bfs_mono (δ := δ) (k := k) (s0 := s0) (Nat.zero_le i)).length_le
  simp only [bfs, List.length_singleton] at this
  omega
theorem bfs_head (i : Nat) : (bfs δ k s0 i)[0]? = some s0 := by
  obtain ⟨t, h⟩ := bfs_mono (δ := δ) (k := k) (s0 := s0) (Nat.zero_le i)
  rw [← h]; rfl
theorem prefix_get {l m : List S} (h : l <+: m) {j : Nat} {s : S} (e : l[j]? = some s) : m[j]? = some s := by
  obtain ⟨t, rfl⟩ := h
  rw [List.getElem?_append_left (List.getElem?_eq_some_iff.mp e).1]
  exact e
/-- what is behind the first i is in it -/
theorem bfs_closed : ∀ {i j : Nat} {s : S} {a : Nat}, j < i → (bfs δ k s0 i)[j]? = some s → a < k → δ a s ∈ bfs δ k s0 i
  | i + 1, j, s, a, h, e, ha => by
    by_cases hj : j < i
    · by_cases hl : j < (bfs δ k s0 i).length
      · have e' : (bfs δ k s0 i)[j]? = some (bfs δ k s0 i)[j] := List.getElem?_eq_getElem hl
        have := prefix_get (bfs_step i) e'
        rw [this] at e
        cases e
        exact (bfs_step i).subset (bfs_closed hj e' ha)
      · rw [bfs] at e ⊢
        rw [List.getElem?_eq_none (show (bfs δ k s0 i).length ≤ i by omega)] at e ⊢
        simp only at e ⊢
        exact bfs_closed hj e ha
    · have : j = i := by omega
      subst this
      by_cases hl : j < (bfs δ k s0 j).length
      · have e' : (bfs δ k s0 j)[j]? = some (bfs δ k s0 j)[j] := List.getElem?_eq_getElem hl
        have := prefix_get (bfs_step j) e'
        rw [this] at e
        cases e
        rw [bfs, e']
        exact mem_expd.mpr (.inr ⟨a, ha, rfl⟩)
      · rw [bfs, List.getElem?_eq_none (show (bfs δ k s0 j).length ≤ j by omega)] at e
        simp only at e
        rw [List.getElem?_eq_none (show (bfs δ k s0 j).length ≤ j by omega)] at e
        cases e
theorem bfs_stop {i : Nat} (h : (bfs δ k s0 i).length ≤ i) : bfs δ k s0 (i + 1) = bfs δ k s0 i := by
  rw [bfs, List.getElem?_eq_none h]
theorem bfs_stay {i : Nat} (h : (bfs δ k s0 i).length ≤ i) : ∀ {j : Nat}, i ≤ j → bfs δ k s0 j = bfs δ k s0 i := by
  intro j hj
  induction hj with
  | refl => rfl
  | step hm ih => rw [bfs_stop (by rw [ih]; exact Nat.le_trans h hm), ih]
end
/-- l: all the rooms, as they are met -/
def Fin' (δ : Nat → S → S) (k : Nat) (s0 : S) (l : List S) : Prop := ∃ i, bfs δ k s0 i = l ∧ l.length ≤ i
section
variable {δ : Nat → S → S} {k : Nat} {s0 : S} {l : List S}
theorem Fin'.uniq {l' : List S} (h : Fin' δ k s0 l) (h' : Fin' δ k s0 l') : l = l' := by
  obtain ⟨i, rfl, hi⟩ := h
  obtain ⟨j, rfl, hj⟩ := h'
  rcases Nat.le_total i j with e | e
  · exact (bfs_stay hi e).symm
  · exact bfs_stay hj e
theorem Fin'.nodup (h : Fin' δ k s0 l) : l.Nodup := by obtain ⟨i, rfl, _⟩ := h; exact bfs_nodup i
theorem Fin'.pos (h : Fin' δ k s0 l) : 0 < l.length := by obtain ⟨i, rfl, _⟩ := h; exact bfs_pos i
theorem Fin'.head (h : Fin' δ k s0 l) : l[0]? = some s0 := by obtain ⟨i, rfl, _⟩ := h; exact bfs_head i
theorem Fin'.closed (h : Fin' δ k s0 l) {s : S} (hs : s ∈ l) {a : Nat} (ha : a < k) : δ a s ∈ l := by
  obtain ⟨i, rfl, hi⟩ := h
  obtain ⟨j, hj, e⟩ := List.mem_iff_getElem.mp hs
  exact bfs_closed (Nat.lt_of_lt_of_le hj hi) (by rw [List.getElem?_eq_getElem hj, e]) ha
theorem fin_of_le {N : Nat} (h : (bfs δ k s0 N).length ≤ N) : Fin' δ k s0 (bfs δ k s0 N) := ⟨N, rfl, h⟩
theorem Fin'.le (h : Fin' δ k s0 l) (i : Nat) : (bfs δ k s0 i).length ≤ l.length := by
  obtain ⟨j, rfl, hj⟩ := h
  rcases Nat.le_total i j with e | e
  · exact (bfs_mono e).length_le
  · rw [bfs_stay hj e]; exact Nat.le_refl _
theorem Fin'.pre (h : Fin' δ k s0 l) (i : Nat) : bfs δ k s0 i <+: l := by
  obtain ⟨j, rfl, hj⟩ := h
  rcases Nat.le_total i j with e | e
  · exact bfs_mono e
  · rw [bfs_stay hj e]; exact List.prefix_refl _
theorem bfs_inv {P : S → Prop} (h0 : P s0) (hs : ∀ s a, P s → a < k → P (δ a s)) : ∀ i, ∀ s ∈ bfs δ k s0 i, P s
  | 0, s, h => by simp [bfs] at h; rw [h]; exact h0
  | i + 1, s, h => by
    rw [bfs] at h
    split at h
    · rename_i t e
      rcases mem_expd.mp h with h | ⟨a, ha, rfl⟩
      · exact bfs_inv h0 hs i s h
      · exact hs _ _ (bfs_inv h0 hs i t (List.mem_of_getElem? e)) ha
    · exact bfs_inv h0 hs i s h
end
/-! ### first meetings -/
theorem dedup_snoc (l : List S) (x : S) : dedup (l ++ [x]) = exp1 (dedup l) x := by
  unfold dedup; rw [List.foldl_append]; rfl
theorem mem_dedup {l : List S} {x : S} : x ∈ dedup l ↔ x ∈ l := by
  induction l using snocRec with
  | h0 => simp [dedup]
  | h1 l y ih => rw [dedup_snoc, mem_exp1, ih]; simp
theorem dedup_nodup (l : List S) : (dedup l).Nodup := by
  induction l using snocRec with
  | h0 => simp [dedup]
  | h1 l y ih => rw [dedup_snoc]; exact exp1_nodup ih
theorem dedup_pre (l m : List S) : dedup l <+: dedup (l ++ m) := by
  induction m using snocRec with
  | h0 => simp
  | h1 m y ih => rw [← List.append_assoc, dedup_snoc]; exact ih.trans (exp1_pre _ _)
theorem dedup_le (l : List S) : (dedup l).length ≤ l.length := by
  induction l using snocRec with
  | h0 => simp [dedup]
  | h1 l y ih =>
    rw [dedup_snoc]; unfold exp1; split
    · simp; omega
    · simp; omega
theorem dedup_of_nodup {l : List S} (h : l.Nodup) : dedup l = l := by
  induction l using snocRec with
  | h0 => rfl
  | h1 l y ih =>
    rw [List.nodup_append] at h
    rw [dedup_snoc, ih h.1]
    unfold exp1
    rw [if_neg fun hy => h.2.2 y hy y (by simp) rfl]
theorem exp1_mem {l : List S} {x : S} (h : x ∈ l) : exp1 l x = l := by unfold exp1; rw [if_pos h]
theorem dedup_exp1 {q : S → Q} {l : List S} {x : S} : dedup ((exp1 l x).map q) = exp1 (dedup (l.map q)) (q x) := by
  unfold exp1
  split
  · rename_i h
    exact (exp1_mem (mem_dedup.mpr (List.mem_map_of_mem h))).symm
  · rw [List.map_append, List.map_singleton, dedup_snoc]; rfl
theorem dedup_expd {q : S → Q} {δ : Nat → S → S} {δQ : Nat → Q → Q} {k : Nat} {s : S} (hq : ∀ a, a < k → q (δ a s) = δQ a (q s)) (l : List S) : dedup ((expd δ k l s).map q) = expd δQ k (dedup (l.map q)) (q s) := by
  unfold expd
  have : ∀ (as : List Nat) (l : List S), (∀ a ∈ as, a < k) → dedup ((as.foldl (fun l a => exp1 l (δ a s)) l).map q) = as.foldl (fun l a => exp1 l (δQ a (q s))) (dedup (l.map q)) := by
    intro as
    induction as with
    | nil => intro l _; rfl
    | cons a as ih =>
      intro l h
      rw [List.foldl_cons, List.foldl_cons, ih _ fun b hb => h b (List.mem_cons_of_mem _ hb), dedup_exp1, hq a (h a List.mem_cons_self)]
  exact this _ l fun a ha => List.mem_range.mp ha
theorem foldl_exp1_same (f : Nat → S) : ∀ (as : List Nat) (l : List S), (∀ a ∈ as, f a ∈ l) → as.foldl (fun l a => exp1 l (f a)) l = l
  | [], l, h => rfl
  | a :: as, l, h => by rw [List.foldl_cons, exp1_mem (h a List.mem_cons_self)]; exact foldl_exp1_same f as l fun b hb => h b (List.mem_cons_of_mem _ hb)
theorem expd_same {δ : Nat → S → S} {k : Nat} {l : List S} {s : S} (h : ∀ a, a < k → δ a s ∈ l) : expd δ k l s = l := foldl_exp1_same _ _ _ fun a ha => h a (List.mem_range.mp ha)
/-- the rooms met, seen through q -/
theorem bfs_hom {q : S → Q} {δ : Nat → S → S} {δQ : Nat → Q → Q} {k : Nat} {s0 : S} (P : S → Prop) (p0 : P s0) (ps : ∀ s a, P s → a < k → P (δ a s)) (hq : ∀ s a, P s → a < k → q (δ a s) = δQ a (q s)) :
    ∀ i, dedup ((bfs δ k s0 i).map q) = bfs δQ k (q s0) (dedup (((bfs δ k s0 i).take i).map q)).length
  | 0 => by simp [bfs, dedup, exp1]
  | i + 1 => by
    have ih := bfs_hom P p0 ps hq i
    cases e : (bfs δ k s0 i)[i]? with
    | none =>
      have hl : (bfs δ k s0 i).length ≤ i := List.getElem?_eq_none_iff.mp e
      rw [bfs_stop hl, List.take_of_length_le (show (bfs δ k s0 i).length ≤ i + 1 by omega)]
      rw [List.take_of_length_le hl] at ih
      exact ih
    | some s =>
      have hi := (List.getElem?_eq_some_iff.mp e).1
      have hb : bfs δ k s0 (i + 1) = expd δ k (bfs δ k s0 i) s := by rw [bfs, e]
      have hP : P s := bfs_inv p0 ps i s (List.mem_of_getElem? e)
      have ht : (bfs δ k s0 (i + 1)).take (i + 1) = (bfs δ k s0 i).take i ++ [s] := by
        obtain ⟨t, ht⟩ := bfs_step (δ := δ) (k := k) (s0 := s0) i
        rw [← ht, List.take_append_of_le_length (by omega), List.take_add_one, e]; rfl
      rw [ht, List.map_append, List.map_singleton, dedup_snoc, hb, dedup_expd (fun a ha => hq s a hP ha)]
      by_cases hm : q s ∈ dedup (((bfs δ k s0 i).take i).map q)
      · rw [exp1_mem hm, ← ih]
        refine expd_same fun a ha => ?_
        obtain ⟨t, ht, et⟩ := List.mem_map.mp (mem_dedup.mp hm)
        obtain ⟨j, hj, ej⟩ := List.mem_iff_getElem.mp ht
        rw [List.length_take] at hj
        have e2 : (bfs δ k s0 i)[j]? = some t := by
          rw [List.getElem?_eq_getElem (by omega), ← ej]; simp
        have hPt : P t := bfs_inv p0 ps i t (List.mem_of_getElem? e2)
        rw [← et, ← hq t a hPt ha]
        exact mem_dedup.mpr (List.mem_map_of_mem (bfs_closed (by omega) e2 ha))
      · have hx : (exp1 (dedup (((bfs δ k s0 i).take i).map q)) (q s)).length = (dedup (((bfs δ k s0 i).take i).map q)).length + 1 := by
          unfold exp1; rw [if_neg hm, List.length_append]; rfl
        rw [hx, bfs, ← ih]
        have hg : (dedup ((bfs δ k s0 i).map q))[(dedup (((bfs δ k s0 i).take i).map q)).length]? = some (q s) := by
          have hsplit : (bfs δ k s0 i).map q = (((bfs δ k s0 i).take i).map q ++ [q s]) ++ ((bfs δ k s0 i).drop (i + 1)).map q := by
            have : bfs δ k s0 i = (bfs δ k s0 i).take i ++ [s] ++ (bfs δ k s0 i).drop (i + 1) := by
              have h1 : (bfs δ k s0 i).take (i + 1) = (bfs δ k s0 i).take i ++ [s] := by rw [List.take_add_one, e]; rfl
              rw [← h1, List.take_append_drop]
            conv => lhs; rw [this]
            simp
          rw [hsplit]
          refine prefix_get (dedup_pre _ _) ?_
          rw [dedup_snoc]
          unfold exp1
          rw [if_neg hm, List.getElem?_append_right (Nat.le_refl _)]
          simp
        rw [hg]
theorem Fin'.hom {q : S → Q} {δ : Nat → S → S} {δQ : Nat → Q → Q} {k : Nat} {s0 : S} {l : List S} (P : S → Prop) (p0 : P s0) (ps : ∀ s a, P s → a < k → P (δ a s)) (hq : ∀ s a, P s → a < k → q (δ a s) = δQ a (q s))
    (h : Fin' δ k s0 l) : Fin' δQ k (q s0) (dedup (l.map q)) := by
  obtain ⟨i, rfl, hi⟩ := h
  have e := bfs_hom P p0 ps hq i
  rw [List.take_of_length_le hi] at e
  exact ⟨_, e.symm, Nat.le_refl _⟩
end
end Bf
end

section
set_option Elab.async false
set_option linter.all false
set_option maxRecDepth 100000
/-! EV: the meanings F_x, worked out over data in a coded form -/
namespace DL
open PySem PySem.Spec PyProof.Rows L2
section
variable {ρ : List Slot} {i j : Nat}
@[simp] theorem ev_seq {F G : FS} : fSeq F G ρ = (match F ρ with | some (.nx ρ1) => G ρ1 | o => o) := by unfold fSeq; rfl
@[simp] theorem ev_asg {f : FE} {g : FG} : fAsg f g ρ = (match f ρ with | some (d, ρ1) => (match g d ρ1 with | some ρ2 => some (.nx ρ2) | none => none) | none => none) := by unfold fAsg; rfl
@[simp] theorem ev_q {f : FQ} : fq f ρ = (match f ρ with | some d => some (d, ρ) | none => none) := rfl
@[simp] theorem ev_var : qVar i ρ = (match ρ[i]? with | some (.val d) => some d | _ => none) := rfl
@[simp] theorem ev_peek : qPeek i ρ = (match ρ[i]? with | some (.val d) => some d | some (.box _ b) => some b.toD | _ => none) := rfl
@[simp] theorem ev_fvar : fVar i ρ = (match ρ[i]? with | some (.val d) => some (d, ρ) | some (.box false b) => some (b.toD, ρ.set i (.val b.toD)) | _ => none) := rfl
@[simp] theorem ev_c {d : D} : qC d ρ = some d := rfl
@[simp] theorem ev_qbin {g : D → D → Option D} {a b : FQ} : qBin g a b ρ = (match a ρ, b ρ with | some x, some y => g x y | _, _ => none) := rfl
@[simp] theorem ev_qun {g : D → Option D} {a : FQ} : qUn g a ρ = (match a ρ with | some x => g x | none => none) := rfl
@[simp] theorem ev_qlook {g : D → D → Option D} {a b : FQ} : qLook g a b ρ = (match a ρ, b ρ with | some x, some y => (match g x y with | some z => if scalar z = true then some z else none | none => none) | _, _ => none) := by unfold qLook; rfl
@[simp] theorem ev_qnil : qNil ρ = some [] := rfl
@[simp] theorem ev_qcons {a : FQ} {r : FQA} : qCons a r ρ = (match a ρ, r ρ with | some x, some xs => some (x :: xs) | _, _ => none) := rfl
@[simp] theorem ev_qargs {g : List D → Option D} {a : FQA} : qArgs g a ρ = (match a ρ with | some xs => g xs | none => none) := rfl
@[simp] theorem ev_fc {d : D} : fC d ρ = some (d, ρ) := rfl
@[simp] theorem ev_fnil : fNil ρ = some ([], ρ) := rfl
@[simp] theorem ev_fcons {a : FE} {r : FA} : fCons a r ρ = ((a ρ).bind fun (x, ρ1) => (r ρ1).bind fun (xs, ρ2) => some (x :: xs, ρ2)) := rfl
@[simp] theorem ev_fargs {g : List D → Option D} {a : FA} : fArgs g a ρ = ((a ρ).bind fun (x, ρ1) => (g x).bind fun z => some (z, ρ1)) := rfl
@[simp] theorem ev_fbin {g : D → D → Option D} {a b : FE} : fBin g a b ρ = ((a ρ).bind fun (x, ρ1) => (b ρ1).bind fun (y, ρ2) => (g x y).bind fun z => some (z, ρ2)) := rfl
@[simp] theorem ev_fB {f : FE} : fB f ρ = (match f ρ with | some (.bl b, ρ1) => some (b, ρ1) | _ => none) := rfl
@[simp] theorem ev_and {f g : FT} : fAnd f g ρ = (match f ρ with | some (true, ρ1) => g ρ1 | some (false, ρ1) => some (false, ρ1) | none => none) := rfl
@[simp] theorem ev_or {f g : FT} : fOr f g ρ = (match f ρ with | some (true, ρ1) => some (true, ρ1) | some (false, ρ1) => g ρ1 | none => none) := rfl
@[simp] theorem ev_not {f : FT} : fNot f ρ = (match f ρ with | some (b, ρ1) => some (!b, ρ1) | none => none) := rfl
@[simp] theorem ev_true : fTrue ρ = some (true, ρ) := rfl
@[simp] theorem ev_next : fNext ρ = some (.nx ρ) := rfl
@[simp] theorem ev_never : fNever ρ = none := rfl
@[simp] theorem ev_drop {f : FE} : fDrop f ρ = (match f ρ with | some (_, ρ1) => some (.nx ρ1) | none => none) := by unfold fDrop; rfl
@[simp] theorem ev_ret {f : FE} : fRet f ρ = (match f ρ with | some (d, ρ1) => some (.rt d ρ1) | none => none) := by unfold fRet; rfl
@[simp] theorem ev_ifS {c : FT} {F G : FS} : fIfS c F G ρ = (match c ρ with | some (true, ρ1) => F ρ1 | some (false, ρ1) => G ρ1 | none => none) := by unfold fIfS; rfl
@[simp] theorem ev_gN {d : D} : gN i d ρ = some (ρ.set i (.val d)) := rfl
@[simp] theorem ev_gs0 : gs0 [] ρ = some ρ := rfl
@[simp] theorem ev_gsC {g : FG} {gs : List D → List Slot → Option (List Slot)} {d : D} {ds : List D} : gsC g gs (d :: ds) ρ = (g d ρ).bind fun ρ1 => gs ds ρ1 := rfl
@[simp] theorem ev_gT {n : Nat} {gs : List D → List Slot → Option (List Slot)} {ds : List D} : gT n gs (.tup ds) ρ = if ds.length = n then gs ds ρ else none := rfl
@[simp] theorem ev_fpN : fpN i ρ = (match ρ[i]? with | some (.box _ b) => some ([], b) | _ => none) := rfl
@[simp] theorem ev_fpV {f : FP} : fpV f ρ = (match f ρ with | some (_, .imm d) => some d | _ => none) := rfl
@[simp] theorem ev_fpK {f : FP} : fpK f ρ = (match f ρ with | some (_, b) => some b.toD | none => none) := rfl
@[simp] theorem ev_qlook1 {g : List D → Option D} {a : FQ} : qLook1 g a ρ = (match a ρ with | some x => (match g [x] with | some z => if scalar z = true then some z else none | none => none) | none => none) := by unfold qLook1; rfl
end
end DL
end

section
set_option Elab.async false
set_option linter.all false
set_option maxRecDepth 100000
/-! EV2: codes of data; comprehensions and loops worked out -/
namespace DL
open PySem PySem.Spec PyProof.Rows L2 Bf
/-! ### codes -/
structure EncOk {α : Type} (f : α → D) (n : Nat) : Prop where
  ex : ∃ py : α → PyData, ∀ a, toPy (f a) = some (py a) ∧ (py a).canLay0 = true ∧ (py a).depth ≤ n ∧ ∀ b, PyData.eqv (py a) (py b) = true ↔ a = b
abbrev kN (n : Nat) : D := .int n
abbrev kB (b : Bool) : D := .bl b
abbrev kTu {α : Type} (f : α → D) (l : List α) : D := .tup (l.map f)
abbrev kLs {α : Type} (f : α → D) (l : List α) : D := .lst (l.map f)
abbrev kP {α β : Type} (f : α → D) (g : β → D) (p : α × β) : D := .tup [f p.1, g p.2]
section
variable {α β : Type} {f : α → D} {g : β → D} {n m : Nat}
theorem encN : EncOk kN 0 := ⟨fun a => .int a, fun a => ⟨rfl, rfl, Nat.le_refl _, fun b => by simp only [PyData.eqv, beq_iff_eq]; omega⟩⟩
theorem encB : EncOk kB 0 := ⟨fun a => .bool a, fun a => ⟨rfl, rfl, Nat.le_refl _, fun b => by simp only [PyData.eqv, beq_iff_eq]⟩⟩
theorem toPys_map {py : α → PyData} (h : ∀ a, toPy (f a) = some (py a)) : ∀ l : List α, toPys (l.map f) = some (l.map py)
  | [] => by simp [toPys]
  | a :: l => by simp [toPys, h a, toPys_map h l]
theorem lay_all {py : α → PyData} (h : ∀ a, (py a).canLay0 = true) : ∀ l : List α, PyData.canLayAll0 (l.map py) = true
  | [] => rfl
  | a :: l => by simp [PyData.canLayAll0, h a, lay_all h l]
theorem depth_all {py : α → PyData} (h : ∀ a, (py a).depth ≤ n) : ∀ l : List α, PyData.depthAll (l.map py) ≤ n
  | [] => by simp [PyData.depthAll]
  | a :: l => by simp only [List.map_cons, PyData.depthAll]; exact Nat.max_le.mpr ⟨h a, depth_all h l⟩
theorem eqv_all {py : α → PyData} (h : ∀ a b, PyData.eqv (py a) (py b) = true ↔ a = b) : ∀ l k : List α, PyData.eqvAll (l.map py) (k.map py) = true ↔ l = k
  | [], [] => by simp [PyData.eqvAll]
  | [], b :: k => by simp [PyData.eqvAll]
  | a :: l, [] => by simp [PyData.eqvAll]
  | a :: l, b :: k => by simp [PyData.eqvAll, h a b, eqv_all h l k]
theorem encTu (h : EncOk f n) : EncOk (kTu f) (n + 1) := by
  obtain ⟨py, h⟩ := h.ex
  refine ⟨fun l => .tuple (l.map py), fun l => ⟨?_, ?_, ?_, fun k => ?_⟩⟩
  · simp only [toPy, toPys_map fun a => (h a).1]; rfl
  · simp only [PyData.canLay0]; exact lay_all (fun a => (h a).2.1) l
  · simp only [PyData.depth]; exact Nat.succ_le_succ (depth_all (fun a => (h a).2.2.1) l)
  · simp only [PyData.eqv]; exact eqv_all (fun a b => (h a).2.2.2 b) l k
theorem encLs (h : EncOk f n) : EncOk (kLs f) (n + 1) := by
  obtain ⟨py, h⟩ := h.ex
  refine ⟨fun l => .list (l.map py), fun l => ⟨?_, ?_, ?_, fun k => ?_⟩⟩
  · simp only [toPy, toPys_map fun a => (h a).1]; rfl
  · simp only [PyData.canLay0]; exact lay_all (fun a => (h a).2.1) l
  · simp only [PyData.depth]; exact Nat.succ_le_succ (depth_all (fun a => (h a).2.2.1) l)
  · simp only [PyData.eqv]; exact eqv_all (fun a b => (h a).2.2.2 b) l k
theorem EncOk.mono (h : EncOk f n) (hm : n ≤ m) : EncOk f m := by
  obtain ⟨py, h⟩ := h.ex
  exact ⟨py, fun a => ⟨(h a).1, (h a).2.1, Nat.le_trans (h a).2.2.1 hm, (h a).2.2.2⟩⟩
theorem encP (hf : EncOk f n) (hg : EncOk g n) : EncOk (kP f g) (n + 1) := by
  obtain ⟨py, h⟩ := hf.ex
  obtain ⟨pz, h'⟩ := hg.ex
  refine ⟨fun p => .tuple [py p.1, pz p.2], fun p => ⟨?_, ?_, ?_, fun k => ?_⟩⟩
  · simp only [toPy, toPys, (h p.1).1, (h' p.2).1]; rfl
  · simp only [PyData.canLay0, PyData.canLayAll0, (h p.1).2.1, (h' p.2).2.1]; rfl
  · simp only [PyData.depth, PyData.depthAll]
    have := (h p.1).2.2.1; have := (h' p.2).2.2.1
    omega
  · simp only [PyData.eqv, PyData.eqvAll, Bool.and_eq_true, (h p.1).2.2.2, (h' p.2).2.2.2, and_true]
    exact Prod.ext_iff.symm
theorem dEqB_enc [DecidableEq α] (h : EncOk f n) (hn : n ≤ 64) (a b : α) : dEqB (f a) (f b) = some (decide (a = b)) := by
  obtain ⟨py, h⟩ := h.ex
  unfold dEqB SeqAt.shaped
  simp only [(h a).1, (h b).1, (h a).2.1, (h b).2.1, decide_eq_true (Nat.le_trans (h a).2.2.1 hn), decide_eq_true (Nat.le_trans (h b).2.2.1 hn), Bool.and_self, and_self, if_true]
  congr 1
  rw [Bool.eq_iff_iff, (h a).2.2.2 b, decide_eq_true_iff]
theorem dEq_enc [DecidableEq α] (h : EncOk f n) (hn : n ≤ 64) (a b : α) : dEq (f a) (f b) = some (.bl (decide (a = b))) := by unfold dEq; rw [dEqB_enc h hn]
theorem dNe_enc [DecidableEq α] (h : EncOk f n) (hn : n ≤ 64) (a b : α) : dNe (f a) (f b) = some (.bl (!decide (a = b))) := by unfold dNe; rw [dEqB_enc h hn]
theorem shaped_enc {py : α → PyData} (h : ∀ a, toPy (f a) = some (py a) ∧ (py a).canLay0 = true ∧ (py a).depth ≤ n ∧ ∀ b, PyData.eqv (py a) (py b) = true ↔ a = b) (hn : n + 1 ≤ 64) (l : List α) : SeqAt.shaped (.list (l.map py)) = true := by
  unfold SeqAt.shaped
  simp only [PyData.canLay0, PyData.depth, lay_all (fun a => (h a).2.1) l, Bool.true_and]
  exact decide_eq_true (Nat.le_trans (Nat.succ_le_succ (depth_all (fun a => (h a).2.2.1) l)) hn)
theorem dIn_enc [DecidableEq α] (h : EncOk f n) (hn : n + 1 ≤ 64) (a : α) (l : List α) : dIn (f a) (.lst (l.map f)) = some (.bl (decide (a ∈ l))) := by
  obtain ⟨py, h⟩ := h.ex
  have h1 : SeqAt.shaped (py a) = true := by unfold SeqAt.shaped; simp only [(h a).2.1, Bool.true_and]; exact decide_eq_true (by have := (h a).2.2.1; omega)
  have h2 : toPy (.lst (l.map f)) = some (.list (l.map py)) := by simp only [toPy, toPys_map fun a => (h a).1]; rfl
  unfold dIn
  simp only [(h a).1, h2, h1, shaped_enc h hn l, and_self, if_true]
  congr 2
  rw [Bool.eq_iff_iff, decide_eq_true_iff, List.any_eq_true]
  constructor
  · rintro ⟨x, hx, e⟩
    obtain ⟨b, hb, rfl⟩ := List.mem_map.mp hx
    rw [← ((h b).2.2.2 a).mp e]; exact hb
  · intro ha
    exact ⟨_, List.mem_map_of_mem ha, ((h a).2.2.2 a).mpr rfl⟩
theorem dNotIn_enc [DecidableEq α] (h : EncOk f n) (hn : n + 1 ≤ 64) (a : α) (l : List α) : dNotIn (f a) (.lst (l.map f)) = some (.bl (!decide (a ∈ l))) := by
  have q := dIn_enc h hn a l
  unfold dIn at q
  unfold dNotIn
  split at q
  · split at q
    · rename_i e
      rw [if_pos e]
      simp only [Option.some.injEq, D.bl.injEq] at q
      rw [q]
    · cases q
  · cases q
theorem dNotIn_t [DecidableEq α] (h : EncOk f n) (hn : n + 1 ≤ 64) {a : α} {l : List α} (ha : a ∉ l) : dNotIn (f a) (.lst (l.map f)) = some (.bl true) := by rw [dNotIn_enc h hn, decide_eq_false ha]; rfl
theorem dNotIn_f [DecidableEq α] (h : EncOk f n) (hn : n + 1 ≤ 64) {a : α} {l : List α} (ha : a ∈ l) : dNotIn (f a) (.lst (l.map f)) = some (.bl false) := by rw [dNotIn_enc h hn, decide_eq_true ha]; rfl
theorem dIndex_enc [DecidableEq α] (h : EncOk f n) (hn : n + 1 ≤ 64) {a : α} {l : List α} (ha : a ∈ l) : dIndex (.lst (l.map f)) (f a) = some (.int (ixd l a)) := by
  obtain ⟨py, h⟩ := h.ex
  have h1 : SeqAt.shaped (py a) = true := by unfold SeqAt.shaped; simp only [(h a).2.1, Bool.true_and]; exact decide_eq_true (by have := (h a).2.2.1; omega)
  have h2 : toPy (.lst (l.map f)) = some (.list (l.map py)) := by simp only [toPy, toPys_map fun a => (h a).1]; rfl
  unfold dIndex
  simp only [(h a).1, h2, h1, shaped_enc h hn l, and_self, if_true]
  have e : (l.map py).findIdx? (fun z => PyData.eqv z (py a)) = some (ixd l a) := by
    rw [List.findIdx?_map]
    have : ((fun z => PyData.eqv z (py a)) ∘ py) = fun y => decide (y = a) := by
      funext b
      rw [Bool.eq_iff_iff, decide_eq_true_iff]
      exact (h b).2.2.2 a
    rw [this, List.findIdx?_eq_some_iff_findIdx_eq]
    exact ⟨ixd_lt ha, rfl⟩
  rw [e]
theorem atI_nat {l : List α} {i : Nat} {x : α} (h : l[i]? = some x) : atI l (i : Int) = some x := by
  have hi := (List.getElem?_eq_some_iff.mp h).1
  unfold atI ixN
  rw [if_pos (Int.natCast_nonneg i), if_pos (by omega)]
  simpa using h
theorem dIx_tup {l : List α} {i : Nat} {x : α} (h : l[i]? = some x) : dIx (.tup (l.map f)) (.int i) = some (f x) := by
  unfold dIx
  exact atI_nat (by rw [List.getElem?_map, h]; rfl)
theorem dIx_lst {l : List α} {i : Nat} {x : α} (h : l[i]? = some x) : dIx (.lst (l.map f)) (.int i) = some (f x) := by
  unfold dIx
  exact atI_nat (by rw [List.getElem?_map, h]; rfl)
theorem dIx_tup' {l : List D} {i : Nat} {x : D} (h : l[i]? = some x) : dIx (.tup l) (.int i) = some x := by unfold dIx; exact atI_nat h
theorem dIx_lst' {l : List D} {i : Nat} {x : D} (h : l[i]? = some x) : dIx (.lst l) (.int i) = some x := by unfold dIx; exact atI_nat h
@[simp] theorem dIx_t0 {a : D} {l : List D} : dIx (.tup (a :: l)) (.int 0) = some a := dIx_tup' (i := 0) rfl
@[simp] theorem dIx_t1 {a b : D} {l : List D} : dIx (.tup (a :: b :: l)) (.int 1) = some b := dIx_tup' (i := 1) rfl
@[simp] theorem dIx_t2 {a b c : D} {l : List D} : dIx (.tup (a :: b :: c :: l)) (.int 2) = some c := dIx_tup' (i := 2) rfl
@[simp] theorem dIx_t3 {a b c d : D} {l : List D} : dIx (.tup (a :: b :: c :: d :: l)) (.int 3) = some d := dIx_tup' (i := 3) rfl
@[simp] theorem dLen_t {l : List D} : dLen [.tup l] = some (.int l.length) := rfl
@[simp] theorem dLen_l {l : List D} : dLen [.lst l] = some (.int l.length) := rfl
@[simp] theorem dTuple_l {l : List D} : dTuple [.lst l] = some (.tup l) := rfl
@[simp] theorem dTuple_t {l : List D} : dTuple [.tup l] = some (.tup l) := rfl
theorem bools_map {p : α → Bool} : ∀ l : List α, bools (l.map fun a => .bl (p a)) = some (l.map p)
  | [] => rfl
  | a :: l => by simp [bools, bools_map l]
theorem dAny_map {p : α → Bool} (l : List α) : dAny [.lst (l.map fun a => .bl (p a))] = some (.bl (l.any p)) := by
  simp only [dAny, bools_map, Option.map_some, List.any_map]; rfl
theorem dAll_map {p : α → Bool} (l : List α) : dAll [.lst (l.map fun a => .bl (p a))] = some (.bl (l.all p)) := by
  simp only [dAll, bools_map, Option.map_some, List.all_map]; rfl
end
/-! ### steps -/
section
variable {ρ ρ1 ρ2 : List Slot} {i j : Nat}
theorem seq_ev {F G : FS} {o : Out} (h1 : F ρ = some (.nx ρ1)) (h2 : G ρ1 = some o) : fSeq F G ρ = some o := by rw [ev_seq, h1]; exact h2
theorem seq_rt {F G : FS} {d : D} (h1 : F ρ = some (.rt d ρ1)) : fSeq F G ρ = some (.rt d ρ1) := by rw [ev_seq, h1]
theorem asg_ev {f : FE} {g : FG} {d : D} (h1 : f ρ = some (d, ρ1)) (h2 : g d ρ1 = some ρ2) : fAsg f g ρ = some (.nx ρ2) := by rw [ev_asg, h1]; simp only [h2]
theorem ret_ev {f : FE} {d : D} (h1 : f ρ = some (d, ρ1)) : fRet f ρ = some (.rt d ρ1) := by rw [ev_ret, h1]
theorem drop_ev {f : FE} {d : D} (h1 : f ρ = some (d, ρ1)) : fDrop f ρ = some (.nx ρ1) := by rw [ev_drop, h1]
theorem q_ev {f : FQ} {d : D} (h : f ρ = some d) : fq f ρ = some (d, ρ) := by rw [ev_q, h]
theorem args_ev {g : List D → Option D} {a : FA} {ds : List D} {d : D} (h : a ρ = some (ds, ρ1)) (h2 : g ds = some d) : fArgs g a ρ = some (d, ρ1) := by rw [ev_fargs, h]; simp [h2]
theorem cons_ev {a : FE} {r : FA} {d : D} {ds : List D} (h : a ρ = some (d, ρ1)) (h2 : r ρ1 = some (ds, ρ2)) : fCons a r ρ = some (d :: ds, ρ2) := by rw [ev_fcons, h]; simp [h2]
theorem nil_ev : fNil ρ = some ([], ρ) := rfl
theorem bin_ev {g : D → D → Option D} {a b : FE} {x y z : D} (h : a ρ = some (x, ρ1)) (h2 : b ρ1 = some (y, ρ2)) (h3 : g x y = some z) : fBin g a b ρ = some (z, ρ2) := by rw [ev_fbin, h]; simp [h2, h3]
theorem if_t {c : FT} {F G : FS} {o : Out} (h : c ρ = some (true, ρ1)) (h2 : F ρ1 = some o) : fIfS c F G ρ = some o := by rw [ev_ifS, h]; exact h2
theorem if_f {c : FT} {F G : FS} {o : Out} (h : c ρ = some (false, ρ1)) (h2 : G ρ1 = some o) : fIfS c F G ρ = some o := by rw [ev_ifS, h]; exact h2
theorem b_ev {f : FE} {b : Bool} (h : f ρ = some (.bl b, ρ1)) : fB f ρ = some (b, ρ1) := by rw [ev_fB, h]
theorem qlook_ev {g : D → D → Option D} {a b : FQ} {x y z : D} (h1 : a ρ = some x) (h2 : b ρ = some y) (h3 : g x y = some z) (h4 : scalar z = true := by rfl) : qLook g a b ρ = some z := by rw [ev_qlook, h1, h2]; simp [h3, h4]
theorem qbin_ev {g : D → D → Option D} {a b : FQ} {x y z : D} (h1 : a ρ = some x) (h2 : b ρ = some y) (h3 : g x y = some z) : qBin g a b ρ = some z := by rw [ev_qbin, h1, h2]; exact h3
theorem qargs_ev {g : List D → Option D} {a : FQA} {ds : List D} {d : D} (h : a ρ = some ds) (h2 : g ds = some d) : qArgs g a ρ = some d := by rw [ev_qargs, h]; exact h2
theorem qcons_ev {a : FQ} {r : FQA} {d : D} {ds : List D} (h : a ρ = some d) (h2 : r ρ = some ds) : qCons a r ρ = some (d :: ds) := by rw [ev_qcons, h, h2]
theorem fnD_ev {n m : Nat} {F : FS} {ds : List D} {d : D} (hm : ds.length = m) (h : F (ds.map .val ++ List.replicate (n - m) .un) = some (.rt d ρ1)) : fnD n m F ds = some d := by unfold fnD; rw [if_pos hm, h]
theorem fnD_ex {n m : Nat} {F : FS} {ds : List D} {d : D} (hm : ds.length = m) (h : ∃ ρ1, F (ds.map .val ++ List.replicate (n - m) .un) = some (.rt d ρ1)) : fnD n m F ds = some d := by obtain ⟨ρ1, h⟩ := h; exact fnD_ev hm h
/-! ### ranges -/
theorem range_ev {q : FE} {n : Nat} (h : q ρ = some (.int (n : Int), ρ1)) (hn : n < 2 ^ 62) : fRange (fCons q fNil) ρ = some ((List.range n).map kN, ρ1) := by
  unfold fRange
  rw [cons_ev h nil_ev]
  simp only
  rw [if_pos ⟨by omega, by omega⟩]
  simp [rangeD, kN]
theorem iter_tup {f : FE} {ds : List D} (h : f ρ = some (.tup ds, ρ1)) : fIter f ρ = some (ds, ρ1) := by unfold fIter; rw [h]; rfl
theorem iter_lst {f : FE} {ds : List D} (h : f ρ = some (.lst ds, ρ1)) : fIter f ρ = some (ds, ρ1) := by unfold fIter; rw [h]; rfl
theorem enumD_map {α : Type} (f : α → D) : ∀ (n : Nat) (l : List α), enumD n (l.map f) = (l.zipIdx n).map fun p => .tup [.int (p.2 : Nat), f p.1]
  | n, [] => rfl
  | n, a :: l => by simp [enumD, enumD_map f (n + 1) l]
theorem enum_tup {α : Type} {k : α → D} {f : FE} {l : List α} (h : f ρ = some (.tup (l.map k), ρ1)) : fEnum (fCons f fNil) ρ = some (l.zipIdx.map (fun p => .tup [.int (p.2 : Nat), k p.1]), ρ1) := by
  unfold fEnum; rw [cons_ev h nil_ev]; simp only [items]; rw [enumD_map]
theorem enum_lst {α : Type} {k : α → D} {f : FE} {l : List α} (h : f ρ = some (.lst (l.map k), ρ1)) : fEnum (fCons f fNil) ρ = some (l.zipIdx.map (fun p => .tup [.int (p.2 : Nat), k p.1]), ρ1) := by
  unfold fEnum; rw [cons_ev h nil_ev]; simp only [items]; rw [enumD_map]
theorem enum_str {f : FE} {x : Str} (h : f ρ = some (.str x, ρ1)) : fEnum (fCons f fNil) ρ = some ((signs x).zipIdx.map (fun p => .tup [.int (p.2 : Nat), .str p.1]), ρ1) := by
  unfold fEnum; rw [cons_ev h nil_ev]; simp only [items]; rw [enumD_map]
/-! ### comprehensions -/
theorem lcGo_ev {α : Type} {g : FG} {c : FT} {e : FE} {vs : List Nat} (k : α → D) (p : α → Bool) (y : α → D) (ρw : List Slot) : ∀ (xs : List α),
    (∀ a ∈ xs, ∃ ρa, g (k a) ρw = some ρa ∧ ∃ ρb, c ρa = some (p a, ρb) ∧ (p a = false → wip ρb vs = ρw) ∧ (p a = true → ∃ ρc, e ρb = some (y a, ρc) ∧ wip ρc vs = ρw)) →
    lcGo g c e vs (xs.map k) ρw = some ((xs.filter p).map y, ρw)
  | [], _ => rfl
  | a :: xs, h => by
    obtain ⟨ρa, h1, ρb, h2, h3, h4⟩ := h a List.mem_cons_self
    have ih := lcGo_ev k p y ρw xs fun b hb => h b (List.mem_cons_of_mem _ hb)
    rw [List.map_cons, lcGo, h1]
    simp only [h2]
    cases hp : p a with
    | true =>
      obtain ⟨ρc, h5, h6⟩ := h4 hp
      simp only [h5, h6, ih, List.filter_cons, hp, if_true, List.map_cons]
    | false => simp only [h3 hp, ih, List.filter_cons, hp]; rfl
theorem lc_ev {α : Type} {f : FI} {g : FG} {c : FT} {e : FE} {vs : List Nat} (xs : List α) (k : α → D) (p : α → Bool) (y : α → D) (hf : f ρ = some (xs.map k, ρ1)) (hb : noBox ρ1 vs = true) (hl : xs.length ≤ sizeLine)
    (h : ∀ a ∈ xs, ∃ ρa, g (k a) (wip ρ1 vs) = some ρa ∧ ∃ ρb, c ρa = some (p a, ρb) ∧ (p a = false → wip ρb vs = wip ρ1 vs) ∧ (p a = true → ∃ ρc, e ρb = some (y a, ρc) ∧ wip ρc vs = wip ρ1 vs)) :
    fLc f g vs c e ρ = some (.lst ((xs.filter p).map y), unwip ρ1 (wip ρ1 vs) vs) := by
  unfold fLc fLcL
  rw [hf]
  simp only [List.length_map]
  rw [if_pos ⟨hb, hl⟩, lcGo_ev k p y _ xs h]
theorem lc_map {α : Type} {f : FI} {g : FG} {e : FE} {vs : List Nat} (xs : List α) (k : α → D) (y : α → D) (hf : f ρ = some (xs.map k, ρ1)) (hb : noBox ρ1 vs = true) (hl : xs.length ≤ sizeLine)
    (h : ∀ a ∈ xs, ∃ ρa, g (k a) (wip ρ1 vs) = some ρa ∧ ∃ ρc, e ρa = some (y a, ρc) ∧ wip ρc vs = wip ρ1 vs) :
    fLc f g vs fTrue e ρ = some (.lst (xs.map y), unwip ρ1 (wip ρ1 vs) vs) := by
  have := lc_ev (c := fTrue) xs k (fun _ => true) y hf hb hl fun a ha => by
    obtain ⟨ρa, h1, ρc, h2, h3⟩ := h a ha
    exact ⟨ρa, h1, ρa, rfl, fun z => (nomatch z), fun _ => ⟨ρc, h2, h3⟩⟩
  rwa [show xs.filter (fun _ => true) = xs from List.filter_eq_self.mpr fun _ _ => rfl] at this
/-! ### for, while -/
theorem for_ev {α : Type} {f : FI} {g : FG} {F : FS} (xs : List α) (k : α → D) (Inv : List α → List Slot → Prop) (hf : f ρ = some (xs.map k, ρ1)) (h0 : Inv [] ρ1)
    (h : ∀ pre x post ρ, xs = pre ++ x :: post → Inv pre ρ → ∃ ρ1 ρ2, g (k x) ρ = some ρ1 ∧ F ρ1 = some (.nx ρ2) ∧ Inv (pre ++ [x]) ρ2) : ∃ ρ', fFor f g F ρ = some (.nx ρ') ∧ Inv xs ρ' := by
  unfold fFor
  rw [hf]
  simp only
  have go : ∀ (post pre : List α) (ρ : List Slot), xs = pre ++ post → Inv pre ρ → ∃ ρ', forGo g F (post.map k) ρ = some (.nx ρ') ∧ Inv xs ρ' := by
    intro post
    induction post with
    | nil => intro pre ρ e I; rw [List.append_nil] at e; exact ⟨ρ, rfl, e ▸ I⟩
    | cons x post ih =>
      intro pre ρ e I
      obtain ⟨ρ1, ρ2, h1, h2, h3⟩ := h pre x post ρ e I
      obtain ⟨ρ', h4, h5⟩ := ih (pre ++ [x]) ρ2 (by rw [e]; simp) h3
      refine ⟨ρ', ?_, h5⟩
      rw [List.map_cons]
      simp only [forGo, h1, h2]
      exact h4
  exact go xs [] ρ1 rfl h0
/-- a loop: at each turn the test fails, or the body goes on with less to do, or it hands something back -/
theorem while_ev {c : FT} {F : FS} (Inv : Nat → List Slot → Prop) (Post : Out → Prop)
    (h : ∀ n ρ, Inv n ρ → (∃ ρ', c ρ = some (false, ρ') ∧ Post (.nx ρ')) ∨ ∃ ρ1, c ρ = some (true, ρ1) ∧ ((∃ ρ2 m, F ρ1 = some (.nx ρ2) ∧ m < n ∧ Inv m ρ2) ∨ ∃ d ρ2, F ρ1 = some (.rt d ρ2) ∧ Post (.rt d ρ2))) :
    ∀ n ρ, Inv n ρ → ∃ o, fWhile c F ρ = some o ∧ Post o := by
  intro n
  induction n using Nat.strongRecOn with
  | ind n ih =>
    intro ρ I
    rcases h n ρ I with ⟨ρ', h1, h2⟩ | ⟨ρ1, h1, ⟨ρ2, m, h2, h3, h4⟩ | ⟨d, ρ2, h2, h3⟩⟩
    · exact ⟨_, fWhile_false h1, h2⟩
    · obtain ⟨o, h5, h6⟩ := ih m h3 ρ2 h4
      exact ⟨o, fWhile_nx h1 h2 h5, h6⟩
    · exact ⟨_, fWhile_rt h1 h2, h3⟩
/-! ### lists to be changed -/
abbrev bx {α : Type} (f : α → D) (l : List α) : B := .own (l.map fun a => .imm (f a))
theorem bx_toD {α : Type} (f : α → D) (l : List α) : (bx f l).toD = .lst (l.map f) := by
  unfold bx
  simp only [B.toD, toDs_map, List.map_map]
  congr 1
theorem peek_ev {α : Type} {f : α → D} {l : List α} {o : Bool} (h : ρ[i]? = some (.box o (bx f l))) : qPeek i ρ = some (.lst (l.map f)) := by rw [ev_peek, h, ← bx_toD]
theorem thaw_ev {α : Type} {f : α → D} {l : List α} (h : ρ[i]? = some (.box false (bx f l))) : fVar i ρ = some (.lst (l.map f), ρ.set i (.val (.lst (l.map f)))) := by rw [ev_fvar, h, ← bx_toD]
theorem len_ev {α : Type} {f : α → D} {l : List α} {o : Bool} (h : ρ[i]? = some (.box o (bx f l))) : qLook1 dLen (qPeek i) ρ = some (.int l.length) := by
  rw [ev_qlook1, peek_ev h]; simp only [dLen_l, List.length_map]; rfl
theorem app_ev {α : Type} {f : α → D} {l : List α} {a : α} {o : Bool} {fa : FQA} (h : ρ[i]? = some (.box o (bx f l))) (ha : fa ρ = some [f a]) (hl : l.length < sizeLine) : fChg i (fpN i) fa chApp ρ = some (.non, ρ.set i (.box o (bx f (l ++ [a])))) := by
  unfold fChg
  simp only [ev_fpN, h, ha, chApp, List.length_map, hl, if_true, setB, List.reverse_nil, putB, bx, List.map_append, List.map_cons, List.map_nil]
theorem appN_ev {α : Type} {f : α → D} {l : List α} {a : α} {o : Bool} {fa : FA} (h0 : ∃ o b, ρ[i]? = some (.box o (.own b))) (ha : fa ρ = some ([f a], ρ1)) (h : ρ1[i]? = some (.box o (bx f l))) (hl : l.length < sizeLine) : fChgN i fa chApp ρ = some (.non, ρ1.set i (.box o (bx f (l ++ [a])))) := by
  obtain ⟨o0, b0, h0⟩ := h0
  unfold fChgN
  rw [h0]
  simp only [ha]
  exact app_ev h rfl hl
theorem place_ev {α : Type} {f : α → D} {l : List α} {o : Bool} {q : FQ} {n : Nat} {a : α} (h : ρ[i]? = some (.box o (bx f l))) (hq : q ρ = some (.int n)) (ha : l[n]? = some a) : fpV (fpIx (fpN i) q) ρ = some (f a) := by
  have hn := (List.getElem?_eq_some_iff.mp ha).1
  unfold fpV fpIx
  simp only [ev_fpN, h, hq, List.length_map, ixN, Int.natCast_nonneg, if_true, Int.ofNat_lt, hn, Int.toNat_natCast, List.getElem?_map, ha, Option.map_some]
end
end DL
end

section
set_option Elab.async false
set_option linter.all false
set_option maxRecDepth 100000
set_option maxHeartbeats 4000000
/-! EV3: more evaluation lemmas -/
namespace DL
open PySem PySem.Spec PyProof.Rows L2 Bf
theorem encI : EncOk D.int 0 := ⟨fun a => .int a, fun a => ⟨rfl, rfl, Nat.le_refl _, fun b => by simp only [PyData.eqv, beq_iff_eq]⟩⟩
theorem imms_mp {α : Type} (f : α → D) : ∀ l : List α, imms (l.map fun a => .imm (f a)) = some (l.map f)
  | [] => rfl
  | a :: l => by simp [imms, imms_mp f l]
theorem log_small {n : Nat} (h : n < 2 ^ 70) : n.log2 < 70 := by
  by_cases h0 : n = 0
  · subst h0; decide
  · exact (Nat.log2_lt h0).mpr h
theorem mul_ev {i j : Int} (hi : i.natAbs < 2 ^ 70) (hj : j.natAbs < 2 ^ 70) : dMulI (.int i) (.int j) = some (.int (i * j)) := by
  simp only [dMulI, dInt]
  rw [if_pos (by have := log_small hi; have := log_small hj; omega)]
theorem mod_ev {i j : Int} (hj : 0 < j) : dMod (.int i) (.int j) = some (.int (i % j)) := by simp only [dMod, dInt]; rw [if_pos hj]
theorem div_ev {i j : Int} (hj : 0 < j) (hj2 : j < 2 ^ 70) : dDiv (.int i) (.int j) = some (.int (i / j)) := by
  simp only [dDiv, dInt]
  rw [if_pos ⟨hj, by have := log_small (n := j.natAbs) (by omega); omega⟩]
theorem add_ev {i j : Int} : dAdd (.int i) (.int j) = some (.int (i + j)) := rfl
theorem sub_ev {i j : Int} : dSub (.int i) (.int j) = some (.int (i - j)) := rfl
theorem sz {n : Nat} (h : n ≤ 1000) : n ≤ sizeLine := Nat.le_trans h (by decide)
theorem szr {n : Nat} (h : n ≤ 1000) : (List.range n).length ≤ sizeLine := by rw [List.length_range]; exact sz h
section
variable {α : Type} {f : α → D} {n : Nat}
theorem dNotInX_t [DecidableEq α] (h : EncOk f n) (hn : n + 1 ≤ 64) {a : α} {l : List α} (ha : a ∉ l) : dNotInX (f a) (.lst (l.map f)) = some (.bl true) := dNotIn_t h hn ha
theorem dNotInX_f [DecidableEq α] (h : EncOk f n) (hn : n + 1 ≤ 64) {a : α} {l : List α} (ha : a ∈ l) : dNotInX (f a) (.lst (l.map f)) = some (.bl false) := dNotIn_f h hn ha
theorem dInX_enc [DecidableEq α] (h : EncOk f n) (hn : n + 1 ≤ 64) (a : α) (l : List α) : dInX (f a) (.lst (l.map f)) = some (.bl (decide (a ∈ l))) := dIn_enc h hn a l
end
section
variable {ρ ρ1 ρ2 : List Slot} {i : Nat}
theorem and_ev {f g : FT} {b : Bool} (h : f ρ = some (true, ρ1)) (h2 : g ρ1 = some (b, ρ2)) : fAnd f g ρ = some (b, ρ2) := by rw [ev_and, h]; exact h2
theorem and_f {f g : FT} (h : f ρ = some (false, ρ1)) : fAnd f g ρ = some (false, ρ1) := by rw [ev_and, h]
theorem or_ev {f g : FT} {b : Bool} (h : f ρ = some (false, ρ1)) (h2 : g ρ1 = some (b, ρ2)) : fOr f g ρ = some (b, ρ2) := by rw [ev_or, h]; exact h2
theorem or_t {f g : FT} (h : f ρ = some (true, ρ1)) : fOr f g ρ = some (true, ρ1) := by rw [ev_or, h]
theorem not_ev {f : FT} {b : Bool} (h : f ρ = some (b, ρ1)) : fNot f ρ = some (!b, ρ1) := by rw [ev_not, h]
theorem lt_ev {a b : Int} : dLt (.int a) (.int b) = some (.bl (decide (a < b))) := rfl
theorem gt_ev {a b : Int} : dGt (.int a) (.int b) = some (.bl (decide (b < a))) := rfl
theorem ge_ev {a b : Int} : dGe (.int a) (.int b) = some (.bl (decide (b ≤ a))) := rfl
theorem le_ev {a b : Int} : dLe (.int a) (.int b) = some (.bl (decide (a ≤ b))) := rfl
theorem eqI_ev {a b : Int} : dEq (.int a) (.int b) = some (.bl (decide (a = b))) := dEq_enc encI (by decide) a b
theorem neI_ev {a b : Int} : dNe (.int a) (.int b) = some (.bl (!decide (a = b))) := dNe_enc encI (by decide) a b
theorem seq_ex {F G : FS} {c : Str} (h1 : F ρ = some (.ex c ρ1)) : fSeq F G ρ = some (.ex c ρ1) := by rw [ev_seq, h1]
theorem ix_ev {f : FP} {q : FQ} {p : List Nat} {bs : List B} {n : Nat} {b : B} (h : f ρ = some (p, .own bs)) (hq : q ρ = some (.int n)) (hb : bs[n]? = some b) : fpIx f q ρ = some (n :: p, b) := by
  have hn := (List.getElem?_eq_some_iff.mp hb).1
  unfold fpIx
  simp only [h, hq, ixN, Int.natCast_nonneg, if_true, Int.ofNat_lt, hn, Int.toNat_natCast, hb]
theorem io1_ev {g : List Slot → Option (D × List Slot)} {fe : FE} {o : Bool} {b b' : B} {d r : D} (h : ρ[i]? = some (.box o b)) (hb : b.isBox = true) (he : fe ρ = some (d, ρ)) (hg : g [.box true b, .val d] = some (r, [.box true b', .val d])) :
    fIO g (akS i (akV fe akNil)) ρ = some (r, ρ.set i (.box o b')) := by
  unfold fIO akS akV akNil
  simp only [h, he, slotsOf, argSlots, hb, if_true, Option.map_some, hg, putBack, List.nodup_cons, List.not_mem_nil, not_false_eq_true, List.nodup_nil, and_self]
theorem io3_ev {g : List Slot → Option (D × List Slot)} {fe fe2 fe3 : FE} {o : Bool} {b b' : B} {d d2 d3 r : D} (h : ρ[i]? = some (.box o b)) (hb : b.isBox = true) (he : fe ρ = some (d, ρ)) (he2 : fe2 ρ = some (d2, ρ)) (he3 : fe3 ρ = some (d3, ρ))
    (hg : g [.box true b, .val d, .val d2, .val d3] = some (r, [.box true b', .val d, .val d2, .val d3])) : fIO g (akS i (akV fe (akV fe2 (akV fe3 akNil)))) ρ = some (r, ρ.set i (.box o b')) := by
  unfold fIO akS akV akNil
  simp only [h, he, he2, he3, slotsOf, argSlots, hb, if_true, Option.map_some, hg, putBack, List.nodup_cons, List.not_mem_nil, not_false_eq_true, List.nodup_nil, and_self]
theorem io0_ev {g : List Slot → Option (D × List Slot)} {o : Bool} {b b' : B} {r : D} (h : ρ[i]? = some (.box o b)) (hb : b.isBox = true) (hg : g [.box true b] = some (r, [.box true b'])) :
    fIO g (akS i akNil) ρ = some (r, ρ.set i (.box o b')) := by
  unfold fIO akS akNil
  simp only [h, slotsOf, argSlots, hb, if_true, Option.map_some, hg, putBack, List.nodup_cons, List.not_mem_nil, not_false_eq_true, List.nodup_nil, and_self]
theorem fnIO_ev {n m : Nat} {F : FS} {d : D} {r : List Slot} (hm : ρ.length = m) (h : F (ρ ++ List.replicate (n - m) .un) = some (.rt d ρ1)) (hk : keepArgs ρ ρ1 = some r) : fnIO n m F ρ = some (d, r) := by
  unfold fnIO; rw [if_pos hm, h]; simp only [hk]
theorem fnIO_ex {n m : Nat} {F : FS} {d : D} {r : List Slot} (hm : ρ.length = m) (h : ∃ ρ1, F (ρ ++ List.replicate (n - m) .un) = some (.rt d ρ1) ∧ keepArgs ρ ρ1 = some r) : fnIO n m F ρ = some (d, r) := by
  obtain ⟨ρ1, h, hk⟩ := h; exact fnIO_ev hm h hk
/-- a comprehension that changes things -/
theorem lcGo_io {α : Type} {g : FG} {e : FE} {vs : List Nat} (k : α → D) (Inv : List α → List D → List Slot → Prop) (xs : List α) : ∀ (post pre : List α) (ys : List D) (ρ : List Slot), xs = pre ++ post → Inv pre ys ρ →
    (∀ pre a post ys ρ, xs = pre ++ a :: post → Inv pre ys ρ → ∃ ρa y ρc, g (k a) ρ = some ρa ∧ e ρa = some (y, ρc) ∧ Inv (pre ++ [a]) (ys ++ [y]) (wip ρc vs)) → ∃ zs ρ2, lcGo g fTrue e vs (post.map k) ρ = some (zs, ρ2) ∧ Inv xs (ys ++ zs) ρ2
  | [], pre, ys, ρ, e1, I, _ => ⟨[], ρ, rfl, by rw [List.append_nil] at e1 ⊢; rw [e1]; exact I⟩
  | a :: post, pre, ys, ρ, e1, I, h => by
    obtain ⟨ρa, y, ρc, h1, h2, h3⟩ := h pre a post ys ρ e1 I
    obtain ⟨zs, ρ2, h5, h6⟩ := lcGo_io k Inv xs post (pre ++ [a]) (ys ++ [y]) (wip ρc vs) (by rw [e1]; simp) h3 h
    refine ⟨y :: zs, ρ2, ?_, by rw [List.append_assoc] at h6; exact h6⟩
    rw [List.map_cons, lcGo, h1]
    simp only [ev_true, h2, h5]
theorem lc_io {α : Type} {f : FI} {g : FG} {e : FE} {vs : List Nat} (xs : List α) (k : α → D) (Inv : List α → List D → List Slot → Prop) (hf : f ρ = some (xs.map k, ρ1)) (hb : noBox ρ1 vs = true) (hl : xs.length ≤ sizeLine) (h0 : Inv [] [] (wip ρ1 vs))
    (h : ∀ pre a post ys ρ, xs = pre ++ a :: post → Inv pre ys ρ → ∃ ρa y ρc, g (k a) ρ = some ρa ∧ e ρa = some (y, ρc) ∧ Inv (pre ++ [a]) (ys ++ [y]) (wip ρc vs)) :
    ∃ ys ρ2, fLc f g vs fTrue e ρ = some (.lst ys, unwip ρ1 ρ2 vs) ∧ Inv xs ys ρ2 := by
  obtain ⟨ys, ρ2, h1, h2⟩ := lcGo_io k Inv xs xs [] [] (wip ρ1 vs) rfl h0 h
  refine ⟨ys, ρ2, ?_, h2⟩
  unfold fLc fLcL
  rw [hf]
  simp only [List.length_map]
  rw [if_pos ⟨hb, hl⟩, h1]
/-- new lists -/
theorem lcGoF_ev {α : Type} {g : FG} {e : FF} {vs : List Nat} (k : α → D) (y : α → B) (ρw : List Slot) : ∀ (xs : List α), (∀ a ∈ xs, ∃ ρa, g (k a) ρw = some ρa ∧ ∃ ρc, e ρa = some (y a, ρc) ∧ wip ρc vs = ρw) → lcGoF g fTrue e vs (xs.map k) ρw = some (xs.map y, ρw)
  | [], _ => rfl
  | a :: xs, h => by
    obtain ⟨ρa, h1, ρc, h2, h3⟩ := h a List.mem_cons_self
    have ih := lcGoF_ev k y ρw xs fun b hb => h b (List.mem_cons_of_mem _ hb)
    rw [List.map_cons, lcGoF, h1]
    simp only [ev_true, h2, h3, ih, List.map_cons]
theorem lcF_map {α : Type} {f : FI} {g : FG} {e : FF} {vs : List Nat} (xs : List α) (k : α → D) (y : α → B) (hf : f ρ = some (xs.map k, ρ1)) (hb : noBox ρ1 vs = true) (hl : xs.length ≤ sizeLine)
    (h : ∀ a ∈ xs, ∃ ρa, g (k a) (wip ρ1 vs) = some ρa ∧ ∃ ρc, e ρa = some (y a, ρc) ∧ wip ρc vs = wip ρ1 vs) : fLcFF f g vs fTrue e ρ = some (.own (xs.map y), unwip ρ1 (wip ρ1 vs) vs) := by
  unfold fLcFF
  rw [hf]
  simp only [List.length_map]
  rw [if_pos ⟨hb, hl⟩, lcGoF_ev k y _ xs h]
theorem repL_one {β : Type} (d : β) (n : Nat) : repL (n : Int) [d] = List.replicate n d := by
  unfold repL
  rw [Int.toNat_natCast]
  induction n with
  | zero => rfl
  | succ n ih => rw [List.replicate_succ, List.flatten_cons, ih]; rfl
theorem repF_ev {fa : FA} {fk : FE} {d : D} {n : Nat} (h : fa ρ = some ([d], ρ1)) (h2 : fk ρ1 = some (.int (n : Int), ρ2)) (hn : n ≤ 1000) : fRepF fa fk ρ = some (.own ((List.replicate n d).map .imm), ρ2) := by
  unfold fRepF
  rw [h]
  simp only [h2]
  rw [if_pos, repL_one]
  refine ⟨by show 1 ≤ sizeLine; decide, by omega, by omega, ?_⟩
  rw [Int.toNat_natCast, List.length_singleton, Nat.one_mul]
  exact sz hn
theorem rep_ev {d : D} {n : Nat} (hn : n ≤ 1000) : dRep (.lst [d]) (.int n) = some (.lst (List.replicate n d)) := by
  unfold dRep
  simp only
  rw [if_pos, repL_one]
  refine ⟨by omega, by omega, ?_⟩
  rw [Int.toNat_natCast, List.length_singleton, Nat.one_mul]
  exact sz hn
theorem rgD_nat (n : Nat) : rgD (n : Int) = (List.range n).map kN := by
  unfold rgD
  rw [Int.toNat_natCast, List.map_map]; rfl
theorem listRg_ev {f : FE} {n : Nat} (h : f ρ = some (.int (n : Int), ρ1)) (hn : n ≤ 1000) : fListRg f ρ = some (kLs kN (List.range n), ρ1) := by
  unfold fListRg
  rw [h]
  simp only
  rw [if_pos (by omega), rgD_nat]
theorem listRgF_ev {f : FE} {n : Nat} (h : f ρ = some (.int (n : Int), ρ1)) (hn : n ≤ 1000) : fListRgF f ρ = some (bx kN (List.range n), ρ1) := by
  unfold fListRgF
  rw [h]
  simp only
  rw [if_pos (by omega), rgD_nat, List.map_map]; rfl
/-- x[n] = a -/
theorem put_ev {α : Type} {f : α → D} {l : List α} {a : α} {o : Bool} {fe : FE} {q : FQ} {n : Nat} (he : fe ρ = some (f a, ρ1)) (h : ρ1[i]? = some (.box o (bx f l))) (hq : q ρ1 = some (.int n)) (hn : n < l.length) : fPut i fe (fpN i) q ρ = some (.nx (ρ1.set i (.box o (bx f (l.set n a))))) := by
  unfold fPut
  rw [he]
  have hx : ixN (l.map fun a => B.imm (f a)).length (n : Int) = some n := by
    simp only [ixN, Int.natCast_nonneg, if_true, List.length_map, Int.ofNat_lt, hn, Int.toNat_natCast]
  simp only [ev_fpN, h, hq, hx, setB, List.reverse_nil, putB, bx, List.map_set]
/-- a loop that may hand something back, or raise -/
theorem fWhile_ex {c : FT} {F : FS} {x : Str} (h : c ρ = some (true, ρ1)) (h2 : F ρ1 = some (.ex x ρ2)) : fWhile c F ρ = some (.ex x ρ2) :=
  fWhile_of (n := 1) (by unfold wN; rw [h]; simp only [h2])
theorem while_ex {c : FT} {F : FS} (Inv : Nat → List Slot → Prop) (Post : Out → Prop)
    (h : ∀ n ρ, Inv n ρ → (∃ ρ', c ρ = some (false, ρ') ∧ Post (.nx ρ')) ∨ ∃ ρ1, c ρ = some (true, ρ1) ∧ ((∃ ρ2 m, F ρ1 = some (.nx ρ2) ∧ m < n ∧ Inv m ρ2) ∨ ∃ x ρ2, F ρ1 = some (.ex x ρ2) ∧ Post (.ex x ρ2))) :
    ∀ n ρ, Inv n ρ → ∃ o, fWhile c F ρ = some o ∧ Post o := by
  intro n
  induction n using Nat.strongRecOn with
  | ind n ih =>
    intro ρ I
    rcases h n ρ I with ⟨ρ', h1, h2⟩ | ⟨ρ1, h1, ⟨ρ2, m, h2, h3, h4⟩ | ⟨d, ρ2, h2, h3⟩⟩
    · exact ⟨_, fWhile_false h1, h2⟩
    · obtain ⟨o, h5, h6⟩ := ih m h3 ρ2 h4
      exact ⟨o, fWhile_nx h1 h2 h5, h6⟩
    · exact ⟨_, fWhile_ex h1 h2, h3⟩
theorem fnX_ev {n m : Nat} {F : FS} {ds : List D} {d : D} (hm : ds.length = m) (h : ∃ ρ1, F (ds.map .val ++ List.replicate (n - m) .un) = some (.rt d ρ1)) : fnX n m F ds = some (.ok d) := by
  obtain ⟨ρ1, h⟩ := h; unfold fnX; rw [if_pos hm, h]
theorem fnX_er {n m : Nat} {F : FS} {ds : List D} {c : Str} (hm : ds.length = m) (h : ∃ ρ1, F (ds.map .val ++ List.replicate (n - m) .un) = some (.ex c ρ1)) : fnX n m F ds = some (.error c) := by
  obtain ⟨ρ1, h⟩ := h; unfold fnX; rw [if_pos hm, h]
theorem callX_ev {g : GXn} {fa : FA} {ds : List D} {r : Except Str D} (h : fa ρ = some (ds, ρ1)) (h2 : g ds = some r) : fCallX g fa ρ = some (r, ρ1) := by unfold fCallX; rw [h]; simp only [h2]
theorem asgX_ok {f : FX} {g : FG} {d : D} (h : f ρ = some (.ok d, ρ1)) (h2 : g d ρ1 = some ρ2) : fAsgX f g ρ = some (.nx ρ2) := by unfold fAsgX; rw [h]; simp only [h2]
theorem asgX_er {f : FX} {g : FG} {c : Str} (h : f ρ = some (.error c, ρ1)) : fAsgX f g ρ = some (.ex c ρ1) := by unfold fAsgX; rw [h]
theorem par_ev {i j : Nat} {f : FA} {d e : D} (h : f ρ = some ([d, e], ρ1)) : fPar i j f ρ = some (.nx ((ρ1.set i (.val d)).set j (.val e))) := by unfold fPar; rw [h]
theorem setF_ev {f : FF} {b : B} (h : f ρ = some (b, ρ1)) : fSetF i f ρ = some (.nx (ρ1.set i (.box false b))) := by unfold fSetF; rw [h]
theorem box1_ev {fe : FE} {d : D} (h : fe ρ = some (d, ρ1)) : fBox i (fCons fe fNil) ρ = some (.nx (ρ1.set i (.box false (.own [.imm d])))) := by
  unfold fBox
  rw [cons_ev h nil_ev]
  rfl
theorem iter_tpx {f : FE} {ds : List D} (h : f ρ = some (.tpx ds, ρ1)) : fIter f ρ = some (ds, ρ1) := by unfold fIter; rw [h]; rfl
end
@[simp] theorem dTupX_l {l : List D} : dTupX [.lst l] = some (.tpx l) := rfl
@[simp] theorem dLen_x {l : List D} : dLen [.tpx l] = some (.int l.length) := rfl
end DL
end

section
set_option Elab.async false
set_option linter.all false
set_option maxRecDepth 100000
/-! Trop: least sums: the best way, found from the end, and letter by letter -/
namespace Tr
abbrev T := Option Int
def tmin : T → T → T
  | none, y => y
  | some a, none => some a
  | some a, some b => some (if b < a then b else a)
def tadd : T → T → T
  | some a, some b => some (a + b)
  | _, _ => none
def dotF (t : T) (l : List (T × T)) : T := l.foldl (fun t p => tmin t (tadd p.1 p.2)) t
def dot (r c : List T) : T := dotF none (r.zip c)
/-- what comes behind each room -/
def col : List (List (List T)) → List T → List T
  | [], e => e
  | t :: ts, e => t.map fun row => dot row (col ts e)
abbrev Way := Option (Int × List Nat)
/-- one more room looked at -/
def step (best : Way) (k : Nat) (x : T) (c : Way) : Way := match c with
  | some (d, w) => (match x with
    | some a => (match best with
      | some (b, v) => if a + d < b then some (a + d, k :: w) else some (b, v)
      | none => some (a + d, k :: w))
    | none => best)
  | none => best
def bestF (best : Way) (k : Nat) : List (T × Way) → Way
  | [] => best
  | p :: l => bestF (step best k p.1 p.2) (k + 1) l
def bestOf (row : List T) (com : List Way) : Way := bestF none 0 (row.zip com)
def com : List (List (List T)) → List T → List Way
  | [], e => e.map fun x => x.map fun a => (a, [])
  | t :: ts, e => t.map fun row => bestOf row (com ts e)
/-- the value at a place -/
def cand (p : T × Way) : T := tadd p.1 (p.2.map (·.1))
theorem step_fst (best : Way) (k : Nat) (x : T) (c : Way) : (step best k x c).map (·.1) = tmin (best.map (·.1)) (tadd x (c.map (·.1))) := by
  unfold step tmin tadd
  cases c with
  | none => cases best <;> cases x <;> rfl
  | some p =>
    cases x with
    | none => cases best <;> rfl
    | some a =>
      cases best with
      | none => rfl
      | some q =>
        obtain ⟨b, v⟩ := q
        obtain ⟨d, w⟩ := p
        simp only [Option.map_some]
        by_cases h : a + d < b
        · rw [if_pos h, if_pos h]; rfl
        · rw [if_neg h, if_neg h]; rfl
theorem bestF_fst : ∀ (l : List (T × Way)) (best : Way) (k : Nat), (bestF best k l).map (·.1) = dotF (best.map (·.1)) (l.map fun p => (p.1, p.2.map (·.1)))
  | [], best, k => rfl
  | p :: l, best, k => by
    rw [bestF, bestF_fst l, step_fst]; rfl
theorem bestOf_fst (row : List T) (c : List Way) : (bestOf row c).map (·.1) = dot row (c.map fun p => p.map (·.1)) := by
  unfold bestOf dot
  rw [bestF_fst]
  congr 1
  induction row generalizing c with
  | nil => rfl
  | cons x row ih =>
    cases c with
    | nil => rfl
    | cons y c => simp only [List.zip_cons_cons, List.map_cons, ih]
theorem com_fst : ∀ (ts : List (List (List T))) (e : List T), (com ts e).map (fun p => p.map (·.1)) = col ts e
  | [], e => by
    unfold com col
    rw [List.map_map]
    have : ((fun p : Way => p.map (·.1)) ∘ fun x : T => x.map fun a => (a, ([] : List Nat))) = id := by
      funext x
      cases x <;> rfl
    rw [this, List.map_id]
  | t :: ts, e => by
    unfold com col
    rw [List.map_map]
    refine List.map_congr_left fun row _ => ?_
    show (bestOf row (com ts e)).map (·.1) = _
    rw [bestOf_fst, com_fst ts e]
/-- the first of the least ones -/
theorem bestF_spec : ∀ (l : List (T × Way)) (best : Way) (k : Nat), (bestF best k l = best ∧ ∀ p ∈ l, ∀ a, cand p = some a → ∃ b v, best = some (b, v) ∧ b ≤ a) ∨
    ∃ (i : Nat) (x d : Int) (w : List Nat), l[i]? = some (some x, some (d, w)) ∧ bestF best k l = some (x + d, (k + i) :: w) ∧ (∀ b v, best = some (b, v) → x + d < b) ∧ ∀ j p, j < i → l[j]? = some p → cand p ≠ some (x + d)
  | [], best, k => .inl ⟨rfl, by simp⟩
  | p :: l, best, k => by
    obtain ⟨x, c⟩ := p
    by_cases hs : step best k x c = best ∧ ∀ a, cand (x, c) = some a → ∃ b v, best = some (b, v) ∧ b ≤ a
    · obtain ⟨hs, hb⟩ := hs
      rcases bestF_spec l best (k + 1) with ⟨h1, h2⟩ | ⟨i, x', d, w, h1, h2, h3, h4⟩
      · refine .inl ⟨by rw [bestF, hs, h1], fun q hq a ha => ?_⟩
        rcases List.mem_cons.mp hq with rfl | hq
        · exact hb a ha
        · exact h2 q hq a ha
      · refine .inr ⟨i + 1, x', d, w, h1, by rw [bestF, hs, h2]; congr 3; omega, h3, fun j q hj e => ?_⟩
        cases j with
        | zero =>
          cases e
          intro ha
          obtain ⟨b, v, e, le⟩ := hb _ ha
          have := h3 b v e
          omega
        | succ j => exact h4 j q (by omega) e
    · -- this one is better
      have : ∃ a d w, x = some a ∧ c = some (d, w) ∧ step best k x c = some (a + d, k :: w) ∧ ∀ b v, best = some (b, v) → a + d < b := by
        cases c with
        | none => exact absurd ⟨rfl, fun a h => by unfold cand tadd at h; cases x <;> cases h⟩ hs
        | some p =>
          obtain ⟨d, w⟩ := p
          cases x with
          | none => exact absurd ⟨rfl, fun a h => by unfold cand tadd at h; cases h⟩ hs
          | some a =>
            refine ⟨a, d, w, rfl, rfl, ?_⟩
            cases best with
            | none => exact ⟨rfl, fun b v e => nomatch e⟩
            | some q =>
              obtain ⟨b, v⟩ := q
              by_cases lt : a + d < b
              · refine ⟨by unfold step; simp only; rw [if_pos lt], fun b' v' e => by cases e; exact lt⟩
              · refine absurd ⟨by unfold step; simp only; rw [if_neg lt], fun a' h => ?_⟩ hs
                have h' : some (a + d) = some a' := h
                have h2 := Option.some.inj h'
                exact ⟨b, v, rfl, by omega⟩
      obtain ⟨a, d, w, rfl, rfl, es, lt⟩ := this
      rcases bestF_spec l (some (a + d, k :: w)) (k + 1) with ⟨h1, h2⟩ | ⟨i, x', d', w', h1, h2, h3, h4⟩
      · exact .inr ⟨0, a, d, w, rfl, by rw [bestF, es, h1]; rfl, lt, fun j _ h => absurd h (by omega)⟩
      · have lt2 := h3 _ _ rfl
        refine .inr ⟨i + 1, x', d', w', h1, by rw [bestF, es, h2]; congr 3; omega, fun b v e => by have := lt b v e; omega, fun j q hj e => ?_⟩
        cases j with
        | zero =>
          cases e
          intro ha
          have h5 : some (a + d) = some (x' + d') := ha
          have h6 := Option.some.inj h5
          omega
        | succ j => exact h4 j q (by omega) e
theorem zip_get {α β : Type} : ∀ {l : List α} {m : List β} {i : Nat} {x : α} {y : β}, (l.zip m)[i]? = some (x, y) ↔ l[i]? = some x ∧ m[i]? = some y
  | [], m, i, x, y => by simp
  | a :: l, [], i, x, y => by simp
  | a :: l, b :: m, 0, x, y => by simp
  | a :: l, b :: m, i + 1, x, y => by simp [zip_get (l := l) (m := m)]
/-- the best is the first of the least ones -/
theorem bestOf_spec {row : List T} {c : List Way} : (bestOf row c = none ∧ ∀ (i : Nat) (x d : Int) (w : List Nat), row[i]? = some (some x) → c[i]? = some (some (d, w)) → False) ∨
    ∃ (i : Nat) (x d : Int) (w : List Nat), row[i]? = some (some x) ∧ c[i]? = some (some (d, w)) ∧ bestOf row c = some (x + d, i :: w) ∧ ∀ (j : Nat) (x' d' : Int) (w' : List Nat), j < i → row[j]? = some (some x') → c[j]? = some (some (d', w')) → x' + d' ≠ x + d := by
  rcases bestF_spec (row.zip c) none 0 with ⟨h1, h2⟩ | ⟨i, x, d, w, h1, h2, _, h4⟩
  · refine .inl ⟨h1, fun i x d w hx hc => ?_⟩
    obtain ⟨b, v, e, _⟩ := h2 (some x, some (d, w)) (List.mem_of_getElem? (zip_get.mpr ⟨hx, hc⟩)) (x + d) rfl
    cases e
  · obtain ⟨e1, e2⟩ := zip_get.mp h1
    refine .inr ⟨i, x, d, w, e1, e2, by unfold bestOf; rw [h2, Nat.zero_add], fun j x' d' w' hj hx hc e => h4 j _ hj (zip_get.mpr ⟨hx, hc⟩) ?_⟩
    show some (x' + d') = some (x + d)
    rw [e]
/-! ### the sums about -/
def LE (z : Int) (x : T) : Prop := ∀ a, x = some a → z ≤ a
theorem eq_of_le {x y : T} (h : ∀ z, LE z x ↔ LE z y) : x = y := by
  cases x with
  | none =>
    cases y with
    | none => rfl
    | some b => have := (h (b + 1)).mp (fun a e => nomatch e) b rfl; omega
  | some a =>
    cases y with
    | none => have := (h (a + 1)).mpr (fun a e => nomatch e) a rfl; omega
    | some b =>
      have h1 := (h a).mp (fun c e => by cases e; exact Int.le_refl _) b rfl
      have h2 := (h b).mpr (fun c e => by cases e; exact Int.le_refl _) a rfl
      rw [Int.le_antisymm h1 h2]
theorem le_min {z : Int} {x y : T} : LE z (tmin x y) ↔ LE z x ∧ LE z y := by
  cases x with
  | none => exact ⟨fun h => ⟨fun a e => (nomatch e), h⟩, fun h => h.2⟩
  | some a =>
    cases y with
    | none => exact ⟨fun h => ⟨h, fun a e => (nomatch e)⟩, fun h => h.1⟩
    | some b =>
      unfold tmin
      constructor
      · intro h
        have := h _ rfl
        refine ⟨fun c e => ?_, fun c e => ?_⟩ <;> cases e <;> split at this <;> omega
      · rintro ⟨h1, h2⟩ c e
        have := h1 _ rfl; have := h2 _ rfl
        cases e
        split <;> omega
theorem le_dotF {z : Int} : ∀ (l : List (T × T)) (t : T), LE z (dotF t l) ↔ LE z t ∧ ∀ p ∈ l, LE z (tadd p.1 p.2)
  | [], t => by simp [dotF]
  | p :: l, t => by
    show LE z (dotF (tmin t (tadd p.1 p.2)) l) ↔ _
    rw [le_dotF l, le_min]
    simp only [List.mem_cons, forall_eq_or_imp, and_assoc]
theorem le_dot {z : Int} {r c : List T} : LE z (dot r c) ↔ ∀ (i : Nat) (x y : Int), r[i]? = some (some x) → c[i]? = some (some y) → z ≤ x + y := by
  unfold dot
  rw [le_dotF]
  constructor
  · rintro ⟨_, h⟩ i x y hx hy
    exact h _ (List.mem_of_getElem? (zip_get.mpr ⟨hx, hy⟩)) _ rfl
  · intro h
    refine ⟨fun a e => (nomatch e), fun p hp a e => ?_⟩
    obtain ⟨i, hi⟩ := List.mem_iff_getElem?.mp hp
    obtain ⟨hx, hy⟩ := zip_get.mp (show (r.zip c)[i]? = some (p.1, p.2) from hi)
    obtain ⟨p1, p2⟩ := p
    cases p1 with
    | none => cases e
    | some x =>
      cases p2 with
      | none => cases e
      | some y => cases e; exact h i x y hx hy
/-- a row by a table -/
def rowBy (n : Nat) (row : List T) (t : List (List T)) : List T := (List.range n).map fun k => dot row (t.map fun r => (r[k]?).getD none)
theorem rowBy_len {n : Nat} {row : List T} {t : List (List T)} : (rowBy n row t).length = n := by simp [rowBy]
theorem assoc {n : Nat} {row c : List T} {t : List (List T)} (hr : row.length = n) (ht : t.length = n) (ht2 : ∀ r ∈ t, r.length = n) (hc : c.length = n) : dot (rowBy n row t) c = dot row (t.map fun r => dot r c) := by
  refine eq_of_le fun z => ?_
  rw [le_dot, le_dot]
  have get : ∀ k, k < n → (rowBy n row t)[k]? = some (dot row (t.map fun r => (r[k]?).getD none)) := fun k hk => by
    unfold rowBy
    rw [List.getElem?_map, List.getElem?_range hk]; rfl
  constructor
  · intro h i x y hx hy
    rw [List.getElem?_map] at hy
    obtain ⟨r, er, hy⟩ := Option.map_eq_some_iff.mp hy
    have key : LE (z - x) (dot r c) := le_dot.mpr fun k m b hm hb => by
      have hk : k < n := by rw [← hc]; exact (List.getElem?_eq_some_iff.mp hb).1
      have := h k
      cases e : dot row (t.map fun r => (r[k]?).getD none) with
      | none =>
        have le := le_dot.mp (show LE (x + m + 1) (dot row (t.map fun r => (r[k]?).getD none)) by rw [e]; exact fun a e => nomatch e) i x m hx (by rw [List.getElem?_map, er]; simp [hm])
        omega
      | some v =>
        have h1 := h k v b (by rw [get k hk, e]) hb
        have h2 := le_dot.mp (show LE v (dot row (t.map fun r => (r[k]?).getD none)) by rw [e]; exact fun a e => by cases e; exact Int.le_refl _) i x m hx (by rw [List.getElem?_map, er]; simp [hm])
        omega
    have := key y hy
    omega
  · intro h k v b hv hb
    have hk : k < n := by rw [← hc]; exact (List.getElem?_eq_some_iff.mp hb).1
    rw [get k hk] at hv
    have hv' : dot row (t.map fun r => (r[k]?).getD none) = some v := Option.some.inj hv
    have key : LE (z - b) (dot row (t.map fun r => (r[k]?).getD none)) := le_dot.mpr fun i x m hx hm => by
      rw [List.getElem?_map] at hm
      obtain ⟨r, er, hm⟩ := Option.map_eq_some_iff.mp hm
      have hlen := ht2 r (List.mem_of_getElem? er)
      have hm' : r[k]? = some (some m) := by
        cases q : r[k]? with
        | none => rw [q] at hm; cases hm
        | some u => rw [q] at hm; rw [show u = some m from hm]
      cases e : dot r c with
      | none =>
        have le := le_dot.mp (show LE (m + b + 1) (dot r c) by rw [e]; exact fun a e => nomatch e) k m b hm' hb
        omega
      | some y =>
        have h1 := h i x y hx (by rw [List.getElem?_map, er, Option.map_some, e])
        have h2 := le_dot.mp (show LE y (dot r c) by rw [e]; exact fun a e => by cases e; exact Int.le_refl _) k m b hm' hb
        omega
    have := key v hv'
    omega
def Sq (n : Nat) (t : List (List T)) : Prop := t.length = n ∧ ∀ r ∈ t, r.length = n
/-- what stands ahead -/
def ahead (n : Nat) (row : List T) (ts : List (List (List T))) : List T := ts.foldl (rowBy n) row
theorem col_len {n : Nat} {e : List T} (he : e.length = n) : ∀ {ts : List (List (List T))}, (∀ t ∈ ts, Sq n t) → (col ts e).length = n
  | [], _ => he
  | t :: ts, h => by
    unfold col
    rw [List.length_map]
    exact (h t List.mem_cons_self).1
theorem com_len {n : Nat} {e : List T} (he : e.length = n) : ∀ {ts : List (List (List T))}, (∀ t ∈ ts, Sq n t) → (com ts e).length = n
  | [], _ => by unfold com; rw [List.length_map]; exact he
  | t :: ts, h => by
    unfold com
    rw [List.length_map]
    exact (h t List.mem_cons_self).1
theorem weight_eq {n : Nat} {e : List T} (he : e.length = n) : ∀ {ts : List (List (List T))} {row : List T}, row.length = n → (∀ t ∈ ts, Sq n t) → dot (ahead n row ts) e = dot row (col ts e)
  | [], row, _, _ => rfl
  | t :: ts, row, hr, h => by
    show dot (ahead n (rowBy n row t) ts) e = _
    rw [weight_eq he rowBy_len fun t ht => h t (List.mem_cons_of_mem _ ht)]
    have ht := h t List.mem_cons_self
    exact assoc hr ht.1 ht.2 (col_len he fun t ht => h t (List.mem_cons_of_mem _ ht))
end Tr
namespace Tr
/-- the best from a row on comes to d by the way W -/
def Good (ts : List (List (List T))) (e : List T) (row : List T) (d : Int) (W : List Nat) : Prop := bestOf row (com ts e) = some (d, W)
theorem com_col {ts : List (List (List T))} {e : List T} {j : Nat} {d : Int} (h : (col ts e)[j]? = some (some d)) : ∃ w, (com ts e)[j]? = some (some (d, w)) := by
  rw [← com_fst, List.getElem?_map] at h
  obtain ⟨p, h1, h2⟩ := Option.map_eq_some_iff.mp h
  obtain ⟨⟨d', w⟩, h3, h4⟩ := Option.map_eq_some_iff.mp h2
  cases h4
  exact ⟨w, by rw [h1, h3]⟩
theorem good_step {ts : List (List (List T))} {e row : List T} {d : Int} {W : List Nat} (h : Good ts e row d W) :
    ∃ (r : Nat) (w : List Nat) (x c : Int), W = r :: w ∧ row[r]? = some (some x) ∧ (col ts e)[r]? = some (some c) ∧ d = x + c ∧
      (∀ (j : Nat) (x' d' : Int), j < r → row[j]? = some (some x') → (col ts e)[j]? = some (some d') → x' + d' ≠ d) ∧
      (ts = [] → w = [] ∧ e[r]? = some (some c)) ∧ (∀ t ts', ts = t :: ts' → ∃ row', t[r]? = some row' ∧ Good ts' e row' c w) := by
  unfold Good at h
  rcases bestOf_spec (row := row) (c := com ts e) with ⟨h1, _⟩ | ⟨r, x, c, w, h1, h2, h3, h4⟩
  · rw [h1] at h; cases h
  · rw [h3] at h
    cases h
    refine ⟨r, w, x, c, rfl, h1, ?_, rfl, fun j x' d' hj hx hc => ?_, fun z => ?_, fun t ts' z => ?_⟩
    · rw [← com_fst, List.getElem?_map, h2]; rfl
    · obtain ⟨w', hw⟩ := com_col hc
      exact h4 j x' d' w' hj hx hw
    · subst z
      unfold com at h2
      rw [List.getElem?_map] at h2
      obtain ⟨y, h5, h6⟩ := Option.map_eq_some_iff.mp h2
      obtain ⟨a, h7, h8⟩ := Option.map_eq_some_iff.mp h6
      cases h8
      exact ⟨rfl, by rw [h5, h7]⟩
    · subst z
      unfold com at h2
      rw [List.getElem?_map] at h2
      obtain ⟨row', h5, h6⟩ := Option.map_eq_some_iff.mp h2
      exact ⟨row', h5, h6⟩
theorem good_len {e : List T} : ∀ {ts : List (List (List T))} {row : List T} {d : Int} {W : List Nat}, Good ts e row d W → W.length = ts.length + 1
  | [], row, d, W, h => by
    obtain ⟨r, w, x, c, rfl, _, _, _, _, h1, _⟩ := good_step h
    rw [(h1 rfl).1]; rfl
  | t :: ts, row, d, W, h => by
    obtain ⟨r, w, x, c, rfl, _, _, _, _, _, h2⟩ := good_step h
    obtain ⟨row', _, h3⟩ := h2 t ts rfl
    rw [List.length_cons, good_len h3]; rfl
theorem due_eq {ts : List (List (List T))} {e row : List T} : (bestOf row (com ts e)).map (·.1) = dot row (col ts e) := by rw [bestOf_fst, com_fst]
end Tr
end

section
set_option Elab.async false
set_option linter.all false
set_option maxRecDepth 100000
set_option maxHeartbeats 4000000
/-! EV4: methods, zip, places of signs, tuples held against tuples, repr -/
namespace DL
open PySem PySem.Spec PyProof.Rows L2 Bf
section
variable {ρ ρ1 ρ2 : List Slot} {i : Nat}
theorem meth_ev {m : Str} {g : Str → Option (List D → Option D)} {fo : FE} {fa : FA} {c : Str} {ds as : List D} {gg : List D → Option D} {z : D} (h1 : fo ρ = some (.obj c [] ds, ρ1)) (hg : g c = some gg) (h2 : fa ρ1 = some (as, ρ2)) (h3 : gg (.obj c [] ds :: as) = some z) :
    fMeth m g fo fa ρ = some (z, ρ2) := by
  unfold fMeth
  rw [h1]
  simp only [List.not_mem_nil, if_false, hg, h2, h3]
theorem zip_ev {a b : FE} {d e : D} {ds es : List D} (h1 : a ρ = some (d, ρ1)) (h2 : b ρ1 = some (e, ρ2)) (h3 : items d = some ds) (h4 : items e = some es) : fZip (fCons a (fCons b fNil)) ρ = some (zipD ds es, ρ2) := by
  unfold fZip
  rw [cons_ev h1 (cons_ev h2 nil_ev)]
  simp only [h3, h4]
theorem zipD_map {α β : Type} (f : α → D) (g : β → D) : ∀ (l : List α) (m : List β), zipD (l.map f) (m.map g) = (l.zip m).map fun p => .tup [f p.1, g p.2]
  | [], m => by cases m <;> rfl
  | a :: l, [] => rfl
  | a :: l, b :: m => by
    rw [List.map_cons, List.map_cons, List.zip_cons_cons, List.map_cons, ← zipD_map f g l m]; rfl
theorem revS_ev {f : FE} {x : Str} (h : f ρ = some (.str x, ρ1)) (hl : x.length ≤ 1000) : fRevS f ρ = some ((signs x).reverse.map .str, ρ1) := by
  unfold fRevS; rw [h]; simp only; rw [if_pos hl]
theorem place_last {α : Type} {f : α → D} {l : List α} {a : α} {o : Bool} {q : FQ} (h : ρ[i]? = some (.box o (bx f (l ++ [a])))) (hq : q ρ = some (.int (-1))) : fpV (fpIx (fpN i) q) ρ = some (f a) := by
  have hx : ixN ((l ++ [a]).map fun a => B.imm (f a)).length (-1) = some l.length := by
    unfold ixN
    rw [if_neg (by omega), List.length_map, List.length_append, List.length_singleton, if_pos (by omega)]
    congr 1
    omega
  unfold fpV fpIx
  simp only [ev_fpN, h, hq, hx, List.getElem?_map]
  rw [List.getElem?_append_right (Nat.le_refl _)]
  simp
theorem for_rt {α : Type} {f : FI} {g : FG} {F : FS} (xs : List α) (k : α → D) (n : Nat) (ρn : Nat → List Slot) (hn : n < xs.length) (hf : f ρ = some (xs.map k, ρn 0)) (before : ∀ j, j < n → ∀ x, xs[j]? = some x → ∃ ρ1, g (k x) (ρn j) = some ρ1 ∧ F ρ1 = some (.nx (ρn (j + 1))))
    {d : D} {ρ' : List Slot} (at_ : ∀ x, xs[n]? = some x → ∃ ρ1, g (k x) (ρn n) = some ρ1 ∧ F ρ1 = some (.rt d ρ')) : fFor f g F ρ = some (.rt d ρ') := by
  unfold fFor
  rw [hf]
  simp only
  have go : ∀ (m : Nat) (post : List α) (j : Nat), m = n - j → j ≤ n → xs.drop j = post → forGo g F (post.map k) (ρn j) = some (.rt d ρ') := by
    intro m
    induction m with
    | zero =>
      intro post j hm hj hd
      obtain rfl : j = n := by omega
      have e : post = xs[j] :: xs.drop (j + 1) := by rw [← hd]; exact List.drop_eq_getElem_cons hn
      obtain ⟨ρ1, h1, h2⟩ := at_ xs[j] (List.getElem?_eq_getElem hn)
      rw [e, List.map_cons]
      simp only [forGo, h1, h2]
    | succ m ih =>
      intro post j hm hj hd
      have hj' : j < xs.length := by omega
      have e : post = xs[j] :: xs.drop (j + 1) := by rw [← hd]; exact List.drop_eq_getElem_cons hj'
      obtain ⟨ρ1, h1, h2⟩ := before j (by omega) xs[j] (List.getElem?_eq_getElem hj')
      rw [e, List.map_cons]
      simp only [forGo, h1, h2]
      exact ih _ (j + 1) (by omega) (by omega) rfl
  exact go n xs 0 (by omega) (Nat.zero_le _) rfl
end
/-! ### the place of a sign -/
theorem idxS_ev {x : Str} {c i : Nat} (h : x.cps.toList[i]? = some c) (first : ∀ k, k < i → x.cps.toList[k]? ≠ some c) : dIdxS (.str x) (.str ⟨#[c]⟩) = some (.int (i : Nat)) := by
  have e : ∃ r, Builtin.Str.occurrences x ⟨#[c]⟩ 0 x.length 1 = i :: r := by
    rcases StrLaws.occ_head x ⟨#[c]⟩ 1 (Nat.le_refl _) with ⟨_, h2⟩ | ⟨j, r, h1, h2, h3⟩
    · exact absurd ((StrLaws.subAt_one x c i).mpr h) (h2 i)
    · have hj := (StrLaws.subAt_one x c j).mp h2
      have : j = i := by
        rcases Nat.lt_trichotomy j i with lt | rfl | gt
        · exact absurd hj (first j lt)
        · rfl
        · exact absurd ((StrLaws.subAt_one x c i).mpr h) (h3 i gt)
      subst this
      exact ⟨r, h1⟩
  obtain ⟨r, e⟩ := e
  unfold dIdxS
  simp only [e]
theorem idxS_nd {x : Str} {c i : Nat} (nd : x.cps.toList.Nodup) (h : x.cps.toList[i]? = some c) : dIdxS (.str x) (.str ⟨#[c]⟩) = some (.int (i : Nat)) := idxS_ev h fun k hk e => by
  have h1 := (List.getElem?_eq_some_iff.mp h).1
  have h2 := (List.getElem?_eq_some_iff.mp e).1
  have := (List.getElem_inj (h₀ := h2) (h₁ := h1) nd).mp (by rw [(List.getElem?_eq_some_iff.mp e).2, (List.getElem?_eq_some_iff.mp h).2])
  omega
/-! ### (cost, way) < (cost, way), the ways' heads unlike -/
theorem toPys_nat : ∀ l : List Nat, toPys (l.map kN) = some (l.map fun n : Nat => PyData.int (n : Int))
  | [] => rfl
  | n :: l => by
    have := toPys_nat l
    rw [List.map_cons, toPys]
    simp only [toPy, this]
    rfl
theorem alike_nat : ∀ l m : List Nat, l.length ≤ m.length → PySem.W.alikeAll (l.map fun n : Nat => PyData.int (n : Int)) (m.map fun n : Nat => PyData.int (n : Int)) = true
  | [], m, _ => by simp [PySem.W.alikeAll]
  | n :: l, [], h => by simp at h
  | n :: l, k :: m, h => by
    rw [List.map_cons, List.map_cons, PySem.W.alikeAll, alike_nat l m (by simpa using h)]; rfl
theorem depth_nat (l : List Nat) : PyData.depthAll (l.map fun n : Nat => PyData.int (n : Int)) = 0 := by
  induction l with
  | nil => rfl
  | cons n l ih => rw [List.map_cons, PyData.depthAll, ih]; rfl
def tellD (a : Int) (w : List Nat) : D := .tup [.int a, .tup (w.map kN)]
theorem ltP_ev {a b : Int} {r q : Nat} {w v : List Nat} (hl : w.length = v.length) (hr : q < r) : dLtP (tellD a (r :: w)) (tellD b (q :: v)) = some (.bl (decide (a < b))) := by
  have tp : ∀ (a : Int) (w : List Nat), toPy (tellD a w) = some (.tuple [.int a, .tuple (w.map fun n : Nat => PyData.int (n : Int))]) := fun a w => by
    unfold tellD
    simp only [toPy, toPys, toPys_nat, Option.map_some]
  unfold dLtP
  rw [tp, tp]
  dsimp only
  have al2 : PySem.W.alike (.tuple ((r :: w).map fun n : Nat => PyData.int (n : Int))) (.tuple ((q :: v).map fun n : Nat => PyData.int (n : Int))) = true := by
    rw [PySem.W.alike]; exact alike_nat _ _ (by simp [hl])
  have al : PySem.W.alike (.tuple [.int a, .tuple ((r :: w).map fun n : Nat => PyData.int (n : Int))]) (.tuple [.int b, .tuple ((q :: v).map fun n : Nat => PyData.int (n : Int))]) = true := by
    rw [PySem.W.alike, PySem.W.alikeAll, PySem.W.alikeAll, al2]; rfl
  have dep : (PyData.tuple [.int a, .tuple ((r :: w).map fun n : Nat => PyData.int (n : Int))]).depth ≤ 64 := by
    have := depth_nat (r :: w)
    simp only [PyData.depth, PyData.depthAll, this]
    decide
  rw [if_pos ⟨al, dep⟩]
  congr 2
  rw [PySem.W.dataLt_tuple]
  by_cases h : a = b
  · subst h
    rw [PySem.W.dataLt_all_yes rfl (by simp [PyData.eqv])]
    have hne : PyData.eqv (.int (r : Int)) (.int (q : Int)) = false := by simp only [PyData.eqv, beq_eq_false_iff_ne]; omega
    rw [PySem.W.dataLt_all_no al2 (by simp only [PyData.eqv, List.map_cons, PyData.eqvAll, Bool.and_eq_false_iff]; exact .inl (by simpa [PyData.eqv] using hne)), PySem.W.dataLt_tuple, List.map_cons, List.map_cons, PySem.W.dataLt_all_no rfl hne, PySem.W.dataLt_int]
    rw [decide_eq_false (by omega), decide_eq_false (by omega)]
  · rw [PySem.W.dataLt_all_no rfl (by simp only [PyData.eqv, beq_eq_false_iff_ne]; exact h), PySem.W.dataLt_int]
end DL
end

section
set_option Elab.async false
set_option linter.all false
set_option maxRecDepth 100000
set_option maxHeartbeats 4000000
/-! K19a: the kinds costs and truths as least sums -/
namespace K19
open PySem PySem.Spec PyProof.Rows L2 DL Bf Tr
def cn (c : Bool) : Str := if c then "Costs" else "Truths"
def kd (c : Bool) : D := .obj (cn c) [] []
/-- a weight: None is no cost; of truths, 0 is True -/
def en (c : Bool) (x : T) : D := match c, x with
  | true, none => .non
  | true, some i => .int i
  | false, none => .bl false
  | false, some _ => .bl true
def Vt (c : Bool) (x : T) : Prop := c = true ∨ x = none ∨ x = some 0
theorem vt_min {c : Bool} {x y : T} (hx : Vt c x) (hy : Vt c y) : Vt c (tmin x y) := by
  rcases hx with h | rfl | rfl
  · exact .inl h
  · exact hy
  · rcases hy with h | rfl | rfl
    · exact .inl h
    · exact .inr (.inr rfl)
    · exact .inr (.inr rfl)
theorem vt_add {c : Bool} {x y : T} (hx : Vt c x) (hy : Vt c y) : Vt c (tadd x y) := by
  rcases hx with h | rfl | rfl
  · exact .inl h
  · exact .inr (.inl rfl)
  · rcases hy with h | rfl | rfl
    · exact .inl h
    · exact .inr (.inl rfl)
    · exact .inr (.inr rfl)
theorem vt_none {c : Bool} : Vt c none := .inr (.inl rfl)
theorem vt_zero {c : Bool} : Vt c (some 0) := .inr (.inr rfl)
theorem ne_ct : ("Truths" : Str) ≠ "Costs" := by decide +kernel
theorem tb_pick {c : Bool} {g1 g2 : List D → Option D} : (if cn c = "Costs" then some g1 else if cn c = "Truths" then some g2 else none) = some (if c then g1 else g2) := by
  cases c with
  | true => exact if_pos rfl
  | false => exact (if_neg ne_ct).trans (if_pos rfl)
theorem nn {d : D} : noneB d = some false → dIs d .non = some (.bl false) := fun h => by unfold dIs; simp only [h]; rfl
theorem g_plus {c : Bool} {x y : T} (hx : Vt c x) (hy : Vt c y) : (if c then g_Costs_plus else g_Truths_plus) [kd c, en c x, en c y] = some (en c (tmin x y)) := by
  cases c with
  | true =>
    show g_Costs_plus [kd true, en true x, en true y] = _
    cases x with
    | none => exact fnD_ex rfl ⟨_, seq_rt (if_t (b_ev (q_ev (qlook_ev rfl rfl rfl))) (ret_ev (q_ev rfl)))⟩
    | some a =>
      cases y with
      | none => exact fnD_ex rfl ⟨_, seq_ev (if_f (b_ev (q_ev (qlook_ev rfl rfl rfl))) rfl) (seq_rt (if_t (b_ev (q_ev (qlook_ev rfl rfl rfl))) (ret_ev (q_ev rfl))))⟩
      | some b => exact fnD_ex rfl ⟨_, seq_ev (if_f (b_ev (q_ev (qlook_ev rfl rfl rfl))) rfl) (seq_ev (if_f (b_ev (q_ev (qlook_ev rfl rfl rfl))) rfl) (ret_ev (args_ev (cons_ev (q_ev rfl) (cons_ev (q_ev rfl) nil_ev)) rfl)))⟩
  | false =>
    show g_Truths_plus [kd false, en false x, en false y] = _
    cases x with
    | none =>
      refine fnD_ex rfl ⟨[.val (kd false), .val (en false none), .val (en false y)], ret_ev ?_⟩
      unfold fOrV; rfl
    | some a =>
      refine fnD_ex rfl ⟨[.val (kd false), .val (en false (some a)), .val (en false y)], ret_ev ?_⟩
      unfold fOrV
      cases y <;> rfl
theorem g_times {c : Bool} {x y : T} (hx : Vt c x) (hy : Vt c y) : (if c then g_Costs_times else g_Truths_times) [kd c, en c x, en c y] = some (en c (tadd x y)) := by
  cases c with
  | true =>
    show g_Costs_times [kd true, en true x, en true y] = _
    cases x with
    | none => exact fnD_ex rfl ⟨_, seq_rt (if_t (or_t (b_ev (q_ev (qlook_ev rfl rfl rfl)))) (ret_ev (q_ev rfl)))⟩
    | some a =>
      cases y with
      | none => exact fnD_ex rfl ⟨_, seq_rt (if_t (or_ev (b_ev (q_ev (qlook_ev rfl rfl rfl))) (b_ev (q_ev (qlook_ev rfl rfl rfl)))) (ret_ev (q_ev rfl)))⟩
      | some b => exact fnD_ex rfl ⟨_, seq_ev (if_f (or_ev (b_ev (q_ev (qlook_ev rfl rfl rfl))) (b_ev (q_ev (qlook_ev rfl rfl rfl)))) rfl) (ret_ev (q_ev (qbin_ev rfl rfl rfl)))⟩
  | false =>
    show g_Truths_times [kd false, en false x, en false y] = _
    cases x with
    | none =>
      refine fnD_ex rfl ⟨[.val (kd false), .val (en false none), .val (en false y)], ret_ev ?_⟩
      unfold fAndV; rfl
    | some a =>
      refine fnD_ex rfl ⟨[.val (kd false), .val (en false (some a)), .val (en false y)], ret_ev ?_⟩
      unfold fAndV
      cases y <;> rfl
theorem g_nought {c : Bool} : (if c then g_Costs_nought else g_Truths_nought) [kd c] = some (en c none) := by
  cases c with
  | true => show g_Costs_nought [kd true] = _; exact fnD_ex rfl ⟨_, ret_ev (q_ev rfl)⟩
  | false => show g_Truths_nought [kd false] = _; exact fnD_ex rfl ⟨_, ret_ev (q_ev rfl)⟩
theorem g_one {c : Bool} : (if c then g_Costs_one else g_Truths_one) [kd c] = some (en c (some 0)) := by
  cases c with
  | true => show g_Costs_one [kd true] = _; exact fnD_ex rfl ⟨_, ret_ev (q_ev rfl)⟩
  | false => show g_Truths_one [kd false] = _; exact fnD_ex rfl ⟨_, ret_ev (q_ev rfl)⟩
theorem g_picks {c : Bool} : (if c then g_Costs_picks else g_Truths_picks) [kd c] = some (.bl true) := by
  cases c with
  | true => show g_Costs_picks [kd true] = _; exact fnD_ex rfl ⟨_, ret_ev (q_ev rfl)⟩
  | false => show g_Truths_picks [kd false] = _; exact fnD_ex rfl ⟨_, ret_ev (q_ev rfl)⟩
section
variable {ρ ρ1 ρ2 : List DL.Slot} {c : Bool} {fo : FE} {fa : FA} {x y : T}
theorem plus_ev (h1 : fo ρ = some (kd c, ρ1)) (h2 : fa ρ1 = some ([en c x, en c y], ρ2)) (hx : Vt c x) (hy : Vt c y) : fMeth "plus" tb_plus fo fa ρ = some (en c (tmin x y), ρ2) := meth_ev h1 tb_pick h2 (g_plus hx hy)
theorem times_ev (h1 : fo ρ = some (kd c, ρ1)) (h2 : fa ρ1 = some ([en c x, en c y], ρ2)) (hx : Vt c x) (hy : Vt c y) : fMeth "times" tb_times fo fa ρ = some (en c (tadd x y), ρ2) := meth_ev h1 tb_pick h2 (g_times hx hy)
theorem nought_ev (h1 : fo ρ = some (kd c, ρ1)) : fMeth "nought" tb_nought fo fNil ρ = some (en c none, ρ1) := meth_ev h1 tb_pick nil_ev g_nought
theorem one_ev (h1 : fo ρ = some (kd c, ρ1)) : fMeth "one" tb_one fo fNil ρ = some (en c (some 0), ρ1) := meth_ev h1 tb_pick nil_ev g_one
theorem picks_ev (h1 : fo ρ = some (kd c, ρ1)) : fMeth "picks" tb_picks fo fNil ρ = some (.bl true, ρ1) := meth_ev h1 tb_pick nil_ev g_picks
end
theorem dEq_en {c : Bool} {x y : T} (hx : Vt c x) (hy : Vt c y) : dEqB (en c x) (en c y) = some (decide (x = y)) := by
  have key : ∀ p q : PyData, toPy (en c x) = some p → toPy (en c y) = some q → SeqAt.shaped p = true → SeqAt.shaped q = true → PyData.eqv p q = decide (x = y) → dEqB (en c x) (en c y) = some (decide (x = y)) := fun p q h1 h2 h3 h4 h5 => by
    unfold dEqB
    simp only [h1, h2, h3, h4, and_self, if_true, h5]
  cases c with
  | true =>
    cases x with
    | none =>
      cases y with
      | none => exact key .none .none rfl rfl rfl rfl (by simp [PyData.eqv])
      | some b => exact key .none (.int b) rfl rfl rfl rfl (by simp [PyData.eqv])
    | some a =>
      cases y with
      | none => exact key (.int a) .none rfl rfl rfl rfl (by simp [PyData.eqv])
      | some b => exact key (.int a) (.int b) rfl rfl rfl rfl (by rw [Bool.eq_iff_iff]; simp [PyData.eqv])
  | false =>
    rcases hx with h | rfl | rfl
    · cases h
    · rcases hy with h | rfl | rfl
      · cases h
      · exact key (.bool false) (.bool false) rfl rfl rfl rfl (by simp [PyData.eqv])
      · exact key (.bool false) (.bool true) rfl rfl rfl rfl (by simp [PyData.eqv])
    · rcases hy with h | rfl | rfl
      · cases h
      · exact key (.bool true) (.bool false) rfl rfl rfl rfl (by simp [PyData.eqv])
      · exact key (.bool true) (.bool true) rfl rfl rfl rfl (by simp [PyData.eqv])
theorem eq_en {c : Bool} {x y : T} (hx : Vt c x) (hy : Vt c y) : dEq (en c x) (en c y) = some (.bl (decide (x = y))) := by unfold dEq; rw [dEq_en hx hy]
theorem ne_en {c : Bool} {x y : T} (hx : Vt c x) (hy : Vt c y) : dNe (en c x) (en c y) = some (.bl (!decide (x = y))) := by unfold dNe; rw [dEq_en hx hy]
/-! ### rows -/
abbrev Vr (c : Bool) (l : List T) : Prop := ∀ x ∈ l, Vt c x
abbrev eR (c : Bool) : List T → D := kTu (en c)
theorem vt_dotF {c : Bool} : ∀ (l : List (T × T)) (t : T), Vt c t → (∀ p ∈ l, Vt c p.1 ∧ Vt c p.2) → Vt c (dotF t l)
  | [], t, h, _ => h
  | p :: l, t, h, hl => vt_dotF l _ (vt_min h (vt_add (hl p List.mem_cons_self).1 (hl p List.mem_cons_self).2)) fun q hq => hl q (List.mem_cons_of_mem _ hq)
theorem vt_dot {c : Bool} {r k : List T} (hr : Vr c r) (hk : Vr c k) : Vt c (dot r k) := vt_dotF _ _ vt_none fun p hp => ⟨hr _ (List.of_mem_zip hp).1, hk _ (List.of_mem_zip hp).2⟩
theorem dotF_snoc (t : T) (l : List (T × T)) (p : T × T) : dotF t (l ++ [p]) = tmin (dotF t l) (tadd p.1 p.2) := by unfold dotF; rw [List.foldl_append]; rfl
theorem e_dot {c : Bool} {r k : List T} (hr : Vr c r) (hk : Vr c k) : g_dot [kd c, eR c r, eR c k] = some (en c (dot r k)) := by
  obtain ⟨ρ', f1, s4, s5, rfl⟩ := for_ev (ρ := [.val (kd c), .val (eR c r), .val (eR c k), .val (en c none), .un, .un]) (f := fZip (fCons (fq (qVar 1)) (fCons (fq (qVar 2)) fNil))) (g := gT 2 (gsC (gN 4) (gsC (gN 5) gs0)))
    (F := fAsg (fMeth "plus" tb_plus (fq (qVar 0)) (fCons (fq (qVar 3)) (fCons (fMeth "times" tb_times (fq (qVar 0)) (fCons (fq (qVar 4)) (fCons (fq (qVar 5)) fNil))) fNil))) (gN 3))
    (r.zip k) (fun p => .tup [en c p.1, en c p.2]) (fun pre ρ => ∃ s4 s5, ρ = [.val (kd c), .val (eR c r), .val (eR c k), .val (en c (dotF none pre)), s4, s5])
    ((zip_ev (q_ev rfl) (q_ev rfl) rfl rfl).trans (by rw [zipD_map] <;> rfl)) ⟨.un, .un, rfl⟩ (by
      rintro pre p post ρ e ⟨s4, s5, rfl⟩
      have hz : ∀ q ∈ r.zip k, Vt c q.1 ∧ Vt c q.2 := fun q hq => ⟨hr _ (List.of_mem_zip hq).1, hk _ (List.of_mem_zip hq).2⟩
      have hp := hz p (by rw [e]; simp)
      have hpre : Vt c (dotF none pre) := vt_dotF pre none vt_none fun q hq => hz q (by rw [e]; exact List.mem_append_left _ hq)
      refine ⟨[.val (kd c), .val (eR c r), .val (eR c k), .val (en c (dotF none pre)), .val (en c p.1), .val (en c p.2)], _, rfl, asg_ev (plus_ev (q_ev rfl) (cons_ev (q_ev rfl) (cons_ev (times_ev (q_ev rfl) (cons_ev (q_ev rfl) (cons_ev (q_ev rfl) nil_ev)) hp.1 hp.2) nil_ev)) hpre (vt_add hp.1 hp.2)) rfl, .val (en c p.1), .val (en c p.2), ?_⟩
      rw [dotF_snoc]; rfl)
  refine fnD_ex rfl ⟨[.val (kd c), .val (eR c r), .val (eR c k), .val (en c (dot r k)), s4, s5], ?_⟩
  unfold F_dot
  exact seq_ev (asg_ev (nought_ev (q_ev rfl)) rfl) (seq_ev f1 (ret_ev (q_ev rfl)))
end K19
end

section
set_option Elab.async false
set_option linter.all false
set_option maxRecDepth 100000
set_option maxHeartbeats 4000000
/-! K19b: words, tables, rows ahead, columns behind -/
namespace K19
open PySem PySem.Spec PyProof.Rows L2 DL Bf Tr
/-! ### data that can be laid -/
structure Lay {α : Type} (f : α → D) (n : Nat) : Prop where
  ex : ∃ py : α → PyData, ∀ a, toPy (f a) = some (py a) ∧ (py a).canLay0 = true ∧ (py a).depth ≤ n
theorem lay_en {c : Bool} : Lay (en c) 0 := ⟨fun x => match c, x with
  | true, none => .none
  | true, some i => .int i
  | false, none => .bool false
  | false, some _ => .bool true, fun x => by cases c <;> cases x <;> exact ⟨rfl, rfl, Nat.le_refl _⟩⟩
theorem lay_tu {α : Type} {f : α → D} {n : Nat} (h : Lay f n) : Lay (kTu f) (n + 1) := by
  obtain ⟨py, h⟩ := h.ex
  refine ⟨fun l => .tuple (l.map py), fun l => ⟨?_, ?_, ?_⟩⟩
  · simp only [toPy, toPys_map fun a => (h a).1]; rfl
  · simp only [PyData.canLay0]; exact lay_all (fun a => (h a).2.1) l
  · simp only [PyData.depth]; exact Nat.succ_le_succ (depth_all (fun a => (h a).2.2) l)
theorem eq_nil {α : Type} {f : α → D} {n : Nat} (h : Lay f n) (hn : n + 1 ≤ 64) (l : List α) : dEq (kTu f l) (.tup []) = some (.bl (decide (l.length = 0))) := by
  obtain ⟨q, h⟩ := h.ex
  have h1 : toPy (kTu f l) = some (.tuple (l.map q)) := by simp only [toPy, toPys_map fun a => (h a).1]; rfl
  have s1 : SeqAt.shaped (.tuple (l.map q)) = true := by
    unfold SeqAt.shaped
    simp only [PyData.canLay0, PyData.depth, lay_all (fun a => (h a).2.1) l, Bool.true_and]
    exact decide_eq_true (Nat.le_trans (Nat.succ_le_succ (depth_all (fun a => (h a).2.2) l)) hn)
  have e2 : toPy (.tup []) = some (.tuple []) := rfl
  have e : dEqB (kTu f l) (.tup []) = some (PyData.eqv (.tuple (l.map q)) (.tuple [])) := by
    unfold dEqB
    simp only [h1, e2, s1, show SeqAt.shaped (.tuple []) = true from rfl, and_self, if_true]
  unfold dEq
  rw [e]
  simp only
  congr 2
  cases l with
  | nil => simp [PyData.eqv, PyData.eqvAll]
  | cons a l => simp [PyData.eqv, PyData.eqvAll]
/-! ### words -/
def sg (ls : Str) (i : Nat) : Nat := (ls.cps.toList[i]?).getD 0
def wd (ls : Str) (u : List Nat) : Str := ⟨(u.map (sg ls)).toArray⟩
abbrev sD (ls : Str) (i : Nat) : D := .str ⟨#[sg ls i]⟩
theorem wd_signs {ls : Str} {u : List Nat} : (DL.signs (wd ls u)).map D.str = u.map (sD ls) := by
  unfold DL.signs wd
  simp only [List.map_map]
  rfl
theorem wd_signsR {ls : Str} {u : List Nat} : (DL.signs (wd ls u)).reverse.map D.str = u.reverse.map (sD ls) := by
  rw [List.map_reverse, wd_signs, List.map_reverse]
theorem wd_len {ls : Str} {u : List Nat} : (wd ls u).length = u.length := by
  unfold wd Str.length
  simp
theorem sg_at {ls : Str} {i : Nat} (h : i < ls.length) : ls.cps.toList[i]? = some (sg ls i) := by
  unfold sg
  have : i < ls.cps.toList.length := by simpa [Str.length] using h
  rw [List.getElem?_eq_getElem this]; rfl
def em (c : Bool) (ls : Str) (s : List T) (ts : List (List (List T))) (e : List T) : D := .tup [.str ls, eR c s, kTu (kTu (eR c)) ts, eR c e]
structure Ok (c : Bool) (n : Nat) (ls : Str) (s : List T) (ts : List (List (List T))) (e : List T) : Prop where
  nd : ls.cps.toList.Nodup
  len : ts.length = ls.length
  few : ls.length ≤ 3
  sq : ∀ t ∈ ts, Sq n t
  hs : s.length = n
  he : e.length = n
  hn : n ≤ 20
  vs : Vr c s
  ve : Vr c e
  vt : ∀ t ∈ ts, ∀ r ∈ t, Vr c r
abbrev Wd (ls : Str) (u : List Nat) : Prop := (∀ i ∈ u, i < ls.length) ∧ u.length ≤ 40
section
variable {c : Bool} {n : Nat} {ls : Str} {s : List T} {ts : List (List (List T))} {e : List T} {u : List Nat}
theorem e_check (hu : Wd ls u) : g_check_word [.str ls, .str (wd ls u)] = some .non := by
  obtain ⟨ρ', f1, s2, rfl⟩ := for_ev (ρ := [.val (.str ls), .val (.str (wd ls u)), .un]) (f := fIter (fq (qVar 1))) (g := gN 2) (F := fIfS (fB (fq (qLook dNotInX (qVar 2) (qVar 0)))) fNever fNext) u (sD ls) (fun _ ρ => ∃ s2, ρ = [.val (.str ls), .val (.str (wd ls u)), s2])
    (by
      unfold fIter
      rw [q_ev (d := .str (wd ls u)) rfl]
      show some ((DL.signs (wd ls u)).map D.str, _) = _
      rw [wd_signs] <;> rfl) ⟨.un, rfl⟩ (by
      rintro pre i post ρ e ⟨s2, rfl⟩
      have hi := hu.1 i (by rw [e]; simp)
      have hin : dNotInX (sD ls i) (.str ls) = some (.bl false) := by
        have hm : sg ls i ∈ ls.cps.toList := List.mem_of_getElem? (sg_at hi)
        show some (D.bl (!decide (sg ls i ∈ ls.cps.toList))) = _
        rw [decide_eq_true hm]; rfl
      exact ⟨_, _, rfl, if_f (b_ev (q_ev (qlook_ev rfl rfl hin))) rfl, _, rfl⟩)
  have h : F_check_word [.val (.str ls), .val (.str (wd ls u)), .un] = some (.nx [.val (.str ls), .val (.str (wd ls u)), s2]) := by
    unfold F_check_word
    exact seq_ev (if_f (not_ev (b := true) (b_ev (q_ev (qargs_ev (qcons_ev rfl (qcons_ev rfl rfl)) rfl)))) rfl) f1
  unfold g_check_word fnD
  simp only [List.length_cons, List.length_nil, if_true]
  show (match F_check_word [.val (.str ls), .val (.str (wd ls u)), .un] with | some (.rt d _) => some d | some (.nx _) => some .non | _ => none) = _
  rw [h]
theorem e_table (ok : Ok c n ls s ts e) {i : Nat} {t : List (List T)} (ht : ts[i]? = some t) : g_table_of [em c ls s ts e, sD ls i] = some (kTu (eR c) t) := by
  have hi : i < ls.length := by rw [← ok.len]; exact (List.getElem?_eq_some_iff.mp ht).1
  exact fnD_ex rfl ⟨_, ret_ev (q_ev (qbin_ev (qbin_ev rfl rfl dIx_t2) (qbin_ev (qbin_ev rfl rfl dIx_t0) rfl (idxS_nd ok.nd (sg_at hi))) (dIx_tup ht)))⟩
theorem szn {k : Nat} (h : k ≤ 40) : k ≤ sizeLine := Nat.le_trans h (by decide)
theorem e_column {t : List (List T)} (sq : Sq n t) (hn : n ≤ 20) {k : Nat} (hk : k < n) : g_column_at [kTu (eR c) t, kN k] = some (eR c (t.map fun r => (r[k]?).getD none)) := by
  have h := lc_map (ρ := [.val (kTu (eR c) t), .val (kN k), .un]) (f := fIter (fq (qVar 0))) (g := gN 2) (e := fq (qBin dIx (qVar 2) (qVar 1))) (vs := [2]) t (eR c) (fun r => en c ((r[k]?).getD none)) (iter_tup (q_ev rfl)) rfl (szn (by have := sq.1; omega)) fun r hr => by
    have hlt : k < r.length := by rw [sq.2 r hr]; exact hk
    have e1 : r[k]? = some ((r[k]?).getD none) := by rw [List.getElem?_eq_getElem hlt]; rfl
    exact ⟨_, rfl, _, q_ev (qbin_ev rfl rfl (dIx_tup e1)), rfl⟩
  refine fnD_ex rfl ⟨_, ret_ev (args_ev (cons_ev h nil_ev) ?_)⟩
  simp only [dTuple_l, eR, kTu, List.map_map]; rfl
theorem vr_col {t : List (List T)} (vt : ∀ r ∈ t, Vr c r) {k : Nat} : Vr c (t.map fun r => (r[k]?).getD none) := fun x hx => by
  obtain ⟨r, hr, rfl⟩ := List.mem_map.mp hx
  cases q : r[k]? with
  | none => exact vt_none
  | some y => exact vt r hr y (List.mem_of_getElem? q)
theorem vr_rowBy {row : List T} {t : List (List T)} (hr : Vr c row) (vt : ∀ r ∈ t, Vr c r) : Vr c (rowBy n row t) := fun x hx => by
  obtain ⟨k, _, rfl⟩ := List.mem_map.mp hx
  exact vt_dot hr (vr_col vt)
theorem e_rowBy {row : List T} {t : List (List T)} (sq : Sq n t) (hn : n ≤ 20) (hr : Vr c row) (vt : ∀ r ∈ t, Vr c r) : g_row_by [kd c, eR c row, kTu (eR c) t] = some (eR c (rowBy n row t)) := by
  have hb : fB (fBin dEq (fq (qVar 2)) (fArgs dTup fNil)) [.val (kd c), .val (eR c row), .val (kTu (eR c) t), .un] = some (decide (t.length = 0), [.val (kd c), .val (eR c row), .val (kTu (eR c) t), .un]) :=
    b_ev (bin_ev (q_ev rfl) (args_ev nil_ev rfl) (eq_nil (lay_tu lay_en) (by decide) t))
  by_cases h0 : n = 0
  · subst h0
    rw [sq.1, decide_eq_true rfl] at hb
    refine fnD_ex rfl ⟨_, seq_rt (if_t hb (ret_ev (args_ev nil_ev rfl)))⟩
  · rw [sq.1, decide_eq_false h0] at hb
    obtain ⟨r0, hr0⟩ : ∃ r, t[0]? = some r := ⟨_, List.getElem?_eq_getElem (show 0 < t.length by rw [sq.1]; omega)⟩
    have hl0 := sq.2 r0 (List.mem_of_getElem? hr0)
    have hlen : qArgs dLen (qCons (qBin dIx (qVar 2) (qC (.int 0))) qNil) [.val (kd c), .val (eR c row), .val (kTu (eR c) t), .un] = some (.int (n : Int)) := by
      refine qargs_ev (qcons_ev (qbin_ev rfl rfl (dIx_tup (i := 0) hr0)) rfl) ?_
      rw [dLen_t, List.length_map, hl0]
    have h := lc_map (ρ := [.val (kd c), .val (eR c row), .val (kTu (eR c) t), .un]) (f := fRange (fCons (fq (qArgs dLen (qCons (qBin dIx (qVar 2) (qC (.int 0))) qNil))) fNil)) (g := gN 3) (e := fq (qArgs g_dot (qCons (qVar 0) (qCons (qVar 1) (qCons (qArgs g_column_at (qCons (qVar 2) (qCons (qVar 3) qNil))) qNil))))) (vs := [3]) (List.range n) kN (fun k => en c (dot row (t.map fun r => (r[k]?).getD none)))
      (range_ev (q_ev hlen) (by omega)) rfl (szr (by omega)) fun k hk => by
        exact ⟨_, rfl, _, q_ev (qargs_ev (qcons_ev rfl (qcons_ev rfl (qcons_ev (qargs_ev (qcons_ev rfl (qcons_ev rfl rfl)) (e_column sq hn (List.mem_range.mp hk))) rfl))) (e_dot hr (vr_col vt))), rfl⟩
    refine fnD_ex rfl ⟨_, seq_ev (if_f hb rfl) (ret_ev (args_ev (cons_ev h nil_ev) ?_))⟩
    simp only [dTuple_l, eR, kTu, rowBy, List.map_map]; rfl
theorem e_byCol {t : List (List T)} {k : List T} (sq : Sq n t) (hn : n ≤ 20) (vt : ∀ r ∈ t, Vr c r) (hk : Vr c k) : g_by_column [kd c, kTu (eR c) t, eR c k] = some (eR c (t.map fun r => dot r k)) := by
  have h := lc_map (ρ := [.val (kd c), .val (kTu (eR c) t), .val (eR c k), .un]) (f := fIter (fq (qVar 1))) (g := gN 3) (e := fq (qArgs g_dot (qCons (qVar 0) (qCons (qVar 3) (qCons (qVar 2) qNil))))) (vs := [3]) t (eR c) (fun r => en c (dot r k)) (iter_tup (q_ev rfl)) rfl (szn (by have := sq.1; omega)) fun r hr =>
    ⟨_, rfl, _, q_ev (qargs_ev (qcons_ev rfl (qcons_ev rfl (qcons_ev rfl rfl))) (e_dot (vt r hr) hk)), rfl⟩
  refine fnD_ex rfl ⟨_, ret_ev (args_ev (cons_ev h nil_ev) ?_)⟩
  simp only [dTuple_l, eR, kTu, List.map_map]; rfl
/-- the tables of a word -/
def tb (ts : List (List (List T))) (u : List Nat) : List (List (List T)) := u.map fun i => (ts[i]?).getD []
theorem tb_at (ok : Ok c n ls s ts e) {i : Nat} (hi : i < ls.length) : ∃ t, ts[i]? = some t ∧ (ts[i]?).getD [] = t ∧ t ∈ ts := by
  have h : i < ts.length := by rw [ok.len]; exact hi
  exact ⟨ts[i], List.getElem?_eq_getElem h, by rw [List.getElem?_eq_getElem h]; rfl, List.getElem_mem h⟩
theorem tb_sq (ok : Ok c n ls s ts e) (hu : ∀ i ∈ u, i < ls.length) : ∀ t ∈ tb ts u, Sq n t ∧ ∀ r ∈ t, Vr c r := fun t ht => by
  obtain ⟨i, hi, rfl⟩ := List.mem_map.mp ht
  obtain ⟨t, h1, h2, h3⟩ := tb_at ok (hu i hi)
  rw [h2]
  exact ⟨ok.sq t h3, ok.vt t h3⟩
theorem vr_ahead (ok : Ok c n ls s ts e) : ∀ {v : List (List (List T))} {row : List T}, Vr c row → (∀ t ∈ v, Sq n t ∧ ∀ r ∈ t, Vr c r) → Vr c (ahead n row v)
  | [], row, h, _ => h
  | t :: v, row, h, hv => by
    show Vr c (ahead n (rowBy n row t) v)
    exact vr_ahead ok (v := v) (vr_rowBy h (hv t List.mem_cons_self).2) fun t' ht' => hv t' (List.mem_cons_of_mem _ ht')
theorem ahead_snoc {row : List T} {v : List (List (List T))} {t : List (List T)} : ahead n row (v ++ [t]) = rowBy n (ahead n row v) t := by
  unfold ahead
  rw [List.foldl_append]; rfl
theorem e_ahead (ok : Ok c n ls s ts e) (hu : Wd ls u) : g_ahead [kd c, em c ls s ts e, .str (wd ls u)] = some (eR c (ahead n s (tb ts u))) := by
  obtain ⟨ρ', f1, s4, rfl⟩ := for_ev (ρ := [.val (kd c), .val (em c ls s ts e), .val (.str (wd ls u)), .val (eR c s), .un]) (f := fIter (fq (qVar 2))) (g := gN 4) (F := fAsg (fq (qArgs g_row_by (qCons (qVar 0) (qCons (qVar 3) (qCons (qArgs g_table_of (qCons (qVar 1) (qCons (qVar 4) qNil))) qNil))))) (gN 3)) u (sD ls)
    (fun pre ρ => ∃ s4, ρ = [.val (kd c), .val (em c ls s ts e), .val (.str (wd ls u)), .val (eR c (ahead n s (tb ts pre))), s4])
    (by
      unfold fIter
      rw [q_ev (d := .str (wd ls u)) rfl]
      show some ((DL.signs (wd ls u)).map D.str, _) = _
      rw [wd_signs] <;> rfl) ⟨.un, rfl⟩ (by
      rintro pre i post ρ e1 ⟨s4, rfl⟩
      have hi := hu.1 i (by rw [e1]; simp)
      obtain ⟨t, h1, h2, h3⟩ := tb_at ok hi
      have hpre := tb_sq ok (u := pre) fun j hj => hu.1 j (by rw [e1]; exact List.mem_append_left _ hj)
      refine ⟨[.val (kd c), .val (em c ls s ts e), .val (.str (wd ls u)), .val (eR c (ahead n s (tb ts pre))), .val (sD ls i)], _, rfl, asg_ev (q_ev (qargs_ev (qcons_ev rfl (qcons_ev rfl (qcons_ev (qargs_ev (qcons_ev rfl (qcons_ev rfl rfl)) (e_table ok h1)) rfl))) (e_rowBy (ok.sq t h3) ok.hn (vr_ahead ok ok.vs hpre) (ok.vt t h3)))) rfl, .val (sD ls i), ?_⟩
      rw [show tb ts (pre ++ [i]) = tb ts pre ++ [t] by unfold tb; rw [List.map_append, List.map_singleton, h2], ahead_snoc]; rfl)
  refine fnD_ex rfl ⟨[.val (kd c), .val (em c ls s ts e), .val (.str (wd ls u)), .val (eR c (ahead n s (tb ts u))), s4], ?_⟩
  unfold F_ahead
  exact seq_ev (drop_ev (q_ev (qargs_ev (qcons_ev (qbin_ev rfl rfl dIx_t0) (qcons_ev rfl rfl)) (e_check hu)))) (seq_ev (asg_ev (q_ev (qbin_ev rfl rfl dIx_t1)) rfl) (seq_ev f1 (ret_ev (q_ev rfl))))
theorem vr_colS (ok : Ok c n ls s ts e) : ∀ {v : List (List (List T))}, (∀ t ∈ v, Sq n t ∧ ∀ r ∈ t, Vr c r) → Vr c (col v e)
  | [], _ => ok.ve
  | t :: v, hv => fun x hx => by
    obtain ⟨r, hr, rfl⟩ := List.mem_map.mp hx
    exact vt_dot ((hv t List.mem_cons_self).2 r hr) (vr_colS ok fun t' ht' => hv t' (List.mem_cons_of_mem _ ht'))
/-- what weighs a word -/
theorem e_weight (ok : Ok c n ls s ts e) (hu : Wd ls u) : g_weight [kd c, em c ls s ts e, .str (wd ls u)] = some (en c (dot s (col (tb ts u) e))) := by
  have h := tb_sq ok hu.1
  have hw := weight_eq (n := n) (e := e) ok.he (ts := tb ts u) (row := s) ok.hs fun t ht => (h t ht).1
  rw [← hw]
  exact fnD_ex rfl ⟨_, ret_ev (q_ev (qargs_ev (qcons_ev rfl (qcons_ev (qargs_ev (qcons_ev rfl (qcons_ev rfl (qcons_ev rfl rfl))) (e_ahead ok hu)) (qcons_ev (qbin_ev rfl rfl dIx_t3) rfl))) (e_dot (vr_ahead ok ok.vs h) ok.ve)))⟩
/-- the columns, the empty end's first -/
def cols (ts : List (List (List T))) (e : List T) (v : List Nat) : List (List T) := (List.range (v.length + 1)).map fun k => col (tb ts (v.take k).reverse) e
theorem cols_snoc {v : List Nat} {i : Nat} : cols ts e (v ++ [i]) = cols ts e v ++ [col (tb ts (v ++ [i]).reverse) e] := by
  unfold cols
  rw [List.length_append, List.length_singleton, List.range_succ, List.map_append, List.map_singleton]
  congr 1
  · refine List.map_congr_left fun k hk => ?_
    rw [List.take_append_of_le_length (by have := List.mem_range.mp hk; omega)]
  · rw [List.take_of_length_le (by simp)]
theorem e_columns (ok : Ok c n ls s ts e) (hu : Wd ls u) : g_columns_of [kd c, em c ls s ts e, .str (wd ls u)] = some (kLs (eR c) (cols ts e u.reverse)) := by
  obtain ⟨ρ', f1, s4, rfl⟩ := for_ev (ρ := [.val (kd c), .val (em c ls s ts e), .val (.str (wd ls u)), .box false (bx (eR c) [e]), .un]) (f := fRevS (fq (qVar 2))) (g := gN 4) (F := fDrop (fChg 3 (fpN 3) (qCons (qArgs g_by_column (qCons (qVar 0) (qCons (qArgs g_table_of (qCons (qVar 1) (qCons (qVar 4) qNil))) (qCons (fpV (fpIx (fpN 3) (qUn dNeg (qC (.int 1))))) qNil)))) qNil) chApp)) u.reverse (sD ls)
    (fun pre ρ => ∃ s4, ρ = [.val (kd c), .val (em c ls s ts e), .val (.str (wd ls u)), .box false (bx (eR c) (cols ts e pre)), s4])
    ((revS_ev (q_ev rfl) (by rw [wd_len]; have := hu.2; omega)).trans (by rw [wd_signsR] <;> rfl)) ⟨.un, rfl⟩ (by
      rintro pre i post ρ e1 ⟨s4, rfl⟩
      have mem : ∀ j ∈ pre ++ [i], j < ls.length := fun j hj => hu.1 j (List.mem_reverse.mp (by rw [e1]; rcases List.mem_append.mp hj with h | h; exact List.mem_append_left _ h; exact List.mem_append_right _ (by rw [List.mem_singleton.mp h]; exact List.mem_cons_self)))
      obtain ⟨t, h1, h2, h3⟩ := tb_at ok (mem i (by simp))
      have hpre := tb_sq ok (u := pre.reverse) fun j hj => mem j (List.mem_append_left _ (List.mem_reverse.mp hj))
      have hlast : ∃ l, cols ts e pre = l ++ [col (tb ts pre.reverse) e] := by
        refine ⟨(List.range pre.length).map fun k => col (tb ts (pre.take k).reverse) e, ?_⟩
        unfold cols
        rw [List.range_succ, List.map_append, List.map_singleton, List.take_length]
      obtain ⟨l, hl⟩ := hlast
      have hval : qArgs g_by_column (qCons (qVar 0) (qCons (qArgs g_table_of (qCons (qVar 1) (qCons (qVar 4) qNil))) (qCons (fpV (fpIx (fpN 3) (qUn dNeg (qC (.int 1))))) qNil))) [.val (kd c), .val (em c ls s ts e), .val (.str (wd ls u)), .box false (bx (eR c) (cols ts e pre)), .val (sD ls i)] = some (eR c (col (tb ts (pre ++ [i]).reverse) e)) := by
        rw [List.reverse_append, List.reverse_singleton, List.singleton_append]
        show _ = some (eR c (((ts[i]?).getD []).map fun row => dot row (col (tb ts pre.reverse) e)))
        rw [h2]
        exact qargs_ev (qcons_ev rfl (qcons_ev (qargs_ev (qcons_ev rfl (qcons_ev rfl rfl)) (e_table ok h1)) (qcons_ev (place_last (f := eR c) (l := l) (a := col (tb ts pre.reverse) e) (o := false) (by rw [← hl]; rfl) rfl) rfl))) (e_byCol (ok.sq t h3) ok.hn (ok.vt t h3) (vr_colS ok hpre))
      have hcl : (cols ts e pre).length < sizeLine := by
        have : (cols ts e pre).length ≤ 50 := by
          have h4 := congrArg List.length e1
          simp only [List.length_reverse, List.length_append, List.length_cons] at h4
          have := hu.2
          unfold cols
          rw [List.length_map, List.length_range]; omega
        exact Nat.lt_of_le_of_lt this (by decide)
      refine ⟨[.val (kd c), .val (em c ls s ts e), .val (.str (wd ls u)), .box false (bx (eR c) (cols ts e pre)), .val (sD ls i)], _, rfl, drop_ev (app_ev (f := eR c) (l := cols ts e pre) (a := col (tb ts (pre ++ [i]).reverse) e) rfl (qcons_ev hval rfl) hcl), .val (sD ls i), ?_⟩
      rw [← cols_snoc]; rfl)
  refine fnD_ex rfl ⟨[.val (kd c), .val (em c ls s ts e), .val (.str (wd ls u)), .val (kLs (eR c) (cols ts e u.reverse)), s4], ?_⟩
  unfold F_columns_of
  exact seq_ev (box1_ev (q_ev (qbin_ev rfl rfl dIx_t3))) (seq_ev f1 (ret_ev (thaw_ev (f := eR c) (l := cols ts e u.reverse) rfl)))
theorem cols_len {v : List Nat} : (cols ts e v).length = v.length + 1 := by simp [cols]
theorem cols_at {k : Nat} (hk : k ≤ u.length) : (cols ts e u.reverse)[u.length - k]? = some (col ((tb ts u).drop k) e) := by
  unfold cols
  rw [List.getElem?_map, List.getElem?_range (by rw [List.length_reverse]; omega)]
  simp only [Option.map_some]
  congr 2
  rw [List.take_reverse, List.reverse_reverse, show u.length - (u.length - k) = k by omega]
  unfold tb
  rw [List.map_drop]
end
end K19
end

section
set_option Elab.async false
set_option linter.all false
set_option maxRecDepth 100000
set_option maxHeartbeats 4000000
/-! K19c: the best way, a way's weight -/
namespace K19
open PySem PySem.Spec PyProof.Rows L2 DL Bf Tr
theorem dIx_last {α : Type} {f : α → D} {l : List α} {a : α} : dIx (.lst ((l ++ [a]).map f)) (.int (-1)) = some (f a) := by
  unfold dIx atI ixN
  simp only [List.length_map, List.length_append, List.length_singleton]
  rw [if_neg (by omega), if_pos (by omega)]
  simp only [Option.bind_some]
  rw [show (-1 + ((l.length + 1 : Nat) : Int)).toNat = l.length by omega, List.map_append, List.getElem?_append_right (by simp), List.length_map, Nat.sub_self]
  rfl
theorem dIx_lastT {α : Type} {f : α → D} {l : List α} {a : α} : dIx (.tup ((l ++ [a]).map f)) (.int (-1)) = some (f a) := by
  unfold dIx atI ixN
  simp only [List.length_map, List.length_append, List.length_singleton]
  rw [if_neg (by omega), if_pos (by omega)]
  simp only [Option.bind_some]
  rw [show (-1 + ((l.length + 1 : Nat) : Int)).toNat = l.length by omega, List.map_append, List.getElem?_append_right (by simp), List.length_map, Nat.sub_self]
  rfl
section
variable {c : Bool} {n : Nat} {ls : Str} {s : List T} {ts : List (List (List T))} {e : List T} {u : List Nat}
def gS (c : Bool) (so : Int) (row k : List T) (due : Int) (j : Nat) : List DL.Slot := [.val (kd c), .val (en c (some so)), .val (eR c row), .val (eR c k), .val (en c (some due)), if j = 0 then .un else .val (kN (j - 1)), if j = 0 then .un else .val (en c ((row[j - 1]?).getD none))]
theorem e_first {so due x d : Int} {row k : List T} {r : Nat} (hr : row.length = n) (hk : k.length = n) (vr : Vr c row) (vk : Vr c k) (vs : Vt c (some so)) (vd : Vt c (some due)) (h1 : row[r]? = some (some x)) (h2 : k[r]? = some (some d)) (hd : so + (x + d) = due)
    (first : ∀ (j : Nat) (x' d' : Int), j < r → row[j]? = some (some x') → k[j]? = some (some d') → x' + d' ≠ x + d) : g_first_good [kd c, en c (some so), eR c row, eR c k, en c (some due)] = some (kN r) := by
  have hrn : r < n := by rw [← hr]; exact (List.getElem?_eq_some_iff.mp h1).1
  have one : ∀ j y, row[j]? = some y → ∃ z, k[j]? = some z ∧ fB (fBin dEq (fMeth "times" tb_times (fq (qVar 0)) (fCons (fMeth "times" tb_times (fq (qVar 0)) (fCons (fq (qVar 1)) (fCons (fq (qVar 6)) fNil))) (fCons (fq (qBin dIx (qVar 3) (qVar 5))) fNil))) (fq (qVar 4))) (gS c so row k due (j + 1)) = some (decide (tadd (tadd (some so) y) z = some due), gS c so row k due (j + 1)) := fun j y hy => by
    have hj : j < n := by rw [← hr]; exact (List.getElem?_eq_some_iff.mp hy).1
    obtain ⟨z, hz⟩ : ∃ z, k[j]? = some z := ⟨_, List.getElem?_eq_getElem (by rw [hk]; exact hj)⟩
    have vy := vr y (List.mem_of_getElem? hy)
    have vz := vk z (List.mem_of_getElem? hz)
    have e6 : gS c so row k due (j + 1) = [.val (kd c), .val (en c (some so)), .val (eR c row), .val (eR c k), .val (en c (some due)), .val (kN j), .val (en c y)] := by
      unfold gS
      rw [if_neg (Nat.succ_ne_zero j), if_neg (Nat.succ_ne_zero j), Nat.add_sub_cancel, hy]; rfl
    rw [e6]
    exact ⟨z, hz, b_ev (bin_ev (times_ev (q_ev rfl) (cons_ev (times_ev (q_ev rfl) (cons_ev (q_ev rfl) (cons_ev (q_ev rfl) nil_ev)) vs vy) (cons_ev (q_ev (qbin_ev rfl rfl (dIx_tup hz))) nil_ev)) (vt_add vs vy) vz) (q_ev rfl) (eq_en (vt_add (vt_add vs vy) vz) vd))⟩
  have gg : ∀ j y, row[j]? = some y → (gT 2 (gsC (gN 5) (gsC (gN 6) gs0))) (.tup [.int (j : Nat), en c y]) (gS c so row k due j) = some (gS c so row k due (j + 1)) := fun j y hy => by
    have e6 : gS c so row k due (j + 1) = [.val (kd c), .val (en c (some so)), .val (eR c row), .val (eR c k), .val (en c (some due)), .val (kN j), .val (en c y)] := by
      unfold gS
      rw [if_neg (Nat.succ_ne_zero j), if_neg (Nat.succ_ne_zero j), Nat.add_sub_cancel, hy]; rfl
    rw [e6]; rfl
  have zi : ∀ (j : Nat) (p : T × Nat), (row.zipIdx)[j]? = some p → p.2 = j ∧ row[j]? = some p.1 := fun j p hp => by
    rw [List.getElem?_zipIdx] at hp
    obtain ⟨y, h3, h4⟩ := Option.map_eq_some_iff.mp hp
    cases h4
    exact ⟨by simp, h3⟩
  have loop := for_rt (ρ := gS c so row k due 0) (f := fEnum (fCons (fq (qVar 2)) fNil)) (g := gT 2 (gsC (gN 5) (gsC (gN 6) gs0)))
    (F := fIfS (fB (fBin dEq (fMeth "times" tb_times (fq (qVar 0)) (fCons (fMeth "times" tb_times (fq (qVar 0)) (fCons (fq (qVar 1)) (fCons (fq (qVar 6)) fNil))) (fCons (fq (qBin dIx (qVar 3) (qVar 5))) fNil))) (fq (qVar 4)))) (fRet (fq (qVar 5))) fNext)
    row.zipIdx (fun p => .tup [.int (p.2 : Nat), en c p.1]) r (gS c so row k due) (by rw [List.length_zipIdx, hr]; exact hrn) (enum_tup (q_ev rfl)) (fun j hj p hp => by
      obtain ⟨e1, e2⟩ := zi j p hp
      obtain ⟨z, hz, ht⟩ := one j p.1 e2
      rw [decide_eq_false (fun eq => by
        cases hp1 : p.1 with
        | none => rw [hp1] at eq; cases eq
        | some x' =>
          rw [hp1] at eq e2
          cases z with
          | none => cases eq
          | some d' =>
            have eq' : so + x' + d' = due := Option.some.inj eq
            exact first j x' d' hj e2 hz (by omega))] at ht
      rw [e1]
      exact ⟨_, gg j p.1 e2, if_f ht rfl⟩) (d := kN r) (ρ' := gS c so row k due (r + 1)) (fun p hp => by
      obtain ⟨e1, e2⟩ := zi r p hp
      rw [h1] at e2
      have e3 : p.1 = some x := (Option.some.inj e2).symm
      obtain ⟨z, hz, ht⟩ := one r (some x) h1
      rw [h2] at hz
      cases hz
      rw [decide_eq_true (show tadd (tadd (some so) (some x)) (some d) = some due from congrArg some (show so + x + d = due by omega))] at ht
      rw [e1, e3]
      refine ⟨_, gg r (some x) h1, if_t ht (ret_ev (q_ev ?_))⟩
      unfold gS
      rw [if_neg (Nat.succ_ne_zero r)]; rfl)
  refine fnD_ex rfl ⟨gS c so row k due (r + 1), ?_⟩
  unfold F_first_good
  exact seq_rt loop
/-- behind a room -/
def Aft (v : List (List (List T))) (e : List T) (r : Nat) (w : List Nat) (k : Int) : Prop := (v = [] → w = [] ∧ e[r]? = some (some k)) ∧ ∀ t v', v = t :: v' → ∃ row', t[r]? = some row' ∧ Good v' e row' k w
theorem tb_drop {k : Nat} (hk : k < u.length) : (tb ts u).drop k = (ts[u[k]]?).getD [] :: (tb ts u).drop (k + 1) := by
  unfold tb
  rw [← List.map_drop, ← List.map_drop, List.drop_eq_getElem_cons hk]; rfl
theorem tb_len : (tb ts u).length = u.length := by simp [tb]
theorem word_at (hu : Wd ls u) {k : Nat} (hk : k < u.length) : dIx (.str (wd ls u)) (.int (k : Nat)) = some (sD ls u[k]) := by
  unfold dIx
  simp only
  rw [if_pos (by rw [wd_len]; exact szn hu.2)]
  have h : (DL.signs (wd ls u))[k]? = some ⟨#[sg ls u[k]]⟩ := by
    unfold DL.signs wd
    rw [List.getElem?_map]
    simp [List.getElem?_eq_getElem hk]
  rw [DL.atI_nat h]; rfl
def wS (c : Bool) (ls : Str) (s : List T) (ts : List (List (List T))) (e : List T) (u : List Nat) (due : Int) (way : List Nat) (so : Int) (row : List T) (s8 s9 : DL.Slot) : List DL.Slot :=
  [.val (kd c), .val (em c ls s ts e), .val (.str (wd ls u)), .val (kLs (eR c) (cols ts e u.reverse)), .val (en c (some due)), .val (kTu kN way), .val (en c (some so)), .val (eR c row), s8, s9]
noncomputable def stepF : FS := (fSeq (fAsg (fq (qArgs g_first_good (qCons (qVar 0) (qCons (qVar 6) (qCons (qVar 7) (qCons (qBin dIx (qVar 3) (qBin dSub (qArgs dLen (qCons (qVar 2) qNil)) (qVar 8))) (qCons (qVar 4) qNil))))))) (gN 9))
  (fSeq (fAsg (fMeth "times" tb_times (fq (qVar 0)) (fCons (fq (qVar 6)) (fCons (fq (qBin dIx (qVar 7) (qVar 9))) fNil))) (gN 6))
  (fSeq (fAsg (fBin dAdd (fq (qVar 5)) (fArgs dTup (fCons (fq (qVar 9)) fNil))) (gN 5))
  (fIfS (fB (fq (qLook dLt (qVar 8) (qArgs dLen (qCons (qVar 2) qNil))))) (fAsg (fq (qBin dIx (qArgs g_table_of (qCons (qVar 1) (qCons (qBin dIx (qVar 2) (qVar 8)) qNil))) (qVar 9))) (gN 7)) fNext))))
theorem len_wd (hu : Wd ls u) : dLen [.str (wd ls u)] = some (.int (u.length : Nat)) := by
  simp only [dLen]
  rw [if_pos (by rw [wd_len]; exact szn hu.2), wd_len]
theorem best_step (ok : Ok c n ls s ts e) (hu : Wd ls u) {due so d : Int} {way W : List Nat} {row : List T} {k : Nat} {s9 : DL.Slot} (hk : k ≤ u.length) (hrow : row.length = n) (vr : Vr c row) (vs : Vt c (some so)) (vd : Vt c (some due))
    (hg : Good ((tb ts u).drop k) e row d W) (hs : so + d = due) (hw : way.length ≤ 50) : ∃ r w so' row', W = r :: w ∧ Vt c (some so') ∧ Vr c row' ∧ row'.length = n ∧ (k < u.length → ∃ d', Good ((tb ts u).drop (k + 1)) e row' d' w ∧ so' + d' = due) ∧
      stepF (wS c ls s ts e u due way so row (.val (kN k)) s9) = some (.nx (wS c ls s ts e u due (way ++ [r]) so' row' (.val (kN k)) (.val (kN r)))) := by
  obtain ⟨r, w, x, b, rfl, h1, h2, rfl, h4, h5, h6⟩ := good_step hg
  have hdr : ∀ t ∈ (tb ts u).drop k, Sq n t ∧ ∀ r ∈ t, Vr c r := fun t ht => tb_sq ok hu.1 t (List.mem_of_mem_drop ht)
  have hc := vr_colS ok hdr
  have hcl : (col ((tb ts u).drop k) e).length = n := col_len ok.he fun t ht => (hdr t ht).1
  have vx := vr _ (List.mem_of_getElem? h1)
  have e1 : qArgs g_first_good (qCons (qVar 0) (qCons (qVar 6) (qCons (qVar 7) (qCons (qBin dIx (qVar 3) (qBin dSub (qArgs dLen (qCons (qVar 2) qNil)) (qVar 8))) (qCons (qVar 4) qNil))))) (wS c ls s ts e u due way so row (.val (kN k)) s9) = some (kN r) := by
    refine qargs_ev (qcons_ev rfl (qcons_ev rfl (qcons_ev rfl (qcons_ev (qbin_ev rfl (qbin_ev (qargs_ev (qcons_ev rfl rfl) (len_wd hu)) rfl sub_ev) ?_) (qcons_ev rfl rfl))))) (e_first hrow hcl vr hc vs vd h1 h2 hs h4)
    rw [show ((u.length : Nat) : Int) - (k : Nat) = ((u.length - k : Nat) : Int) by omega]
    exact dIx_lst (cols_at hk)
  have a1 := asg_ev (g := gN 9) (q_ev (ρ := wS c ls s ts e u due way so row (.val (kN k)) s9) e1) rfl
  have a2 : fAsg (fMeth "times" tb_times (fq (qVar 0)) (fCons (fq (qVar 6)) (fCons (fq (qBin dIx (qVar 7) (qVar 9))) fNil))) (gN 6) (wS c ls s ts e u due way so row (.val (kN k)) (.val (kN r))) = some (.nx (wS c ls s ts e u due way (so + x) row (.val (kN k)) (.val (kN r)))) :=
    asg_ev (times_ev (x := some so) (y := some x) (q_ev rfl) (cons_ev (q_ev rfl) (cons_ev (q_ev (qbin_ev rfl rfl (dIx_tup h1))) nil_ev)) vs vx) rfl
  have a3 : fAsg (fBin dAdd (fq (qVar 5)) (fArgs dTup (fCons (fq (qVar 9)) fNil))) (gN 5) (wS c ls s ts e u due way (so + x) row (.val (kN k)) (.val (kN r))) = some (.nx (wS c ls s ts e u due (way ++ [r]) (so + x) row (.val (kN k)) (.val (kN r)))) := by
    refine asg_ev (d := kTu kN (way ++ [r])) (bin_ev (q_ev rfl) (args_ev (cons_ev (q_ev rfl) nil_ev) rfl) ?_) rfl
    show (if (way.map kN).length + 1 ≤ sizeLine then some (D.tup (way.map kN ++ [kN r])) else none) = _
    rw [if_pos (sz (by rw [List.length_map]; omega)), kTu, List.map_append]; rfl
  have t4 : fB (fq (qLook dLt (qVar 8) (qArgs dLen (qCons (qVar 2) qNil)))) (wS c ls s ts e u due (way ++ [r]) (so + x) row (.val (kN k)) (.val (kN r))) = some (decide (((k : Nat) : Int) < (u.length : Nat)), wS c ls s ts e u due (way ++ [r]) (so + x) row (.val (kN k)) (.val (kN r))) :=
    b_ev (q_ev (qlook_ev rfl (qargs_ev (qcons_ev rfl rfl) (len_wd hu)) lt_ev))
  have vso : Vt c (some (so + x)) := vt_add (x := some so) (y := some x) vs vx
  unfold stepF
  by_cases hlt : k < u.length
  · rw [decide_eq_true (by omega)] at t4
    obtain ⟨row', h7, h8⟩ := h6 _ _ (tb_drop hlt)
    obtain ⟨t, q1, q2, q3⟩ := tb_at ok (hu.1 u[k] (List.getElem_mem hlt))
    rw [q2] at h7
    have hr' := List.mem_of_getElem? h7
    refine ⟨r, w, so + x, row', rfl, vso, ok.vt t q3 row' hr', (ok.sq t q3).2 row' hr', fun _ => ⟨b, h8, by omega⟩, ?_⟩
    exact seq_ev a1 (seq_ev a2 (seq_ev a3 (if_t t4 (asg_ev (q_ev (qbin_ev (qargs_ev (qcons_ev rfl (qcons_ev (qbin_ev rfl rfl (word_at hu hlt)) rfl)) (e_table ok q1)) rfl (dIx_tup h7))) rfl))))
  · rw [decide_eq_false (by omega)] at t4
    exact ⟨r, w, so + x, row, rfl, vso, vr, hrow, fun h => absurd h hlt, seq_ev a1 (seq_ev a2 (seq_ev a3 (if_f t4 rfl)))⟩
end
end K19
end

section
set_option Elab.async false
set_option linter.all false
set_option maxRecDepth 100000
set_option maxHeartbeats 4000000
/-! K19d: the best way whole, a way's weight, ways told -/
namespace K19
open PySem PySem.Spec PyProof.Rows L2 DL Bf Tr
section
variable {c : Bool} {n : Nat} {ls : Str} {s : List T} {ts : List (List (List T))} {e : List T} {u : List Nat}
theorem last_col : ∃ l, cols ts e u.reverse = l ++ [col (tb ts u) e] := by
  refine ⟨(List.range u.reverse.length).map fun k => col (tb ts (u.reverse.take k).reverse) e, ?_⟩
  unfold cols
  rw [List.range_succ, List.map_append, List.map_singleton, List.take_length, List.reverse_reverse]
theorem e_due (ok : Ok c n ls s ts e) (hu : Wd ls u) {r : List DL.Slot} : qArgs g_dot (qCons (qVar 0) (qCons (qBin dIx (qVar 1) (qC (.int 1))) (qCons (qBin dIx (qVar 3) (qUn dNeg (qC (.int 1)))) qNil))) (.val (kd c) :: .val (em c ls s ts e) :: .val (.str (wd ls u)) :: .val (kLs (eR c) (cols ts e u.reverse)) :: r) = some (en c (dot s (col (tb ts u) e))) := by
  obtain ⟨l, hl⟩ := last_col (ts := ts) (e := e) (u := u)
  refine qargs_ev (qcons_ev rfl (qcons_ev (qbin_ev rfl rfl dIx_t1) (qcons_ev (qbin_ev rfl rfl ?_) rfl))) (e_dot ok.vs (vr_colS ok (tb_sq ok hu.1)))
  rw [hl]
  exact dIx_last
theorem best_start (ok : Ok c n ls s ts e) (hu : Wd ls u) {F : FS} {o : Out} (h : F [.val (kd c), .val (em c ls s ts e), .val (.str (wd ls u)), .val (kLs (eR c) (cols ts e u.reverse)), .val (en c (dot s (col (tb ts u) e))), .un, .un, .un, .un, .un] = some o) :
    (fSeq (fIfS (fNot (fB (fMeth "picks" tb_picks (fq (qVar 0)) fNil))) fNever fNext)
  (fSeq (fDrop (fq (qArgs g_check_word (qCons (qBin dIx (qVar 1) (qC (.int 0))) (qCons (qVar 2) qNil)))))
  (fSeq (fAsg (fq (qArgs g_columns_of (qCons (qVar 0) (qCons (qVar 1) (qCons (qVar 2) qNil))))) (gN 3))
  (fSeq (fAsg (fq (qArgs g_dot (qCons (qVar 0) (qCons (qBin dIx (qVar 1) (qC (.int 1))) (qCons (qBin dIx (qVar 3) (qUn dNeg (qC (.int 1)))) qNil))))) (gN 4)) F)))) [.val (kd c), .val (em c ls s ts e), .val (.str (wd ls u)), .un, .un, .un, .un, .un, .un, .un] = some o :=
  seq_ev (if_f (not_ev (b := true) (b_ev (picks_ev (q_ev rfl)))) rfl) (seq_ev (drop_ev (q_ev (qargs_ev (qcons_ev (qbin_ev rfl rfl dIx_t0) (qcons_ev rfl rfl)) (e_check hu))))
    (seq_ev (asg_ev (q_ev (qargs_ev (qcons_ev rfl (qcons_ev rfl (qcons_ev rfl rfl))) (e_columns ok hu))) rfl) (seq_ev (asg_ev (q_ev (e_due ok hu)) rfl) h)))
theorem e_best_none (ok : Ok c n ls s ts e) (hu : Wd ls u) (h : dot s (col (tb ts u) e) = none) : g_best_way [kd c, em c ls s ts e, .str (wd ls u)] = some .non := by
  have hv := vt_dot ok.vs (vr_colS ok (tb_sq ok hu.1))
  refine fnD_ex rfl ⟨[.val (kd c), .val (em c ls s ts e), .val (.str (wd ls u)), .val (kLs (eR c) (cols ts e u.reverse)), .val (en c (dot s (col (tb ts u) e))), .un, .un, .un, .un, .un], ?_⟩
  unfold F_best_way
  exact best_start ok hu (seq_rt (if_t ((b_ev (bin_ev (q_ev rfl) (nought_ev (q_ev rfl)) (eq_en hv vt_none))).trans (by rw [decide_eq_true h])) (ret_ev (q_ev rfl))))
theorem e_best (ok : Ok c n ls s ts e) (hu : Wd ls u) {d : Int} {W : List Nat} (hg : Good (tb ts u) e s d W) : g_best_way [kd c, em c ls s ts e, .str (wd ls u)] = some (kTu kN W) := by
  have hv := vt_dot ok.vs (vr_colS ok (tb_sq ok hu.1))
  have hd : dot s (col (tb ts u) e) = some d := by rw [← due_eq, show bestOf s (com (tb ts u) e) = some (d, W) from hg]; rfl
  rw [hd] at hv
  have hW : W.length = u.length + 1 := by rw [good_len hg, tb_len]
  obtain ⟨ρ', f1, so, row, s8, s9, ⟨_, _, _, _⟩, rfl⟩ := for_ev (ρ := wS c ls s ts e u d [] 0 s .un .un) (f := fRange (fCons (fq (qBin dAdd (qArgs dLen (qCons (qVar 2) qNil)) (qC (.int 1)))) fNil)) (g := gN 8) (F := stepF) (List.range (u.length + 1)) kN
    (fun pre ρ => ∃ so row s8 s9, (Vt c (some so) ∧ Vr c row ∧ row.length = n ∧ (pre.length ≤ u.length → ∃ d', Good ((tb ts u).drop pre.length) e row d' (W.drop pre.length) ∧ so + d' = d)) ∧ ρ = wS c ls s ts e u d (W.take pre.length) so row s8 s9)
    (range_ev (q_ev (qbin_ev (qargs_ev (qcons_ev rfl rfl) (len_wd hu)) rfl rfl)) (by have := hu.2; omega)) ⟨0, s, .un, .un, ⟨vt_zero, ok.vs, ok.hs, fun _ => ⟨d, hg, by omega⟩⟩, rfl⟩ (by
      rintro pre k post ρ e1 ⟨so, row, s8, s9, ⟨v1, v2, v3, v4⟩, rfl⟩
      have hlt : pre.length < u.length + 1 := by have := congrArg List.length e1; simp at this; omega
      have ek : k = pre.length := by
        have := congrArg (fun z : List Nat => z[pre.length]?) e1
        simp only [List.getElem?_append_right (Nat.le_refl _), Nat.sub_self, List.getElem?_cons_zero] at this
        rw [List.getElem?_range hlt] at this
        exact (Option.some.inj this).symm
      subst ek
      obtain ⟨d', hg', hs'⟩ := v4 (by omega)
      obtain ⟨r, w, so', row', e2, q1, q2, q3, q4, q5⟩ := best_step ok hu (due := d) (so := so) (way := W.take pre.length) (s9 := s9) (by omega) v3 v2 v1 hv hg' hs' (by rw [List.length_take]; have := hu.2; omega)
      have e3 : W.drop (pre.length + 1) = w := by rw [← List.drop_drop, e2]; rfl
      have e4 : W.take (pre.length + 1) = W.take pre.length ++ [r] := by
        rw [List.take_add_one]
        have : W[pre.length]? = some r := by rw [← List.head?_drop, e2]; rfl
        rw [this]; rfl
      refine ⟨wS c ls s ts e u d (W.take pre.length) so row (.val (kN pre.length)) s9, _, rfl, q5, so', row', .val (kN pre.length), .val (kN r), ⟨q1, q2, q3, fun hle => ?_⟩, ?_⟩
      · rw [List.length_append, List.length_singleton] at hle ⊢
        rw [e3]
        exact q4 (by omega)
      · rw [List.length_append, List.length_singleton, e4])
  rw [List.length_range, ← hW, List.take_length] at f1
  refine fnD_ex rfl ⟨wS c ls s ts e u d W so row s8 s9, ?_⟩
  unfold F_best_way
  refine best_start ok hu (seq_ev (if_f ((b_ev (bin_ev (q_ev rfl) (nought_ev (q_ev rfl)) (eq_en (by rw [hd]; exact hv) vt_none))).trans (by rw [hd, decide_eq_false (by simp)])) rfl) ?_)
  refine seq_ev (asg_ev (args_ev nil_ev rfl) rfl) (seq_ev (asg_ev (one_ev (q_ev rfl)) rfl) (seq_ev (asg_ev (q_ev (qbin_ev rfl rfl dIx_t1)) rfl) (seq_ev f1 (ret_ev (q_ev rfl)))))
def yS (c : Bool) (ls : Str) (s : List T) (ts : List (List (List T))) (e : List T) (u : List Nat) (W : List Nat) (t : Int) (s5 s6 : DL.Slot) : List DL.Slot := [.val (kd c), .val (em c ls s ts e), .val (.str (wd ls u)), .val (kTu kN W), .val (en c (some t)), s5, s6]
theorem drop_cons {W : List Nat} {k r : Nat} {w : List Nat} (h : W.drop k = r :: w) : W[k]? = some r ∧ W.drop (k + 1) = w := ⟨by rw [← List.head?_drop, h]; rfl, by rw [← List.drop_drop, h]; rfl⟩
theorem e_way (ok : Ok c n ls s ts e) (hu : Wd ls u) {d : Int} {W : List Nat} (hg : Good (tb ts u) e s d W) : g_way_weight [kd c, em c ls s ts e, .str (wd ls u), kTu kN W] = some (en c (some d)) := by
  obtain ⟨r0, w0, x0, b0, e0, h1, h2, h3, _, h5, h6⟩ := good_step hg
  have vx0 := ok.vs _ (List.mem_of_getElem? h1)
  have hW : W.length = u.length + 1 := by rw [good_len hg, tb_len]
  have hz : fEnum (fCons (fq (qVar 2)) fNil) (yS c ls s ts e u W x0 .un .un) = some (u.zipIdx.map (fun p => .tup [.int (p.2 : Nat), sD ls p.1]), yS c ls s ts e u W x0 .un .un) := by
    unfold fEnum
    rw [cons_ev (q_ev (d := .str (wd ls u)) rfl) nil_ev]
    show some (enumD 0 ((DL.signs (wd ls u)).map D.str), _) = _
    rw [wd_signs, enumD_map]
  obtain ⟨ρ', f1, t, r, w, k, s5, s6, ⟨g1, g2, g3, g4⟩, rfl⟩ := for_ev (ρ := yS c ls s ts e u W x0 .un .un) (f := fEnum (fCons (fq (qVar 2)) fNil)) (g := gT 2 (gsC (gN 5) (gsC (gN 6) gs0)))
    (F := fAsg (fMeth "times" tb_times (fq (qVar 0)) (fCons (fq (qVar 4)) (fCons (fq (qBin dIx (qBin dIx (qArgs g_table_of (qCons (qVar 1) (qCons (qVar 6) qNil))) (qBin dIx (qVar 3) (qVar 5))) (qBin dIx (qVar 3) (qBin dAdd (qVar 5) (qC (.int 1)))))) fNil))) (gN 4)) u.zipIdx (fun p => .tup [.int (p.2 : Nat), sD ls p.1])
    (fun pre ρ => ∃ t r w k s5 s6, (W.drop pre.length = r :: w ∧ Aft ((tb ts u).drop pre.length) e r w k ∧ t + k = d ∧ Vt c (some t)) ∧ ρ = yS c ls s ts e u W t s5 s6) hz ⟨x0, r0, w0, b0, .un, .un, ⟨e0, ⟨h5, h6⟩, h3.symm, vx0⟩, rfl⟩ (by
      rintro pre p post ρ e1 ⟨t, r, w, k, s5, s6, ⟨g1, g2, g3, g4⟩, rfl⟩
      have hlt : pre.length < u.length := by have := congrArg List.length e1; simp at this; omega
      have ep : p = (u[pre.length], pre.length) := by
        have := congrArg (fun z : List (Nat × Nat) => z[pre.length]?) e1
        simp only [List.getElem?_append_right (Nat.le_refl _), Nat.sub_self, List.getElem?_cons_zero] at this
        rw [List.getElem?_zipIdx, List.getElem?_eq_getElem hlt] at this
        have h := Option.some.inj this
        rw [← h]; simp
      subst ep
      obtain ⟨row', h7, h8⟩ := g2.2 _ _ (tb_drop hlt)
      obtain ⟨tt, q1, q2, q3⟩ := tb_at ok (hu.1 u[pre.length] (List.getElem_mem hlt))
      rw [q2] at h7
      obtain ⟨r2, w2, x2, b2, rfl, m1, m2, m3, _, m5, m6⟩ := good_step h8
      have vx2 := ok.vt tt q3 row' (List.mem_of_getElem? h7) _ (List.mem_of_getElem? m1)
      obtain ⟨a1, a2⟩ := drop_cons g1
      obtain ⟨a3, a4⟩ := drop_cons a2
      have hv : qBin dIx (qBin dIx (qArgs g_table_of (qCons (qVar 1) (qCons (qVar 6) qNil))) (qBin dIx (qVar 3) (qVar 5))) (qBin dIx (qVar 3) (qBin dAdd (qVar 5) (qC (.int 1)))) (yS c ls s ts e u W t (.val (kN pre.length)) (.val (sD ls u[pre.length]))) = some (en c (some x2)) :=
        qbin_ev (qbin_ev (qargs_ev (qcons_ev rfl (qcons_ev rfl rfl)) (e_table ok q1)) (qbin_ev rfl rfl (dIx_tup a1)) (dIx_tup h7)) (qbin_ev rfl (qbin_ev rfl rfl rfl) (dIx_tup (i := pre.length + 1) a3)) (dIx_tup m1)
      refine ⟨yS c ls s ts e u W t (.val (kN pre.length)) (.val (sD ls u[pre.length])), _, rfl, asg_ev (times_ev (x := some t) (y := some x2) (q_ev rfl) (cons_ev (q_ev rfl) (cons_ev (q_ev hv) nil_ev)) g4 vx2) rfl, t + x2, r2, w2, b2, .val (kN pre.length), .val (sD ls u[pre.length]), ⟨?_, ?_, by omega, vt_add (x := some t) (y := some x2) g4 vx2⟩, rfl⟩
      · rw [List.length_append, List.length_singleton]; exact a2
      · rw [List.length_append, List.length_singleton]; exact ⟨m5, m6⟩)
  rw [List.length_zipIdx] at g1 g2
  obtain ⟨rfl, h8⟩ := g2.1 (List.drop_of_length_le (by rw [tb_len]; exact Nat.le_refl _))
  have hWs : W = W.take u.length ++ [r] := by
    have := List.take_append_drop u.length W
    rw [g1] at this
    exact this.symm
  have hlast : dIx (kTu kN W) (.int (-1)) = some (kN r) := by
    rw [hWs]
    exact dIx_lastT
  refine fnD_ex rfl ⟨yS c ls s ts e u W t s5 s6, ?_⟩
  unfold F_way_weight
  refine seq_ev (drop_ev (q_ev (qargs_ev (qcons_ev (qbin_ev rfl rfl dIx_t0) (qcons_ev rfl rfl)) (e_check hu)))) (seq_ev (asg_ev (q_ev (d := en c (some x0)) (qbin_ev (qbin_ev rfl rfl dIx_t1) (qbin_ev (y := .int ((0 : Nat) : Int)) rfl rfl (dIx_tup (i := 0) (by rw [e0]; rfl))) (dIx_tup h1))) rfl) (seq_ev f1 ?_))
  have ve := ok.ve _ (List.mem_of_getElem? h8)
  have := times_ev (x := some t) (y := some k) (ρ := yS c ls s ts e u W t s5 s6) (fo := fq (qVar 0)) (fa := fCons (fq (qVar 4)) (fCons (fq (qBin dIx (qBin dIx (qVar 1) (qC (.int 3))) (qBin dIx (qVar 3) (qUn dNeg (qC (.int 1)))))) fNil)) (q_ev rfl) (cons_ev (q_ev rfl) (cons_ev (q_ev (qbin_ev (qbin_ev rfl rfl dIx_t3) (qbin_ev rfl rfl hlast) (dIx_tup h8))) nil_ev)) g4 ve
  rw [show tadd (some t) (some k) = some d from congrArg some g3] at this
  exact ret_ev this
end
/-! ### told ways -/
theorem way_rooms {n : Nat} {e : List T} (he : e.length = n) : ∀ {v : List (List (List T))} {row : List T} {d : Int} {W : List Nat}, row.length = n → (∀ t ∈ v, Sq n t) → Good v e row d W → ∀ r ∈ W, r < n
  | [], row, d, W, hr, _, hg => by
    obtain ⟨r, w, x, b, rfl, h1, _, _, _, h5, _⟩ := good_step hg
    obtain ⟨rfl, _⟩ := h5 rfl
    intro q hq
    rw [List.mem_singleton.mp hq, ← hr]
    exact (List.getElem?_eq_some_iff.mp h1).1
  | t :: v, row, d, W, hr, hv, hg => by
    obtain ⟨r, w, x, b, rfl, h1, _, _, _, _, h6⟩ := good_step hg
    obtain ⟨row', h7, h8⟩ := h6 t v rfl
    intro q hq
    rcases List.mem_cons.mp hq with rfl | hq
    · rw [← hr]; exact (List.getElem?_eq_some_iff.mp h1).1
    · exact way_rooms he ((hv t List.mem_cons_self).2 row' (List.mem_of_getElem? h7)) (fun t' ht' => hv t' (List.mem_cons_of_mem _ ht')) h8 q hq
theorem sum_le {l : List Nat} {b : Nat} (h : ∀ x ∈ l, x ≤ b) : l.sum ≤ b * l.length := by
  induction l with
  | nil => simp
  | cons x l ih =>
    have := ih fun y hy => h y (List.mem_cons_of_mem _ hy)
    have h0 := h x List.mem_cons_self
    rw [List.sum_cons, List.length_cons, Nat.mul_succ]
    omega
theorem repr_way {W : List Nat} (hl : W.length ≤ 41) (hr : ∀ r ∈ W, r < 20) : ∃ z, dRepr [kTu kN W] = some (.str z) := by
  have tp : toPy (kTu kN W) = some (.tuple (W.map fun n : Nat => PyData.int (n : Int))) := by simp only [toPy, toPys_nat]; rfl
  have sh : PyData.showableAll (W.map fun n : Nat => PyData.int (n : Int)) = true := by
    clear tp hl
    induction W with
    | nil => rfl
    | cons r W ih =>
      rw [List.map_cons, PyData.showableAll, ih fun q hq => hr q (List.mem_cons_of_mem _ hq), Bool.and_true]
      simp only [PyData.showable]
      have := hr r List.mem_cons_self
      refine decide_eq_true ?_
      have : r.log2 ≤ r := Nat.log2_le_self r
      simp only [Int.natAbs_natCast]
      omega
  have lay : PyData.canLayAll0 (W.map fun n : Nat => PyData.int (n : Int)) = true := by
    clear tp sh hl hr
    induction W with
    | nil => rfl
    | cons r W ih => rw [List.map_cons, PyData.canLayAll0, ih]; rfl
  have len : (PyData.tuple (W.map fun n : Nat => PyData.int (n : Int))).shown.length ≤ sizeLine := by
    have e : PyData.shownAll (W.map fun n : Nat => PyData.int (n : Int)) = W.map fun n : Nat => Str.ofString (toString (n : Int)) := by
      clear tp sh lay hl hr
      induction W with
      | nil => rfl
      | cons r W ih => rw [List.map_cons, List.map_cons, PyData.shownAll, ih]; simp only [PyData.shown]
    simp only [PyData.shown]
    rw [e]
    refine Nat.le_trans (tupleText_len_le _) (sz ?_)
    have h1 : ((W.map fun n : Nat => Str.ofString (toString (n : Int))).map (·.length)).sum ≤ 22 * W.length := by
      have := sum_le (l := (W.map fun n : Nat => Str.ofString (toString (n : Int))).map (·.length)) (b := 22) fun x hx => by
        rw [List.map_map] at hx
        obtain ⟨r, hq, rfl⟩ := List.mem_map.mp hx
        have h2 := len_str_of_int (r : Int)
        have h3 := hr r hq
        show (Str.ofString (toString (r : Int))).length ≤ 22
        omega
      rw [List.length_map, List.length_map] at this
      exact this
    rw [List.length_map]
    omega
  refine ⟨(PyData.tuple (W.map fun n : Nat => PyData.int (n : Int))).shown, ?_⟩
  simp only [dRepr, tp]
  rw [if_pos ⟨by simp only [PyData.showable]; exact sh, by simp only [PyData.canLay0]; exact lay, by simp only [PyData.depth, depth_nat]; decide, len⟩]
theorem e_isway {W : List Nat} (hl : W.length ≤ 41) (hr : ∀ r ∈ W, r < 20) : g__law_is_way [kTu kN W, kTu kN W] = some (.bl true) := by
  obtain ⟨z, hz⟩ := repr_way hl hr
  have h : fq (qBin dEqS (qArgs dRepr (qCons (qVar 0) qNil)) (qArgs dRepr (qCons (qVar 1) qNil))) [.val (kTu kN W), .val (kTu kN W)] = some (.bl true, [.val (kTu kN W), .val (kTu kN W)]) :=
    q_ev (qbin_ev (qargs_ev (qcons_ev rfl rfl) hz) (qargs_ev (qcons_ev rfl rfl) hz) (congrArg (fun b => some (D.bl b)) (beq_self_eq_true z)))
  refine fnD_ex rfl ⟨[.val (kTu kN W), .val (kTu kN W)], ret_ev ?_⟩
  unfold fAndV
  rw [q_ev (d := .bl true) (qargs_ev (qcons_ev rfl (qcons_ev rfl rfl)) rfl)]
  exact h
end K19
end

section
set_option Elab.async false
set_option linter.all false
set_option maxRecDepth 100000
set_option maxHeartbeats 4000000
/-! K19e: what is due, found from the word's end -/
namespace K19
open PySem PySem.Spec PyProof.Rows L2 DL Bf Tr
def wyD : Way → D
  | none => .non
  | some (d, w) => tellD d w
def onD (c : Bool) (x : T) (d : Int) : D := match x with
  | none => .non
  | some a => if c then .int (a + d) else .bl true
section
variable {c : Bool}
theorem none_t {ρ : List DL.Slot} {q : FQ} (h : q ρ = some .non) : fB (fq (qLook dIs q (qC .non))) ρ = some (true, ρ) := b_ev (q_ev (qlook_ev h rfl rfl))
theorem e_on {x : T} {d : Int} (vx : Vt c x) : g__law_on [.bl c, en c x, .int d] = some (onD c x d) := by
  have n2 : ∀ y : D, fB (fq (qLook dIs (qVar 2) (qC .non))) [.val (.bl c), .val y, .val (.int d)] = some (false, [.val (.bl c), .val y, .val (.int d)]) := fun y => b_ev (q_ev (qlook_ev rfl rfl rfl))
  have n4 : ∀ y : D, fB (fq (qLook dIsB (qVar 2) (qC (.bl false)))) [.val (.bl c), .val y, .val (.int d)] = some (false, [.val (.bl c), .val y, .val (.int d)]) := fun y => b_ev (q_ev (qlook_ev rfl rfl rfl))
  cases c with
  | true =>
    cases x with
    | none => exact fnD_ex rfl ⟨[.val (.bl true), .val .non, .val (.int d)], seq_rt (if_t (or_t (b_ev (q_ev (qlook_ev rfl rfl rfl)))) (ret_ev (q_ev rfl)))⟩
    | some a =>
      refine fnD_ex rfl ⟨[.val (.bl true), .val (.int a), .val (.int d)], seq_ev (if_f (or_ev (b_ev (q_ev (qlook_ev rfl rfl rfl))) (or_ev (n2 _) (or_ev (b_ev (q_ev (qlook_ev rfl rfl rfl))) (n4 _)))) rfl) (ret_ev ?_)⟩
      unfold fIf
      rw [b_ev (b := true) (q_ev rfl)]
      exact q_ev (qbin_ev rfl rfl rfl)
  | false =>
    cases x with
    | none => exact fnD_ex rfl ⟨[.val (.bl false), .val (.bl false), .val (.int d)], seq_rt (if_t (or_ev (b_ev (q_ev (qlook_ev rfl rfl rfl))) (or_ev (n2 _) (or_t (b_ev (q_ev (qlook_ev rfl rfl rfl)))))) (ret_ev (q_ev rfl)))⟩
    | some a =>
      refine fnD_ex rfl ⟨[.val (.bl false), .val (.bl true), .val (.int d)], seq_ev (if_f (or_ev (b_ev (q_ev (qlook_ev rfl rfl rfl))) (or_ev (n2 _) (or_ev (b_ev (q_ev (qlook_ev rfl rfl rfl))) (n4 _)))) rfl) (ret_ev ?_)⟩
      unfold fIf
      rw [b_ev (b := false) (q_ev rfl)]
      exact q_ev rfl
theorem bestF_snoc (p : T × Way) : ∀ (l : List (T × Way)) (b : Way) (k : Nat), bestF b k (l ++ [p]) = step (bestF b k l) (k + l.length) p.1 p.2
  | [], b, k => rfl
  | q :: l, b, k => by
    rw [List.cons_append, bestF, bestF, bestF_snoc p l, List.length_cons, show k + 1 + l.length = k + (l.length + 1) by omega]
/-- the ways are of one length -/
def Wy (c : Bool) (L : Nat) (p : Way) : Prop := ∀ d w, p = some (d, w) → w.length = L ∧ (c = true ∨ d = 0)
def Bs (c : Bool) (L k : Nat) (p : Way) : Prop := ∀ b W, p = some (b, W) → ∃ q v, W = q :: v ∧ q < k ∧ v.length = L ∧ (c = true ∨ b = 0)
def vS (c : Bool) (row : List T) (cm : List Way) (best : Way) (s4 s5 s6 s7 : DL.Slot) : List DL.Slot := [.val (.bl c), .val (eR c row), .val (kLs wyD cm), .val (wyD best), s4, s5, s6, s7]
noncomputable def lookF : FS := (fIfS (fB (fq (qLook dIsNot (qBin dIx (qVar 2) (qVar 4)) (qC .non)))) (fSeq (fAsg (fq (qArgs g__law_on (qCons (qVar 0) (qCons (qVar 5) (qCons (qBin dIx (qBin dIx (qVar 2) (qVar 4)) (qC (.int 0))) qNil))))) (gN 6))
  (fIfS (fB (fq (qLook dIsNot (qVar 6) (qC .non)))) (fSeq (fAsg (fArgs dTup (fCons (fIf (fB (fq (qVar 0))) (fq (qVar 6)) (fq (qC (.int 0)))) (fCons (fBin dAdd (fArgs dTup (fCons (fq (qVar 4)) fNil)) (fq (qBin dIx (qBin dIx (qVar 2) (qVar 4)) (qC (.int 1))))) fNil))) (gN 7))
  (fIfS (fOr (fB (fq (qLook dIs (qVar 3) (qC .non)))) (fB (fq (qLook dLtP (qVar 7) (qVar 3))))) (fAsg (fq (qVar 7)) (gN 3)) fNext)) fNext)) fNext)
theorem look_step {row : List T} {cm : List Way} {best : Way} {L k : Nat} {x : T} {p : Way} {s6 s7 : DL.Slot} (vx : Vt c x) (hp : cm[k]? = some p) (wp : Wy c L p) (bs : Bs c L k best) (hL : L ≤ 50) :
    Bs c L (k + 1) (step best k x p) ∧ ∃ s6' s7', lookF (vS c row cm best (.val (kN k)) (.val (en c x)) s6 s7) = some (.nx (vS c row cm (step best k x p) (.val (kN k)) (.val (en c x)) s6' s7')) := by
  have bs1 : Bs c L (k + 1) best := fun b W h => by
    obtain ⟨q, v, h1, h2, h3⟩ := bs b W h
    exact ⟨q, v, h1, by omega, h3⟩
  have hx : ∀ s6 s7, qBin dIx (qVar 2) (qVar 4) (vS c row cm best (.val (kN k)) (.val (en c x)) s6 s7) = some (wyD p) := fun s6 s7 => qbin_ev rfl rfl (dIx_lst hp)
  unfold lookF
  cases p with
  | none =>
    exact ⟨bs1, s6, s7, if_f (b_ev (q_ev (qlook_ev (hx s6 s7) rfl rfl))) rfl⟩
  | some dw =>
    obtain ⟨d, w⟩ := dw
    obtain ⟨hw, hd⟩ := wp d w rfl
    have t1 : fB (fq (qLook dIsNot (qBin dIx (qVar 2) (qVar 4)) (qC .non))) (vS c row cm best (.val (kN k)) (.val (en c x)) s6 s7) = some (true, vS c row cm best (.val (kN k)) (.val (en c x)) s6 s7) := b_ev (q_ev (qlook_ev (hx s6 s7) rfl rfl))
    have a1 : fAsg (fq (qArgs g__law_on (qCons (qVar 0) (qCons (qVar 5) (qCons (qBin dIx (qBin dIx (qVar 2) (qVar 4)) (qC (.int 0))) qNil))))) (gN 6) (vS c row cm best (.val (kN k)) (.val (en c x)) s6 s7) = some (.nx (vS c row cm best (.val (kN k)) (.val (en c x)) (.val (onD c x d)) s7)) :=
      asg_ev (q_ev (qargs_ev (qcons_ev rfl (qcons_ev rfl (qcons_ev (qbin_ev (hx s6 s7) rfl dIx_t0) rfl))) (e_on vx))) rfl
    cases x with
    | none =>
      refine ⟨?_, .val (onD c none d), s7, if_t t1 (seq_ev a1 (if_f (b_ev (q_ev (qlook_ev rfl rfl rfl))) rfl))⟩
      exact bs1
    | some a =>
      have ha : c = true ∨ a = 0 := by
        rcases vx with h | h | h
        · exact .inl h
        · cases h
        · exact .inr (Option.some.inj h)
      have had : c = true ∨ a + d = 0 := by
        rcases ha with h | h
        · exact .inl h
        · rcases hd with h' | h'
          · exact .inl h'
          · exact .inr (by omega)
      have t2 : fB (fq (qLook dIsNot (qVar 6) (qC .non))) (vS c row cm best (.val (kN k)) (.val (en c (some a))) (.val (onD c (some a) d)) s7) = some (true, vS c row cm best (.val (kN k)) (.val (en c (some a))) (.val (onD c (some a) d)) s7) :=
        b_ev (q_ev (qlook_ev rfl rfl (by cases c <;> rfl)))
      have told : fIf (fB (fq (qVar 0))) (fq (qVar 6)) (fq (qC (.int 0))) (vS c row cm best (.val (kN k)) (.val (en c (some a))) (.val (onD c (some a) d)) s7) = some (.int (a + d), vS c row cm best (.val (kN k)) (.val (en c (some a))) (.val (onD c (some a) d)) s7) := by
        unfold fIf
        rw [b_ev (b := c) (q_ev rfl)]
        cases c with
        | true => exact q_ev rfl
        | false =>
          rcases had with h | h
          · cases h
          · rw [h]; exact q_ev rfl
      have cat : fBin dAdd (fArgs dTup (fCons (fq (qVar 4)) fNil)) (fq (qBin dIx (qBin dIx (qVar 2) (qVar 4)) (qC (.int 1)))) (vS c row cm best (.val (kN k)) (.val (en c (some a))) (.val (onD c (some a) d)) s7) = some (.tup ((k :: w).map kN), vS c row cm best (.val (kN k)) (.val (en c (some a))) (.val (onD c (some a) d)) s7) := by
        refine bin_ev (args_ev (cons_ev (q_ev rfl) nil_ev) rfl) (q_ev (qbin_ev (hx _ _) rfl dIx_t1)) ?_
        show (if 1 + (w.map kN).length ≤ sizeLine then some (D.tup (kN k :: w.map kN)) else none) = _
        rw [if_pos (sz (by rw [List.length_map]; omega))]; rfl
      have a2 : fAsg (fArgs dTup (fCons (fIf (fB (fq (qVar 0))) (fq (qVar 6)) (fq (qC (.int 0)))) (fCons (fBin dAdd (fArgs dTup (fCons (fq (qVar 4)) fNil)) (fq (qBin dIx (qBin dIx (qVar 2) (qVar 4)) (qC (.int 1))))) fNil))) (gN 7) (vS c row cm best (.val (kN k)) (.val (en c (some a))) (.val (onD c (some a) d)) s7) =
          some (.nx (vS c row cm best (.val (kN k)) (.val (en c (some a))) (.val (onD c (some a) d)) (.val (tellD (a + d) (k :: w))))) :=
        asg_ev (args_ev (cons_ev told (cons_ev cat nil_ev)) rfl) rfl
      have put : fAsg (fq (qVar 7)) (gN 3) (vS c row cm best (.val (kN k)) (.val (en c (some a))) (.val (onD c (some a) d)) (.val (tellD (a + d) (k :: w)))) = some (.nx (vS c row cm (some (a + d, k :: w)) (.val (kN k)) (.val (en c (some a))) (.val (onD c (some a) d)) (.val (tellD (a + d) (k :: w))))) := asg_ev (q_ev rfl) rfl
      have new : Bs c L (k + 1) (some (a + d, k :: w)) := fun b W h => by
        cases h
        exact ⟨k, w, rfl, Nat.lt_succ_self k, hw, had⟩
      cases best with
      | none =>
        exact ⟨new, _, _, if_t t1 (seq_ev a1 (if_t t2 (seq_ev a2 (if_t (or_t (b_ev (q_ev (qlook_ev rfl rfl rfl)))) put))))⟩
      | some bW =>
        obtain ⟨b, W⟩ := bW
        obtain ⟨q, v, rfl, h2, h3, h4⟩ := bs b W rfl
        have t3 : fOr (fB (fq (qLook dIs (qVar 3) (qC .non)))) (fB (fq (qLook dLtP (qVar 7) (qVar 3)))) (vS c row cm (some (b, q :: v)) (.val (kN k)) (.val (en c (some a))) (.val (onD c (some a) d)) (.val (tellD (a + d) (k :: w)))) = some (decide (a + d < b), vS c row cm (some (b, q :: v)) (.val (kN k)) (.val (en c (some a))) (.val (onD c (some a) d)) (.val (tellD (a + d) (k :: w)))) :=
          or_ev (b_ev (q_ev (qlook_ev rfl rfl rfl))) (b_ev (q_ev (qlook_ev rfl rfl (ltP_ev (by rw [hw, h3]) h2))))
        have es : step (some (b, q :: v)) k (some a) (some (d, w)) = if a + d < b then some (a + d, k :: w) else some (b, q :: v) := rfl
        rw [es]
        by_cases lt : a + d < b
        · rw [decide_eq_true lt] at t3
          rw [if_pos lt]
          exact ⟨new, _, _, if_t t1 (seq_ev a1 (if_t t2 (seq_ev a2 (if_t t3 put))))⟩
        · rw [decide_eq_false lt] at t3
          rw [if_neg lt]
          exact ⟨bs1, _, _, if_t t1 (seq_ev a1 (if_t t2 (seq_ev a2 (if_f t3 rfl))))⟩
theorem e_bestOf {row : List T} {cm : List Way} {L : Nat} (hl : row.length = cm.length) (vr : Vr c row) (wc : ∀ p ∈ cm, Wy c L p) (hL : L ≤ 50) : g__law_best_of [.bl c, eR c row, kLs wyD cm] = some (wyD (bestOf row cm)) := by
  obtain ⟨ρ', f1, s4, s5, s6, s7, _, rfl⟩ := for_ev (ρ := vS c row cm none .un .un .un .un) (f := fEnum (fCons (fq (qVar 1)) fNil)) (g := gT 2 (gsC (gN 4) (gsC (gN 5) gs0))) (F := lookF) row.zipIdx (fun p => .tup [.int (p.2 : Nat), en c p.1])
    (fun pre ρ => ∃ s4 s5 s6 s7, Bs c L pre.length (bestF none 0 ((row.zip cm).take pre.length)) ∧ ρ = vS c row cm (bestF none 0 ((row.zip cm).take pre.length)) s4 s5 s6 s7) (enum_tup (q_ev rfl)) ⟨.un, .un, .un, .un, fun b W h => (nomatch h), rfl⟩ (by
      rintro pre p post ρ e1 ⟨s4, s5, s6, s7, bs, rfl⟩
      have hlt : pre.length < row.length := by have := congrArg List.length e1; simp at this; omega
      have ep : p = (row[pre.length], pre.length) := by
        have := congrArg (fun z : List (T × Nat) => z[pre.length]?) e1
        simp only [List.getElem?_append_right (Nat.le_refl _), Nat.sub_self, List.getElem?_cons_zero] at this
        rw [List.getElem?_zipIdx, List.getElem?_eq_getElem hlt] at this
        have h := Option.some.inj this
        rw [← h]; simp
      subst ep
      obtain ⟨q, hq⟩ : ∃ q, cm[pre.length]? = some q := ⟨_, List.getElem?_eq_getElem (by omega)⟩
      obtain ⟨nb, s6', s7', h⟩ := look_step (row := row) (s6 := s6) (s7 := s7) (vr _ (List.getElem_mem hlt)) hq (wc q (List.mem_of_getElem? hq)) bs hL
      have et : (row.zip cm).take (pre.length + 1) = (row.zip cm).take pre.length ++ [(row[pre.length], q)] := by
        rw [List.take_add_one, zip_get.mpr ⟨List.getElem?_eq_getElem hlt, hq⟩]; rfl
      have en2 : bestF none 0 ((row.zip cm).take (pre.length + 1)) = step (bestF none 0 ((row.zip cm).take pre.length)) pre.length row[pre.length] q := by
        rw [et, bestF_snoc]
        congr 1
        rw [List.length_take, List.length_zip]; omega
      refine ⟨vS c row cm (bestF none 0 ((row.zip cm).take pre.length)) (.val (kN pre.length)) (.val (en c row[pre.length])) s6 s7, _, rfl, h, .val (kN pre.length), .val (en c row[pre.length]), s6', s7', ?_, ?_⟩
      · rw [List.length_append, List.length_singleton, en2]; exact nb
      · rw [List.length_append, List.length_singleton, en2])
  rw [List.length_zipIdx, List.take_of_length_le (by rw [List.length_zip]; omega)] at f1
  refine fnD_ex rfl ⟨vS c row cm (bestOf row cm) s4 s5 s6 s7, ?_⟩
  unfold F__law_best_of
  exact seq_ev (asg_ev (q_ev rfl) rfl) (seq_ev f1 (ret_ev (q_ev rfl)))
variable {n : Nat} {ls : Str} {s : List T} {ts : List (List (List T))} {e : List T} {u : List Nat}
theorem com_ways (ve : Vr c e) : ∀ {v : List (List (List T))}, (∀ t ∈ v, ∀ r ∈ t, Vr c r) → ∀ p ∈ com v e, Wy c v.length p
  | [], _, p, hp => fun d w h => by
    obtain ⟨x, hx, rfl⟩ := List.mem_map.mp hp
    obtain ⟨a, h1, h2⟩ := Option.map_eq_some_iff.mp h
    cases h2
    refine ⟨rfl, ?_⟩
    rcases ve x hx with h | h | h
    · exact .inl h
    · rw [h] at h1; cases h1
    · rw [h] at h1; cases h1; exact .inr rfl
  | t :: v, hv, p, hp => fun d w h => by
    obtain ⟨row, hr, rfl⟩ := List.mem_map.mp hp
    have ih := com_ways ve (v := v) fun t' ht' => hv t' (List.mem_cons_of_mem _ ht')
    rcases bestOf_spec (row := row) (c := com v e) with ⟨h1, _⟩ | ⟨r, x, k, w', h1, h2, h3, _⟩
    · rw [h1] at h; cases h
    · rw [h3] at h
      cases h
      obtain ⟨q1, q2⟩ := ih _ (List.mem_of_getElem? h2) k w' rfl
      refine ⟨by rw [List.length_cons, q1, List.length_cons], ?_⟩
      rcases hv t List.mem_cons_self row hr _ (List.mem_of_getElem? h1) with h | h | h
      · exact .inl h
      · cases h
      · have hx : x = 0 := Option.some.inj h
        rcases q2 with h' | h'
        · exact .inl h'
        · exact .inr (by omega)
def dS (c : Bool) (ls : Str) (s : List T) (ts : List (List (List T))) (e : List T) (u : List Nat) (cm : List Way) (s8 s9 : DL.Slot) : List DL.Slot := [.val (.bl c), .val (em c ls s ts e), .val (.str (wd ls u)), .val (.str ls), .val (eR c s), .val (kTu (kTu (eR c)) ts), .val (eR c e), .val (kLs wyD cm), s8, s9, .un, .un]
theorem e_ends {x : T} (vx : Vt c x) {ρ : List DL.Slot} (h0 : ρ[0]? = some (.val (.bl c))) (h10 : ρ[10]? = some (.val (en c x))) :
    fIf (fOr (fB (fq (qLook dIs (qVar 10) (qC .non)))) (fB (fq (qLook dIsB (qVar 10) (qC (.bl false)))))) (fq (qC .non)) (fArgs dTup (fCons (fIf (fB (fq (qVar 0))) (fq (qVar 10)) (fq (qC (.int 0)))) (fCons (fArgs dTup fNil) fNil))) ρ = some (wyD (x.map fun a => (a, [])), ρ) := by
  have q10 : qVar 10 ρ = some (en c x) := by rw [ev_var, h10]
  have q0 : qVar 0 ρ = some (.bl c) := by rw [ev_var, h0]
  cases x with
  | none =>
    have t : fOr (fB (fq (qLook dIs (qVar 10) (qC .non)))) (fB (fq (qLook dIsB (qVar 10) (qC (.bl false))))) ρ = some (true, ρ) := by
      cases c with
      | true => exact or_t (b_ev (q_ev (qlook_ev q10 rfl rfl)))
      | false => exact or_ev (b_ev (q_ev (qlook_ev q10 rfl rfl))) (b_ev (q_ev (qlook_ev q10 rfl rfl)))
    unfold fIf
    rw [t]; rfl
  | some a =>
    have t : fOr (fB (fq (qLook dIs (qVar 10) (qC .non)))) (fB (fq (qLook dIsB (qVar 10) (qC (.bl false))))) ρ = some (false, ρ) := by
      cases c with
      | true => exact or_ev (b_ev (q_ev (qlook_ev q10 rfl rfl))) (b_ev (q_ev (qlook_ev q10 rfl rfl)))
      | false => exact or_ev (b_ev (q_ev (qlook_ev q10 rfl rfl))) (b_ev (q_ev (qlook_ev q10 rfl rfl)))
    have v : fIf (fB (fq (qVar 0))) (fq (qVar 10)) (fq (qC (.int 0))) ρ = some (.int a, ρ) := by
      unfold fIf
      rw [b_ev (b := c) (q_ev q0)]
      cases c with
      | true => exact q_ev q10
      | false =>
        rcases vx with h | h | h
        · cases h
        · cases h
        · cases h; exact q_ev rfl
    unfold fIf at v ⊢
    rw [t]
    exact args_ev (cons_ev v (cons_ev (args_ev nil_ev rfl) nil_ev)) rfl
theorem e_lawdue (ok : Ok c n ls s ts e) (hu : Wd ls u) : g__law_due [.bl c, em c ls s ts e, .str (wd ls u)] = some (wyD (bestOf s (com (tb ts u) e))) := by
  have hlen : ∀ {v : List Nat}, (∀ i ∈ v, i < ls.length) → (com (tb ts v) e).length = n := fun hv => com_len ok.he fun t ht => (tb_sq ok hv t ht).1
  have hways : ∀ {v : List Nat}, (∀ i ∈ v, i < ls.length) → ∀ p ∈ com (tb ts v) e, Wy c v.length p := fun {v} hv => by
    have := com_ways (c := c) ok.ve (v := tb ts v) fun t ht => (tb_sq ok hv t ht).2
    rw [tb_len] at this
    exact this
  have l0 := lc_map (ρ := [.val (.bl c), .val (em c ls s ts e), .val (.str (wd ls u)), .val (.str ls), .val (eR c s), .val (kTu (kTu (eR c)) ts), .val (eR c e), .un, .un, .un, .un, .un]) (f := fIter (fq (qVar 6))) (g := gN 10)
    (e := fIf (fOr (fB (fq (qLook dIs (qVar 10) (qC .non)))) (fB (fq (qLook dIsB (qVar 10) (qC (.bl false)))))) (fq (qC .non)) (fArgs dTup (fCons (fIf (fB (fq (qVar 0))) (fq (qVar 10)) (fq (qC (.int 0)))) (fCons (fArgs dTup fNil) fNil)))) (vs := [10]) e (en c) (fun x => wyD (x.map fun a => (a, []))) (iter_tup (q_ev rfl)) rfl (szn (by have := ok.he; have := ok.hn; omega)) fun x hx =>
      ⟨_, rfl, _, e_ends (ok.ve x hx) rfl rfl, rfl⟩
  have e0 : e.map (fun x => wyD (x.map fun a => (a, ([] : List Nat)))) = (com (tb ts []) e).map wyD := by
    show _ = (e.map fun x => x.map fun a => (a, [])).map wyD
    rw [List.map_map]; rfl
  rw [e0] at l0
  obtain ⟨ρ', f1, s8, s9, rfl⟩ := for_ev (ρ := dS c ls s ts e u (com (tb ts []) e) .un .un) (f := fRevS (fq (qVar 2))) (g := gN 8) (F := fSeq (fAsg (fq (qBin dIx (qVar 5) (qBin dIdxS (qVar 3) (qVar 8)))) (gN 9))
      (fAsg (fLc (fIter (fq (qVar 9))) (gN 11) [11] fTrue (fq (qArgs g__law_best_of (qCons (qVar 0) (qCons (qVar 11) (qCons (qVar 7) qNil)))))) (gN 7))) u.reverse (sD ls)
    (fun pre ρ => ∃ s8 s9, ρ = dS c ls s ts e u (com (tb ts pre.reverse) e) s8 s9) ((revS_ev (q_ev rfl) (by rw [wd_len]; have := hu.2; omega)).trans (by rw [wd_signsR] <;> rfl)) ⟨.un, .un, rfl⟩ (by
      rintro pre i post ρ e1 ⟨s8, s9, rfl⟩
      have mem : ∀ j ∈ pre ++ [i], j < ls.length := fun j hj => hu.1 j (List.mem_reverse.mp (by rw [e1]; rcases List.mem_append.mp hj with h | h; exact List.mem_append_left _ h; exact List.mem_append_right _ (by rw [List.mem_singleton.mp h]; exact List.mem_cons_self)))
      have hpl : pre.length ≤ 50 := by
        have h4 := congrArg List.length e1
        simp only [List.length_reverse, List.length_append, List.length_cons] at h4
        have := hu.2
        omega
      have mp : ∀ j ∈ pre.reverse, j < ls.length := fun j hj => mem j (List.mem_append_left _ (List.mem_reverse.mp hj))
      obtain ⟨t, h1, h2, h3⟩ := tb_at ok (mem i (by simp))
      have hw := hways mp
      rw [List.length_reverse] at hw
      have lc := lc_map (ρ := dS c ls s ts e u (com (tb ts pre.reverse) e) (.val (sD ls i)) (.val (kTu (eR c) t))) (f := fIter (fq (qVar 9))) (g := gN 11) (e := fq (qArgs g__law_best_of (qCons (qVar 0) (qCons (qVar 11) (qCons (qVar 7) qNil))))) (vs := [11]) t (eR c) (fun row => wyD (bestOf row (com (tb ts pre.reverse) e))) (iter_tup (q_ev rfl)) rfl (szn (by have := (ok.sq t h3).1; have := ok.hn; omega)) fun row hr =>
        ⟨_, rfl, _, q_ev (qargs_ev (qcons_ev rfl (qcons_ev rfl (qcons_ev rfl rfl))) (e_bestOf (by rw [hlen mp, (ok.sq t h3).2 row hr]) (ok.vt t h3 row hr) hw hpl)), rfl⟩
      have ec : t.map (fun row => wyD (bestOf row (com (tb ts pre.reverse) e))) = (com (tb ts (pre ++ [i]).reverse) e).map wyD := by
        rw [List.reverse_append, List.reverse_singleton, List.singleton_append]
        show _ = (((ts[i]?).getD []).map fun row => bestOf row (com (tb ts pre.reverse) e)).map wyD
        rw [h2, List.map_map]; rfl
      rw [ec] at lc
      refine ⟨dS c ls s ts e u (com (tb ts pre.reverse) e) (.val (sD ls i)) s9, _, rfl, seq_ev (asg_ev (q_ev (qbin_ev rfl (qbin_ev rfl rfl (idxS_nd ok.nd (sg_at (mem i (by simp))))) (dIx_tup h1))) rfl) (asg_ev lc rfl), .val (sD ls i), .val (kTu (eR c) t), rfl⟩)
  rw [List.reverse_reverse] at f1
  refine fnD_ex rfl ⟨dS c ls s ts e u (com (tb ts u) e) s8 s9, ?_⟩
  unfold F__law_due
  exact seq_ev (asg_ev (q_ev rfl) rfl) (seq_ev (asg_ev l0 rfl) (seq_ev f1 (ret_ev (q_ev (qargs_ev (qcons_ev rfl (qcons_ev rfl (qcons_ev rfl rfl))) (e_bestOf (by rw [hlen hu.1, ok.hs]) ok.vs (hways hu.1) (by have := hu.2; omega)))))))
end
end K19
end

section
set_option Elab.async false
set_option linter.all false
set_option maxRecDepth 100000
set_option maxHeartbeats 4000000
/-! K19l: the law's state -/
namespace K19
open PySem PySem.Spec PyProof.Rows L2 DL Bf
def okS (s : Int) : Prop := 0 ≤ s ∧ s < 2305843009213693951
theorem okS_mod (x : Int) : okS (x % 2305843009213693951) := ⟨Int.emod_nonneg _ (by decide), Int.emod_lt_of_pos _ (by decide)⟩
def okT (xs : List Int) : Prop := (∃ s, okS s ∧ xs = [s]) ∨ (∃ y s, okS s ∧ xs = [y, s])
theorem scr_len {ρ : List DL.Slot} {i : Nat} {ns : List Int} (h : ρ[i]? = some (.val (.scr ns))) : qArgs dLen (qCons (qVar i) qNil) ρ = some (.int ns.length) := by
  refine qargs_ev (qcons_ev (d := .scr ns) (by rw [ev_var, h]) rfl) ?_
  rfl
theorem scr_ix {ρ : List DL.Slot} {i : Nat} {x : Int} {ns : List Int} (h : ρ[i]? = some (.val (.scr (x :: ns)))) : qBin dIx (qVar i) (qC (.int 0)) ρ = some (.int x) := by
  refine qbin_ev (x := .scr (x :: ns)) (y := .int 0) (by rw [ev_var, h]) rfl ?_
  unfold dIx
  exact congrArg (Option.map D.int) (atI_nat (i := 0) (l := x :: ns) rfl)
theorem seq_rf {ρ ρ1 : List DL.Slot} {F G : FS} {b : B} (h1 : F ρ = some (.rf b ρ1)) : fSeq F G ρ = some (.rf b ρ1) := by rw [ev_seq, h1]
theorem cut_len (ns : List Int) : (cutL ns none (some 200)).length ≤ 200 := by
  unfold cutL
  refine Nat.le_trans (List.length_take_le _ _) ?_
  simp only [HT.sIx_none]
  rw [show HT.sIx ns.length ns.length (some 200) = min 200 ns.length from HT.sIx_nat ns.length ns.length 200]
  omega
def stC : FT := (fAnd (fB (fq (qLook dGt (qArgs dLen (qCons (qVar 0) qNil)) (qC (.int 0))))) (fAnd (fB (fq (qLook dGt (qBin dIx (qVar 0) (qC (.int 0))) (qC (.int 1))))) (fB (fq (qLook dEq (qBin dMod (qBin dIx (qVar 0) (qC (.int 0))) (qC (.int 2))) (qC (.int 1)))))))
theorem stC_ev (ns : List Int) (r : List DL.Slot) : stC (.val (.scr ns) :: r) = some (false, .val (.scr ns) :: r) ∨ ∃ x xs, ns = x :: xs ∧ stC (.val (.scr ns) :: r) = some (true, .val (.scr ns) :: r) := by
  unfold stC
  rcases ns with _ | ⟨x, xs⟩
  · exact .inl (and_f (b_ev (q_ev (qlook_ev (scr_len rfl) rfl rfl))))
  · have h1 : fB (fq (qLook dGt (qArgs dLen (qCons (qVar 0) qNil)) (qC (.int 0)))) (.val (.scr (x :: xs)) :: r) = some (true, .val (.scr (x :: xs)) :: r) :=
      b_ev (q_ev (qlook_ev (scr_len rfl) rfl (by rw [gt_ev, decide_eq_true (by simp only [List.length_cons]; omega)])))
    have h2 : fB (fq (qLook dGt (qBin dIx (qVar 0) (qC (.int 0))) (qC (.int 1)))) (.val (.scr (x :: xs)) :: r) = some (decide (1 < x), .val (.scr (x :: xs)) :: r) :=
      b_ev (q_ev (qlook_ev (scr_ix rfl) rfl gt_ev))
    have h3 : fB (fq (qLook dEq (qBin dMod (qBin dIx (qVar 0) (qC (.int 0))) (qC (.int 2))) (qC (.int 1)))) (.val (.scr (x :: xs)) :: r) = some (decide (x % 2 = 1), .val (.scr (x :: xs)) :: r) :=
      b_ev (q_ev (qlook_ev (qbin_ev (scr_ix rfl) rfl (mod_ev (by decide))) rfl eqI_ev))
    by_cases a : 1 < x
    · rw [decide_eq_true a] at h2
      by_cases b : x % 2 = 1
      · rw [decide_eq_true b] at h3
        exact .inr ⟨x, xs, rfl, and_ev h1 (and_ev h2 h3)⟩
      · rw [decide_eq_false b] at h3
        exact .inl (and_ev h1 (and_ev h2 h3))
    · rw [decide_eq_false a] at h2
      exact .inl (and_ev h1 (and_f h2))
theorem e_state (ns : List Int) : ∃ xs, okT xs ∧ g__law_state [.scr ns] = some (bx D.int xs) := by
  obtain ⟨ρ', h1, seed, s2, hs, rfl⟩ := for_ev (ρ := [.val (.scr ns), .val (.int 1000003), .un]) (f := fIter (fq (qCut (qVar 0) oNone (oSome (qC (.int 200)))))) (g := gN 2) (F := fAsg (fq (qBin dMod (qBin dAdd (qBin dAdd (qBin dMulI (qVar 1) (qC (.int 7368787))) (qBin dMod (qVar 2) (qBin dPow (qC (.int 10)) (qC (.int 30))))) (qC (.int 11))) (qC (.int 2305843009213693951)))) (gN 1))
    (cutL ns none (some 200)) D.int (fun _ ρ => ∃ seed s2, okS seed ∧ ρ = [.val (.scr ns), .val (.int seed), s2])
    (iter_lst (q_ev rfl)) ⟨1000003, _, by constructor <;> decide, rfl⟩ (by
      rintro pre x post ρ e ⟨seed, s2, hs, rfl⟩
      have hp : dPow (.int 10) (.int 30) = some (.int (10 ^ 30)) := by simp only [dPow, dInt]; rw [if_pos (by decide)]; rfl
      refine ⟨_, _, rfl, asg_ev (q_ev (qbin_ev (qbin_ev (qbin_ev (qbin_ev rfl rfl (mul_ev (by have := hs.1; have := hs.2; omega) (by decide))) (qbin_ev rfl (qbin_ev rfl rfl hp) (mod_ev (by decide))) add_ev) rfl add_ev) rfl (mod_ev (by decide)))) rfl, _, _, okS_mod _, rfl⟩)
  have fin : ∃ xs, okT xs ∧ ∃ ρ2, F__law_state [.val (.scr ns), .un, .un] = some (.rf (bx D.int xs) ρ2) := by
    rcases stC_ev ns [.val (.int seed), s2] with c | ⟨x, xs, rfl, c⟩
    · refine ⟨[seed], .inl ⟨seed, hs, rfl⟩, [.val (.scr ns), .val (.int seed), s2], ?_⟩
      unfold F__law_state
      refine seq_ev (ρ1 := [.val (.scr ns), .val (.int 1000003), .un]) rfl (seq_ev h1 (seq_ev (if_f c rfl) ?_))
      unfold fRetF fLstF afCons afNil fImm
      rfl
    · refine ⟨[x / 2, seed], .inr ⟨x / 2, seed, hs, rfl⟩, [.val (.scr (x :: xs)), .val (.int seed), s2], ?_⟩
      unfold F__law_state
      refine seq_ev (ρ1 := [.val (.scr (x :: xs)), .val (.int 1000003), .un]) rfl (seq_ev h1 ?_)
      have hd : (fq (qBin dDiv (qBin dIx (qVar 0) (qC (.int 0))) (qC (.int 2)))) [.val (.scr (x :: xs)), .val (.int seed), s2] = some (.int (x / 2), [.val (.scr (x :: xs)), .val (.int seed), s2]) := q_ev (qbin_ev (scr_ix rfl) rfl (div_ev (by decide) (by decide)))
      have hr : fRetF (fLstF (afCons (fImm (fq (qBin dDiv (qBin dIx (qVar 0) (qC (.int 0))) (qC (.int 2))))) (afCons (fImm (fq (qVar 1))) afNil))) [.val (.scr (x :: xs)), .val (.int seed), s2] = some (.rf (bx D.int [x / 2, seed]) [.val (.scr (x :: xs)), .val (.int seed), s2]) := by
        unfold fRetF fLstF afCons afNil fImm
        rw [hd]
        rfl
      exact seq_rf (if_t c hr)
  obtain ⟨xs, ok, ρ2, e⟩ := fin
  refine ⟨xs, ok, ?_⟩
  unfold g__law_state fnF
  simp only [List.length_singleton, if_true]
  show (match F__law_state [.val (.scr ns), .un, .un] with | some (.rf b _) => some b | _ => none) = _
  rw [e]
section
variable {r : List DL.Slot} {xs : List Int} {x y s m : Int} {o : Bool}
theorem st_len : fB (fq (qLook dEq (qLook1 dLen (qPeek 0)) (qC (.int 2)))) (.box o (bx D.int xs) :: r) = some (decide ((xs.length : Int) = 2), .box o (bx D.int xs) :: r) :=
  b_ev (q_ev (qlook_ev (len_ev rfl) rfl eqI_ev))
theorem st_at0 : fpV (fpIx (fpN 0) (qC (.int 0))) (.box o (bx D.int (x :: xs)) :: r) = some (.int x) := place_ev (f := D.int) (l := x :: xs) (n := 0) (a := x) rfl rfl rfl
theorem st_put {fe : FE} (h : fe (.box o (bx D.int (x :: xs)) :: r) = some (.int y, .box o (bx D.int (x :: xs)) :: r)) : fPut 0 fe (fpN 0) (qC (.int 0)) (.box o (bx D.int (x :: xs)) :: r) = some (.nx (.box o (bx D.int (y :: xs)) :: r)) :=
  put_ev (f := D.int) (l := x :: xs) (n := 0) (a := y) h rfl rfl (by simp)
theorem erase_map {α β : Type} (f : α → β) : ∀ (l : List α) (n : Nat), (l.map f).eraseIdx n = (l.eraseIdx n).map f
  | [], n => by simp
  | a :: l, 0 => rfl
  | a :: l, n + 1 => by simp [erase_map f l n]
theorem pop_at {α : Type} {f : α → D} {l : List α} {n : Nat} {a : α} (h : l[n]? = some a) (hl : l.length ≤ 1000) : chPopAt (l.map fun a => B.imm (f a)) [.int n] = some (f a, (l.eraseIdx n).map fun a => B.imm (f a)) := by
  have hn := (List.getElem?_eq_some_iff.mp h).1
  have h1 : imms (l.map fun a => B.imm (f a)) = some (l.map f) := imms_mp f l
  have h2 : seqIndex? (n : Int) (l.map fun a => B.imm (f a)).length = some n := by
    unfold seqIndex?
    have hneg : ¬ ((n : Int) < 0) := by omega
    simp only [hneg, if_false, List.length_map]
    simp [hn]
  unfold chPopAt
  dsimp only
  rw [if_pos (by omega), h1, h2]
  simp only [List.getElem?_map, h, Option.map_some, erase_map, List.map_map]
  rfl
theorem st_pop : fChg 0 (fpN 0) (qCons (qC (.int 0)) qNil) chPopAt (.box o (bx D.int [x, s]) :: r) = some (.int x, .box o (bx D.int [s]) :: r) := by
  have h3 := pop_at (f := D.int) (l := [x, s]) (n := 0) (a := x) rfl (by simp)
  unfold fChg
  simp only [ev_fpN, List.getElem?_cons_zero, ev_qcons, ev_c, ev_qnil]
  rw [show chPopAt ([x, s].map fun a => B.imm (.int a)) [.int 0] = _ from h3]
  rfl
theorem st_k0 : fB (fq (qLook dEq (fpK (fpIx (fpN 0) (qC (.int 0)))) (qC (.int 0)))) (.box o (bx D.int (x :: xs)) :: r) = some (decide (x = 0), .box o (bx D.int (x :: xs)) :: r) := by
  refine b_ev (q_ev (qlook_ev (x := .int x) ?_ rfl eqI_ev))
  rw [ev_fpK, ix_ev (n := 0) (bs := (x :: xs).map fun a => B.imm (D.int a)) rfl rfl rfl]; rfl
theorem nx_body (ok : okT xs) (hm : 0 < m) (hm2 : m < 2 ^ 60) : ∃ v xs', 0 ≤ v ∧ v < m ∧ okT xs' ∧ ∃ s2, F__law_next [.box true (bx D.int xs), .val (.int m), .un] = some (.rt (.int v) [.box true (bx D.int xs'), .val (.int m), s2]) := by
  rcases ok with ⟨s, hs, rfl⟩ | ⟨y, s, hs, rfl⟩
  · have hq := okS_mod (s * 1181783497276652981 + 12345678910987)
    generalize hsd : (s * 1181783497276652981 + 12345678910987) % 2305843009213693951 = sd at hq
    refine ⟨sd / 65537 % m, [sd], Int.emod_nonneg _ (by omega), Int.emod_lt_of_pos _ hm, .inl ⟨sd, hq, rfl⟩, .un, ?_⟩
    unfold F__law_next
    refine seq_ev (if_f (st_len.trans (by rw [decide_eq_false (by simp)])) rfl) ?_
    refine seq_ev (st_put (y := sd) (q_ev (qbin_ev (qbin_ev (qbin_ev st_at0 rfl (mul_ev (by have := hs.1; have := hs.2; omega) (by decide))) rfl add_ev) rfl (by rw [mod_ev (by decide), hsd])))) ?_
    exact ret_ev (q_ev (qbin_ev (qbin_ev st_at0 rfl (div_ev (by decide) (by decide))) rfl (mod_ev hm)))
  · have hv := Int.emod_nonneg y (show m ≠ 0 by omega)
    have hv2 := Int.emod_lt_of_pos y hm
    by_cases hz : y / m = 0
    · refine ⟨y % m, [s], hv, hv2, .inl ⟨s, hs, rfl⟩, .val (.int (y % m)), ?_⟩
      unfold F__law_next
      refine seq_rt (if_t (st_len.trans (by rw [decide_eq_true (by simp)])) ?_)
      refine seq_ev (asg_ev (q_ev (qbin_ev st_at0 rfl (mod_ev hm))) rfl) ?_
      refine seq_ev (st_put (y := y / m) (q_ev (qbin_ev st_at0 rfl (div_ev hm (by omega))))) ?_
      refine seq_ev (if_t (st_k0.trans (by rw [decide_eq_true hz])) (drop_ev st_pop)) ?_
      exact ret_ev (q_ev rfl)
    · refine ⟨y % m, [y / m, s], hv, hv2, .inr ⟨y / m, s, hs, rfl⟩, .val (.int (y % m)), ?_⟩
      unfold F__law_next
      refine seq_rt (if_t (st_len.trans (by rw [decide_eq_true (by simp)])) ?_)
      refine seq_ev (asg_ev (q_ev (qbin_ev st_at0 rfl (mod_ev hm))) rfl) ?_
      refine seq_ev (st_put (y := y / m) (q_ev (qbin_ev st_at0 rfl (div_ev hm (by omega))))) ?_
      refine seq_ev (if_f (st_k0.trans (by rw [decide_eq_false hz])) rfl) ?_
      exact ret_ev (q_ev rfl)
end
theorem e_next {xs : List Int} {m : Int} (ok : okT xs) (hm : 0 < m) (hm2 : m < 2 ^ 60) : ∃ v xs', 0 ≤ v ∧ v < m ∧ okT xs' ∧ g__law_next [.box true (bx D.int xs), .val (.int m)] = some (.int v, [.box true (bx D.int xs'), .val (.int m)]) := by
  obtain ⟨v, xs', h1, h2, h3, s2, h⟩ := nx_body ok hm hm2
  exact ⟨v, xs', h1, h2, h3, fnIO_ex rfl ⟨_, h, rfl⟩⟩
/-- a draw, a value being known -/
theorem draw {ρ : List DL.Slot} {i : Nat} {o : Bool} {xs : List Int} {m : Int} {fe : FE} (h : ρ[i]? = some (.box o (bx D.int xs))) (he : fe ρ = some (.int m, ρ)) (ok : okT xs) (hm : 0 < m) (hm2 : m < 2 ^ 60) :
    ∃ v xs', v < m.toNat ∧ okT xs' ∧ fIO g__law_next (akS i (akV fe akNil)) ρ = some (kN v, ρ.set i (.box o (bx D.int xs'))) := by
  obtain ⟨v, xs', h1, h2, h3, h4⟩ := e_next ok hm hm2
  refine ⟨v.toNat, xs', by omega, h3, ?_⟩
  have := io1_ev h rfl he h4
  rw [this, show kN v.toNat = D.int v from congrArg D.int (Int.toNat_of_nonneg h1)]
end K19
end

section
set_option Elab.async false
set_option linter.all false
set_option maxRecDepth 100000
set_option maxHeartbeats 4000000
/-! K19g: letters, words, weights, lines drawn -/
namespace K19
open PySem PySem.Spec PyProof.Rows L2 DL Bf Tr
section
variable {ρ : List DL.Slot} {i : Nat}
theorem io2_ev {g : List DL.Slot → Option (D × List DL.Slot)} {fe fe2 : FE} {o : Bool} {b b' : B} {d d2 r : D} (h : ρ[i]? = some (.box o b)) (hb : b.isBox = true) (he : fe ρ = some (d, ρ)) (he2 : fe2 ρ = some (d2, ρ)) (hg : g [.box true b, .val d, .val d2] = some (r, [.box true b', .val d, .val d2])) :
    fIO g (akS i (akV fe (akV fe2 akNil))) ρ = some (r, ρ.set i (.box o b')) := by
  unfold fIO akS akV akNil
  simp only [h, he, he2, slotsOf, argSlots, hb, if_true, Option.map_some, hg, putBack, List.nodup_cons, List.not_mem_nil, not_false_eq_true, List.nodup_nil, and_self]
end
def pl (l : List Nat) : Str := ⟨l.toArray⟩
theorem pl_len {l : List Nat} : (pl l).length = l.length := by simp [pl, Str.length]
theorem pl_len_ev {l : List Nat} (h : l.length ≤ 1000) : dLen [.str (pl l)] = some (.int (l.length : Nat)) := by
  simp only [dLen]
  rw [if_pos (by rw [pl_len]; exact sz h), pl_len]
theorem pl_at {l : List Nat} {v c : Nat} (h : l[v]? = some c) (hl : l.length ≤ 1000) : dIx (.str (pl l)) (.int (v : Nat)) = some (.str (pl [c])) := by
  unfold dIx
  simp only
  rw [if_pos (by rw [pl_len]; exact sz hl)]
  have h1 : (DL.signs (pl l))[v]? = some ⟨#[c]⟩ := by
    unfold DL.signs pl
    rw [List.getElem?_map]
    simp [h]
  rw [DL.atI_nat h1]; rfl
theorem pl_cat {l m : List Nat} (h : l.length + m.length ≤ 1000) : dAdd (.str (pl l)) (.str (pl m)) = some (.str (pl (l ++ m))) := by
  show (if (pl l).length + (pl m).length ≤ sizeLine then some (D.str (pl l ++ pl m)) else none) = _
  rw [if_pos (by rw [pl_len, pl_len]; exact sz h)]
  congr 2
  show Str.mk (l.toArray ++ m.toArray) = Str.mk (l ++ m).toArray
  rw [List.append_toArray]
theorem pl_take {l : List Nat} {v : Nat} (hv : v ≤ l.length) (hl : l.length ≤ 1000) : dCut (.str (pl l)) none (some (v : Nat)) = some (.str (pl (l.take v))) := by
  unfold dCut
  simp only
  rw [if_pos (by rw [pl_len]; exact sz hl)]
  congr 2
  unfold cutS
  rw [HT.sIx_none, HT.sIx_nat, pl_len, List.drop_zero, Nat.min_eq_left hv]; rfl
theorem pl_drop {l : List Nat} {v : Nat} (hv : v ≤ l.length) (hl : l.length ≤ 1000) : dCut (.str (pl l)) (some (v : Nat)) none = some (.str (pl (l.drop v))) := by
  unfold dCut
  simp only
  rw [if_pos (by rw [pl_len]; exact sz hl)]
  congr 2
  unfold cutS
  rw [HT.sIx_none, HT.sIx_nat, pl_len, Nat.min_eq_left hv]
  show Str.mk ((l.drop v).take (l.length - v)).toArray = Str.mk (l.drop v).toArray
  rw [List.take_of_length_le (by simp)]
theorem cut_hi {ρ : List DL.Slot} {q k : FQ} {d : D} {v : Int} {z : D} (h : q ρ = some d) (hk : k ρ = some (.int v)) (hz : dCut d none (some v) = some z) : qCut q oNone (oSome k) ρ = some z := by
  unfold qCut oNone oSome
  simp only [h, hk, hz]
theorem cut_lo {ρ : List DL.Slot} {q k : FQ} {d : D} {v : Int} {z : D} (h : q ρ = some d) (hk : k ρ = some (.int v)) (hz : dCut d (some v) none = some z) : qCut q (oSome k) oNone ρ = some z := by
  unfold qCut oNone oSome
  simp only [h, hk, hz]
def lS (xs : List Int) (pool y : List Nat) (s3 s4 : DL.Slot) : List DL.Slot := [.box true (bx D.int xs), .val (.str (pl pool)), .val (.str (pl y)), s3, s4]
theorem letters_step {xs : List Int} {pool y : List Nat} {s3 s4 : DL.Slot} (ok : okT xs) (hp : 0 < pool.length) (hl : pool.length + y.length ≤ 100) (nd : (y ++ pool).Nodup) :
    ∃ xs' pool' y' s4', okT xs' ∧ pool'.length + 1 = pool.length ∧ y'.length = y.length + 1 ∧ (y' ++ pool').Nodup ∧
      (fSeq (fAsg (fIO g__law_next (akS 0 (akV (fq (qArgs dLen (qCons (qVar 1) qNil))) akNil))) (gN 4))
  (fSeq (fAsg (fq (qBin dAdd (qVar 2) (qBin dIx (qVar 1) (qVar 4)))) (gN 2))
  (fAsg (fq (qBin dAdd (qCut (qVar 1) oNone (oSome (qVar 4))) (qCut (qVar 1) (oSome (qBin dAdd (qVar 4) (qC (.int 1)))) oNone))) (gN 1)))) (lS xs pool y s3 s4) = some (.nx (lS xs' pool' y' s3 s4')) := by
  obtain ⟨v, xs', hv, ok', e⟩ := draw (ρ := lS xs pool y s3 s4) (i := 0) (m := (pool.length : Nat)) (fe := fq (qArgs dLen (qCons (qVar 1) qNil))) rfl (q_ev (qargs_ev (qcons_ev rfl rfl) (pl_len_ev (by omega)))) ok (by omega) (by omega)
  have hv' : v < pool.length := by omega
  have hsplit : pool = pool.take v ++ pool[v] :: pool.drop (v + 1) := by rw [← List.drop_eq_getElem_cons hv', List.take_append_drop]
  have hc : qBin dAdd (qCut (qVar 1) oNone (oSome (qVar 4))) (qCut (qVar 1) (oSome (qBin dAdd (qVar 4) (qC (.int 1)))) oNone) (lS xs' pool (y ++ [pool[v]]) s3 (.val (kN v))) = some (.str (pl (pool.take v ++ pool.drop (v + 1)))) :=
    qbin_ev (cut_hi rfl rfl (pl_take (by omega) (by omega))) (cut_lo (v := ((v + 1 : Nat) : Int)) rfl rfl (pl_drop (by omega) (by omega))) (pl_cat (by rw [List.length_take, List.length_drop]; omega))
  refine ⟨xs', pool.take v ++ pool.drop (v + 1), y ++ [pool[v]], .val (kN v), ok', by rw [List.length_append, List.length_take, List.length_drop]; omega, by simp, ?_, ?_⟩
  · have h1 : (y ++ (pool.take v ++ pool[v] :: pool.drop (v + 1))).Nodup := by rw [← hsplit]; exact nd
    refine (List.Perm.nodup_iff ?_).mp h1
    rw [List.append_assoc]
    refine List.Perm.append_left y ?_
    exact List.perm_middle
  · refine seq_ev (asg_ev e rfl) (seq_ev (asg_ev (q_ev (qbin_ev rfl (qbin_ev rfl rfl (pl_at (List.getElem?_eq_getElem hv') (by omega))) (pl_cat (by simp only [List.length_singleton]; omega)))) rfl) (asg_ev (q_ev hc) rfl))
def az : List Nat := (List.range 26).map (· + 97)
theorem az_eq : ("abcdefghijklmnopqrstuvwxyz" : Str) = pl az := by decide +kernel
theorem no_eq : ("" : Str) = pl [] := by decide +kernel
theorem e_letters {xs : List Int} (ok : okT xs) : ∃ xs' y, okT xs' ∧ 1 ≤ y.length ∧ y.length ≤ 3 ∧ y.Nodup ∧ g__law_letters [.box true (bx D.int xs)] = some (.str (pl y), [.box true (bx D.int xs')]) := by
  obtain ⟨v, xs1, hv, ok1, e1⟩ := draw (ρ := lS xs az [] .un .un) (i := 0) (m := 3) (fe := fq (qC (.int 3))) rfl (q_ev rfl) ok (by omega) (by omega)
  have hv3 : v < 3 := hv
  have e2 : fBin dAdd (fq (qC (.int 1))) (fIO g__law_next (akS 0 (akV (fq (qC (.int 3))) akNil))) (lS xs az [] .un .un) = some (.int ((v + 1 : Nat) : Int), lS xs1 az [] .un .un) :=
    bin_ev (q_ev rfl) e1 (by rw [show kN v = D.int (v : Int) from rfl, add_ev]; congr 2; omega)
  obtain ⟨ρ', f1, xs2, pool, y, s3, s4, ⟨ok2, hl, hy, nd⟩, rfl⟩ := for_ev (ρ := lS xs az [] .un .un) (f := fRange (fCons (fBin dAdd (fq (qC (.int 1))) (fIO g__law_next (akS 0 (akV (fq (qC (.int 3))) akNil)))) fNil)) (g := gN 3)
    (F := fSeq (fAsg (fIO g__law_next (akS 0 (akV (fq (qArgs dLen (qCons (qVar 1) qNil))) akNil))) (gN 4))
  (fSeq (fAsg (fq (qBin dAdd (qVar 2) (qBin dIx (qVar 1) (qVar 4)))) (gN 2))
  (fAsg (fq (qBin dAdd (qCut (qVar 1) oNone (oSome (qVar 4))) (qCut (qVar 1) (oSome (qBin dAdd (qVar 4) (qC (.int 1)))) oNone))) (gN 1)))) (List.range (v + 1)) kN
    (fun pre ρ => ∃ xs pool y s3 s4, (okT xs ∧ pool.length + pre.length = 26 ∧ y.length = pre.length ∧ (y ++ pool).Nodup) ∧ ρ = lS xs pool y s3 s4)
    (range_ev e2 (by omega)) ⟨xs1, az, [], .un, .un, ⟨ok1, by decide, rfl, by decide⟩, rfl⟩ (by
      rintro pre j post ρ e ⟨xs, pool, y, s3, s4, ⟨ok, hl, hy, nd⟩, rfl⟩
      have hlt : pre.length < v + 1 := by have := congrArg List.length e; simp at this; omega
      obtain ⟨xs', pool', y', s4', h1, h2, h3, h4, h5⟩ := letters_step (s3 := .val (kN j)) (s4 := s4) ok (by omega) (by omega) nd
      exact ⟨lS xs pool y (.val (kN j)) s4, _, rfl, h5, xs', pool', y', .val (kN j), s4', ⟨h1, by rw [List.length_append, List.length_singleton]; omega, by rw [List.length_append, List.length_singleton]; omega, h4⟩, rfl⟩)
  rw [List.length_range] at hy hl
  refine ⟨xs2, y, ok2, by omega, by omega, (List.nodup_append.mp nd).1, fnIO_ex rfl ⟨lS xs2 pool y s3 s4, ?_, rfl⟩⟩
  unfold F__law_letters
  rw [az_eq, no_eq]
  exact seq_ev (ρ1 := [.box true (bx D.int xs), .val (.str (pl az)), .un, .un, .un]) rfl (seq_ev (ρ1 := lS xs az [] .un .un) rfl (seq_ev f1 (ret_ev (q_ev rfl))))
end K19
end

section
set_option Elab.async false
set_option linter.all false
set_option maxRecDepth 100000
set_option maxHeartbeats 4000000
/-! K19h: words, weights, lines, machines drawn -/
namespace K19
open PySem PySem.Spec PyProof.Rows L2 DL Bf Tr
theorem pl_sg {y : List Nat} {v : Nat} (h : v < y.length) : sg (pl y) v = y[v] := by
  unfold sg pl
  simp [List.getElem?_eq_getElem h]
theorem pl_sD {y : List Nat} {v : Nat} (h : v < y.length) : sD (pl y) v = .str (pl [y[v]]) := by
  show D.str (pl [sg (pl y) v]) = _
  rw [pl_sg h]
def oS (xs : List Int) (y : List Nat) (size : Nat) (u : List Nat) (s4 : DL.Slot) : List DL.Slot := [.box true (bx D.int xs), .val (.str (pl y)), .val (kN size), .val (.str (wd (pl y) u)), s4]
theorem e_word {xs : List Int} {y : List Nat} {size : Nat} (ok : okT xs) (h1 : 1 ≤ y.length) (h3 : y.length ≤ 3) (hs : size ≤ 40) :
    ∃ xs' u, okT xs' ∧ Wd (pl y) u ∧ g__law_word [.box true (bx D.int xs), .val (.str (pl y)), .val (kN size)] = some (.str (wd (pl y) u), [.box true (bx D.int xs'), .val (.str (pl y)), .val (kN size)]) := by
  obtain ⟨ρ', f1, xs', u, s4, ⟨ok', hu, hl⟩, rfl⟩ := for_ev (ρ := oS xs y size [] .un) (f := fRange (fCons (fq (qVar 2)) fNil)) (g := gN 4) (F := fAsg (fBin dAdd (fq (qVar 3)) (fBin dIx (fq (qVar 1)) (fIO g__law_next (akS 0 (akV (fq (qArgs dLen (qCons (qVar 1) qNil))) akNil))))) (gN 3)) (List.range size) kN
    (fun pre ρ => ∃ xs u s4, (okT xs ∧ (∀ i ∈ u, i < y.length) ∧ u.length = pre.length) ∧ ρ = oS xs y size u s4) (range_ev (q_ev rfl) (by omega)) ⟨xs, [], .un, ⟨ok, by simp, rfl⟩, rfl⟩ (by
      rintro pre j post ρ e ⟨xs, u, s4, ⟨ok, hu, hl⟩, rfl⟩
      have hlt : pre.length < size := by have := congrArg List.length e; simp at this; omega
      obtain ⟨v, xs', hv, ok', e1⟩ := draw (ρ := oS xs y size u (.val (kN j))) (i := 0) (m := (y.length : Nat)) (fe := fq (qArgs dLen (qCons (qVar 1) qNil))) rfl (q_ev (qargs_ev (qcons_ev rfl rfl) (pl_len_ev (by omega)))) ok (by omega) (by omega)
      have hv' : v < y.length := by omega
      have hcat : dAdd (.str (wd (pl y) u)) (.str (pl [y[v]])) = some (.str (wd (pl y) (u ++ [v]))) := by
        have := pl_cat (l := u.map (sg (pl y))) (m := [y[v]]) (by rw [List.length_map, List.length_singleton]; omega)
        rw [show wd (pl y) (u ++ [v]) = pl (u.map (sg (pl y)) ++ [y[v]]) by unfold wd pl; rw [List.map_append, List.map_singleton, show sg ⟨y.toArray⟩ v = y[v] from pl_sg hv']]
        exact this
      refine ⟨oS xs y size u (.val (kN j)), _, rfl, asg_ev (bin_ev (q_ev rfl) (bin_ev (q_ev rfl) e1 (pl_at (List.getElem?_eq_getElem hv') (by omega))) hcat) rfl, xs', u ++ [v], .val (kN j), ⟨ok', fun i hi => ?_, by rw [List.length_append, List.length_append, hl]; rfl⟩, rfl⟩
      rcases List.mem_append.mp hi with hi | hi
      · exact hu i hi
      · rw [List.mem_singleton.mp hi]; exact hv')
  rw [List.length_range] at hl
  refine ⟨xs', u, ok', ⟨by rw [pl_len]; exact hu, by omega⟩, fnIO_ex rfl ⟨oS xs' y size u s4, ?_, rfl⟩⟩
  unfold F__law_word
  rw [no_eq]
  exact seq_ev (ρ1 := oS xs y size [] .un) rfl (seq_ev f1 (ret_ev (q_ev rfl)))
theorem e_lweight {c : Bool} {xs : List Int} {th : Nat} (ok : okT xs) (ht : th < 2) : ∃ xs' x, okT xs' ∧ Vt c x ∧ g__law_weight [.box true (bx D.int xs), .val (.bl c), .val (kN th)] = some (en c x, [.box true (bx D.int xs'), .val (.bl c), .val (kN th)]) := by
  cases c with
  | true =>
    have hm : ∃ m : Int, 0 < m ∧ m ≤ 6 ∧ fBin dIx (fArgs dLst (fCons (fq (qC (.int 3))) (fCons (fq (qC (.int 6))) fNil))) (fq (qVar 2)) [.box true (bx D.int xs), .val (.bl true), .val (kN th)] = some (.int m, [.box true (bx D.int xs), .val (.bl true), .val (kN th)]) := by
      have hl : fArgs dLst (fCons (fq (qC (.int 3))) (fCons (fq (qC (.int 6))) fNil)) [.box true (bx D.int xs), .val (.bl true), .val (kN th)] = some (.lst [.int 3, .int 6], [.box true (bx D.int xs), .val (.bl true), .val (kN th)]) := args_ev (cons_ev (q_ev rfl) (cons_ev (q_ev rfl) nil_ev)) rfl
      match th, ht with
      | 0, _ => exact ⟨3, by omega, by omega, bin_ev hl (q_ev rfl) (dIx_lst' (i := 0) rfl)⟩
      | 1, _ => exact ⟨6, by omega, by omega, bin_ev hl (q_ev rfl) (dIx_lst' (i := 1) rfl)⟩
    obtain ⟨m, m0, m6, em⟩ := hm
    obtain ⟨v, xs', hv, ok', e⟩ := draw (ρ := [.box true (bx D.int xs), .val (.bl true), .val (kN th)]) (i := 0) (m := m) rfl em ok m0 (by omega)
    obtain ⟨x, hx⟩ : ∃ x, [none, some 0, some 1, some (-1), some 0, some (1 : Int)][v]? = some x := ⟨_, List.getElem?_eq_getElem (by simp only [List.length_cons, List.length_nil]; omega)⟩
    refine ⟨xs', x, ok', .inl rfl, fnIO_ex rfl ⟨[.box true (bx D.int xs'), .val (.bl true), .val (kN th)], seq_rt (if_t (b_ev (q_ev rfl)) (ret_ev (bin_ev (args_ev (cons_ev (q_ev rfl) (cons_ev (q_ev rfl) (cons_ev (q_ev rfl) (cons_ev (q_ev rfl) (cons_ev (q_ev rfl) (cons_ev (q_ev rfl) nil_ev)))))) rfl) e (dIx_lst (f := en true) hx)))), rfl⟩⟩
  | false =>
    obtain ⟨v, xs', hv, ok', e⟩ := draw (ρ := [.box true (bx D.int xs), .val (.bl false), .val (kN th)]) (i := 0) (m := 2 + 2 * (th : Int)) (fe := fq (qBin dAdd (qC (.int 2)) (qBin dMulI (qC (.int 2)) (qVar 2)))) rfl (q_ev (qbin_ev rfl (qbin_ev rfl rfl (mul_ev (by decide) (by omega))) add_ev)) ok (by omega) (by omega)
    refine ⟨xs', if 0 < v then some 0 else none, ok', by by_cases h : 0 < v; rw [if_pos h]; exact .inr (.inr rfl); rw [if_neg h]; exact .inr (.inl rfl), fnIO_ex rfl ⟨[.box true (bx D.int xs'), .val (.bl false), .val (kN th)], seq_ev (if_f (b_ev (q_ev rfl)) rfl) (ret_ev (bin_ev e (q_ev rfl) ?_)), rfl⟩⟩
    rw [show kN v = D.int (v : Int) from rfl, gt_ev]
    by_cases h : 0 < v
    · rw [if_pos h, decide_eq_true (by omega)]; rfl
    · rw [if_neg h, decide_eq_false (by omega)]; rfl
section
variable {c : Bool} {th n : Nat}
theorem e_line {xs : List Int} (ok : okT xs) (ht : th < 2) (hn : n ≤ 20) : ∃ xs' l, okT xs' ∧ l.length = n ∧ Vr c l ∧ g__law_line [.box true (bx D.int xs), .val (.bl c), .val (kN th), .val (kN n)] = some (eR c l, [.box true (bx D.int xs'), .val (.bl c), .val (kN th), .val (kN n)]) := by
  obtain ⟨ys, ρ2, e2, xs2, l, ok2, rfl, hl, vl, rfl⟩ := lc_io (ρ := [.box true (bx D.int xs), .val (.bl c), .val (kN th), .val (kN n), .un]) (f := fRange (fCons (fq (qVar 3)) fNil)) (g := gN 4) (e := fIO g__law_weight (akS 0 (akV (fq (qVar 1)) (akV (fq (qVar 2)) akNil)))) (vs := [4]) (List.range n) kN
    (fun pre ys ρ => ∃ xs l, okT xs ∧ ys = l.map (en c) ∧ l.length = pre.length ∧ Vr c l ∧ ρ = [.box true (bx D.int xs), .val (.bl c), .val (kN th), .val (kN n), .un]) (range_ev (q_ev rfl) (by omega)) rfl (szr (by omega)) ⟨xs, [], ok, rfl, rfl, fun x h => (nomatch h), rfl⟩ (by
      rintro pre a post ys ρ e ⟨xs, l, ok, rfl, hl, vl, rfl⟩
      obtain ⟨xs', x, ok', vx, e'⟩ := e_lweight (c := c) ok ht
      have e1 := io2_ev (ρ := [.box true (bx D.int xs), .val (.bl c), .val (kN th), .val (kN n), .val (kN a)]) (i := 0) (o := true) (g := g__law_weight) (fe := fq (qVar 1)) (fe2 := fq (qVar 2)) rfl rfl (q_ev rfl) (q_ev rfl) e'
      refine ⟨_, _, _, rfl, e1, xs', l ++ [x], ok', by rw [List.map_append]; rfl, by rw [List.length_append, List.length_append, hl]; rfl, fun z hz => ?_, rfl⟩
      rcases List.mem_append.mp hz with hz | hz
      · exact vl z hz
      · rw [List.mem_singleton.mp hz]; exact vx)
  rw [List.length_range] at hl
  exact ⟨xs2, l, ok2, hl, vl, fnIO_ex rfl ⟨[.box true (bx D.int xs2), .val (.bl c), .val (kN th), .val (kN n), .un], ret_ev (args_ev (cons_ev e2 nil_ev) rfl), rfl⟩⟩
theorem tcut_hi {α : Type} {f : α → D} {l : List α} {k : Nat} (h : k ≤ l.length) : dCut (.tup (l.map f)) none (some (k : Nat)) = some (.tup ((l.take k).map f)) := by
  unfold dCut cutL
  simp only
  rw [HT.sIx_none, HT.sIx_nat, List.length_map, Nat.min_eq_left h, List.drop_zero, Nat.sub_zero, List.map_take]
theorem tcut_lo {α : Type} {f : α → D} {l : List α} {k : Nat} (h : k ≤ l.length) : dCut (.tup (l.map f)) (some (k : Nat)) none = some (.tup ((l.drop k).map f)) := by
  unfold dCut cutL
  simp only
  rw [HT.sIx_none, HT.sIx_nat, List.length_map, Nat.min_eq_left h, List.take_of_length_le (by simp), List.map_drop]
theorem tcat {α : Type} {f : α → D} {l m : List α} (h : l.length + m.length ≤ 1000) : dAdd (.tup (l.map f)) (.tup (m.map f)) = some (.tup ((l ++ m).map f)) := by
  show (if (l.map f).length + (m.map f).length ≤ sizeLine then some (D.tup (l.map f ++ m.map f)) else none) = _
  rw [if_pos (sz (by rw [List.length_map, List.length_map]; exact h)), List.map_append]
def mS (xs : List Int) (c : Bool) (y : List Nat) (n th fw : Nat) (T : List (List (List Tr.T))) (s7 s8 s9 : DL.Slot) : List DL.Slot := [.box true (bx D.int xs), .val (.bl c), .val (.str (pl y)), .val (kN n), .val (kN th), .val (kN fw), .box false (bx (kTu (eR c)) T), s7, s8, s9]
theorem rot_ev {xs : List Int} {y : List Nat} {fw : Nat} {T : List (List (List Tr.T))} {l : List Tr.T} {s7 : DL.Slot} (hl : l.length = n) (hn : n ≤ 20) :
    fArgs dTuple (fCons (fLc (fRange (fCons (fq (qVar 3)) fNil)) (gN 9) [9] fTrue (fq (qBin dAdd (qCut (qVar 8) (oSome (qVar 9)) oNone) (qCut (qVar 8) oNone (oSome (qVar 9)))))) fNil) (mS xs c y n th fw T s7 (.val (eR c l)) .un) = some (kTu (eR c) ((List.range n).map fun k => l.drop k ++ l.take k), mS xs c y n th fw T s7 (.val (eR c l)) .un) := by
  have h := lc_map (ρ := mS xs c y n th fw T s7 (.val (eR c l)) .un) (f := fRange (fCons (fq (qVar 3)) fNil)) (g := gN 9) (e := fq (qBin dAdd (qCut (qVar 8) (oSome (qVar 9)) oNone) (qCut (qVar 8) oNone (oSome (qVar 9))))) (vs := [9]) (List.range n) kN (fun k => eR c (l.drop k ++ l.take k)) (range_ev (q_ev rfl) (by omega)) rfl (szr (by omega)) fun k hk => by
    have hk' := List.mem_range.mp hk
    exact ⟨_, rfl, _, q_ev (qbin_ev (cut_lo rfl rfl (tcut_lo (by omega))) (cut_hi rfl rfl (tcut_hi (by omega))) (tcat (by rw [List.length_drop, List.length_take]; omega))), rfl⟩
  refine args_ev (cons_ev h nil_ev) ?_
  simp only [dTuple_l, kTu, List.map_map]; rfl
theorem lines_ev {xs : List Int} {y : List Nat} {fw : Nat} {T : List (List (List Tr.T))} {s7 s8 : DL.Slot} (ok : okT xs) (ht : th < 2) (hn : n ≤ 20) : ∃ xs' t, okT xs' ∧ Sq n t ∧ (∀ r ∈ t, Vr c r) ∧
    fArgs dTuple (fCons (fLc (fRange (fCons (fq (qVar 3)) fNil)) (gN 9) [9] fTrue (fIO g__law_line (akS 0 (akV (fq (qVar 1)) (akV (fq (qVar 4)) (akV (fq (qVar 3)) akNil)))))) fNil) (mS xs c y n th fw T s7 s8 .un) = some (kTu (eR c) t, mS xs' c y n th fw T s7 s8 .un) := by
  obtain ⟨ys, ρ2, e2, xs2, t, ok2, rfl, hl, vl, rfl⟩ := lc_io (ρ := mS xs c y n th fw T s7 s8 .un) (f := fRange (fCons (fq (qVar 3)) fNil)) (g := gN 9) (e := fIO g__law_line (akS 0 (akV (fq (qVar 1)) (akV (fq (qVar 4)) (akV (fq (qVar 3)) akNil))))) (vs := [9]) (List.range n) kN
    (fun pre ys ρ => ∃ xs t, okT xs ∧ ys = t.map (eR c) ∧ t.length = pre.length ∧ (∀ r ∈ t, r.length = n ∧ Vr c r) ∧ ρ = mS xs c y n th fw T s7 s8 .un) (range_ev (q_ev rfl) (by omega)) rfl (szr (by omega)) ⟨xs, [], ok, rfl, rfl, fun x h => (nomatch h), rfl⟩ (by
      rintro pre a post ys ρ e ⟨xs, t, ok, rfl, hl, vl, rfl⟩
      obtain ⟨xs', l, ok', ll, vl', e'⟩ := e_line (c := c) (th := th) ok ht hn
      have e1 := io3_ev (ρ := mS xs c y n th fw T s7 s8 (.val (kN a))) (i := 0) (o := true) (g := g__law_line) (fe := fq (qVar 1)) (fe2 := fq (qVar 4)) (fe3 := fq (qVar 3)) rfl rfl (q_ev rfl) (q_ev rfl) (q_ev rfl) e'
      refine ⟨_, _, _, rfl, e1, xs', t ++ [l], ok', by rw [List.map_append]; rfl, by rw [List.length_append, List.length_append, hl]; rfl, fun z hz => ?_, rfl⟩
      rcases List.mem_append.mp hz with hz | hz
      · exact vl z hz
      · rw [List.mem_singleton.mp hz]; exact ⟨ll, vl'⟩)
  rw [List.length_range] at hl
  exact ⟨xs2, t, ok2, ⟨hl, fun r hr => (vl r hr).1⟩, fun r hr => (vl r hr).2, args_ev (cons_ev e2 nil_ev) rfl⟩
noncomputable def tabF : FS := (fSeq (fAsg (fIO g__law_line (akS 0 (akV (fq (qVar 1)) (akV (fq (qVar 4)) (akV (fq (qVar 3)) akNil))))) (gN 8))
  (fIfS (fB (fq (qLook dEq (qVar 5) (qC (.int 0))))) (fDrop (fChgN 6 (fCons (fArgs dTuple (fCons (fLc (fRange (fCons (fq (qVar 3)) fNil)) (gN 9) [9] fTrue (fq (qBin dAdd (qCut (qVar 8) (oSome (qVar 9)) oNone) (qCut (qVar 8) oNone (oSome (qVar 9)))))) fNil)) fNil) chApp)) (fDrop (fChgN 6 (fCons (fArgs dTuple (fCons (fLc (fRange (fCons (fq (qVar 3)) fNil)) (gN 9) [9] fTrue (fIO g__law_line (akS 0 (akV (fq (qVar 1)) (akV (fq (qVar 4)) (akV (fq (qVar 3)) akNil)))))) fNil)) fNil) chApp))))
theorem tab_step {xs : List Int} {y : List Nat} {fw : Nat} {T : List (List (List Tr.T))} {s7 s8 : DL.Slot} (ok : okT xs) (ht : th < 2) (hn : n ≤ 20) (hT : T.length ≤ 3) : ∃ xs' t s8', okT xs' ∧ Sq n t ∧ (∀ r ∈ t, Vr c r) ∧ tabF (mS xs c y n th fw T s7 s8 .un) = some (.nx (mS xs' c y n th fw (T ++ [t]) s7 s8' .un)) := by
  obtain ⟨x1, l, ok1, ll, vl, e1⟩ := e_line (c := c) (th := th) (n := n) ok ht hn
  have a1 := io3_ev (ρ := mS xs c y n th fw T s7 s8 .un) (i := 0) (o := true) (g := g__law_line) (fe := fq (qVar 1)) (fe2 := fq (qVar 4)) (fe3 := fq (qVar 3)) rfl rfl (q_ev rfl) (q_ev rfl) (q_ev rfl) e1
  have hc : fB (fq (qLook dEq (qVar 5) (qC (.int 0)))) (mS x1 c y n th fw T s7 (.val (eR c l)) .un) = some (decide ((fw : Int) = 0), mS x1 c y n th fw T s7 (.val (eR c l)) .un) := b_ev (q_ev (qlook_ev rfl rfl eqI_ev))
  have hTl : T.length < sizeLine := Nat.lt_of_le_of_lt hT (by decide)
  unfold tabF
  by_cases h : (fw : Int) = 0
  · rw [decide_eq_true h] at hc
    refine ⟨x1, (List.range n).map fun k => l.drop k ++ l.take k, .val (eR c l), ok1, ⟨by simp, fun r hr => ?_⟩, fun r hr x hx => ?_, seq_ev (asg_ev a1 rfl) (if_t hc (drop_ev (appN_ev (f := kTu (eR c)) (l := T) ⟨_, _, rfl⟩ (cons_ev (rot_ev ll hn) nil_ev) rfl hTl)))⟩
    · obtain ⟨k, hk, rfl⟩ := List.mem_map.mp hr
      have := List.mem_range.mp hk
      rw [List.length_append, List.length_drop, List.length_take]; omega
    · obtain ⟨k, _, rfl⟩ := List.mem_map.mp hr
      rcases List.mem_append.mp hx with hx | hx
      · exact vl x (List.mem_of_mem_drop hx)
      · exact vl x (List.mem_of_mem_take hx)
  · rw [decide_eq_false h] at hc
    obtain ⟨x2, t, ok2, sq, vt, e2⟩ := lines_ev (c := c) (th := th) (n := n) (y := y) (fw := fw) (T := T) (s7 := s7) (s8 := .val (eR c l)) ok1 ht hn
    exact ⟨x2, t, .val (eR c l), ok2, sq, vt, seq_ev (asg_ev a1 rfl) (if_f hc (drop_ev (appN_ev (f := kTu (eR c)) (l := T) (a := t) ⟨_, _, rfl⟩ (cons_ev e2 nil_ev) rfl hTl)))⟩
theorem e_machine {xs : List Int} {y : List Nat} (ok : okT xs) (h1 : 1 ≤ y.length) (h3 : y.length ≤ 3) (nd : y.Nodup) (hn : n ≤ 20) :
    ∃ xs' s ts e, okT xs' ∧ Ok c n (pl y) s ts e ∧ g__law_machine [.box true (bx D.int xs), .val (.bl c), .val (.str (pl y)), .val (kN n)] = some (em c (pl y) s ts e, [.box true (bx D.int xs'), .val (.bl c), .val (.str (pl y)), .val (kN n)]) := by
  obtain ⟨th, x1, ht, ok1, d1⟩ := draw (ρ := [.box true (bx D.int xs), .val (.bl c), .val (.str (pl y)), .val (kN n), .un, .un, .un, .un, .un, .un]) (i := 0) (m := 2) (fe := fq (qC (.int 2))) rfl (q_ev rfl) ok (by omega) (by omega)
  obtain ⟨fw, x2, _, ok2, d2⟩ := draw (ρ := [.box true (bx D.int x1), .val (.bl c), .val (.str (pl y)), .val (kN n), .un, .un, .un, .un, .un, .un]) (i := 0) (m := 2) (fe := fq (qC (.int 2))) rfl (q_ev rfl) ok1 (by omega) (by omega)
  have ht' : th < 2 := ht
  obtain ⟨ρ', f1, x3, T, s7, s8, ⟨ok3, hT, hsq⟩, rfl⟩ := for_ev (ρ := mS x2 c y n th fw [] .un .un .un) (f := fIter (fq (qVar 2))) (g := gN 7) (F := tabF) y (fun k => D.str ⟨#[k]⟩)
    (fun pre ρ => ∃ xs T s7 s8, (okT xs ∧ T.length = pre.length ∧ ∀ t ∈ T, Sq n t ∧ ∀ r ∈ t, Vr c r) ∧ ρ = mS xs c y n th fw T s7 s8 .un) (by
      unfold fIter
      rw [q_ev (d := .str (pl y)) rfl]
      show some ((DL.signs (pl y)).map D.str, _) = _
      unfold DL.signs pl
      rw [List.map_map]; rfl) ⟨x2, [], .un, .un, ⟨ok2, rfl, fun t h => (nomatch h)⟩, rfl⟩ (by
      rintro pre j post ρ e ⟨xs, T, s7, s8, ⟨ok, hT, hsq⟩, rfl⟩
      have hlt : pre.length < y.length := by have := congrArg List.length e; simp at this; omega
      obtain ⟨xs', t, s8', ok', sq, vt, h⟩ := tab_step (c := c) (th := th) (n := n) (y := y) (fw := fw) (T := T) (s7 := .val (.str ⟨#[j]⟩)) (s8 := s8) ok ht' hn (by omega)
      refine ⟨mS xs c y n th fw T (.val (.str ⟨#[j]⟩)) s8 .un, _, rfl, h, xs', T ++ [t], .val (.str ⟨#[j]⟩), s8', ⟨ok', by rw [List.length_append, List.length_append, hT]; rfl, fun z hz => ?_⟩, rfl⟩
      rcases List.mem_append.mp hz with hz | hz
      · exact hsq z hz
      · rw [List.mem_singleton.mp hz]; exact ⟨sq, vt⟩)
  obtain ⟨x4, s, ok4, sl, vs, e4⟩ := e_line (c := c) (th := th) (n := n) ok3 ht' hn
  have a4 := io3_ev (ρ := mS x3 c y n th fw T s7 s8 .un) (i := 0) (o := true) (g := g__law_line) (fe := fq (qVar 1)) (fe2 := fq (qVar 4)) (fe3 := fq (qVar 3)) rfl rfl (q_ev rfl) (q_ev rfl) (q_ev rfl) e4
  obtain ⟨x5, e, ok5, el, ve, e5⟩ := e_line (c := c) (th := th) (n := n) ok4 ht' hn
  have a5 := io3_ev (ρ := [.box true (bx D.int x4), .val (.bl c), .val (.str (pl y)), .val (kN n), .val (kN th), .val (kN fw), .val (kLs (kTu (eR c)) T), s7, s8, .un]) (i := 0) (o := true) (g := g__law_line) (fe := fq (qVar 1)) (fe2 := fq (qVar 4)) (fe3 := fq (qVar 3)) rfl rfl (q_ev rfl) (q_ev rfl) (q_ev rfl) e5
  refine ⟨x5, s, T, e, ok5, ⟨by unfold pl; simpa using nd, by rw [hT, pl_len], by rw [pl_len]; exact h3, fun t h => (hsq t h).1, sl, el, hn, vs, ve, fun t h => (hsq t h).2⟩, fnIO_ex rfl ⟨[.box true (bx D.int x5), .val (.bl c), .val (.str (pl y)), .val (kN n), .val (kN th), .val (kN fw), .val (kLs (kTu (eR c)) T), s7, s8, .un], ?_, rfl⟩⟩
  unfold F__law_machine
  refine seq_ev (asg_ev (args_ev (cons_ev d1 (cons_ev d2 nil_ev)) rfl) rfl) (seq_ev (ρ1 := mS x2 c y n th fw [] .un .un .un) rfl (seq_ev f1 (ret_ev ?_)))
  exact args_ev (cons_ev (q_ev rfl) (cons_ev a4 (cons_ev (args_ev (cons_ev (thaw_ev (f := kTu (eR c)) (l := T) rfl) nil_ev) rfl) (cons_ev a5 nil_ev)))) rfl
end
end K19
end

section
set_option Elab.async false
set_option linter.all false
set_option maxRecDepth 100000
set_option maxHeartbeats 4000000
/-! K19i: the law -/
namespace K19
open PySem PySem.Spec PyProof.Rows L2 DL Bf Tr
theorem io2x_ev {ρ ρ1 : List DL.Slot} {i : Nat} {g : List DL.Slot → Option (D × List DL.Slot)} {fe fe2 : FE} {o : Bool} {b b' : B} {d d2 r : D} (h0 : ∃ o b, ρ[i]? = some (.box o b)) (he : fe ρ = some (d, ρ)) (he2 : fe2 ρ = some (d2, ρ1)) (h : ρ1[i]? = some (.box o b)) (hb : b.isBox = true) (hg : g [.box true b, .val d, .val d2] = some (r, [.box true b', .val d, .val d2])) :
    fIO g (akS i (akV fe (akV fe2 akNil))) ρ = some (r, ρ1.set i (.box o b')) := by
  obtain ⟨o0, b0, h0⟩ := h0
  unfold fIO akS akV akNil
  simp only [h0, he, he2, slotsOf, h, argSlots, hb, if_true, Option.map_some, hg, putBack, List.nodup_cons, List.not_mem_nil, not_false_eq_true, List.nodup_nil, and_self]
def zS (ns : List Int) (xs : List Int) (s2 s3 s4 s5 s6 s7 s8 s9 s10 s11 s12 : DL.Slot) : List DL.Slot := [.val (.scr ns), .box false (bx D.int xs), s2, s3, s4, s5, s6, s7, s8, s9, s10, s11, s12]
section
variable {ns xs : List Int} {s2 s3 s4 s5 s6 s7 s8 s9 s10 s11 s12 : DL.Slot}
theorem zdraw {m : Int} (ok : okT xs) (hm : 0 < m) (hm2 : m < 2 ^ 60) : ∃ v xs', v < m.toNat ∧ okT xs' ∧ fIO g__law_next (akS 1 (akV (fq (qC (.int m))) akNil)) (zS ns xs s2 s3 s4 s5 s6 s7 s8 s9 s10 s11 s12) = some (kN v, zS ns xs' s2 s3 s4 s5 s6 s7 s8 s9 s10 s11 s12) :=
  draw (ρ := zS ns xs s2 s3 s4 s5 s6 s7 s8 s9 s10 s11 s12) (i := 1) (m := m) (fe := fq (qC (.int m))) rfl (q_ev rfl) ok hm hm2
theorem z_many (ok : okT xs) : ∃ n xs', n ≤ 20 ∧ okT xs' ∧ (fBin dIx (fArgs dLst (fCons (fIO g__law_next (akS 1 (akV (fq (qC (.int 8))) akNil))) (fCons (fBin dAdd (fq (qC (.int 7))) (fIO g__law_next (akS 1 (akV (fq (qC (.int 14))) akNil)))) (fCons (fq (qC (.int 20))) (fCons (fBin dAdd (fq (qC (.int 7))) (fIO g__law_next (akS 1 (akV (fq (qC (.int 7))) akNil)))) fNil))))) (fIO g__law_next (akS 1 (akV (fq (qC (.int 4))) akNil)))) (zS ns xs s2 s3 s4 s5 s6 s7 s8 s9 s10 s11 s12) = some (kN n, zS ns xs' s2 s3 s4 s5 s6 s7 s8 s9 s10 s11 s12) := by
  obtain ⟨v1, x1, b1, ok1, e1⟩ := zdraw (ns := ns) (s2 := s2) (s3 := s3) (s4 := s4) (s5 := s5) (s6 := s6) (s7 := s7) (s8 := s8) (s9 := s9) (s10 := s10) (s11 := s11) (s12 := s12) (m := 8) ok (by omega) (by omega)
  obtain ⟨v2, x2, b2, ok2, e2⟩ := zdraw (ns := ns) (s2 := s2) (s3 := s3) (s4 := s4) (s5 := s5) (s6 := s6) (s7 := s7) (s8 := s8) (s9 := s9) (s10 := s10) (s11 := s11) (s12 := s12) (m := 14) ok1 (by omega) (by omega)
  obtain ⟨v3, x3, b3, ok3, e3⟩ := zdraw (ns := ns) (s2 := s2) (s3 := s3) (s4 := s4) (s5 := s5) (s6 := s6) (s7 := s7) (s8 := s8) (s9 := s9) (s10 := s10) (s11 := s11) (s12 := s12) (m := 7) ok2 (by omega) (by omega)
  obtain ⟨v4, x4, b4, ok4, e4⟩ := zdraw (ns := ns) (s2 := s2) (s3 := s3) (s4 := s4) (s5 := s5) (s6 := s6) (s7 := s7) (s8 := s8) (s9 := s9) (s10 := s10) (s11 := s11) (s12 := s12) (m := 4) ok3 (by omega) (by omega)
  have b1' : v1 < 8 := b1
  have b2' : v2 < 14 := b2
  have b3' : v3 < 7 := b3
  have b4' : v4 < 4 := b4
  have q2 : dAdd (.int 7) (kN v2) = some (kN (7 + v2)) := by rw [show kN v2 = D.int (v2 : Int) from rfl, add_ev]; congr 2
  have q3 : dAdd (.int 7) (kN v3) = some (kN (7 + v3)) := by rw [show kN v3 = D.int (v3 : Int) from rfl, add_ev]; congr 2
  obtain ⟨n, hn⟩ : ∃ n, [v1, 7 + v2, 20, 7 + v3][v4]? = some n := ⟨_, List.getElem?_eq_getElem (by simpa using b4')⟩
  refine ⟨n, x4, ?_, ok4, bin_ev (args_ev (cons_ev e1 (cons_ev (bin_ev (q_ev rfl) e2 q2) (cons_ev (q_ev rfl) (cons_ev (bin_ev (q_ev rfl) e3 q3) nil_ev)))) rfl) e4 (dIx_lst (f := kN) (l := [v1, 7 + v2, 20, 7 + v3]) hn)⟩
  have := List.mem_of_getElem? hn
  simp only [List.mem_cons, List.not_mem_nil, or_false] at this
  omega
theorem z_size (ok : okT xs) : ∃ n xs', n ≤ 40 ∧ okT xs' ∧ (fBin dIx (fArgs dLst (fCons (fq (qC (.int 40))) (fCons (fIO g__law_next (akS 1 (akV (fq (qC (.int 41))) akNil))) (fCons (fIO g__law_next (akS 1 (akV (fq (qC (.int 6))) akNil))) fNil)))) (fIO g__law_next (akS 1 (akV (fq (qC (.int 3))) akNil)))) (zS ns xs s2 s3 s4 s5 s6 s7 s8 s9 s10 s11 s12) = some (kN n, zS ns xs' s2 s3 s4 s5 s6 s7 s8 s9 s10 s11 s12) := by
  obtain ⟨v1, x1, b1, ok1, e1⟩ := zdraw (ns := ns) (s2 := s2) (s3 := s3) (s4 := s4) (s5 := s5) (s6 := s6) (s7 := s7) (s8 := s8) (s9 := s9) (s10 := s10) (s11 := s11) (s12 := s12) (m := 41) ok (by omega) (by omega)
  obtain ⟨v2, x2, b2, ok2, e2⟩ := zdraw (ns := ns) (s2 := s2) (s3 := s3) (s4 := s4) (s5 := s5) (s6 := s6) (s7 := s7) (s8 := s8) (s9 := s9) (s10 := s10) (s11 := s11) (s12 := s12) (m := 6) ok1 (by omega) (by omega)
  obtain ⟨v3, x3, b3, ok3, e3⟩ := zdraw (ns := ns) (s2 := s2) (s3 := s3) (s4 := s4) (s5 := s5) (s6 := s6) (s7 := s7) (s8 := s8) (s9 := s9) (s10 := s10) (s11 := s11) (s12 := s12) (m := 3) ok2 (by omega) (by omega)
  have b1' : v1 < 41 := b1
  have b2' : v2 < 6 := b2
  have b3' : v3 < 3 := b3
  obtain ⟨n, hn⟩ : ∃ n, [40, v1, v2][v3]? = some n := ⟨_, List.getElem?_eq_getElem (by simpa using b3')⟩
  refine ⟨n, x3, ?_, ok3, bin_ev (args_ev (cons_ev (q_ev rfl) (cons_ev e1 (cons_ev e2 nil_ev))) rfl) e3 (dIx_lst (f := kN) (l := [40, v1, v2]) hn)⟩
  have := List.mem_of_getElem? hn
  simp only [List.mem_cons, List.not_mem_nil, or_false] at this
  omega
end
noncomputable def againF : FS := (fSeq (fAsg (fq (qArgs g_best_way (qCons (qVar 6) (qCons (qVar 5) (qCons (qVar 8) qNil))))) (gN 11))
  (fIfS (fB (fq (qLook dIs (qVar 9) (qC .non)))) (fIfS (fOr (fB (fq (qLook dIsNot (qVar 11) (qC .non)))) (fB (fBin dNe (fq (qArgs g_weight (qCons (qVar 6) (qCons (qVar 5) (qCons (qVar 8) qNil))))) (fMeth "nought" tb_nought (fq (qVar 6)) fNil)))) (fRet (fq (qC (.bl false)))) fNext) (fIfS (fNot (fB (fq (qArgs g__law_is_way (qCons (qVar 11) (qCons (qBin dIx (qVar 9) (qC (.int 1))) qNil)))))) (fRet (fq (qC (.bl false)))) fNext)))
noncomputable def lastF : FS := (fIfS (fB (fq (qLook dIsNot (qVar 9) (qC .non)))) (fSeq (fAsg (fIf (fB (fq (qVar 2))) (fq (qBin dIx (qVar 9) (qC (.int 0)))) (fq (qC (.bl true)))) (gN 12))
  (fIfS (fOr (fB (fq (qLook dNe (qArgs g_weight (qCons (qVar 6) (qCons (qVar 5) (qCons (qVar 8) qNil)))) (qVar 12)))) (fB (fq (qLook dNe (qArgs g_way_weight (qCons (qVar 6) (qCons (qVar 5) (qCons (qVar 8) (qCons (qBin dIx (qVar 9) (qC (.int 1))) qNil))))) (qVar 12))))) (fRet (fq (qC (.bl false)))) fNext)) fNext)
section
variable {c : Bool} {n : Nat} {ls : Str} {s : List T} {ts : List (List (List T))} {e : List T} {u : List Nat} {ns xs : List Int}
/-- the slots of a word's turn -/
def qS (ns xs : List Int) (c : Bool) (ls : Str) (n : Nat) (M : D) (s7 : DL.Slot) (w due : D) (s10 s11 s12 : DL.Slot) : List DL.Slot := zS ns xs (.val (.bl c)) (.val (.str ls)) (.val (kN n)) (.val M) (.val (kd c)) s7 (.val w) (.val due) s10 s11 s12
theorem again_none (ok : Ok c n ls s ts e) (hu : Wd ls u) (h : dot s (col (tb ts u) e) = none) {s7 s10 s11 s12 : DL.Slot} : againF (qS ns xs c ls n (em c ls s ts e) s7 (.str (wd ls u)) .non s10 s11 s12) = some (.nx (qS ns xs c ls n (em c ls s ts e) s7 (.str (wd ls u)) .non s10 (.val .non) s12)) := by
  have hb := e_best_none ok hu h
  have hw := e_weight ok hu
  rw [h] at hw
  generalize em c ls s ts e = M at hb hw
  unfold againF
  refine seq_ev (asg_ev (q_ev (qargs_ev (qcons_ev rfl (qcons_ev rfl (qcons_ev rfl rfl))) hb)) rfl) (if_t (b_ev (q_ev (qlook_ev rfl rfl rfl))) (if_f (or_ev (b_ev (q_ev (qlook_ev rfl rfl rfl))) ?_) rfl))
  exact b_ev (bin_ev (q_ev (qargs_ev (qcons_ev rfl (qcons_ev rfl (qcons_ev rfl rfl))) hw)) (nought_ev (q_ev rfl)) (by rw [ne_en vt_none vt_none, decide_eq_true rfl]; rfl))
theorem again_some (ok : Ok c n ls s ts e) (hu : Wd ls u) {d : Int} {W : List Nat} (hg : Good (tb ts u) e s d W) {s7 s10 s11 s12 : DL.Slot} : againF (qS ns xs c ls n (em c ls s ts e) s7 (.str (wd ls u)) (tellD d W) s10 s11 s12) = some (.nx (qS ns xs c ls n (em c ls s ts e) s7 (.str (wd ls u)) (tellD d W) s10 (.val (kTu kN W)) s12)) := by
  have hb := e_best ok hu hg
  have hW : W.length = u.length + 1 := by rw [good_len hg, tb_len]
  have hr := way_rooms ok.he ok.hs (fun t ht => (tb_sq ok hu.1 t ht).1) hg
  have hi := e_isway (W := W) (by have := hu.2; omega) fun r h => by have := hr r h; have := ok.hn; omega
  generalize em c ls s ts e = M at hb
  unfold againF
  exact seq_ev (asg_ev (q_ev (qargs_ev (qcons_ev rfl (qcons_ev rfl (qcons_ev rfl rfl))) hb)) rfl) (if_f (b_ev (q_ev (qlook_ev rfl rfl rfl))) (if_f (not_ev (b := true) (b_ev (q_ev (qargs_ev (qcons_ev rfl (qcons_ev (qbin_ev rfl rfl dIx_t1) rfl)) hi)))) rfl))
theorem last_some (ok : Ok c n ls s ts e) (hu : Wd ls u) {d : Int} {W : List Nat} (hg : Good (tb ts u) e s d W) {s7 s10 s11 s12 : DL.Slot} : lastF (qS ns xs c ls n (em c ls s ts e) s7 (.str (wd ls u)) (tellD d W) s10 s11 s12) = some (.nx (qS ns xs c ls n (em c ls s ts e) s7 (.str (wd ls u)) (tellD d W) s10 s11 (.val (en c (some d))))) := by
  have hd : dot s (col (tb ts u) e) = some d := by rw [← due_eq, show bestOf s (com (tb ts u) e) = some (d, W) from hg]; rfl
  have hv := vt_dot ok.vs (vr_colS ok (tb_sq ok hu.1))
  rw [hd] at hv
  have hw := e_weight ok hu
  rw [hd] at hw
  have hy := e_way ok hu hg
  generalize em c ls s ts e = M at hw hy
  have whole : fIf (fB (fq (qVar 2))) (fq (qBin dIx (qVar 9) (qC (.int 0)))) (fq (qC (.bl true))) (qS ns xs c ls n M s7 (.str (wd ls u)) (tellD d W) s10 s11 s12) = some (en c (some d), qS ns xs c ls n M s7 (.str (wd ls u)) (tellD d W) s10 s11 s12) := by
    unfold fIf
    rw [b_ev (b := c) (q_ev rfl)]
    cases c with
    | true => exact q_ev (qbin_ev rfl rfl dIx_t0)
    | false => exact q_ev rfl
  have ne : dNe (en c (some d)) (en c (some d)) = some (.bl false) := by rw [ne_en hv hv, decide_eq_true rfl]; rfl
  unfold lastF
  exact if_t (b_ev (q_ev (qlook_ev rfl rfl rfl))) (seq_ev (asg_ev whole rfl) (if_f (or_ev (b_ev (q_ev (qlook_ev (qargs_ev (qcons_ev rfl (qcons_ev rfl (qcons_ev rfl rfl))) hw) rfl ne))) (b_ev (q_ev (qlook_ev (qargs_ev (qcons_ev rfl (qcons_ev rfl (qcons_ev rfl (qcons_ev (qbin_ev rfl rfl dIx_t1) rfl)))) hy) rfl ne)))) rfl))
theorem turn_ev (ok : Ok c n ls s ts e) (hu : Wd ls u) {s7 s10 s11 s12 : DL.Slot} : ∃ due s10' s11' s12', g__law_due [.bl c, em c ls s ts e, .str (wd ls u)] = some due ∧
    (fSeq (fFor (fRange (fCons (fq (qC (.int 2))) fNil)) (gN 10) againF) lastF) (qS ns xs c ls n (em c ls s ts e) s7 (.str (wd ls u)) due s10 s11 s12) = some (.nx (qS ns xs c ls n (em c ls s ts e) s7 (.str (wd ls u)) due s10' s11' s12')) := by
  have hdue := e_lawdue ok hu
  have hde := due_eq (ts := tb ts u) (e := e) (row := s)
  cases hb : bestOf s (com (tb ts u) e) with
  | none =>
    rw [hb] at hdue hde
    have hd : dot s (col (tb ts u) e) = none := hde.symm
    obtain ⟨ρ', f1, a10, a11, rfl⟩ := for_ev (ρ := qS ns xs c ls n (em c ls s ts e) s7 (.str (wd ls u)) .non s10 s11 s12) (f := fRange (fCons (fq (qC (.int 2))) fNil)) (g := gN 10) (F := againF) (List.range 2) kN
      (fun _ ρ => ∃ a10 a11, ρ = qS ns xs c ls n (em c ls s ts e) s7 (.str (wd ls u)) .non a10 a11 s12) (range_ev (q_ev rfl) (by decide)) ⟨s10, s11, rfl⟩ (by
        rintro pre k post ρ e1 ⟨a10, a11, rfl⟩
        exact ⟨qS ns xs c ls n (em c ls s ts e) s7 (.str (wd ls u)) .non (.val (kN k)) a11 s12, _, rfl, again_none ok hu hd, _, _, rfl⟩)
    refine ⟨.non, a10, a11, s12, hdue, seq_ev f1 ?_⟩
    unfold lastF
    exact if_f (b_ev (q_ev (qlook_ev rfl rfl rfl))) rfl
  | some p =>
    obtain ⟨d, W⟩ := p
    rw [hb] at hdue
    obtain ⟨ρ', f1, a10, a11, rfl⟩ := for_ev (ρ := qS ns xs c ls n (em c ls s ts e) s7 (.str (wd ls u)) (tellD d W) s10 s11 s12) (f := fRange (fCons (fq (qC (.int 2))) fNil)) (g := gN 10) (F := againF) (List.range 2) kN
      (fun _ ρ => ∃ a10 a11, ρ = qS ns xs c ls n (em c ls s ts e) s7 (.str (wd ls u)) (tellD d W) a10 a11 s12) (range_ev (q_ev rfl) (by decide)) ⟨s10, s11, rfl⟩ (by
        rintro pre k post ρ e1 ⟨a10, a11, rfl⟩
        exact ⟨qS ns xs c ls n (em c ls s ts e) s7 (.str (wd ls u)) (tellD d W) (.val (kN k)) a11 s12, _, rfl, again_some ok hu hb, _, _, rfl⟩)
    exact ⟨tellD d W, a10, a11, .val (en c (some d)), hdue, seq_ev f1 (last_some ok hu hb)⟩
end
theorem e_law (ns : List Int) : g_law [.scr ns] = some (.bl true) := by
  obtain ⟨x0, ok0, e0⟩ := e_state ns
  have c0 : fCallF g__law_state (fCons (fq (qVar 0)) fNil) (.val (.scr ns) :: List.replicate 12 .un) = some (bx D.int x0, .val (.scr ns) :: List.replicate 12 .un) := by
    unfold fCallF
    rw [cons_ev (q_ev (d := .scr ns) rfl) nil_ev]
    simp only [e0]
  obtain ⟨v1, x1, _, ok1, e1⟩ := zdraw (ns := ns) (s2 := .un) (s3 := .un) (s4 := .un) (s5 := .un) (s6 := .un) (s7 := .un) (s8 := .un) (s9 := .un) (s10 := .un) (s11 := .un) (s12 := .un) (m := 2) ok0 (by omega) (by omega)
  obtain ⟨c, hc⟩ : ∃ c, c = decide ((v1 : Int) = 0) := ⟨_, rfl⟩
  have b1 : fBin dEq (fIO g__law_next (akS 1 (akV (fq (qC (.int 2))) akNil))) (fq (qC (.int 0))) (zS ns x0 .un .un .un .un .un .un .un .un .un .un .un) = some (.bl c, zS ns x1 .un .un .un .un .un .un .un .un .un .un .un) := bin_ev e1 (q_ev rfl) (by rw [show kN v1 = D.int (v1 : Int) from rfl, eqI_ev, hc])
  obtain ⟨x2, y, ok2, y1, y3, nd, e2⟩ := e_letters ok1
  have b2 : fIO g__law_letters (akS 1 akNil) (zS ns x1 (.val (.bl c)) .un .un .un .un .un .un .un .un .un .un) = some (.str (pl y), zS ns x2 (.val (.bl c)) .un .un .un .un .un .un .un .un .un .un) := io0_ev (i := 1) rfl rfl e2
  obtain ⟨n, x3, hn, ok3, b3⟩ := z_many (ns := ns) (s2 := .val (.bl c)) (s3 := .val (.str (pl y))) (s4 := .un) (s5 := .un) (s6 := .un) (s7 := .un) (s8 := .un) (s9 := .un) (s10 := .un) (s11 := .un) (s12 := .un) ok2
  obtain ⟨x4, s, ts, e, ok4, mok, e4⟩ := e_machine (c := c) ok3 y1 y3 nd hn
  have b4 := io3_ev (ρ := zS ns x3 (.val (.bl c)) (.val (.str (pl y))) (.val (kN n)) .un .un .un .un .un .un .un .un) (i := 1) (o := false) (g := g__law_machine) (fe := fq (qVar 2)) (fe2 := fq (qVar 3)) (fe3 := fq (qVar 4)) rfl rfl (q_ev rfl) (q_ev rfl) (q_ev rfl) e4
  have b5 : fIf (fB (fq (qVar 2))) (fC (.obj "Costs" [] [])) (fC (.obj "Truths" [] [])) (zS ns x4 (.val (.bl c)) (.val (.str (pl y))) (.val (kN n)) (.val (em c (pl y) s ts e)) .un .un .un .un .un .un .un) = some (kd c, zS ns x4 (.val (.bl c)) (.val (.str (pl y))) (.val (kN n)) (.val (em c (pl y) s ts e)) .un .un .un .un .un .un .un) := by
    unfold fIf
    rw [b_ev (b := c) (q_ev rfl)]
    cases c <;> rfl
  obtain ⟨ρ', f1, x5, a7, a8, a9, a10, a11, a12, _, rfl⟩ := for_ev (ρ := zS ns x4 (.val (.bl c)) (.val (.str (pl y))) (.val (kN n)) (.val (em c (pl y) s ts e)) (.val (kd c)) .un .un .un .un .un .un) (f := fRange (fCons (fq (qC (.int 2))) fNil)) (g := gN 7)
    (F := fSeq (fAsg (fIO g__law_word (akS 1 (akV (fq (qVar 3)) (akV (fBin dIx (fArgs dLst (fCons (fq (qC (.int 40))) (fCons (fIO g__law_next (akS 1 (akV (fq (qC (.int 41))) akNil))) (fCons (fIO g__law_next (akS 1 (akV (fq (qC (.int 6))) akNil))) fNil)))) (fIO g__law_next (akS 1 (akV (fq (qC (.int 3))) akNil)))) akNil)))) (gN 8))
  (fSeq (fAsg (fq (qArgs g__law_due (qCons (qVar 2) (qCons (qVar 5) (qCons (qVar 8) qNil))))) (gN 9)) (fSeq (fFor (fRange (fCons (fq (qC (.int 2))) fNil)) (gN 10) againF) lastF))) (List.range 2) kN
    (fun _ ρ => ∃ xs a7 a8 a9 a10 a11 a12, okT xs ∧ ρ = zS ns xs (.val (.bl c)) (.val (.str (pl y))) (.val (kN n)) (.val (em c (pl y) s ts e)) (.val (kd c)) a7 a8 a9 a10 a11 a12) (range_ev (q_ev rfl) (by decide)) ⟨x4, _, _, _, _, _, _, ok4, rfl⟩ (by
      rintro pre k post ρ he ⟨xs, a7, a8, a9, a10, a11, a12, ok, rfl⟩
      obtain ⟨sz, x6, hsz, ok6, e6⟩ := z_size (ns := ns) (s2 := .val (.bl c)) (s3 := .val (.str (pl y))) (s4 := .val (kN n)) (s5 := .val (em c (pl y) s ts e)) (s6 := .val (kd c)) (s7 := .val (kN k)) (s8 := a8) (s9 := a9) (s10 := a10) (s11 := a11) (s12 := a12) ok
      obtain ⟨x7, u, ok7, hu, e7⟩ := e_word ok6 y1 y3 hsz
      have b7 := io2x_ev (ρ := zS ns xs (.val (.bl c)) (.val (.str (pl y))) (.val (kN n)) (.val (em c (pl y) s ts e)) (.val (kd c)) (.val (kN k)) a8 a9 a10 a11 a12) (i := 1) (o := false) (g := g__law_word) (fe := fq (qVar 3)) ⟨_, _, rfl⟩ (q_ev rfl) e6 rfl rfl e7
      obtain ⟨due, b10, b11, b12, hd, ht⟩ := turn_ev (ns := ns) (xs := x7) (s7 := .val (kN k)) (s10 := a10) (s11 := a11) (s12 := a12) mok hu
      exact ⟨_, _, rfl, seq_ev (asg_ev b7 rfl) (seq_ev (asg_ev (q_ev (qargs_ev (qcons_ev rfl (qcons_ev rfl (qcons_ev rfl rfl))) hd)) rfl) ht), x7, .val (kN k), .val (.str (wd (pl y) u)), .val due, b10, b11, b12, ok7, rfl⟩)
  refine fnD_ex rfl ⟨zS ns x5 (.val (.bl c)) (.val (.str (pl y))) (.val (kN n)) (.val (em c (pl y) s ts e)) (.val (kd c)) a7 a8 a9 a10 a11 a12, ?_⟩
  unfold F_law
  exact seq_ev (setF_ev c0) (seq_ev (asg_ev b1 rfl) (seq_ev (asg_ev b2 rfl) (seq_ev (asg_ev b3 rfl) (seq_ev (asg_ev b4 rfl) (seq_ev (asg_ev b5 rfl) (seq_ev f1 (ret_ev (q_ev rfl))))))))
end K19
end

section
set_option Elab.async false
theorem PySem.Challenge.cw_weighwalk_k19_least_best_ways_holds : PySem.Challenge.rw_weighwalk_k19_least_best_ways.Holds := by
  exact K19.holds_of fun ns _ => K19.e_law ns
end
