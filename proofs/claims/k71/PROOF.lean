import PyProof.Rows.All
import Wide.All
import OpenK.AllK
import Wide.FinOn
import HandS.ForMost
import HandS.ForExc
import HandS.CallSlots
import HandS.ExcInit
import HandS.TupAny
import HandS.Deep
import HandS.Flow
import PyProof.StrBlock2
import HandS.Conv
import HandS.RaiseMore
import HandS.ExcIs
import HandS.ExcField
import HandS.IsInst
import HandS.TryMany
import PySem.Challenge.RW_splitalike_k71_errors_stand_apart
set_option Elab.async false
set_option linter.all false
set_option maxRecDepth 100000
set_option maxHeartbeats 0
/-! DL1: data, owned and shared; the state of a frame over data; framing, freezing, slots. -/
namespace DL
open PySem L2

inductive Kd where
  | lst | tup | scr | ins (c : Str) (ns : List Str) | exc (c : Str) (ns : List Str)
  deriving DecidableEq
/-- data: nd true, dc true are owned (one holder, may be changed); nd false, dc false are shared (never changed again) -/
inductive D where
  | un | non | bl (b : Bool) | int (i : Int) | str (x : Str)
  | nd (o : Bool) (k : Kd) (ds : List D)
  | dc (o : Bool) (ks ds : List D)

def Exx (H H' : Hp) : Prop := ∀ a o, H a = some o → H' a = some o
theorem Exx.refl (H : Hp) : Exx H H := fun _ _ h => h
theorem Exx.trans {H H1 H2 : Hp} (a : Exx H H1) (b : Exx H1 H2) : Exx H H2 := fun x o h => b x o (a x o h)
theorem Exx.fre {H H' : Hp} (e : Exx H H') {a : Addr} (h : H' a = none) : H a = none := by
  cases q : H a with
  | none => rfl
  | some o => rw [e a o q] at h; cases h
theorem Exx.new {H : Hp} {p : Addr} {o : HO} (h : H p = none) : Exx H (upd H p o) := fun a u e => by
  rw [upd_ne (ne_of_none e h)]; exact e
theorem Exx.mut {H H' : Hp} {p : Addr} {o : HO} (e : Exx H H') (h : H p = none) : Exx H (upd H' p o) := fun a u ha => by
  rw [upd_ne (ne_of_none ha h)]; exact e a u ha
theorem Exx.rd {H H' : Hp} {a : Addr} {u : HO} (e : Exx H H') (h : Rd H a u) : Rd H' a u := by
  rcases h with h | ⟨o, h⟩
  · exact Or.inl (e a _ h)
  · exact Or.inr ⟨o, e a _ h⟩
theorem Exx.sqL {K : PySem.W.Frag} {H H' : Hp} {a : Addr} {xs : List V} (e : Exx H H') (h : SqL K H a xs) : SqL K H' a xs := by
  rcases h with h | h
  · exact Or.inl (e.rd h)
  · exact Or.inr h
theorem Exx.sqT {K : PySem.W.Frag} {H H' : Hp} {a : Addr} {xs : List V} (e : Exx H H') (h : SqT K H a xs) : SqT K H' a xs := by
  rcases h with h | h
  · exact Or.inl (e.rd h)
  · exact Or.inr h

def keyD : Key → D
  | .inl i => .int i
  | .inr x => .str x
/-- a dict's object: keys as data, values -/
def DObj (o : HO) (ks : List D) (vs : List V) : Prop := ∃ kk : List Key, ks = kk.map keyD ∧ kk.length = vs.length ∧ o = .dK (kk.zip vs)

section
variable (K : PySem.W.Frag) (mg : Str → Option Value)
/-- a shared object -/
def ObjIs (F : Hp) (a : Addr) : Kd → List V → Prop
  | .lst, vs => F a = some (.lst vs)
  | .tup, vs => SqT K F a vs
  | .scr, vs => SqL K F a vs
  | .ins c ns, vs => ∃ C dx, mg c = some (.ref C) ∧ ns.length = vs.length ∧ F a = some (.ins C dx (ns.zip vs))
  | .exc c ns, vs => ∃ C, mg c = some (.ref C) ∧ ns.length = vs.length ∧ ((ns = [] ∧ F a = some (exo a C none)) ∨ ∃ d, F a = some (exo a C (some d)) ∧ F d = some (exd d (ns.zip vs)))
/-- an owned object -/
def OObj (o : HO) : Kd → List V → Prop
  | .lst, vs => o = .lst vs
  | .tup, _ => False
  | .scr, _ => False
  | .exc _ _, _ => False
  | .ins c ns, vs => ∃ C dx, mg c = some (.ref C) ∧ ns.length = vs.length ∧ o = .ins C dx (ns.zip vs)
mutual
/-- the value v stands for the data d; fp: the addresses that it owns -/
inductive Own (F H : Hp) : V → D → List Addr → Prop
  | non : Own F H .non .non []
  | bl (b : Bool) : Own F H (.bl b) (.bl b) []
  | int (i : Int) : Own F H (.int i) (.int i) []
  | str (x : Str) : Own F H (.str x) (.str x) []
  | sh {a : Addr} {k : Kd} {vs : List V} {ds : List D} : ObjIs K mg F a k vs → OwnL F H vs ds [] → Own F H (.ref a) (.nd false k ds) []
  | ow {a : Addr} {o : HO} {k : Kd} {vs : List V} {ds : List D} {f : List Addr} : F a = none → H a = some o → OObj mg o k vs → OwnL F H vs ds f → Own F H (.ref a) (.nd true k ds) (a :: f)
  | shD {a : Addr} {o : HO} {vs : List V} {ks ds : List D} : F a = some o → DObj o ks vs → OwnL F H vs ds [] → Own F H (.ref a) (.dc false ks ds) []
  | owD {a : Addr} {o : HO} {vs : List V} {ks ds : List D} {f : List Addr} : F a = none → H a = some o → DObj o ks vs → OwnL F H vs ds f → Own F H (.ref a) (.dc true ks ds) (a :: f)
inductive OwnL (F H : Hp) : List V → List D → List Addr → Prop
  | nil : OwnL F H [] [] []
  | un {v : V} {vs : List V} {ds : List D} {f : List Addr} : OwnL F H vs ds f → OwnL F H (v :: vs) (.un :: ds) f
  | cons {v : V} {d : D} {vs : List V} {ds : List D} {f g : List Addr} : Own F H v d f → OwnL F H vs ds g → OwnL F H (v :: vs) (d :: ds) (f ++ g)
end
/-- the slots of a frame -/
inductive EnvL (F H : Hp) : List (Option V) → List D → List Addr → Prop
  | nil : EnvL F H [] [] []
  | un {x : Option V} {σ : List (Option V)} {ρ : List D} {f : List Addr} : EnvL F H σ ρ f → EnvL F H (x :: σ) (.un :: ρ) f
  | cons {v : V} {d : D} {σ : List (Option V)} {ρ : List D} {f g : List Addr} : Own K mg F H v d f → EnvL F H σ ρ g → EnvL F H (some v :: σ) (d :: ρ) (f ++ g)
/-- the state of a frame over data: B what is kept for others, F what is shared (never changed) -/
structure Sta (B F H : Hp) (σ : List (Option V)) (ρ : List D) : Prop where
  fp : ∃ f, EnvL K mg F H σ ρ f ∧ f.Nodup ∧ ∀ a ∈ f, B a = none
  ex : Exx F H
  bx : Exx B H
  dis : ∀ a o, B a = some o → F a = none
end

section
variable {K : PySem.W.Frag} {mg : Str → Option Value}
theorem ObjIs.mono {F F' : Hp} {a : Addr} {k : Kd} {vs : List V} (e : Exx F F') (h : ObjIs K mg F a k vs) : ObjIs K mg F' a k vs := by
  cases k with
  | lst => exact e _ _ h
  | tup => exact e.sqT h
  | scr => exact e.sqL h
  | ins c ns => obtain ⟨C, dx, h1, h2, h3⟩ := h; exact ⟨C, dx, h1, h2, e _ _ h3⟩
  | exc c ns =>
    obtain ⟨C, h1, h2, h3⟩ := h
    refine ⟨C, h1, h2, ?_⟩
    rcases h3 with ⟨h3, h4⟩ | ⟨d, h3, h4⟩
    · exact .inl ⟨h3, e _ _ h4⟩
    · exact .inr ⟨d, e _ _ h3, e _ _ h4⟩
theorem ObjIs.of_oobj {F : Hp} {a : Addr} {o : HO} {k : Kd} {vs : List V} (h : F a = some o) (ho : OObj mg o k vs) : ObjIs K mg F a k vs := by
  cases k with
  | lst => cases ho; exact h
  | tup => exact ho.elim
  | scr => exact ho.elim
  | ins c ns => obtain ⟨C, dx, h1, h2, rfl⟩ := ho; exact ⟨C, dx, h1, h2, h⟩
  | exc c ns => exact ho.elim

mutual
theorem Own.mem {F H : Hp} : ∀ {v : V} {d : D} {f : List Addr}, Own K mg F H v d f → ∀ a ∈ f, F a = none ∧ ∃ o, H a = some o
  | _, _, _, .non, _, h => by cases h
  | _, _, _, .bl _, _, h => by cases h
  | _, _, _, .int _, _, h => by cases h
  | _, _, _, .str _, _, h => by cases h
  | _, _, _, .sh _ _, _, h => by cases h
  | _, _, _, .shD _ _ _, _, h => by cases h
  | _, _, _, .ow h1 h2 _ t, b, h => by
    rcases List.mem_cons.mp h with rfl | h
    · exact ⟨h1, _, h2⟩
    · exact OwnL.mem t b h
  | _, _, _, .owD h1 h2 _ t, b, h => by
    rcases List.mem_cons.mp h with rfl | h
    · exact ⟨h1, _, h2⟩
    · exact OwnL.mem t b h
theorem OwnL.mem {F H : Hp} : ∀ {vs : List V} {ds : List D} {f : List Addr}, OwnL K mg F H vs ds f → ∀ a ∈ f, F a = none ∧ ∃ o, H a = some o
  | _, _, _, .nil, _, h => by cases h
  | _, _, _, .un t, b, h => OwnL.mem t b h
  | _, _, _, .cons r t, b, h => by
    rcases List.mem_append.mp h with h | h
    · exact Own.mem r b h
    · exact OwnL.mem t b h
end
theorem EnvL.mem {F H : Hp} : ∀ {σ : List (Option V)} {ρ : List D} {f : List Addr}, EnvL K mg F H σ ρ f → ∀ a ∈ f, F a = none ∧ ∃ o, H a = some o
  | _, _, _, .nil, _, h => by cases h
  | _, _, _, .un t, b, h => EnvL.mem t b h
  | _, _, _, .cons r t, b, h => by
    rcases List.mem_append.mp h with h | h
    · exact Own.mem r b h
    · exact EnvL.mem t b h

/-! ### framing -/
mutual
theorem Own.frame {F H F' H' : Hp} (e : Exx F F') : ∀ {v : V} {d : D} {f : List Addr}, Own K mg F H v d f → (∀ a ∈ f, F' a = none ∧ H' a = H a) → Own K mg F' H' v d f
  | _, _, _, .non, _ => .non
  | _, _, _, .bl b, _ => .bl b
  | _, _, _, .int i, _ => .int i
  | _, _, _, .str x, _ => .str x
  | _, _, _, .sh o t, _ => .sh (o.mono e) (OwnL.frame e t fun a h => by cases h)
  | _, _, _, .shD h o t, _ => .shD (e _ _ h) o (OwnL.frame e t fun a h => by cases h)
  | _, _, _, .ow h1 h2 o t, k => .ow (k _ (List.mem_cons_self ..)).1 ((k _ (List.mem_cons_self ..)).2.trans h2) o (OwnL.frame e t fun a h => k a (List.mem_cons_of_mem _ h))
  | _, _, _, .owD h1 h2 o t, k => .owD (k _ (List.mem_cons_self ..)).1 ((k _ (List.mem_cons_self ..)).2.trans h2) o (OwnL.frame e t fun a h => k a (List.mem_cons_of_mem _ h))
theorem OwnL.frame {F H F' H' : Hp} (e : Exx F F') : ∀ {vs : List V} {ds : List D} {f : List Addr}, OwnL K mg F H vs ds f → (∀ a ∈ f, F' a = none ∧ H' a = H a) → OwnL K mg F' H' vs ds f
  | _, _, _, .nil, _ => .nil
  | _, _, _, .un t, k => .un (OwnL.frame e t k)
  | _, _, _, .cons r t, k => .cons (Own.frame e r fun a h => k a (List.mem_append_left _ h)) (OwnL.frame e t fun a h => k a (List.mem_append_right _ h))
end
theorem EnvL.frame {F H F' H' : Hp} (e : Exx F F') : ∀ {σ : List (Option V)} {ρ : List D} {f : List Addr}, EnvL K mg F H σ ρ f → (∀ a ∈ f, F' a = none ∧ H' a = H a) → EnvL K mg F' H' σ ρ f
  | _, _, _, .nil, _ => .nil
  | _, _, _, .un t, k => .un (EnvL.frame e t k)
  | _, _, _, .cons r t, k => .cons (Own.frame e r fun a h => k a (List.mem_append_left _ h)) (EnvL.frame e t fun a h => k a (List.mem_append_right _ h))
/-- what owns nothing leans on the shared part alone -/
theorem Own.shared {F H F' H' : Hp} (e : Exx F F') {v : V} {d : D} (h : Own K mg F H v d []) : Own K mg F' H' v d [] := h.frame e fun a h => by cases h
theorem OwnL.shared {F H F' H' : Hp} (e : Exx F F') {v : List V} {d : List D} (h : OwnL K mg F H v d []) : OwnL K mg F' H' v d [] := h.frame e fun a h => by cases h
theorem OwnL.nil_app {F H : Hp} {v : V} {vs : List V} {d : D} {ds : List D} (h1 : Own K mg F H v d []) (h2 : OwnL K mg F H vs ds []) : OwnL K mg F H (v :: vs) (d :: ds) [] := OwnL.cons h1 h2

/-- H with the addresses of f -/
def addR (F H : Hp) (f : List Addr) : Hp := fun a => if a ∈ f then H a else F a
theorem addR_in {F H : Hp} {f : List Addr} {a : Addr} (h : a ∈ f) : addR F H f a = H a := if_pos h
theorem addR_out {F H : Hp} {f : List Addr} {a : Addr} (h : a ∉ f) : addR F H f a = F a := if_neg h

/-- THE FRAME RULE: a value is set aside while the rest goes on -/
theorem Sta.push {B F H : Hp} {v : V} {d : D} {σ : List (Option V)} {ρ : List D} (s : Sta K mg B F H (some v :: σ) (d :: ρ)) :
    ∃ B', Sta K mg B' F H σ ρ ∧ ∀ F' H' σ' ρ', Exx F F' → Sta K mg B' F' H' σ' ρ' → Sta K mg B F' H' (some v :: σ') (d :: ρ') := by
  obtain ⟨⟨f0, e, nd, nb⟩, ex, bx, dis⟩ := s
  cases e with
  | un t =>
    exact ⟨B, ⟨⟨_, t, nd, nb⟩, ex, bx, dis⟩, fun F' H' σ' ρ' eF s' => by
      obtain ⟨⟨f1, e1, nd1, nb1⟩, ex1, bx1, dis1⟩ := s'
      exact ⟨⟨f1, .un e1, nd1, nb1⟩, ex1, bx1, dis1⟩⟩
  | @cons _ _ _ _ f g r t =>
    have m := Own.mem r
    have ndf := (List.nodup_append.mp nd).1
    have ndg := (List.nodup_append.mp nd).2.1
    have ndx := (List.nodup_append.mp nd).2.2
    refine ⟨addR B H f, ⟨⟨g, t, ndg, fun a ha => ?_⟩, ex, fun a o h => ?_, fun a o h => ?_⟩, ?_⟩
    · rw [addR_out fun h => ndx a h a ha rfl]; exact nb a (List.mem_append_right _ ha)
    · by_cases h1 : a ∈ f
      · rw [addR_in h1] at h; exact h
      · rw [addR_out h1] at h; exact bx a o h
    · by_cases h1 : a ∈ f
      · exact (m a h1).1
      · rw [addR_out h1] at h; exact dis a o h
    · intro F' H' σ' ρ' eF ⟨⟨g', t', nd', nb'⟩, ex', bx', dis'⟩
      have hf : ∀ a ∈ f, F' a = none ∧ H' a = H a := fun a ha => by
        obtain ⟨o, ho⟩ := (m a ha).2
        have hb : addR B H f a = some o := by rw [addR_in ha]; exact ho
        exact ⟨dis' a o hb, by rw [ho]; exact bx' a o hb⟩
      have hfb : ∀ a ∈ f, B a = none := fun a ha => nb a (List.mem_append_left _ ha)
      refine ⟨⟨f ++ g', .cons (r.frame eF hf) t', List.nodup_append.mpr ⟨ndf, nd', fun a ha b hb hab => ?_⟩, fun a ha => ?_⟩, ex', fun a o h => ?_, fun a o h => ?_⟩
      · subst hab
        obtain ⟨o, ho⟩ := (m a ha).2
        have := nb' a hb
        rw [addR_in ha, ho] at this
        cases this
      · rcases List.mem_append.mp ha with h | h
        · exact hfb a h
        · have := nb' a h
          by_cases h1 : a ∈ f
          · exact hfb a h1
          · rw [addR_out h1] at this; exact this
      · have h1 : a ∉ f := fun h1 => by rw [hfb a h1] at h; cases h
        exact bx' a o (by rw [addR_out h1]; exact h)
      · have h1 : a ∉ f := fun h1 => by rw [hfb a h1] at h; cases h
        exact dis' a o (by rw [addR_out h1]; exact h)

/-! ### freezing -/
mutual
def frz : D → D
  | .nd _ k ds => .nd false k (frzL ds)
  | .dc _ ks ds => .dc false ks (frzL ds)
  | d => d
def frzL : List D → List D
  | [] => []
  | d :: ds => frz d :: frzL ds
end
mutual
/-- no place in it is empty -/
def whole : D → Bool
  | .un => false
  | .nd _ _ ds => wholeL ds
  | .dc _ _ ds => wholeL ds
  | _ => true
def wholeL : List D → Bool
  | [] => true
  | d :: ds => whole d && wholeL ds
end
mutual
/-- all of it is shared -/
def shd : D → Bool
  | .un => false
  | .nd o _ ds => !o && shdL ds
  | .dc o _ ds => !o && shdL ds
  | _ => true
def shdL : List D → Bool
  | [] => true
  | d :: ds => shd d && shdL ds
end
mutual
theorem frz_shd : ∀ {d : D}, shd d = true → frz d = d
  | .un, h => by simp [shd] at h
  | .non, _ => by simp [frz]
  | .bl _, _ => by simp [frz]
  | .int _, _ => by simp [frz]
  | .str _, _ => by simp [frz]
  | .nd o k ds, h => by
    simp only [shd, Bool.and_eq_true, Bool.not_eq_true'] at h
    simp only [frz, frzL_shd h.2, h.1]
  | .dc o k ds, h => by
    simp only [shd, Bool.and_eq_true, Bool.not_eq_true'] at h
    simp only [frz, frzL_shd h.2, h.1]
theorem frzL_shd : ∀ {ds : List D}, shdL ds = true → frzL ds = ds
  | [], _ => by simp [frzL]
  | d :: ds, h => by
    simp only [shdL, Bool.and_eq_true] at h
    simp only [frzL, frz_shd h.1, frzL_shd h.2]
end
mutual
theorem shd_frz : ∀ {d : D}, whole d = true → shd (frz d) = true
  | .un, h => by simp [whole] at h
  | .non, _ => by simp [frz, shd]
  | .bl _, _ => by simp [frz, shd]
  | .int _, _ => by simp [frz, shd]
  | .str _, _ => by simp [frz, shd]
  | .nd o k ds, h => by
    simp only [whole] at h
    simp only [frz, shd, shdL_frz h, Bool.not_false, Bool.and_self]
  | .dc o k ds, h => by
    simp only [whole] at h
    simp only [frz, shd, shdL_frz h, Bool.not_false, Bool.and_self]
theorem shdL_frz : ∀ {ds : List D}, wholeL ds = true → shdL (frzL ds) = true
  | [], _ => by simp [frzL, shdL]
  | d :: ds, h => by
    simp only [wholeL, Bool.and_eq_true] at h
    simp only [frzL, shdL, shd_frz h.1, shdL_frz h.2, Bool.and_self]
end
mutual
theorem shd_whole : ∀ {d : D}, shd d = true → whole d = true
  | .un, h => by simp [shd] at h
  | .non, _ => by simp [whole]
  | .bl _, _ => by simp [whole]
  | .int _, _ => by simp [whole]
  | .str _, _ => by simp [whole]
  | .nd o k ds, h => by
    simp only [shd, Bool.and_eq_true] at h
    simp only [whole, shdL_whole h.2]
  | .dc o k ds, h => by
    simp only [shd, Bool.and_eq_true] at h
    simp only [whole, shdL_whole h.2]
theorem shdL_whole : ∀ {ds : List D}, shdL ds = true → wholeL ds = true
  | [], _ => by simp [wholeL]
  | d :: ds, h => by
    simp only [shdL, Bool.and_eq_true] at h
    simp only [wholeL, shd_whole h.1, shdL_whole h.2, Bool.and_self]
end
mutual
theorem Own.shd_nil {F H : Hp} : ∀ {v : V} {d : D} {f : List Addr}, Own K mg F H v d f → shd d = true → f = []
  | _, _, _, .non, _ => rfl
  | _, _, _, .bl _, _ => rfl
  | _, _, _, .int _, _ => rfl
  | _, _, _, .str _, _ => rfl
  | _, _, _, .sh _ _, _ => rfl
  | _, _, _, .shD _ _ _, _ => rfl
  | _, _, _, .ow _ _ _ _, h => by simp [shd] at h
  | _, _, _, .owD _ _ _ _, h => by simp [shd] at h
theorem OwnL.shd_nil {F H : Hp} : ∀ {vs : List V} {ds : List D} {f : List Addr}, OwnL K mg F H vs ds f → shdL ds = true → f = []
  | _, _, _, .nil, _ => rfl
  | _, _, _, .un _, h => by simp [shdL, shd] at h
  | _, _, _, .cons r t, h => by
    simp only [shdL, Bool.and_eq_true] at h
    rw [Own.shd_nil r h.1, OwnL.shd_nil t h.2]; rfl
end
mutual
theorem Own.freeze {F H : Hp} {F' : Hp} {f0 : List Addr} (hF : ∀ a o, F a = some o → F' a = some o) (hf : ∀ a ∈ f0, F' a = H a) : ∀ {v : V} {d : D} {f : List Addr}, Own K mg F H v d f → (∀ a ∈ f, a ∈ f0) → whole d = true → Own K mg F' H v (frz d) []
  | _, _, _, .non, _, _ => by simp only [frz]; exact .non
  | _, _, _, .bl b, _, _ => by simp only [frz]; exact .bl b
  | _, _, _, .int b, _, _ => by simp only [frz]; exact .int b
  | _, _, _, .str b, _, _ => by simp only [frz]; exact .str b
  | _, _, _, .sh o t, k, h => by
    simp only [whole] at h
    simp only [frz]
    exact .sh (o.mono hF) (OwnL.freeze hF hf t (fun a ha => by cases ha) h)
  | _, _, _, .shD o1 o t, k, h => by
    simp only [whole] at h
    simp only [frz]
    exact .shD (hF _ _ o1) o (OwnL.freeze hF hf t (fun a ha => by cases ha) h)
  | _, _, _, .ow h1 h2 o t, k, h => by
    simp only [whole] at h
    simp only [frz]
    exact .sh (ObjIs.of_oobj ((hf _ (k _ (List.mem_cons_self ..))).trans h2) o) (OwnL.freeze hF hf t (fun a ha => k a (List.mem_cons_of_mem _ ha)) h)
  | _, _, _, .owD h1 h2 o t, k, h => by
    simp only [whole] at h
    simp only [frz]
    exact .shD ((hf _ (k _ (List.mem_cons_self ..))).trans h2) o (OwnL.freeze hF hf t (fun a ha => k a (List.mem_cons_of_mem _ ha)) h)
theorem OwnL.freeze {F H : Hp} {F' : Hp} {f0 : List Addr} (hF : ∀ a o, F a = some o → F' a = some o) (hf : ∀ a ∈ f0, F' a = H a) : ∀ {vs : List V} {ds : List D} {f : List Addr}, OwnL K mg F H vs ds f → (∀ a ∈ f, a ∈ f0) → wholeL ds = true → OwnL K mg F' H vs (frzL ds) []
  | _, _, _, .nil, _, _ => by simp only [frzL]; exact .nil
  | _, _, _, .un _, _, h => by simp [wholeL, whole] at h
  | _, _, _, .cons r t, k, h => by
    simp only [wholeL, Bool.and_eq_true] at h
    simp only [frzL]
    exact OwnL.cons (Own.freeze hF hf r (fun a ha => k a (List.mem_append_left _ ha)) h.1) (OwnL.freeze hF hf t (fun a ha => k a (List.mem_append_right _ ha)) h.2)
end
/-- the first value is shared from now on -/
theorem Sta.freeze {B F H : Hp} {v : V} {d : D} {σ : List (Option V)} {ρ : List D} (s : Sta K mg B F H (some v :: σ) (d :: ρ)) (hw : whole d = true) :
    ∃ F', Exx F F' ∧ Sta K mg B F' H (some v :: σ) (frz d :: ρ) := by
  obtain ⟨⟨f0, e, nd, nb⟩, ex, bx, dis⟩ := s
  cases e with
  | un t => simp [whole] at hw
  | @cons _ _ _ _ f g r t =>
    have m := Own.mem r
    have ndg := (List.nodup_append.mp nd).2.1
    have ndx := (List.nodup_append.mp nd).2.2
    have eF : Exx F (addR F H f) := fun a o h => by
      have h1 : a ∉ f := fun h1 => by rw [(m a h1).1] at h; cases h
      rw [addR_out h1]; exact h
    refine ⟨addR F H f, eF, ⟨g, ?_, ndg, fun a ha => nb a (List.mem_append_right _ ha)⟩, fun a o h => ?_, bx, fun a o h => ?_⟩
    · have h1 := Own.freeze (F' := addR F H f) (f0 := f) eF (fun a ha => addR_in ha) r (fun a ha => ha) hw
      exact EnvL.cons h1 (t.frame eF fun a ha => ⟨by rw [addR_out fun h => ndx a h a ha rfl]; exact (EnvL.mem t a ha).1, rfl⟩)
    · by_cases h1 : a ∈ f
      · rw [addR_in h1] at h; exact h
      · rw [addR_out h1] at h; exact ex a o h
    · have h1 : a ∉ f := fun h1 => by rw [nb a (List.mem_append_left _ h1)] at h; cases h
      rw [addR_out h1]; exact dis a o h

/-! ### slots -/
theorem whole_ne {d : D} (h : whole d = true) : d ≠ .un := by rintro rfl; simp [whole] at h
theorem EnvL.take {F H : Hp} : ∀ {σ : List (Option V)} {ρ : List D} {f : List Addr} {i : Nat} {d : D}, EnvL K mg F H σ ρ f → ρ[i]? = some d → d ≠ .un →
    ∃ v f1 f2, σ[i]? = some (some v) ∧ Own K mg F H v d f1 ∧ EnvL K mg F H σ (ρ.set i .un) f2 ∧ f.Perm (f1 ++ f2)
  | _, _, _, i, d, .nil, h, _ => by simp at h
  | _, _, _, 0, d, .un t, h, w => by
    simp only [List.getElem?_cons_zero, Option.some.injEq] at h
    exact absurd h.symm w
  | _, _, _, i + 1, d, .un t, h, w => by
    obtain ⟨v, f1, f2, h1, h2, h3, h4⟩ := EnvL.take (i := i) (d := d) t (by simpa using h) w
    exact ⟨v, f1, f2, by simpa using h1, h2, .un h3, h4⟩
  | _, _, _, 0, d, .cons (f := f) (g := g) r t, h, w => by
    simp only [List.getElem?_cons_zero, Option.some.injEq] at h
    subst h
    exact ⟨_, f, g, rfl, r, .un t, .refl _⟩
  | _, _, _, i + 1, d, .cons (f := f) (g := g) r t, h, w => by
    obtain ⟨v, f1, f2, h1, h2, h3, h4⟩ := EnvL.take (i := i) (d := d) t (by simpa using h) w
    refine ⟨v, f1, f ++ f2, by simpa using h1, h2, .cons r h3, ?_⟩
    have p1 : (f ++ g).Perm (f ++ (f1 ++ f2)) := List.Perm.append_left f h4
    have p2 : (f ++ (f1 ++ f2)).Perm (f1 ++ (f ++ f2)) := by
      rw [← List.append_assoc, ← List.append_assoc]
      exact List.Perm.append_right f2 List.perm_append_comm
    exact p1.trans p2
/-- a slot's value is taken out -/
theorem Sta.take {B F H : Hp} {σ : List (Option V)} {ρ : List D} {i : Nat} {d : D} (s : Sta K mg B F H σ ρ) (h : ρ[i]? = some d) (w : d ≠ .un) :
    ∃ v, σ[i]? = some (some v) ∧ Sta K mg B F H (some v :: σ) (d :: ρ.set i .un) := by
  obtain ⟨⟨f, e, nd, nb⟩, ex, bx, dis⟩ := s
  obtain ⟨v, f1, f2, h1, h2, h3, h4⟩ := e.take h w
  exact ⟨v, h1, ⟨f1 ++ f2, .cons h2 h3, h4.nodup_iff.mp nd, fun a ha => nb a (h4.mem_iff.mpr ha)⟩, ex, bx, dis⟩
theorem EnvL.put {F H : Hp} : ∀ {σ : List (Option V)} {ρ : List D} {f : List Addr} {i : Nat} {d : D} {v : V} {f1 : List Addr}, EnvL K mg F H σ ρ f → Own K mg F H v d f1 → σ[i]? = some (some v) → (∀ a ∈ f1, a ∉ f) →
    ∃ f2, EnvL K mg F H σ (ρ.set i d) f2 ∧ ∃ f3, (f2 ++ f3).Perm (f1 ++ f)
  | _, _, _, i, d, v, f1, .nil, r, h, hd => by simp at h
  | _, _, _, 0, d, v, f1, .un (f := f) t, r, h, hd => by
    simp only [List.getElem?_cons_zero, Option.some.injEq] at h
    subst h
    exact ⟨f1 ++ f, .cons r t, [], by simp⟩
  | _, _, _, i + 1, d, v, f1, .un (f := f) t, r, h, hd => by
    obtain ⟨f2, h1, f3, h2⟩ := EnvL.put (i := i) t r (by simpa using h) hd
    exact ⟨f2, .un h1, f3, h2⟩
  | _, _, _, 0, d, v, f1, .cons (f := f) (g := g) r0 t, r, h, hd => by
    simp only [List.getElem?_cons_zero, Option.some.injEq] at h
    subst h
    refine ⟨f1 ++ g, .cons r t, f, ?_⟩
    rw [List.append_assoc]
    exact List.Perm.append_left f1 List.perm_append_comm
  | _, _, _, i + 1, d, v, f1, .cons (f := f) (g := g) r0 t, r, h, hd => by
    obtain ⟨f2, h1, f3, h2⟩ := EnvL.put (i := i) t r (by simpa using h) (fun a ha hg => hd a ha (List.mem_append_right _ hg))
    refine ⟨f ++ f2, .cons r0 h1, f3, ?_⟩
    rw [List.append_assoc]
    have p1 : (f ++ (f2 ++ f3)).Perm (f ++ (f1 ++ g)) := List.Perm.append_left f h2
    have p2 : (f ++ (f1 ++ g)).Perm (f1 ++ (f ++ g)) := by
      rw [← List.append_assoc, ← List.append_assoc]
      exact List.Perm.append_right g List.perm_append_comm
    exact p1.trans p2
/-- the first value stands in the slot i -/
theorem Sta.put {B F H : Hp} {σ : List (Option V)} {ρ : List D} {i : Nat} {d : D} {v : V} (s : Sta K mg B F H (some v :: σ) (d :: ρ)) (h : σ[i]? = some (some v)) : Sta K mg B F H σ (ρ.set i d) := by
  obtain ⟨⟨f, e, nd, nb⟩, ex, bx, dis⟩ := s
  cases e with
  | un t =>
    -- an empty value: the slot becomes empty
    have un : ∀ {σ : List (Option V)} {ρ : List D} {f : List Addr} (i : Nat), EnvL K mg F H σ ρ f → ∃ f2, EnvL K mg F H σ (ρ.set i .un) f2 ∧ f2.Sublist f := by
      intro σ ρ f i t
      induction t generalizing i with
      | nil => exact ⟨[], .nil, .refl _⟩
      | un t ih =>
        cases i with
        | zero => exact ⟨_, .un t, .refl _⟩
        | succ i => obtain ⟨f2, h1, h2⟩ := ih i; exact ⟨f2, .un h1, h2⟩
      | @cons v d σ ρ f g r t ih =>
        cases i with
        | zero => exact ⟨g, .un t, List.sublist_append_right _ _⟩
        | succ i => obtain ⟨f2, h1, h2⟩ := ih i; exact ⟨f ++ f2, .cons r h1, List.Sublist.append (.refl _) h2⟩
    obtain ⟨f2, h1, h2⟩ := un i t
    exact ⟨⟨f2, h1, h2.nodup nd, fun a ha => nb a (h2.subset ha)⟩, ex, bx, dis⟩
  | @cons _ _ _ _ f g r t =>
    have ndx := (List.nodup_append.mp nd).2.2
    obtain ⟨f2, h1, f3, h2⟩ := t.put r h fun a ha hg => ndx a ha a hg rfl
    have nd2 : (f2 ++ f3).Nodup := h2.nodup_iff.mpr nd
    exact ⟨⟨f2, h1, (List.nodup_append.mp nd2).1, fun a ha => nb a (h2.mem_iff.mp (List.mem_append_left _ ha))⟩, ex, bx, dis⟩
/-- the first value is dropped -/
theorem Sta.drop {B F H : Hp} {σ : List (Option V)} {ρ : List D} {d : D} {x : Option V} (s : Sta K mg B F H (x :: σ) (d :: ρ)) : Sta K mg B F H σ ρ := by
  obtain ⟨⟨f, e, nd, nb⟩, ex, bx, dis⟩ := s
  cases e with
  | un t => exact ⟨⟨_, t, nd, nb⟩, ex, bx, dis⟩
  | cons r t => exact ⟨⟨_, t, (List.nodup_append.mp nd).2.1, fun a ha => nb a (List.mem_append_right _ ha)⟩, ex, bx, dis⟩
/-- the first two change places -/
theorem Sta.swap {B F H : Hp} {σ : List (Option V)} {ρ : List D} {d e : D} {x y : Option V} (s : Sta K mg B F H (x :: y :: σ) (d :: e :: ρ)) : Sta K mg B F H (y :: x :: σ) (e :: d :: ρ) := by
  obtain ⟨⟨f, t, nd, nb⟩, ex, bx, dis⟩ := s
  cases t with
  | un t =>
    cases t with
    | un t => exact ⟨⟨_, .un (.un t), nd, nb⟩, ex, bx, dis⟩
    | cons r t => exact ⟨⟨_, .cons r (.un t), nd, nb⟩, ex, bx, dis⟩
  | @cons _ _ _ _ f g r t =>
    cases t with
    | un t => exact ⟨⟨_, .un (.cons r t), nd, nb⟩, ex, bx, dis⟩
    | @cons _ _ _ _ f1 g1 r1 t1 =>
      have p : (f ++ (f1 ++ g1)).Perm (f1 ++ (f ++ g1)) := by
        rw [← List.append_assoc, ← List.append_assoc]
        exact List.Perm.append_right g1 List.perm_append_comm
      exact ⟨⟨_, .cons r1 (.cons r t1), p.nodup_iff.mp nd, fun a ha => nb a (p.mem_iff.mpr ha)⟩, ex, bx, dis⟩
/-- a new slot that holds nothing -/
theorem Sta.skip {B F H : Hp} {σ : List (Option V)} {ρ : List D} {x : Option V} (s : Sta K mg B F H σ ρ) : Sta K mg B F H (x :: σ) (.un :: ρ) := by
  obtain ⟨⟨f, t, nd, nb⟩, ex, bx, dis⟩ := s
  exact ⟨⟨_, .un t, nd, nb⟩, ex, bx, dis⟩
/-- a shared value is added -/
theorem Sta.add {B F H : Hp} {σ : List (Option V)} {ρ : List D} {v : V} {d : D} (s : Sta K mg B F H σ ρ) (h : Own K mg F H v d []) : Sta K mg B F H (some v :: σ) (d :: ρ) := by
  obtain ⟨⟨f, t, nd, nb⟩, ex, bx, dis⟩ := s
  exact ⟨⟨[] ++ f, .cons h t, nd, nb⟩, ex, bx, dis⟩
theorem Sta.head {B F H : Hp} {σ : List (Option V)} {ρ : List D} {v : V} {d : D} (s : Sta K mg B F H (some v :: σ) (d :: ρ)) (h : d ≠ .un) : ∃ f, Own K mg F H v d f := by
  obtain ⟨⟨f, t, nd, nb⟩, ex, bx, dis⟩ := s
  cases t with
  | un t => exact absurd rfl h
  | cons r t => exact ⟨_, r⟩
theorem Sta.headS {B F H : Hp} {σ : List (Option V)} {ρ : List D} {v : V} {d : D} (s : Sta K mg B F H (some v :: σ) (d :: ρ)) (h : shd d = true) : Own K mg F H v d [] := by
  obtain ⟨f, r⟩ := s.head (by rintro rfl; simp [shd] at h)
  have := Own.shd_nil r h
  subst this; exact r
end
end DL

/-! DL2: denotations and the readings that they give. -/
namespace DL
open PySem L2

inductive O (α : Type) where
  | ok (a : α) (ρ : List D)
  | ex (x : D) (ρ : List D)
abbrev M (α : Type) := List D → Option (O α)
def bnd {α β : Type} (m : M α) (k : α → M β) : M β := fun ρ =>
  match m ρ with
  | some (.ok a ρ') => k a ρ'
  | some (.ex x ρ') => some (.ex x ρ')
  | none => none
def ret {α : Type} (a : α) : M α := fun ρ => some (.ok a ρ)
def fail {α : Type} : M α := fun _ => none
def lft {α : Type} (o : Option α) : M α := fun ρ => match o with | some a => some (.ok a ρ) | none => none
/-- no exception may come -/
def noX {α : Type} (m : M α) : M α := fun ρ => match m ρ with | some (.ok a ρ') => some (.ok a ρ') | _ => none
theorem bnd_ok {α β : Type} {m : M α} {k : α → M β} {ρ ρ' : List D} {a : α} (h : m ρ = some (.ok a ρ')) : bnd m k ρ = k a ρ' := by unfold bnd; rw [h]
theorem bnd_ex {α β : Type} {m : M α} {k : α → M β} {ρ ρ' : List D} {x : D} (h : m ρ = some (.ex x ρ')) : bnd m k ρ = some (.ex x ρ') := by unfold bnd; rw [h]

section
variable (K : PySem.W.Frag) (mg : Str → Option Value)
/-- what an exception is: an instance's data -/
def XIs (F H : Hp) (x : D) (cls : Value) (dd : Option Addr) : Prop := ∃ c ns ds C, x = .nd false (.exc c ns) ds ∧ mg c = some (.ref C) ∧ cls = .ref C ∧
  match dd with
  | none => ns = [] ∧ ds = []
  | some dx => ∃ vs, ns.length = vs.length ∧ H dx = some (.xd (ns.zip vs)) ∧ OwnL K mg F H vs ds []
end
section
variable (X : Cx) (W : WX)
def PostX (σ : L2.St) (B F : Hp) (x : D) (ρ' : List D) : Prop := ∀ cls dd F' H', Exx F F' → Sta X.K X.mg B F' H' σ ρ' → XIs X.K X.mg F' H' x cls dd → W cls dd σ H'
def PostE (σ : L2.St) (B F : Hp) (Q : VK) : O D → Prop
  | .ok d ρ' => ∀ v F' H', Exx F F' → Sta X.K X.mg B F' H' (some v :: σ) (d :: ρ') → Q v H'
  | .ex x ρ' => PostX X W σ B F x ρ'
def PostT (σ : L2.St) (B F : Hp) (Q : Bool → Hp → Prop) : O Bool → Prop
  | .ok b ρ' => ∀ F' H', Exx F F' → Sta X.K X.mg B F' H' σ ρ' → Q b H'
  | .ex x ρ' => PostX X W σ B F x ρ'
def PostA (σ : L2.St) (B F : Hp) (Q : List V → Hp → Prop) : O (List D) → Prop
  | .ok ds ρ' => ∀ vs F' H', Exx F F' → vs.length = ds.length → Sta X.K X.mg B F' H' (vs.map some ++ σ) (ds ++ ρ') → Q vs H'
  | .ex x ρ' => PostX X W σ B F x ρ'
/-- the readings of denotations -/
def den (m : M D) : TE := fun σ H Q => ∃ B F ρ o, Sta X.K X.mg B F H σ ρ ∧ m ρ = some o ∧ PostE X W σ B F Q o
def denT (m : M Bool) : TT := fun σ H Q => ∃ B F ρ o, Sta X.K X.mg B F H σ ρ ∧ m ρ = some o ∧ PostT X W σ B F Q o
def denA (m : M (List D)) : TA := fun σ H Q => ∃ B F ρ o, Sta X.K X.mg B F H σ ρ ∧ m ρ = some o ∧ PostA X W σ B F Q o
end
abbrev DE (X : Cx) (W : WX) (e : Expr) (m : M D) : Prop := PE X e (den X W m)
abbrev DT (X : Cx) (W : WX) (e : Expr) (m : M Bool) : Prop := PT X e (denT X W m)
abbrev DA (X : Cx) (W : WX) (es : List Expr) (m : M (List D)) : Prop := PA X es (denA X W m)

section
variable {X : Cx} {W : WX} {σ : L2.St} {H : Hp} {B F : Hp} {e : Expr} {es : List Expr}
theorem PE_imp {t t' : TE} (h : PE X e t) (i : ∀ σ H Q, t' σ H Q → t σ H Q) : PE X e t' := ⟨fun pins s σ H Q I q => h.run pins s σ H Q I (i σ H Q q)⟩
theorem PT_imp {t t' : TT} (h : PT X e t) (i : ∀ σ H Q, t' σ H Q → t σ H Q) : PT X e t' := ⟨fun pins s σ H Q I q => h.run pins s σ H Q I (i σ H Q q)⟩
theorem PW_imp {t t' : TT} (h : PW X e t) (i : ∀ σ H Q, t' σ H Q → t σ H Q) : PW X e t' := ⟨fun wh pins s σ H Q I q => h.run wh pins s σ H Q I (i σ H Q q)⟩
theorem PA_imp {t t' : TA} (h : PA X es t) (i : ∀ σ H Q, t' σ H Q → t σ H Q) : PA X es t' := ⟨fun pos pins s σ H Q I q => h.run pos pins s σ H Q I (i σ H Q q)⟩
theorem PS_imp {st : Stmt} {t t' : TS} (h : PS X st t) (i : ∀ D σ H, t' D σ H → t D σ H) : PS X st t' := ⟨fun pins s σ H D I q => h.run pins s σ H D I (i D σ H q)⟩
theorem PSs_imp {st : List Stmt} {t t' : TS} (h : PSs X st t) (i : ∀ D σ H, t' D σ H → t D σ H) : PSs X st t' := ⟨fun pins s σ H D I q => h.run pins s σ H D I (i D σ H q)⟩
theorem PostX.mono {F' : Hp} {x : D} {ρ' : List D} (eF : Exx F F') (h : PostX X W σ B F x ρ') : PostX X W σ B F' x ρ' := fun cls dd F2 H2 e2 s x => h cls dd F2 H2 (eF.trans e2) s x
theorem PostE.mono {F' : Hp} {Q : VK} {o : O D} (eF : Exx F F') (h : PostE X W σ B F Q o) : PostE X W σ B F' Q o := by
  cases o with
  | ok d ρ' => exact fun v F2 H2 e2 s => h v F2 H2 (eF.trans e2) s
  | ex x ρ' => exact PostX.mono eF h
theorem PostT.mono {F' : Hp} {Q : Bool → Hp → Prop} {o : O Bool} (eF : Exx F F') (h : PostT X W σ B F Q o) : PostT X W σ B F' Q o := by
  cases o with
  | ok d ρ' => exact fun F2 H2 e2 s => h F2 H2 (eF.trans e2) s
  | ex x ρ' => exact PostX.mono eF h
theorem PostA.mono {F' : Hp} {Q : List V → Hp → Prop} {o : O (List D)} (eF : Exx F F') (h : PostA X W σ B F Q o) : PostA X W σ B F' Q o := by
  cases o with
  | ok d ρ' => exact fun vs F2 H2 e2 hl s => h vs F2 H2 (eF.trans e2) hl s
  | ex x ρ' => exact PostX.mono eF h

/-! ### one part, then the rest -/
/-- what is left behind one value -/
def Kon1 {α : Type} (X : Cx) (W : WX) (Post : Hp → Hp → O α → Prop) (σ : L2.St) (H : Hp) (k : D → M α) (v : V) : Prop :=
  ∃ B F ρ o x, Sta X.K X.mg B F H (some v :: σ) (x :: ρ) ∧ k x ρ = some o ∧ Post B F o
theorem den_bnd {α : Type} {Post : Hp → Hp → O α → Prop} {m : M D} {k : D → M α} {o : O α} {ρ : List D} (hX : ∀ B F x ρ', Post B F (.ex x ρ') → PostX X W σ B F x ρ') (hm : ∀ B F F' o, Exx F F' → Post B F o → Post B F' o)
    (s : Sta X.K X.mg B F H σ ρ) (h : bnd m k ρ = some o) (p : Post B F o) : den X W m σ H fun v H1 => Kon1 X W Post σ H1 k v := by
  unfold bnd at h
  cases hmr : m ρ with
  | none => rw [hmr] at h; cases h
  | some o1 =>
    rw [hmr] at h
    cases o1 with
    | ex x ρ' =>
      simp only [Option.some.injEq] at h
      subst h
      exact ⟨B, F, ρ, _, s, hmr, hX _ _ _ _ p⟩
    | ok x ρ' =>
      refine ⟨B, F, ρ, _, s, hmr, fun v F' H' eF s' => ⟨B, F', ρ', o, x, s', h, hm _ _ _ _ eF p⟩⟩
theorem postE_X {Q : VK} : ∀ (B F : Hp) (x : D) (ρ' : List D), PostE X W σ B F Q (.ex x ρ') → PostX X W σ B F x ρ' := fun _ _ _ _ h => h
theorem postE_m {Q : VK} : ∀ (B F F' : Hp) (o : O D), Exx F F' → PostE X W σ B F Q o → PostE X W σ B F' Q o := fun _ _ _ _ e h => PostE.mono e h
theorem postT_X {Q : Bool → Hp → Prop} : ∀ (B F : Hp) (x : D) (ρ' : List D), PostT X W σ B F Q (.ex x ρ') → PostX X W σ B F x ρ' := fun _ _ _ _ h => h
theorem postT_m {Q : Bool → Hp → Prop} : ∀ (B F F' : Hp) (o : O Bool), Exx F F' → PostT X W σ B F Q o → PostT X W σ B F' Q o := fun _ _ _ _ e h => PostT.mono e h
theorem postA_X {Q : List V → Hp → Prop} : ∀ (B F : Hp) (x : D) (ρ' : List D), PostA X W σ B F Q (.ex x ρ') → PostX X W σ B F x ρ' := fun _ _ _ _ h => h
theorem postA_m {Q : List V → Hp → Prop} : ∀ (B F F' : Hp) (o : O (List D)), Exx F F' → PostA X W σ B F Q o → PostA X W σ B F' Q o := fun _ _ _ _ e h => PostA.mono e h

/-! ### constants, names -/
theorem den_ret {d : D} {v : V} (hd : ∀ F H, Own X.K X.mg F H v d []) {σ : L2.St} {H : Hp} {Q : VK} (h : den X W (ret d) σ H Q) : Q v H := by
  obtain ⟨B, F, ρ, o, s, e, p⟩ := h
  simp only [ret, Option.some.injEq] at e
  subst e
  exact p v F H (.refl F) (s.add (hd F H))
theorem de_int {i j pos} : DE X W (.Constant (.int i) j pos) (ret (.int i)) := PE_imp pe_int fun σ H Q h => den_ret (fun _ _ => .int i) h
theorem de_bl {b j pos} : DE X W (.Constant (.bool b) j pos) (ret (.bl b)) := PE_imp pe_bl fun σ H Q h => den_ret (fun _ _ => .bl b) h
theorem de_non {j pos} : DE X W (.Constant .none j pos) (ret .non) := PE_imp pe_non fun σ H Q h => den_ret (fun _ _ => .non) h
theorem de_str {x j pos} : DE X W (.Constant (.str x) j pos) (ret (.str x)) := PE_imp pe_str fun σ H Q h => den_ret (fun _ _ => .str x) h
/-- a name as a value: from now on what it holds is shared -/
def dVar (i : Nat) : M D := fun ρ =>
  match ρ[i]? with
  | some d => if shd d = true then some (.ok d ρ) else if whole d = true then some (.ok (frz d) (ρ.set i (frz d))) else none
  | none => none
theorem set_set_self {α : Type} {l : List α} {i : Nat} {a b : α} : (l.set i a).set i b = l.set i b := by simp
theorem set_get {α : Type} {l : List α} {i : Nat} {a : α} (h : l[i]? = some a) : l.set i a = l := by
  obtain ⟨h1, h2⟩ := List.getElem?_eq_some_iff.mp h
  subst h2; simp
theorem var_ok {i : Nat} {Q : VK} {σ : L2.St} {H : Hp} (h : den X W (dVar i) σ H Q) : tVar i σ H Q := by
  obtain ⟨B, F, ρ, o, s, e, p⟩ := h
  unfold dVar at e
  cases hi : ρ[i]? with
  | none => rw [hi] at e; cases e
  | some d =>
    rw [hi] at e
    simp only at e
    by_cases hs : shd d = true
    · rw [if_pos hs] at e
      cases e
      obtain ⟨v, hv, s1⟩ := s.take hi (whole_ne (shd_whole hs))
      exact ⟨v, hv, p v F H (.refl F) (s.add (s1.headS hs))⟩
    · rw [if_neg hs] at e
      by_cases hw : whole d = true
      · rw [if_pos hw] at e
        cases e
        obtain ⟨v, hv, s1⟩ := s.take hi (whole_ne hw)
        obtain ⟨F', eF, s2⟩ := s1.freeze hw
        have r := s2.headS (shd_frz hw)
        have s3 := s2.put hv
        rw [set_set_self] at s3
        exact ⟨v, hv, p v F' H eF (s3.add r)⟩
      · rw [if_neg hw] at e; cases e
theorem de_var {i : Nat} {x : Str} {pos : Pos} (hN : X.N[i]? = some x := by rfl) (hv : Vis X.env.scope x := by first | exact Or.inl rfl | exact Or.inr (Or.inl rfl) | exact Or.inr (Or.inr rfl)) (hd : (x == ("__debug__" : Str)) = false := by decide)
    (hcd : (x == ("__classdict__" : Str)) = false := by decide) : DE X W (.Name x pos) (dVar i) := PE_imp (pe_var hN hv hd hcd) fun _ _ _ h => var_ok h
/-- a constant of the module -/
theorem de_glob {x : Str} {v : V} {d : D} {u : Value} {pos : Pos} (hg : Gl X x) (hm : X.mg x = some u) (r : RelV v u) (hd : ∀ F H, Own X.K X.mg F H v d []) (hdb : (x == ("__debug__" : Str)) = false := by decide) : DE X W (.Name x pos) (ret d) :=
  PE_imp (pe_glob hg hm r hdb) fun σ H Q h => den_ret hd h

/-! ### operators on shared data -/
/-- f by values gives what op gives by data -/
def OpS (X : Cx) (r : R2) (op : D → D → Option D) : Prop := ∀ {B F H : Hp} {σ : L2.St} {ρ : List D} {v u : V} {x y z : D} {Q : VK}, Sta X.K X.mg B F H σ ρ → Own X.K X.mg F H v x [] → Own X.K X.mg F H u y [] → op x y = some z →
  (∀ w F' H', Exx F F' → Sta X.K X.mg B F' H' (some w :: σ) (z :: ρ) → Q w H') → shd x = true → shd y = true → r v u H Q
def UnS (X : Cx) (r : V → Hp → VK → Prop) (op : D → Option D) : Prop := ∀ {B F H : Hp} {σ : L2.St} {ρ : List D} {v : V} {x z : D} {Q : VK}, Sta X.K X.mg B F H σ ρ → Own X.K X.mg F H v x [] → op x = some z →
  (∀ w F' H', Exx F F' → Sta X.K X.mg B F' H' (some w :: σ) (z :: ρ) → Q w H') → shd x = true → r v H Q
def CaS (X : Cx) (r : List V → Hp → VK → Prop) (op : List D → Option D) : Prop := ∀ {B F H : Hp} {σ : L2.St} {ρ : List D} {vs : List V} {xs : List D} {z : D} {Q : VK}, Sta X.K X.mg B F H σ ρ → OwnL X.K X.mg F H vs xs [] → op xs = some z →
  (∀ w F' H', Exx F F' → Sta X.K X.mg B F' H' (some w :: σ) (z :: ρ) → Q w H') → shdL xs = true → r vs H Q
theorem OpS.or {r r' : R2} {f g : D → D → Option D} (h : OpS X r f) (h' : OpS X r' g) : OpS X (fun x y H Q => r x y H Q ∨ r' x y H Q) (fun x y => (f x y).orElse fun _ => g x y) := by
  intro B F H σ ρ v u x y z Q s a b e q hx hy
  dsimp only at e
  cases hf : f x y with
  | some w =>
    rw [hf] at e
    simp only [Option.orElse] at e
    cases e
    exact .inl (h s a b hf q hx hy)
  | none =>
    rw [hf] at e
    simp only [Option.orElse] at e
    exact .inr (h' s a b e q hx hy)
def shr (m : M D) : M D := bnd m fun x => if shd x = true then ret x else if whole x = true then ret (frz x) else fail
theorem Sta.share {K : PySem.W.Frag} {mg : Str → Option Value} {B F H : Hp} {v : V} {d : D} {σ : L2.St} {ρ : List D} (s : Sta K mg B F H (some v :: σ) (d :: ρ)) (h : whole d = true) : ∃ F', Exx F F' ∧ Sta K mg B F' H σ ρ ∧ Own K mg F' H v (frz d) [] := by
  obtain ⟨F', eF, s2⟩ := s.freeze h
  exact ⟨F', eF, s2.drop, s2.headS (shd_frz h)⟩
/-- two operands, shared, then what is left -/
def d2 (op : D → D → Option D) (a b : M D) : M D := bnd a fun x => bnd b fun y => if whole x = true ∧ whole y = true then lft (op (frz x) (frz y)) else fail
def d1 (op : D → Option D) (a : M D) : M D := bnd a fun x => if whole x = true then lft (op (frz x)) else fail
def dCa (op : List D → Option D) (a : M (List D)) : M D := bnd a fun xs => if wholeL xs = true then lft (op (frzL xs)) else fail
theorem den_weak {m : M D} {Q Q' : VK} {σ : L2.St} {H : Hp} (i : ∀ v H, Q v H → Q' v H) (h : den X W m σ H Q) : den X W m σ H Q' := by
  obtain ⟨B, F, ρ, o, s, e, p⟩ := h
  refine ⟨B, F, ρ, o, s, e, ?_⟩
  cases o with
  | ok d ρ' => exact fun v F' H' e s => i v H' (p v F' H' e s)
  | ex x ρ' => exact p
theorem denA_weak {m : M (List D)} {Q Q' : List V → Hp → Prop} {σ : L2.St} {H : Hp} (i : ∀ v H, Q v H → Q' v H) (h : denA X W m σ H Q) : denA X W m σ H Q' := by
  obtain ⟨B, F, ρ, o, s, e, p⟩ := h
  refine ⟨B, F, ρ, o, s, e, ?_⟩
  cases o with
  | ok d ρ' => exact fun v F' H' e hl s => i v H' (p v F' H' e hl s)
  | ex x ρ' => exact p
theorem denT_weak {m : M Bool} {Q Q' : Bool → Hp → Prop} {σ : L2.St} {H : Hp} (i : ∀ v H, Q v H → Q' v H) (h : denT X W m σ H Q) : denT X W m σ H Q' := by
  obtain ⟨B, F, ρ, o, s, e, p⟩ := h
  refine ⟨B, F, ρ, o, s, e, ?_⟩
  cases o with
  | ok d ρ' => exact fun F' H' e s => i d H' (p F' H' e s)
  | ex x ρ' => exact p
theorem d1_ok {r : V → Hp → VK → Prop} {op : D → Option D} {a : M D} {Q : VK} (hr : UnS X r op) (h : den X W (d1 op a) σ H Q) : tUn r (den X W a) σ H Q := by
  obtain ⟨B, F, ρ, o, s, e, p⟩ := h
  refine den_weak ?_ (den_bnd (Post := fun B F o => PostE X W σ B F Q o) postE_X postE_m s e p)
  intro v H1 ⟨B, F, ρ, o, x, s, e, p⟩
  dsimp only at e
  by_cases hx : whole x = true
  · rw [if_pos hx] at e
    obtain ⟨F', eF, s2, r2⟩ := s.share hx
    unfold lft at e
    cases ho : op (frz x) with
    | none => rw [ho] at e; cases e
    | some z =>
      rw [ho] at e
      cases e
      exact hr s2 r2 ho (fun w F2 H2 e2 s3 => p w F2 H2 (eF.trans e2) s3) (shd_frz hx)
  · rw [if_neg hx] at e; cases e
/-- what is left behind two values -/
def Kon2 {α : Type} (X : Cx) (W : WX) (Post : Hp → Hp → O α → Prop) (σ : L2.St) (H : Hp) (k : D → D → M α) (v u : V) : Prop :=
  ∃ B F ρ o x y, Sta X.K X.mg B F H (some v :: some u :: σ) (x :: y :: ρ) ∧ k x y ρ = some o ∧ Post B F o
theorem den_bnd2 {α : Type} {Post : Hp → Hp → O α → Prop} {a b : M D} {k : D → D → M α} {o : O α} {ρ : List D} (hX : ∀ B F x ρ', Post B F (.ex x ρ') → PostX X W σ B F x ρ') (hm : ∀ B F F' o, Exx F F' → Post B F o → Post B F' o)
    (s : Sta X.K X.mg B F H σ ρ) (h : (bnd a fun x => bnd b fun y => k x y) ρ = some o) (p : Post B F o) : den X W a σ H fun v H1 => den X W b σ H1 fun u H2 => Kon2 X W Post σ H2 k v u := by
  refine den_weak ?_ (den_bnd (Post := Post) hX hm s h p)
  intro v H1 ⟨B1, F1, ρ1, o1, x, s1, e1, p1⟩
  obtain ⟨B2, s2, back⟩ := s1.push
  have hb : den X W b σ H1 fun u H2 => Kon1 X W (fun B' F' o => B' = B2 ∧ Exx F1 F' ∧ Post B1 F' o) σ H2 (fun y => k x y) u :=
    den_bnd (Post := fun B' F' o => B' = B2 ∧ Exx F1 F' ∧ Post B1 F' o) (fun B' F' z ρ' ⟨hB, eF, q⟩ => by
      subst hB
      exact fun cls dd F2 H2 e2 s3 x3 => hX _ _ _ _ q cls dd F2 H2 e2 (back F2 H2 σ ρ' (eF.trans e2) s3).drop x3)
      (fun B' F' F2 o e2 ⟨hB, eF, q⟩ => ⟨hB, eF.trans e2, hm _ _ _ _ e2 q⟩) s2 e1 ⟨rfl, .refl _, p1⟩
  refine den_weak ?_ hb
  intro u H2 ⟨B3, F3, ρ3, o3, y, s3, e3, hB, eF, q3⟩
  subst hB
  exact ⟨B1, F3, ρ3, o3, x, y, back F3 H2 (some u :: σ) (y :: ρ3) eF s3, e3, q3⟩
theorem d2_ok {r : R2} {op : D → D → Option D} {a b : M D} {Q : VK} (hr : OpS X r op) (h : den X W (d2 op a b) σ H Q) : tOp r (den X W a) (den X W b) σ H Q := by
  obtain ⟨B, F, ρ, o, s, e, p⟩ := h
  refine den_weak (fun v H1 h1 => den_weak (fun u H2 h2 => ?_) h1) (den_bnd2 (Post := fun B F o => PostE X W σ B F Q o) postE_X postE_m s e p)
  obtain ⟨B, F, ρ, o, x, y, s, e, p⟩ := h2
  dsimp only at e
  by_cases hx : whole x = true ∧ whole y = true
  · rw [if_pos hx] at e
    obtain ⟨F1, eF1, s1, r1⟩ := s.share hx.1
    obtain ⟨F2, eF2, s2, r2⟩ := s1.share hx.2
    unfold lft at e
    cases ho : op (frz x) (frz y) with
    | none => rw [ho] at e; cases e
    | some z =>
      rw [ho] at e
      cases e
      exact hr s2 (r1.shared eF2) r2 ho (fun w F3 H3 e3 s3 => p w F3 H3 ((eF1.trans eF2).trans e3) s3) (shd_frz hx.1) (shd_frz hx.2)
  · rw [if_neg hx] at e; cases e
theorem de_op {op : Operator} {r : R2} {f : D → D → Option D} {a b : Expr} {ma mb : M D} {pos : Pos} (ho : OpR X (binaryOp op) r) (hf : OpS X r f) (ha : DE X W a ma) (hb : DE X W b mb) : DE X W (.BinOp a op b pos) (d2 f ma mb) :=
  PE_imp (pe_op ho ha hb) fun _ _ _ h => d2_ok hf h
theorem de_un {op : UnaryOp} {r : V → Hp → VK → Prop} {f : D → Option D} {a : Expr} {ma : M D} {pos : Pos} (ho : UnR X (unaryOp op) r) (hf : UnS X r f) (ha : DE X W a ma) : DE X W (.UnaryOp op a pos) (d1 f ma) :=
  PE_imp (pe_un ho ha) fun _ _ _ h => d1_ok hf h
theorem de_cmp {op : CmpOp} {r : R2} {f : D → D → Option D} {a b : Expr} {ma mb : M D} {pos : Pos} (ho : OpR X (compareOp op) r) (hf : OpS X r f) (ha : DE X W a ma) (hb : DE X W b mb) (hm : behindInMarks op b = false) : DE X W (.Compare a [op] [b] pos) (d2 f ma mb) :=
  PE_imp (pe_cmpR ho ha hb hm) fun _ _ _ h => d2_ok hf h
theorem de_ix {r : R2} {f : D → D → Option D} {a b : Expr} {ma mb : M D} {pos : Pos} (ho : IxR X r) (hf : OpS X r f) (ha : DE X W a ma) (hb : DE X W b mb) (hs : PlainIx b) : DE X W (.Subscript a b pos) (d2 f ma mb) :=
  PE_imp (pe_ix ho ha hb hs) fun _ _ _ h => d2_ok hf h

/-! ### lists of arguments -/
def dNil : M (List D) := ret []
def dCons (a : M D) (r : M (List D)) : M (List D) := bnd a fun x => bnd r fun xs => ret (x :: xs)
theorem da_nil : DA X W [] dNil := PA_imp pa_nil fun σ H Q h => by
  obtain ⟨B, F, ρ, o, s, e, p⟩ := h
  simp only [dNil, ret, Option.some.injEq] at e
  subst e
  exact p [] F H (.refl F) rfl s
theorem da_cons {e : Expr} {es : List Expr} {a : M D} {r : M (List D)} (ha : DE X W e a) (hr : DA X W es r) (hs : starEach (e :: es) X.env = (false, eval e X.env) :: starEach es X.env := by rfl) : DA X W (e :: es) (dCons a r) := PA_imp (pa_cons ha hr hs) fun σ H Q h => by
  obtain ⟨B, F, ρ, o, s, e, p⟩ := h
  refine den_weak (fun v H1 ⟨B1, F1, ρ1, o1, x, s1, e1, p1⟩ => ?_) (den_bnd (Post := fun B F o => PostA X W σ B F Q o) postA_X postA_m s e p)
  obtain ⟨B2, s2, back⟩ := s1.push
  unfold bnd at e1
  dsimp only at e1
  cases hr : r ρ1 with
  | none => rw [hr] at e1; cases e1
  | some o2 =>
    rw [hr] at e1
    cases o2 with
    | ex z ρ' =>
      simp only [Option.some.injEq] at e1
      subst e1
      exact ⟨B2, F1, ρ1, _, s2, hr, fun cls dd F2 H2 e2 s3 x3 => p1 cls dd F2 H2 e2 (back F2 H2 σ ρ' e2 s3).drop x3⟩
    | ok xs ρ' =>
      simp only [ret, Option.some.injEq] at e1
      subst e1
      refine ⟨B2, F1, ρ1, _, s2, hr, fun us F2 H2 e2 hl s3 => ?_⟩
      exact p1 (v :: us) F2 H2 e2 (by simp [hl]) (back F2 H2 (us.map some ++ σ) (xs ++ ρ') e2 s3)
theorem OwnL.of_env {K : PySem.W.Frag} {mg : Str → Option Value} {F H : Hp} {σ : L2.St} {ρ : List D} : ∀ {vs : List V} {ds : List D} {f : List Addr}, vs.length = ds.length → EnvL K mg F H (vs.map some ++ σ) (ds ++ ρ) f → ∃ f1 f2, OwnL K mg F H vs ds f1 ∧ EnvL K mg F H σ ρ f2 ∧ f = f1 ++ f2
  | [], [], f, _, h => ⟨[], f, .nil, h, rfl⟩
  | [], _ :: _, _, hl, _ => by simp at hl
  | _ :: _, [], _, hl, _ => by simp at hl
  | v :: vs, d :: ds, f, hl, h => by
    simp only [List.map_cons, List.cons_append] at h
    cases h with
    | un t =>
      obtain ⟨f1, f2, h1, h2, h3⟩ := OwnL.of_env (by simpa using hl) t
      exact ⟨f1, f2, .un h1, h2, h3⟩
    | @cons _ _ _ _ f0 g r t =>
      obtain ⟨f1, f2, h1, h2, h3⟩ := OwnL.of_env (by simpa using hl) t
      exact ⟨f0 ++ f1, f2, .cons r h1, h2, by rw [h3, List.append_assoc]⟩
theorem EnvL.of_own {K : PySem.W.Frag} {mg : Str → Option Value} {F H : Hp} {σ : L2.St} {ρ : List D} {f2 : List Addr} (h : EnvL K mg F H σ ρ f2) : ∀ {vs : List V} {ds : List D} {f1 : List Addr}, OwnL K mg F H vs ds f1 → EnvL K mg F H (vs.map some ++ σ) (ds ++ ρ) (f1 ++ f2)
  | _, _, _, .nil => h
  | _, _, _, .un t => .un (EnvL.of_own h t)
  | _, _, _, .cons r t => by
    rw [List.append_assoc]
    exact .cons r (EnvL.of_own h t)
theorem OwnL.len {K : PySem.W.Frag} {mg : Str → Option Value} {F H : Hp} : ∀ {vs : List V} {ds : List D} {f : List Addr}, OwnL K mg F H vs ds f → vs.length = ds.length
  | _, _, _, .nil => rfl
  | _, _, _, .un t => by simp [OwnL.len t]
  | _, _, _, .cons _ t => by simp [OwnL.len t]
/-- several values are shared -/
theorem Sta.shareL {K : PySem.W.Frag} {mg : Str → Option Value} {B F H : Hp} {σ : L2.St} {ρ : List D} : ∀ {vs : List V} {ds : List D}, vs.length = ds.length → Sta K mg B F H (vs.map some ++ σ) (ds ++ ρ) → wholeL ds = true →
    ∃ F', Exx F F' ∧ Sta K mg B F' H σ ρ ∧ OwnL K mg F' H vs (frzL ds) [] := fun {vs ds} hl s hw => by
  obtain ⟨⟨f, t, nd, nb⟩, ex, bx, dis⟩ := s
  obtain ⟨f1, f2, h1, h2, rfl⟩ := OwnL.of_env hl t
  have m := OwnL.mem h1
  have ndg := (List.nodup_append.mp nd).2.1
  have ndx := (List.nodup_append.mp nd).2.2
  have eF : Exx F (addR F H f1) := fun a o h => by
    have h1 : a ∉ f1 := fun h1 => by rw [(m a h1).1] at h; cases h
    rw [addR_out h1]; exact h
  refine ⟨addR F H f1, eF, ⟨⟨f2, h2.frame eF fun a ha => ⟨by rw [addR_out fun h => ndx a h a ha rfl]; exact (EnvL.mem h2 a ha).1, rfl⟩, ndg, fun a ha => nb a (List.mem_append_right _ ha)⟩, fun a o h => ?_, bx, fun a o h => ?_⟩, ?_⟩
  · by_cases h1 : a ∈ f1
    · rw [addR_in h1] at h; exact h
    · rw [addR_out h1] at h; exact ex a o h
  · have h1 : a ∉ f1 := fun h1 => by rw [nb a (List.mem_append_left _ h1)] at h; cases h
    rw [addR_out h1]; exact dis a o h
  · have h3 := OwnL.freeze (F' := addR F H f1) (f0 := f1) eF (fun a ha => addR_in ha) h1 (fun a ha => ha) hw
    exact h3
theorem denA_bnd {α : Type} {Post : Hp → Hp → O α → Prop} {m : M (List D)} {k : List D → M α} {o : O α} {ρ : List D} (hX : ∀ B F x ρ', Post B F (.ex x ρ') → PostX X W σ B F x ρ') (hm : ∀ B F F' o, Exx F F' → Post B F o → Post B F' o)
    (s : Sta X.K X.mg B F H σ ρ) (h : bnd m k ρ = some o) (p : Post B F o) : denA X W m σ H fun vs H1 => ∃ B F ρ o xs, vs.length = xs.length ∧ Sta X.K X.mg B F H1 (vs.map some ++ σ) (xs ++ ρ) ∧ k xs ρ = some o ∧ Post B F o := by
  unfold bnd at h
  cases hmr : m ρ with
  | none => rw [hmr] at h; cases h
  | some o1 =>
    rw [hmr] at h
    cases o1 with
    | ex x ρ' =>
      simp only [Option.some.injEq] at h
      subst h
      exact ⟨B, F, ρ, _, s, hmr, hX _ _ _ _ p⟩
    | ok x ρ' =>
      exact ⟨B, F, ρ, _, s, hmr, fun v F' H' eF hl s' => ⟨B, F', ρ', o, x, hl, s', h, hm _ _ _ _ eF p⟩⟩
theorem dCa_ok {r : List V → Hp → VK → Prop} {op : List D → Option D} {a : M (List D)} {Q : VK} (hr : CaS X r op) (h : den X W (dCa op a) σ H Q) : tCB r (denA X W a) σ H Q := by
  obtain ⟨B, F, ρ, o, s, e, p⟩ := h
  refine denA_weak (fun vs H1 ⟨B, F, ρ, o, xs, hl, s, e, p⟩ => ?_) (denA_bnd (Post := fun B F o => PostE X W σ B F Q o) postE_X postE_m s e p)
  by_cases hx : wholeL xs = true
  · rw [if_pos hx] at e
    obtain ⟨F', eF, s2, r2⟩ := s.shareL hl hx
    unfold lft at e
    cases ho : op (frzL xs) with
    | none => rw [ho] at e; cases e
    | some z =>
      rw [ho] at e
      cases e
      exact hr s2 r2 ho (fun w F2 H2 e2 s3 => p w F2 H2 (eF.trans e2) s3) (shdL_frz hx)
  · rw [if_neg hx] at e; cases e
/-- a new shared object -/
theorem Sta.newS {K : PySem.W.Frag} {mg : Str → Option Value} {B F H : Hp} {σ : L2.St} {ρ : List D} {p : Addr} {o : HO} (s : Sta K mg B F H σ ρ) (hp : H p = none) : Exx F (upd F p o) ∧ Sta K mg B (upd F p o) (upd H p o) σ ρ := by
  obtain ⟨⟨f, t, nd, nb⟩, ex, bx, dis⟩ := s
  have eF : Exx F (upd F p o) := Exx.new (ex.fre hp)
  have hf : ∀ a ∈ f, a ≠ p := fun a ha e => by
    obtain ⟨u, hu⟩ := (EnvL.mem t a ha).2
    rw [e, hp] at hu; cases hu
  refine ⟨eF, ⟨f, t.frame eF fun a ha => ⟨by rw [upd_ne (hf a ha)]; exact (EnvL.mem t a ha).1, by rw [upd_ne (hf a ha)]⟩, nd, nb⟩, fun a u h => ?_, bx.mut (bx.fre hp) |> fun h => h, fun a u h => ?_⟩
  · by_cases e : a = p
    · subst e; rw [upd_same] at h ⊢; exact h
    · rw [upd_ne e] at h ⊢; exact ex a u h
  · have e : a ≠ p := fun e => by rw [e, bx.fre hp] at h; cases h
    rw [upd_ne e]; exact dis a u h
/-- a new owned object of the values at hand -/
theorem Sta.newO {K : PySem.W.Frag} {mg : Str → Option Value} {B F H : Hp} {σ : L2.St} {ρ : List D} {p : Addr} {o : HO} {vs : List V} {ds : List D} {k : Kd} (hl : vs.length = ds.length) (s : Sta K mg B F H (vs.map some ++ σ) (ds ++ ρ)) (hp : H p = none) (ho : OObj mg o k vs) :
    Sta K mg B F (upd H p o) (some (.ref p) :: σ) (.nd true k ds :: ρ) := by
  obtain ⟨⟨f, t, nd, nb⟩, ex, bx, dis⟩ := s
  have hf : ∀ a ∈ f, a ≠ p := fun a ha e => by
    obtain ⟨u, hu⟩ := (EnvL.mem t a ha).2
    rw [e, hp] at hu; cases hu
  have t' := t.frame (H' := upd H p o) (.refl F) fun a ha => ⟨(EnvL.mem t a ha).1, by rw [upd_ne (hf a ha)]⟩
  obtain ⟨f1, f2, h1, h2, rfl⟩ := OwnL.of_env hl t'
  refine ⟨⟨(p :: f1) ++ f2, .cons (.ow (ex.fre hp) upd_same ho h1) h2, List.nodup_cons.mpr ⟨fun h => hf p h rfl, nd⟩, fun a ha => ?_⟩, ex.mut (ex.fre hp), bx.mut (bx.fre hp), dis⟩
  rcases List.mem_cons.mp ha with rfl | ha
  · exact bx.fre hp
  · exact nb a ha
/-! ### tuples and lists written out -/
def dTup (m : M (List D)) : M D := bnd m fun xs => if wholeL xs = true ∧ xs.length ≤ 100000 then ret (.nd false .tup (frzL xs)) else fail
def dLst (m : M (List D)) : M D := bnd m fun xs => if xs.length ≤ 100000 then ret (.nd true .lst xs) else fail
theorem sz_of {n : Nat} (h : n ≤ 100000) : n ≤ sizeLine := Nat.le_trans h (by decide)
theorem de_tup {es : List Expr} {m : M (List D)} {x1 pos} (h : DA X W es m) : DE X W (.Tuple es x1 pos) (dTup m) := PE_imp (pe_tup h) fun σ H Q h => by
  obtain ⟨B, F, ρ, o, s, e, p⟩ := h
  refine denA_weak (fun vs H1 ⟨B, F, ρ, o, xs, hl, s, e, p⟩ => ?_) (denA_bnd (Post := fun B F o => PostE X W σ B F Q o) postE_X postE_m s e p)
  by_cases hx : wholeL xs = true ∧ xs.length ≤ 100000
  · rw [if_pos hx] at e
    cases e
    obtain ⟨F', eF, s2, r2⟩ := s.shareL hl hx.1
    refine ⟨by rw [hl]; exact sz_of hx.2, fun q hq => ?_⟩
    obtain ⟨eF2, s3⟩ := s2.newS (o := .tup vs) hq
    exact p (.ref q) _ _ (eF.trans eF2) (s3.add (.sh (SqT.of upd_same) (r2.shared eF2)))
  · rw [if_neg hx] at e; cases e
theorem de_lst {es : List Expr} {m : M (List D)} {pos} (h : DA X W es m) : DE X W (.List es pos) (dLst m) := PE_imp (pe_lst h) fun σ H Q h => by
  obtain ⟨B, F, ρ, o, s, e, p⟩ := h
  refine denA_weak (fun vs H1 ⟨B, F, ρ, o, xs, hl, s, e, p⟩ => ?_) (denA_bnd (Post := fun B F o => PostE X W σ B F Q o) postE_X postE_m s e p)
  by_cases hx : xs.length ≤ 100000
  · rw [if_pos hx] at e
    cases e
    exact ⟨by rw [hl]; exact sz_of hx, fun q hq => p (.ref q) F _ (.refl F) (s.newO hl hq rfl)⟩
  · rw [if_neg hx] at e; cases e
end
end DL

/-! DL3: operators, comparisons, subscripts, truth, built-ins by data. -/
namespace DL
open PySem L2
section
variable {K : PySem.W.Frag} {mg : Str → Option Value} {F H : Hp} {v : V} {f : List Addr}
theorem Own.int_inv {i : Int} (h : Own K mg F H v (.int i) f) : v = .int i := by cases h; rfl
theorem Own.str_inv {i : Str} (h : Own K mg F H v (.str i) f) : v = .str i := by cases h; rfl
theorem Own.bl_inv {i : Bool} (h : Own K mg F H v (.bl i) f) : v = .bl i := by cases h; rfl
theorem Own.non_inv (h : Own K mg F H v .non f) : v = .non := by cases h; rfl
theorem Own.nd_inv {o : Bool} {k : Kd} {ds : List D} (h : Own K mg F H v (.nd o k ds) []) : o = false ∧ ∃ a vs, v = .ref a ∧ ObjIs K mg F a k vs ∧ OwnL K mg F H vs ds [] := by
  cases h with
  | sh h1 h2 => exact ⟨rfl, _, _, rfl, h1, h2⟩
theorem Own.dc_inv {o : Bool} {ks ds : List D} (h : Own K mg F H v (.dc o ks ds) []) : o = false ∧ ∃ a u vs, v = .ref a ∧ F a = some u ∧ DObj u ks vs ∧ OwnL K mg F H vs ds [] := by
  cases h with
  | shD h0 h1 h2 => exact ⟨rfl, _, _, _, rfl, h0, h1, h2⟩
theorem Own.un_inv (h : Own K mg F H v .un f) : False := by cases h
theorem OwnL.getG : ∀ {vs : List V} {ds : List D} {f : List Addr} {i : Nat} {d : D}, OwnL K mg F H vs ds f → ds[i]? = some d → d ≠ .un → ∃ w g, vs[i]? = some w ∧ Own K mg F H w d g ∧ ∀ a ∈ g, a ∈ f
  | _, _, _, i, d, .nil, e, _ => by simp at e
  | _, _, _, 0, d, .un t, e, ne => by simp at e; exact absurd e.symm ne
  | _, _, _, i + 1, d, .un t, e, ne => by
    obtain ⟨w, g, h1, h2, h3⟩ := OwnL.getG (i := i) t (by simpa using e) ne
    exact ⟨w, g, by simpa using h1, h2, h3⟩
  | _, _, _, 0, d, .cons r t, e, ne => by
    simp at e; subst e
    exact ⟨_, _, rfl, r, fun a h => List.mem_append_left _ h⟩
  | _, _, _, i + 1, d, .cons r t, e, ne => by
    obtain ⟨w, g, h1, h2, h3⟩ := OwnL.getG (i := i) t (by simpa using e) ne
    exact ⟨w, g, by simpa using h1, h2, fun a h => List.mem_append_right _ (h3 a h)⟩
theorem OwnL.get {vs : List V} {ds : List D} (h : OwnL K mg F H vs ds []) {i : Nat} {d : D} (e : ds[i]? = some d) (ne : d ≠ .un) : ∃ w, vs[i]? = some w ∧ Own K mg F H w d [] := by
  obtain ⟨w, g, h1, h2, h3⟩ := OwnL.getG h e ne
  cases g with
  | nil => exact ⟨w, h1, h2⟩
  | cons a g => exact absurd (h3 a (List.mem_cons_self ..)) (by simp)
theorem OwnL.append {vs us : List V} {ds es : List D} (h2 : OwnL K mg F H us es []) : ∀ {vs : List V} {ds : List D} {f : List Addr}, OwnL K mg F H vs ds f → f = [] → OwnL K mg F H (vs ++ us) (ds ++ es) []
  | _, _, _, .nil, _ => h2
  | _, _, _, .un t, e => .un (OwnL.append (vs := vs) (ds := ds) h2 t e)
  | _, _, _, .cons r t, e => by
    have e' := List.append_eq_nil_iff.mp e
    rw [e'.1] at r
    exact OwnL.cons r (OwnL.append (vs := vs) (ds := ds) h2 t e'.2)
theorem Sta.addL {B : Hp} {σ : L2.St} {ρ : List D} {vs : List V} {ds : List D} (s : Sta K mg B F H σ ρ) (h : OwnL K mg F H vs ds []) : Sta K mg B F H (vs.map some ++ σ) (ds ++ ρ) := by
  obtain ⟨⟨g, t, nd, nb⟩, ex, bx, dis⟩ := s
  exact ⟨⟨[] ++ g, EnvL.of_own t h, nd, nb⟩, ex, bx, dis⟩
/-- a new list of shared values -/
theorem Sta.newL {B : Hp} {σ : L2.St} {ρ : List D} {vs : List V} {ds : List D} {p : Addr} (s : Sta K mg B F H σ ρ) (h : OwnL K mg F H vs ds []) (hp : H p = none) : Sta K mg B F (upd H p (.lst vs)) (some (.ref p) :: σ) (.nd true .lst ds :: ρ) :=
  Sta.newO h.len (s.addL h) hp rfl
/-- a new tuple of shared values -/
theorem Sta.newT {B : Hp} {σ : L2.St} {ρ : List D} {vs : List V} {ds : List D} {p : Addr} (s : Sta K mg B F H σ ρ) (h : OwnL K mg F H vs ds []) (hp : H p = none) : Exx F (upd F p (.tup vs)) ∧ Sta K mg B (upd F p (.tup vs)) (upd H p (.tup vs)) (some (.ref p) :: σ) (.nd false .tup ds :: ρ) := by
  obtain ⟨eF, s2⟩ := s.newS (o := .tup vs) hp
  exact ⟨eF, s2.add (.sh (SqT.of upd_same) (h.shared eF))⟩
end

/-! ### arithmetic -/
def dec {p : Prop} [Decidable p] (a : D) : Option D := if p then some a else none
def opAdd : D → D → Option D
  | .int i, .int j => some (.int (i + j))
  | .str x, .str y => if x.length + y.length ≤ 100000 then some (.str (x ++ y)) else none
  | .nd _ .lst xs, .nd _ .lst ys => if xs.length + ys.length ≤ 100000 then some (.nd true .lst (xs ++ ys)) else none
  | .nd _ .tup xs, .nd _ .tup ys => if xs.length + ys.length ≤ 100000 then some (.nd false .tup (xs ++ ys)) else none
  | _, _ => none
def opSub : D → D → Option D
  | .int i, .int j => some (.int (i - j))
  | _, _ => none
instance {i j : Int} : Decidable (CMul i j) := inferInstanceAs (Decidable (_ ∨ _))
instance {i j : Int} : Decidable (CDiv i j) := inferInstanceAs (Decidable (_ ∧ _))
instance {i j : Int} : Decidable (CPow i j) := inferInstanceAs (Decidable (_ ∧ _))
def strRep (x : Str) (n : Nat) : Str := ⟨(List.replicate n x.cps.toList).flatten.toArray⟩
def opMul : D → D → Option D
  | .int i, .int j => if CMul i j then some (.int (i * j)) else none
  | .str x, .int k => if 0 ≤ k ∧ k ≤ 1000 ∧ x.length ≤ 1000 then some (.str (strRep x k.toNat)) else none
  | .nd _ .lst xs, .int k => if 0 ≤ k ∧ k ≤ 10000 ∧ xs.length ≤ 1000 then some (.nd true .lst (List.replicate k.toNat xs).flatten) else none
  | _, _ => none
def opMod : D → D → Option D
  | .int i, .int j => if 0 < j then some (.int (i % j)) else none
  | _, _ => none
def opDiv : D → D → Option D
  | .int i, .int j => if CDiv i j then some (.int (i / j)) else none
  | _, _ => none
def opPow : D → D → Option D
  | .int i, .int j => if CPow i j then some (.int (i ^ j.toNat)) else none
  | _, _ => none
def opNeg : D → Option D
  | .int i => some (.int (-i))
  | _ => none
section
variable {X : Cx} {W : WX}
theorem szl : (100000 : Nat) ≤ sizeLine := by decide
theorem os_sub : OpS X (rI0 fun i j => .int (i - j)) opSub := by
  intro B F H σ ρ v u x y z Q s a b e q hx hy
  unfold opSub at e
  split at e
  · cases e; exact ⟨_, _, a.int_inv, b.int_inv, q _ F H (.refl F) (s.add (.int _))⟩
  · cases e
theorem os_mod : OpS X (rI (fun _ j => 0 < j) fun i j => .int (i % j)) opMod := by
  intro B F H σ ρ v u x y z Q s a b e q hx hy
  unfold opMod at e
  split at e
  · split at e
    · rename_i h; cases e; exact ⟨_, _, a.int_inv, b.int_inv, h, q _ F H (.refl F) (s.add (.int _))⟩
    · cases e
  · cases e
theorem os_div : OpS X (rI CDiv fun i j => .int (i / j)) opDiv := by
  intro B F H σ ρ v u x y z Q s a b e q hx hy
  unfold opDiv at e
  split at e
  · split at e
    · rename_i h; cases e; exact ⟨_, _, a.int_inv, b.int_inv, h, q _ F H (.refl F) (s.add (.int _))⟩
    · cases e
  · cases e
theorem os_pow : OpS X (rI CPow fun i j => .int (i ^ j.toNat)) opPow := by
  intro B F H σ ρ v u x y z Q s a b e q hx hy
  unfold opPow at e
  split at e
  · split at e
    · rename_i h; cases e; exact ⟨_, _, a.int_inv, b.int_inv, h, q _ F H (.refl F) (s.add (.int _))⟩
    · cases e
  · cases e
theorem us_neg : UnS X (rU fun i => .int (-i)) opNeg := by
  intro B F H σ ρ v x z Q s a e q hx
  unfold opNeg at e
  split at e
  · cases e; exact ⟨_, a.int_inv, q _ F H (.refl F) (s.add (.int _))⟩
  · cases e
/-- + of ints, texts, lists, tuples -/
def rAddD (K : PySem.W.Frag) : R2 := fun x y H Q => (∃ i j, x = .int i ∧ y = .int j ∧ Q (.int (i + j)) H) ∨ (∃ i j, x = .str i ∧ y = .str j ∧ i.length + j.length ≤ sizeLine ∧ Q (.str (i ++ j)) H) ∨ rCat x y H Q ∨ rCatA K x y H Q
theorem op_addD : OpR X (binaryOp .Add) (rAddD X.K) := op_add.or (op_add_str.or (op_cat.or op_catA))
theorem os_add : OpS X (rAddD X.K) opAdd := by
  intro B F H σ ρ v u x y z Q s a b e q hx hy
  have hz := szl
  unfold opAdd at e
  split at e
  · cases e; exact .inl ⟨_, _, a.int_inv, b.int_inv, q _ F H (.refl F) (s.add (.int _))⟩
  · split at e
    · rename_i h; cases e
      exact .inr (.inl ⟨_, _, a.str_inv, b.str_inv, by omega, q _ F H (.refl F) (s.add (.str _))⟩)
    · cases e
  · split at e
    · rename_i h; cases e
      obtain ⟨_, a1, vs1, rfl, o1, l1⟩ := a.nd_inv
      obtain ⟨_, a2, vs2, rfl, o2, l2⟩ := b.nd_inv
      have e1 := l1.len
      have e2 := l2.len
      refine .inr (.inr (.inl ⟨a1, a2, vs1, vs2, rfl, rfl, s.ex _ _ o1, s.ex _ _ o2, by omega, fun p hp => ?_⟩))
      exact q _ F _ (.refl F) (s.newL (OwnL.append (vs := vs1) (ds := []) l2 l1 rfl) hp)
    · cases e
  · split at e
    · rename_i h; cases e
      obtain ⟨_, a1, vs1, rfl, o1, l1⟩ := a.nd_inv
      obtain ⟨_, a2, vs2, rfl, o2, l2⟩ := b.nd_inv
      have e1 := l1.len
      have e2 := l2.len
      refine .inr (.inr (.inr ⟨a1, a2, vs1, vs2, rfl, rfl, s.ex.sqT o1, s.ex.sqT o2, by omega, fun h0 => ?_, fun h0 h1 => ?_, fun h0 h1 p hp => ?_⟩))
      · subst h0
        have : _ = [] := List.eq_nil_of_length_eq_zero e1.symm
        subst this
        exact q _ F H (.refl F) (s.add (by simpa using Own.sh (k := .tup) o2 l2))
      · subst h1
        have : _ = [] := List.eq_nil_of_length_eq_zero e2.symm
        subst this
        exact q _ F H (.refl F) (s.add (by simpa using Own.sh (k := .tup) o1 l1))
      · obtain ⟨eF, s2⟩ := s.newT (OwnL.append (vs := vs1) (ds := []) l2 l1 rfl) hp
        exact q _ _ _ eF s2
    · cases e
  · cases e
def rRepS : R2 := fun x y H Q => ∃ (i : Str) (k : Int), x = .str i ∧ y = .int k ∧ PySem.MulOk i k ∧ Q (.str (Txt.mul i k)) H
theorem op_repS : OpR X (binaryOp .Mult) rRepS := by
  intro pins s σ H x y v u Q I rx ry h
  obtain ⟨i, k, rfl, rfl, hk, q⟩ := h
  obtain ⟨t, rfl⟩ := rx
  obtain ⟨t', rfl⟩ := ry
  exact PySem.SB.mul hk fun t' k' => ⟨.str _, H, I.tok _, ⟨_, rfl⟩, q⟩

end
theorem foldl_app (x : Array Nat) : ∀ (n : Nat) (a : Array Nat), (List.replicate n x).foldl (· ++ ·) a = a ++ ((List.replicate n x.toList).flatten.toArray)
  | 0, a => by simp
  | n + 1, a => by
    rw [List.replicate_succ, List.foldl_cons, foldl_app x n]
    rw [List.replicate_succ, List.flatten_cons]
    apply Array.ext'
    simp
theorem txt_mul (x : Str) {n : Int} (h : 0 ≤ n) : Txt.mul x n = strRep x n.toNat := by
  unfold Txt.mul strRep
  by_cases h1 : n < 1
  · have : n = 0 := by omega
    subst this
    rfl
  · rw [if_neg h1]
    by_cases h2 : (n == 1 || x.length == 0) = true
    · rw [if_pos h2]
      rw [Bool.or_eq_true, beq_iff_eq, beq_iff_eq] at h2
      rcases h2 with h2 | h2
      · subst h2; simp
      · have e : x.cps = #[] := by
          have : x.cps.size = 0 := h2
          exact Array.eq_empty_of_size_eq_zero this
        obtain ⟨c⟩ := x
        simp only at e
        subst e
        simp
    · rw [if_neg h2]
      congr 1
      rw [foldl_app]
      simp
theorem mulOk_of {x : Str} {n : Int} (h0 : 0 ≤ n) (h1 : n ≤ 1000) (h2 : x.length ≤ 1000) : PySem.MulOk x n := by
  refine ⟨?_, fun h _ => ?_, fun h _ => ?_⟩
  · have a : ¬ n < -(2 ^ 63 : Int) := by omega
    have b : ¬ n ≥ 2 ^ 63 := by omega
    simp only [decide_eq_false a, decide_eq_false b, Bool.or_self]
  · have : (1000 : Int) ≤ (2 ^ 63 - 1) / n := by
      rw [Int.le_ediv_iff_mul_le (by omega)]
      have : 1000 * n ≤ 1000 * 1000 := by omega
      omega
    omega
  · have a : x.length * n.toNat ≤ 1000 * 1000 := Nat.mul_le_mul h2 (by omega)
    unfold Builtin.Str.tooLong
    have b : (1000000 : Nat) ≤ sizeLine := by decide
    have c : ¬ (x.length * n.toNat > sizeLine) := by omega
    exact decide_eq_false c
def rMulD : R2 := fun x y H Q => (rI CMul fun i j => .int (i * j)) x y H Q ∨ rRepS x y H Q ∨ rRep x y H Q
theorem op_mulD {X : Cx} : OpR X (binaryOp .Mult) rMulD := op_mul.or (op_repS.or op_rep)
theorem OwnL.rep {K : PySem.W.Frag} {mg : Str → Option Value} {F H : Hp} {vs : List V} {ds : List D} (h : OwnL K mg F H vs ds []) : ∀ n : Nat, OwnL K mg F H (List.replicate n vs).flatten (List.replicate n ds).flatten []
  | 0 => by simpa using OwnL.nil
  | n + 1 => by
    rw [List.replicate_succ, List.replicate_succ, List.flatten_cons, List.flatten_cons]
    exact OwnL.append (vs := vs) (ds := ds) (OwnL.rep h n) h rfl
theorem os_mul {X : Cx} : OpS X rMulD opMul := by
  intro B F H σ ρ v u x y z Q s a b e q hx hy
  have hz := szl
  unfold opMul at e
  split at e
  · split at e
    · rename_i h; cases e; exact .inl ⟨_, _, a.int_inv, b.int_inv, h, q _ F H (.refl F) (s.add (.int _))⟩
    · cases e
  · split at e
    · rename_i h; cases e
      exact .inr (.inl ⟨_, _, a.str_inv, b.int_inv, mulOk_of h.1 h.2.1 h.2.2, by rw [txt_mul _ h.1]; exact q _ F H (.refl F) (s.add (.str _))⟩)
    · cases e
  · split at e
    · rename_i xs k h; cases e
      obtain ⟨_, a1, vs1, rfl, o1, l1⟩ := a.nd_inv
      have e1 := l1.len
      have h3 : vs1.length * k.toNat ≤ 1000 * 10000 := Nat.mul_le_mul (by omega) (by omega)
      have h4 : (10000000 : Nat) ≤ sizeLine := by decide
      refine .inr (.inr ⟨a1, _, vs1, rfl, b.int_inv, s.ex _ _ o1, by omega, by omega, by omega, fun p hp => ?_⟩)
      exact q _ F _ (.refl F) (s.newL (l1.rep k.toNat) hp)
    · cases e
  · cases e
end DL

/-! DL4: comparisons, subscripts, slices, truth, built-ins by data. -/
namespace DL
open PySem L2

/-! ### data as the model's data -/
mutual
def toPy : D → Option PyData
  | .non => some .none
  | .bl b => some (.bool b)
  | .int i => some (.int i)
  | .str x => some (.str x)
  | .nd _ .lst ds => (toPyL ds).map .list
  | .nd _ .scr ds => (toPyL ds).map .list
  | .nd _ .tup ds => (toPyL ds).map .tuple
  | _ => none
def toPyL : List D → Option (List PyData)
  | [] => some []
  | d :: ds => match toPy d, toPyL ds with
    | some p, some ps => some (p :: ps)
    | _, _ => none
end
section
variable {K : PySem.W.Frag} {mg : Str → Option Value} {F H : Hp}
mutual
theorem Own.toDp (eF : Exx F H) : ∀ {v : V} {d : D} {f : List Addr} {p : PyData}, Own K mg F H v d f → f = [] → toPy d = some p → Dp K H v p
  | _, _, _, p, .non, _, e => by simp only [toPy, Option.some.injEq] at e; subst e; exact .non
  | _, _, _, p, .bl b, _, e => by simp only [toPy, Option.some.injEq] at e; subst e; exact .bl b
  | _, _, _, p, .int b, _, e => by simp only [toPy, Option.some.injEq] at e; subst e; exact .int b
  | _, _, _, p, .str b, _, e => by simp only [toPy, Option.some.injEq] at e; subst e; exact .str b
  | _, _, _, p, .sh (k := k) (ds := ds) o t, _, e => by
    cases k with
    | lst =>
      simp only [toPy, Option.map_eq_some_iff] at e
      obtain ⟨ps, h1, rfl⟩ := e
      exact .lst (SqL.of (eF _ _ o)) (OwnL.toDp eF t rfl h1)
    | scr =>
      simp only [toPy, Option.map_eq_some_iff] at e
      obtain ⟨ps, h1, rfl⟩ := e
      exact .lst (eF.sqL o) (OwnL.toDp eF t rfl h1)
    | tup =>
      simp only [toPy, Option.map_eq_some_iff] at e
      obtain ⟨ps, h1, rfl⟩ := e
      exact .tup (eF.sqT o) (OwnL.toDp eF t rfl h1)
    | ins c ns => simp [toPy] at e
    | exc c ns => simp [toPy] at e
  | _, _, _, p, .shD _ _ _, _, e => by simp [toPy] at e
  | _, _, _, p, .ow _ _ _ _, h, e => by cases h
  | _, _, _, p, .owD _ _ _ _, h, e => by cases h
theorem OwnL.toDp (eF : Exx F H) : ∀ {vs : List V} {ds : List D} {f : List Addr} {ps : List PyData}, OwnL K mg F H vs ds f → f = [] → toPyL ds = some ps → DpAll K H vs ps
  | _, _, _, ps, .nil, _, e => by simp only [toPyL, Option.some.injEq] at e; subst e; exact .nil
  | _, _, _, ps, .un _, _, e => by simp [toPyL, toPy] at e
  | _, _, _, ps, .cons (d := d) (ds := ds) r t, h, e => by
    have h' := List.append_eq_nil_iff.mp h
    simp only [toPyL] at e
    cases h1 : toPy d with
    | none => rw [h1] at e; cases e
    | some q =>
      cases h2 : toPyL ds with
      | none => rw [h1, h2] at e; cases e
      | some qs =>
        rw [h1, h2] at e
        simp only [Option.some.injEq] at e
        subst e
        exact .cons (Own.toDp eF r h'.1 h1) (OwnL.toDp eF t h'.2 h2)
end
end
mutual
/-- what == may be asked of: of limited depth, texts of code points -/
def cmpOk : Nat → D → Bool
  | _, .non => true
  | _, .bl _ => true
  | _, .int _ => true
  | _, .str x => x.cps.all (· < 0x110000)
  | 0, _ => false
  | n + 1, .nd _ .lst ds => cmpOkL n ds
  | n + 1, .nd _ .scr ds => cmpOkL n ds
  | n + 1, .nd _ .tup ds => cmpOkL n ds
  | _, _ => false
def cmpOkL : Nat → List D → Bool
  | _, [] => true
  | n, d :: ds => cmpOk n d && cmpOkL n ds
end
mutual
/-- Python's == of data -/
def eqv : D → D → Bool
  | .non, .non => true
  | .bl a, .bl b => a == b
  | .bl a, .int j => (if a then 1 else 0) == j
  | .int i, .bl b => i == (if b then 1 else 0)
  | .int i, .int j => i == j
  | .str x, .str y => x == y
  | .nd _ .tup xs, .nd _ .tup ys => eqvL xs ys
  | .nd _ .lst xs, .nd _ .lst ys => eqvL xs ys
  | .nd _ .lst xs, .nd _ .scr ys => eqvL xs ys
  | .nd _ .scr xs, .nd _ .lst ys => eqvL xs ys
  | .nd _ .scr xs, .nd _ .scr ys => eqvL xs ys
  | _, _ => false
def eqvL : List D → List D → Bool
  | [], [] => true
  | x :: xs, y :: ys => eqv x y && eqvL xs ys
  | _, _ => false
end
mutual
theorem toPy_of : ∀ {n : Nat} {d : D}, cmpOk n d = true → ∃ p, toPy d = some p ∧ p.canLay0 = true ∧ p.depth ≤ n
  | n, .un, h => by cases n <;> simp [cmpOk] at h
  | n, .non, h => ⟨.none, by simp [toPy], rfl, Nat.zero_le _⟩
  | n, .bl b, h => ⟨.bool b, by simp [toPy], rfl, Nat.zero_le _⟩
  | n, .int b, h => ⟨.int b, by simp [toPy], rfl, Nat.zero_le _⟩
  | n, .str x, h => ⟨.str x, by simp [toPy], by cases n <;> (simp only [cmpOk] at h; exact h), Nat.zero_le _⟩
  | 0, .nd o k ds, h => by cases k <;> simp [cmpOk] at h
  | n + 1, .nd o k ds, h => by
    cases k with
    | lst =>
      simp only [cmpOk] at h
      obtain ⟨ps, h1, h2, h3⟩ := toPyL_of h
      exact ⟨.list ps, by simp only [toPy, h1, Option.map_some], by simpa [PyData.canLay0] using h2, by simp only [PyData.depth]; omega⟩
    | scr =>
      simp only [cmpOk] at h
      obtain ⟨ps, h1, h2, h3⟩ := toPyL_of h
      exact ⟨.list ps, by simp only [toPy, h1, Option.map_some], by simpa [PyData.canLay0] using h2, by simp only [PyData.depth]; omega⟩
    | tup =>
      simp only [cmpOk] at h
      obtain ⟨ps, h1, h2, h3⟩ := toPyL_of h
      exact ⟨.tuple ps, by simp only [toPy, h1, Option.map_some], by simpa [PyData.canLay0] using h2, by simp only [PyData.depth]; omega⟩
    | ins c ns => simp [cmpOk] at h
    | exc c ns => simp [cmpOk] at h
  | n, .dc o ks ds, h => by cases n <;> simp [cmpOk] at h
theorem toPyL_of : ∀ {n : Nat} {ds : List D}, cmpOkL n ds = true → ∃ ps, toPyL ds = some ps ∧ PyData.canLayAll0 ps = true ∧ PyData.depthAll ps ≤ n
  | n, [], h => ⟨[], by simp [toPyL], rfl, Nat.zero_le _⟩
  | n, d :: ds, h => by
    simp only [cmpOkL, Bool.and_eq_true] at h
    obtain ⟨p, h1, h2, h3⟩ := toPy_of h.1
    obtain ⟨ps, g1, g2, g3⟩ := toPyL_of h.2
    exact ⟨p :: ps, by simp only [toPyL, h1, g1], by simp only [PyData.canLayAll0, h2, g2, Bool.and_self], by simp only [PyData.depthAll]; omega⟩
end
theorem shaped_of {n : Nat} {p : PyData} (h : p.canLay0 = true) (hd : p.depth ≤ n) (hn : n ≤ 64) : SeqAt.shaped p = true := by
  unfold SeqAt.shaped
  rw [h, decide_eq_true (by omega)]
  rfl
mutual
theorem eqv_py : ∀ {x y : D} {p q : PyData}, toPy x = some p → toPy y = some q → PyData.eqv p q = eqv x y
  | .un, _, p, q, h, _ => by simp [toPy] at h
  | .dc _ _ _, _, p, q, h, _ => by simp [toPy] at h
  | _, .un, p, q, _, h => by simp [toPy] at h
  | _, .dc _ _ _, p, q, _, h => by simp [toPy] at h
  | .nd _ (.ins _ _) _, _, p, q, h, _ => by simp [toPy] at h
  | _, .nd _ (.ins _ _) _, p, q, _, h => by simp [toPy] at h
  | .non, y, p, q, h1, h2 => by
    simp only [toPy, Option.some.injEq] at h1; subst h1
    cases y with
    | nd o k ds => cases k <;> simp only [toPy, Option.map_eq_some_iff] at h2 <;> first | (obtain ⟨ps, _, rfl⟩ := h2; rfl) | cases h2
    | _ => simp only [toPy, Option.some.injEq] at h2 <;> first | (subst h2; rfl) | cases h2
  | .bl b, y, p, q, h1, h2 => by
    simp only [toPy, Option.some.injEq] at h1; subst h1
    cases y with
    | nd o k ds => cases k <;> simp only [toPy, Option.map_eq_some_iff] at h2 <;> first | (obtain ⟨ps, _, rfl⟩ := h2; rfl) | cases h2
    | _ => simp only [toPy, Option.some.injEq] at h2 <;> first | (subst h2; rfl) | cases h2
  | .int b, y, p, q, h1, h2 => by
    simp only [toPy, Option.some.injEq] at h1; subst h1
    cases y with
    | nd o k ds => cases k <;> simp only [toPy, Option.map_eq_some_iff] at h2 <;> first | (obtain ⟨ps, _, rfl⟩ := h2; rfl) | cases h2
    | _ => simp only [toPy, Option.some.injEq] at h2 <;> first | (subst h2; rfl) | cases h2
  | .str b, y, p, q, h1, h2 => by
    simp only [toPy, Option.some.injEq] at h1; subst h1
    cases y with
    | nd o k ds => cases k <;> simp only [toPy, Option.map_eq_some_iff] at h2 <;> first | (obtain ⟨ps, _, rfl⟩ := h2; rfl) | cases h2
    | _ => simp only [toPy, Option.some.injEq] at h2 <;> first | (subst h2; rfl) | cases h2
  | .nd o .tup xs, y, p, q, h1, h2 => by
    simp only [toPy, Option.map_eq_some_iff] at h1
    obtain ⟨ps, h1, rfl⟩ := h1
    cases y with
    | nd o k ds =>
      cases k with
      | tup =>
        simp only [toPy, Option.map_eq_some_iff] at h2
        obtain ⟨qs, h2, rfl⟩ := h2
        simp only [PyData.eqv, eqv]
        exact eqvL_py h1 h2
      | _ => simp only [toPy, Option.map_eq_some_iff] at h2 <;> first | (obtain ⟨ps, _, rfl⟩ := h2; simp [PyData.eqv, eqv]) | cases h2
    | _ => simp only [toPy, Option.some.injEq] at h2 <;> first | (subst h2; simp [PyData.eqv, eqv]) | cases h2
  | .nd o .lst xs, y, p, q, h1, h2 => by
    simp only [toPy, Option.map_eq_some_iff] at h1
    obtain ⟨ps, h1, rfl⟩ := h1
    cases y with
    | nd o k ds =>
      cases k with
      | tup => simp only [toPy, Option.map_eq_some_iff] at h2; obtain ⟨ps, _, rfl⟩ := h2; simp [PyData.eqv, eqv]
      | ins c ns => simp [toPy] at h2
      | exc c ns => simp [toPy] at h2
      | lst =>
        simp only [toPy, Option.map_eq_some_iff] at h2
        obtain ⟨qs, h2, rfl⟩ := h2
        simp only [PyData.eqv, eqv]
        exact eqvL_py h1 h2
      | scr =>
        simp only [toPy, Option.map_eq_some_iff] at h2
        obtain ⟨qs, h2, rfl⟩ := h2
        simp only [PyData.eqv, eqv]
        exact eqvL_py h1 h2
    | _ => simp only [toPy, Option.some.injEq] at h2 <;> first | (subst h2; simp [PyData.eqv, eqv]) | cases h2
  | .nd o .scr xs, y, p, q, h1, h2 => by
    simp only [toPy, Option.map_eq_some_iff] at h1
    obtain ⟨ps, h1, rfl⟩ := h1
    cases y with
    | nd o k ds =>
      cases k with
      | tup => simp only [toPy, Option.map_eq_some_iff] at h2; obtain ⟨ps, _, rfl⟩ := h2; simp [PyData.eqv, eqv]
      | ins c ns => simp [toPy] at h2
      | exc c ns => simp [toPy] at h2
      | lst =>
        simp only [toPy, Option.map_eq_some_iff] at h2
        obtain ⟨qs, h2, rfl⟩ := h2
        simp only [PyData.eqv, eqv]
        exact eqvL_py h1 h2
      | scr =>
        simp only [toPy, Option.map_eq_some_iff] at h2
        obtain ⟨qs, h2, rfl⟩ := h2
        simp only [PyData.eqv, eqv]
        exact eqvL_py h1 h2
    | _ => simp only [toPy, Option.some.injEq] at h2 <;> first | (subst h2; simp [PyData.eqv, eqv]) | cases h2
theorem eqvL_py : ∀ {xs ys : List D} {ps qs : List PyData}, toPyL xs = some ps → toPyL ys = some qs → PyData.eqvAll ps qs = eqvL xs ys
  | [], [], ps, qs, h1, h2 => by
    simp only [toPyL, Option.some.injEq] at h1 h2; subst h1 h2; simp [PyData.eqvAll, eqvL]
  | [], y :: ys, ps, qs, h1, h2 => by
    simp only [toPyL, Option.some.injEq] at h1; subst h1
    simp only [toPyL] at h2
    cases g1 : toPy y with
    | none => rw [g1] at h2; cases h2
    | some a =>
      cases g2 : toPyL ys with
      | none => rw [g1, g2] at h2; cases h2
      | some b => rw [g1, g2] at h2; cases h2; simp [PyData.eqvAll, eqvL]
  | x :: xs, [], ps, qs, h1, h2 => by
    simp only [toPyL, Option.some.injEq] at h2; subst h2
    simp only [toPyL] at h1
    cases g1 : toPy x with
    | none => rw [g1] at h1; cases h1
    | some a =>
      cases g2 : toPyL xs with
      | none => rw [g1, g2] at h1; cases h1
      | some b => rw [g1, g2] at h1; cases h1; simp [PyData.eqvAll, eqvL]
  | x :: xs, y :: ys, ps, qs, h1, h2 => by
    simp only [toPyL] at h1 h2
    cases g1 : toPy x with
    | none => rw [g1] at h1; cases h1
    | some a =>
      cases g2 : toPyL xs with
      | none => rw [g1, g2] at h1; cases h1
      | some b =>
        cases g3 : toPy y with
        | none => rw [g3] at h2; cases h2
        | some c =>
          cases g4 : toPyL ys with
          | none => rw [g3, g4] at h2; cases h2
          | some d =>
            rw [g1, g2] at h1; rw [g3, g4] at h2
            cases h1; cases h2
            simp only [PyData.eqvAll, eqvL, eqv_py g1 g3, eqvL_py g2 g4]
end
def opEq (x y : D) : Option D := if cmpOk 20 x = true ∧ cmpOk 20 y = true then some (.bl (eqv x y)) else none
def opNe (x y : D) : Option D := if cmpOk 20 x = true ∧ cmpOk 20 y = true then some (.bl (!eqv x y)) else none
section
variable {X : Cx} {W : WX}
theorem os_eq : OpS X (rEqD X.K) opEq := by
  intro B F H σ ρ v u x y z Q s a b e q hx hy
  unfold opEq at e
  split at e
  · rename_i h
    cases e
    obtain ⟨p, h1, h2, h3⟩ := toPy_of h.1
    obtain ⟨p', g1, g2, g3⟩ := toPy_of h.2
    refine ⟨p, p', a.toDp s.ex rfl h1, b.toDp s.ex rfl g1, shaped_of h2 h3 (by decide), shaped_of g2 g3 (by decide), ?_⟩
    rw [eqv_py h1 g1]
    exact q _ F H (.refl F) (s.add (.bl _))
  · cases e
theorem os_ne : OpS X (rNeD X.K) opNe := by
  intro B F H σ ρ v u x y z Q s a b e q hx hy
  unfold opNe at e
  split at e
  · rename_i h
    cases e
    obtain ⟨p, h1, h2, h3⟩ := toPy_of h.1
    obtain ⟨p', g1, g2, g3⟩ := toPy_of h.2
    refine ⟨p, p', a.toDp s.ex rfl h1, b.toDp s.ex rfl g1, shaped_of h2 h3 (by decide), shaped_of g2 g3 (by decide), ?_⟩
    rw [eqv_py h1 g1]
    exact q _ F H (.refl F) (s.add (.bl _))
  · cases e
def opLt : D → D → Option D
  | .int i, .int j => some (.bl (decide (i < j)))
  | _, _ => none
def opLe : D → D → Option D
  | .int i, .int j => some (.bl (decide (i ≤ j)))
  | _, _ => none
def opGt : D → D → Option D
  | .int i, .int j => some (.bl (decide (j < i)))
  | _, _ => none
def opGe : D → D → Option D
  | .int i, .int j => some (.bl (decide (j ≤ i)))
  | _, _ => none
theorem os_lt : OpS X (rI0 fun i j => .bl (decide (i < j))) opLt := by
  intro B F H σ ρ v u x y z Q s a b e q hx hy
  unfold opLt at e
  split at e
  · cases e; exact ⟨_, _, a.int_inv, b.int_inv, q _ F H (.refl F) (s.add (.bl _))⟩
  · cases e
theorem os_le : OpS X (rI0 fun i j => .bl (decide (i ≤ j))) opLe := by
  intro B F H σ ρ v u x y z Q s a b e q hx hy
  unfold opLe at e
  split at e
  · cases e; exact ⟨_, _, a.int_inv, b.int_inv, q _ F H (.refl F) (s.add (.bl _))⟩
  · cases e
theorem os_gt : OpS X (rI0 fun i j => .bl (decide (j < i))) opGt := by
  intro B F H σ ρ v u x y z Q s a b e q hx hy
  unfold opGt at e
  split at e
  · cases e; exact ⟨_, _, a.int_inv, b.int_inv, q _ F H (.refl F) (s.add (.bl _))⟩
  · cases e
theorem os_ge : OpS X (rI0 fun i j => .bl (decide (j ≤ i))) opGe := by
  intro B F H σ ρ v u x y z Q s a b e q hx hy
  unfold opGe at e
  split at e
  · cases e; exact ⟨_, _, a.int_inv, b.int_inv, q _ F H (.refl F) (s.add (.bl _))⟩
  · cases e
end
end DL

/-! DL5: what only reads (by views), slices, built-ins, tests. -/
namespace DL
open PySem L2

/-! ### views: a shared value, or an owned one that is only read -/
def View (K : PySem.W.Frag) (mg : Str → Option Value) (F H : Hp) (v : V) (d : D) : Prop :=
  Own K mg F H v d [] ∨ (∃ a k vs ds, d = .nd true k ds ∧ v = .ref a ∧ ObjIs K mg H a k vs ∧ OwnL K mg F H vs ds []) ∨
    ∃ a o vs ks ds, d = .dc true ks ds ∧ v = .ref a ∧ H a = some o ∧ DObj o ks vs ∧ OwnL K mg F H vs ds []
section
variable {K : PySem.W.Frag} {mg : Str → Option Value} {F H : Hp} {v : V}
theorem View.nd {o : Bool} {k : Kd} {ds : List D} (eF : Exx F H) (h : View K mg F H v (.nd o k ds)) : ∃ a vs, v = .ref a ∧ ObjIs K mg H a k vs ∧ OwnL K mg F H vs ds [] := by
  rcases h with h | ⟨a, k', vs, ds', e, rfl, h1, h2⟩ | ⟨_, _, _, _, _, e, _⟩
  · obtain ⟨_, a, vs, rfl, h1, h2⟩ := h.nd_inv
    exact ⟨a, vs, rfl, h1.mono eF, h2⟩
  · cases e; exact ⟨a, vs, rfl, h1, h2⟩
  · cases e
theorem View.str_inv {x : Str} (h : View K mg F H v (.str x)) : v = .str x := by
  rcases h with h | ⟨_, _, _, _, e, _⟩ | ⟨_, _, _, _, _, e, _⟩
  · exact h.str_inv
  · cases e
  · cases e
theorem View.own {d : D} (h : View K mg F H v d) (hs : shd d = true) : Own K mg F H v d [] := by
  rcases h with h | ⟨_, _, _, _, rfl, _⟩ | ⟨_, _, _, _, _, rfl, _⟩
  · exact h
  · simp [shd] at hs
  · simp [shd] at hs
end
/-- the parts of an owned value, shared themselves -/
def flatOwned : D → Bool
  | .nd _ _ ds => shdL ds
  | .dc _ _ ds => shdL ds
  | d => shd d
theorem Own.view {K : PySem.W.Frag} {mg : Str → Option Value} {F H : Hp} {v : V} {d : D} {f : List Addr} (h : Own K mg F H v d f) (hf : flatOwned d = true) : View K mg F H v d := by
  cases h with
  | non => exact .inl .non
  | bl b => exact .inl (.bl b)
  | int b => exact .inl (.int b)
  | str b => exact .inl (.str b)
  | sh h1 h2 => exact .inl (.sh h1 h2)
  | shD h0 h1 h2 => exact .inl (.shD h0 h1 h2)
  | ow h1 h2 h3 t =>
    have := OwnL.shd_nil t hf
    subst this
    exact .inr (.inl ⟨_, _, _, _, rfl, rfl, ObjIs.of_oobj h2 h3, t⟩)
  | owD h1 h2 h3 t =>
    have := OwnL.shd_nil t hf
    subst this
    exact .inr (.inr ⟨_, _, _, _, _, rfl, rfl, h2, h3, t⟩)
/-- f reads: nothing changes, the answer is shared -/
def OpV (X : Cx) (r : R2) (op : D → D → Option D) : Prop := ∀ {F H : Hp} {v u : V} {x y z : D} {Q : VK}, Exx F H → View X.K X.mg F H v x → View X.K X.mg F H u y → op x y = some z →
  (∀ w, Own X.K X.mg F H w z [] → Q w H) → flatOwned x = true → flatOwned y = true → r v u H Q
def UnV (X : Cx) (r : V → Hp → VK → Prop) (op : D → Option D) : Prop := ∀ {F H : Hp} {v : V} {x z : D} {Q : VK}, Exx F H → View X.K X.mg F H v x → op x = some z →
  (∀ w, Own X.K X.mg F H w z [] → Q w H) → flatOwned x = true → r v H Q
theorem flat_shd : ∀ {d : D}, shd d = true → flatOwned d = true
  | .un, h => h
  | .non, h => h
  | .bl _, h => h
  | .int _, h => h
  | .str _, h => h
  | .nd o k ds, h => by simp only [shd, Bool.and_eq_true] at h; exact h.2
  | .dc o k ds, h => by simp only [shd, Bool.and_eq_true] at h; exact h.2
theorem OpV.s {X : Cx} {r : R2} {op : D → D → Option D} (h : OpV X r op) : OpS X r op := by
  intro B F H σ ρ v u x y z Q s a b e q hx hy
  exact h s.ex (.inl a) (.inl b) e (fun w o => q w F H (.refl F) (s.add o)) (flat_shd hx) (flat_shd hy)
theorem UnV.s {X : Cx} {r : V → Hp → VK → Prop} {op : D → Option D} (h : UnV X r op) : UnS X r op := by
  intro B F H σ ρ v x z Q s a e q hx
  exact h s.ex (.inl a) e (fun w o => q w F H (.refl F) (s.add o)) (flat_shd hx)
section
variable {X : Cx} {W : WX} {σ : L2.St} {H : Hp}
/-- what a slot holds, read as it is -/
theorem Sta.view {K : PySem.W.Frag} {mg : Str → Option Value} {B F H : Hp} {σ : L2.St} {ρ : List D} {i : Nat} {d : D} (s : Sta K mg B F H σ ρ) (h : ρ[i]? = some d) (hw : whole d = true) (hf : flatOwned d = true) : ∃ v, σ[i]? = some (some v) ∧ View K mg F H v d := by
  obtain ⟨v, hv, s1⟩ := s.take h (whole_ne hw)
  obtain ⟨f, r⟩ := s1.head (by rintro rfl; simp [whole] at hw)
  exact ⟨v, hv, r.view hf⟩
/-- op of what the slot i holds (only read) and b -/
def d2L (op : D → D → Option D) (i : Nat) (b : M D) : M D := fun ρ0 => match ρ0[i]? with
  | some d0 => if whole d0 = true then (bnd b fun y ρ => match ρ[i]? with
    | some d => if whole d = true ∧ flatOwned d = true ∧ whole y = true then (match op d (frz y) with | some z => some (.ok z ρ) | none => none) else none
    | none => none) ρ0 else none
  | none => none
def d2R (op : D → D → Option D) (a : M D) (i : Nat) : M D := bnd a fun x ρ => match ρ[i]? with
  | some d => if whole d = true ∧ flatOwned d = true ∧ whole x = true then (match op (frz x) d with | some z => some (.ok z ρ) | none => none) else none
  | none => none
def d1L (op : D → Option D) (i : Nat) : M D := fun ρ => match ρ[i]? with
  | some d => if whole d = true ∧ flatOwned d = true then (match op d with | some z => some (.ok z ρ) | none => none) else none
  | none => none
theorem d1L_ok {r : V → Hp → VK → Prop} {op : D → Option D} {i : Nat} {Q : VK} (hr : UnV X r op) (h : den X W (d1L op i) σ H Q) : tUn r (tVar i) σ H Q := by
  obtain ⟨B, F, ρ, o, s, e, p⟩ := h
  unfold d1L at e
  cases hi : ρ[i]? with
  | none => rw [hi] at e; cases e
  | some d =>
    rw [hi] at e
    simp only at e
    split at e
    · rename_i hh
      obtain ⟨v, hv, vw⟩ := s.view hi hh.1 hh.2
      cases ho : op d with
      | none => rw [ho] at e; cases e
      | some z =>
        rw [ho] at e
        cases e
        exact ⟨v, hv, hr s.ex vw ho (fun w ow => p w F H (.refl F) (s.add ow)) hh.2⟩
    · cases e
theorem d2L_ok {r : R2} {op : D → D → Option D} {i : Nat} {b : M D} {Q : VK} (hr : OpV X r op) (h : den X W (d2L op i b) σ H Q) : tOp r (tVar i) (den X W b) σ H Q := by
  obtain ⟨B, F, ρ, o, s, e, p⟩ := h
  unfold d2L at e
  cases hi : ρ[i]? with
  | none => rw [hi] at e; cases e
  | some d0 =>
    rw [hi] at e
    simp only at e
    split at e
    · rename_i hw
      obtain ⟨v, hv, _⟩ := s.take hi (whole_ne hw)
      refine ⟨v, hv, den_weak ?_ (den_bnd (Post := fun B F o => PostE X W σ B F Q o) postE_X postE_m s e p)⟩
      intro u H1 ⟨B, F, ρ, o, y, s, e, p⟩
      dsimp only at e
      cases hi : ρ[i]? with
      | none => rw [hi] at e; cases e
      | some d =>
        rw [hi] at e
        simp only at e
        split at e
        · rename_i hh
          cases ho : op d (frz y) with
          | none => rw [ho] at e; cases e
          | some z =>
            rw [ho] at e
            cases e
            obtain ⟨F', eF, s2, r2⟩ := s.share hh.2.2
            obtain ⟨v', hv', vw⟩ := s2.view hi hh.1 hh.2.1
            rw [hv] at hv'
            cases hv'
            exact hr s2.ex vw (.inl r2) ho (fun w ow => p w F' H1 eF (s2.add ow)) hh.2.1 (flat_shd (shd_frz hh.2.2))
        · cases e
    · cases e
theorem d2R_ok {r : R2} {op : D → D → Option D} {i : Nat} {a : M D} {Q : VK} (hr : OpV X r op) (h : den X W (d2R op a i) σ H Q) : tOp r (den X W a) (tVar i) σ H Q := by
  obtain ⟨B, F, ρ, o, s, e, p⟩ := h
  refine den_weak ?_ (den_bnd (Post := fun B F o => PostE X W σ B F Q o) postE_X postE_m s e p)
  intro u H1 ⟨B, F, ρ, o, y, s, e, p⟩
  dsimp only at e
  cases hi : ρ[i]? with
  | none => rw [hi] at e; cases e
  | some d =>
    rw [hi] at e
    simp only at e
    split at e
    · rename_i hh
      cases ho : op (frz y) d with
      | none => rw [ho] at e; cases e
      | some z =>
        rw [ho] at e
        cases e
        obtain ⟨F', eF, s2, r2⟩ := s.share hh.2.2
        obtain ⟨v', hv', vw⟩ := s2.view hi hh.1 hh.2.1
        exact ⟨v', hv', hr s2.ex (.inl r2) vw ho (fun w ow => p w F' H1 eF (s2.add ow)) (flat_shd (shd_frz hh.2.2)) hh.2.1⟩
    · cases e
theorem de_var' {i : Nat} {x : Str} {pos : Pos} (hN : X.N[i]? = some x := by rfl) (hv : Vis X.env.scope x := by first | exact Or.inl rfl | exact Or.inr (Or.inl rfl) | exact Or.inr (Or.inr rfl)) (hd : (x == ("__debug__" : Str)) = false := by decide)
    (hcd : (x == ("__classdict__" : Str)) = false := by decide) : PE X (.Name x pos) (tVar i) := pe_var hN hv hd hcd
variable {x : Str} {p pos : Pos} {e : Expr}
theorem de_ixL {r : R2} {f : D → D → Option D} {i : Nat} {b : Expr} {mb : M D} (ho : IxR X r) (hf : OpV X r f) (ha : PE X (.Name x p) (tVar i)) (hb : DE X W b mb) (hs : PlainIx b) : DE X W (.Subscript (.Name x p) b pos) (d2L f i mb) :=
  PE_imp (pe_ix ho ha hb hs) fun _ _ _ h => d2L_ok hf h
theorem de_cmpR {op : CmpOp} {r : R2} {f : D → D → Option D} {i : Nat} {a : Expr} {ma : M D} (ho : OpR X (compareOp op) r) (hf : OpV X r f) (ha : DE X W a ma) (hb : PE X (.Name x p) (tVar i)) (hm : behindInMarks op (.Name x p) = false) : DE X W (.Compare a [op] [.Name x p] pos) (d2R f ma i) :=
  PE_imp (pe_cmpR ho ha hb hm) fun _ _ _ h => d2R_ok hf h

/-! ### subscripts -/
def opIx : D → D → Option D
  | .nd _ .lst ds, .int i => atI ds i
  | .nd _ .tup ds, .int i => atI ds i
  | .nd _ .scr ds, .int i => atI ds i
  | .str x, .int i => if x.length ≤ 100000 then (atI x.cps.toList i).map fun c => .str ⟨#[c]⟩ else none
  | _, _ => none
theorem shdL_get : ∀ {ds : List D} {j : Nat} {z : D}, shdL ds = true → ds[j]? = some z → shd z = true
  | [], j, z, _, e => by simp at e
  | d :: ds, 0, z, h, e => by
    simp only [shdL, Bool.and_eq_true] at h
    simp at e; rw [← e]; exact h.1
  | d :: ds, j + 1, z, h, e => by
    simp only [shdL, Bool.and_eq_true] at h
    exact shdL_get h.2 (by simpa using e)
theorem atI_own {K : PySem.W.Frag} {mg : Str → Option Value} {F H : Hp} {vs : List V} {ds : List D} {i : Int} {z : D} (l : OwnL K mg F H vs ds []) (hs : shdL ds = true) (e : atI ds i = some z) : ∃ w, atI vs i = some w ∧ Own K mg F H w z [] := by
  unfold atI at e ⊢
  rw [l.len]
  cases hj : ixN ds.length i with
  | none => rw [hj] at e; cases e
  | some j =>
    rw [hj] at e
    simp only [Option.bind_some] at e ⊢
    have hz : shd z = true := shdL_get hs e
    exact l.get e (by rintro rfl; simp [shd] at hz)
theorem ov_ix : OpV X (rIx X.K) opIx := by
  intro F H v u x y z Q eF a b e q hx hy
  have hz := szl
  unfold opIx at e
  split at e
  · obtain ⟨p, vs, rfl, h1, h2⟩ := a.nd eF
    obtain ⟨w, hw, ow⟩ := atI_own h2 hx e
    exact .inl ⟨p, vs, _, w, rfl, (b.own rfl).int_inv, SqL.of h1, hw, q w ow⟩
  · obtain ⟨p, vs, rfl, h1, h2⟩ := a.nd eF
    obtain ⟨w, hw, ow⟩ := atI_own h2 hx e
    exact .inr (.inl ⟨p, vs, _, w, rfl, (b.own rfl).int_inv, h1, hw, q w ow⟩)
  · obtain ⟨p, vs, rfl, h1, h2⟩ := a.nd eF
    obtain ⟨w, hw, ow⟩ := atI_own h2 hx e
    exact .inl ⟨p, vs, _, w, rfl, (b.own rfl).int_inv, h1, hw, q w ow⟩
  · split at e
    · rename_i hl
      rw [Option.map_eq_some_iff] at e
      obtain ⟨c, hc, rfl⟩ := e
      exact .inr (.inr ⟨_, _, c, a.str_inv, (b.own rfl).int_inv, by omega, hc, q _ (.str _)⟩)
    · cases e
  · cases e

/-! ### in, not in -/
def flatD : D → Bool
  | .non => true
  | .bl _ => true
  | .int _ => true
  | .str _ => true
  | _ => false
def dV : D → V
  | .non => .non
  | .bl b => .bl b
  | .int i => .int i
  | .str x => .str x
  | _ => .non
theorem Own.flat {K : PySem.W.Frag} {mg : Str → Option Value} {F H : Hp} {v : V} {d : D} {f : List Addr} (h : Own K mg F H v d f) (hf : flatD d = true) : v = dV d ∧ flatV v = true := by
  cases h <;> first | exact ⟨rfl, rfl⟩ | (simp [flatD] at hf)
theorem OwnL.flat {K : PySem.W.Frag} {mg : Str → Option Value} {F H : Hp} : ∀ {vs : List V} {ds : List D} {f : List Addr}, OwnL K mg F H vs ds f → ds.all flatD = true → vs = ds.map dV ∧ vs.all flatV = true
  | _, _, _, .nil, _ => ⟨rfl, rfl⟩
  | _, _, _, .un _, h => by simp [flatD] at h
  | _, _, _, .cons r t, h => by
    rw [List.all_cons, Bool.and_eq_true] at h
    obtain ⟨h1, h2⟩ := r.flat h.1
    obtain ⟨h3, h4⟩ := OwnL.flat t h.2
    exact ⟨by rw [h1, h3]; rfl, by rw [List.all_cons, h2, h4]; rfl⟩
theorem eqV_dV : ∀ {a b : D}, flatD a = true → flatD b = true → eqV (dV a) (dV b) = eqv a b := by
  intro a b ha hb
  cases a <;> first | (simp [flatD] at ha; done) | (cases b <;> first | (simp [flatD] at hb; done) | rfl | (simp [dV, eqV, eqv]))
theorem inV_dV {x : D} (hx : flatD x = true) : ∀ {ds : List D}, ds.all flatD = true → inV (dV x) (ds.map dV) = ds.any fun z => eqv z x
  | [], _ => rfl
  | d :: ds, h => by
    rw [List.all_cons, Bool.and_eq_true] at h
    have ih := inV_dV (x := x) hx h.2
    unfold inV at ih ⊢
    rw [List.map_cons, List.any_cons, List.any_cons, eqV_dV h.1 hx, ih]
/-- is x among the items; one sign in a text -/
def inD (x : D) : D → Option Bool
  | .nd _ .lst ds => if (flatD x = true ∧ ds.all flatD = true) ∨ (cmpOk 20 x = true ∧ cmpOkL 20 ds = true) then some (ds.any fun z => eqv z x) else none
  | .nd _ .scr ds => if (flatD x = true ∧ ds.all flatD = true) ∨ (cmpOk 20 x = true ∧ cmpOkL 20 ds = true) then some (ds.any fun z => eqv z x) else none
  | .nd _ .tup ds => if flatD x = true ∧ ds.all flatD = true then some (ds.any fun z => eqv z x) else none
  | .str z => match x with
    | .str w => match w.cps.toList with
      | [c] => some (decide (c ∈ z.cps.toList))
      | _ => none
    | _ => none
  | _ => none
def opIn (x y : D) : Option D := (inD x y).map .bl
def opNotIn (x y : D) : Option D := (inD x y).map fun b => .bl (!b)
def rInA (K : PySem.W.Frag) (neg : Bool) : R2 := fun x y H Q => (rIn K neg x y H Q ∨ (if neg then rNotInD K x y H Q else rInD K x y H Q)) ∨ (∃ (c : Nat) (z : Str), x = .str ⟨#[c]⟩ ∧ y = .str z ∧ Q (.bl (if neg then !decide (c ∈ z.cps.toList) else decide (c ∈ z.cps.toList))) H)
theorem op_inA (hu : X.A.units + 65 < cLine) : OpR X (compareOp .In) (rInA X.K false) := (op_in_seq.or (op_inD hu)).or op_in_sign
theorem op_notInA (hu : X.A.units + 65 < cLine) : OpR X (compareOp .NotIn) (rInA X.K true) := (op_notIn_seq.or (op_notInD hu)).or op_notIn_sign
theorem any_py {x : D} {p : PyData} (hx : toPy x = some p) : ∀ {ds : List D} {ps : List PyData}, toPyL ds = some ps → (ps.any fun z => PyData.eqv z p) = ds.any fun z => eqv z x
  | [], ps, h => by simp only [toPyL, Option.some.injEq] at h; subst h; rfl
  | d :: ds, ps, h => by
    simp only [toPyL] at h
    cases h1 : toPy d with
    | none => rw [h1] at h; cases h
    | some q =>
      cases h2 : toPyL ds with
      | none => rw [h1, h2] at h; cases h
      | some qs =>
        rw [h1, h2] at h
        cases h
        rw [List.any_cons, List.any_cons, eqv_py h1 hx, any_py hx h2]
theorem View.dpList {F H : Hp} {v : V} {o : Bool} {k : Kd} {ds : List D} {ps : List PyData} (eF : Exx F H) (h : View X.K X.mg F H v (.nd o k ds)) (hk : k = .lst ∨ k = .scr) (hp : toPyL ds = some ps) : Dp X.K H v (.list ps) := by
  obtain ⟨a, vs, rfl, h1, h2⟩ := h.nd eF
  have h3 := OwnL.toDp eF h2 rfl hp
  rcases hk with rfl | rfl
  · exact .lst (SqL.of h1) h3
  · exact .lst h1 h3
theorem in_core {neg : Bool} {F H : Hp} {v u : V} {x y : D} {b : Bool} {Q : VK} (eF : Exx F H) (a : View X.K X.mg F H v x) (c : View X.K X.mg F H u y) (e : inD x y = some b) (q : ∀ w, Own X.K X.mg F H w (.bl (if neg then !b else b)) [] → Q w H)
    (hx : flatOwned x = true) (hy : flatOwned y = true) : rInA X.K neg v u H Q := by
  have q' := q (.bl (if neg then !b else b)) (.bl _)
  have seq : ∀ {o : Bool} {k : Kd} {ds : List D} {ps : List V} {ad : Addr}, View X.K X.mg F H u (.nd o k ds) → (∃ p vs, u = .ref p ∧ (SqL X.K H p vs ∨ SqT X.K H p vs) ∧ OwnL X.K X.mg F H vs ds []) → flatD x = true → ds.all flatD = true → b = (ds.any fun z => eqv z x) → rInA X.K neg v u H Q := by
    intro o k ds ps ad _ ⟨p, vs, hu, hs, ol⟩ fx fd hb
    obtain ⟨h1, h2⟩ := (a.own (by cases x <;> simp_all [shd, flatD])).flat fx
    obtain ⟨h3, h4⟩ := ol.flat fd
    refine .inl (.inl ⟨p, vs, hu, hs, h2, h4, ?_⟩)
    have hi : inV v vs = b := by rw [h1, h3, inV_dV fx fd, hb]
    rw [hi]
    exact q'
  have deep : ∀ {o : Bool} {k : Kd} {ds : List D}, View X.K X.mg F H u (.nd o k ds) → k = .lst ∨ k = .scr → cmpOk 20 x = true → cmpOkL 20 ds = true → b = (ds.any fun z => eqv z x) → rInA X.K neg v u H Q := by
    intro o k ds c' hk cx cd hb
    obtain ⟨p, h1, h2, h3⟩ := toPy_of cx
    obtain ⟨ps, g1, g2, g3⟩ := toPyL_of cd
    have dx : Dp X.K H v p := by
      rcases a with a | ⟨a', k', vs', ds', rfl, rfl, o1, l1⟩ | ⟨_, _, _, _, _, rfl, _⟩
      · exact a.toDp eF rfl h1
      · exact Own.toDp (K := X.K) (mg := X.mg) (F := H) (.refl H) (.sh o1 (l1.frame eF fun a h => by cases h)) rfl (by
          cases k' <;> first | exact h1 | (unfold toPy at h1 ⊢; exact h1))
      · simp [toPy] at h1
    have dy := c'.dpList eF hk g1
    have sh1 : SeqAt.shaped p = true := shaped_of h2 h3 (by decide)
    have sh2 : SeqAt.shaped (.list ps) = true := shaped_of (n := 21) (by simpa [PyData.canLay0] using g2) (by simp only [PyData.depth]; omega) (by decide)
    have ha : (ps.any fun z => PyData.eqv z p) = b := by rw [any_py h1 g1, hb]
    refine .inl (.inr ?_)
    cases neg with
    | true => exact ⟨p, ps, dx, dy, sh1, sh2, by rw [ha]; exact q'⟩
    | false => exact ⟨p, ps, dx, dy, sh1, sh2, by rw [ha]; exact q'⟩
  unfold inD at e
  split at e
  · rename_i o ds
    split at e
    · rename_i h
      have hb : b = (ds.any fun z => eqv z x) := by cases e; rfl
      rcases h with h | h
      · obtain ⟨p, vs, rfl, h1, h2⟩ := c.nd eF
        exact seq (ps := []) (ad := p) c ⟨p, vs, rfl, .inl (SqL.of h1), h2⟩ h.1 h.2 hb
      · exact deep c (.inl rfl) h.1 h.2 hb
    · cases e
  · rename_i o ds
    split at e
    · rename_i h
      have hb : b = (ds.any fun z => eqv z x) := by cases e; rfl
      rcases h with h | h
      · obtain ⟨p, vs, rfl, h1, h2⟩ := c.nd eF
        exact seq (ps := []) (ad := p) c ⟨p, vs, rfl, .inl h1, h2⟩ h.1 h.2 hb
      · exact deep c (.inr rfl) h.1 h.2 hb
    · cases e
  · rename_i o ds
    split at e
    · rename_i h
      have hb : b = (ds.any fun z => eqv z x) := by cases e; rfl
      obtain ⟨p, vs, rfl, h1, h2⟩ := c.nd eF
      exact seq (ps := []) (ad := p) c ⟨p, vs, rfl, .inr h1, h2⟩ h.1 h.2 hb
    · cases e
  · split at e
    · split at e
      · rename_i w _ cc hw
        cases e
        have hw' : w = ⟨#[cc]⟩ := by
          cases w with
          | mk cps =>
            congr 1
            exact Array.ext' hw
        subst hw'
        exact .inr ⟨cc, _, a.str_inv, c.str_inv, q'⟩
      · cases e
    · cases e
  · cases e
theorem ov_in : OpV X (rInA X.K false) opIn := by
  intro F H v u x y z Q eF a b e q hx hy
  unfold opIn at e
  rw [Option.map_eq_some_iff] at e
  obtain ⟨k, e, rfl⟩ := e
  exact in_core eF a b e q hx hy
theorem ov_notIn : OpV X (rInA X.K true) opNotIn := by
  intro F H v u x y z Q eF a b e q hx hy
  unfold opNotIn at e
  rw [Option.map_eq_some_iff] at e
  obtain ⟨k, e, rfl⟩ := e
  exact in_core eF a b e q hx hy
end
end DL

/-! DL6: tests, truth, attributes, slices, built-ins. -/
namespace DL
open PySem L2
section
variable {X : Cx} {W : WX} {σ : L2.St} {H : Hp}
/-! ### tests -/
def dtB (m : M D) : M Bool := bnd m fun d => match d with | .bl b => ret b | _ => fail
theorem dtB_ok {m : M D} {Q : Bool → Hp → Prop} (h : denT X W (dtB m) σ H Q) : den X W m σ H fun x H' => ∃ k, x = .bl k ∧ Q k H' := by
  obtain ⟨B, F, ρ, o, s, e, p⟩ := h
  refine den_weak ?_ (den_bnd (Post := fun B F o => PostT X W σ B F Q o) postT_X postT_m s e p)
  intro v H1 ⟨B, F, ρ, o, x, s, e, p⟩
  cases x with
  | bl b =>
    simp only [ret, Option.some.injEq] at e
    subst e
    exact ⟨b, (s.headS rfl).bl_inv, p F H1 (.refl F) s.drop⟩
  | _ => simp [fail] at e
variable {a b c e : Expr} {pos : Pos} {rest : List Expr} {x : Str} {p : Pos} {i : Nat}
theorem dt_cmp {op : CmpOp} {r : R2} {f : D → D → Option D} {ma mb : M D} (ho : OpR X (compareOp op) r) (hf : OpS X r f) (ha : DE X W a ma) (hb : DE X W b mb) (hm : behindInMarks op b = false) : DT X W (.Compare a [op] [b] pos) (dtB (d2 f ma mb)) :=
  PT_imp (pt_cmpR ho ha hb hm) fun _ _ _ h => d2_ok hf (dtB_ok h)
theorem dt_cmpR {op : CmpOp} {r : R2} {f : D → D → Option D} {ma : M D} (ho : OpR X (compareOp op) r) (hf : OpV X r f) (ha : DE X W a ma) (hb : PE X (.Name x p) (tVar i)) (hm : behindInMarks op (.Name x p) = false) : DT X W (.Compare a [op] [.Name x p] pos) (dtB (d2R f ma i)) :=
  PT_imp (pt_cmpR ho ha hb hm) fun _ _ _ h => d2R_ok hf (dtB_ok h)
theorem dt_val {m : M D} (h : DE X W e m) (he : ∀ whole, isTrue e X.env whole = (do let v ← whole; standAt e.pos; holding [v] (truthy v)) := by intro _; rfl) : DT X W e (dtB m) := PT_imp (pt_val h he) fun _ _ _ h => dtB_ok h
/-- truth -/
def tru : D → Option Bool
  | .non => some false
  | .bl b => some b
  | .int i => some (i != 0)
  | .str x => if x.length ≤ 100000 then some (x.length != 0) else none
  | .nd _ .lst ds => some (!ds.isEmpty)
  | .nd _ .scr ds => some (!ds.isEmpty)
  | .nd _ .tup ds => some (!ds.isEmpty)
  | .dc _ ks _ => some (!ks.isEmpty)
  | _ => none
theorem OwnL.emp {K : PySem.W.Frag} {mg : Str → Option Value} {F H : Hp} {vs : List V} {ds : List D} {f : List Addr} (h : OwnL K mg F H vs ds f) : vs.isEmpty = ds.isEmpty := by cases h <;> rfl
theorem tru_view {F : Hp} {v : V} {d : D} {k : Bool} (eF : Exx F H) (h : View X.K X.mg F H v d) (e : tru d = some k) : TruV X.K v H k := by
  cases d with
  | un => cases e
  | non => cases e; rw [(h.own rfl).non_inv]; rfl
  | bl b => cases e; rw [(h.own rfl).bl_inv]; rfl
  | int b => cases e; rw [(h.own rfl).int_inv]; rfl
  | str y =>
    rw [h.str_inv]
    simp only [tru] at e
    have hz := szl
    split at e
    · cases e
      refine ⟨by omega, ?_⟩
      by_cases h0 : y.length = 0
      · rw [h0]; rfl
      · have h1 : (y.length : Int) ≠ 0 := by omega
        rw [bne_iff_ne.mpr h0, bne_iff_ne.mpr h1]
    · cases e
  | nd o k' ds =>
    obtain ⟨a, vs, rfl, h1, h2⟩ := h.nd eF
    have he := OwnL.emp h2
    cases k' with
    | lst => simp only [tru, Option.some.injEq] at e; subst e; exact .inl ⟨vs, SqL.of h1, by rw [he]⟩
    | scr => simp only [tru, Option.some.injEq] at e; subst e; exact .inl ⟨vs, h1, by rw [he]⟩
    | tup => simp only [tru, Option.some.injEq] at e; subst e; exact .inr (.inl ⟨vs, h1, by rw [he]⟩)
    | ins c ns => simp [tru] at e
    | exc c ns => simp [tru] at e
  | dc o ks ds =>
    simp only [tru, Option.some.injEq] at e
    subst e
    have : ∃ a o vs, v = .ref a ∧ H a = some o ∧ DObj o ks vs := by
      rcases h with h | ⟨_, _, _, _, e, _⟩ | ⟨a, o, vs, ks', ds', e, hv, ho, hd, _⟩
      · obtain ⟨_, a, u, vs, rfl, h0, h1, _⟩ := h.dc_inv
        exact ⟨a, u, vs, rfl, eF _ _ h0, h1⟩
      · cases e
      · cases e; exact ⟨a, o, vs, hv, ho, hd⟩
    obtain ⟨a, o, vs, rfl, ho, kk, rfl, hl, rfl⟩ := this
    refine .inr (.inr ⟨_, ho, ?_⟩)
    cases kk <;> cases vs <;> first | rfl | (simp at hl)
def dTru (m : M D) : M Bool := bnd m fun d => if whole d = true then lft (tru (frz d)) else fail
theorem dt_tru {m : M D} (ha : DE X W a m) (he : ∀ whole, isTrue a X.env whole = (do let v ← whole; standAt a.pos; holding [v] (truthy v)) := by intro _; rfl) : DT X W a (dTru m) := PT_imp (pt_truth ha he) fun σ H Q h => by
  obtain ⟨B, F, ρ, o, s, e, p⟩ := h
  refine den_weak ?_ (den_bnd (Post := fun B F o => PostT X W σ B F Q o) postT_X postT_m s e p)
  intro v H1 ⟨B, F, ρ, o, x, s, e, p⟩
  dsimp only at e
  split at e
  · rename_i hw
    obtain ⟨F', eF, s2, r2⟩ := s.share hw
    unfold lft at e
    cases ht : tru (frz x) with
    | none => rw [ht] at e; cases e
    | some k =>
      rw [ht] at e
      cases e
      exact ⟨k, tru_view s2.ex (.inl r2) ht, p F' H1 eF s2⟩
  · cases e
/-- the truth of what a slot holds, which is left as it is -/
def dTruL (i : Nat) : M Bool := fun ρ => match ρ[i]? with
  | some d => if whole d = true ∧ flatOwned d = true then (match tru d with | some k => some (.ok k ρ) | none => none) else none
  | none => none
theorem dt_truL (ha : PE X (.Name x p) (tVar i)) (he : ∀ whole, isTrue (.Name x p) X.env whole = (do let v ← whole; standAt (Expr.Name x p).pos; holding [v] (truthy v)) := by intro _; rfl) : DT X W (.Name x p) (dTruL i) := PT_imp (pt_truth ha he) fun σ H Q h => by
  obtain ⟨B, F, ρ, o, s, e, p⟩ := h
  unfold dTruL at e
  cases hi : ρ[i]? with
  | none => rw [hi] at e; cases e
  | some d =>
    rw [hi] at e
    simp only at e
    split at e
    · rename_i hh
      obtain ⟨v, hv, vw⟩ := s.view hi hh.1 hh.2
      cases ht : tru d with
      | none => rw [ht] at e; cases e
      | some k =>
        rw [ht] at e
        cases e
        exact ⟨v, hv, k, tru_view s.ex vw ht, p F H (.refl F) s⟩
    · cases e
/-! and, or, not -/
def dAnd (m n : M Bool) : M Bool := bnd m fun c => if c = true then n else ret false
def dOr (m n : M Bool) : M Bool := bnd m fun c => if c = true then ret true else n
def dNot (m : M Bool) : M Bool := bnd m fun c => ret (!c)
theorem denT_bnd {α : Type} {Post : Hp → Hp → O α → Prop} {m : M Bool} {k : Bool → M α} {o : O α} {ρ : List D} {B F : Hp} (hX : ∀ B F x ρ', Post B F (.ex x ρ') → PostX X W σ B F x ρ') (hm : ∀ B F F' o, Exx F F' → Post B F o → Post B F' o)
    (s : Sta X.K X.mg B F H σ ρ) (h : bnd m k ρ = some o) (p : Post B F o) : denT X W m σ H fun b H1 => ∃ B F ρ o, Sta X.K X.mg B F H1 σ ρ ∧ k b ρ = some o ∧ Post B F o := by
  unfold bnd at h
  cases hmr : m ρ with
  | none => rw [hmr] at h; cases h
  | some o1 =>
    rw [hmr] at h
    cases o1 with
    | ex x ρ' =>
      simp only [Option.some.injEq] at h
      subst h
      exact ⟨B, F, ρ, _, s, hmr, hX _ _ _ _ p⟩
    | ok x ρ' =>
      exact ⟨B, F, ρ, _, s, hmr, fun F' H' eF s' => ⟨B, F', ρ', o, s', h, hm _ _ _ _ eF p⟩⟩
theorem dAnd_ok {m n : M Bool} {Q : Bool → Hp → Prop} (h : denT X W (dAnd m n) σ H Q) : tAnd (denT X W m) (denT X W n) σ H Q := by
  obtain ⟨B, F, ρ, o, s, e, p⟩ := h
  refine denT_weak ?_ (denT_bnd (Post := fun B F o => PostT X W σ B F Q o) postT_X postT_m s e p)
  intro c H1 ⟨B, F, ρ, o, s, e, p⟩
  cases c with
  | true => rw [if_pos rfl] at e ⊢; exact ⟨B, F, ρ, o, s, e, p⟩
  | false =>
    rw [if_neg Bool.false_ne_true] at e ⊢
    cases e
    exact p F H1 (.refl F) s
theorem dOr_ok {m n : M Bool} {Q : Bool → Hp → Prop} (h : denT X W (dOr m n) σ H Q) : tOr (denT X W m) (denT X W n) σ H Q := by
  obtain ⟨B, F, ρ, o, s, e, p⟩ := h
  refine denT_weak ?_ (denT_bnd (Post := fun B F o => PostT X W σ B F Q o) postT_X postT_m s e p)
  intro c H1 ⟨B, F, ρ, o, s, e, p⟩
  cases c with
  | true =>
    rw [if_pos rfl] at e ⊢
    cases e
    exact p F H1 (.refl F) s
  | false => rw [if_neg Bool.false_ne_true] at e ⊢; exact ⟨B, F, ρ, o, s, e, p⟩
theorem dNot_ok {m : M Bool} {Q : Bool → Hp → Prop} (h : denT X W (dNot m) σ H Q) : tNot (denT X W m) σ H Q := by
  obtain ⟨B, F, ρ, o, s, e, p⟩ := h
  refine denT_weak ?_ (denT_bnd (Post := fun B F o => PostT X W σ B F Q o) postT_X postT_m s e p)
  intro c H1 ⟨B, F, ρ, o, s, e, p⟩
  cases e
  exact p F H1 (.refl F) s
abbrev DW (X : Cx) (W : WX) (e : Expr) (m : M Bool) : Prop := PW X e (denT X W m)
variable {ma mb : M Bool}
theorem dw_and1 (ha : DT X W a ma) : DW X W (.BoolOp .And [a] pos) ma := pw_and1 ha
theorem dw_or1 (ha : DT X W a ma) : DW X W (.BoolOp .Or [a] pos) ma := pw_or1 ha
theorem dw_and (ha : DT X W a ma) (hb : DW X W (.BoolOp .And (b :: rest) pos) mb) : DW X W (.BoolOp .And (a :: b :: rest) pos) (dAnd ma mb) := PW_imp (pw_and ha hb) fun _ _ _ h => dAnd_ok h
theorem dw_or (ha : DT X W a ma) (hb : DW X W (.BoolOp .Or (b :: rest) pos) mb) : DW X W (.BoolOp .Or (a :: b :: rest) pos) (dOr ma mb) := PW_imp (pw_or ha hb) fun _ _ _ h => dOr_ok h
theorem dt_bool {e : Expr} (h : DW X W e ma) : DT X W e ma := h.pt
theorem dt_not (ha : DT X W a ma) : DT X W (.UnaryOp .Not a pos) (dNot ma) := PT_imp (pt_not ha) fun _ _ _ h => dNot_ok h
/-! as values, by truth -/
def dAndV (m n : M D) : M D := bnd m fun x => if whole x = true then (match tru (frz x) with | some true => n | some false => ret (frz x) | none => fail) else fail
def dOrV (m n : M D) : M D := bnd m fun x => if whole x = true then (match tru (frz x) with | some true => ret x | some false => n | none => fail) else fail
def dNotV (m : M D) : M D := bnd m fun x => if whole x = true then (match tru (frz x) with | some k => ret (.bl (!k)) | none => fail) else fail
theorem dAndV_ok {m n : M D} {Q : VK} (h : den X W (dAndV m n) σ H Q) : tAndT X.K (den X W m) (den X W n) σ H Q := by
  obtain ⟨B, F, ρ, o, s, e, p⟩ := h
  refine den_weak ?_ (den_bnd (Post := fun B F o => PostE X W σ B F Q o) postE_X postE_m s e p)
  intro v H1 ⟨B, F, ρ, o, x, s, e, p⟩
  dsimp only at e
  split at e
  · rename_i hw
    obtain ⟨F', eF, s2, r2⟩ := s.share hw
    cases ht : tru (frz x) with
    | none => rw [ht] at e; cases e
    | some k =>
      rw [ht] at e
      refine ⟨k, tru_view s2.ex (.inl r2) ht, ?_⟩
      cases k with
      | true => rw [if_pos rfl]; exact ⟨B, F', ρ, o, s2, e, PostE.mono eF p⟩
      | false => rw [if_neg Bool.false_ne_true]; cases e; exact p v F' H1 eF (s2.add r2)
  · cases e
theorem dOrV_ok {m n : M D} {Q : VK} (h : den X W (dOrV m n) σ H Q) : tOrT X.K (den X W m) (den X W n) σ H Q := by
  obtain ⟨B, F, ρ, o, s, e, p⟩ := h
  refine den_weak ?_ (den_bnd (Post := fun B F o => PostE X W σ B F Q o) postE_X postE_m s e p)
  intro v H1 ⟨B, F, ρ, o, x, s, e, p⟩
  dsimp only at e
  split at e
  · rename_i hw
    obtain ⟨F', eF, s2, r2⟩ := s.share hw
    cases ht : tru (frz x) with
    | none => rw [ht] at e; cases e
    | some k =>
      rw [ht] at e
      refine ⟨k, tru_view s2.ex (.inl r2) ht, ?_⟩
      cases k with
      | true => rw [if_pos rfl]; cases e; exact p v F H1 (.refl F) s
      | false => rw [if_neg Bool.false_ne_true]; exact ⟨B, F', ρ, o, s2, e, PostE.mono eF p⟩
  · cases e
theorem dNotV_ok {m : M D} {Q : VK} (h : den X W (dNotV m) σ H Q) : tNotT X.K (den X W m) σ H Q := by
  obtain ⟨B, F, ρ, o, s, e, p⟩ := h
  refine den_weak ?_ (den_bnd (Post := fun B F o => PostE X W σ B F Q o) postE_X postE_m s e p)
  intro v H1 ⟨B, F, ρ, o, x, s, e, p⟩
  dsimp only at e
  split at e
  · rename_i hw
    obtain ⟨F', eF, s2, r2⟩ := s.share hw
    cases ht : tru (frz x) with
    | none => rw [ht] at e; cases e
    | some k =>
      rw [ht] at e
      cases e
      exact ⟨k, tru_view s2.ex (.inl r2) ht, p _ F' H1 eF (s2.add (.bl _))⟩
  · cases e
variable {na nb : M D}
theorem de_one {op} (h : DE X W a na) : DE X W (.BoolOp op [a] pos) na := pe_one h
theorem de_and (ha : DE X W a na) (hb : DE X W (.BoolOp .And (b :: rest) pos) nb) : DE X W (.BoolOp .And (a :: b :: rest) pos) (dAndV na nb) := PE_imp (pe_andT ha hb) fun _ _ _ h => dAndV_ok h
theorem de_or (ha : DE X W a na) (hb : DE X W (.BoolOp .Or (b :: rest) pos) nb) : DE X W (.BoolOp .Or (a :: b :: rest) pos) (dOrV na nb) := PE_imp (pe_orT ha hb) fun _ _ _ h => dOrV_ok h
theorem de_not (ha : DE X W a na) : DE X W (.UnaryOp .Not a pos) (dNotV na) := PE_imp (pe_notT ha) fun _ _ _ h => dNotV_ok h
/-! a if t else b -/
def dIf {α : Type} (t : M Bool) (m n : M α) : M α := bnd t fun c => if c = true then m else n
theorem de_if (hc : DT X W c ma) (ha : DE X W a na) (hb : DE X W b nb) : DE X W (.IfExp c a b pos) (dIf ma na nb) := PE_imp (pe_ifExp hc ha hb) fun σ H Q h => by
  obtain ⟨B, F, ρ, o, s, e, p⟩ := h
  refine denT_weak ?_ (denT_bnd (Post := fun B F o => PostE X W σ B F Q o) postE_X postE_m s e p)
  intro c H1 ⟨B, F, ρ, o, s, e, p⟩
  cases c with
  | true => rw [if_pos rfl] at e ⊢; exact ⟨B, F, ρ, o, s, e, p⟩
  | false => rw [if_neg Bool.false_ne_true] at e ⊢; exact ⟨B, F, ρ, o, s, e, p⟩
/-! is None -/
def isNon : D → Bool
  | .non => true
  | _ => false
def opIs (x y : D) : Option D := match y with | .non => some (.bl (isNon x)) | _ => none
def opIsNot (x y : D) : Option D := match y with | .non => some (.bl (!isNon x)) | _ => none
theorem View.isNon {F : Hp} {v : V} {d : D} (h : View X.K X.mg F H v d) (hx : flatOwned d = true) : decide (v = .non) = isNon d := by
  rcases h with h | ⟨_, _, _, _, rfl, rfl, _⟩ | ⟨_, _, _, _, _, rfl, rfl, _⟩
  · cases h <;> simp [DL.isNon]
  · simp [DL.isNon]
  · simp [DL.isNon]
theorem ov_is : OpV X (fun x y H Q => y = .non ∧ Q (.bl (decide (x = .non))) H) opIs := by
  intro F H v u x y z Q eF a b e q hx hy
  unfold opIs at e
  split at e
  · cases e
    exact ⟨(b.own rfl).non_inv, by rw [a.isNon hx]; exact q _ (.bl _)⟩
  · cases e
theorem ov_isNot : OpV X (fun x y H Q => y = .non ∧ Q (.bl (!decide (x = .non))) H) opIsNot := by
  intro F H v u x y z Q eF a b e q hx hy
  unfold opIsNot at e
  split at e
  · cases e
    exact ⟨(b.own rfl).non_inv, by rw [a.isNon hx]; exact q _ (.bl _)⟩
  · cases e
/-! chains -/
def dChain (f g : D → D → Option D) (m n k : M D) : M D := bnd m fun x => bnd n fun y => if whole x = true ∧ whole y = true then (match f (frz x) (frz y) with
  | some (.bl true) => bnd k fun z => if whole z = true then lft (g (frz y) (frz z)) else fail
  | some (.bl false) => ret (.bl false)
  | _ => fail) else fail
theorem dChain_ok {r r' : R2} {f g : D → D → Option D} {m n k : M D} {Q : VK} (hr : OpS X r f) (hr' : OpS X r' g) (h : den X W (dChain f g m n k) σ H Q) : tChain r r' (den X W m) (den X W n) (den X W k) σ H Q := by
  obtain ⟨B, F, ρ, o, s, e, p⟩ := h
  refine den_weak (fun v H1 h1 => den_weak (fun u H2 h2 => ?_) h1) (den_bnd2 (Post := fun B F o => PostE X W σ B F Q o) postE_X postE_m s e p)
  obtain ⟨B, F, ρ, o, x, y, s, e, p⟩ := h2
  dsimp only at e
  split at e
  · rename_i hx
    obtain ⟨F1, eF1, s1, r1⟩ := s.share hx.1
    obtain ⟨F2, eF2, s2, r2⟩ := s1.share hx.2
    have sx := shd_frz hx.1
    have sy := shd_frz hx.2
    cases hf : f (frz x) (frz y) with
    | none => rw [hf] at e; cases e
    | some w =>
      rw [hf] at e
      cases w with
      | bl c =>
        refine hr s2 (r1.shared eF2) r2 hf (fun w F3 H3 e3 s3 => ?_) sx sy
        refine ⟨c, (s3.headS rfl).bl_inv, ?_⟩
        have s4 := s3.drop
        cases c with
        | true =>
          rw [if_pos rfl]
          refine den_weak ?_ (den_bnd (Post := fun B F o => Exx F3 F ∧ PostE X W σ B F Q o) (fun _ _ _ _ h => h.2) (fun _ _ _ _ e h => ⟨h.1.trans e, PostE.mono e h.2⟩) s4 e ⟨.refl _, PostE.mono ((eF1.trans eF2).trans e3) p⟩)
          intro t H4 ⟨B, F, ρ, o, z, s, e, e4, p⟩
          dsimp only at e
          split at e
          · rename_i hz
            obtain ⟨F5, eF5, s5, r5⟩ := s.share hz
            unfold lft at e
            cases hg : g (frz y) (frz z) with
            | none => rw [hg] at e; cases e
            | some q =>
              rw [hg] at e
              cases e
              exact hr' s5 (r2.shared ((e3.trans e4).trans eF5)) r5 hg (fun w F6 H6 e6 s6 => p w F6 H6 (eF5.trans e6) s6) sy (shd_frz hz)
          · cases e
        | false =>
          rw [if_neg Bool.false_ne_true]
          cases e
          exact p _ F3 H3 ((eF1.trans eF2).trans e3) (s4.add (.bl false))
      | _ => cases e
  · cases e
theorem de_chain {op op' : CmpOp} {r r' : R2} {f g : D → D → Option D} {nc : M D} (ho : OpR X (compareOp op) r) (ho' : OpR X (compareOp op') r') (hr : OpS X r f) (hr' : OpS X r' g) (ha : DE X W a na) (hb : DE X W b nb) (hc : DE X W c nc)
    (hm : lastMarks [op, op'] [b, c] = false := by with_unfolding_all rfl) : DE X W (.Compare a [op, op'] [b, c] pos) (dChain f g na nb nc) := PE_imp (pe_chain ho ho' ha hb hc hm) fun _ _ _ h => dChain_ok hr hr' h
theorem dt_chain {op op' : CmpOp} {r r' : R2} {f g : D → D → Option D} {nc : M D} (ho : OpR X (compareOp op) r) (ho' : OpR X (compareOp op') r') (hr : OpS X r f) (hr' : OpS X r' g) (ha : DE X W a na) (hb : DE X W b nb) (hc : DE X W c nc)
    (hm : lastMarks [op, op'] [b, c] = false := by with_unfolding_all rfl) : DT X W (.Compare a [op, op'] [b, c] pos) (dtB (dChain f g na nb nc)) := PT_imp (pt_chain ho ho' ha hb hc hm) fun _ _ _ h => dChain_ok hr hr' (dtB_ok h)
end
end DL

/-! DL7: slices, built-ins, targets, what is walked, comprehensions. -/
namespace DL
open PySem L2
section
variable {X : Cx} {W : WX} {σ : L2.St} {H : Hp}
/-! ### slices -/
def cutD {α : Type} (xs : List α) (lo hi : Option Int) : List α := (xs.drop (HT.sIx xs.length 0 lo)).take (HT.sIx xs.length xs.length hi - HT.sIx xs.length 0 lo)
def opSl (x : D) (lo hi : Option Int) : Option D := match x with
  | .nd _ .lst ds => some (.nd true .lst (cutD ds lo hi))
  | .nd _ .scr ds => some (.nd true .lst (cutD ds lo hi))
  | .nd _ .tup ds => some (.nd false .tup (cutD ds lo hi))
  | .str z => if z.length ≤ 100000 then some (.str ⟨(cutD z.cps.toList lo hi).toArray⟩) else none
  | _ => none
theorem OwnL.drop {K : PySem.W.Frag} {mg : Str → Option Value} {F H : Hp} : ∀ {vs : List V} {ds : List D} {f : List Addr} (n : Nat), OwnL K mg F H vs ds f → f = [] → OwnL K mg F H (vs.drop n) (ds.drop n) []
  | _, _, _, 0, h, e => by subst e; exact h
  | _, _, _, n + 1, .nil, _ => .nil
  | _, _, _, n + 1, .un t, e => OwnL.drop n t e
  | _, _, _, n + 1, .cons r t, e => OwnL.drop n t (List.append_eq_nil_iff.mp e).2
theorem OwnL.take {K : PySem.W.Frag} {mg : Str → Option Value} {F H : Hp} : ∀ {vs : List V} {ds : List D} {f : List Addr} (n : Nat), OwnL K mg F H vs ds f → f = [] → OwnL K mg F H (vs.take n) (ds.take n) []
  | _, _, _, 0, h, e => .nil
  | _, _, _, n + 1, .nil, _ => .nil
  | _, _, _, n + 1, .un t, e => .un (OwnL.take n t e)
  | _, _, _, n + 1, .cons r t, e => by
    have h := List.append_eq_nil_iff.mp e
    rw [h.1] at r
    exact OwnL.cons r (OwnL.take n t h.2)
theorem OwnL.cut {K : PySem.W.Frag} {mg : Str → Option Value} {F H : Hp} {vs : List V} {ds : List D} (h : OwnL K mg F H vs ds []) (lo hi : Option Int) : OwnL K mg F H (cutV vs lo hi) (cutD ds lo hi) [] := by
  unfold cutV cutD
  rw [h.len]
  exact OwnL.take _ (OwnL.drop _ h rfl) rfl
def rSlD (K : PySem.W.Frag) : V → Option Int → Option Int → Hp → VK → Prop := fun x lo hi H Q => rSlL K x lo hi H Q ∨ rSlA K x lo hi H Q ∨ rSlS x lo hi H Q
theorem sl_D : SlR X (rSlD X.K) := sl_list.or (sl_tupA.or sl_str)
theorem cutD_all {α : Type} {xs : List α} {lo hi : Option Int} (h : HT.sIx xs.length 0 lo = 0 ∧ HT.sIx xs.length xs.length hi = xs.length) : cutD xs lo hi = xs := by
  unfold cutD
  rw [h.1, h.2]
  simp
theorem sl_ok {B F : Hp} {ρ : List D} {v : V} {x z : D} {lo hi : Option Int} {Q : VK} (s : Sta X.K X.mg B F H σ ρ) (a : Own X.K X.mg F H v x []) (e : opSl x lo hi = some z) (q : ∀ w F' H', Exx F F' → Sta X.K X.mg B F' H' (some w :: σ) (z :: ρ) → Q w H') : rSlD X.K v lo hi H Q := by
  have hz := szl
  unfold opSl at e
  split at e
  · cases e
    obtain ⟨_, a1, vs1, rfl, o1, l1⟩ := a.nd_inv
    exact .inl ⟨a1, vs1, rfl, SqL.of (s.ex _ _ o1), fun p hp => q _ F _ (.refl F) (s.newL (l1.cut lo hi) hp)⟩
  · cases e
    obtain ⟨_, a1, vs1, rfl, o1, l1⟩ := a.nd_inv
    exact .inl ⟨a1, vs1, rfl, s.ex.sqL o1, fun p hp => q _ F _ (.refl F) (s.newL (l1.cut lo hi) hp)⟩
  · cases e
    obtain ⟨rfl, a1, vs1, rfl, o1, l1⟩ := a.nd_inv
    refine .inr (.inl ⟨a1, vs1, rfl, s.ex.sqT o1, fun h => ?_, fun _ p hp => ?_⟩)
    · rw [l1.len] at h
      rw [cutD_all h] at q
      exact q _ F H (.refl F) (s.add a)
    · obtain ⟨eF, s2⟩ := s.newT (l1.cut lo hi) hp
      exact q _ _ _ eF s2
  · split at e
    · cases e
      refine .inr (.inr ⟨_, a.str_inv, by omega, ?_⟩)
      exact q _ F H (.refl F) (s.add (.str _))
    · cases e
  · cases e
def denO (X : Cx) (W : WX) (m : M (Option Int)) : TO := fun σ H Q => ∃ B F ρ o, Sta X.K X.mg B F H σ ρ ∧ m ρ = some o ∧ match o with
  | .ok a ρ' => ∀ F' H', Exx F F' → Sta X.K X.mg B F' H' σ ρ' → Q a H'
  | .ex x ρ' => PostX X W σ B F x ρ'
def dPart (m : M D) : M (Option Int) := bnd m fun d => match d with | .int i => ret (some i) | _ => fail
def dNoPart : M (Option Int) := ret none
theorem PO_imp {e : Option Expr} {t t' : TO} (h : PO X e t) (i : ∀ σ H Q, t' σ H Q → t σ H Q) : PO X e t' := ⟨fun pins s σ H Q I q => h.run pins s σ H Q I (i σ H Q q)⟩
theorem do_none : PO X none (denO X W dNoPart) := PO_imp po_none fun σ H Q ⟨B, F, ρ, o, s, e, p⟩ => by
  cases e; exact p F H (.refl F) s
theorem do_some {e : Expr} {m : M D} (h : DE X W e m) : PO X (some e) (denO X W (dPart m)) := PO_imp (po_some h) fun σ H Q ⟨B, F, ρ, o, s, e, p⟩ => by
  refine den_weak ?_ (den_bnd (Post := fun B F o => match o with | .ok a ρ' => ∀ F' H', Exx F F' → Sta X.K X.mg B F' H' σ ρ' → Q a H' | .ex x ρ' => PostX X W σ B F x ρ') (fun _ _ _ _ h => h) (fun B F F' o eF h => by
    cases o with
    | ok a ρ' => exact fun F2 H2 e2 s2 => h F2 H2 (eF.trans e2) s2
    | ex x ρ' => exact PostX.mono eF h) s e p)
  intro v H1 ⟨B, F, ρ, o, x, s, e, p⟩
  cases x with
  | int b =>
    cases e
    exact ⟨b, (s.headS rfl).int_inv, p F H1 (.refl F) s.drop⟩
  | _ => simp [fail] at e
def dSl (a : M D) (l h : M (Option Int)) : M D := bnd a fun x => bnd l fun lo => bnd h fun hi => if whole x = true then lft (opSl (frz x) lo hi) else fail
theorem denO_weak {m : M (Option Int)} {Q Q' : Option Int → Hp → Prop} {σ : L2.St} {H : Hp} (i : ∀ v H, Q v H → Q' v H) (h : denO X W m σ H Q) : denO X W m σ H Q' := by
  obtain ⟨B, F, ρ, o, s, e, p⟩ := h
  refine ⟨B, F, ρ, o, s, e, ?_⟩
  cases o with
  | ok d ρ' => exact fun F' H' e s => i d H' (p F' H' e s)
  | ex x ρ' => exact p
/-- a part of a slice, a value set aside -/
theorem denO_bnd {α : Type} {Post : Hp → Hp → O α → Prop} {m : M (Option Int)} {k : Option Int → M α} {o : O α} {ρ : List D} {v : V} {x : D} {B F : Hp} (hX : ∀ B F x ρ', Post B F (.ex x ρ') → PostX X W σ B F x ρ') (hm : ∀ B F F' o, Exx F F' → Post B F o → Post B F' o)
    (s : Sta X.K X.mg B F H (some v :: σ) (x :: ρ)) (h : bnd m k ρ = some o) (p : Post B F o) : denO X W m σ H fun b H1 => ∃ B F ρ o, Sta X.K X.mg B F H1 (some v :: σ) (x :: ρ) ∧ k b ρ = some o ∧ Post B F o := by
  obtain ⟨B2, s2, back⟩ := s.push
  unfold bnd at h
  cases hmr : m ρ with
  | none => rw [hmr] at h; cases h
  | some o1 =>
    rw [hmr] at h
    cases o1 with
    | ex z ρ' =>
      simp only [Option.some.injEq] at h
      subst h
      exact ⟨B2, F, ρ, _, s2, hmr, fun cls dd F2 H2 e2 s3 x3 => hX _ _ _ _ p cls dd F2 H2 e2 (back F2 H2 σ ρ' e2 s3).drop x3⟩
    | ok z ρ' => exact ⟨B2, F, ρ, _, s2, hmr, fun F' H' eF s' => ⟨B, F', ρ', o, back F' H' σ ρ' eF s', h, hm _ _ _ _ eF p⟩⟩
theorem de_sl {a : Expr} {lo hi : Option Expr} {m : M D} {l h : M (Option Int)} {pos p2 : Pos} (ha : DE X W a m) (hl : PO X lo (denO X W l)) (hh : PO X hi (denO X W h)) : DE X W (.Subscript a (.Slice lo hi none p2) pos) (dSl m l h) := PE_imp (pe_slice sl_D ha hl hh) fun σ H Q ⟨B, F, ρ, o, s, e, p⟩ => by
  refine den_weak ?_ (den_bnd (Post := fun B F o => PostE X W σ B F Q o) postE_X postE_m s e p)
  intro v H1 ⟨B, F, ρ, o, x, s, e, p⟩
  refine denO_weak ?_ (denO_bnd (Post := fun B F o => PostE X W σ B F Q o) postE_X postE_m s e p)
  intro lo H2 ⟨B, F, ρ, o, s, e, p⟩
  refine denO_weak ?_ (denO_bnd (Post := fun B F o => PostE X W σ B F Q o) postE_X postE_m s e p)
  intro hi H3 ⟨B, F, ρ, o, s, e, p⟩
  split at e
  · rename_i hw
    obtain ⟨F', eF, s2, r2⟩ := s.share hw
    unfold lft at e
    cases ho : opSl (frz x) lo hi with
    | none => rw [ho] at e; cases e
    | some z =>
      rw [ho] at e
      cases e
      exact sl_ok s2 r2 ho fun w F2 H2 e2 s3 => p w F2 H2 (eF.trans e2) s3
  · cases e

/-! ### built-ins -/
/-- len -/
def lenD : D → Option Int
  | .nd _ .lst ds => some ds.length
  | .nd _ .scr ds => some ds.length
  | .nd _ .tup ds => some ds.length
  | .dc _ ks ds => some ks.length
  | .str x => if x.length ≤ 100000 then some x.length else none
  | _ => none
def rLenD (K : PySem.W.Frag) : List V → Hp → VK → Prop := fun xs H Q => (∃ p ys, xs = [.ref p] ∧ (SqL K H p ys ∨ SqT K H p ys) ∧ Q (.int ys.length) H) ∨ (∃ z, xs = [.str z] ∧ z.length ≤ sizeLine ∧ Q (.int z.length) H) ∨ (∃ d kvs, xs = [.ref d] ∧ H d = some (.dK kvs) ∧ Q (.int (kvs.length : Int)) H)
theorem len_view {F : Hp} {v : V} {x : D} {n : Int} {Q : VK} (eF : Exx F H) (h : View X.K X.mg F H v x) (e : lenD x = some n) (q : Q (.int n) H) : rLenD X.K [v] H Q := by
  have hz := szl
  unfold lenD at e
  split at e
  · cases e
    obtain ⟨a, vs, rfl, h1, h2⟩ := h.nd eF
    exact .inl ⟨a, vs, rfl, .inl (SqL.of h1), by rw [h2.len]; exact q⟩
  · cases e
    obtain ⟨a, vs, rfl, h1, h2⟩ := h.nd eF
    exact .inl ⟨a, vs, rfl, .inl h1, by rw [h2.len]; exact q⟩
  · cases e
    obtain ⟨a, vs, rfl, h1, h2⟩ := h.nd eF
    exact .inl ⟨a, vs, rfl, .inr h1, by rw [h2.len]; exact q⟩
  · cases e
    rename_i o0 ks0 ds0
    have : ∃ a o vs ks', v = .ref a ∧ H a = some o ∧ DObj o ks' vs ∧ ks'.length = ks0.length := by
      rcases h with h | ⟨_, _, _, _, e, _⟩ | ⟨a, o, vs, ks', ds', e, hv, ho, hd, _⟩
      · obtain ⟨_, a, u, vs, rfl, h0, h1, _⟩ := h.dc_inv
        exact ⟨a, u, vs, _, rfl, eF _ _ h0, h1, rfl⟩
      · cases e
      · cases e; exact ⟨a, o, vs, _, hv, ho, hd, rfl⟩
    obtain ⟨a, o, vs, ks', rfl, ho, ⟨kk, rfl, hl, rfl⟩, hlen⟩ := this
    refine .inr (.inr ⟨a, _, rfl, ho, ?_⟩)
    rw [List.length_zip, ← hl, Nat.min_self]
    rw [List.length_map] at hlen
    rw [hlen]; exact q
  · split at e
    · cases e
      exact .inr (.inl ⟨_, by rw [h.str_inv], by omega, q⟩)
    · cases e
  · cases e
theorem call_lenA : CallR X (.builtin "len") (rLenD X.K) := call_len_seq.or (call_len_str.or call_lenD)
def opLen (xs : List D) : Option D := match xs with | [x] => (lenD x).map .int | _ => none
theorem OwnL.one {K : PySem.W.Frag} {mg : Str → Option Value} {F H : Hp} {vs : List V} {x : D} (h : OwnL K mg F H vs [x] []) (hx : x ≠ .un) : ∃ v, vs = [v] ∧ Own K mg F H v x [] := by
  obtain ⟨w, h1, h2⟩ := h.get (i := 0) rfl hx
  have hl := h.len
  match vs, hl with
  | [v], _ => simp at h1; exact ⟨v, rfl, by rw [h1]; exact h2⟩
theorem OwnL.two {K : PySem.W.Frag} {mg : Str → Option Value} {F H : Hp} {vs : List V} {x y : D} (h : OwnL K mg F H vs [x, y] []) (hx : x ≠ .un) (hy : y ≠ .un) : ∃ v u, vs = [v, u] ∧ Own K mg F H v x [] ∧ Own K mg F H u y [] := by
  obtain ⟨w, h1, h2⟩ := h.get (i := 0) rfl hx
  obtain ⟨w', h3, h4⟩ := h.get (i := 1) rfl hy
  have hl := h.len
  match vs, hl with
  | [v, u], _ => simp at h1 h3; exact ⟨v, u, rfl, by rw [h1]; exact h2, by rw [h3]; exact h4⟩
theorem shd_ne {d : D} (h : shd d = true) : d ≠ .un := by rintro rfl; simp [shd] at h
theorem ca_len : CaS X (rLenD X.K) opLen := by
  intro B F H σ ρ vs xs z Q s a e q hx
  unfold opLen at e
  split at e
  · rename_i x
    simp only [shdL, Bool.and_true] at hx
    obtain ⟨v, rfl, o⟩ := a.one (shd_ne hx)
    rw [Option.map_eq_some_iff] at e
    obtain ⟨n, e, rfl⟩ := e
    exact len_view s.ex (.inl o) e (q _ F H (.refl F) (s.add (.int _)))
  · cases e
variable {x : Str} {p pos : Pos} {e : Expr} {es : List Expr} {i : Nat}
theorem de_callB {id : String} {r : List V → Hp → VK → Prop} {f : List D → Option D} {m : M (List D)} (hc : CallR X (.builtin id) r) (hf : CaS X r f) (hg : Gl X x) (hm : X.mg x = none) (hv : bootBuiltins x = some (.builtin id)) (ha : DA X W (e :: es) m) (hn : x ≠ "__name__" := by decide)
    (hdb : (x == ("__debug__" : Str)) = false := by decide) (hs : starEach (e :: es) X.env = (false, eval e X.env) :: starEach es X.env := by rfl) (hpl : (backTo pos (starEach es X.env)).any (·.1) = false := by rfl) : DE X W (.Call (.Name x p) (e :: es) [] pos) (dCa f m) :=
  PE_imp (pe_callB hc hg hm hv ha hn hdb hs hpl) fun _ _ _ h => dCa_ok hf h
theorem de_callTy {T : String} {r : List V → Hp → VK → Prop} {f : List D → Option D} {m : M (List D)} (hc : CallR X (.type T) r) (hf : CaS X r f) (hg : Gl X x) (hm : X.mg x = none) (hv : bootBuiltins x = some (.type T)) (ha : DA X W (e :: es) m) (hn : x ≠ "__name__" := by decide)
    (hdb : (x == ("__debug__" : Str)) = false := by decide) (hs : starEach (e :: es) X.env = (false, eval e X.env) :: starEach es X.env := by rfl) (hpl : (backTo pos (starEach es X.env)).any (·.1) = false := by rfl) : DE X W (.Call (.Name x p) (e :: es) [] pos) (dCa f m) :=
  PE_imp (pe_callTy hc hg hm hv ha hn hdb hs hpl) fun _ _ _ h => dCa_ok hf h
/-- len of what a slot holds -/
def dLenL (i : Nat) : M D := d1L (fun d => (lenD d).map .int) i
theorem de_lenL {y : Str} {p2 : Pos} (hg : Gl X x) (hm : X.mg x = none) (hv : bootBuiltins x = some (.builtin "len")) (ha : PE X (.Name y p2) (tVar i)) (hn : x ≠ "__name__" := by decide)
    (hdb : (x == ("__debug__" : Str)) = false := by decide) : DE X W (.Call (.Name x p) [.Name y p2] [] pos) (dLenL i) :=
  PE_imp (pe_callB call_lenA hg hm hv (pa_cons ha pa_nil) hn hdb) fun σ H Q h => by
    obtain ⟨v, hv, q⟩ := d1L_ok (r := fun v H Q => rLenD X.K [v] H Q) (fun {F H v x z Q} eF a e q hx => by
      rw [Option.map_eq_some_iff] at e
      obtain ⟨n, e, rfl⟩ := e
      exact len_view eF a e (q _ (.int _))) h
    exact ⟨v, hv, q⟩
/-- int(x) -/
def opInt (xs : List D) : Option D := match xs with
  | [.int i] => some (.int i)
  | [.bl b] => some (.int (if b then 1 else 0))
  | [.str a] => if a.length ≤ 640 then (PySem.intText? a).map .int else none
  | _ => none
def rIntD : List V → Hp → VK → Prop := fun xs H Q => ((∃ i, xs = [.int i] ∧ Q (.int i) H) ∨ ∃ k, xs = [.bl k] ∧ Q (.int (if k then 1 else 0)) H) ∨ (∃ a n, xs = [.str a] ∧ PySem.intText? a = some n ∧ a.length ≤ 640 ∧ Q (.int n) H)
theorem call_intA : CallR X (.type "int") rIntD := call_int1.or call_int_str
theorem ca_int : CaS X rIntD opInt := by
  intro B F H σ ρ vs xs z Q s a e q hx
  unfold opInt at e
  split at e
  · cases e
    obtain ⟨v, rfl, o⟩ := a.one (by simp)
    exact .inl (.inl ⟨_, by rw [o.int_inv], q _ F H (.refl F) (s.add (.int _))⟩)
  · cases e
    obtain ⟨v, rfl, o⟩ := a.one (by simp)
    exact .inl (.inr ⟨_, by rw [o.bl_inv], q _ F H (.refl F) (s.add (.int _))⟩)
  · split at e
    · rename_i hl
      rw [Option.map_eq_some_iff] at e
      obtain ⟨n, e, rfl⟩ := e
      obtain ⟨v, rfl, o⟩ := a.one (by simp)
      exact .inr ⟨_, n, by rw [o.str_inv], e, hl, q _ F H (.refl F) (s.add (.int _))⟩
    · cases e
  · cases e
/-- str(x) -/
def opStr (xs : List D) : Option D := match xs with
  | [.int i] => if i.natAbs < 2 ^ 1000 then some (.str (toString i)) else none
  | [.str a] => some (.str a)
  | _ => none
def rStrD : List V → Hp → VK → Prop := fun xs H Q => (∃ i, xs = [.int i] ∧ i.natAbs.log2 < 1920 ∧ Q (.str (toString i)) H) ∨ (∃ a, xs = [.str a] ∧ Q (.str a) H)
theorem call_strA : CallR X (.type "str") rStrD := call_str_int.or SkE.call_str_str
theorem ca_str : CaS X rStrD opStr := by
  intro B F H σ ρ vs xs z Q s a e q hx
  unfold opStr at e
  split at e
  · split at e
    · rename_i i h
      cases e
      obtain ⟨v, rfl, o⟩ := a.one (by simp)
      refine .inl ⟨_, by rw [o.int_inv], ?_, q _ F H (.refl F) (s.add (.str _))⟩
      by_cases h0 : i.natAbs = 0
      · rw [h0]; decide
      · have : i.natAbs.log2 < 1000 := (Nat.log2_lt h0).mpr h
        omega
    · cases e
  · cases e
    obtain ⟨v, rfl, o⟩ := a.one (by simp)
    exact .inr ⟨_, by rw [o.str_inv], q _ F H (.refl F) (s.add (.str _))⟩
  · cases e
/-- list(x), tuple(x) -/
def opList (xs : List D) : Option D := match xs with
  | [.nd _ .lst ds] => some (.nd true .lst ds)
  | [.nd _ .scr ds] => some (.nd true .lst ds)
  | [.nd _ .tup ds] => some (.nd true .lst ds)
  | _ => none
theorem ca_list : CaS X (fun xs H Q => ∃ p ys, xs = [.ref p] ∧ (SqL X.K H p ys ∨ SqT X.K H p ys) ∧ ∀ l, H l = none → Q (.ref l) (upd H l (.lst ys))) opList := by
  intro B F H σ ρ vs xs z Q s a e q hx
  unfold opList at e
  split at e
  · cases e
    obtain ⟨v, rfl, o⟩ := a.one (by simp)
    obtain ⟨_, a1, vs1, rfl, o1, l1⟩ := o.nd_inv
    exact ⟨a1, vs1, rfl, .inl (SqL.of (s.ex _ _ o1)), fun p hp => q _ F _ (.refl F) (s.newL l1 hp)⟩
  · cases e
    obtain ⟨v, rfl, o⟩ := a.one (by simp)
    obtain ⟨_, a1, vs1, rfl, o1, l1⟩ := o.nd_inv
    exact ⟨a1, vs1, rfl, .inl (s.ex.sqL o1), fun p hp => q _ F _ (.refl F) (s.newL l1 hp)⟩
  · cases e
    obtain ⟨v, rfl, o⟩ := a.one (by simp)
    obtain ⟨_, a1, vs1, rfl, o1, l1⟩ := o.nd_inv
    exact ⟨a1, vs1, rfl, .inr (s.ex.sqT o1), fun p hp => q _ F _ (.refl F) (s.newL l1 hp)⟩
  · cases e
def opTuple (xs : List D) : Option D := match xs with
  | [.nd _ .lst ds] => some (.nd false .tup ds)
  | [.nd _ .scr ds] => some (.nd false .tup ds)
  | [.nd _ .tup ds] => some (.nd false .tup ds)
  | _ => none
theorem ca_tuple : CaS X (fun xs H Q => ∃ p ys, xs = [.ref p] ∧ ((SqL X.K H p ys ∧ ∀ l, H l = none → Q (.ref l) (upd H l (.tup ys))) ∨ (SqT X.K H p ys ∧ Q (.ref p) H))) opTuple := by
  intro B F H σ ρ vs xs z Q s a e q hx
  unfold opTuple at e
  split at e
  · cases e
    obtain ⟨v, rfl, o⟩ := a.one (by simp)
    obtain ⟨_, a1, vs1, rfl, o1, l1⟩ := o.nd_inv
    refine ⟨a1, vs1, rfl, .inl ⟨SqL.of (s.ex _ _ o1), fun p hp => ?_⟩⟩
    obtain ⟨eF, s2⟩ := s.newT l1 hp
    exact q _ _ _ eF s2
  · cases e
    obtain ⟨v, rfl, o⟩ := a.one (by simp)
    obtain ⟨_, a1, vs1, rfl, o1, l1⟩ := o.nd_inv
    refine ⟨a1, vs1, rfl, .inl ⟨s.ex.sqL o1, fun p hp => ?_⟩⟩
    obtain ⟨eF, s2⟩ := s.newT l1 hp
    exact q _ _ _ eF s2
  · cases e
    obtain ⟨v, rfl, o⟩ := a.one (by simp)
    obtain ⟨ho, a1, vs1, rfl, o1, l1⟩ := o.nd_inv
    subst ho
    exact ⟨a1, vs1, rfl, .inr ⟨s.ex.sqT o1, q _ F H (.refl F) (s.add o)⟩⟩
  · cases e
/-- all(list of bools), any -/
def blsOf : List D → Option (List Bool)
  | [] => some []
  | .bl b :: ds => (blsOf ds).map (b :: ·)
  | _ :: _ => none
theorem OwnL.bls {K : PySem.W.Frag} {mg : Str → Option Value} {F H : Hp} : ∀ {vs : List V} {ds : List D} {f : List Addr} {bs : List Bool}, OwnL K mg F H vs ds f → blsOf ds = some bs → vs = bs.map V.bl
  | _, _, _, bs, .nil, e => by cases e; rfl
  | _, _, _, bs, .un _, e => by simp [blsOf] at e
  | _, _, _, bs, .cons (d := d) (ds := ds) r t, e => by
    cases d with
    | bl b =>
      simp only [blsOf, Option.map_eq_some_iff] at e
      obtain ⟨cs, e, rfl⟩ := e
      rw [r.bl_inv, OwnL.bls t e]; rfl
    | _ => simp [blsOf] at e
def opAll (xs : List D) : Option D := match xs with | [.nd _ .lst ds] => (blsOf ds).map fun bs => .bl (bs.all id) | _ => none
def opAny (xs : List D) : Option D := match xs with | [.nd _ .lst ds] => (blsOf ds).map fun bs => .bl (bs.any id) | _ => none
theorem ca_all : CaS X (rAll X.K) opAll := by
  intro B F H σ ρ vs xs z Q s a e q hx
  unfold opAll at e
  split at e
  · rw [Option.map_eq_some_iff] at e
    obtain ⟨bs, e, rfl⟩ := e
    obtain ⟨v, rfl, o⟩ := a.one (by simp)
    obtain ⟨_, a1, vs1, rfl, o1, l1⟩ := o.nd_inv
    have := l1.bls e
    subst this
    exact ⟨a1, bs, rfl, SqL.of (s.ex _ _ o1), q _ F H (.refl F) (s.add (.bl _))⟩
  · cases e
theorem ca_any : CaS X (rAny X.K) opAny := by
  intro B F H σ ρ vs xs z Q s a e q hx
  unfold opAny at e
  split at e
  · rw [Option.map_eq_some_iff] at e
    obtain ⟨bs, e, rfl⟩ := e
    obtain ⟨v, rfl, o⟩ := a.one (by simp)
    obtain ⟨_, a1, vs1, rfl, o1, l1⟩ := o.nd_inv
    have := l1.bls e
    subst this
    exact ⟨a1, bs, rfl, SqL.of (s.ex _ _ o1), q _ F H (.refl F) (s.add (.bl _))⟩
  · cases e
def intsOf : List D → Option (List Int)
  | [] => some []
  | .int b :: ds => (intsOf ds).map (b :: ·)
  | _ :: _ => none
theorem OwnL.ints {K : PySem.W.Frag} {mg : Str → Option Value} {F H : Hp} : ∀ {vs : List V} {ds : List D} {f : List Addr} {bs : List Int}, OwnL K mg F H vs ds f → intsOf ds = some bs → vs = bs.map V.int
  | _, _, _, bs, .nil, e => by cases e; rfl
  | _, _, _, bs, .un _, e => by simp [intsOf] at e
  | _, _, _, bs, .cons (d := d) (ds := ds) r t, e => by
    cases d with
    | int b =>
      simp only [intsOf, Option.map_eq_some_iff] at e
      obtain ⟨cs, e, rfl⟩ := e
      rw [r.int_inv, OwnL.ints t e]; rfl
    | _ => simp [intsOf] at e
def opSum (xs : List D) : Option D := match xs with | [.nd _ .lst ds] => (intsOf ds).map fun bs => .int bs.sum | _ => none
theorem ca_sum : CaS X (rSum X.K) opSum := by
  intro B F H σ ρ vs xs z Q s a e q hx
  unfold opSum at e
  split at e
  · rw [Option.map_eq_some_iff] at e
    obtain ⟨bs, e, rfl⟩ := e
    obtain ⟨v, rfl, o⟩ := a.one (by simp)
    obtain ⟨_, a1, vs1, rfl, o1, l1⟩ := o.nd_inv
    have := l1.ints e
    subst this
    exact ⟨a1, bs, rfl, SqL.of (s.ex _ _ o1), q _ F H (.refl F) (s.add (.int _))⟩
  · cases e
def opMax2 (xs : List D) : Option D := match xs with | [.int i, .int j] => some (.int (if j > i then j else i)) | _ => none
def opMin2 (xs : List D) : Option D := match xs with | [.int i, .int j] => some (.int (if j < i then j else i)) | _ => none
theorem ca_max2 : CaS X (fun xs H Q => ∃ i j, xs = [.int i, .int j] ∧ Q (.int (if j > i then j else i)) H) opMax2 := by
  intro B F H σ ρ vs xs z Q s a e q hx
  unfold opMax2 at e
  split at e
  · cases e
    obtain ⟨v, u, rfl, o1, o2⟩ := a.two (by simp) (by simp)
    exact ⟨_, _, by rw [o1.int_inv, o2.int_inv], q _ F H (.refl F) (s.add (.int _))⟩
  · cases e
theorem ca_min2 : CaS X (fun xs H Q => ∃ i j, xs = [.int i, .int j] ∧ Q (.int (if j < i then j else i)) H) opMin2 := by
  intro B F H σ ρ vs xs z Q s a e q hx
  unfold opMin2 at e
  split at e
  · cases e
    obtain ⟨v, u, rfl, o1, o2⟩ := a.two (by simp) (by simp)
    exact ⟨_, _, by rw [o1.int_inv, o2.int_inv], q _ F H (.refl F) (s.add (.int _))⟩
  · cases e
end
end DL

/-! DL8: targets, what is walked, comprehensions. -/
namespace DL
open PySem L2
section
variable {X : Cx} {W : WX} {σ : L2.St} {H : Hp}
/-- the slots out of is are as they were -/
def Kp (is : List Nat) (σ σ' : L2.St) : Prop := σ'.length = σ.length ∧ ∀ j, j ∉ is → σ'[j]? = σ[j]?
theorem Kp.refl (is : List Nat) (σ : L2.St) : Kp is σ σ := ⟨rfl, fun _ _ => rfl⟩
theorem Kp.trans {is : List Nat} {σ σ1 σ2 : L2.St} (a : Kp is σ σ1) (b : Kp is σ1 σ2) : Kp is σ σ2 := ⟨b.1.trans a.1, fun j hj => (b.2 j hj).trans (a.2 j hj)⟩
theorem Kp.mono {is js : List Nat} {σ σ' : L2.St} (a : Kp is σ σ') (h : ∀ j ∈ is, j ∈ js) : Kp js σ σ' := ⟨a.1, fun j hj => a.2 j fun hi => hj (h j hi)⟩
theorem Kp.set (is : List Nat) (σ : L2.St) {i : Nat} (h : i ∈ is) (x : Option V) : Kp is σ (σ.set i x) := ⟨List.length_set, fun j hj => by
  rw [List.getElem?_set_ne]
  rintro rfl
  exact hj h⟩
/-! ### targets -/
abbrev G := D → List D → Option (List D)
def denG (X : Cx) (is : List Nat) (g : G) : TG := fun v σ H Q => ∃ B F ρ d ρ', Sta X.K X.mg B F H (some v :: σ) (d :: ρ) ∧ g d ρ = some ρ' ∧ ∀ σ' F' H', Exx F F' → Kp is σ σ' → Sta X.K X.mg B F' H' σ' ρ' → Q σ' H'
abbrev DG (X : Cx) (is : List Nat) (e : Expr) (g : G) : Prop := PG X e (denG X is g)
theorem PG_imp {e : Expr} {t t' : TG} (h : PG X e t) (i : ∀ v σ H Q, t' v σ H Q → t v σ H Q) : PG X e t' := ⟨fun pins s σ H v u Q I r q => h.run pins s σ H v u Q I r (i v σ H Q q)⟩
theorem EnvL.len {K : PySem.W.Frag} {mg : Str → Option Value} {F H : Hp} : ∀ {σ : L2.St} {ρ : List D} {f : List Addr}, EnvL K mg F H σ ρ f → σ.length = ρ.length
  | _, _, _, .nil => rfl
  | _, _, _, .un t => by simp [EnvL.len t]
  | _, _, _, .cons _ t => by simp [EnvL.len t]
theorem Sta.len {K : PySem.W.Frag} {mg : Str → Option Value} {B F H : Hp} {σ : L2.St} {ρ : List D} (s : Sta K mg B F H σ ρ) : σ.length = ρ.length := by
  obtain ⟨⟨f, t, _⟩, _⟩ := s; exact t.len
/-- the slot i forgotten, whatever stands in it -/
theorem Sta.forget {K : PySem.W.Frag} {mg : Str → Option Value} {B F H : Hp} {σ : L2.St} {ρ : List D} (s : Sta K mg B F H σ ρ) (i : Nat) (x : Option V) : Sta K mg B F H (σ.set i x) (ρ.set i .un) := by
  obtain ⟨⟨f, t, nd, nb⟩, ex, bx, dis⟩ := s
  have un : ∀ {σ : List (Option V)} {ρ : List D} {f : List Addr} (i : Nat), EnvL K mg F H σ ρ f → ∃ f2, EnvL K mg F H (σ.set i x) (ρ.set i .un) f2 ∧ f2.Sublist f := by
    intro σ ρ f i t
    induction t generalizing i with
    | nil => exact ⟨[], .nil, .refl _⟩
    | un t ih =>
      cases i with
      | zero => exact ⟨_, .un t, .refl _⟩
      | succ i => obtain ⟨f2, h1, h2⟩ := ih i; exact ⟨f2, .un h1, h2⟩
    | @cons v d σ ρ f g r t ih =>
      cases i with
      | zero => exact ⟨g, .un t, List.sublist_append_right _ _⟩
      | succ i => obtain ⟨f2, h1, h2⟩ := ih i; exact ⟨f ++ f2, .cons r h1, List.Sublist.append (.refl _) h2⟩
  obtain ⟨f2, h1, h2⟩ := un i t
  exact ⟨⟨f2, h1, h2.nodup nd, fun a ha => nb a (h2.subset ha)⟩, ex, bx, dis⟩
/-- a value is stored -/
theorem Sta.store {K : PySem.W.Frag} {mg : Str → Option Value} {B F H : Hp} {σ : L2.St} {ρ : List D} {v : V} {d : D} (s : Sta K mg B F H (some v :: σ) (d :: ρ)) (i : Nat) : Sta K mg B F H (σ.set i (some v)) (ρ.set i d) := by
  have s1 := s.forget (i + 1) (some v)
  simp only [List.set_cons_succ] at s1
  by_cases hi : i < σ.length
  · have s2 := s1.put (i := i) (by rw [List.getElem?_set_self hi])
    simpa using s2
  · have h1 : σ.set i (some v) = σ := List.set_eq_of_length_le (by omega)
    have h2 : ρ.set i d = ρ := List.set_eq_of_length_le (by have := s.drop.len; omega)
    rw [h1, h2]
    exact s.drop
def gN (i : Nat) : G := fun d ρ => some (ρ.set i d)
theorem dg_name {i : Nat} {x : Str} {pos : Pos} (hN : X.N.Nodup) (hi : X.N[i]? = some x) (hx : Loc X.env.scope x) (is : List Nat) (his : i ∈ is) (hf : X.fn x = true ∨ X.env.scope.names.lookup x = some .local := by first | exact .inl rfl | exact .inr rfl | assumption) : DG X is (.Name x pos) (gN i) :=
  PG_imp (pg_name hN hi hx hf) fun v σ H Q ⟨B, F, ρ, d, ρ', s, e, q⟩ => by
    cases e
    exact q _ F H (.refl F) (Kp.set is σ his _) (s.store i)
/-- the values of a list of values go to targets, one after another -/
abbrev Gs := List D → List D → Option (List D)
def denGs (X : Cx) (is : List Nat) (g : Gs) : TGs := fun vs σ H Q => ∃ B F ρ ds ρ', Sta X.K X.mg B F H σ ρ ∧ OwnL X.K X.mg F H vs ds [] ∧ shdL ds = true ∧ g ds ρ = some ρ' ∧ ∀ σ' F' H', Exx F F' → Kp is σ σ' → Sta X.K X.mg B F' H' σ' ρ' → Q σ' H'
theorem PGs_imp {e : List Expr} {t t' : TGs} (h : PGs X e t) (i : ∀ v σ H Q, t' v σ H Q → t v σ H Q) : PGs X e t' := ⟨fun pins s σ H v u Q I r q => h.run pins s σ H v u Q I r (i v σ H Q q)⟩
def gsNil : Gs := fun ds ρ => match ds with | [] => some ρ | _ => none
def gsCons (g : G) (h : Gs) : Gs := fun ds ρ => match ds with | d :: ds => (g d ρ).bind (h ds) | _ => none
theorem dgs_nil {is : List Nat} : PGs X [] (denGs X is gsNil) := PGs_imp pgs_nil fun vs σ H Q ⟨B, F, ρ, ds, ρ', s, o, hs, e, q⟩ => by
  unfold gsNil at e
  split at e
  · cases e
    cases o
    exact ⟨rfl, q _ F H (.refl F) (.refl _ _) s⟩
  · cases e
theorem OwnL.cons_inv' {K : PySem.W.Frag} {mg : Str → Option Value} {F H : Hp} : ∀ {vs : List V} {d : D} {ds : List D} {f : List Addr}, OwnL K mg F H vs (d :: ds) f → f = [] → d ≠ .un → ∃ v us, vs = v :: us ∧ Own K mg F H v d [] ∧ OwnL K mg F H us ds []
  | _, _, _, _, .un t, _, hd => absurd rfl hd
  | _, _, _, _, .cons r t, e, _ => by
    have h' := List.append_eq_nil_iff.mp e
    rw [h'.1] at r
    rw [h'.2] at t
    exact ⟨_, _, rfl, r, t⟩
theorem OwnL.cons_inv {K : PySem.W.Frag} {mg : Str → Option Value} {F H : Hp} {vs : List V} {d : D} {ds : List D} (h : OwnL K mg F H vs (d :: ds) []) (hd : d ≠ .un) : ∃ v us, vs = v :: us ∧ Own K mg F H v d [] ∧ OwnL K mg F H us ds [] := h.cons_inv' rfl hd
theorem frzL_len : ∀ ds : List D, (frzL ds).length = ds.length
  | [] => by simp [frzL]
  | d :: ds => by simp [frzL, frzL_len ds]
theorem dgs_cons {is : List Nat} {e : Expr} {es : List Expr} {g : G} {h : Gs} (h1 : DG X is e g) (h2 : PGs X es (denGs X is h)) (hs : (assignEach (e :: es) X.env).map (·.2) = assign e X.env :: (assignEach es X.env).map (·.2) := by rfl) : PGs X (e :: es) (denGs X is (gsCons g h)) :=
  PGs_imp (pgs_cons h1 h2 hs) fun vs σ H Q ⟨B, F, ρ, ds, ρ', s, o, hs, e, q⟩ => by
    unfold gsCons at e
    split at e
    · rename_i d ds
      simp only [shdL, Bool.and_eq_true] at hs
      rw [Option.bind_eq_some_iff] at e
      obtain ⟨ρ1, e1, e2⟩ := e
      obtain ⟨v, us, rfl, ov, ous⟩ := o.cons_inv (shd_ne hs.1)
      refine ⟨v, us, rfl, B, F, ρ, d, ρ1, s.add ov, e1, fun σ1 F1 H1 eF1 k1 s1 => ?_⟩
      exact ⟨B, F1, ρ1, ds, ρ', s1, ous.shared eF1, hs.2, e2, fun σ2 F2 H2 eF2 k2 s2 => q σ2 F2 H2 (eF1.trans eF2) (k1.trans k2) s2⟩
    · cases e
def gTup (n : Nat) (h : Gs) : G := fun d ρ => match d with
  | .nd o .tup ds => if ds.length = n ∧ whole (.nd o .tup ds) = true then h (frzL ds) ρ else none
  | _ => none
theorem dg_tup {is : List Nat} {es : List Expr} {k : Nat} {h : Gs} {n : Nat} {pos : Pos} (hc : X.calm = true) (hh : PGs X es (denGs X is h)) (hn : (assignEach es X.env).length = n := by rfl) (hst : (assignEach es X.env).findIdx? (·.1) = none := by rfl) : DG X is (.Tuple es k pos) (gTup n h) :=
  PG_imp (pg_tup hc hh hn hst) fun v σ H Q ⟨B, F, ρ, d, ρ', s, e, q⟩ => by
    unfold gTup at e
    split at e
    · rename_i o ds
      split at e
      · rename_i hl
        obtain ⟨F', eF, s2, r2⟩ := s.share hl.2
        simp only [frz] at r2
        obtain ⟨_, a, vs, rfl, o1, l1⟩ := r2.nd_inv
        have hw : wholeL ds = true := by simpa [whole] using hl.2
        exact ⟨a, vs, rfl, s2.ex.sqT o1, by rw [l1.len, frzL_len]; exact hl.1, B, F', ρ, frzL ds, ρ', s2, l1, shdL_frz hw, e, fun σ2 F2 H2 e2 k2 s3 => q σ2 F2 H2 (eF.trans e2) k2 s3⟩
      · cases e
    · cases e

/-! ### what is walked -/
/-- the walk J yields ds, one after another, whatever happens meanwhile -/
def Yl (X : Cx) (J : It) (ds : List D) (F0 : Hp) : Prop := ∀ B F H σ ρ, Exx F0 F → Sta X.K X.mg B F H σ ρ →
  (∀ i d, ds[i]? = some d → J.go i H ∧ ∀ x H', J.yld i H x H' → ∃ F', Exx F F' ∧ Sta X.K X.mg B F' H' (some x :: σ) (d :: ρ)) ∧ J.stop ds.length H
def PostI (X : Cx) (W : WX) (σ : L2.St) (B F : Hp) (R : It → Hp → Prop) : O (List D) → Prop
  | .ok ds ρ' => ∀ J F' H', Exx F F' → Sta X.K X.mg B F' H' σ ρ' → Yl X J ds F' → R J H'
  | .ex x ρ' => PostX X W σ B F x ρ'
def denI (X : Cx) (W : WX) (m : M (List D)) : TI := fun σ H R => ∃ B F ρ o, Sta X.K X.mg B F H σ ρ ∧ m ρ = some o ∧ PostI X W σ B F R o
abbrev DI (X : Cx) (W : WX) (tg e : Expr) (m : M (List D)) : Prop := PI X tg e (denI X W m)
theorem PI_imp {tg e : Expr} {t t' : TI} (h : PI X tg e t) (i : ∀ σ H R, t' σ H R → t σ H R) : PI X tg e t' := ⟨fun pins s σ H R I q => h.run pins s σ H R I (i σ H R q)⟩
theorem postI_X {R : It → Hp → Prop} : ∀ (B F : Hp) (x : D) (ρ' : List D), PostI X W σ B F R (.ex x ρ') → PostX X W σ B F x ρ' := fun _ _ _ _ h => h
theorem postI_m {R : It → Hp → Prop} : ∀ (B F F' : Hp) (o : O (List D)), Exx F F' → PostI X W σ B F R o → PostI X W σ B F' R o := fun B F F' o eF h => by
  cases o with
  | ok ds ρ' => exact fun J F2 H2 e2 s y => h J F2 H2 (eF.trans e2) s y
  | ex x ρ' => exact PostX.mono eF h
/-- list, tuple or text -/
def iSeq (K : PySem.W.Frag) (te : TE) : TI := fun σ H R => te σ H fun x H1 => (∃ a, x = .ref a ∧ (∃ xs, SqL K H1 a xs) ∧ R (Itl K a) H1) ∨ (∃ a, x = .ref a ∧ (∃ xs, SqT K H1 a xs) ∧ R (Itt K a) H1) ∨ ∃ z, x = .str z ∧ R (Its z) H1
theorem pi_seq {tg l : Expr} {tl : TE} (hl : PE X l tl) : PI X tg l (iSeq X.K tl) := by
  refine ⟨fun pins s σ H R I h => ?_⟩
  refine thn (hl.run pins s σ H _ I h) fun v s1 ⟨x, H1, I1, r1, q1⟩ => ?_
  rcases q1 with ⟨a, e, ⟨xs, hq⟩, q⟩ | ⟨a, e, ⟨xs, hq⟩, q⟩ | ⟨z, e, q⟩
  · subst e
    cases r1
    obtain ⟨its, rv, p, hz⟩ := I1.list hq
    refine wpAny_pyIter_list p.isList ?_
    refine ⟨s1.heap.objs.size, [s1.heap.objs.size], _, _, H1, rfl, I1.kept (t' := s1.toks) fun b o e => Heap.get?_push_of_some _ e, turn_list a _, ⟨_, Heap.get?_push_size _ rfl, rfl, rfl⟩, fun b hb => ?_, q⟩
    have e : b = s1.heap.objs.size := by simpa using hb
    subst e
    exact I1.fpOk (Nat.le_refl _) (I1.hok.fresh (Nat.le_refl _))
  · subst e
    cases r1
    obtain ⟨its, rv, p, hz⟩ := I1.tuple hq
    refine wpAny_pyIter_tuple (show s1.heap.IsTuple a its.toArray from p) ?_
    refine ⟨s1.heap.objs.size, [s1.heap.objs.size], _, _, H1, rfl, I1.kept (t' := s1.toks) fun b o e => Heap.get?_push_of_some _ e, turn_tuple a _, ⟨_, Heap.get?_push_size _ rfl, rfl, rfl⟩, fun b hb => ?_, q⟩
    have e : b = s1.heap.objs.size := by simpa using hb
    subst e
    exact I1.fpOk (Nat.le_refl _) (I1.hok.fresh (Nat.le_refl _))
  · subst e
    obtain ⟨t, rfl⟩ := r1
    cases ha : z.cps.all (· < 128)
    · exact wpAny_pyIter_wide ha (pi_one (tk := s1.toks) I1 _ (turn_str _ z t "str_iterator" (.inr rfl)) ⟨_, Heap.get?_push_size _ rfl, rfl, rfl⟩ q)
    · exact wpAny_pyIter_ascii ha (pi_one (tk := s1.toks) I1 _ (turn_str _ z t "str_ascii_iterator" (.inl rfl)) ⟨_, Heap.get?_push_size _ rfl, rfl, rfl⟩ q)
def seqD : D → Option (List D)
  | .nd _ .lst ds => some ds
  | .nd _ .scr ds => some ds
  | .nd _ .tup ds => some ds
  | .str z => some (z.cps.toList.map fun c => .str ⟨#[c]⟩)
  | _ => none
def dSeq (m : M D) : M (List D) := bnd m fun x => if whole x = true then lft (seqD (frz x)) else fail
theorem SqL.inj_H {K : PySem.W.Frag} {H : Hp} {a : Addr} {xs ys : List V} (h : SqL K H a xs) (h' : H a = some (.lst ys)) : Rd H a (.lst xs) ∨ True := .inr trivial
theorem yl_list {a : Addr} {vs : List V} {ds : List D} {F0 : Hp} (hq : SqL X.K F0 a vs) (l : OwnL X.K X.mg F0 F0 vs ds []) (hs : shdL ds = true) : Yl X (Itl X.K a) ds F0 := by
  intro B F H σ ρ eF s
  have hH : SqL X.K H a vs := (eF.trans s.ex).sqL hq
  have hl := l.len
  refine ⟨fun i d hd => ?_, ⟨vs, hH, by omega⟩⟩
  obtain ⟨w, hw, ow⟩ := l.get hd (shd_ne (shdL_get hs hd))
  refine ⟨⟨vs, w, hH, hw⟩, fun x H' ⟨e, y⟩ => ?_⟩
  subst e
  have := y vs hH
  rw [hw] at this
  cases this
  exact ⟨F, .refl F, s.add (ow.shared eF)⟩
theorem yl_tup {a : Addr} {vs : List V} {ds : List D} {F0 : Hp} (hq : SqT X.K F0 a vs) (l : OwnL X.K X.mg F0 F0 vs ds []) (hs : shdL ds = true) : Yl X (Itt X.K a) ds F0 := by
  intro B F H σ ρ eF s
  have hH : SqT X.K H a vs := (eF.trans s.ex).sqT hq
  have hl := l.len
  refine ⟨fun i d hd => ?_, ⟨vs, hH, by omega⟩⟩
  obtain ⟨w, hw, ow⟩ := l.get hd (shd_ne (shdL_get hs hd))
  refine ⟨⟨vs, w, hH, hw⟩, fun x H' ⟨e, y⟩ => ?_⟩
  subst e
  have := y vs hH
  rw [hw] at this
  cases this
  exact ⟨F, .refl F, s.add (ow.shared eF)⟩
theorem yl_str {z : Str} {F0 : Hp} : Yl X (Its z) (z.cps.toList.map fun c => .str ⟨#[c]⟩) F0 := by
  intro B F H σ ρ eF s
  refine ⟨fun i d hd => ?_, ?_⟩
  · rw [List.getElem?_map, Option.map_eq_some_iff] at hd
    obtain ⟨c, hc, rfl⟩ := hd
    have hc' : z.cps[i]? = some c := by simpa using hc
    refine ⟨(Array.getElem?_eq_some_iff.mp hc').1, fun x H' ⟨e, c', h1, h2⟩ => ?_⟩
    subst e h2
    rw [hc'] at h1
    cases h1
    exact ⟨F, .refl F, s.add (.str _)⟩
  · show z.cps.size ≤ _
    simp
theorem seq_core {v : V} {x : D} {ds : List D} {B F : Hp} {ρ : List D} {R : It → Hp → Prop} (s : Sta X.K X.mg B F H σ ρ) (o : Own X.K X.mg F H v x []) (hx : shd x = true) (e : seqD x = some ds) (q : ∀ J, Yl X J ds F → R J H) :
    (∃ a, v = .ref a ∧ (∃ xs, SqL X.K H a xs) ∧ R (Itl X.K a) H) ∨ (∃ a, v = .ref a ∧ (∃ xs, SqT X.K H a xs) ∧ R (Itt X.K a) H) ∨ ∃ z, v = .str z ∧ R (Its z) H := by
  unfold seqD at e
  split at e
  · cases e
    obtain ⟨rfl, a, vs, rfl, o1, l1⟩ := o.nd_inv
    have hs : shdL ds = true := by simpa [shd] using hx
    have hF : SqL X.K F a vs := SqL.of o1
    exact .inl ⟨a, rfl, ⟨vs, s.ex.sqL hF⟩, q _ (yl_list hF (l1.frame (.refl F) fun a h => by cases h) hs)⟩
  · cases e
    obtain ⟨rfl, a, vs, rfl, o1, l1⟩ := o.nd_inv
    have hs : shdL ds = true := by simpa [shd] using hx
    exact .inl ⟨a, rfl, ⟨vs, s.ex.sqL o1⟩, q _ (yl_list o1 (l1.frame (.refl F) fun a h => by cases h) hs)⟩
  · cases e
    obtain ⟨rfl, a, vs, rfl, o1, l1⟩ := o.nd_inv
    have hs : shdL ds = true := by simpa [shd] using hx
    exact .inr (.inl ⟨a, rfl, ⟨vs, s.ex.sqT o1⟩, q _ (yl_tup o1 (l1.frame (.refl F) fun a h => by cases h) hs)⟩)
  · cases e
    exact .inr (.inr ⟨_, o.str_inv, q _ yl_str⟩)
  · cases e
theorem di_seq {tg l : Expr} {m : M D} (hl : DE X W l m) : DI X W tg l (dSeq m) := PI_imp (pi_seq hl) fun σ H R ⟨B, F, ρ, o, s, e, p⟩ => by
  refine den_weak ?_ (den_bnd (Post := fun B F o => PostI X W σ B F R o) postI_X postI_m s e p)
  intro v H1 ⟨B, F, ρ, o, x, s, e, p⟩
  dsimp only at e
  split at e
  · rename_i hw
    obtain ⟨F', eF, s2, r2⟩ := s.share hw
    unfold lft at e
    cases hd : seqD (frz x) with
    | none => rw [hd] at e; cases e
    | some ds =>
      rw [hd] at e
      cases e
      exact seq_core s2 r2 (shd_frz hw) hd fun J y => p J F' H1 eF s2 y
  · cases e
/-- ranges -/
def rngL (lo : Int) (n : Nat) : List D := (List.range n).map fun i => .int (lo + (i : Nat))
theorem yl_rng {lo : Int} {n : Nat} {F0 : Hp} : Yl X (Itr lo n) (rngL lo n) F0 := by
  intro B F H σ ρ eF s
  refine ⟨fun i d hd => ?_, ?_⟩
  · unfold rngL at hd
    rw [List.getElem?_map, Option.map_eq_some_iff] at hd
    obtain ⟨c, hc, rfl⟩ := hd
    obtain ⟨h1, h2⟩ := List.getElem?_eq_some_iff.mp hc
    rw [List.length_range] at h1
    rw [List.getElem_range] at h2
    subst h2
    refine ⟨h1, fun x H' ⟨e, y⟩ => ?_⟩
    subst e y
    exact ⟨F, .refl F, s.add (.int _)⟩
  · show n ≤ _
    simp [rngL]
def dRng1 (m : M (List D)) : M (List D) := bnd m fun ds => match ds with
  | [.int n] => if -100000 ≤ n ∧ n ≤ 100000 then ret (rngL 0 n.toNat) else fail
  | _ => fail
def dRng2 (m : M (List D)) : M (List D) := bnd m fun ds => match ds with
  | [.int lo, .int n] => if (-100000 ≤ lo ∧ lo ≤ 100000) ∧ (-100000 ≤ n ∧ n ≤ 100000) then ret (rngL lo (n - lo).toNat) else fail
  | _ => fail
theorem Sta.dropL {K : PySem.W.Frag} {mg : Str → Option Value} {B F H : Hp} {σ : L2.St} {ρ : List D} : ∀ {vs : List V} {ds : List D}, vs.length = ds.length → Sta K mg B F H (vs.map some ++ σ) (ds ++ ρ) → Sta K mg B F H σ ρ
  | [], [], _, s => s
  | [], _ :: _, h, _ => by simp at h
  | _ :: _, [], h, _ => by simp at h
  | v :: vs, d :: ds, h, s => Sta.dropL (vs := vs) (ds := ds) (by simpa using h) s.drop
theorem Sta.ownS {K : PySem.W.Frag} {mg : Str → Option Value} {B F H : Hp} {σ : L2.St} {ρ : List D} {vs : List V} {ds : List D} (hl : vs.length = ds.length) (s : Sta K mg B F H (vs.map some ++ σ) (ds ++ ρ)) (h : shdL ds = true) : OwnL K mg F H vs ds [] := by
  obtain ⟨⟨f, t, _⟩, _⟩ := s
  obtain ⟨f1, f2, h1, h2, rfl⟩ := OwnL.of_env hl t
  have := OwnL.shd_nil h1 h
  subst this; exact h1
theorem di_range1 {tg a : Expr} {m : M (List D)} {p pos : Pos} (hg : Gl X "range") (hm : X.mg "range" = none) (ha : DA X W [a] m) (hs : starEach [a] X.env = [(false, eval a X.env)] := by rfl) : DI X W tg (.Call (.Name "range" p) [a] [] pos) (dRng1 m) :=
  PI_imp (pi_range1 hg hm ha hs) fun σ H R ⟨B, F, ρ, o, s, e, p⟩ => by
    refine denA_weak (fun vs H1 ⟨B, F, ρ, o, xs, hl, s, e, p⟩ => ?_) (denA_bnd (Post := fun B F o => PostI X W σ B F R o) postI_X postI_m s e p)
    split at e
    · rename_i n
      split at e
      · rename_i hn
        cases e
        obtain ⟨v, rfl, o1⟩ := (Sta.ownS hl s rfl).one (by simp)
        exact ⟨n, by rw [o1.int_inv], by omega, by omega, p _ F H1 (.refl F) (Sta.dropL hl s) yl_rng⟩
      · cases e
    · cases e
theorem di_range2 {tg a b : Expr} {m : M (List D)} {p pos : Pos} (hg : Gl X "range") (hm : X.mg "range" = none) (ha : DA X W [a, b] m) (hs : starEach [a, b] X.env = [(false, eval a X.env), (false, eval b X.env)] := by rfl) (hs2 : starEach [b] X.env = [(false, eval b X.env)] := by rfl) : DI X W tg (.Call (.Name "range" p) [a, b] [] pos) (dRng2 m) :=
  PI_imp (pi_range2 hg hm ha hs hs2) fun σ H R ⟨B, F, ρ, o, s, e, p⟩ => by
    refine denA_weak (fun vs H1 ⟨B, F, ρ, o, xs, hl, s, e, p⟩ => ?_) (denA_bnd (Post := fun B F o => PostI X W σ B F R o) postI_X postI_m s e p)
    split at e
    · rename_i lo n
      split at e
      · rename_i hn
        cases e
        obtain ⟨v, u, rfl, o1, o2⟩ := (Sta.ownS hl s rfl).two (by simp) (by simp)
        exact ⟨lo, n, by rw [o1.int_inv, o2.int_inv], ⟨by omega, by omega, by omega, by omega⟩, p _ F H1 (.refl F) (Sta.dropL hl s) yl_rng⟩
      · cases e
    · cases e
end
end DL

/-! DL9: an owned object opened and closed; comprehensions. -/
namespace DL
open PySem L2
section
variable {K : PySem.W.Frag} {mg : Str → Option Value} {B F H : Hp} {σ : L2.St} {ρ : List D}
theorem Sta.explode {v : V} {k : Kd} {ds : List D} (s : Sta K mg B F H (some v :: σ) (.nd true k ds :: ρ)) :
    ∃ a o vs, v = .ref a ∧ H a = some o ∧ OObj mg o k vs ∧ vs.length = ds.length ∧ B a = none ∧ F a = none ∧ ∀ o', Sta K mg (upd B a o') F (upd H a o') (vs.map some ++ σ) (ds ++ ρ) := by
  obtain ⟨⟨f, e, nd, nb⟩, ex, bx, dis⟩ := s
  generalize hd : D.nd true k ds = d at e
  cases e with
  | un t => cases hd
  | @cons _ _ _ _ f g r t =>
    subst hd
    cases r with
    | @ow a o _ vs _ f h1 h2 h3 l =>
      have nda := (List.nodup_cons.mp nd)
      have ha : a ∉ f ++ g := nda.1
      have hne : ∀ b ∈ f ++ g, b ≠ a := fun b hb e => ha (e ▸ hb)
      refine ⟨a, o, vs, rfl, h2, h3, l.len, nb a (by simp), h1, fun o' => ⟨⟨f ++ g, ?_, nda.2, fun b hb => ?_⟩, fun b u hb => ?_, fun b u hb => ?_, fun b u hb => ?_⟩⟩
      · have l' := l.frame (F' := F) (H' := upd H a o') (.refl F) fun b hb => ⟨(l.mem b hb).1, upd_ne (hne b (List.mem_append_left _ hb))⟩
        have t' := t.frame (F' := F) (H' := upd H a o') (.refl F) fun b hb => ⟨(t.mem b hb).1, upd_ne (hne b (List.mem_append_right _ hb))⟩
        exact EnvL.of_own t' l'
      · rw [upd_ne (hne b hb)]; exact nb b (List.mem_cons_of_mem _ hb)
      · have : b ≠ a := fun e => by rw [e, h1] at hb; cases hb
        rw [upd_ne this]; exact ex b u hb
      · by_cases e : b = a
        · subst e; rw [upd_same] at hb ⊢; exact hb
        · rw [upd_ne e] at hb ⊢; exact bx b u hb
      · by_cases e : b = a
        · subst e; exact h1
        · rw [upd_ne e] at hb; exact dis b u hb
theorem Sta.rebuild {a : Addr} {o : HO} {k : Kd} {vs : List V} {ds : List D} (s : Sta K mg (upd B a o) F H (vs.map some ++ σ) (ds ++ ρ)) (hB : B a = none) (hl : vs.length = ds.length) (ho : OObj mg o k vs) : Sta K mg B F H (some (.ref a) :: σ) (.nd true k ds :: ρ) := by
  obtain ⟨⟨f, e, nd, nb⟩, ex, bx, dis⟩ := s
  obtain ⟨f1, f2, h1, h2, rfl⟩ := OwnL.of_env hl e
  have ha : a ∉ f1 ++ f2 := fun h => by have := nb a h; rw [upd_same] at this; cases this
  refine ⟨⟨(a :: f1) ++ f2, .cons (.ow (dis a o upd_same) (bx a o upd_same) ho h1) h2, List.nodup_cons.mpr ⟨ha, nd⟩, fun b hb => ?_⟩, ex, fun b u hb => ?_, fun b u hb => ?_⟩
  · rcases List.mem_cons.mp hb with e | hb2
    · rw [e]; exact hB
    · have := nb b hb2
      have hne : b ≠ a := fun e => ha (by rw [← e]; exact hb2)
      rw [upd_ne hne] at this
      exact this
  · have : b ≠ a := fun e => by rw [e, hB] at hb; cases hb
    exact bx b u (by rw [upd_ne this]; exact hb)
  · have : b ≠ a := fun e => by rw [e, hB] at hb; cases hb
    exact dis b u (by rw [upd_ne this]; exact hb)
theorem Sta.explodeD {v : V} {ks ds : List D} (s : Sta K mg B F H (some v :: σ) (.dc true ks ds :: ρ)) :
    ∃ a o vs, v = .ref a ∧ H a = some o ∧ DObj o ks vs ∧ vs.length = ds.length ∧ B a = none ∧ F a = none ∧ ∀ o', Sta K mg (upd B a o') F (upd H a o') (vs.map some ++ σ) (ds ++ ρ) := by
  obtain ⟨⟨f, e, nd, nb⟩, ex, bx, dis⟩ := s
  generalize hd : D.dc true ks ds = d at e
  cases e with
  | un t => cases hd
  | @cons _ _ _ _ f g r t =>
    subst hd
    cases r with
    | @owD a o vs _ _ f h1 h2 h3 l =>
      have nda := (List.nodup_cons.mp nd)
      have ha : a ∉ f ++ g := nda.1
      have hne : ∀ b ∈ f ++ g, b ≠ a := fun b hb e => ha (e ▸ hb)
      refine ⟨a, o, vs, rfl, h2, h3, l.len, nb a (by simp), h1, fun o' => ⟨⟨f ++ g, ?_, nda.2, fun b hb => ?_⟩, fun b u hb => ?_, fun b u hb => ?_, fun b u hb => ?_⟩⟩
      · have l' := l.frame (F' := F) (H' := upd H a o') (.refl F) fun b hb => ⟨(l.mem b hb).1, upd_ne (hne b (List.mem_append_left _ hb))⟩
        have t' := t.frame (F' := F) (H' := upd H a o') (.refl F) fun b hb => ⟨(t.mem b hb).1, upd_ne (hne b (List.mem_append_right _ hb))⟩
        exact EnvL.of_own t' l'
      · rw [upd_ne (hne b hb)]; exact nb b (List.mem_cons_of_mem _ hb)
      · have : b ≠ a := fun e => by rw [e, h1] at hb; cases hb
        rw [upd_ne this]; exact ex b u hb
      · by_cases e : b = a
        · subst e; rw [upd_same] at hb ⊢; exact hb
        · rw [upd_ne e] at hb ⊢; exact bx b u hb
      · by_cases e : b = a
        · subst e; exact h1
        · rw [upd_ne e] at hb; exact dis b u hb
theorem Sta.rebuildD {a : Addr} {o : HO} {vs : List V} {ks ds : List D} (s : Sta K mg (upd B a o) F H (vs.map some ++ σ) (ds ++ ρ)) (hB : B a = none) (hl : vs.length = ds.length) (ho : DObj o ks vs) : Sta K mg B F H (some (.ref a) :: σ) (.dc true ks ds :: ρ) := by
  obtain ⟨⟨f, e, nd, nb⟩, ex, bx, dis⟩ := s
  obtain ⟨f1, f2, h1, h2, rfl⟩ := OwnL.of_env hl e
  have ha : a ∉ f1 ++ f2 := fun h => by have := nb a h; rw [upd_same] at this; cases this
  refine ⟨⟨(a :: f1) ++ f2, .cons (.owD (dis a o upd_same) (bx a o upd_same) ho h1) h2, List.nodup_cons.mpr ⟨ha, nd⟩, fun b hb => ?_⟩, ex, fun b u hb => ?_, fun b u hb => ?_⟩
  · rcases List.mem_cons.mp hb with e | hb2
    · rw [e]; exact hB
    · have := nb b hb2
      have hne : b ≠ a := fun e => ha (by rw [← e]; exact hb2)
      rw [upd_ne hne] at this
      exact this
  · have : b ≠ a := fun e => by rw [e, hB] at hb; cases hb
    exact bx b u (by rw [upd_ne this]; exact hb)
  · have : b ≠ a := fun e => by rw [e, hB] at hb; cases hb
    exact dis b u (by rw [upd_ne this]; exact hb)
/-- append: the value behind it goes into the list -/
theorem Sta.append {v u : V} {ds : List D} {y : D} (s : Sta K mg B F H (some v :: some u :: σ) (.nd true .lst ds :: y :: ρ)) :
    ∃ a vs, v = .ref a ∧ H a = some (.lst vs) ∧ vs.length = ds.length ∧ Sta K mg B F (upd H a (.lst (vs ++ [u]))) (some (.ref a) :: σ) (.nd true .lst (ds ++ [y]) :: ρ) := by
  obtain ⟨a, o, vs, rfl, h1, h2, h3, h4, h5, h6⟩ := s.explode
  cases h2
  refine ⟨a, vs, rfl, h1, h3, ?_⟩
  have s1 := h6 (.lst (vs ++ [u]))
  have e1 : vs.map some ++ some u :: σ = (vs ++ [u]).map some ++ σ := by simp
  have e2 : ds ++ y :: ρ = (ds ++ [y]) ++ ρ := by simp
  rw [e1, e2] at s1
  exact s1.rebuild h4 (by simp [h3]) rfl
theorem EnvL.any {σ' : L2.St} : ∀ {σ : L2.St} {ρ : List D} {f : List Addr} {σ' : L2.St}, EnvL K mg F H σ ρ f → σ'.length = σ.length → (∀ j : Nat, ρ[j]? = some D.un ∨ σ'[j]? = σ[j]?) → EnvL K mg F H σ' ρ f
  | _, _, _, [], .nil, _, _ => .nil
  | _, _, _, _ :: _, .nil, h, _ => by simp at h
  | _, _, _, [], .un _, h, _ => by simp at h
  | _, _, _, x :: σ', .un t, h, k => .un (EnvL.any (σ' := σ') t (by simpa using h) fun j => by simpa using k (j + 1))
  | _, _, _, [], .cons _ _, h, _ => by simp at h
  | _, _, _, x :: σ', .cons (d := d) r t, h, k => by
    have h0 := k 0
    simp only [List.getElem?_cons_zero, Option.some.injEq] at h0
    rcases h0 with h0 | h0
    · subst h0; cases r
    · subst h0
      exact .cons r (EnvL.any (σ' := σ') t (by simpa using h) fun j => by simpa using k (j + 1))
theorem Sta.any {σ' : L2.St} (s : Sta K mg B F H σ ρ) (h : σ'.length = σ.length) (k : ∀ j : Nat, ρ[j]? = some D.un ∨ σ'[j]? = σ[j]?) : Sta K mg B F H σ' ρ := by
  obtain ⟨⟨f, t, nd, nb⟩, ex, bx, dis⟩ := s
  exact ⟨⟨f, EnvL.any (σ' := σ') t h k, nd, nb⟩, ex, bx, dis⟩
/-- the slots of vs emptied -/
def wipeD (ρ : List D) : List Nat → List D
  | [] => ρ
  | v :: vs => (wipeD ρ vs).set v .un
theorem wipeD_len (ρ : List D) : ∀ vs, (wipeD ρ vs).length = ρ.length
  | [] => rfl
  | v :: vs => by unfold wipeD; rw [List.length_set, wipeD_len ρ vs]
theorem wipeD_in {ρ : List D} {i : Nat} : ∀ {vs : List Nat}, i ∈ vs → i < ρ.length → (wipeD ρ vs)[i]? = some .un
  | v :: vs, h, hi => by
    unfold wipeD
    by_cases e : v = i
    · subst e; rw [List.getElem?_set_self (by rw [wipeD_len]; exact hi)]
    · rw [List.getElem?_set_ne e]
      rcases List.mem_cons.mp h with h | h
      · exact absurd h.symm e
      · exact wipeD_in h hi
theorem wipe_in {σ : L2.St} {i : Nat} : ∀ {vs : List Nat}, i ∈ vs → i < σ.length → (wipe σ vs)[i]? = some none
  | v :: vs, h, hi => by
    unfold wipe
    by_cases e : v = i
    · subst e; rw [List.getElem?_set_self (by rw [wipe_length]; exact hi)]
    · rw [List.getElem?_set_ne e]
      rcases List.mem_cons.mp h with h | h
      · exact absurd h.symm e
      · exact wipe_in h hi
theorem Sta.wipe (s : Sta K mg B F H σ ρ) : ∀ vs, Sta K mg B F H (L2.wipe σ vs) (wipeD ρ vs)
  | [] => s
  | v :: vs => by unfold L2.wipe wipeD; exact (Sta.wipe s vs).forget v none
theorem wipe_eq {is vs : List Nat} {σ σ' : L2.St} (k : Kp is (L2.wipe σ vs) σ') (h : ∀ j ∈ is, j ∈ vs) : L2.wipe σ' vs = L2.wipe σ vs := by
  have hl : σ'.length = σ.length := by rw [k.1, wipe_length]
  apply List.ext_getElem?
  intro i
  by_cases hi : i ∈ vs
  · by_cases hn : i < σ.length
    · rw [wipe_in hi (by rw [hl]; exact hn), wipe_in hi hn]
    · rw [List.getElem?_eq_none (by rw [wipe_length, hl]; omega), List.getElem?_eq_none (by rw [wipe_length]; omega)]
  · rw [wipe_out hi, k.2 i fun h' => hi (h i h')]
/-- the shared values that stood in vs stand there again -/
def resD (ρ0 ρ : List D) : List Nat → List D
  | [] => ρ
  | v :: vs => match ρ0[v]? with
    | some d => if shd d = true then (resD ρ0 ρ vs).set v d else resD ρ0 ρ vs
    | none => resD ρ0 ρ vs
theorem Sta.unwipe {F0 : Hp} {H0 : Hp} {B0 : Hp} {ρ0 : List D} (s0 : Sta K mg B0 F0 H0 σ ρ0) (eF : Exx F0 F) {vs : List Nat} (s : Sta K mg B F H (L2.wipe σ vs) (wipeD ρ vs)) : ∀ us, Sta K mg B F H σ (resD ρ0 (wipeD ρ vs) us)
  | [] => by
    have hl := s.len
    rw [wipe_length] at hl
    refine s.any (wipe_length σ vs).symm fun j => ?_
    by_cases hj : j ∈ vs
    · by_cases hn : j < ρ.length
      · exact .inl (wipeD_in hj hn)
      · right
        rw [wipeD_len] at hl
        rw [List.getElem?_eq_none (by omega), List.getElem?_eq_none (by rw [wipe_length]; omega)]
    · exact .inr (wipe_out hj).symm
  | v :: us => by
    have ih := Sta.unwipe s0 eF s us
    unfold resD
    cases h : ρ0[v]? with
    | none => exact ih
    | some d =>
      simp only
      by_cases hs : shd d = true
      · rw [if_pos hs]
        obtain ⟨w, hw, s1⟩ := s0.take h (whole_ne (shd_whole hs))
        have o := s1.headS hs
        exact (ih.add (o.shared eF)).put hw
      · rw [if_neg hs]; exact ih
end
section
variable {X : Cx} {W : WX} {σ : L2.St} {H : Hp}
abbrev DTs (X : Cx) (W : WX) (ifs : List Expr) (m : M Bool) : Prop := PTs X ifs (denT X W m)
theorem dts_nil : DTs X W [] (ret true) := ⟨fun pins s σ H Q I ⟨B, F, ρ, o, st, e, p⟩ => by
  cases e
  exact pts_nil.run pins s σ H Q I (p F H (.refl F) st)⟩
theorem dts_one {c : Expr} {m : M Bool} (h : DT X W c m) : DTs X W [c] m := pts_one h
/-- the turns of a comprehension -/
def lcT (g : G) (t : M Bool) (m : M D) (vs : List Nat) : List D → List D → List D → Option (List D × List D)
  | [], acc, ρ => some (acc, ρ)
  | d :: ds, acc, ρ => match g d ρ with
    | some ρ1 => match t ρ1 with
      | some (.ok true ρ2) => match m ρ2 with
        | some (.ok y ρ3) => if acc.length < 100000 then lcT g t m vs ds (acc ++ [y]) (wipeD ρ3 vs) else none
        | _ => none
      | some (.ok false ρ2) => lcT g t m vs ds acc (wipeD ρ2 vs)
      | _ => none
    | none => none
def dLc (src : M (List D)) (g : G) (t : M Bool) (m : M D) (vs : List Nat) : M D := bnd src fun ds ρ => match lcT g t m vs ds [] (wipeD ρ vs) with
  | some (acc, ρ') => some (.ok (.nd true .lst acc) (resD ρ ρ' vs))
  | none => none
theorem lcT_wiped {g : G} {t : M Bool} {m : M D} {vs : List Nat} : ∀ {ds acc ρ acc' ρ' : List D}, lcT g t m vs ds acc (wipeD ρ vs) = some (acc', ρ') → ∃ ρ'', ρ' = wipeD ρ'' vs
  | [], acc, ρ, acc', ρ', h => by
    simp only [lcT, Option.some.injEq, Prod.mk.injEq] at h
    exact ⟨ρ, h.2.symm⟩
  | d :: ds, acc, ρ, acc', ρ', h => by
    unfold lcT at h
    split at h
    · split at h
      · split at h
        · split at h
          · exact lcT_wiped h
          · cases h
        · cases h
      · exact lcT_wiped h
      · cases h
    · cases h
theorem denI_bnd {Post : Hp → Hp → O D → Prop} {m : M (List D)} {k : List D → M D} {o : O D} {ρ : List D} {B F : Hp} {R : It → Hp → Prop} (hX : ∀ B F x ρ', Post B F (.ex x ρ') → PostX X W σ B F x ρ') (hm : ∀ B F F' o, Exx F F' → Post B F o → Post B F' o)
    (s : Sta X.K X.mg B F H σ ρ) (h : bnd m k ρ = some o) (p : Post B F o) (hR : ∀ J B F H ρ o ds, Sta X.K X.mg B F H σ ρ → Yl X J ds F → k ds ρ = some o → Post B F o → R J H) : denI X W m σ H R := by
  unfold bnd at h
  cases hmr : m ρ with
  | none => rw [hmr] at h; cases h
  | some o1 =>
    rw [hmr] at h
    cases o1 with
    | ex x ρ' =>
      simp only [Option.some.injEq] at h
      subst h
      exact ⟨B, F, ρ, _, s, hmr, hX _ _ _ _ p⟩
    | ok x ρ' => exact ⟨B, F, ρ, _, s, hmr, fun J F' H' eF s' y => hR J B F' H' ρ' o x s' y h (hm _ _ _ _ eF p)⟩
theorem lc_ok {src : M (List D)} {g : G} {t : M Bool} {m : M D} {vs is : List Nat} (his : ∀ j ∈ is, j ∈ vs) {W' : WX} {Q : VK} (h : den X W (dLc src g t m vs) σ H Q) : tLc (denI X W src) (denG X is g) (denT X W' t) (den X W' m) vs σ H Q := by
  obtain ⟨B, F, ρ, o, s, e, p⟩ := h
  refine denI_bnd (Post := fun B F o => PostE X W σ B F Q o) postE_X postE_m s e p ?_
  clear e p s
  intro J B F0 H0 ρ o ds s y e p Dl hD
  cases hl : lcT g t m vs ds [] (wipeD ρ vs) with
  | none => rw [hl] at e; cases e
  | some ar =>
    obtain ⟨accE, ρE⟩ := ar
    rw [hl] at e
    cases e
    obtain ⟨ρE', rfl⟩ := lcT_wiped hl
    let Iv : Nat → Hp → Prop := fun i H => i ≤ ds.length ∧ ∃ F acc ρi, Exx F0 F ∧ Sta X.K X.mg B F H (some (.ref Dl) :: L2.wipe σ vs) (.nd true .lst acc :: wipeD ρi vs) ∧ lcT g t m vs (ds.drop i) acc (wipeD ρi vs) = some (accE, wipeD ρE' vs)
    refine ⟨fun i n H => n = ds.length - i ∧ Iv i H, ⟨ds.length, by simp, Nat.zero_le _, F0, [], ρ, .refl F0, ?_, by simpa using hl⟩, ?_⟩
    · have s1 := s.wipe vs
      exact Sta.newO (vs := []) (ds := []) rfl s1 hD rfl
    · rintro i n H1 ⟨rfl, hi, F1, acc, ρi, eF, s1, e1⟩
      obtain ⟨y1, y2⟩ := y B F1 H1 _ _ eF s1
      by_cases hlt : i < ds.length
      · right
        obtain ⟨go, step⟩ := y1 i ds[i] (by simp [hlt])
        refine ⟨go, Iv (i + 1), fun H' p' => ⟨ds.length - (i + 1), by omega, rfl, p'⟩, fun x H2 yy => ?_⟩
        obtain ⟨F2, eF2, s2⟩ := step x H2 yy
        rw [List.drop_eq_getElem_cons hlt] at e1
        unfold lcT at e1
        cases hg : g ds[i] (wipeD ρi vs) with
        | none => rw [hg] at e1; cases e1
        | some ρ1 =>
          rw [hg] at e1
          simp only at e1
          obtain ⟨B2, s3, back⟩ := s2.swap.push
          refine ⟨B2, F2, wipeD ρi vs, ds[i], ρ1, s3, hg, fun σ2 F3 H3 eF3 kp s4 => ⟨wipe_eq kp his, ?_⟩⟩
          have hw := wipe_eq kp his
          cases ht : t ρ1 with
          | none => rw [ht] at e1; cases e1
          | some ot =>
            rw [ht] at e1
            cases ot with
            | ex z ρ' => cases e1
            | ok b ρ2 =>
              refine ⟨B2, F3, ρ1, _, s4, ht, fun F4 H4 eF4 s5 => ?_⟩
              cases b with
              | false =>
                rw [if_neg Bool.false_ne_true]
                simp only at e1
                refine ⟨hlt, F4, acc, ρ2, ((eF.trans eF2).trans eF3).trans eF4, ?_, e1⟩
                have s6 := s5.wipe vs
                rw [hw] at s6
                exact back F4 H4 _ _ (eF3.trans eF4) s6
              | true =>
                rw [if_pos rfl]
                simp only at e1
                cases hm : m ρ2 with
                | none => rw [hm] at e1; cases e1
                | some om =>
                  rw [hm] at e1
                  cases om with
                  | ex z ρ' => cases e1
                  | ok yv ρ3 =>
                    simp only at e1
                    split at e1
                    · rename_i hacc
                      refine ⟨B2, F4, ρ2, _, s5, hm, fun v F5 H5 eF5 s6 => ?_⟩
                      -- the slots of the block are forgotten, the value goes into the list
                      obtain ⟨B3, s7, back3⟩ := s6.push
                      have s8 := s7.wipe vs
                      rw [hw] at s8
                      have s9 := back3 F5 H5 _ _ (.refl F5) s8
                      have s10 := back F5 H5 _ _ ((eF3.trans eF4).trans eF5) s9
                      obtain ⟨a, ws, ha, hH, hlen, s11⟩ := s10.append
                      cases ha
                      refine ⟨ws, hH, by have := szl; omega, hlt, F5, acc ++ [yv], ρ3, (((eF.trans eF2).trans eF3).trans eF4).trans eF5, s11, e1⟩
                    · cases e1
      · left
        have hie : i = ds.length := by omega
        subst hie
        rw [List.drop_length] at e1
        simp only [lcT, Option.some.injEq, Prod.mk.injEq] at e1
        obtain ⟨rfl, e2⟩ := e1
        rw [e2] at s1
        refine ⟨y2, ?_⟩
        obtain ⟨B2, s2, back⟩ := s1.push
        have s3 := Sta.unwipe s eF s2 vs
        exact p (.ref Dl) F1 H1 eF (back F1 H1 _ _ (.refl F1) s3)
/-- a comprehension as a value -/
theorem de_lc {elt tg iter : Expr} {ifs : List Expr} {scope : Scope} {own : List (Str × Nat)} {pos : Pos} {src : M (List D)} {g : G} {t : M Bool} {m : M D} {W' : WX} {is : List Nat} (hc : X.calm = true) (hN : X.N.Nodup) (hi : DI X W tg iter src) (ok : BlkOk X.N X.env.scope scope own)
    (his : ∀ j ∈ is, j ∈ own.map (·.2))
    (hg : ∀ (s : Shared) (H : Hp) (C : Addr) (cl : List (Str × Addr)) (fp : List Addr), PG (X.blk s H scope (compEnvC scope cl C X.env) fp) tg (denG (X.blk s H scope (compEnvC scope cl C X.env) fp) is g))
    (ht : ∀ (s : Shared) (H : Hp) (C : Addr) (cl : List (Str × Addr)) (fp : List Addr), PTs (X.blk s H scope (compEnvC scope cl C X.env) fp) ifs (denT (X.blk s H scope (compEnvC scope cl C X.env) fp) W' t))
    (he : ∀ (s : Shared) (H : Hp) (C : Addr) (cl : List (Str × Addr)) (fp : List Addr), PE (X.blk s H scope (compEnvC scope cl C X.env) fp) elt (den (X.blk s H scope (compEnvC scope cl C X.env) fp) W' m)) (hs : ∀ x, foldedSetIterable iter X.env x = pure x := by intro _; rfl) :
    DE X W (.ListComp elt [⟨tg, iter, ifs, 0⟩] scope pos) (dLc src g t m (own.map (·.2))) :=
  PE_imp (pe_lc hc hN hi ok hg ht he hs) fun σ H Q h => lc_ok (W' := W') (is := is) his h
end
end DL

/-! DL10: statements. -/
namespace DL
open PySem L2
inductive Fl where
  | nx (ρ : List D) | rt (d : D) (ρ : List D) | bk (ρ : List D) | ct (ρ : List D) | ex (x : D) (ρ : List D)
abbrev S := List D → Option Fl
section
variable {X : Cx} {W : WX} {is : List Nat}
def PostS (X : Cx) (W : WX) (is : List Nat) (D' : Ends) (σ : L2.St) (B F : Hp) : Fl → Prop
  | .nx ρ' => ∀ σ' F' H', Exx F F' → Kp is σ σ' → Sta X.K X.mg B F' H' σ' ρ' → D'.nx σ' H'
  | .bk ρ' => ∀ σ' F' H', Exx F F' → Kp is σ σ' → Sta X.K X.mg B F' H' σ' ρ' → D'.bk σ' H'
  | .ct ρ' => ∀ σ' F' H', Exx F F' → Kp is σ σ' → Sta X.K X.mg B F' H' σ' ρ' → D'.ct σ' H'
  | .rt d ρ' => ∀ σ' v F' H', Exx F F' → Kp is σ σ' → Sta X.K X.mg B F' H' (some v :: σ') (d :: ρ') → D'.rt v H'
  | .ex x ρ' => ∀ σ' cls dd F' H', Exx F F' → Kp is σ σ' → Sta X.K X.mg B F' H' σ' ρ' → XIs X.K X.mg F' H' x cls dd → W cls dd σ' H'
def denS (X : Cx) (W : WX) (is : List Nat) (m : S) : TS := fun D' σ H => ∃ B F ρ o, Sta X.K X.mg B F H σ ρ ∧ m ρ = some o ∧ PostS X W is D' σ B F o
abbrev DS (X : Cx) (W : WX) (is : List Nat) (st : Stmt) (m : S) : Prop := PS X st (denS X W is m)
abbrev DSs (X : Cx) (W : WX) (is : List Nat) (st : List Stmt) (m : S) : Prop := PSs X st (denS X W is m)
theorem PostS.mono {D' : Ends} {σ σ1 : L2.St} {B F F' : Hp} {o : Fl} (eF : Exx F F') (k : Kp is σ σ1) (h : PostS X W is D' σ B F o) : PostS X W is D' σ1 B F' o := by
  cases o with
  | nx ρ' => exact fun σ' F2 H2 e2 k2 s => h σ' F2 H2 (eF.trans e2) (k.trans k2) s
  | bk ρ' => exact fun σ' F2 H2 e2 k2 s => h σ' F2 H2 (eF.trans e2) (k.trans k2) s
  | ct ρ' => exact fun σ' F2 H2 e2 k2 s => h σ' F2 H2 (eF.trans e2) (k.trans k2) s
  | rt d ρ' => exact fun σ' v F2 H2 e2 k2 s => h σ' v F2 H2 (eF.trans e2) (k.trans k2) s
  | ex x ρ' => exact fun σ' cls dd F2 H2 e2 k2 s x => h σ' cls dd F2 H2 (eF.trans e2) (k.trans k2) s x
theorem PostS.xe {D' : Ends} {σ : L2.St} {B F : Hp} {x : D} {ρ' : List D} (h : PostS X W is D' σ B F (.ex x ρ')) : PostX X W σ B F x ρ' := fun cls dd F' H' e s x => h σ cls dd F' H' e (.refl _ _) s x
/-- what follows a value -/
def sBnd {α : Type} (m : M α) (k : α → S) : S := fun ρ => match m ρ with
  | some (.ok a ρ') => k a ρ'
  | some (.ex x ρ') => some (.ex x ρ')
  | none => none
theorem sBnd_ok {α : Type} {m : M α} {k : α → S} {ρ ρ' : List D} {a : α} (h : m ρ = some (.ok a ρ')) : sBnd m k ρ = k a ρ' := by unfold sBnd; rw [h]
theorem sBnd_ex {α : Type} {m : M α} {k : α → S} {ρ ρ' : List D} {x : D} (h : m ρ = some (.ex x ρ')) : sBnd m k ρ = some (.ex x ρ') := by unfold sBnd; rw [h]
theorem den_sBnd {D' : Ends} {σ : L2.St} {H : Hp} {B F : Hp} {m : M D} {k : D → S} {ρ : List D} {o : Fl} (s : Sta X.K X.mg B F H σ ρ) (h : sBnd m k ρ = some o) (p : PostS X W is D' σ B F o) :
    den X W m σ H fun v H1 => ∃ F1 ρ1 x, Exx F F1 ∧ Sta X.K X.mg B F1 H1 (some v :: σ) (x :: ρ1) ∧ k x ρ1 = some o ∧ PostS X W is D' σ B F1 o := by
  unfold sBnd at h
  cases hmr : m ρ with
  | none => rw [hmr] at h; cases h
  | some o1 =>
    rw [hmr] at h
    cases o1 with
    | ex x ρ' =>
      simp only [Option.some.injEq] at h
      subst h
      exact ⟨B, F, ρ, _, s, hmr, PostS.xe p⟩
    | ok x ρ' => exact ⟨B, F, ρ, _, s, hmr, fun v F' H' eF s' => ⟨F', ρ', x, eF, s', h, PostS.mono eF (.refl _ _) p⟩⟩
theorem denT_sBnd {D' : Ends} {σ : L2.St} {H : Hp} {B F : Hp} {m : M Bool} {k : Bool → S} {ρ : List D} {o : Fl} (s : Sta X.K X.mg B F H σ ρ) (h : sBnd m k ρ = some o) (p : PostS X W is D' σ B F o) :
    denT X W m σ H fun b H1 => denS X W is (k b) D' σ H1 := by
  unfold sBnd at h
  cases hmr : m ρ with
  | none => rw [hmr] at h; cases h
  | some o1 =>
    rw [hmr] at h
    cases o1 with
    | ex x ρ' =>
      simp only [Option.some.injEq] at h
      subst h
      exact ⟨B, F, ρ, _, s, hmr, PostS.xe p⟩
    | ok x ρ' => exact ⟨B, F, ρ, _, s, hmr, fun F' H' eF s' => ⟨B, F', ρ', o, s', h, PostS.mono eF (.refl _ _) p⟩⟩
/-! ### blocks -/
def sNil : S := fun ρ => some (.nx ρ)
def sSeq (m n : S) : S := fun ρ => match m ρ with
  | some (.nx ρ') => n ρ'
  | o => o
theorem sSeq_nx {m n : S} {ρ ρ' : List D} (h : m ρ = some (.nx ρ')) : sSeq m n ρ = n ρ' := by unfold sSeq; rw [h]
variable {st : Stmt} {rest : List Stmt} {m n : S} {e : Expr} {pos : Pos}
theorem dss_nil : DSs X W is [] sNil := PSs_imp pss_nil fun D' σ H ⟨B, F, ρ, o, s, e, p⟩ => by
  cases e; exact p σ F H (.refl F) (.refl _ _) s
theorem dss_cons (h1 : DS X W is st m) (h2 : DSs X W is rest n) : DSs X W is (st :: rest) (sSeq m n) := PSs_imp (pss_cons h1 h2) fun D' σ H ⟨B, F, ρ, o, s, e, p⟩ => by
  unfold sSeq at e
  cases hm : m ρ with
  | none => rw [hm] at e; cases e
  | some o1 =>
    rw [hm] at e
    refine ⟨B, F, ρ, o1, s, hm, ?_⟩
    cases o1 with
    | nx ρ' => exact fun σ' F' H' eF k s' => ⟨B, F', ρ', o, s', e, PostS.mono eF k p⟩
    | bk ρ' => cases e; exact p
    | ct ρ' => cases e; exact p
    | rt d ρ' => cases e; exact p
    | ex x ρ' => cases e; exact p
theorem dss_one (h1 : DS X W is st m) : DSs X W is [st] m := pss_one h1
theorem ds_pass : DS X W is (.Pass pos) sNil := PS_imp ps_pass fun D' σ H ⟨B, F, ρ, o, s, e, p⟩ => by
  cases e; exact p σ F H (.refl F) (.refl _ _) s
theorem ds_doc {x j pos'} : DS X W is (.Expr (.Constant (.str x) j pos) pos') sNil := PS_imp ps_doc fun D' σ H ⟨B, F, ρ, o, s, e, p⟩ => by
  cases e; exact p σ F H (.refl F) (.refl _ _) s
def sBk : S := fun ρ => some (.bk ρ)
def sCt : S := fun ρ => some (.ct ρ)
theorem ds_break : DS X W is (.Break pos) sBk := PS_imp ps_break fun D' σ H ⟨B, F, ρ, o, s, e, p⟩ => by
  cases e; exact p σ F H (.refl F) (.refl _ _) s
theorem ds_continue : DS X W is (.Continue pos) sCt := PS_imp ps_continue fun D' σ H ⟨B, F, ρ, o, s, e, p⟩ => by
  cases e; exact p σ F H (.refl F) (.refl _ _) s
/-- an expression whose value is dropped -/
def sDrop (m : M D) : S := sBnd m fun _ ρ => some (.nx ρ)
theorem ds_expr {m : M D} (he : DE X W e m) (hs : swapsWith e none pos.line X.env = pure false := by rfl) : DS X W is (.Expr e pos) (sDrop m) := PS_imp (ps_expr he hs) fun D' σ H ⟨B, F, ρ, o, s, e, p⟩ => by
  refine den_weak (fun v H1 ⟨F, ρ, x, eF, s, e, p⟩ => ?_) (den_sBnd (is := is) s e p)
  cases e
  exact p σ F H1 (.refl F) (.refl _ _) s.drop
def sRet (m : M D) : S := sBnd m fun d ρ => some (.rt d ρ)
theorem ds_ret {m : M D} (he : DE X W e m) : DS X W is (.Return (some e) pos) (sRet m) := PS_imp (ps_ret he) fun D' σ H ⟨B, F, ρ, o, s, e, p⟩ => by
  refine den_weak (fun v H1 ⟨F, ρ, x, eF, s, e, p⟩ => ?_) (den_sBnd (is := is) s e p)
  cases e
  exact p σ v F H1 (.refl F) (.refl _ _) s
def sRetN : S := fun ρ => some (.rt .non ρ)
theorem ds_retN : DS X W is (.Return none pos) sRetN := PS_imp ps_retN fun D' σ H ⟨B, F, ρ, o, s, e, p⟩ => by
  cases e
  exact p σ .non F H (.refl F) (.refl _ _) (s.add .non)
def sIf (t : M Bool) (m n : S) : S := sBnd t fun b => if b = true then m else n
theorem ds_if {c : Expr} {a b : List Stmt} {t : M Bool} (hc : DT X W c t) (ha : DSs X W is a m) (hb : DSs X W is b n) : DS X W is (.If c a b pos) (sIf t m n) := PS_imp (ps_if hc ha hb) fun D' σ H ⟨B, F, ρ, o, s, e, p⟩ => by
  refine denT_weak (fun b H1 h => ?_) (denT_sBnd (is := is) s e p)
  cases b with
  | true => rw [if_pos rfl] at h ⊢; exact h
  | false => rw [if_neg Bool.false_ne_true] at h ⊢; exact h
/-! ### assignments -/
def sAsg (m : M D) (g : G) : S := sBnd m fun d ρ => match g d ρ with | some ρ' => some (.nx ρ') | none => none
theorem ds_set {i : Nat} {x : Str} {m : M D} {pos' : Pos} (hN : X.N.Nodup) (hi : X.N[i]? = some x) (hx : Loc X.env.scope x) (his : i ∈ is) (he : DE X W e m) (hs : swapsWith e (some (.Name x pos')) pos.line X.env = pure false := by rfl) (hf : X.fn x = true ∨ X.env.scope.names.lookup x = some .local := by first | exact .inl rfl | exact .inr rfl | assumption) :
    DS X W is (.Assign [.Name x pos'] e pos) (sAsg m (gN i)) := PS_imp (ps_set hN hi hx he hs hf) fun D' σ H ⟨B, F, ρ, o, s, e, p⟩ => by
  refine den_weak (fun v H1 ⟨F, ρ, y, eF, s, e, p⟩ => ?_) (den_sBnd (is := is) s e p)
  cases e
  exact p (σ.set i (some v)) F H1 (.refl F) (Kp.set is σ his _) (s.store i)
theorem ds_asg {tg : Expr} {m : M D} {g : G} (he : DE X W e m) (hg : DG X is tg g) (hs : swapsWithSole [tg] e pos.line X.env = pure false := by rfl) (hw : swappedStores [tg] e X.env = pure none := by rfl)
    (h1 : (assignEach [tg] X.env).map (·.2) = [assign tg X.env] := by rfl) : DS X W is (.Assign [tg] e pos) (sAsg m g) := PS_imp (ps_asg he hg hs hw h1) fun D' σ H ⟨B, F, ρ, o, s, e, p⟩ => by
  refine den_weak (fun v H1 ⟨F, ρ, y, eF, s, e, p⟩ => ?_) (den_sBnd (is := is) s e p)
  cases hg : g y ρ with
  | none => rw [hg] at e; cases e
  | some ρ' =>
    rw [hg] at e
    cases e
    exact ⟨B, F, ρ, y, ρ', s, hg, p⟩
/-- a list made by a comprehension, given to a name -/
theorem ds_setLc {i : Nat} {y : Str} {py : Pos} {elt tg iter : Expr} {ifs : List Expr} {scope : Scope} {own : List (Str × Nat)} {pos spos : Pos} {src : M (List D)} {g : G} {t : M Bool} {m : M D} {W' : WX} {js : List Nat} (hc : X.calm = true) (hN : X.N.Nodup) (hy : X.N[i]? = some y) (hyl : X.env.scope.names.lookup y = some .local)
    (his : i ∈ is) (hsw : swapsWith (.ListComp elt [⟨tg, iter, ifs, 0⟩] scope pos) (some (.Name y py)) spos.line X.env = pure true) (hi : DI X W tg iter src) (ok : BlkOk X.N X.env.scope scope own) (hjs : ∀ j ∈ js, j ∈ own.map (·.2))
    (hg : ∀ (s : Shared) (H : Hp) (C : Addr) (cl : List (Str × Addr)) (fp : List Addr), PG (X.blk s H scope (compEnvC scope cl C X.env) fp) tg (denG (X.blk s H scope (compEnvC scope cl C X.env) fp) js g))
    (ht : ∀ (s : Shared) (H : Hp) (C : Addr) (cl : List (Str × Addr)) (fp : List Addr), PTs (X.blk s H scope (compEnvC scope cl C X.env) fp) ifs (denT (X.blk s H scope (compEnvC scope cl C X.env) fp) W' t))
    (he : ∀ (s : Shared) (H : Hp) (C : Addr) (cl : List (Str × Addr)) (fp : List Addr), PE (X.blk s H scope (compEnvC scope cl C X.env) fp) elt (den (X.blk s H scope (compEnvC scope cl C X.env) fp) W' m)) (hs : ∀ x, foldedSetIterable iter X.env x = pure x := by intro _; rfl) :
    DS X W is (.Assign [.Name y py] (.ListComp elt [⟨tg, iter, ifs, 0⟩] scope pos) spos) (sAsg (dLc src g t m (own.map (·.2))) (gN i)) := PS_imp (ps_setLc hc hN hy hyl hsw hi ok hg ht he hs) fun D' σ H ⟨B, F, ρ, o, s, e, p⟩ => by
  refine lc_ok (W := W) (W' := W') (is := js) (g := g) (t := t) (m := m) hjs ?_
  refine den_weak (fun v H1 ⟨F, ρ, y, eF, s, e, p⟩ => ?_) (den_sBnd (is := is) s e p)
  cases e
  exact p (σ.set i (some v)) F H1 (.refl F) (Kp.set is σ his _) (s.store i)
/-- x op= e -/
def sAug (i : Nat) (f : D → D → Option D) (m : M D) : S := fun ρ0 => match ρ0[i]? with
  | some d0 => if shd d0 = true then (sBnd m fun y ρ => if whole y = true then (match f d0 (frz y) with | some z => some (.nx (ρ.set i z)) | none => none) else none) ρ0 else none
  | none => none
theorem ds_aug {i : Nat} {x : Str} {op : Operator} {r : TIp} {f : D → D → Option D} {m : M D} {pos' : Pos} (hN : X.N.Nodup) (hi : X.N[i]? = some x) (hx : Loc X.env.scope x) (his : i ∈ is) (he : DE X W e m) (ho : PIp X op r) (hf : OpS X r f)
    (hfn : X.fn x = true ∨ X.env.scope.names.lookup x = some .local := by first | exact .inl rfl | exact .inr rfl | assumption) : DS X W is (.AugAssign (.Name x pos') op e pos) (sAug i f m) := PS_imp (ps_aug hN hi hx he ho hfn) fun D' σ H ⟨B, F, ρ, o, s, e, p⟩ => by
  unfold sAug at e
  cases hd : ρ[i]? with
  | none => rw [hd] at e; cases e
  | some d0 =>
    rw [hd] at e
    simp only at e
    split at e
    · rename_i hs
      obtain ⟨v, hv, s1⟩ := s.take hd (whole_ne (shd_whole hs))
      have o0 := s1.headS hs
      refine ⟨v, hv, ?_⟩
      refine den_weak (fun u H1 ⟨F1, ρ1, y, eF, s, e, p⟩ => ?_) (den_sBnd (is := is) s e p)
      split at e
      · rename_i hw
        obtain ⟨F2, eF2, s2, r2⟩ := s.share hw
        cases hz : f d0 (frz y) with
        | none => rw [hz] at e; cases e
        | some z =>
          rw [hz] at e
          cases e
          refine hf s2 (o0.shared (eF.trans eF2)) r2 hz (fun w F3 H3 e3 s3 => ?_) hs (shd_frz hw)
          exact p (σ.set i (some w)) F3 H3 (eF2.trans e3) (Kp.set is σ his _) (s3.store i)
      · cases e
    · cases e
/-! ### loops -/
def forD (g : G) (b : S) : List D → S
  | [], ρ => some (.nx ρ)
  | d :: ds, ρ => match g d ρ with
    | some ρ1 => match b ρ1 with
      | some (.nx ρ2) => forD g b ds ρ2
      | some (.ct ρ2) => forD g b ds ρ2
      | some (.bk ρ2) => some (.nx ρ2)
      | o => o
    | none => none
def sFor (src : M (List D)) (g : G) (b : S) : S := sBnd src fun ds => forD g b ds
theorem denI_sBnd {D' : Ends} {σ : L2.St} {H : Hp} {B F : Hp} {m : M (List D)} {k : List D → S} {ρ : List D} {o : Fl} {R : It → Hp → Prop} (s : Sta X.K X.mg B F H σ ρ) (h : sBnd m k ρ = some o) (p : PostS X W is D' σ B F o)
    (hR : ∀ J F1 H1 ρ1 ds, Exx F F1 → Sta X.K X.mg B F1 H1 σ ρ1 → Yl X J ds F1 → k ds ρ1 = some o → PostS X W is D' σ B F1 o → R J H1) : denI X W m σ H R := by
  unfold sBnd at h
  cases hmr : m ρ with
  | none => rw [hmr] at h; cases h
  | some o1 =>
    rw [hmr] at h
    cases o1 with
    | ex x ρ' =>
      simp only [Option.some.injEq] at h
      subst h
      exact ⟨B, F, ρ, _, s, hmr, PostS.xe p⟩
    | ok x ρ' => exact ⟨B, F, ρ, _, s, hmr, fun J F' H' eF s' y => hR J F' H' ρ' x eF s' y h (PostS.mono eF (.refl _ _) p)⟩
theorem ds_for {tg iter : Expr} {body : List Stmt} {src : M (List D)} {g : G} {b : S} (hp : PassesOwn (model X.prog X.w) X.A X.env X.xe) (hc : X.calm = true) (hi : DI X W tg iter src) (hg : DG X is tg g) (hb : DSs X W is body b)
    (hs : ∀ x, foldedSetIterable iter X.env x = pure x := by intro _; rfl) : DS X W is (.For tg iter body [] pos) (sFor src g b) := PS_imp (ps_for hp hc hi hg hb hs) fun D' σ H ⟨B, F, ρ, o, s, e, p⟩ => by
  refine denI_sBnd (is := is) s e p ?_
  clear e p s
  intro J F0 H0 ρ0 ds _ s y e p
  refine ⟨fun i n σ1 H1 => n = ds.length - i ∧ i ≤ ds.length ∧ ∃ F1 ρ1, Exx F0 F1 ∧ Kp is σ σ1 ∧ Sta X.K X.mg B F1 H1 σ1 ρ1 ∧ forD g b (ds.drop i) ρ1 = some o, ⟨ds.length, by simp, Nat.zero_le _, F0, ρ0, .refl F0, .refl _ _, s, by simpa using e⟩, ?_⟩
  rintro i n σ1 H1 ⟨rfl, hi, F1, ρ1, eF, k1, s1, e1⟩
  obtain ⟨y1, y2⟩ := y B F1 H1 _ _ eF s1
  by_cases hlt : i < ds.length
  · right
    obtain ⟨go, step⟩ := y1 i ds[i] (by simp [hlt])
    refine ⟨go, fun σ' H' => i + 1 ≤ ds.length ∧ ∃ F1 ρ1, Exx F0 F1 ∧ Kp is σ σ' ∧ Sta X.K X.mg B F1 H' σ' ρ1 ∧ forD g b (ds.drop (i + 1)) ρ1 = some o, fun σ' H' p' => ⟨ds.length - (i + 1), by omega, rfl, p'⟩, fun x H2 yy => ?_⟩
    obtain ⟨F2, eF2, s2⟩ := step x H2 yy
    rw [List.drop_eq_getElem_cons hlt] at e1
    unfold forD at e1
    cases hg : g ds[i] ρ1 with
    | none => rw [hg] at e1; cases e1
    | some ρ2 =>
      rw [hg] at e1
      simp only at e1
      refine ⟨B, F2, ρ1, ds[i], ρ2, s2, hg, fun σ3 F3 H3 eF3 k3 s3 => ?_⟩
      have eF03 := (eF.trans eF2).trans eF3
      have k03 := k1.trans k3
      cases hb : b ρ2 with
      | none => rw [hb] at e1; cases e1
      | some ob =>
        rw [hb] at e1
        refine ⟨B, F3, ρ2, ob, s3, hb, ?_⟩
        cases ob with
        | nx ρ3 => exact fun σ4 F4 H4 eF4 k4 s4 => ⟨hlt, F4, ρ3, eF03.trans eF4, k03.trans k4, s4, e1⟩
        | ct ρ3 => exact fun σ4 F4 H4 eF4 k4 s4 => ⟨hlt, F4, ρ3, eF03.trans eF4, k03.trans k4, s4, e1⟩
        | bk ρ3 => cases e1; exact fun σ4 F4 H4 eF4 k4 s4 => p σ4 F4 H4 (eF03.trans eF4) (k03.trans k4) s4
        | rt d ρ3 => cases e1; exact fun σ4 v F4 H4 eF4 k4 s4 => p σ4 v F4 H4 (eF03.trans eF4) (k03.trans k4) s4
        | ex x ρ3 => cases e1; exact fun σ4 cls dd F4 H4 eF4 k4 s4 x4 => p σ4 cls dd F4 H4 (eF03.trans eF4) (k03.trans k4) s4 x4
  · left
    have hie : i = ds.length := by omega
    subst hie
    rw [List.drop_length] at e1
    cases e1
    exact ⟨y2, p σ1 F1 H1 eF k1 s1⟩
/-- while, with so many turns at most -/
def whileN (c : M Bool) (b : S) : Nat → S
  | 0, _ => none
  | n + 1, ρ => match c ρ with
    | some (.ok false ρ1) => some (.nx ρ1)
    | some (.ok true ρ1) => match b ρ1 with
      | some (.nx ρ2) => whileN c b n ρ2
      | some (.ct ρ2) => whileN c b n ρ2
      | some (.bk ρ2) => some (.nx ρ2)
      | o => o
    | some (.ex x ρ1) => some (.ex x ρ1)
    | none => none
open Classical in
/-- while: what comes out with turns enough -/
noncomputable def sWhile (c : M Bool) (b : S) : S := fun ρ => if h : ∃ n o, whileN c b n ρ = some o then whileN c b (Classical.choose h) ρ else none
theorem whileN_mono {c : M Bool} {b : S} : ∀ {n : Nat} {ρ : List D} {o : Fl}, whileN c b n ρ = some o → ∀ k, whileN c b (n + k) ρ = some o
  | 0, ρ, o, h, k => by simp [whileN] at h
  | n + 1, ρ, o, h, k => by
    have e : n + 1 + k = (n + k) + 1 := by omega
    rw [e]
    unfold whileN at h ⊢
    cases hc : c ρ with
    | none => rw [hc] at h; cases h
    | some oc =>
      rw [hc] at h
      cases oc with
      | ex x ρ1 => exact h
      | ok t ρ1 =>
        cases t with
        | false => exact h
        | true =>
          simp only at h ⊢
          cases hb : b ρ1 with
          | none => rw [hb] at h; cases h
          | some ob =>
            rw [hb] at h
            cases ob with
            | nx ρ2 => exact whileN_mono h k
            | ct ρ2 => exact whileN_mono h k
            | bk ρ2 => exact h
            | rt d ρ2 => exact h
            | ex x ρ2 => exact h
theorem sWhile_of {c : M Bool} {b : S} {n : Nat} {ρ : List D} {o : Fl} (h : whileN c b n ρ = some o) : sWhile c b ρ = some o := by
  unfold sWhile
  have hh : ∃ n o, whileN c b n ρ = some o := ⟨n, o, h⟩
  rw [dif_pos hh]
  obtain ⟨o', ho'⟩ := Classical.choose_spec hh
  have h1 := whileN_mono ho' n
  have h2 := whileN_mono h (Classical.choose hh)
  rw [Nat.add_comm, h2] at h1
  cases h1
  exact ho'
theorem of_sWhile {c : M Bool} {b : S} {ρ : List D} {o : Fl} (h : sWhile c b ρ = some o) : ∃ n, whileN c b n ρ = some o := by
  unfold sWhile at h
  split at h
  · exact ⟨_, h⟩
  · cases h
theorem ds_while {c : Expr} {body : List Stmt} {t : M Bool} {b : S} (hp : PassesOwn (model X.prog X.w) X.A X.env X.xe) (hc : DT X W c t) (hb : DSs X W is body b) : DS X W is (.While c body [] pos) (sWhile t b) := PS_imp (ps_while hp hc hb) fun D' σ H ⟨B, F, ρ, o, s, e, p⟩ => by
  obtain ⟨n0, e⟩ := of_sWhile e
  refine ⟨fun n σ1 H1 => ∃ F1 ρ1, Exx F F1 ∧ Kp is σ σ1 ∧ Sta X.K X.mg B F1 H1 σ1 ρ1 ∧ whileN t b n ρ1 = some o, ⟨n0, F, ρ, .refl F, .refl _ _, s, e⟩, ?_⟩
  rintro n σ1 H1 ⟨F1, ρ1, eF, k1, s1, e1⟩
  cases n with
  | zero => simp [whileN] at e1
  | succ n =>
    unfold whileN at e1
    cases hc : t ρ1 with
    | none => rw [hc] at e1; cases e1
    | some oc =>
      rw [hc] at e1
      refine ⟨B, F1, ρ1, oc, s1, hc, ?_⟩
      cases oc with
      | ex x ρ2 =>
        cases e1
        exact fun cls dd F2 H2 e2 s2 x2 => p σ1 cls dd F2 H2 (eF.trans e2) k1 s2 x2
      | ok k ρ2 =>
        intro F2 H2 eF2 s2
        cases k with
        | false =>
          rw [if_neg Bool.false_ne_true]
          cases e1
          exact p σ1 F2 H2 (eF.trans eF2) k1 s2
        | true =>
          rw [if_pos rfl]
          simp only at e1
          refine ⟨fun σ' H' => ∃ F1 ρ1, Exx F F1 ∧ Kp is σ σ' ∧ Sta X.K X.mg B F1 H' σ' ρ1 ∧ whileN t b n ρ1 = some o, fun σ' H' h => ⟨n, Nat.lt_succ_self n, h⟩, ?_⟩
          cases hb : b ρ2 with
          | none => rw [hb] at e1; cases e1
          | some ob =>
            rw [hb] at e1
            refine ⟨B, F2, ρ2, ob, s2, hb, ?_⟩
            have e02 := eF.trans eF2
            cases ob with
            | nx ρ3 => exact fun σ4 F4 H4 eF4 k4 s4 => ⟨F4, ρ3, e02.trans eF4, k1.trans k4, s4, e1⟩
            | ct ρ3 => exact fun σ4 F4 H4 eF4 k4 s4 => ⟨F4, ρ3, e02.trans eF4, k1.trans k4, s4, e1⟩
            | bk ρ3 => cases e1; exact fun σ4 F4 H4 eF4 k4 s4 => p σ4 F4 H4 (e02.trans eF4) (k1.trans k4) s4
            | rt d ρ3 => cases e1; exact fun σ4 v F4 H4 eF4 k4 s4 => p σ4 v F4 H4 (e02.trans eF4) (k1.trans k4) s4
            | ex x ρ3 => cases e1; exact fun σ4 cls dd F4 H4 eF4 k4 s4 x4 => p σ4 cls dd F4 H4 (e02.trans eF4) (k1.trans k4) s4 x4
end
end DL

/-! DL11: lists changed; defs, calls. -/
namespace DL
open PySem L2
section
variable {K : PySem.W.Frag} {mg : Str → Option Value} {B F H : Hp} {σ : L2.St} {ρ : List D} {i : Nat}
theorem Sta.take1 {y d : D} {u : V} (s : Sta K mg B F H (some u :: σ) (y :: ρ)) (h : ρ[i]? = some d) (w : d ≠ .un) :
    ∃ v, σ[i]? = some (some v) ∧ Sta K mg B F H (some v :: some u :: σ) (d :: y :: ρ.set i .un) := by
  obtain ⟨v, h1, h2⟩ := s.take (i := i + 1) (by simpa using h) w
  exact ⟨v, by simpa using h1, by simpa using h2⟩
/-- a value among values comes to the front -/
theorem Sta.front {v : V} {d : D} : ∀ {B : Hp} {vs : List V} {ds : List D}, vs.length = ds.length → Sta K mg B F H (vs.map some ++ some v :: σ) (ds ++ d :: ρ) → Sta K mg B F H (some v :: (vs.map some ++ σ)) (d :: (ds ++ ρ))
  | _, [], [], _, s => s
  | _, [], _ :: _, h, _ => by simp at h
  | _, _ :: _, [], h, _ => by simp at h
  | _, w :: vs, e :: ds, h, s => by
    simp only [List.map_cons, List.cons_append] at s
    obtain ⟨B', s1, back⟩ := s.push
    have s2 := Sta.front (vs := vs) (ds := ds) (by simpa using h) s1
    exact (back F H _ _ (.refl F) s2).swap
theorem put_un : ∀ {l : List D} {i : Nat}, (l.set i .un).set i .un = l.set i .un := by intro l i; simp
end
section
variable {X : Cx} {W : WX} {is : List Nat} {x : Str} {e o : Expr} {es : List Expr} {pos apos p : Pos} {i : Nat} {σ : L2.St} {H : Hp}
theorem sqL_lst {K : PySem.W.Frag} {mg : Str → Option Value} {B F H : Hp} {ρ : List D} {v : V} {ds : List D} (s : Sta K mg B F H (some v :: σ) (.nd true .lst ds :: ρ)) : ∃ a vs, v = .ref a ∧ H a = some (.lst vs) := by
  obtain ⟨a, o, vs, rfl, h1, h2, _⟩ := s.explode
  cases h2
  exact ⟨a, vs, rfl, h1⟩
/-- x.append(e) -/
def dApp (i : Nat) (m : M D) : M D := fun ρ0 => match ρ0[i]? with
  | some (.nd true .lst _) => (bnd m fun y ρ => match ρ[i]? with
    | some (.nd true .lst ds) => if ds.length < 100000 then some (.ok .non (ρ.set i (.nd true .lst (ds ++ [y])))) else none
    | _ => none) ρ0
  | _ => none
theorem de_append {m : M D} (ha : PE X (.Name x p) (tVar i)) (he : DE X W e m)
    (hbase : attributeBase (.Name x p) "append" X.env (eval (.Name x p) X.env) = eval (.Name x p) X.env := by rfl)
    (hfew : ((backTo pos (starEach [e] X.env)).all (fun x => !x.1) && (backToKw pos (keywordEach [] X.env)).all (fun x => x.1.isSome)
      && decide (([e] : List Expr).length + ([] : List Keyword).length + (if ([] : List Keyword).isEmpty then 0 else 1) < 30)) = true := by rfl)
    (hline : (apos.endLine == pos.line) = true := by rfl) (hs : starEach [e] X.env = (false, eval e X.env) :: starEach [] X.env := by rfl) :
    DE X W (.Call (.Attribute (.Name x p) "append" apos) [e] [] pos) (dApp i m) :=
  PE_imp (pe_bm PySem.F.plainAttrs_list PySem.F.slot_list_append PySem.F.type_list_append mt_append ha (pa_cons he pa_nil hs) hbase hfew hline hs) fun σ H Q ⟨B, F, ρ, o, s, e, p⟩ => by
    unfold dApp at e
    split at e
    · rename_i ds0 hi
      obtain ⟨v, hv, s1⟩ := s.take hi (by simp)
      obtain ⟨a, vs, rfl, hH⟩ := sqL_lst s1
      refine ⟨_, hv, .inl ⟨rfl, vs, SqL.of hH⟩, ?_⟩
      refine den_weak ?_ (den_bnd (Post := fun B F o => PostE X W σ B F Q o) postE_X postE_m s e p)
      intro u H1 ⟨B, F, ρ, o, y, s, e, p⟩
      dsimp only at e
      split at e
      · rename_i ds hi
        split at e
        · rename_i hl
          cases e
          obtain ⟨v', hv', s2⟩ := s.take1 hi (by simp)
          rw [hv] at hv'
          cases hv'
          obtain ⟨a', ws, ha', hH', hlen, s3⟩ := s2.append
          cases ha'
          have s4 := s3.put hv
          rw [set_set_self] at s4
          exact ⟨a, ws, u, rfl, rfl, hH', by have := szl; omega, p _ F _ (.refl F) (s4.add .non)⟩
        · cases e
      · cases e
    · cases e
/-- x.extend(e), e a list -/
def dExt (i : Nat) (m : M D) : M D := fun ρ0 => match ρ0[i]? with
  | some (.nd true .lst _) => (bnd m fun y ρ => if whole y = true then (match frz y, ρ[i]? with
    | .nd _ .lst es, some (.nd true .lst ds) => if ds.length + es.length < 100000 then some (.ok .non (ρ.set i (.nd true .lst (ds ++ es)))) else none
    | _, _ => none) else none) ρ0
  | _ => none
theorem de_extend {m : M D} (ha : PE X (.Name x p) (tVar i)) (he : DE X W e m)
    (hbase : attributeBase (.Name x p) "extend" X.env (eval (.Name x p) X.env) = eval (.Name x p) X.env := by rfl)
    (hfew : ((backTo pos (starEach [e] X.env)).all (fun x => !x.1) && (backToKw pos (keywordEach [] X.env)).all (fun x => x.1.isSome)
      && decide (([e] : List Expr).length + ([] : List Keyword).length + (if ([] : List Keyword).isEmpty then 0 else 1) < 30)) = true := by rfl)
    (hline : (apos.endLine == pos.line) = true := by rfl) (hs : starEach [e] X.env = (false, eval e X.env) :: starEach [] X.env := by rfl) :
    DE X W (.Call (.Attribute (.Name x p) "extend" apos) [e] [] pos) (dExt i m) :=
  PE_imp (pe_bm PySem.F.plainAttrs_list PySem.F.slot_list_extend PySem.F.type_list_extend mt_extend ha (pa_cons he pa_nil hs) hbase hfew hline hs) fun σ H Q ⟨B, F, ρ, o, s, e, p⟩ => by
    unfold dExt at e
    split at e
    · rename_i ds0 hi
      obtain ⟨v, hv, s1⟩ := s.take hi (by simp)
      obtain ⟨a, vs, rfl, hH⟩ := sqL_lst s1
      refine ⟨_, hv, .inl ⟨rfl, vs, SqL.of hH⟩, ?_⟩
      refine den_weak ?_ (den_bnd (Post := fun B F o => PostE X W σ B F Q o) postE_X postE_m s e p)
      intro u H1 ⟨B, F, ρ, o, y, s, e, p⟩
      dsimp only at e
      split at e
      · rename_i hw
        obtain ⟨F', eF, s2, r2⟩ := s.share hw
        split at e
        · rename_i oo es ds hy hi
          split at e
          · rename_i hl
            cases e
            rw [hy] at r2
            obtain ⟨_, b, us, rfl, o1, l1⟩ := r2.nd_inv
            obtain ⟨v', hv', s3⟩ := s2.take hi (by simp)
            rw [hv] at hv'
            cases hv'
            obtain ⟨a', o', ws, ha', hH', ho', hlen, hB, hF, h6⟩ := s3.explode
            cases ha'
            cases ho'
            have s4 := h6 (.lst (ws ++ us))
            have l2 : OwnL X.K X.mg F' (upd H1 a (.lst (ws ++ us))) us es [] := l1.frame (.refl F') fun a h => by cases h
            -- the children of the list, the new ones behind them
            have s5 : Sta X.K X.mg (upd B a (.lst (ws ++ us))) F' (upd H1 a (.lst (ws ++ us))) ((ws ++ us).map some ++ σ) ((ds ++ es) ++ ρ.set i .un) := by
              obtain ⟨⟨f, t, nd, nb⟩, ex, bx, dis⟩ := s4
              obtain ⟨f1, f2, h1, h2, rfl⟩ := OwnL.of_env hlen t
              have t2 := EnvL.of_own h2 l2
              have t3 := EnvL.of_own t2 h1
              refine ⟨⟨f1 ++ ([] ++ f2), ?_, by simpa using nd, by simpa using nb⟩, ex, bx, dis⟩
              simpa using t3
            have s6 := (s5.rebuild (k := .lst) hB (by simp [hlen, l1.len]) rfl).put hv
            rw [set_set_self] at s6
            exact ⟨a, b, ws, us, rfl, rfl, hH', s2.ex _ _ o1, by have := szl; have := l1.len; omega, p _ F' _ eF (s6.add .non)⟩
          · cases e
        · cases e
      · cases e
    · cases e
/-- x.pop() -/
def dPop (i : Nat) : M D := fun ρ => match ρ[i]? with
  | some (.nd true .lst ds) => match ds[ds.length - 1]? with
    | some d => if whole d = true then some (.ok d (ρ.set i (.nd true .lst ds.dropLast))) else none
    | none => none
  | _ => none
theorem split_last {α : Type} : ∀ {l : List α} {a : α}, l[l.length - 1]? = some a → l = l.dropLast ++ [a] := by
  intro l a h
  rcases List.eq_nil_or_concat l with rfl | ⟨L, b, rfl⟩
  · simp at h
  · simp at h; subst h; simp
theorem de_pop (ha : PE X (.Name x p) (tVar i)) (hbase : attributeBase (.Name x p) "pop" X.env (eval (.Name x p) X.env) = eval (.Name x p) X.env := by rfl) (hline : (apos.endLine == pos.line) = true := by rfl) :
    DE X W (.Call (.Attribute (.Name x p) "pop" apos) [] [] pos) (dPop i) :=
  PE_imp (pe_bm0 PySem.F.plainAttrs_list PySem.F.slot_list_pop PySem.F.type_list_pop mt_pop ha hbase hline) fun σ H Q ⟨B, F, ρ, o, s, e, p⟩ => by
    unfold dPop at e
    split at e
    · rename_i ds hi
      split at e
      · rename_i d hd
        split at e
        · rename_i hw
          cases e
          obtain ⟨v, hv, s1⟩ := s.take hi (by simp)
          obtain ⟨a, o', vs, rfl, hH, ho', hlen, hB, hF, h6⟩ := s1.explode
          cases ho'
          have hne : 0 < vs.length := by
            rw [hlen]
            obtain ⟨h, _⟩ := List.getElem?_eq_some_iff.mp hd
            omega
          obtain ⟨w, hw'⟩ : ∃ w, vs[vs.length - 1]? = some w := ⟨_, List.getElem?_eq_getElem (by omega)⟩
          have e1 := split_last hw'
          have e2 := split_last hd
          have s2 := h6 (.lst vs.dropLast)
          rw [e1, e2] at s2
          have hl' : vs.dropLast.length = ds.dropLast.length := by simp [hlen]
          have s3 : Sta X.K X.mg (upd B a (.lst vs.dropLast)) F (upd H a (.lst vs.dropLast)) (vs.dropLast.map some ++ some w :: σ) (ds.dropLast ++ d :: ρ.set i .un) := by
            have : ∀ (l : List V), (vs.dropLast ++ [w]).dropLast = vs.dropLast := fun _ => by simp
            simpa using s2
          have s4 := Sta.front hl' s3
          obtain ⟨B', s5, back⟩ := s4.push
          refine ⟨_, hv, .inl ⟨rfl, vs, SqL.of hH⟩, a, vs, w, rfl, rfl, hH, hw', ?_⟩
          have s6 : Sta X.K X.mg (upd B a (.lst vs.dropLast)) F (upd H a (.lst vs.dropLast)) (vs.dropLast.map some ++ (some w :: σ)) (ds.dropLast ++ (d :: ρ.set i .un)) := s3
          have s7 := (s6.rebuild (k := .lst) hB hl' rfl).put (i := i + 1) (by simpa using hv)
          simp only [List.set_cons_succ, set_set_self] at s7
          exact p w F _ (.refl F) s7
        · cases e
      · cases e
    · cases e
/-- o[k] = e, o an owned list in the slot i -/
def sSetIx (i : Nat) (mk me : M D) : S := sBnd me fun y ρ0 => match ρ0[i]? with
  | some (.nd true .lst _) => (sBnd mk fun k ρ => match k, ρ[i]? with
    | .int j, some (.nd true .lst ds) => match ixN ds.length j with
      | some n => some (.nx (ρ.set i (.nd true .lst (ds.set n y))))
      | none => none
    | _, _ => none) ρ0
  | _ => none
theorem OwnL.setAt {K : PySem.W.Frag} {mg : Str → Option Value} {F H : Hp} {σ : L2.St} {ρ : List D} {B : Hp} {v : V} {y : D} : ∀ {n : Nat} {vs : List V} {ds : List D}, vs.length = ds.length → Sta K mg B F H (vs.map some ++ some v :: σ) (ds ++ y :: ρ) → Sta K mg B F H ((vs.set n v).map some ++ σ) (ds.set n y ++ ρ) := by
  intro n vs ds hl s
  by_cases hn : n < vs.length
  · -- the old one at n is dropped, the new one goes to its place
    have s1 := Sta.front hl s
    have e1 : (vs.map some ++ σ).set n (some v) = (vs.set n v).map some ++ σ := by
      rw [List.set_append_left _ _ (by simpa using hn), List.map_set]
    have e2 : (ds ++ ρ).set n y = ds.set n y ++ ρ := by
      rw [List.set_append_left _ _ (by omega)]
    have s2 := s1.store n
    rw [e1, e2] at s2
    exact s2
  · rw [List.set_eq_of_length_le (by omega), List.set_eq_of_length_le (by omega)]
    have s1 := Sta.front hl s
    exact s1.drop
theorem ds_setIx {k : Expr} {p2 : Pos} {mk me : M D} (ha : PE X (.Name x p) (tVar i)) (hk : DE X W k mk) (he : DE X W e me)
    (hset : ∀ v, assign (.Subscript (.Name x p) k p2) X.env v = (do
      let ov ← holding [v] (eval (.Name x p) X.env)
      let iv ← holding [v, ov] (eval k X.env)
      standAt p2
      holding [v, ov, iv] (setItem ov iv v)
      release [v, ov, iv] []) := by intro _; rfl)
    (hs : swapsWithSole [.Subscript (.Name x p) k p2] e pos.line X.env = pure false := by rfl) (hw : swappedStores [.Subscript (.Name x p) k p2] e X.env = pure none := by rfl)
    (h1 : (assignEach [.Subscript (.Name x p) k p2] X.env).map (·.2) = [assign (.Subscript (.Name x p) k p2) X.env] := by rfl) : DS X W is (.Assign [.Subscript (.Name x p) k p2] e pos) (sSetIx i mk me) :=
  PS_imp (ps_asg he (pg_sub ha hk set_list hset) hs hw h1) fun D' σ H ⟨B, F, ρ, o, s, e, p⟩ => by
    refine den_weak (fun u H1 ⟨F, ρ, y, eF, s, e, p⟩ => ?_) (den_sBnd (is := is) s e p)
    split at e
    · rename_i ds0 hi
      obtain ⟨v, hv, s1⟩ := s.take1 hi (by simp)
      refine ⟨v, hv, ?_⟩
      clear s1
      obtain ⟨B2, s2, back⟩ := s.push
      unfold sBnd at e
      cases hm : mk ρ with
      | none => rw [hm] at e; cases e
      | some o1 =>
        rw [hm] at e
        cases o1 with
        | ex z ρ' =>
          cases e
          exact ⟨B2, F, ρ, _, s2, hm, fun cls dd F' H' e2 s3 x3 => p σ cls dd F' H' e2 (.refl _ _) (back F' H' _ _ e2 s3).drop x3⟩
        | ok k ρ1 =>
          refine ⟨B2, F, ρ, _, s2, hm, fun w F' H' e2 s3 => ?_⟩
          dsimp only at e
          split at e
          · rename_i kk j ds hi
            split at e
            · rename_i n hn
              cases e
              have hw := (s3.headS rfl).int_inv
              have s4 := back F' H' _ _ e2 s3.drop
              obtain ⟨v', hv', s5⟩ := s4.take1 hi (by simp)
              rw [hv] at hv'
              cases hv'
              obtain ⟨a, o', vs, rfl, hH, ho', hlen, hB, hF, h6⟩ := s5.explode
              cases ho'
              have s6 := h6 (.lst (vs.set n u))
              have s7 := (OwnL.setAt (n := n) hlen s6).rebuild (k := .lst) hB (by simp [hlen]) rfl
              have s8 := s7.put hv
              rw [set_set_self] at s8
              exact ⟨a, vs, j, n, rfl, hw, hH, by rw [hlen]; exact hn, p σ F' _ e2 (.refl _ _) s8⟩
            · cases e
          · cases e
    · cases e
end
end DL

/-! DL12: defs and calls. -/
namespace DL
open PySem L2
section
variable {K : PySem.W.Frag} {mg : Str → Option Value} {B F H : Hp} {σ : L2.St} {ρ : List D}
/-! ### frames -/
theorem EnvL.split {σ2 : L2.St} {ρ2 : List D} : ∀ {σ1 : L2.St} {ρ1 : List D} {f : List Addr}, σ1.length = ρ1.length → EnvL K mg F H (σ1 ++ σ2) (ρ1 ++ ρ2) f → ∃ f1 f2, EnvL K mg F H σ1 ρ1 f1 ∧ EnvL K mg F H σ2 ρ2 f2 ∧ f = f1 ++ f2
  | [], [], f, _, h => ⟨[], f, .nil, h, rfl⟩
  | [], _ :: _, _, h, _ => by simp at h
  | _ :: _, [], _, h, _ => by simp at h
  | x :: σ1, d :: ρ1, f, hl, h => by
    simp only [List.cons_append] at h
    cases h with
    | un t =>
      obtain ⟨f1, f2, h1, h2, h3⟩ := EnvL.split (by simpa using hl) t
      exact ⟨f1, f2, .un h1, h2, h3⟩
    | @cons _ _ _ _ f0 g r t =>
      obtain ⟨f1, f2, h1, h2, h3⟩ := EnvL.split (by simpa using hl) t
      exact ⟨f0 ++ f1, f2, .cons r h1, h2, by rw [h3, List.append_assoc]⟩
theorem EnvL.join {σ2 : L2.St} {ρ2 : List D} {f2 : List Addr} (h2 : EnvL K mg F H σ2 ρ2 f2) : ∀ {σ1 : L2.St} {ρ1 : List D} {f1 : List Addr}, EnvL K mg F H σ1 ρ1 f1 → EnvL K mg F H (σ1 ++ σ2) (ρ1 ++ ρ2) (f1 ++ f2)
  | _, _, _, .nil => h2
  | _, _, _, .un t => .un (EnvL.join h2 t)
  | _, _, _, .cons r t => by
    rw [List.append_assoc]
    exact .cons r (EnvL.join h2 t)
/-- what lies behind is set aside -/
theorem Sta.pushTail {σ1 : L2.St} {ρ1 : List D} (hl : σ1.length = ρ1.length) (s : Sta K mg B F H (σ1 ++ σ) (ρ1 ++ ρ)) :
    ∃ B', Sta K mg B' F H σ1 ρ1 ∧ ∀ F' H' σ' ρ', Exx F F' → Sta K mg B' F' H' σ' ρ' → Sta K mg B F' H' (σ' ++ σ) (ρ' ++ ρ) := by
  obtain ⟨⟨f0, e, nd, nb⟩, ex, bx, dis⟩ := s
  obtain ⟨f, g, t, r, rfl⟩ := EnvL.split hl e
  have m := EnvL.mem r
  have ndf := (List.nodup_append.mp nd).1
  have ndg := (List.nodup_append.mp nd).2.1
  have ndx := (List.nodup_append.mp nd).2.2
  refine ⟨addR B H g, ⟨⟨f, t, ndf, fun a ha => ?_⟩, ex, fun a o h => ?_, fun a o h => ?_⟩, ?_⟩
  · rw [addR_out fun h => ndx a ha a h rfl]; exact nb a (List.mem_append_left _ ha)
  · by_cases h1 : a ∈ g
    · rw [addR_in h1] at h; exact h
    · rw [addR_out h1] at h; exact bx a o h
  · by_cases h1 : a ∈ g
    · exact (m a h1).1
    · rw [addR_out h1] at h; exact dis a o h
  · intro F' H' σ' ρ' eF ⟨⟨f', t', nd', nb'⟩, ex', bx', dis'⟩
    have hf : ∀ a ∈ g, F' a = none ∧ H' a = H a := fun a ha => by
      obtain ⟨o, ho⟩ := (m a ha).2
      have hb : addR B H g a = some o := by rw [addR_in ha]; exact ho
      exact ⟨dis' a o hb, by rw [ho]; exact bx' a o hb⟩
    have hfb : ∀ a ∈ g, B a = none := fun a ha => nb a (List.mem_append_right _ ha)
    refine ⟨⟨f' ++ g, EnvL.join (r.frame eF hf) t', List.nodup_append.mpr ⟨nd', ndg, fun a ha b hb hab => ?_⟩, fun a ha => ?_⟩, ex', fun a o h => ?_, fun a o h => ?_⟩
    · subst hab
      obtain ⟨o, ho⟩ := (m a hb).2
      have := nb' a ha
      rw [addR_in hb, ho] at this
      cases this
    · rcases List.mem_append.mp ha with h | h
      · have := nb' a h
        by_cases h1 : a ∈ g
        · exact hfb a h1
        · rw [addR_out h1] at this; exact this
      · exact hfb a h
    · have h1 : a ∉ g := fun h1 => by rw [hfb a h1] at h; cases h
      exact bx' a o (by rw [addR_out h1]; exact h)
    · have h1 : a ∉ g := fun h1 => by rw [hfb a h1] at h; cases h
      exact dis' a o (by rw [addR_out h1]; exact h)
theorem EnvL.nones : ∀ n : Nat, EnvL K mg F H (List.replicate n none) (List.replicate n .un) []
  | 0 => .nil
  | n + 1 => .un (EnvL.nones n)
theorem Sta.tailUn (s : Sta K mg B F H σ ρ) (n : Nat) : Sta K mg B F H (σ ++ List.replicate n none) (ρ ++ List.replicate n .un) := by
  obtain ⟨⟨f, t, nd, nb⟩, ex, bx, dis⟩ := s
  exact ⟨⟨f ++ [], EnvL.join (EnvL.nones n) t, by simpa using nd, by simpa using nb⟩, ex, bx, dis⟩
theorem Sta.takeN (s : Sta K mg B F H σ ρ) (n : Nat) : Sta K mg B F H (σ.take n) (ρ.take n) := by
  have hl := s.len
  obtain ⟨⟨f, t, nd, nb⟩, ex, bx, dis⟩ := s
  rw [← List.take_append_drop n σ, ← List.take_append_drop n ρ] at t
  obtain ⟨f1, f2, h1, h2, rfl⟩ := EnvL.split (by simp [hl]) t
  exact ⟨⟨f1, h1, (List.nodup_append.mp nd).1, fun a ha => nb a (List.mem_append_left _ ha)⟩, ex, bx, dis⟩
/-- what a def hands back of its arguments -/
def keepA (is : List Nat) (n : Nat) (ρ : List D) : List D := (wipeD ρ is).take n
theorem Sta.keep {is : List Nat} {vs : List V} {R σ' : L2.St} (k : Kp is (vs.map some ++ R) σ') (s : Sta K mg B F H σ' ρ) : Sta K mg B F H (vs.map some) (keepA is vs.length ρ) := by
  have s1 := (s.wipe is).takeN vs.length
  have hl : vs.length ≤ σ'.length := by rw [k.1]; simp
  refine s1.any (by simp [wipe_length]; omega) fun j => ?_
  by_cases hj : j < vs.length
  · by_cases hi : j ∈ is
    · left
      rw [List.getElem?_take_of_lt hj]
      exact wipeD_in hi (by rw [← s.len]; omega)
    · right
      rw [List.getElem?_take_of_lt hj, wipe_out hi, k.2 j hi, List.getElem?_append_left (by simpa using hj)]
  · right
    rw [List.getElem?_eq_none (by simp; omega), List.getElem?_eq_none (by simp; omega)]
end

/-! ### promises -/
def PostF (K : PySem.W.Frag) (mg : Str → Option Value) (B F : Hp) (vs : List V) (Q : VK) (E : XK) : O D → Prop
  | .ok d ds' => ∀ v F' H', Exx F F' → Sta K mg B F' H' (some v :: vs.map some) (d :: ds') → Q v H'
  | .ex x ds' => ∀ cls dd F' H', Exx F F' → Sta K mg B F' H' (vs.map some) ds' → XIs K mg F' H' x cls dd → E cls dd H'
/-- a def is worth g: from its arguments' data, its answer's and what its arguments are behind it -/
def spD (K : PySem.W.Frag) (mg : Str → Option Value) (n : Nat) (g : List D → Option (O D)) : Sp := fun vs H Q E =>
  ∃ B F ds o, vs.length = n ∧ Sta K mg B F H (vs.map some) ds ∧ g ds = some o ∧ PostF K mg B F vs Q E o
def runF (m : S) (is : List Nat) (N n : Nat) : List D → Option (O D) := fun ds => match m (ds ++ List.replicate (N - n) .un) with
  | some (.nx ρ) => some (.ok .non (keepA is n ρ))
  | some (.rt d ρ) => some (.ok d (keepA is n ρ))
  | some (.ex x ρ) => some (.ex x (keepA is n ρ))
  | _ => none
section
variable {P : Program} {w : World} {K : PySem.W.Frag} {mg : Str → Option Value} {base : Heap}
theorem fn_ok {x qual : Str} {st : Stmt} {f : Addr} {fd : FuncData} {N ps : List Str} {k : Nat} {m : S} {is : List Nat} (Fn : Fun K x qual st f fd) (S : FnScope N ps (defScope st)) (hps : ps.length ≤ N.length)
    (hbody : ∀ (cdv : Value) (A : Around) (outer : List Env) (s : Shared) (H : Hp) (E : XK), Room k (A.deeper (PyProof.Rows.envOfC qual (defScope st) s.heap.objs.size f cdv)) →
      DSs (cxOf (L2.CX P w) P w K mg base N qual (defScope st) f cdv A outer s H E) (fun cls d _ H' => E cls d H') is (defBody st) m) : FnOk P w K mg base (L2.CX P w) (k + 1) f fd ps (spD K mg ps.length (runF m is N.length ps.length)) := by
  refine Fn.okX S (fun vs H Q E h => ?_) (fun cdv A outer s H vs Q E hr h => ?_)
  · obtain ⟨_, _, _, _, h, _⟩ := h; exact h
  · obtain ⟨B, F, ds, o, hn, st, e, p⟩ := h
    refine ⟨_, hbody cdv A outer s H E hr, ?_⟩
    unfold runF at e
    cases hm : m (ds ++ List.replicate (N.length - ps.length) .un) with
    | none => rw [hm] at e; cases e
    | some fl =>
      rw [hm] at e
      have s1 := st.tailUn (N.length - ps.length)
      have e1 : L2.start N vs = vs.map some ++ List.replicate (N.length - ps.length) none := by unfold L2.start; rw [hn]
      rw [← e1] at s1
      refine ⟨B, F, _, fl, s1, hm, ?_⟩
      rw [← hn] at e
      cases fl with
      | nx ρ' =>
        cases e
        intro σ' F' H' eF kp s2
        rw [e1] at kp
        exact p .non F' H' eF ((s2.keep kp).add .non)
      | rt d ρ' =>
        cases e
        intro σ' v F' H' eF kp s2
        rw [e1] at kp
        obtain ⟨B2, s3, back⟩ := s2.push
        exact p v F' H' eF (back F' H' _ _ (.refl F') (s3.keep kp))
      | ex z ρ' =>
        cases e
        intro σ' cls dd F' H' eF kp s2 x2
        rw [e1] at kp
        exact p cls dd F' H' eF (s2.keep kp) x2
      | bk ρ' => cases e
      | ct ρ' => cases e
/-- a promise by another function that gives the same where it gives anything -/
theorem spD_imp {n : Nat} {g g' : List D → Option (O D)} (h : ∀ ds o, g' ds = some o → g ds = some o) : ∀ vs H Q E, spD K mg n g' vs H Q E → spD K mg n g vs H Q E := fun vs H Q E ⟨B, F, ds, o, hn, s, e, p⟩ => ⟨B, F, ds, o, hn, s, h ds o e, p⟩
end

/-! ### arguments -/
inductive Ar where
  | val (m : M D)
  | ref (i : Nat)
def dArgs : List Ar → M (List (Option Nat × D))
  | [] => ret []
  | .val m :: r => bnd m fun x => bnd (dArgs r) fun xs => ret ((none, x) :: xs)
  | .ref i :: r => fun ρ => match ρ[i]? with
    | some d => match d with
      | .un => none
      | _ => bnd (dArgs r) (fun xs => ret ((some i, D.un) :: xs)) ρ
    | none => none
inductive Refs (σ : L2.St) : List V → List (Option Nat × D) → Prop
  | nil : Refs σ [] []
  | val {v : V} {d : D} {vs : List V} {as : List (Option Nat × D)} : Refs σ vs as → Refs σ (v :: vs) ((none, d) :: as)
  | ref {v : V} {i : Nat} {vs : List V} {as : List (Option Nat × D)} : σ[i]? = some (some v) → Refs σ vs as → Refs σ (v :: vs) ((some i, .un) :: as)
theorem Refs.len {σ : L2.St} : ∀ {vs : List V} {as : List (Option Nat × D)}, Refs σ vs as → vs.length = as.length
  | _, _, .nil => rfl
  | _, _, .val t => by simp [Refs.len t]
  | _, _, .ref _ t => by simp [Refs.len t]
def PostAr (X : Cx) (W : WX) (σ : L2.St) (B F : Hp) (Q : List V → Hp → Prop) : O (List (Option Nat × D)) → Prop
  | .ok as ρ' => ∀ vs F' H', Exx F F' → Refs σ vs as → Sta X.K X.mg B F' H' (vs.map some ++ σ) (as.map (·.2) ++ ρ') → Q vs H'
  | .ex x ρ' => PostX X W σ B F x ρ'
def denAr (X : Cx) (W : WX) (m : M (List (Option Nat × D))) : TA := fun σ H Q => ∃ B F ρ o, Sta X.K X.mg B F H σ ρ ∧ m ρ = some o ∧ PostAr X W σ B F Q o
abbrev DAr (X : Cx) (W : WX) (es : List Expr) (as : List Ar) : Prop := PA X es (denAr X W (dArgs as))
section
variable {X : Cx} {W : WX} {σ : L2.St} {H : Hp} {e : Expr} {es : List Expr} {as : List Ar} {x : Str} {p pos : Pos} {i : Nat}
theorem dar_nil : DAr X W [] [] := PA_imp pa_nil fun σ H Q ⟨B, F, ρ, o, s, e, p⟩ => by
  cases e
  exact p [] F H (.refl F) .nil s
theorem dar_val {m : M D} (ha : DE X W e m) (hr : DAr X W es as) (hs : starEach (e :: es) X.env = (false, eval e X.env) :: starEach es X.env := by rfl) : DAr X W (e :: es) (.val m :: as) := PA_imp (pa_cons ha hr hs) fun σ H Q ⟨B, F, ρ, o, s, e, p⟩ => by
  refine den_weak (fun v H1 ⟨B1, F1, ρ1, o1, x, s1, e1, p1⟩ => ?_) (den_bnd (Post := fun B F o => PostAr X W σ B F Q o) (fun _ _ _ _ h => h) (fun B F F' o eF h => by
    cases o with
    | ok a ρ' => exact fun vs F2 H2 e2 r s2 => h vs F2 H2 (eF.trans e2) r s2
    | ex x ρ' => exact PostX.mono eF h) s e p)
  obtain ⟨B2, s2, back⟩ := s1.push
  unfold bnd at e1
  dsimp only at e1
  cases hr : dArgs as ρ1 with
  | none => rw [hr] at e1; cases e1
  | some o2 =>
    rw [hr] at e1
    cases o2 with
    | ex z ρ' =>
      cases e1
      exact ⟨B2, F1, ρ1, _, s2, hr, fun cls dd F2 H2 e2 s3 x3 => p1 cls dd F2 H2 e2 (back F2 H2 σ ρ' e2 s3).drop x3⟩
    | ok xs ρ' =>
      cases e1
      refine ⟨B2, F1, ρ1, _, s2, hr, fun us F2 H2 e2 r s3 => ?_⟩
      exact p1 (v :: us) F2 H2 e2 (.val r) (back F2 H2 _ _ e2 s3)
theorem dar_ref (ha : PE X (.Name x p) (tVar i)) (hr : DAr X W es as) (hs : starEach (.Name x p :: es) X.env = (false, eval (.Name x p) X.env) :: starEach es X.env := by rfl) : DAr X W (.Name x p :: es) (.ref i :: as) := PA_imp (pa_cons ha hr hs) fun σ H Q ⟨B, F, ρ, o, s, e, p⟩ => by
  unfold dArgs at e
  cases hi : ρ[i]? with
  | none => rw [hi] at e; cases e
  | some d =>
    rw [hi] at e
    simp only at e
    split at e
    · cases e
    · rename_i hd
      obtain ⟨v, hv, _⟩ := s.take hi hd
      refine ⟨v, hv, ?_⟩
      unfold bnd at e
      cases hr : dArgs as ρ with
      | none => rw [hr] at e; cases e
      | some o2 =>
        rw [hr] at e
        cases o2 with
        | ex z ρ' =>
          cases e
          exact ⟨B, F, ρ, _, s, hr, p⟩
        | ok xs ρ' =>
          cases e
          exact ⟨B, F, ρ, _, s, hr, fun us F2 H2 e2 r s3 => p (v :: us) F2 H2 e2 (.ref hv r) s3.skip⟩
/-- the arguments' data, taken out of the frame -/
def callIn : List (Option Nat × D) → List D → Option (List D × List D)
  | [], ρ => some ([], ρ)
  | (none, d) :: r, ρ => if whole d = true then (match callIn r ρ with | some (ds, ρ') => some (frz d :: ds, ρ') | none => none) else none
  | (some i, _) :: r, ρ => match ρ[i]? with
    | some d => match d with
      | .un => none
      | _ => match callIn r (ρ.set i .un) with
        | some (ds, ρ') => some (d :: ds, ρ')
        | none => none
    | none => none
/-- and put back -/
def callOut : List (Option Nat × D) → List D → List D → List D
  | (none, _) :: r, _ :: ds, ρ => callOut r ds ρ
  | (some i, _) :: r, d :: ds, ρ => callOut r ds (ρ.set i d)
  | _, _, ρ => ρ
theorem callIn_ok {K : PySem.W.Frag} {mg : Str → Option Value} {σ : L2.St} {H : Hp} : ∀ {as : List (Option Nat × D)} {vs : List V} {ρ ds ρ' : List D} {B F : Hp}, Refs σ vs as → Sta K mg B F H (vs.map some ++ σ) (as.map (·.2) ++ ρ) → callIn as ρ = some (ds, ρ') →
    ∃ F', Exx F F' ∧ Sta K mg B F' H (vs.map some ++ σ) (ds ++ ρ') ∧ vs.length = ds.length
  | _, _, ρ, ds, ρ', B, F, .nil, s, e => by
    simp only [callIn, Option.some.injEq, Prod.mk.injEq] at e
    obtain ⟨rfl, rfl⟩ := e
    exact ⟨F, .refl F, s, rfl⟩
  | _, _, ρ, ds, ρ', B, F, .val (d := d) (vs := vs) (as := as) t, s, e => by
    unfold callIn at e
    split at e
    · rename_i hw
      cases hc : callIn as ρ with
      | none => rw [hc] at e; cases e
      | some q =>
        obtain ⟨ds1, ρ1⟩ := q
        rw [hc] at e
        cases e
        simp only [List.map_cons, List.cons_append] at s ⊢
        obtain ⟨F1, eF1, s1⟩ := s.freeze hw
        obtain ⟨B2, s2, back⟩ := s1.push
        obtain ⟨F2, eF2, s3, hl⟩ := callIn_ok t s2 hc
        exact ⟨F2, eF1.trans eF2, back F2 H _ _ eF2 s3, by simp [hl]⟩
    · cases e
  | _, _, ρ, ds, ρ', B, F, .ref (v := v) (i := i) (vs := vs) (as := as) hv t, s, e => by
    unfold callIn at e
    cases hi : ρ[i]? with
    | none => rw [hi] at e; cases e
    | some d =>
      rw [hi] at e
      simp only at e
      split at e
      · cases e
      · rename_i hd
        cases hc : callIn as (ρ.set i .un) with
        | none => rw [hc] at e; cases e
        | some q =>
          obtain ⟨ds1, ρ1⟩ := q
          rw [hc] at e
          cases e
          simp only [List.map_cons, List.cons_append] at s ⊢
          have hl := t.len
          have s1 := s.drop
          have hix : (as.map (·.2) ++ ρ)[vs.length + i]? = some d := by
            rw [List.getElem?_append_right (by simp [hl])]
            simpa [hl] using hi
          obtain ⟨v', hv', s2⟩ := s1.take hix hd
          have hv2 : (vs.map some ++ σ)[vs.length + i]? = σ[i]? := by
            rw [List.getElem?_append_right (by simp)]
            simp
          rw [hv2, hv] at hv'
          cases hv'
          have hset : (as.map (·.2) ++ ρ).set (vs.length + i) .un = as.map (·.2) ++ ρ.set i .un := by
            rw [List.set_append_right _ _ (by simp [hl])]
            simp [hl]
          rw [hset] at s2
          obtain ⟨B2, s3, back⟩ := s2.push
          obtain ⟨F2, eF2, s4, hl2⟩ := callIn_ok t s3 hc
          exact ⟨F2, eF2, back F2 H _ _ eF2 s4, by simp [hl2]⟩
theorem callOut_ok {K : PySem.W.Frag} {mg : Str → Option Value} {σ : L2.St} {H : Hp} : ∀ {as : List (Option Nat × D)} {vs : List V} {ρ ds : List D} {B F : Hp}, Refs σ vs as → vs.length = ds.length → Sta K mg B F H (vs.map some ++ σ) (ds ++ ρ) → Sta K mg B F H σ (callOut as ds ρ)
  | _, _, ρ, [], B, F, .nil, _, s => by simpa [callOut] using s
  | _, _, ρ, _ :: _, B, F, .nil, h, _ => by simp at h
  | _, _, ρ, [], B, F, .val _, h, _ => by simp at h
  | _, _, ρ, [], B, F, .ref _ _, h, _ => by simp at h
  | _, _, ρ, d :: ds, B, F, .val t, h, s => by
    simp only [List.map_cons, List.cons_append] at s
    unfold callOut
    exact callOut_ok t (by simpa using h) s.drop
  | _, _, ρ, d :: ds, B, F, .ref (v := v) (i := i) (vs := vs) (as := as) hv t, h, s => by
    simp only [List.map_cons, List.cons_append] at s
    unfold callOut
    have hl : vs.length = ds.length := by simpa using h
    have s1 := s.put (i := vs.length + i) (by
      rw [List.getElem?_append_right (by simp)]
      simpa using hv)
    have hset : (ds ++ ρ).set (vs.length + i) d = ds ++ ρ.set i d := by
      rw [List.set_append_right _ _ (by omega)]
      congr 2
      omega
    rw [hset] at s1
    exact callOut_ok t hl s1
def callG (n : Nat) (g : List D → Option (O D)) (as : List (Option Nat × D)) : M D := fun ρ => match callIn as ρ with
  | some (ds, ρ') => if ds.length = n then match g ds with
    | some (.ok d ds') => if ds'.length = ds.length then some (.ok d (callOut as ds' ρ')) else none
    | some (.ex x ds') => if ds'.length = ds.length then some (.ex x (callOut as ds' ρ')) else none
    | none => none else none
  | none => none
/-- f(..): args, then the defaults dds -/
def dCall (n : Nat) (g : List D → Option (O D)) (args : List Ar) (dds : List D) : M D := bnd (dArgs args) fun as => callG n g (as ++ dds.map fun d => (none, d))
theorem Refs.app {σ : L2.St} {dvs : List V} {dds : List D} (h : dvs.length = dds.length) : ∀ {vs : List V} {as : List (Option Nat × D)}, Refs σ vs as → Refs σ (vs ++ dvs) (as ++ dds.map fun d => (none, d))
  | _, _, .nil => by
    induction dvs generalizing dds with
    | nil => cases dds with | nil => exact .nil | cons _ _ => simp at h
    | cons v dvs ih => cases dds with | nil => simp at h | cons d dds => exact .val (ih (by simpa using h))
  | _, _, .val t => .val (Refs.app h t)
  | _, _, .ref hv t => .ref hv (Refs.app h t)
theorem callG_ok {g : List D → Option (O D)} {n : Nat} {vs dvs : List V} {as : List (Option Nat × D)} {dds : List D} {ρ : List D} {o : O D} {B F : Hp} {Q : VK} (hd : ∀ F H, OwnL X.K X.mg F H dvs dds []) (r : Refs σ vs as)
    (s : Sta X.K X.mg B F H (vs.map some ++ σ) (as.map (·.2) ++ ρ)) (e : callG n g (as ++ dds.map fun d => (none, d)) ρ = some o) (p : PostE X W σ B F Q o) : spD X.K X.mg n g (vs ++ dvs) H Q (fun cls dd H' => W cls dd σ H') := by
  have hdl := (hd F H).len
  have r' := Refs.app hdl r
  have s' : Sta X.K X.mg B F H ((vs ++ dvs).map some ++ σ) ((as ++ dds.map fun d => ((none : Option Nat), d)).map (·.2) ++ ρ) := by
    obtain ⟨⟨f, t, nd, nb⟩, ex, bx, dis⟩ := s
    have hl : (vs.map some).length = (as.map (·.2)).length := by simp [r.len]
    obtain ⟨f1, f2, h1, h2, rfl⟩ := EnvL.split hl t
    have h3 := EnvL.join (EnvL.of_own h2 (hd F H)) h1
    refine ⟨⟨f1 ++ ([] ++ f2), ?_, by simpa using nd, by simpa using nb⟩, ex, bx, dis⟩
    have e1 : (vs ++ dvs).map some ++ σ = vs.map some ++ (dvs.map some ++ σ) := by simp
    have e2 : (as ++ dds.map fun d => ((none : Option Nat), d)).map (·.2) ++ ρ = as.map (·.2) ++ (dds ++ ρ) := by simp [Function.comp_def]
    rw [e1, e2]
    exact h3
  unfold callG at e
  cases hc : callIn (as ++ dds.map fun d => (none, d)) ρ with
  | none => rw [hc] at e; cases e
  | some q =>
    obtain ⟨ds, ρ'⟩ := q
    rw [hc] at e
    simp only at e
    split at e
    rotate_left
    · cases e
    rename_i hn0
    obtain ⟨F1, eF1, s1, hl1⟩ := callIn_ok r' s' hc
    have hn : (vs ++ dvs).length = n := by rw [← hn0]; exact hl1
    obtain ⟨B2, s2, back⟩ := Sta.pushTail (by simp [← hl1]) s1
    cases hg : g ds with
    | none => rw [hg] at e; cases e
    | some og =>
      rw [hg] at e
      refine ⟨B2, F1, ds, og, hn, s2, hg, ?_⟩
      cases og with
      | ok d ds' =>
        simp only at e
        split at e
        · rename_i hlen
          cases e
          intro v F' H' eF' s3
          have s4 := back F' H' _ _ eF' s3
          simp only [List.cons_append] at s4
          obtain ⟨B5, s5, back5⟩ := s4.push
          have s6 := callOut_ok r' (by rw [hlen]; exact hl1) s5
          exact p v F' H' (eF1.trans eF') (back5 F' H' _ _ (.refl F') s6)
        · cases e
      | ex x ds' =>
        simp only at e
        split at e
        · rename_i hlen
          cases e
          intro cls dd F' H' eF' s3 x3
          have s4 := back F' H' _ _ eF' s3
          have s6 := callOut_ok r' (by rw [hlen]; exact hl1) s4
          exact p cls dd F' H' (eF1.trans eF') s6 x3
        · cases e
theorem denAr_bnd {α : Type} {Post : Hp → Hp → O α → Prop} {m : M (List (Option Nat × D))} {k : List (Option Nat × D) → M α} {o : O α} {ρ : List D} {B F : Hp} (hX : ∀ B F x ρ', Post B F (.ex x ρ') → PostX X W σ B F x ρ') (hm : ∀ B F F' o, Exx F F' → Post B F o → Post B F' o)
    (s : Sta X.K X.mg B F H σ ρ) (h : bnd m k ρ = some o) (p : Post B F o) : denAr X W m σ H fun vs H1 => ∃ F1 ρ1 as, Refs σ vs as ∧ Sta X.K X.mg B F1 H1 (vs.map some ++ σ) (as.map (·.2) ++ ρ1) ∧ k as ρ1 = some o ∧ Post B F1 o := by
  unfold bnd at h
  cases hmr : m ρ with
  | none => rw [hmr] at h; cases h
  | some o1 =>
    rw [hmr] at h
    cases o1 with
    | ex x ρ' => cases h; exact ⟨B, F, ρ, _, s, hmr, hX _ _ _ _ p⟩
    | ok x ρ' => exact ⟨B, F, ρ, _, s, hmr, fun vs F' H' eF r s' => ⟨F', ρ', x, r, s', h, hm _ _ _ _ eF p⟩⟩
theorem denAr_weak {m : M (List (Option Nat × D))} {Q Q' : List V → Hp → Prop} {σ : L2.St} {H : Hp} (i : ∀ v H, Q v H → Q' v H) (h : denAr X W m σ H Q) : denAr X W m σ H Q' := by
  obtain ⟨B, F, ρ, o, s, e, p⟩ := h
  refine ⟨B, F, ρ, o, s, e, ?_⟩
  cases o with
  | ok d ρ' => exact fun vs F' H' e r s => i vs H' (p vs F' H' e r s)
  | ex x ρ' => exact p
/-- an exception of a callee goes where the wish has it -/
theorem pass_at (tk : Takes X W) : ∀ σ, PassesAt (L2.CX X.prog X.w) X σ (fun cls dd H' => W cls dd σ H') := fun σ pins H s e s' I c => tk e s' (XE.of_call I (fun cls d H' h => h) c)
variable {k : Nat} {f : Addr} {fd : FuncData} {ps : List Str} {g : List D → Option (O D)} {dvs : List V} {dds : List D} {ds0 : List Value}
theorem de_call (G : FnOk X.prog X.w X.K X.mg X.base (L2.CX X.prog X.w) k f fd ps (spD X.K X.mg ps.length g)) (hr : Room k X.A) (hg : Gl X x) (hm : X.mg x = some (.ref f)) (hk : PySem.W.keepIn X.K (.ref f) = true) (hb : Binds X.K fd ps ds0) (hd : Vals dvs ds0) (hdd : ∀ F H, OwnL X.K X.mg F H dvs dds [])
    (tk : Takes X W) (ha : DAr X W (e :: es) as) (hdb : (x == ("__debug__" : Str)) = false := by decide) (he : starEach (e :: es) X.env = (false, eval e X.env) :: starEach es X.env := by rfl) (hpl : (backTo pos (starEach es X.env)).any (·.1) = false := by rfl) :
    DE X W (.Call (.Name x p) (e :: es) [] pos) (dCall ps.length g as dds) := PE_imp (pe_callSD G hr hg hm hk hb hd (pass_at tk) ha hdb he hpl) fun σ H Q ⟨B, F, ρ, o, s, e, p⟩ =>
  denAr_weak (fun vs H1 ⟨F, ρ1, as', r, s, e, p⟩ => callG_ok hdd r s e p) (denAr_bnd (Post := fun B F o => PostE X W σ B F Q o) postE_X postE_m s e p)
end
end DL

/-! DL13: errors of own classes: made, held as values, raised; their fields; isinstance. -/
namespace PySem.W
open PySem PySem.Spec PySem.Calls PyProof.Rows
section
variable {prog : Program} {w : World} {A : Around} {E : Value → Shared → Prop} {s : Shared} {K : Frag} {x D : Addr} {ox : Obj} {od : Option Obj}
theorem findObj_dataA {C : Addr} {name : Str} {a g : Value} (hc : (clsIn K C).isSome = true) (ha : findIn K (.ref C) name = some (some a)) (hg : specialIn K a "__get__" = some (some g)) (ht : takesIn K a = some true) : findObj K C od name = some (.bind g a) := by
  obtain ⟨cd, hc⟩ := Option.isSome_iff_exists.mp hc
  unfold findObj
  rw [hc, Option.bind_some, ha, Option.bind_some]
  simp [hg, ht]
theorem kin_classA {Q : Option Value → Shared → Prop} (hga : findIn K (.ref D) "__getattribute__" = some (some (.builtin "BaseException.__getattribute__"))) (hgt : findIn K (.ref D) "__getattr__" = some none) (hsub : subIn K (.ref D) (.type "BaseException") = some true)
    (hdct : hasDictIn K D = true) (ha : findIn K (.ref D) "__class__" = some (some (.builtin "object.__class__")))
    (hn : specialIn K (.builtin "object.__class__") "__get__" = some (some (.builtin "getset_descriptor.__get__"))) (htk : takesIn K (.builtin "object.__class__") = some true) (hm : mroIn K D (.type "object") = some true)
    (X : K.In s.heap) (I : InstAt s.heap x ox D od) (h : Q (some (.ref D)) { s with toks := s.toks + 1 }) : wpAny (model prog w) A (getAttr? (.ref x) "__class__") Q E s := by
  have hf : findObj K D od "__class__" = some (.bind (.builtin "getset_descriptor.__get__") (.builtin "object.__class__")) := findObj_dataA (by obtain ⟨cd, hc, _⟩ := any_some hdct; rw [hc]; rfl) ha hn htk
  obtain ⟨hp, g, d, t, os⟩ := s
  have L0 := I.type (M := model prog w)
  have L1 := looks_findIn (M := model prog w) X hga
  have L2 := looks_findIn (M := model prog w) X hgt
  have L3 := looks_find (M := model prog w) X I hf
  have sub : Looks (model prog w) hp (isInstance (.ref x) (.type "BaseException")) true := L0.andThen (looks_subIn X hsub)
  have hx0 : (false && onTheHeap (Value.builtin "BaseException.__getattribute__")) = false := rfl
  have hx2 : (Value.builtin "BaseException.__getattribute__" == Value.builtin "object.__getattribute__") = false := by decide +kernel
  have hx1 : (onTheHeap (Value.ref D) && Value.builtin "BaseException.__getattribute__" == Value.builtin "object.__getattribute__") = false := by rw [hx2]; rfl
  unfold getAttr? getAttrBy? getAttrBy
  refine wpAny_bind (wpAny_mkText (wpAny_bind (wpAny_attempt (wpAny_holding (wpAny_bind (L0.at (wpAny_bind (L1.at ?_))))))))
  show wpAny _ _ (if (onTheHeap (Value.ref D) && Value.builtin "BaseException.__getattribute__" == Value.builtin "object.__getattribute__") = true then _ else _) _ _ _
  rw [hx1, if_neg Bool.false_ne_true]
  unfold getAttrByItsOwn hookBefore
  refine wpAny_bind ?_
  rw [if_pos (show onTheHeap (Value.ref D) = true from rfl)]
  refine L2.at ?_
  refine wpAny_bind (wpAny_attempt (wpAny_holding ?_))
  unfold callGetattribute
  rw [hx0, if_neg Bool.false_ne_true]
  unfold boundAndCalled
  rw [PySem.F.excAttr_ValueError.ga.bind (.ref x)]
  refine wpAny_bind (wpAny_pure ?_)
  show wpAny _ _ (call (.builtin "BaseException.__getattribute__") [.ref x, .str "__class__" t]) _ _ _
  refine wpAny_call (codeAny_call_builtin PySem.F.excAttr_ValueError.ga.plain PySem.F.entry_bexc_ga ?_)
  refine @check_slot (model prog w) _ _ ⟨hp, g, d, t + 1, os⟩ "BaseException.__getattribute__" "BaseException" "__getattribute__" (.ref x) [.str "__class__" t] [] _ (by decide +kernel) (by decide +kernel) sub (PySem.F.args_bexc_ga (.ref x) (.str "__class__" t)) ?_
  unfold Builtin.«object.__getattribute__»
  refine wpAny_bind (wpAny_of_eq (a := ((Value.ref x : Value), [Value.str "__class__" t])) (by first | rfl | (simp only [slotArgs]; rfl)) ?_)
  refine wpAny_bind (wpAny_pure (wpAny_bind (L0.at (wpAny_bind (L3.at ?_)))))
  show wpAny _ _ (holding [Value.builtin "object.__class__"] (call (.builtin "getset_descriptor.__get__") [.builtin "object.__class__", .ref x, .ref D]) >>= ret) _ _ _
  refine wpAny_bind (wpAny_holding (wpAny_call (class_get (s := ⟨hp, g, d, t + 1, os⟩) (ox := ox) (od := od) X I hm ?_)))
  refine wpAny_pure ?_
  show wpAny _ _ (handedOut (.ref D)) _ _ _
  rw [handedOut_of (v := .ref D) rfl]
  first
    | exact wpAny_pure (wpAny_pure h)
    | exact wpAny_pure h
    | exact wpAny_pure (wpAny_bind (wpAny_pure (wpAny_pure h)))
theorem kitx_excA (hga : findIn K (.ref D) "__getattribute__" = some (some (.builtin "BaseException.__getattribute__"))) (hgt : findIn K (.ref D) "__getattr__" = some none) (hsub : subIn K (.ref D) (.type "BaseException") = some true) (hdct : hasDictIn K D = true) (ha : findIn K (.ref D) "__class__" = some (some (.builtin "object.__class__")))
    (hn : specialIn K (.builtin "object.__class__") "__get__" = some (some (.builtin "getset_descriptor.__get__"))) (htk : takesIn K (.builtin "object.__class__") = some true) (hm : mroIn K D (.type "object") = some true) :
    KitX K (.ref x) (.ref D) (fun h => ∃ od, InstAt h x ox D od) where
  ty := fun _ _ _ ⟨_, I⟩ => I.type
  it := fun _ _ X _ => by
    obtain ⟨cdD, hcD, _⟩ := any_some hdct
    unfold clsIn at hcD
    split at hcD
    · rename_i c' d' cd' sl' ho
      intro A' Q' E' s' k q
      unfold isType loadHead
      exact wpAny_bind (wpAny_loadPart (k _ _ (X _ _ ho)) (wpAny_pure q))
    · cases hcD
  ne := fun h tp dd its n sl X htp => by
    obtain ⟨cdD, hcD, _⟩ := any_some hdct
    refine Bool.eq_false_iff.mpr fun q => ?_
    have e : D = tp := Value.ref.inj (beq_iff_eq.mp q)
    subst e
    unfold clsIn at hcD
    split at hcD
    · rename_i c' d' cd' sl' ho
      have z := (X _ _ ho).symm.trans htp
      cases z
    · cases hcD
  ca := fun X ⟨_, I⟩ k => kin_classA hga hgt hsub hdct ha hn htk hm X I k
end
end PySem.W
namespace DL
open PySem PySem.Spec PyProof.Rows L2
/-! ### what the values of a class say of isinstance -/
section
variable {X : Cx} {pins : List (Addr × Obj)} {σ : L2.St} {H : Hp} {s : Shared}
/-- an error object in the heap: its class, its dict -/
theorem exo_inst {a C : Addr} {d : Option Addr} {ns : List Str} {vs : List V} (I : Inv X pins σ H s) (h : H a = some (exo a C d)) (hd : ∀ dx, d = some dx → H dx = some (exd dx (ns.zip vs))) : ∃ ox od, PySem.W.InstAt s.heap a ox C od := by
  obtain ⟨t1, ho⟩ := exo_at I.hok h
  cases d with
  | none => exact ⟨_, none, ho, rfl, rfl, trivial⟩
  | some dx =>
    obtain ⟨mA, hns, _⟩ := exd_at I.hok (hd dx rfl)
    obtain ⟨o, _, _, e, _⟩ := hns
    exact ⟨_, some o, ho, rfl, rfl, e⟩
/-- isinstance(x, c): x a plain value, an own instance or an error -/
def rIsG (K : PySem.W.Frag) : List V → Hp → VK → Prop := fun xs H Q => rIsi K xs H Q ∨
  ∃ (a D : Addr) (d : Option Addr) (ns : List Str) (vs : List V) (c : V) (u : Value) (b : Bool), xs = [.ref a, c] ∧ ClsV c u ∧ H a = some (exo a D d) ∧ (∀ dx, d = some dx → H dx = some (exd dx (ns.zip vs))) ∧ ExcC K D ∧ PySem.W.kitOne K (.ref D) u = some b ∧ Q (.bl b) H
theorem call_isG : CallR X (.builtin "isinstance") (rIsG X.K) := by
  intro pins s σ H xs us Q I r h
  rcases h with h | ⟨a, D, d, ns, vs, c, u, b, rfl, k, ha, hd, C, e, q⟩
  · exact call_isi pins s σ H xs us Q I r h
  · obtain ⟨u1, u2, rfl, r1, r2⟩ := vals2 r
    have e2 := k.eq r2
    subst e2
    cases (show u1 = Value.ref a from r1)
    obtain ⟨ox, od, J⟩ := exo_inst I ha hd
    exact PySem.W.kia_one (PySem.W.kitx_excA (ox := ox) C.hg C.hk C.hs C.hd C.ha C.hn C.ht C.hm) I.kIn ⟨od, J⟩ e (fun z => nomatch z) fun tk => ⟨.bl b, H, I.tok tk, rfl, q⟩
end
/-- what isinstance(.., u) answers for the instances of c -/
structure InsI (K : PySem.W.Frag) (mg : Str → Option Value) (u : Value) (c : Str) (b : Bool) : Prop where
  ex : ∃ C, mg c = some (.ref C) ∧ PySem.W.kitOne K (.ref C) u = some b ∧ Cls K C ∧ PySem.W.findIn K (.ref C) "__class__" = some (some (.builtin "object.__class__")) ∧ PySem.W.specialIn K (.builtin "object.__class__") "__get__" = some (some (.builtin "getset_descriptor.__get__")) ∧
    PySem.W.takesIn K (.builtin "object.__class__") = some true ∧ PySem.W.mroIn K C (.type "object") = some true
structure ExcI (K : PySem.W.Frag) (mg : Str → Option Value) (u : Value) (c : Str) (b : Bool) : Prop where
  ex : ∃ C, mg c = some (.ref C) ∧ PySem.W.kitOne K (.ref C) u = some b ∧ ExcC K C
/-- isinstance(d, ..): answers by own classes, by error classes, by built-in types -/
def opIsa (ti te : List (Str × Bool)) (bt : List (String × Bool)) : D → Option D
  | .non => (bt.lookup "NoneType").map .bl
  | .bl _ => (bt.lookup "bool").map .bl
  | .int _ => (bt.lookup "int").map .bl
  | .str _ => (bt.lookup "str").map .bl
  | .nd _ .lst _ => (bt.lookup "list").map .bl
  | .nd _ .tup _ => (bt.lookup "tuple").map .bl
  | .nd _ (.ins c _) _ => (ti.lookup c).map .bl
  | .nd _ (.exc c _) _ => (te.lookup c).map .bl
  | _ => none
structure IsaOk (K : PySem.W.Frag) (mg : Str → Option Value) (u : Value) (ti te : List (Str × Bool)) (bt : List (String × Bool)) : Prop where
  i : ∀ c b, ti.lookup c = some b → InsI K mg u c b
  e : ∀ c b, te.lookup c = some b → ExcI K mg u c b
  b : ∀ t b, bt.lookup t = some b → PySem.W.kitOne K (.type t) u = some b
theorem all_lookup {α β : Type} [BEq α] [LawfulBEq α] {P : α → β → Prop} : ∀ {l : List (α × β)}, (∀ p ∈ l, P p.1 p.2) → ∀ a b, l.lookup a = some b → P a b
  | [], _, a, b, h => by simp at h
  | (x, y) :: l, k, a, b, h => by
    rw [List.lookup_cons] at h
    by_cases e : a == x
    · rw [e] at h
      have e' := eq_of_beq e
      simp only [Option.some.injEq] at h
      subst e' h
      exact k _ (List.mem_cons_self ..)
    · have e2 : (a == x) = false := by simpa using e
      rw [e2] at h
      exact all_lookup (fun p hp => k p (List.mem_cons_of_mem _ hp)) a b h
theorem un_isa {X : Cx} {c : V} {u : Value} {ti te : List (Str × Bool)} {bt : List (String × Bool)} (k : ClsV c u) (T : IsaOk X.K X.mg u ti te bt) : UnV X (fun v H Q => rIsG X.K [v, c] H Q) (opIsa ti te bt) := by
  intro F H v x z Q eF a e q hx
  have go : ∀ {t : Value} {b : Bool}, TyX X.K H v t → PySem.W.kitOne X.K t u = some b → Q (.bl b) H → rIsG X.K [v, c] H Q := fun {t b} ty e q => .inl ⟨v, c, t, u, b, rfl, k, ty, e, q⟩
  unfold opIsa at e
  split at e <;> first | (cases e; done) | skip
  all_goals
    rw [Option.map_eq_some_iff] at e
    obtain ⟨b, hb, rfl⟩ := e
  · cases (a.own rfl); exact go (.base .non) (T.b _ _ hb) (q _ (.bl _))
  · cases (a.own rfl); exact go (.base (.bl _)) (T.b _ _ hb) (q _ (.bl _))
  · cases (a.own rfl); exact go (.base (.int _)) (T.b _ _ hb) (q _ (.bl _))
  · cases (a.own rfl); exact go (.base (.str _)) (T.b _ _ hb) (q _ (.bl _))
  · obtain ⟨p, vs, rfl, h1, h2⟩ := a.nd eF
    exact go (.base (.lst h1)) (T.b _ _ hb) (q _ (.bl _))
  · obtain ⟨p, vs, rfl, h1, h2⟩ := a.nd eF
    rcases h1 with h1 | h1
    · rcases h1 with h1 | ⟨o, h1⟩
      · exact go (.base (.tup h1)) (T.b _ _ hb) (q _ (.bl _))
      · exact go (.fTuple h1) (T.b _ _ hb) (q _ (.bl _))
    · obtain ⟨o, its, n, h1, h3, _⟩ := h1
      exact go (.kTuple h1 h3) (T.b _ _ hb) (q _ (.bl _))
  · obtain ⟨p, vs, rfl, h1, h2⟩ := a.nd eF
    obtain ⟨C, dx, hm, _, h1⟩ := h1
    obtain ⟨C', hm', e', cl, g1, g2, g3, g4⟩ := (T.i _ _ hb).ex
    rw [hm] at hm'
    cases hm'
    exact go (.base (.ins h1 cl g1 g2 g3 g4)) e' (q _ (.bl _))
  · obtain ⟨p, vs, rfl, h1, h2⟩ := a.nd eF
    obtain ⟨C, hm, _, h1⟩ := h1
    obtain ⟨C', hm', e', ec⟩ := (T.e _ _ hb).ex
    rw [hm] at hm'
    cases hm'
    rcases h1 with ⟨_, h1⟩ | ⟨d, h1, h3⟩
    · exact .inr ⟨p, C, none, [], [], c, u, b, rfl, k, h1, (fun _ z => by cases z), ec, e', q _ (.bl _)⟩
    · exact .inr ⟨p, C, some d, _, vs, c, u, b, rfl, k, h1, (fun _ z => by cases z; exact h3), ec, e', q _ (.bl _)⟩

/-! ### a class as an argument -/
section
variable {X : Cx} {W : WX} {e : Expr} {es : List Expr} {x y : Str} {p p1 p2 pos : Pos} {m : M D}
/-- a global as a value -/
theorem pe_glv {u : Value} {v : V} (hg : Gl X y) (hm : X.mg y = some u) (r : RelV v u) (hdb : (y == ("__debug__" : Str)) = false := by decide) : PE X (.Name y p) (fun σ H Q => Q v H) := pe_glob hg hm r hdb
theorem pe_blv {n : String} (hg : Gl X y) (hm : X.mg y = none) (hv : bootBuiltins y = some (.type n)) (hn : y ≠ "__name__" := by decide) (hdb : (y == ("__debug__" : Str)) = false := by decide) : PE X (.Name y p) (fun σ H Q => Q (.ty n) H) :=
  ⟨fun pins s σ H Q I h => ld_blt I hg hm hv ⟨.ty n, H, I, rfl, h⟩ hn hdb⟩
def tIsa (c : V) (t : TE) : TA := fun σ H Q => t σ H fun v H1 => Q [v, c] H1
theorem pa_isa {t : TE} {c : V} (he : PE X e t) (hc : PE X (.Name y p) (fun σ H Q => Q c H)) (hs : starEach [e, .Name y p] X.env = (false, eval e X.env) :: starEach [.Name y p] X.env := by rfl) (hs2 : starEach [.Name y p] X.env = (false, eval (.Name y p) X.env) :: starEach [] X.env := by rfl) : PA X [e, .Name y p] (tIsa c t) :=
  PA_imp (pa_cons he (pa_cons hc pa_nil hs2) hs) fun σ H Q h => h
/-- isinstance(e, c), by data -/
theorem de_isa {c : V} {u : Value} {ti te : List (Str × Bool)} {bt : List (String × Bool)} (k : ClsV c u) (T : IsaOk X.K X.mg u ti te bt) (hg : Gl X "isinstance") (hm : X.mg "isinstance" = none) (he : DE X W e m) (hc : PE X (.Name y p) (fun σ H Q => Q c H))
    (hs : starEach [e, .Name y p] X.env = (false, eval e X.env) :: starEach [.Name y p] X.env := by rfl) (hs2 : starEach [.Name y p] X.env = (false, eval (.Name y p) X.env) :: starEach [] X.env := by rfl) (hpl : (backTo pos (starEach [.Name y p] X.env)).any (·.1) = false := by rfl) :
    DE X W (.Call (.Name "isinstance" p1) [e, .Name y p] [] pos) (d1 (opIsa ti te bt) m) :=
  PE_imp (pe_callB call_isG hg hm (by decide +kernel) (pa_isa he hc hs hs2) (by decide) (by decide) hs hpl) fun σ H Q h => d1_ok (r := fun v H Q => rIsG X.K [v, c] H Q) (UnV.s (un_isa k T)) h
/-! ### an attribute -/
/-- x.f of an error held as a value -/
def tXv (K : PySem.W.Frag) (f : Str) (te : TE) : TE := fun σ H Q => te σ H fun x H1 => ∃ (a C dd : Addr) (fs : List (Str × V)) (v : V), x = .ref a ∧ XfC K C ∧ PySem.W.findIn K (.ref C) f = some none ∧ H1 a = some (exo a C (some dd)) ∧ H1 dd = some (exd dd fs) ∧ fs.lookup f = some v ∧ Q v H1
theorem pe_xv {f : Str} {te : TE} (he : PE X e te) (hb : attributeBase e f X.env (eval e X.env) = eval e X.env := by rfl) : PE X (.Attribute e f pos) (tXv X.K f te) := by
  refine ⟨fun pins s σ H Q I h => ?_⟩
  refine attr_of hb (thn (he.run pins s σ H _ I h) fun u s1 ⟨x, H1, I1, rx, a, C, dd, fs, v, ex, T, hno, ea, ed, l, q⟩ => ?_)
  subst ex
  obtain rfl : u = Value.ref a := rx
  obtain ⟨t1, ho⟩ := exo_at I1.hok ea
  obtain ⟨mA, hns, hr⟩ := exd_at I1.hok ed
  obtain ⟨od, hod, hl⟩ := lookIn_ns hns
  obtain ⟨u, hu, ru⟩ := RelO.some_of (v := v) (o := mA f) (by rw [← l]; exact hr f)
  have J : PySem.W.InstAt s1.heap a _ C (some od) := ⟨ho, rfl, rfl, hod⟩
  exact HandSPX.exc_get I1.kIn J T.ga T.gg T.exC (PySem.W.findObj_own T.hdC hno rfl (by rw [hl, hu])) (handed_of ru) ⟨v, H1, I1.tok _, ru, q⟩
/-- x.f of an own instance or of an error -/
def rAt (K : PySem.W.Frag) (f : Str) : V → Hp → VK → Prop := fun x H Q =>
  (∃ a C dx fs v, x = .ref a ∧ H a = some (.ins C dx fs) ∧ Cls K C ∧ NoAttr K C f ∧ fs.lookup f = some v ∧ Q v H) ∨
  ∃ (a C dd : Addr) (fs : List (Str × V)) (v : V), x = .ref a ∧ XfC K C ∧ PySem.W.findIn K (.ref C) f = some none ∧ H a = some (exo a C (some dd)) ∧ H dd = some (exd dd fs) ∧ fs.lookup f = some v ∧ Q v H
theorem pe_at {f : Str} {te : TE} (he : PE X e te) (hb : attributeBase e f X.env (eval e X.env) = eval e X.env := by rfl) : PE X (.Attribute e f pos) (tUn (rAt X.K f) te) := by
  refine ⟨fun pins s σ H Q I h => ?_⟩
  refine attr_of hb (thn (he.run pins s σ H _ I h) fun u s1 ⟨x, H1, I1, rx, q⟩ => ?_)
  rcases q with ⟨a, C, dx, fs, v, ex, ea, c, n, l, q⟩ | ⟨a, C, dd, fs, v, ex, T, hno, ea, ed, l, q⟩
  · subst ex
    obtain rfl : u = Value.ref a := rx
    exact getattr_ok I1 ea c n l fun u' s2 I2 ru => ⟨v, H1, I2, ru, q⟩
  · subst ex
    obtain rfl : u = Value.ref a := rx
    obtain ⟨t1, ho⟩ := exo_at I1.hok ea
    obtain ⟨mA, hns, hr⟩ := exd_at I1.hok ed
    obtain ⟨od, hod, hl⟩ := lookIn_ns hns
    obtain ⟨u, hu, ru⟩ := RelO.some_of (v := v) (o := mA f) (by rw [← l]; exact hr f)
    have J : PySem.W.InstAt s1.heap a _ C (some od) := ⟨ho, rfl, rfl, hod⟩
    exact HandSPX.exc_get I1.kIn J T.ga T.gg T.exC (PySem.W.findObj_own T.hdC hno rfl (by rw [hl, hu])) (handed_of ru) ⟨v, H1, I1.tok _, ru, q⟩
def ClsAt (K : PySem.W.Frag) (mg : Str → Option Value) (f c : Str) : Prop := ∃ C, mg c = some (.ref C) ∧ Cls K C ∧ NoAttr K C f
def ExcAt (K : PySem.W.Frag) (mg : Str → Option Value) (f c : Str) : Prop := ∃ C, mg c = some (.ref C) ∧ XfC K C ∧ PySem.W.findIn K (.ref C) f = some none
/-- the attribute f of a datum of one of the classes -/
def opAt (ci ce : List Str) (f : Str) : D → Option D
  | .nd _ (.ins c ns) ds => if c ∈ ci then (ns.zip ds).lookup f else none
  | .nd _ (.exc c ns) ds => if c ∈ ce then (ns.zip ds).lookup f else none
  | _ => none
theorem OwnL.look {K : PySem.W.Frag} {mg : Str → Option Value} {F H : Hp} {f : Str} : ∀ {vs : List V} {ds : List D} {ns : List Str} {g : List Addr} {z : D}, OwnL K mg F H vs ds g → g = [] → shdL ds = true → (ns.zip ds).lookup f = some z → ∃ w, (ns.zip vs).lookup f = some w ∧ Own K mg F H w z []
  | _, _, ns, _, z, .nil, _, _, h => by simp at h
  | _, _, _, _, z, .un _, _, h, _ => by simp [shdL, shd] at h
  | _, _, [], _, z, .cons _ _, _, _, h => by simp at h
  | _, _, n :: ns, _, z, .cons (v := v) (d := d) r t, hg, hs, h => by
    simp only [shdL, Bool.and_eq_true] at hs
    obtain ⟨h1, h2⟩ := List.append_eq_nil_iff.mp hg
    subst h1 h2
    rw [List.zip_cons_cons, List.lookup_cons] at h ⊢
    cases e : (f == n) with
    | true =>
      rw [e] at h
      simp only [Option.some.injEq] at h
      subst h
      exact ⟨v, rfl, r⟩
    | false =>
      rw [e] at h
      exact OwnL.look t rfl hs.2 h
theorem un_at {ci ce : List Str} {f : Str} (hi : ∀ c ∈ ci, ClsAt X.K X.mg f c) (he : ∀ c ∈ ce, ExcAt X.K X.mg f c) : UnV X (rAt X.K f) (opAt ci ce f) := by
  intro F H v x z Q eF a e q hx
  unfold opAt at e
  split at e <;> first | (cases e; done) | skip
  · split at e
    · rename_i hc
      obtain ⟨p, vs, rfl, h1, h2⟩ := a.nd eF
      obtain ⟨C, dx, hm, _, h1⟩ := h1
      obtain ⟨C', hm', cl, no⟩ := hi _ hc
      rw [hm] at hm'
      cases hm'
      obtain ⟨w, hw, ow⟩ := OwnL.look h2 rfl hx e
      exact .inl ⟨p, C, dx, _, w, rfl, h1, cl, no, hw, q w ow⟩
    · cases e
  · split at e
    · rename_i hc
      obtain ⟨p, vs, rfl, h1, h2⟩ := a.nd eF
      obtain ⟨C, hm, _, h1⟩ := h1
      obtain ⟨C', hm', cl, no⟩ := he _ hc
      rw [hm] at hm'
      cases hm'
      obtain ⟨w, hw, ow⟩ := OwnL.look h2 rfl hx e
      rcases h1 with ⟨hn, _⟩ | ⟨d, h1, h3⟩
      · subst hn; simp at e
      · exact .inr ⟨p, C, d, _, w, rfl, cl, no, h1, h3, hw, q w ow⟩
    · cases e
theorem de_at {ci ce : List Str} {f : Str} (hi : ∀ c ∈ ci, ClsAt X.K X.mg f c) (hc : ∀ c ∈ ce, ExcAt X.K X.mg f c) (he : DE X W e m) (hb : attributeBase e f X.env (eval e X.env) = eval e X.env := by rfl) : DE X W (.Attribute e f pos) (d1 (opAt ci ce f) m) :=
  PE_imp (pe_at he hb) fun σ H Q h => d1_ok (UnV.s (un_at hi hc)) h
/-- .. of an instance that a slot holds, only read -/
theorem de_atL {ci ce : List Str} {f : Str} {i : Nat} (hi : ∀ c ∈ ci, ClsAt X.K X.mg f c) (hc : ∀ c ∈ ce, ExcAt X.K X.mg f c) (he : PE X (.Name x p) (tVar i)) (hb : attributeBase (.Name x p) f X.env (eval (.Name x p) X.env) = eval (.Name x p) X.env := by rfl) : DE X W (.Attribute (.Name x p) f pos) (d1L (opAt ci ce f) i) :=
  PE_imp (pe_at he hb) fun σ H Q h => d1L_ok (un_at hi hc) h
end
/-! ### making errors -/
/-- C.__init__(self, f): self.f = f -/
def spE1 (K : PySem.W.Frag) (f : Str) : Sp := fun vs H Q E => ∃ (a C : Addr) (v : V), vs = [.ref a, v] ∧ OexC K C ∧ PySem.W.findIn K (.ref C) f = some none ∧ H a = some (exo a C none) ∧ ∀ dx, H dx = none → dx ≠ a → Q .non (upd (upd H dx (exd dx [(f, v)])) a (exo a C (some dx)))
def spE0 (K : PySem.W.Frag) : Sp := fun vs H Q E => ∃ (a C : Addr), vs = [.ref a] ∧ OexC K C ∧ H a = some (exo a C none) ∧ Q .non H
section
variable {X : Cx} {e : Expr} {es : List Expr} {ta : TA} {x : Str} {p p1 p2 pos : Pos}
/-- S.__init__(self, ..), S an own class that leaves it to ValueError -/
theorem pe_seinit {S : Addr} {mc : Value} {pl : Sem Bool} (hg : Gl X x) (hm : X.mg x = some (.ref S)) (rd : PySem.W.readsIn X.K S mc = true) (ga : PySem.W.specialIn X.K (.ref S) "__getattribute__" = some (some (.builtin "type.__getattribute__")))
    (vV : PySem.W.findCls X.K (.ref S) mc "__init__" = some (.val (.builtin "ValueError.__init__"))) (ha : PA X (e :: es) ta) (hdb : (x == ("__debug__" : Str)) = false := by decide)
    (hc : eval (.Call (.Attribute (.Name x p1) "__init__" p2) (e :: es) [] pos) X.env = (do
      let ov ← eval (.Name x p1) X.env
      standAt p2.atName
      let (f, first) ← holding [ov] (getMethod ov "__init__" pl)
      callWith pos f first (backTo pos (starEach (e :: es) X.env)) (backToKw pos (keywordEach [] X.env))) := by rfl)
    (he : starEach (e :: es) X.env = (false, eval e X.env) :: starEach es X.env := by rfl) (hpl : (backTo pos (starEach es X.env)).any (·.1) = false := by rfl) :
    PE X (.Call (.Attribute (.Name x p1) "__init__" p2) (e :: es) [] pos) (tVeI X.K ta) := by
  refine ⟨fun pins s σ H Q I h => ?_⟩
  refine PySem.W.methodCall_KW (ld_glob I hg hm ?_ hdb) hc
  refine PySem.W.method_cls I.kIn ga (PySem.W.cls_value I.kIn rd vV rfl ?_)
  show wpAny _ _ (callWith pos (Value.builtin "ValueError.__init__") [] (backTo pos (starEach (e :: es) X.env)) []) _ _ _
  refine PyProof.Rows.callWith_method1 (thn (ha.run pos pins _ σ H _ (I.tok _) h) fun us s1 ⟨vs, H1, I1, r1, a, C, ws, ev, hl, T, ea, q⟩ => ?_) he hpl
  subst ev
  cases r1 with
  | @cons _ u0 _ ur ra rw' =>
    obtain rfl : u0 = Value.ref a := ra
    have hlen : ur.length ≤ sizeLine := by
      rw [← Paired.length rw', sizeLine_eq]
      omega
    exact oinit_ok T I1 ea hlen fun s' J => ⟨.non, H1, J, rfl, q⟩

/-- C(e, ..) as a value, C's own __init__ keeping sp -/
def tMkV (C : Addr) (sp : Sp) (ta : TA) : TE := fun σ H Q => ta σ H fun vs H1 => vs.length ≤ 1000 ∧ ∀ a, H1 a = none → sp (.ref a :: vs) (upd H1 a (exo a C none)) (fun v H2 => v = .non ∧ Q (.ref a) H2) (fun _ _ _ => False)
variable {CX : CXT} {C fI : Addr} {k : Nat} {fd : FuncData} {ps : List Str} {sp : Sp}
theorem mkx_run {pins : List (Addr × Obj)} {σ : L2.St} {H1 : Hp} {s1 : Shared} {Q : VK} {vs : List V} {us : List Value} (T : OexC X.K C) (iC : PySem.W.findIn X.K (.ref C) "__init__" = some (some (.ref fI))) (tI : PySem.W.typeIn X.K (.ref fI) = some (.type "function"))
    (F1 : FnOk X.prog X.w X.K X.mg X.base CX k fI fd ps sp) (hr : Room (k + 1) X.A) (hb : Binds X.K fd ps []) (hx : Passes CX X (fun _ _ _ => False)) (I1 : Inv X pins σ H1 s1) (r1 : Vals vs us) (hz : vs.length ≤ 1000)
    (q1 : ∀ a, H1 a = none → sp (.ref a :: vs) (upd H1 a (exo a C none)) (fun v H2 => v = .non ∧ Q (.ref a) H2) (fun _ _ _ => False)) : wpAny (model X.prog X.w) X.A (call (.ref C) us) (EP X pins σ Q) X.xe s1 := by
  obtain ⟨nm, q, N, bs, bm, sn, sub, ab, col, dd, k0, k1, k2, k3, k5, hC, hbm⟩ := T.cls
  obtain ⟨hp, g, dr, tk, os⟩ := s1
  have hsz : hp.objs.size ≤ hp.objs.size + 1 := Nat.le_succ _
  have hn : H1 (hp.objs.size + 1) = none := I1.hok.fresh hsz
  have hq := q1 (hp.objs.size + 1) hn
  have kk : ∀ b o, hp.get? b = some o → ((hp.push (PySem.W.kdv_tup us)).push (PySem.HandSPX.excO C hp.objs.size)).get? b = some o := fun b o e => Heap.get?_push_of_some _ (Heap.get?_push_of_some _ e)
  have hget : ((hp.push (PySem.W.kdv_tup us)).push (PySem.HandSPX.excO C hp.objs.size)).get? (hp.objs.size + 1) = some (PySem.HandSPX.excO C hp.objs.size) := by heap_get
  have I2 : Inv X pins σ (upd H1 (hp.objs.size + 1) (exo (hp.objs.size + 1) C none)) ⟨(hp.push (PySem.W.kdv_tup us)).push (PySem.HandSPX.excO C hp.objs.size), g, dr, tk, os⟩ :=
    I1.laid (t' := tk) (a := hp.objs.size + 1) (o := exo (hp.objs.size + 1) C none) (h' := (hp.push (PySem.W.kdv_tup us)).push (PySem.HandSPX.excO C hp.objs.size)) kk hsz (exo_ok hget)
  have r2 : Vals (V.ref (hp.objs.size + 1) :: vs) (Value.ref (hp.objs.size + 1) :: us) := .cons rfl r1
  have hl : ((Value.ref (hp.objs.size + 1) :: us) ++ ([] : List Value)).length = ps.length := by
    have e := r2.length
    rw [F1.len _ _ _ _ hq] at e
    rw [List.append_nil]
    exact e.symm
  have hus : us.length ≤ sizeLine := by
    rw [← Paired.length r1, sizeLine_eq]
    omega
  have hb2 := hb ⟨(hp.push (PySem.W.kdv_tup us)).push (PySem.HandSPX.excO C hp.objs.size), g, dr, tk, os⟩ (Value.ref (hp.objs.size + 1) :: us) I2.kIn hl
  rw [List.append_nil] at hb2
  refine wpAny_call (PySem.HandSPX.call_own F.excBase_ValueError (fun Y => PySem.HandSPX.refsVE_contains Y bm hbm) (I1.kIn _ _ hC) (PySem.W.looks_findIn I1.kIn iC) (fun self => PySem.W.bind_fn I1.kIn self tI) hus
    (codeAny_mono (F1.run _ X.stack _ _ ⟨Value.ref (hp.objs.size + 1) :: us, []⟩ (Value.ref (hp.objs.size + 1) :: us) _ _ (fun _ _ _ => False) (hr.make C us []) (I2.env0.make C us []) hb2 r2 hq) fun r s' hq' => ?_))
  cases r with
  | error er => exact hx pins σ _ _ er s' I2 hq'
  | ok fl =>
    cases fl with
    | ret u =>
      obtain ⟨v, H2, J, rv, ev, q2⟩ := I2.after hq'
      subst ev
      exact ⟨rv, .ref (hp.objs.size + 1), H2, J, rfl, q2⟩
    | next => exact False.elim hq'
    | brk => exact False.elim hq'
    | cont => exact False.elim hq'
theorem pe_mkx (T : OexC X.K C) (iC : PySem.W.findIn X.K (.ref C) "__init__" = some (some (.ref fI))) (tI : PySem.W.typeIn X.K (.ref fI) = some (.type "function"))
    (F1 : FnOk X.prog X.w X.K X.mg X.base CX k fI fd ps sp) (hr : Room (k + 1) X.A) (hb : Binds X.K fd ps []) (hx : Passes CX X (fun _ _ _ => False)) (hg : Gl X x) (hm : X.mg x = some (.ref C)) (ha : PA X (e :: es) ta)
    (hdb : (x == ("__debug__" : Str)) = false := by decide) (he : starEach (e :: es) X.env = (false, eval e X.env) :: starEach es X.env := by rfl) (hpl : (backTo pos (starEach es X.env)).any (·.1) = false := by rfl) :
    PE X (.Call (.Name x p) (e :: es) [] pos) (tMkV C sp ta) := by
  refine ⟨fun pins s σ H Q I h => ?_⟩
  refine wpAny_Call_Name_kw (ld_glob I hg hm ?_ hdb)
  refine PySem.W.callWith_K (h₀ := X.base) I.ok.mod.kin T.kC (thn (ha.run pos pins s σ H _ I h) fun us s1 ⟨vs, H1, I1, r1, hz, q1⟩ => ⟨I1.kIn, ?_⟩) he hpl
  show wpAny _ _ (call (.ref C) us) _ _ _
  exact mkx_run T iC tI F1 hr hb hx I1 r1 hz q1
theorem pe_mkx0 (T : OexC X.K C) (iC : PySem.W.findIn X.K (.ref C) "__init__" = some (some (.ref fI))) (tI : PySem.W.typeIn X.K (.ref fI) = some (.type "function"))
    (F1 : FnOk X.prog X.w X.K X.mg X.base CX k fI fd ps sp) (hr : Room (k + 1) X.A) (hb : Binds X.K fd ps []) (hx : Passes CX X (fun _ _ _ => False)) (hg : Gl X x) (hm : X.mg x = some (.ref C))
    (hdb : (x == ("__debug__" : Str)) = false := by decide) : PE X (.Call (.Name x p) [] [] pos) (tMkV C sp tNil) := by
  refine ⟨fun pins s σ H Q I h => ?_⟩
  refine wpAny_Call_Name_kw (ld_glob I hg hm ?_ hdb)
  exact PySem.W.callWith_K0 I.kIn T.kC (mkx_run (us := []) (vs := []) T iC tI F1 hr hb hx I .nil h.1 h.2)
end
end DL

/-! DL14: errors by data: made as values, raised. -/
namespace DL
open PySem PySem.Spec PyProof.Rows L2
/-- the error class c is made with one field / with none -/
structure MkE (P : Program) (w : World) (K : PySem.W.Frag) (mg : Str → Option Value) (base : Heap) (k : Nat) (c : Str) (fo : Option Str) : Prop where
  ex : ∃ (C fI : Addr) (fd : FuncData), mg c = some (.ref C) ∧ OexC K C ∧ PySem.W.findIn K (.ref C) "__init__" = some (some (.ref fI)) ∧ PySem.W.typeIn K (.ref fI) = some (.type "function") ∧
    match fo with
    | some f => PySem.W.findIn K (.ref C) f = some none ∧ FnOk P w K mg base (L2.CX P w) k fI fd ["self", f] (spE1 K f) ∧ Binds K fd ["self", f] []
    | none => FnOk P w K mg base (L2.CX P w) k fI fd ["self"] (spE0 K) ∧ Binds K fd ["self"] []
def nsOf : Option Str → List Str
  | some f => [f]
  | none => []
def dExc (c : Str) (fo : Option Str) (m : M (List D)) : M D := bnd m fun xs => if wholeL xs = true ∧ xs.length = (nsOf fo).length then ret (.nd false (.exc c (nsOf fo)) (frzL xs)) else fail
section
variable {X : Cx} {W : WX} {e : Expr} {es : List Expr} {x : Str} {p p1 p2 pos : Pos} {m : M (List D)} {k : Nat} {f : Str}
/-- two new shared objects -/
theorem Sta.newExc {K : PySem.W.Frag} {mg : Str → Option Value} {B F H : Hp} {σ : L2.St} {ρ : List D} {a dx C : Addr} {fs : List (Str × V)} (s : Sta K mg B F H σ ρ) (ha : H a = none) (hd : upd H a (exo a C none) dx = none) (hne : dx ≠ a) :
    upd (upd (upd H a (exo a C none)) dx (exd dx fs)) a (exo a C (some dx)) = upd (upd H dx (exd dx fs)) a (exo a C (some dx)) ∧ H dx = none ∧
    Exx F (upd (upd F dx (exd dx fs)) a (exo a C (some dx))) ∧ Sta K mg B (upd (upd F dx (exd dx fs)) a (exo a C (some dx))) (upd (upd H dx (exd dx fs)) a (exo a C (some dx))) σ ρ := by
  have hd' : H dx = none := by rw [upd_ne hne] at hd; exact hd
  refine ⟨?_, hd', ?_⟩
  · funext b
    by_cases h1 : b = a
    · rw [h1, upd_same, upd_same]
    · rw [upd_ne h1, upd_ne h1]
      by_cases h2 : b = dx
      · rw [h2, upd_same, upd_same]
      · rw [upd_ne h2, upd_ne h2, upd_ne h1]
  · obtain ⟨e1, s1⟩ := s.newS (o := exd dx fs) hd'
    obtain ⟨e2, s2⟩ := s1.newS (p := a) (o := exo a C (some dx)) (by rw [upd_ne (Ne.symm hne)]; exact ha)
    exact ⟨e1.trans e2, s2⟩
theorem de_exc1 {c : Str} (T : MkE X.prog X.w X.K X.mg X.base k c (some f)) (hr : Room (k + 1) X.A) (hg : Gl X c) (ha : DA X W (e :: es) m)
    (hdb : (c == ("__debug__" : Str)) = false := by decide) (he : starEach (e :: es) X.env = (false, eval e X.env) :: starEach es X.env := by rfl) (hpl : (backTo pos (starEach es X.env)).any (·.1) = false := by rfl) :
    DE X W (.Call (.Name c p) (e :: es) [] pos) (dExc c (some f) m) := by
  obtain ⟨C, fI, fd, hm, T1, iC, tI, hno, F1, hb⟩ := T.ex
  refine PE_imp (pe_mkx T1 iC tI F1 hr hb passL hg hm ha hdb he hpl) fun σ H Q h => ?_
  obtain ⟨B, F, ρ, o, s, e, p⟩ := h
  refine denA_weak (fun vs H1 ⟨B, F, ρ, o, xs, hl, s, e, p⟩ => ?_) (denA_bnd (Post := fun B F o => PostE X W σ B F Q o) postE_X postE_m s e p)
  split at e
  · rename_i hx
    cases e
    obtain ⟨F', eF, s2, r2⟩ := s.shareL hl hx.1
    match xs, vs, hl, hx with
    | [d], [v], hl, hx =>
      refine ⟨by simp, fun a ha => ⟨a, C, v, rfl, T1, hno, upd_same, fun dx hd hne => ⟨rfl, ?_⟩⟩⟩
      obtain ⟨e1, hdn, e2, s3⟩ := s2.newExc (fs := [(f, v)]) ha hd hne
      rw [e1]
      refine p (.ref a) _ _ (eF.trans e2) (s3.add (.sh ⟨C, hm, rfl, .inr ⟨dx, upd_same, ?_⟩⟩ (r2.shared e2)))
      rw [upd_ne hne, upd_same]
      rfl
    | [], _, _, hx => exact absurd hx.2 (by simp [nsOf])
    | _ :: _ :: _, _, _, hx => exact absurd hx.2 (by simp [nsOf])
    | [_], [], hl, _ => simp at hl
    | [_], _ :: _ :: _, hl, _ => simp at hl
  · cases e
theorem de_exc0 {c : Str} (T : MkE X.prog X.w X.K X.mg X.base k c none) (hr : Room (k + 1) X.A) (hg : Gl X c) (hdb : (c == ("__debug__" : Str)) = false := by decide) : DE X W (.Call (.Name c p) [] [] pos) (dExc c none dNil) := by
  obtain ⟨C, fI, fd, hm, T1, iC, tI, F1, hb⟩ := T.ex
  refine PE_imp (pe_mkx0 T1 iC tI F1 hr hb passL hg hm hdb) fun σ H Q h => ?_
  obtain ⟨B, F, ρ, o, s, e, p⟩ := h
  cases e
  refine ⟨by simp, fun a ha => ⟨a, C, rfl, T1, upd_same, rfl, ?_⟩⟩
  obtain ⟨e1, s1⟩ := s.newS (o := exo a C none) ha
  exact p (.ref a) _ _ e1 (s1.add (.sh ⟨C, hm, rfl, .inl ⟨rfl, upd_same⟩⟩ .nil))
/-! ### raising -/
/-- C(), C's own __init__ keeping sp: no dict -/
def tMkO0 (C : Addr) (sp : Sp) : L2.St → Hp → XK → Prop := fun σ H Q => ∀ a, H a = none → sp [.ref a] (upd H a (exo a C none))
  (fun v H2 => v = .non ∧ H2 a = some (exo a C none) ∧ Q (.ref C) none (del H2 a)) (fun _ _ _ => False)
theorem mk_endN {pins : List (Addr × Obj)} {σ : L2.St} {H1 H2 : Hp} {hp hp2 h2 : Heap} {g1 g2 : Array GenState} {d1 d2 : Drawn} {t1 t2 : Nat} {os1 os2 : OsState} {a C : Addr} (I1 : Inv X pins σ H1 ⟨hp, g1, d1, t1, os1⟩)
    (ha : hp.objs.size ≤ a) (k : ∀ b o, hp.get? b = some o → hp2.get? b = some o) (un : Un (frs X.stack) [] (upd H1 a (exo a C none)) H2 hp2 h2) (hok : HOk X.prog X.w H2 h2) (ho : os2 = os1) (hb : AllBare g2)
    (ea : H2 a = some (exo a C none)) :
    ∃ (t0 : Addr) (G : Heap), Inv X pins σ (del H2 a) ⟨G, g2, d2, t2, os2⟩ ∧ (∀ b o, G.get? b = some o → h2.get? b = some o) ∧ G.get? a = none ∧
      h2.get? a = some ({ cls := .ref C, dict := none, data := .fields #[.ref t0, .none, .none, .none, .bool false, .none] } : Obj) := by
  obtain ⟨t0, hoe⟩ := exo_at hok ea
  have hn : H1 a = none := I1.hok.fresh ha
  obtain ⟨G, g1', g2'⟩ := restrict h2 fun b => decide (b ≠ a)
  have gk : ∀ b, b ≠ a → G.get? b = h2.get? b := fun b hb => g1' b (decide_eq_true hb)
  have ge : G.get? a = none := g2' a (by simp)
  have nha : ∀ {b : Addr} {o : Obj}, hp.get? b = some o → b ≠ a := fun {b o} z => Nat.ne_of_lt (Nat.lt_of_lt_of_le (Heap.lt_size z) ha)
  have up : ∀ {b : Addr}, b ≠ a → H1 b = none → upd H1 a (exo a C none) b = none := fun {b} hb n => by rw [upd_ne hb]; exact n
  have U : Un (frs X.stack) [] H1 (del H2 a) hp G := {
    keep := fun b o z n hf hx => by
      rw [gk b (nha z)]
      exact un.keep b o (k b o z) (up (nha z) n) hf hx
    slot := fun b o z n hf hx => by
      rw [gk b (nha z)]
      exact un.slot b o (k b o z) (up (nha z) n) hf hx
    free := fun b o z n hx => by
      rw [del_ne (nha z)]
      exact un.free b o (k b o z) (up (nha z) n) hx
    there := fun b o z hx => by
      rw [gk b (nha z)]
      exact un.there b o (k b o z) hx
    tups := fun b xs z => by
      rw [del_ne (ne_of_none z hn)]
      exact un.tups b xs (by rw [upd_ne (ne_of_none z hn)]; exact z)
    frzs := fun b o v z => by
      rw [del_ne (ne_of_none z hn)]
      exact un.frzs b o v (by rw [upd_ne (ne_of_none z hn)]; exact z)
    tbls := fun b ps z => by
      rw [del_ne (ne_of_none z hn)]
      exact un.tbls b ps (by rw [upd_ne (ne_of_none z hn)]; exact z) }
  have hok3 : HOk X.prog X.w (del H2 a) G := fun b o z => by
    have hba : b ≠ a := fun e => by
      rw [e, del_same] at z
      cases z
    rw [del_ne hba] at z
    have noa : ∀ {c : Addr}, H2 c = some (.own b) → c ≠ a := fun {c} hc => at_ne ea hc exo_own
    exact (hok b o z).stay (fun c v hc y => by
        have hca : c ≠ a := by
          rcases hc with hc | hc
          · rw [hc]
            exact hba
          · exact noa hc
        rw [gk c hca]
        exact y)
      (fun c hc => by rw [del_ne (noa hc)]; exact hc) (fun c xs hc => by rw [del_ne (at_ne ea hc exo_tup)]; exact hc)
  have J : Inv X pins σ (del H2 a) ⟨G, g2, d2, t2, os2⟩ := I1.call' (ch := []) ho U hok3 hb (fun b z => absurd z (by simp))
  refine ⟨t0, G, J, fun b o z => ?_, ge, hoe⟩
  by_cases hba : b = a
  · rw [hba, ge] at z
    cases z
  · exact (gk b hba).symm.trans z
theorem pmk_oex0 {CX : CXT} {C fI : Addr} {fd : FuncData} {ps : List Str} {sp : Sp} (T : OexC X.K C) (iC : PySem.W.findIn X.K (.ref C) "__init__" = some (some (.ref fI))) (tI : PySem.W.typeIn X.K (.ref fI) = some (.type "function"))
    (F1 : FnOk X.prog X.w X.K X.mg X.base CX k fI fd ps sp) (hr : Room (k + 1) X.A) (hb : Binds X.K fd ps []) (hx : Passes CX X (fun _ _ _ => False)) (hg : Gl X x) (hm : X.mg x = some (.ref C))
    (hdb : (x == ("__debug__" : Str)) = false := by decide) : PMk X (.Call (.Name x p) [] [] pos) (tMkO0 C sp) := by
  intro pins s σ H Q I1 h
  obtain ⟨nm, q, N, bs, bm, sn, sub, ab, col, dd, k0, k1, k2, k3, k5, hC, hbm⟩ := T.cls
  refine wpAny_Call_Name_kw (ld_glob I1 hg hm ?_ hdb)
  refine PySem.W.callWith_K0 I1.kIn T.kC ?_
  show wpAny _ _ (call (.ref C) []) _ _ _
  obtain ⟨hp, g, dr, tk, os⟩ := s
  have hsz : hp.objs.size ≤ hp.objs.size + 1 := Nat.le_succ _
  have hn : H (hp.objs.size + 1) = none := I1.hok.fresh hsz
  have hq := h (hp.objs.size + 1) hn
  have kk : ∀ b o, hp.get? b = some o → ((hp.push (PySem.W.kdv_tup [])).push (PySem.HandSPX.excO C hp.objs.size)).get? b = some o := fun b o e => Heap.get?_push_of_some _ (Heap.get?_push_of_some _ e)
  have hget : ((hp.push (PySem.W.kdv_tup [])).push (PySem.HandSPX.excO C hp.objs.size)).get? (hp.objs.size + 1) = some (PySem.HandSPX.excO C hp.objs.size) := by heap_get
  have I2 : Inv X pins σ (upd H (hp.objs.size + 1) (exo (hp.objs.size + 1) C none)) ⟨(hp.push (PySem.W.kdv_tup [])).push (PySem.HandSPX.excO C hp.objs.size), g, dr, tk, os⟩ :=
    I1.laid (t' := tk) (a := hp.objs.size + 1) (o := exo (hp.objs.size + 1) C none) (h' := (hp.push (PySem.W.kdv_tup [])).push (PySem.HandSPX.excO C hp.objs.size)) kk hsz (exo_ok hget)
  have r2 : Vals [V.ref (hp.objs.size + 1)] [Value.ref (hp.objs.size + 1)] := .cons rfl .nil
  have hl : ([Value.ref (hp.objs.size + 1)] ++ ([] : List Value)).length = ps.length := by
    have e := r2.length
    rw [F1.len _ _ _ _ hq] at e
    rw [List.append_nil]
    exact e.symm
  have hb2 := hb ⟨(hp.push (PySem.W.kdv_tup [])).push (PySem.HandSPX.excO C hp.objs.size), g, dr, tk, os⟩ [Value.ref (hp.objs.size + 1)] I2.kIn hl
  rw [List.append_nil] at hb2
  refine wpAny_call (PySem.HandSPX.call_own F.excBase_ValueError (fun Y => PySem.HandSPX.refsVE_contains Y bm hbm) (I1.kIn _ _ hC) (PySem.W.looks_findIn I1.kIn iC) (fun self => PySem.W.bind_fn I1.kIn self tI) (by simp)
    (codeAny_mono (F1.run _ X.stack _ _ ⟨[Value.ref (hp.objs.size + 1)], []⟩ [Value.ref (hp.objs.size + 1)] _ _ (fun _ _ _ => False) (hr.make C [] []) (I2.env0.make C [] []) hb2 r2 hq) fun r s' hq' => ?_))
  cases r with
  | error er => exact hx pins σ _ _ er s' I2 hq'
  | ok fl =>
    cases fl with
    | ret u =>
      obtain ⟨v, H2, os2, bare2, un2, hok2, rv, ev, ea, q2⟩ := hq'
      subst ev
      obtain ⟨h2, g2, d2, t2, os'⟩ := s'
      obtain ⟨t0, G, J, kG, ge, hoe⟩ := mk_endN (d2 := d2) (t2 := t2) I1 hsz kk un2 hok2 os2 bare2 ea
      exact ⟨rv, hp.objs.size + 1, _, _, ⟨G, g2, d2, t2, os'⟩, _, .ref C, none, rfl, J, kG, ge, hoe, ⟨rfl, rfl⟩, rfl, rfl, del_same, rfl, bare2, raises_own T.exC T.tyC, q2⟩
    | next => exact False.elim hq'
    | brk => exact False.elim hq'
    | cont => exact False.elim hq'
/-- raise C(e, ..) -/
def sRaise (c : Str) (fo : Option Str) (m : M (List D)) : S := sBnd m fun xs ρ => if wholeL xs = true ∧ xs.length = (nsOf fo).length then some (.ex (.nd false (.exc c (nsOf fo)) (frzL xs)) ρ) else none
theorem denA_sBnd {is : List Nat} {D' : Ends} {σ : L2.St} {H : Hp} {B F : Hp} {m : M (List D)} {k : List D → S} {ρ : List D} {o : Fl} (s : Sta X.K X.mg B F H σ ρ) (h : sBnd m k ρ = some o) (p : PostS X W is D' σ B F o) :
    denA X W m σ H fun vs H1 => ∃ F1 ρ1 xs, Exx F F1 ∧ vs.length = xs.length ∧ Sta X.K X.mg B F1 H1 (vs.map some ++ σ) (xs ++ ρ1) ∧ k xs ρ1 = some o ∧ PostS X W is D' σ B F1 o := by
  unfold sBnd at h
  cases hmr : m ρ with
  | none => rw [hmr] at h; cases h
  | some o1 =>
    rw [hmr] at h
    cases o1 with
    | ex x ρ' =>
      simp only [Option.some.injEq] at h
      subst h
      exact ⟨B, F, ρ, _, s, hmr, PostS.xe p⟩
    | ok x ρ' => exact ⟨B, F, ρ, _, s, hmr, fun v F' H' eF hl s' => ⟨F', ρ', x, eF, hl, s', h, PostS.mono eF (.refl _ _) p⟩⟩
theorem ds_raise1 {is : List Nat} {c : Str} (T : MkE X.prog X.w X.K X.mg X.base k c (some f)) (hr : Room (k + 1) X.A) (hcalm : X.calm = true) (tk : Takes X W) (hg : Gl X c) (ha : DA X W (e :: es) m)
    (hdb : (c == ("__debug__" : Str)) = false := by decide) (he : starEach (e :: es) X.env = (false, eval e X.env) :: starEach es X.env := by rfl) (hpl : (backTo p2 (starEach es X.env)).any (·.1) = false := by rfl) :
    DS X W is (.Raise (some (.Call (.Name c p) (e :: es) [] p2)) none pos) (sRaise c (some f) m) := by
  obtain ⟨C, fI, fd, hm, T1, iC, tI, hno, F1, hb⟩ := T.ex
  refine PS_imp (ps_raise hcalm tk (pmk_oex (dvs := []) T1 iC tI F1 hr hb .nil passL hg hm ha hdb he hpl)) fun D' σ H ⟨B, F, ρ, o, s, e, p⟩ => ?_
  refine denA_weak (fun vs H1 ⟨F, ρ, xs, eF0, hl, s, e, p⟩ => ?_) (denA_sBnd (is := is) s e p)
  split at e
  · rename_i hx
    cases e
    obtain ⟨F', eF, s2, r2⟩ := s.shareL hl hx.1
    match xs, vs, hl, hx with
    | [d], [v], hl, hx =>
      refine ⟨by simp, fun a ha => ⟨a, C, v, rfl, T1, hno, upd_same, fun dx hd hne => ⟨rfl, dx, [(f, v)], upd_same, ?_, ?_, ?_⟩⟩⟩
      · rw [upd_ne hne, upd_same]
      · rw [upd_ne hne] at hd; exact hd
      · have hd' : H1 dx = none := by rw [upd_ne hne] at hd; exact hd
        have e1 : upd (del (upd (upd (upd H1 a (exo a C none)) dx (exd dx [(f, v)])) a (exo a C (some dx))) a) dx (.xd [(f, v)]) = upd H1 dx (.xd [(f, v)]) := by
          funext b
          by_cases h1 : b = dx
          · rw [h1, upd_same, upd_same]
          · rw [upd_ne h1, upd_ne h1]
            by_cases h2 : b = a
            · rw [h2, del_same]; exact ha.symm
            · rw [del_ne h2, upd_ne h2, upd_ne h1, upd_ne h2]
        rw [e1]
        obtain ⟨⟨g, t, nd, nb⟩, ex, bx, dis⟩ := s2
        have hf : ∀ b ∈ g, b ≠ dx := fun b hb e => by
          obtain ⟨u, hu⟩ := (EnvL.mem t b hb).2
          rw [e, hd'] at hu; cases hu
        have s3 : Sta X.K X.mg B F' (upd H1 dx (.xd [(f, v)])) σ ρ := ⟨⟨g, t.frame (.refl F') fun b hb => ⟨(EnvL.mem t b hb).1, by rw [upd_ne (hf b hb)]⟩, nd, nb⟩, ex.mut (ex.fre hd'), bx.mut (bx.fre hd'), dis⟩
        refine p σ (.ref C) (some dx) F' _ eF (.refl _ _) s3 ⟨c, [f], _, C, rfl, hm, rfl, [v], rfl, upd_same, ?_⟩
        have r3 := r2
        exact r3.frame (.refl F') fun b hb => by cases hb
    | [], _, _, hx => exact absurd hx.2 (by simp [nsOf])
    | _ :: _ :: _, _, _, hx => exact absurd hx.2 (by simp [nsOf])
    | [_], [], hl, _ => simp at hl
    | [_], _ :: _ :: _, hl, _ => simp at hl
  · cases e
theorem ds_raise0 {is : List Nat} {c : Str} (T : MkE X.prog X.w X.K X.mg X.base k c none) (hr : Room (k + 1) X.A) (hcalm : X.calm = true) (tk : Takes X W) (hg : Gl X c) (hdb : (c == ("__debug__" : Str)) = false := by decide) :
    DS X W is (.Raise (some (.Call (.Name c p) [] [] p2)) none pos) (sRaise c none dNil) := by
  obtain ⟨C, fI, fd, hm, T1, iC, tI, F1, hb⟩ := T.ex
  refine PS_imp (ps_raise hcalm tk (pmk_oex0 T1 iC tI F1 hr hb passL hg hm hdb)) fun D' σ H ⟨B, F, ρ, o, s, e, p⟩ => ?_
  cases e
  refine fun a ha => ⟨a, C, rfl, T1, upd_same, rfl, upd_same, ?_⟩
  have e1 : del (upd H a (exo a C none)) a = H := by
    funext b
    by_cases h2 : b = a
    · rw [h2, del_same]; exact ha.symm
    · rw [del_ne h2, upd_ne h2]
  rw [e1]
  exact p σ (.ref C) none F H (.refl F) (.refl _ _) s ⟨c, [], _, C, rfl, hm, rfl, rfl, rfl⟩
end
end DL

/-! DL15: what the text gives: defs, constants, error classes; promises by name; the end of a law. -/
namespace DL
open PySem PySem.Spec PyProof.Rows L2
/-- a def that stands in the module -/
structure FnA (K : PySem.W.Frag) (mg : Str → Option Value) (x qual : Str) (st : Stmt) (ps : List Str) : Prop where
  ex : ∃ f fd, mg x = some (.ref f) ∧ L2.Fun K x qual st f fd ∧ Binds K fd ps []
/-- the def x is worth g -/
structure OkF (P : Program) (w : World) (K : PySem.W.Frag) (mg : Str → Option Value) (base : Heap) (k : Nat) (x : Str) (ps : List Str) (g : List D → Option (O D)) : Prop where
  ex : ∃ f fd, mg x = some (.ref f) ∧ PySem.W.keepIn K (.ref f) = true ∧ Binds K fd ps [] ∧ FnOk P w K mg base (L2.CX P w) k f fd ps (spD K mg ps.length g) ∧ ∃ oc od osl, K.lookup f = some ⟨oc, od, .func fd, osl⟩
section
variable {P : Program} {w : World} {K : PySem.W.Frag} {mg : Str → Option Value} {base : Heap}
theorem FnA.ok {x qual : Str} {st : Stmt} {N ps : List Str} {k : Nat} {m : S} {is : List Nat} {g : List D → Option (O D)} (A : FnA K mg x qual st ps) (hg : g = runF m is N.length ps.length) (Sc : FnScope N ps (defScope st)) (hps : ps.length ≤ N.length)
    (hbody : ∀ (f : Addr) (cdv : Value) (A : Around) (outer : List Env) (s : Shared) (H : Hp) (E : XK), Room k (A.deeper (PyProof.Rows.envOfC qual (defScope st) s.heap.objs.size f cdv)) →
      DSs (cxOf (L2.CX P w) P w K mg base N qual (defScope st) f cdv A outer s H E) (fun cls d _ H' => E cls d H') is (defBody st) m) : OkF P w K mg base (k + 1) x ps g := by
  obtain ⟨f, fd, hm, F, hb⟩ := A.ex
  subst hg
  refine ⟨f, fd, hm, F.kp, hb, fn_ok F Sc hps fun cdv A outer s H E hr => hbody f cdv A outer s H E hr, ?_⟩
  obtain ⟨oc, od, kV, doc, pm, an, cdv, ct, osl, rfl, lk, hcd⟩ := F.ex
  exact ⟨oc, od, osl, lk⟩
theorem OkF.imp {x : Str} {ps : List Str} {k : Nat} {g g' : List D → Option (O D)} (h : OkF P w K mg base k x ps g) (i : ∀ ds o, g' ds = some o → g ds = some o) : OkF P w K mg base k x ps g' := by
  obtain ⟨f, fd, hm, hk, hb, F, lk⟩ := h.ex
  exact ⟨f, fd, hm, hk, hb, F.imp (spD_imp i), lk⟩
end
section
variable {X : Cx} {W : WX} {e : Expr} {es : List Expr} {x : Str} {p pos : Pos} {as : List Ar} {k : Nat} {ps : List Str} {g : List D → Option (O D)}
theorem de_callF (G : OkF X.prog X.w X.K X.mg X.base k x ps g) (hr : Room k X.A) (hg : Gl X x) (tk : Takes X W) (ha : DAr X W (e :: es) as) (hdb : (x == ("__debug__" : Str)) = false := by decide)
    (he : starEach (e :: es) X.env = (false, eval e X.env) :: starEach es X.env := by rfl) (hpl : (backTo pos (starEach es X.env)).any (·.1) = false := by rfl) : DE X W (.Call (.Name x p) (e :: es) [] pos) (dCall ps.length g as []) := by
  obtain ⟨f, fd, hm, hk, hb, F, _⟩ := G.ex
  exact de_call (dvs := []) (ds0 := []) F hr hg hm hk hb .nil (fun _ _ => .nil) tk ha hdb he hpl
end
/-! ### constants of the module -/
/-- the name x stands for the datum d -/
structure ConstA (K : PySem.W.Frag) (mg : Str → Option Value) (x : Str) (d : D) : Prop where
  ex : ∃ (v : V) (u : Value), mg x = some u ∧ RelV v u ∧ ∀ F H, Own K mg F H v d []
theorem ConstA.de {X : Cx} {W : WX} {x : Str} {d : D} {pos : Pos} (c : ConstA X.K X.mg x d) (hg : Gl X x) (hdb : (x == ("__debug__" : Str)) = false := by decide) : DE X W (.Name x pos) (ret d) := by
  obtain ⟨v, u, hm, r, ho⟩ := c.ex
  exact de_glob hg hm r ho hdb
theorem const_int {K : PySem.W.Frag} {mg : Str → Option Value} {x : Str} {i : Int} {t : Tok} (h : mg x = some (.int i t)) : ConstA K mg x (.int i) := ⟨.int i, _, h, ⟨t, rfl⟩, fun _ _ => .int i⟩
theorem const_str {K : PySem.W.Frag} {mg : Str → Option Value} {x s : Str} {t : Tok} (h : mg x = some (.str s t)) : ConstA K mg x (.str s) := ⟨.str s, _, h, ⟨t, rfl⟩, fun _ _ => .str s⟩
/-! ### error classes -/
structure ErrC (K : PySem.W.Frag) (mg : Str → Option Value) (c qual : Str) (fo : Option Str) (st : Stmt) : Prop where
  ex : ∃ (C fI : Addr) (fd : FuncData), mg c = some (.ref C) ∧ OexC K C ∧ XfC K C ∧ ExcC K C ∧ PySem.W.findIn K (.ref C) "__init__" = some (some (.ref fI)) ∧ PySem.W.typeIn K (.ref fI) = some (.type "function") ∧ L2.Fun K "__init__" qual st fI fd ∧
    match fo with
    | some f => PySem.W.findIn K (.ref C) f = some none ∧ Binds K fd ["self", f] []
    | none => Binds K fd ["self"] []
structure BaseE (K : PySem.W.Frag) (mg : Str → Option Value) (c : Str) : Prop where
  ex : ∃ (S : Addr) (mc : Value), mg c = some (.ref S) ∧ PySem.W.readsIn K S mc = true ∧ PySem.W.specialIn K (.ref S) "__getattribute__" = some (some (.builtin "type.__getattribute__")) ∧ PySem.W.findCls K (.ref S) mc "__init__" = some (.val (.builtin "ValueError.__init__"))
theorem ErrC.at {K : PySem.W.Frag} {mg : Str → Option Value} {c qual f : Str} {st : Stmt} (h : ErrC K mg c qual (some f) st) : ExcAt K mg f c := by
  obtain ⟨C, fI, fd, hm, _, hx, _, _, _, _, hn, _⟩ := h.ex
  exact ⟨C, hm, hx, hn⟩
theorem mke1 {P : Program} {w : World} {K : PySem.W.Frag} {mg : Str → Option Value} {base : Heap} {c qual f : Str} {st : Stmt} (h : ErrC K mg c qual (some f) st) (sc : FnScope ["self", f] ["self", f] (defScope st))
    (b : ∀ (fa : Addr) (cdv : Value) (A : Around) (outer : List Env) (s : Shared) (H : Hp) (E : XK), ∃ tx, PSs (cxOf (L2.CX P w) P w K mg base ["self", f] qual (defScope st) fa cdv A outer s H E) (defBody st) (tSeq (tDrop (tVeI K (tCons (tVar 0) (tCons (tC (.str tx)) tNil)))) (tOst K f (tVar 0) (tVar 1)))) :
    MkE P w K mg base 1 c (some f) := by
  obtain ⟨C, fI, fd, hm, T1, T2, T3, iC, tI, Fn, hno, hb⟩ := h.ex
  refine ⟨C, fI, fd, hm, T1, iC, tI, hno, ?_, hb⟩
  refine Fn.okX sc (fun vs H Q E ⟨a, C, v, h, _⟩ => by subst h; rfl) (fun cdv A outer s H vs Q E hr h => ?_)
  obtain ⟨tx, ht⟩ := b fI cdv A outer s H E
  refine ⟨_, ht, ?_⟩
  obtain ⟨a, C', v, rfl, O, no, ha, q⟩ := h
  exact ⟨.ref a, rfl, a, C', [.str tx], rfl, by simp, O, ha, v, rfl, .ref a, rfl, a, C', rfl, O, no, .inl ⟨ha, fun dx n ne => q dx n ne⟩⟩
theorem mke0 {P : Program} {w : World} {K : PySem.W.Frag} {mg : Str → Option Value} {base : Heap} {c qual : Str} {st : Stmt} (h : ErrC K mg c qual none st) (sc : FnScope ["self"] ["self"] (defScope st))
    (b : ∀ (fa : Addr) (cdv : Value) (A : Around) (outer : List Env) (s : Shared) (H : Hp) (E : XK), ∃ tx, PSs (cxOf (L2.CX P w) P w K mg base ["self"] qual (defScope st) fa cdv A outer s H E) (defBody st) (tDrop (tVeI K (tCons (tVar 0) (tCons (tC (.str tx)) tNil))))) :
    MkE P w K mg base 1 c none := by
  obtain ⟨C, fI, fd, hm, T1, T2, T3, iC, tI, Fn, hb⟩ := h.ex
  refine ⟨C, fI, fd, hm, T1, iC, tI, ?_, hb⟩
  refine Fn.okX sc (fun vs H Q E ⟨a, C, h, _⟩ => by subst h; rfl) (fun cdv A outer s H vs Q E hr h => ?_)
  obtain ⟨tx, ht⟩ := b fI cdv A outer s H E
  refine ⟨_, ht, ?_⟩
  obtain ⟨a, C', rfl, O, ha, q⟩ := h
  exact ⟨.ref a, rfl, a, C', [.str tx], rfl, by simp, O, ha, q⟩
/-- isinstance of an own class, of a built-in one -/
def IsaC (K : PySem.W.Frag) (mg : Str → Option Value) (y : Str) (ti te : List (Str × Bool)) (bt : List (String × Bool)) : Prop := ∃ C, mg y = some (.ref C) ∧ IsaOk K mg (.ref C) ti te bt
theorem de_isaC {X : Cx} {W : WX} {e : Expr} {y : Str} {p p1 pos : Pos} {m : M D} {ti te : List (Str × Bool)} {bt : List (String × Bool)} (h : IsaC X.K X.mg y ti te bt) (hg : Gl X "isinstance") (hm : X.mg "isinstance" = none) (he : DE X W e m) (hy : Gl X y) (hdb : (y == ("__debug__" : Str)) = false := by decide)
    (hs : starEach [e, .Name y p] X.env = (false, eval e X.env) :: starEach [.Name y p] X.env := by rfl) (hs2 : starEach [.Name y p] X.env = (false, eval (.Name y p) X.env) :: starEach [] X.env := by rfl) (hpl : (backTo pos (starEach [.Name y p] X.env)).any (·.1) = false := by rfl) :
    DE X W (.Call (.Name "isinstance" p1) [e, .Name y p] [] pos) (d1 (opIsa ti te bt) m) := by
  obtain ⟨C, hC, I⟩ := h
  exact de_isa (.own C) I hg hm he (pe_glv hy hC rfl hdb) hs hs2 hpl
theorem de_isaT {X : Cx} {W : WX} {e : Expr} {y : Str} {n : String} {p p1 pos : Pos} {m : M D} {ti te : List (Str × Bool)} {bt : List (String × Bool)} (I : IsaOk X.K X.mg (.type n) ti te bt) (hn0 : X.mg y = none) (hv : bootBuiltins y = some (.type n)) (hg : Gl X "isinstance") (hm : X.mg "isinstance" = none) (he : DE X W e m) (hy : Gl X y)
    (hn : y ≠ "__name__" := by decide) (hdb : (y == ("__debug__" : Str)) = false := by decide)
    (hs : starEach [e, .Name y p] X.env = (false, eval e X.env) :: starEach [.Name y p] X.env := by rfl) (hs2 : starEach [.Name y p] X.env = (false, eval (.Name y p) X.env) :: starEach [] X.env := by rfl) (hpl : (backTo pos (starEach [.Name y p] X.env)).any (·.1) = false := by rfl) :
    DE X W (.Call (.Name "isinstance" p1) [e, .Name y p] [] pos) (d1 (opIsa ti te bt) m) := de_isa (.ty n) I hg hm he (pe_blv hy hn0 hv hn hdb) hs hs2 hpl
/-! ### the end -/
theorem ints_own {K : PySem.W.Frag} {mg : Str → Option Value} {F H : Hp} : ∀ ns : List Int, OwnL K mg F H (ns.map V.int) (ns.map D.int) []
  | [] => .nil
  | n :: ns => OwnL.nil_app (.int n) (ints_own ns)
/-- the law's promise, as the end wants it -/
theorem law_sp {K : PySem.W.Frag} {mg : Str → Option Value} {g : List D → Option (O D)} {H : Hp} {a : Addr} {ns : List Int} (hS : SqL K H a (ns.map V.int)) (h : ∃ ds, g [.nd false .scr (ns.map .int)] = some (.ok (.bl true) ds)) :
    spD K mg 1 g [.ref a] H (fun v _ => v = .bl true) fun _ _ _ => False := by
  obtain ⟨ds, h⟩ := h
  refine ⟨fun _ => none, H, [.nd false .scr (ns.map .int)], _, rfl, ⟨⟨[], ?_, List.nodup_nil, (fun _ h => by cases h)⟩, .refl H, (fun _ _ h => by cases h), (fun _ _ h => by cases h)⟩, h, ?_⟩
  · exact EnvL.cons (f := []) (g := []) (.sh hS (ints_own ns)) .nil
  · intro v F' H' _ s
    obtain ⟨⟨f, e, _⟩, _⟩ := s
    cases e with
    | cons r t => exact r.bl_inv
end DL

/-! DLS: the data layer's terms unfold by simp. -/
namespace DL
open PySem L2
section
variable {α β : Type}
@[simp] theorem bnd_s (m : M α) (k : α → M β) (ρ : List D) : bnd m k ρ = match m ρ with | some (.ok a ρ') => k a ρ' | some (.ex x ρ') => some (.ex x ρ') | none => none := rfl
@[simp] theorem ret_s (a : α) (ρ : List D) : ret a ρ = some (.ok a ρ) := rfl
@[simp] theorem fail_s (ρ : List D) : (fail : M α) ρ = none := rfl
@[simp] theorem lft_some (a : α) (ρ : List D) : lft (some a) ρ = some (.ok a ρ) := rfl
@[simp] theorem lft_none (ρ : List D) : lft (none : Option α) ρ = none := rfl
@[simp] theorem sBnd_s (m : M α) (k : α → S) (ρ : List D) : sBnd m k ρ = match m ρ with | some (.ok a ρ') => k a ρ' | some (.ex x ρ') => some (.ex x ρ') | none => none := rfl
@[simp] theorem sSeq_s (m n : S) (ρ : List D) : sSeq m n ρ = match m ρ with | some (.nx ρ') => n ρ' | o => o := rfl
@[simp] theorem sNil_s (ρ : List D) : sNil ρ = some (.nx ρ) := rfl
@[simp] theorem sBk_s (ρ : List D) : sBk ρ = some (.bk ρ) := rfl
@[simp] theorem sCt_s (ρ : List D) : sCt ρ = some (.ct ρ) := rfl
@[simp] theorem sRetN_s (ρ : List D) : sRetN ρ = some (.rt .non ρ) := rfl
@[simp] theorem sDrop_s (m : M D) (ρ : List D) : (sDrop m) ρ = (sBnd m fun _ ρ => some (.nx ρ)) ρ := rfl
@[simp] theorem sRet_s (m : M D) (ρ : List D) : (sRet m) ρ = (sBnd m fun d ρ => some (.rt d ρ)) ρ := rfl
@[simp] theorem sIf_s (t : M Bool) (m n : S) (ρ : List D) : (sIf t m n) ρ = (sBnd t fun b => if b = true then m else n) ρ := rfl
@[simp] theorem sAsg_s (m : M D) (g : G) (ρ : List D) : (sAsg m g) ρ = (sBnd m fun d ρ => match g d ρ with | some ρ' => some (.nx ρ') | none => none) ρ := rfl
@[simp] theorem gN_s (i : Nat) (d : D) (ρ : List D) : gN i d ρ = some (ρ.set i d) := rfl
@[simp] theorem gsNil_s (ρ : List D) : gsNil [] ρ = some ρ := rfl
@[simp] theorem gsCons_s (g : G) (h : Gs) (d : D) (ds ρ : List D) : gsCons g h (d :: ds) ρ = (g d ρ).bind (h ds) := rfl
@[simp] theorem dTup_s (m : M (List D)) (ρ : List D) : (dTup m) ρ = (bnd m fun xs => if wholeL xs = true ∧ xs.length ≤ 100000 then ret (.nd false .tup (frzL xs)) else fail) ρ := rfl
@[simp] theorem dLst_s (m : M (List D)) (ρ : List D) : (dLst m) ρ = (bnd m fun xs => if xs.length ≤ 100000 then ret (.nd true .lst xs) else fail) ρ := rfl
@[simp] theorem dNil_s  (ρ : List D) : (dNil) ρ = (ret []) ρ := rfl
@[simp] theorem dCons_s (a : M D) (r : M (List D)) (ρ : List D) : (dCons a r) ρ = (bnd a fun x => bnd r fun xs => ret (x :: xs)) ρ := rfl
@[simp] theorem d1_s (op : D → Option D) (a : M D) (ρ : List D) : (d1 op a) ρ = (bnd a fun x => if whole x = true then lft (op (frz x)) else fail) ρ := rfl
@[simp] theorem d2_s (op : D → D → Option D) (a b : M D) (ρ : List D) : (d2 op a b) ρ = (bnd a fun x => bnd b fun y => if whole x = true ∧ whole y = true then lft (op (frz x) (frz y)) else fail) ρ := rfl
@[simp] theorem dCa_s (op : List D → Option D) (a : M (List D)) (ρ : List D) : (dCa op a) ρ = (bnd a fun xs => if wholeL xs = true then lft (op (frzL xs)) else fail) ρ := rfl
@[simp] theorem dExc_s (c : Str) (fo : Option Str) (m : M (List D)) (ρ : List D) : (dExc c fo m) ρ = (bnd m fun xs => if wholeL xs = true ∧ xs.length = (nsOf fo).length then ret (.nd false (.exc c (nsOf fo)) (frzL xs)) else fail) ρ := rfl
@[simp] theorem sRaise_s (c : Str) (fo : Option Str) (m : M (List D)) (ρ : List D) : (sRaise c fo m) ρ = (sBnd m fun xs ρ => if wholeL xs = true ∧ xs.length = (nsOf fo).length then some (.ex (.nd false (.exc c (nsOf fo)) (frzL xs)) ρ) else none) ρ := rfl
@[simp] theorem nsOf_some (f : Str) : nsOf (some f) = [f] := rfl
@[simp] theorem nsOf_none : nsOf none = [] := rfl
@[simp] theorem dtB_s (m : M D) (ρ : List D) : (dtB m) ρ = (bnd m fun d => match d with | .bl b => ret b | _ => fail) ρ := rfl
@[simp] theorem dTru_s (m : M D) (ρ : List D) : (dTru m) ρ = (bnd m fun d => if whole d = true then lft (tru (frz d)) else fail) ρ := rfl
@[simp] theorem dAnd_s (m n : M Bool) (ρ : List D) : (dAnd m n) ρ = (bnd m fun c => if c = true then n else ret false) ρ := rfl
@[simp] theorem dOr_s (m n : M Bool) (ρ : List D) : (dOr m n) ρ = (bnd m fun c => if c = true then ret true else n) ρ := rfl
@[simp] theorem dNot_s (m : M Bool) (ρ : List D) : (dNot m) ρ = (bnd m fun c => ret (!c)) ρ := rfl
@[simp] theorem dAndV_s (m n : M D) (ρ : List D) : (dAndV m n) ρ = (bnd m fun x => if whole x = true then (match tru (frz x) with | some true => n | some false => ret (frz x) | none => fail) else fail) ρ := rfl
@[simp] theorem dOrV_s (m n : M D) (ρ : List D) : (dOrV m n) ρ = (bnd m fun x => if whole x = true then (match tru (frz x) with | some true => ret x | some false => n | none => fail) else fail) ρ := rfl
@[simp] theorem dNotV_s (m : M D) (ρ : List D) : (dNotV m) ρ = (bnd m fun x => if whole x = true then (match tru (frz x) with | some k => ret (.bl (!k)) | none => fail) else fail) ρ := rfl
@[simp] theorem dIf_s (t : M Bool) (m n : M α) (ρ : List D) : (dIf t m n) ρ = (bnd t fun c => if c = true then m else n) ρ := rfl
@[simp] theorem dPart_s (m : M D) (ρ : List D) : (dPart m) ρ = (bnd m fun d => match d with | .int i => ret (some i) | _ => fail) ρ := rfl
@[simp] theorem dNoPart_s  (ρ : List D) : (dNoPart) ρ = (ret none) ρ := rfl
@[simp] theorem dSl_s (a : M D) (l h : M (Option Int)) (ρ : List D) : (dSl a l h) ρ = (bnd a fun x => bnd l fun lo => bnd h fun hi => if whole x = true then lft (opSl (frz x) lo hi) else fail) ρ := rfl
@[simp] theorem dSeq_s (m : M D) (ρ : List D) : (dSeq m) ρ = (bnd m fun x => if whole x = true then lft (seqD (frz x)) else fail) ρ := rfl
@[simp] theorem sFor_s (src : M (List D)) (g : G) (b : S) (ρ : List D) : (sFor src g b) ρ = (sBnd src fun ds => forD g b ds) ρ := rfl
@[simp] theorem forD_nil (g : G) (b : S) (ρ : List D) : forD g b [] ρ = some (.nx ρ) := rfl
/-- a name that holds what is shared -/
theorem dVar_of {i : Nat} {ρ : List D} {d : D} (h : ρ[i]? = some d) (hs : shd d = true) : dVar i ρ = some (.ok d ρ) := by unfold dVar; rw [h]; simp [hs]
theorem dVar_fr {i : Nat} {ρ : List D} {d : D} (h : ρ[i]? = some d) (hw : whole d = true) : dVar i ρ = some (.ok (frz d) (ρ.set i (frz d))) := by
  unfold dVar
  rw [h]
  by_cases hs : shd d = true
  · simp only [hs, if_true, frz_shd hs]
    rw [set_get h]
  · simp [hs, hw]
theorem d2L_s (op : D → D → Option D) (i : Nat) (b : M D) (ρ0 : List D) : d2L op i b ρ0 = match ρ0[i]? with
  | some d0 => if whole d0 = true then (bnd b fun y ρ => match ρ[i]? with
    | some d => if whole d = true ∧ flatOwned d = true ∧ whole y = true then (match op d (frz y) with | some z => some (.ok z ρ) | none => none) else none
    | none => none) ρ0 else none
  | none => none := rfl
end
/-! ### data -/
@[simp] theorem whole_non : whole .non = true := rfl
@[simp] theorem whole_bl (b : Bool) : whole (.bl b) = true := rfl
@[simp] theorem whole_int (i : Int) : whole (.int i) = true := rfl
@[simp] theorem whole_str (x : Str) : whole (.str x) = true := rfl
@[simp] theorem whole_nd (o : Bool) (k : Kd) (ds : List D) : whole (.nd o k ds) = wholeL ds := by simp [whole]
@[simp] theorem wholeL_nil : wholeL [] = true := rfl
@[simp] theorem wholeL_cons (d : D) (ds : List D) : wholeL (d :: ds) = (whole d && wholeL ds) := by simp [wholeL]
@[simp] theorem shd_non : shd .non = true := rfl
@[simp] theorem shd_bl (b : Bool) : shd (.bl b) = true := rfl
@[simp] theorem shd_int (i : Int) : shd (.int i) = true := rfl
@[simp] theorem shd_str (x : Str) : shd (.str x) = true := rfl
@[simp] theorem shd_nd (o : Bool) (k : Kd) (ds : List D) : shd (.nd o k ds) = (!o && shdL ds) := by simp [shd]
@[simp] theorem shdL_nil : shdL [] = true := rfl
@[simp] theorem shdL_cons (d : D) (ds : List D) : shdL (d :: ds) = (shd d && shdL ds) := by simp [shdL]
@[simp] theorem frz_non : frz .non = .non := rfl
@[simp] theorem frz_bl (b : Bool) : frz (.bl b) = .bl b := rfl
@[simp] theorem frz_int (i : Int) : frz (.int i) = .int i := rfl
@[simp] theorem frz_str (x : Str) : frz (.str x) = .str x := rfl
@[simp] theorem frz_nd (o : Bool) (k : Kd) (ds : List D) : frz (.nd o k ds) = .nd false k (frzL ds) := by simp [frz]
@[simp] theorem frzL_nil : frzL [] = [] := rfl
@[simp] theorem frzL_cons (d : D) (ds : List D) : frzL (d :: ds) = frz d :: frzL ds := by simp [frzL]
@[simp] theorem flat_nd (o : Bool) (k : Kd) (ds : List D) : flatOwned (.nd o k ds) = shdL ds := rfl
theorem wholeL_of {ds : List D} (h : ∀ d ∈ ds, whole d = true) : wholeL ds = true := by
  induction ds with
  | nil => rfl
  | cons d ds ih => rw [wholeL_cons, h d (List.mem_cons_self ..), ih fun x hx => h x (List.mem_cons_of_mem _ hx)]; rfl
theorem shdL_of {ds : List D} (h : ∀ d ∈ ds, shd d = true) : shdL ds = true := by
  induction ds with
  | nil => rfl
  | cons d ds ih => rw [shdL_cons, h d (List.mem_cons_self ..), ih fun x hx => h x (List.mem_cons_of_mem _ hx)]; rfl
theorem shdL_app {xs ys : List D} : shdL (xs ++ ys) = (shdL xs && shdL ys) := by
  induction xs with
  | nil => simp
  | cons d ds ih => simp [ih, Bool.and_assoc]
theorem wholeL_app {xs ys : List D} : wholeL (xs ++ ys) = (wholeL xs && wholeL ys) := by
  induction xs with
  | nil => simp
  | cons d ds ih => simp [ih, Bool.and_assoc]
theorem frzL_app {xs ys : List D} : frzL (xs ++ ys) = frzL xs ++ frzL ys := by
  induction xs with
  | nil => simp
  | cons d ds ih => simp [ih]
@[simp] theorem shdL_ints (ns : List Int) : shdL (ns.map .int) = true := by induction ns <;> simp [*]
@[simp] theorem wholeL_ints (ns : List Int) : wholeL (ns.map .int) = true := by induction ns <;> simp [*]
@[simp] theorem frzL_ints (ns : List Int) : frzL (ns.map .int) = ns.map .int := by induction ns <;> simp [*]
/-! ### comparisons -/
@[simp] theorem eqv_non_non : eqv .non .non = true := by simp [eqv]
@[simp] theorem eqv_non_bl (b2 : Bool) : eqv .non (.bl b2) = false := by simp [eqv]
@[simp] theorem eqv_non_int (i2 : Int) : eqv .non (.int i2) = false := by simp [eqv]
@[simp] theorem eqv_non_str (x2 : Str) : eqv .non (.str x2) = false := by simp [eqv]
@[simp] theorem eqv_non_tup (o2 : Bool) (xs2 : List D) : eqv .non (.nd o2 .tup xs2) = false := by simp [eqv]
@[simp] theorem eqv_non_lst (o2 : Bool) (xs2 : List D) : eqv .non (.nd o2 .lst xs2) = false := by simp [eqv]
@[simp] theorem eqv_non_scr (o2 : Bool) (xs2 : List D) : eqv .non (.nd o2 .scr xs2) = false := by simp [eqv]
@[simp] theorem eqv_bl_non (b1 : Bool) : eqv (.bl b1) .non = false := by simp [eqv]
@[simp] theorem eqv_bl_bl (b1 : Bool) (b2 : Bool) : eqv (.bl b1) (.bl b2) = (b1 == b2) := by simp [eqv]
@[simp] theorem eqv_bl_int (b1 : Bool) (i2 : Int) : eqv (.bl b1) (.int i2) = ((if b1 then 1 else 0) == i2) := by simp [eqv]
@[simp] theorem eqv_bl_str (b1 : Bool) (x2 : Str) : eqv (.bl b1) (.str x2) = false := by simp [eqv]
@[simp] theorem eqv_bl_tup (b1 : Bool) (o2 : Bool) (xs2 : List D) : eqv (.bl b1) (.nd o2 .tup xs2) = false := by simp [eqv]
@[simp] theorem eqv_bl_lst (b1 : Bool) (o2 : Bool) (xs2 : List D) : eqv (.bl b1) (.nd o2 .lst xs2) = false := by simp [eqv]
@[simp] theorem eqv_bl_scr (b1 : Bool) (o2 : Bool) (xs2 : List D) : eqv (.bl b1) (.nd o2 .scr xs2) = false := by simp [eqv]
@[simp] theorem eqv_int_non (i1 : Int) : eqv (.int i1) .non = false := by simp [eqv]
@[simp] theorem eqv_int_bl (i1 : Int) (b2 : Bool) : eqv (.int i1) (.bl b2) = (i1 == (if b2 then 1 else 0)) := by simp [eqv]
@[simp] theorem eqv_int_int (i1 : Int) (i2 : Int) : eqv (.int i1) (.int i2) = (i1 == i2) := by simp [eqv]
@[simp] theorem eqv_int_str (i1 : Int) (x2 : Str) : eqv (.int i1) (.str x2) = false := by simp [eqv]
@[simp] theorem eqv_int_tup (i1 : Int) (o2 : Bool) (xs2 : List D) : eqv (.int i1) (.nd o2 .tup xs2) = false := by simp [eqv]
@[simp] theorem eqv_int_lst (i1 : Int) (o2 : Bool) (xs2 : List D) : eqv (.int i1) (.nd o2 .lst xs2) = false := by simp [eqv]
@[simp] theorem eqv_int_scr (i1 : Int) (o2 : Bool) (xs2 : List D) : eqv (.int i1) (.nd o2 .scr xs2) = false := by simp [eqv]
@[simp] theorem eqv_str_non (x1 : Str) : eqv (.str x1) .non = false := by simp [eqv]
@[simp] theorem eqv_str_bl (x1 : Str) (b2 : Bool) : eqv (.str x1) (.bl b2) = false := by simp [eqv]
@[simp] theorem eqv_str_int (x1 : Str) (i2 : Int) : eqv (.str x1) (.int i2) = false := by simp [eqv]
@[simp] theorem eqv_str_str (x1 : Str) (x2 : Str) : eqv (.str x1) (.str x2) = (x1 == x2) := by simp [eqv]
@[simp] theorem eqv_str_tup (x1 : Str) (o2 : Bool) (xs2 : List D) : eqv (.str x1) (.nd o2 .tup xs2) = false := by simp [eqv]
@[simp] theorem eqv_str_lst (x1 : Str) (o2 : Bool) (xs2 : List D) : eqv (.str x1) (.nd o2 .lst xs2) = false := by simp [eqv]
@[simp] theorem eqv_str_scr (x1 : Str) (o2 : Bool) (xs2 : List D) : eqv (.str x1) (.nd o2 .scr xs2) = false := by simp [eqv]
@[simp] theorem eqv_tup_non (o1 : Bool) (xs1 : List D) : eqv (.nd o1 .tup xs1) .non = false := by simp [eqv]
@[simp] theorem eqv_tup_bl (o1 : Bool) (xs1 : List D) (b2 : Bool) : eqv (.nd o1 .tup xs1) (.bl b2) = false := by simp [eqv]
@[simp] theorem eqv_tup_int (o1 : Bool) (xs1 : List D) (i2 : Int) : eqv (.nd o1 .tup xs1) (.int i2) = false := by simp [eqv]
@[simp] theorem eqv_tup_str (o1 : Bool) (xs1 : List D) (x2 : Str) : eqv (.nd o1 .tup xs1) (.str x2) = false := by simp [eqv]
@[simp] theorem eqv_tup_tup (o1 : Bool) (xs1 : List D) (o2 : Bool) (xs2 : List D) : eqv (.nd o1 .tup xs1) (.nd o2 .tup xs2) = eqvL xs1 xs2 := by simp [eqv]
@[simp] theorem eqv_tup_lst (o1 : Bool) (xs1 : List D) (o2 : Bool) (xs2 : List D) : eqv (.nd o1 .tup xs1) (.nd o2 .lst xs2) = false := by simp [eqv]
@[simp] theorem eqv_tup_scr (o1 : Bool) (xs1 : List D) (o2 : Bool) (xs2 : List D) : eqv (.nd o1 .tup xs1) (.nd o2 .scr xs2) = false := by simp [eqv]
@[simp] theorem eqv_lst_non (o1 : Bool) (xs1 : List D) : eqv (.nd o1 .lst xs1) .non = false := by simp [eqv]
@[simp] theorem eqv_lst_bl (o1 : Bool) (xs1 : List D) (b2 : Bool) : eqv (.nd o1 .lst xs1) (.bl b2) = false := by simp [eqv]
@[simp] theorem eqv_lst_int (o1 : Bool) (xs1 : List D) (i2 : Int) : eqv (.nd o1 .lst xs1) (.int i2) = false := by simp [eqv]
@[simp] theorem eqv_lst_str (o1 : Bool) (xs1 : List D) (x2 : Str) : eqv (.nd o1 .lst xs1) (.str x2) = false := by simp [eqv]
@[simp] theorem eqv_lst_tup (o1 : Bool) (xs1 : List D) (o2 : Bool) (xs2 : List D) : eqv (.nd o1 .lst xs1) (.nd o2 .tup xs2) = false := by simp [eqv]
@[simp] theorem eqv_lst_lst (o1 : Bool) (xs1 : List D) (o2 : Bool) (xs2 : List D) : eqv (.nd o1 .lst xs1) (.nd o2 .lst xs2) = eqvL xs1 xs2 := by simp [eqv]
@[simp] theorem eqv_lst_scr (o1 : Bool) (xs1 : List D) (o2 : Bool) (xs2 : List D) : eqv (.nd o1 .lst xs1) (.nd o2 .scr xs2) = eqvL xs1 xs2 := by simp [eqv]
@[simp] theorem eqv_scr_non (o1 : Bool) (xs1 : List D) : eqv (.nd o1 .scr xs1) .non = false := by simp [eqv]
@[simp] theorem eqv_scr_bl (o1 : Bool) (xs1 : List D) (b2 : Bool) : eqv (.nd o1 .scr xs1) (.bl b2) = false := by simp [eqv]
@[simp] theorem eqv_scr_int (o1 : Bool) (xs1 : List D) (i2 : Int) : eqv (.nd o1 .scr xs1) (.int i2) = false := by simp [eqv]
@[simp] theorem eqv_scr_str (o1 : Bool) (xs1 : List D) (x2 : Str) : eqv (.nd o1 .scr xs1) (.str x2) = false := by simp [eqv]
@[simp] theorem eqv_scr_tup (o1 : Bool) (xs1 : List D) (o2 : Bool) (xs2 : List D) : eqv (.nd o1 .scr xs1) (.nd o2 .tup xs2) = false := by simp [eqv]
@[simp] theorem eqv_scr_lst (o1 : Bool) (xs1 : List D) (o2 : Bool) (xs2 : List D) : eqv (.nd o1 .scr xs1) (.nd o2 .lst xs2) = eqvL xs1 xs2 := by simp [eqv]
@[simp] theorem eqv_scr_scr (o1 : Bool) (xs1 : List D) (o2 : Bool) (xs2 : List D) : eqv (.nd o1 .scr xs1) (.nd o2 .scr xs2) = eqvL xs1 xs2 := by simp [eqv]
@[simp] theorem eqvL_nil : eqvL [] [] = true := by simp [eqvL]
@[simp] theorem eqvL_cons (x y : D) (xs ys : List D) : eqvL (x :: xs) (y :: ys) = (eqv x y && eqvL xs ys) := by simp [eqvL]
@[simp] theorem eqvL_nc (y : D) (ys : List D) : eqvL [] (y :: ys) = false := by simp [eqvL]
@[simp] theorem eqvL_cn (y : D) (ys : List D) : eqvL (y :: ys) [] = false := by simp [eqvL]
@[simp] theorem cmpOk_non (n : Nat) : cmpOk n .non = true := by cases n <;> simp [cmpOk]
@[simp] theorem cmpOk_bl (n : Nat) (b : Bool) : cmpOk n (.bl b) = true := by cases n <;> simp [cmpOk]
@[simp] theorem cmpOk_int (n : Nat) (b : Int) : cmpOk n (.int b) = true := by cases n <;> simp [cmpOk]
@[simp] theorem cmpOk_str (n : Nat) (x : Str) : cmpOk n (.str x) = x.cps.all (· < 0x110000) := by cases n <;> simp [cmpOk]
theorem cmpOk_lst (n : Nat) (o : Bool) (ds : List D) : cmpOk (n + 1) (.nd o .lst ds) = cmpOkL n ds := by simp [cmpOk]
theorem cmpOk_tup (n : Nat) (o : Bool) (ds : List D) : cmpOk (n + 1) (.nd o .tup ds) = cmpOkL n ds := by simp [cmpOk]
theorem cmpOk_scr (n : Nat) (o : Bool) (ds : List D) : cmpOk (n + 1) (.nd o .scr ds) = cmpOkL n ds := by simp [cmpOk]
@[simp] theorem cmpOkL_nil (n : Nat) : cmpOkL n [] = true := by simp [cmpOkL]
@[simp] theorem cmpOkL_cons (n : Nat) (d : D) (ds : List D) : cmpOkL n (d :: ds) = (cmpOk n d && cmpOkL n ds) := by simp [cmpOkL]
theorem cmpOkL_of {n : Nat} : ∀ {ds : List D}, (∀ d ∈ ds, cmpOk n d = true) → cmpOkL n ds = true
  | [], _ => by simp
  | d :: ds, h => by rw [cmpOkL_cons, h d (List.mem_cons_self ..), cmpOkL_of fun x hx => h x (List.mem_cons_of_mem _ hx)]; rfl
mutual
theorem cmpOk_mono : ∀ {n m : Nat} {d : D}, cmpOk n d = true → n ≤ m → cmpOk m d = true
  | n, m, .un, h, _ => by cases n <;> simp [cmpOk] at h
  | n, m, .non, h, _ => by simp
  | n, m, .bl _, h, _ => by simp
  | n, m, .int _, h, _ => by simp
  | n, m, .str x, h, _ => by rw [cmpOk_str] at h ⊢; exact h
  | 0, m, .nd o k ds, h, _ => by cases k <;> simp [cmpOk] at h
  | n + 1, m, .nd o k ds, h, hm => by
    obtain ⟨m', rfl⟩ : ∃ m', m = m' + 1 := ⟨m - 1, by omega⟩
    cases k with
    | lst => rw [cmpOk_lst] at h ⊢; exact cmpOkL_mono h (by omega)
    | tup => rw [cmpOk_tup] at h ⊢; exact cmpOkL_mono h (by omega)
    | scr => rw [cmpOk_scr] at h ⊢; exact cmpOkL_mono h (by omega)
    | ins c ns => simp [cmpOk] at h
    | exc c ns => simp [cmpOk] at h
  | n, m, .dc o ks ds, h, _ => by cases n <;> simp [cmpOk] at h
theorem cmpOkL_mono : ∀ {n m : Nat} {ds : List D}, cmpOkL n ds = true → n ≤ m → cmpOkL m ds = true
  | n, m, [], h, _ => by simp
  | n, m, d :: ds, h, hm => by
    rw [cmpOkL_cons, Bool.and_eq_true] at h ⊢
    exact ⟨cmpOk_mono h.1 hm, cmpOkL_mono h.2 hm⟩
end
mutual
theorem eqv_refl : ∀ {n : Nat} {d : D}, cmpOk n d = true → eqv d d = true
  | n, .un, h => by cases n <;> simp [cmpOk] at h
  | n, .non, h => by simp
  | n, .bl _, h => by simp
  | n, .int _, h => by simp
  | n, .str x, h => by simp
  | 0, .nd o k ds, h => by cases k <;> simp [cmpOk] at h
  | n + 1, .nd o k ds, h => by
    cases k with
    | lst => rw [cmpOk_lst] at h; rw [eqv_lst_lst]; exact eqvL_refl h
    | tup => rw [cmpOk_tup] at h; rw [eqv_tup_tup]; exact eqvL_refl h
    | scr => rw [cmpOk_scr] at h; rw [eqv_scr_scr]; exact eqvL_refl h
    | ins c ns => simp [cmpOk] at h
    | exc c ns => simp [cmpOk] at h
  | n, .dc o ks ds, h => by cases n <;> simp [cmpOk] at h
theorem eqvL_refl : ∀ {n : Nat} {ds : List D}, cmpOkL n ds = true → eqvL ds ds = true
  | n, [], h => by simp
  | n, d :: ds, h => by
    rw [cmpOkL_cons, Bool.and_eq_true] at h
    rw [eqvL_cons, eqv_refl h.1, eqvL_refl h.2]; rfl
end
theorem opEq_of {x y : D} (h : cmpOk 20 x = true) (g : cmpOk 20 y = true) : opEq x y = some (.bl (eqv x y)) := if_pos ⟨h, g⟩
theorem opNe_of {x y : D} (h : cmpOk 20 x = true) (g : cmpOk 20 y = true) : opNe x y = some (.bl (!eqv x y)) := if_pos ⟨h, g⟩
/-! ### loops -/
theorem forD_inv {g : G} {b : S} (P : List D → Prop) : ∀ {ds : List D} {ρ : List D}, (∀ d ∈ ds, ∀ ρ, P ρ → ∃ ρ1 ρ2, g d ρ = some ρ1 ∧ b ρ1 = some (.nx ρ2) ∧ P ρ2) → P ρ → ∃ ρ', forD g b ds ρ = some (.nx ρ') ∧ P ρ'
  | [], ρ, _, p => ⟨ρ, rfl, p⟩
  | d :: ds, ρ, h, p => by
    obtain ⟨ρ1, ρ2, h1, h2, h3⟩ := h d (List.mem_cons_self ..) ρ p
    obtain ⟨ρ', e, p'⟩ := forD_inv P (ds := ds) (ρ := ρ2) (fun x hx => h x (List.mem_cons_of_mem _ hx)) h3
    refine ⟨ρ', ?_, p'⟩
    unfold forD
    rw [h1]
    simp only
    rw [h2]
    exact e
theorem forD_step {g : G} {b : S} {d : D} {ds ρ ρ1 ρ2 : List D} (h1 : g d ρ = some ρ1) (h2 : b ρ1 = some (.nx ρ2)) : forD g b (d :: ds) ρ = forD g b ds ρ2 := by
  rw [forD.eq_2, h1]
  simp only
  rw [h2]
theorem lcT_nil (g : G) (t : M Bool) (m : M D) (vs : List Nat) (acc ρ : List D) : lcT g t m vs [] acc ρ = some (acc, ρ) := rfl
theorem lcT_step {g : G} {t : M Bool} {m : M D} {vs : List Nat} {d y : D} {ds acc ρ ρ1 ρ2 ρ3 : List D} (h1 : g d ρ = some ρ1) (h2 : t ρ1 = some (.ok true ρ2)) (h3 : m ρ2 = some (.ok y ρ3)) (hl : acc.length < 100000) : lcT g t m vs (d :: ds) acc ρ = lcT g t m vs ds (acc ++ [y]) (wipeD ρ3 vs) := by
  rw [lcT.eq_2, h1]
  simp only
  rw [h2]
  simp only
  rw [h3]
  simp only
  rw [if_pos hl]
theorem lcT_skip {g : G} {t : M Bool} {m : M D} {vs : List Nat} {d : D} {ds acc ρ ρ1 ρ2 : List D} (h1 : g d ρ = some ρ1) (h2 : t ρ1 = some (.ok false ρ2)) : lcT g t m vs (d :: ds) acc ρ = lcT g t m vs ds acc (wipeD ρ2 vs) := by
  rw [lcT.eq_2, h1]
  simp only
  rw [h2]
/-- a comprehension that leaves the frame as it is: what each datum gives (none: it is left out) -/
theorem lcT_map {g : G} {t : M Bool} {m : M D} {vs : List Nat} {ρ : List D} (f : D → Option D) : ∀ {ds acc : List D}, (∀ d ∈ ds, ∃ ρ1, g d ρ = some ρ1 ∧ ((f d = none ∧ ∃ ρ2, t ρ1 = some (.ok false ρ2) ∧ wipeD ρ2 vs = ρ) ∨ ∃ y ρ2 ρ3, f d = some y ∧ t ρ1 = some (.ok true ρ2) ∧ m ρ2 = some (.ok y ρ3) ∧ wipeD ρ3 vs = ρ)) →
    acc.length + ds.length ≤ 100000 → lcT g t m vs ds acc ρ = some (acc ++ ds.filterMap f, ρ)
  | [], acc, _, _ => by simp [lcT_nil]
  | d :: ds, acc, h, hl => by
    simp only [List.length_cons] at hl
    obtain ⟨ρ1, h1, h2⟩ := h d (List.mem_cons_self ..)
    rcases h2 with ⟨hf, ρ2, h2, h3⟩ | ⟨y, ρ2, ρ3, hf, h2, h3, h4⟩
    · rw [lcT_skip h1 h2, h3, lcT_map f (fun x hx => h x (List.mem_cons_of_mem _ hx)) (by omega), List.filterMap_cons, hf]
    · rw [lcT_step h1 h2 h3 (by omega), h4, lcT_map f (fun x hx => h x (List.mem_cons_of_mem _ hx)) (by simp; omega), List.filterMap_cons, hf]
      simp

/-! ### calls -/
@[simp] theorem dArgs_nil  (ρ : List D) : (dArgs []) ρ = (ret []) ρ := rfl
@[simp] theorem dArgs_val (m : M D) (r : List Ar) (ρ : List D) : (dArgs (.val m :: r)) ρ = (bnd m fun x => bnd (dArgs r) fun xs => ret ((none, x) :: xs)) ρ := rfl
@[simp] theorem dArgs_ref (i : Nat) (r : List Ar) (ρ : List D) : dArgs (.ref i :: r) ρ = match ρ[i]? with
    | some d => match d with
      | .un => none
      | _ => bnd (dArgs r) (fun xs => ret ((some i, D.un) :: xs)) ρ
    | none => none := rfl
@[simp] theorem callIn_nil (ρ : List D) : callIn [] ρ = some ([], ρ) := rfl
@[simp] theorem callIn_val (d : D) (r : List (Option Nat × D)) (ρ : List D) : callIn ((none, d) :: r) ρ = if whole d = true then (match callIn r ρ with | some (ds, ρ') => some (frz d :: ds, ρ') | none => none) else none := rfl
@[simp] theorem callIn_ref (i : Nat) (d : D) (r : List (Option Nat × D)) (ρ : List D) : callIn ((some i, d) :: r) ρ = match ρ[i]? with
    | some d => match d with
      | .un => none
      | _ => match callIn r (ρ.set i .un) with
        | some (ds, ρ') => some (d :: ds, ρ')
        | none => none
    | none => none := rfl
@[simp] theorem callOut_nil (ds ρ : List D) : callOut [] ds ρ = ρ := by unfold callOut; rfl
@[simp] theorem callOut_val (x d : D) (r : List (Option Nat × D)) (ds ρ : List D) : callOut ((none, x) :: r) (d :: ds) ρ = callOut r ds ρ := rfl
@[simp] theorem callOut_ref (i : Nat) (x d : D) (r : List (Option Nat × D)) (ds ρ : List D) : callOut ((some i, x) :: r) (d :: ds) ρ = callOut r ds (ρ.set i d) := rfl
@[simp] theorem callG_s (n : Nat) (g : List D → Option (O D)) (as : List (Option Nat × D)) (ρ : List D) : callG n g as ρ = match callIn as ρ with
  | some (ds, ρ') => if ds.length = n then match g ds with
    | some (.ok d ds') => if ds'.length = ds.length then some (.ok d (callOut as ds' ρ')) else none
    | some (.ex x ds') => if ds'.length = ds.length then some (.ex x (callOut as ds' ρ')) else none
    | none => none else none
  | none => none := rfl
@[simp] theorem dCall_s (n : Nat) (g : List D → Option (O D)) (args : List Ar) (dds : List D) (ρ : List D) : (dCall n g args dds) ρ = (bnd (dArgs args) fun as => callG n g (as ++ dds.map fun d => (none, d))) ρ := rfl
theorem callOut_vals1 {x : D} {ds ρ : List D} : callOut [(none, x)] ds ρ = ρ := by
  cases ds with
  | nil => rfl
  | cons d ds => cases ds <;> rfl
theorem callOut_vals2 {x y : D} {ds ρ : List D} : callOut [(none, x), (none, y)] ds ρ = ρ := by
  cases ds with
  | nil => rfl
  | cons d ds => exact callOut_vals1
theorem callOut_vals3 {x y z : D} {ds ρ : List D} : callOut [(none, x), (none, y), (none, z)] ds ρ = ρ := by
  cases ds with
  | nil => rfl
  | cons d ds => exact callOut_vals2
theorem callOut_vals4 {x y z u : D} {ds ρ : List D} : callOut [(none, x), (none, y), (none, z), (none, u)] ds ρ = ρ := by
  cases ds with
  | nil => rfl
  | cons d ds => exact callOut_vals3
end DL

/-! DLE: from what the top has left to the facts of the text; the end of a law. -/
namespace DL
open PySem PySem.Spec PyProof.Rows L2
def spLaw (K : PySem.W.Frag) : Sp := fun vs H Q _ => ∃ (a : Addr) (ns : List Int), vs = [.ref a] ∧ SqL K H a (ns.map V.int) ∧ ns.length ≤ 63 ∧ ∀ H', Q (.bl true) H'
section
variable {K : PySem.W.Frag} {mg : Str → Option Value} {h : Heap}
theorem law_imp {g : List D → Option (O D)} (hg : ∀ ns : List Int, ns.length ≤ 63 → ∃ ds, g [.nd false .scr (ns.map .int)] = some (.ok (.bl true) ds)) (vs : List V) (H : Hp) (Q : VK) (E : XK) (h : spLaw K vs H Q E) : spD K mg 1 g vs H Q E := by
  obtain ⟨a, ns, rfl, hS, hl, k⟩ := h
  obtain ⟨ds, h⟩ := hg ns hl
  refine ⟨fun _ => none, H, [.nd false .scr (ns.map .int)], _, rfl, ⟨⟨[], ?_, List.nodup_nil, (fun _ h => by cases h)⟩, .refl H, (fun _ _ h => by cases h), (fun _ _ h => by cases h)⟩, h, ?_⟩
  · exact EnvL.cons (f := []) (g := []) (.sh hS (ints_own ns)) .nil
  · intro v F' H' _ s
    obtain ⟨⟨f, e, _⟩, _⟩ := s
    cases e with
    | cons r t => rw [r.bl_inv]; exact k H'
theorem fnA_mk {x qual : Str} {st : Stmt} {ps : List Str} {f : Addr} {oc : Value} {od an : Option Addr} {osl : Array (Option Value)} {kV doc pm cdv ct : Value} (X : K.In h) (G : h.Ns mainGlobals mg) (a : PySem.W.nsIn K mainGlobals x = some (some (.ref f)))
    (l : K.lookup f = some ⟨oc, od, .func (PySem.W.fnOf x qual (defArgs st) (defBody st) (defScope st) .none kV doc pm an cdv ct), osl⟩) (c : PySem.W.codeIn K cdv qual = true) (k : PySem.W.keepIn K (.ref f) = true)
    (hb : ∀ (kV doc pm : Value) (an : Option Addr) (cdv ct : Value) (us : List Value), us.length = ps.length → bindArgs (PySem.W.fnOf x qual (defArgs st) (defBody st) (defScope st) .none kV doc pm an cdv ct) ⟨us, []⟩ = pure (ps.zip us)) : FnA K mg x qual st ps :=
  ⟨f, _, PySem.W.mg_of X G a, fun_mk l c k, (fun_mk l c k).binds hb⟩
/-- an error class, as the head has it -/
theorem errC_mk {c qual f : Str} {st : Stmt} {C fI : Addr} {nm q : Str} {N : Addr} {bs bm : List Value} {sn : List Str} {sub : List Value} {ab : Bool} {col : Option Bool} {dd : Option Addr} {k0 k1 k2 k3 k5 : Option Value} {oc : Value} {od an : Option Addr} {osl : Array (Option Value)} {kV doc pm cdv ct : Value}
    (X : K.In h) (G : h.Ns mainGlobals mg) (aC : PySem.W.nsIn K mainGlobals c = some (some (.ref C))) (xL : K.lookup C = some (excClassObj nm q C N bs bm true sn sub ab col dd k0 k1 k2 k3 k5 "ValueError.__new__")) (hbm : PySem.HandSPX.refsVE bm = true)
    (sa : PySem.W.findIn K (.ref C) "__setattr__" = some (some (.builtin "object.__setattr__"))) (eC : PySem.W.subIn K (.ref C) (.type "BaseException") = some true) (tC : PySem.W.typeIn K (.ref C) = some (.type "type")) (kC : PySem.W.keepIn K (.ref C) = true)
    (ga : PySem.W.findIn K (.ref C) "__getattribute__" = some (some (.builtin "BaseException.__getattribute__"))) (gg : PySem.W.findIn K (.ref C) "__getattr__" = some none) (hd : PySem.W.hasDictIn K C = true)
    (ha : PySem.W.findIn K (.ref C) "__class__" = some (some (.builtin "object.__class__"))) (hn : PySem.W.specialIn K (.builtin "object.__class__") "__get__" = some (some (.builtin "getset_descriptor.__get__"))) (ht : PySem.W.takesIn K (.builtin "object.__class__") = some true) (hm : PySem.W.mroIn K C (.type "object") = some true)
    (iC : PySem.W.findIn K (.ref C) "__init__" = some (some (.ref fI))) (tI : PySem.W.typeIn K (.ref fI) = some (.type "function"))
    (l : K.lookup fI = some ⟨oc, od, .func (PySem.W.fnOf "__init__" qual (defArgs st) (defBody st) (defScope st) .none kV doc pm an cdv ct), osl⟩) (cI : PySem.W.codeIn K cdv qual = true) (kI : PySem.W.keepIn K (.ref fI) = true)
    (no : PySem.W.findIn K (.ref C) f = some none)
    (hb : ∀ (kV doc pm : Value) (an : Option Addr) (cdv ct : Value) (us : List Value), us.length = (["self", f] : List Str).length → bindArgs (PySem.W.fnOf "__init__" qual (defArgs st) (defBody st) (defScope st) .none kV doc pm an cdv ct) ⟨us, []⟩ = pure ((["self", f] : List Str).zip us)) :
    ErrC K mg c qual (some f) st :=
  ⟨C, fI, _, PySem.W.mg_of X G aC, ⟨⟨nm, q, N, bs, bm, sn, sub, ab, col, dd, k0, k1, k2, k3, k5, xL, hbm⟩, sa, eC, tC, kC⟩, ⟨ga, gg, eC, hd⟩, ⟨ga, gg, eC, hd, ha, hn, ht, hm⟩, iC, tI, fun_mk l cI kI, no, (fun_mk l cI kI).binds hb⟩
theorem errC_mk0 {c qual : Str} {st : Stmt} {C fI : Addr} {nm q : Str} {N : Addr} {bs bm : List Value} {sn : List Str} {sub : List Value} {ab : Bool} {col : Option Bool} {dd : Option Addr} {k0 k1 k2 k3 k5 : Option Value} {oc : Value} {od an : Option Addr} {osl : Array (Option Value)} {kV doc pm cdv ct : Value}
    (X : K.In h) (G : h.Ns mainGlobals mg) (aC : PySem.W.nsIn K mainGlobals c = some (some (.ref C))) (xL : K.lookup C = some (excClassObj nm q C N bs bm true sn sub ab col dd k0 k1 k2 k3 k5 "ValueError.__new__")) (hbm : PySem.HandSPX.refsVE bm = true)
    (sa : PySem.W.findIn K (.ref C) "__setattr__" = some (some (.builtin "object.__setattr__"))) (eC : PySem.W.subIn K (.ref C) (.type "BaseException") = some true) (tC : PySem.W.typeIn K (.ref C) = some (.type "type")) (kC : PySem.W.keepIn K (.ref C) = true)
    (ga : PySem.W.findIn K (.ref C) "__getattribute__" = some (some (.builtin "BaseException.__getattribute__"))) (gg : PySem.W.findIn K (.ref C) "__getattr__" = some none) (hd : PySem.W.hasDictIn K C = true)
    (ha : PySem.W.findIn K (.ref C) "__class__" = some (some (.builtin "object.__class__"))) (hn : PySem.W.specialIn K (.builtin "object.__class__") "__get__" = some (some (.builtin "getset_descriptor.__get__"))) (ht : PySem.W.takesIn K (.builtin "object.__class__") = some true) (hm : PySem.W.mroIn K C (.type "object") = some true)
    (iC : PySem.W.findIn K (.ref C) "__init__" = some (some (.ref fI))) (tI : PySem.W.typeIn K (.ref fI) = some (.type "function"))
    (l : K.lookup fI = some ⟨oc, od, .func (PySem.W.fnOf "__init__" qual (defArgs st) (defBody st) (defScope st) .none kV doc pm an cdv ct), osl⟩) (cI : PySem.W.codeIn K cdv qual = true) (kI : PySem.W.keepIn K (.ref fI) = true)
    (hb : ∀ (kV doc pm : Value) (an : Option Addr) (cdv ct : Value) (us : List Value), us.length = (["self"] : List Str).length → bindArgs (PySem.W.fnOf "__init__" qual (defArgs st) (defBody st) (defScope st) .none kV doc pm an cdv ct) ⟨us, []⟩ = pure ((["self"] : List Str).zip us)) :
    ErrC K mg c qual none st :=
  ⟨C, fI, _, PySem.W.mg_of X G aC, ⟨⟨nm, q, N, bs, bm, sn, sub, ab, col, dd, k0, k1, k2, k3, k5, xL, hbm⟩, sa, eC, tC, kC⟩, ⟨ga, gg, eC, hd⟩, ⟨ga, gg, eC, hd, ha, hn, ht, hm⟩, iC, tI, fun_mk l cI kI, (fun_mk l cI kI).binds hb⟩
theorem baseE_mk {c : Str} {S : Addr} {mc : Value} (X : K.In h) (G : h.Ns mainGlobals mg) (a : PySem.W.nsIn K mainGlobals c = some (some (.ref S))) (rd : PySem.W.readsIn K S mc = true) (ga : PySem.W.specialIn K (.ref S) "__getattribute__" = some (some (.builtin "type.__getattribute__")))
    (vV : PySem.W.findCls K (.ref S) mc "__init__" = some (.val (.builtin "ValueError.__init__"))) : BaseE K mg c := ⟨S, mc, PySem.W.mg_of X G a, rd, ga, vV⟩
/-- isinstance's answer for an error class -/
theorem excI_mk {c qual : Str} {fo : Option Str} {st : Stmt} {C : Addr} {u : Value} {b : Bool} (e : ErrC K mg c qual fo st) (X : K.In h) (G : h.Ns mainGlobals mg) (a : PySem.W.nsIn K mainGlobals c = some (some (.ref C))) (k : PySem.W.kitOne K (.ref C) u = some b) : ExcI K mg u c b := by
  obtain ⟨C', fI, fd, hm, _, _, T3, _⟩ := e.ex
  have := PySem.W.mg_of X G a
  rw [hm] at this
  cases this
  exact ⟨_, hm, k, T3⟩
end
/-- the end: from the law's promise to the row -/
theorem law_end {l : PySem.W.OpenLaw} {k : Nat} {q : Program} {loose : List Str} {XP : (Str → Option Value) → Heap → Prop} {YP : World → Heap → Prop} {d : DefRec} {K : Params → PySem.W.Frag} {x : Str} {st : Stmt} {g : List D → Option (O D)} (hn : l.most = some 63) (hdf : d.params.defaults = []) (hr : Room k callerA)
    (hY : ∀ (w : World) (h : Heap), YP w h → (K w.params).In h) (hx : d.name = "law")
    (hg : ∀ ns : List Int, ns.length ≤ 63 → ∃ ds, g [.nd false .scr (ns.map .int)] = some (.ok (.bl true) ds))
    (F : ∀ (w : World) (mg : Str → Option Value) (h : Heap), (K w.params).In h → h.Ns mainGlobals mg → ∀ base : Heap, (K w.params).In base → base.Ns mainGlobals mg → OkF l.prog w (K w.params) mg base k "law" [x] g)
    (B : ∀ (w : World) (mg : Str → Option Value) (h : Heap), (K w.params).In h → h.Ns mainGlobals mg → FnA (K w.params) mg "law" "law" st [x])
    (hb : ∀ (kV doc pm : Value) (an : Option Addr) (cdv ct : Value) (s : Shared) (u : Value), BindsTo s (PySem.W.fnOf "law" "law" (defArgs st) (defBody st) (defScope st) .none kV doc pm an cdv ct) ⟨[u], []⟩ [(x, u)]) :
    PySem.W.WalkO q loose XP YP l.row.toRowW d [] (fun f vs => PySem.call f vs) := by
  refine L2.walk_of (n := 63) (k := k) (x := x) (CX := fun w => L2.CX l.prog w) (sp := fun w => spLaw (K w.params)) hn (by decide) hdf hr hY (fun w mg fa h KX G hmg => ?_) (fun w H a ns hl _ hS => ⟨a, ns, rfl, hS, hl, fun _ => rfl⟩) fun w H s e s' z => ?_
  · rw [hx] at hmg
    obtain ⟨f, fd, hm, Fn, hbi⟩ := (B w mg h KX G).ex
    rw [hm] at hmg
    cases hmg
    obtain ⟨oc, od, kV, doc, pm, an, cdv, ct, osl, rfl, lk, hcd⟩ := Fn.ex
    refine ⟨_, fun s u => hb kV doc pm an cdv ct s u, fun base KB GB => ?_⟩
    obtain ⟨f', fd', hm', hk', hb', F', oc', od', osl', lk'⟩ := (F w mg h KX G base KB GB).ex
    rw [hm] at hm'
    cases hm'
    rw [lk] at lk'
    cases lk'
    exact F'.imp (law_imp hg)
  · obtain ⟨_, _, _, _, _, _, _, _, _, _, _, _, z⟩ := z
    exact z.elim
/-- the same, from the bundle of the text's facts -/
theorem law_endT {l : PySem.W.OpenLaw} {k : Nat} {q : Program} {loose : List Str} {XP : (Str → Option Value) → Heap → Prop} {YP : World → Heap → Prop} {d : DefRec} {K : Params → PySem.W.Frag} {x : Str} {st : Stmt} {g : List D → Option (O D)} {Tx : PySem.W.Frag → (Str → Option Value) → Prop} (hn : l.most = some 63) (hdf : d.params.defaults = []) (hr : Room k callerA)
    (hY : ∀ (w : World) (h : Heap), YP w h → (K w.params).In h) (hx : d.name = "law")
    (hg : ∀ ns : List Int, ns.length ≤ 63 → ∃ ds, g [.nd false .scr (ns.map .int)] = some (.ok (.bl true) ds))
    (F : ∀ {P : Program} {w : World} {K : PySem.W.Frag} {mg : Str → Option Value} {base : Heap}, Tx K mg → OkF P w K mg base k "law" [x] g)
    (B : ∀ {K : PySem.W.Frag} {mg : Str → Option Value}, Tx K mg → FnA K mg "law" "law" st [x])
    (hb : ∀ (kV doc pm : Value) (an : Option Addr) (cdv ct : Value) (s : Shared) (u : Value), BindsTo s (PySem.W.fnOf "law" "law" (defArgs st) (defBody st) (defScope st) .none kV doc pm an cdv ct) ⟨[u], []⟩ [(x, u)])
    (T : ∀ (w : World) (mg : Str → Option Value) (h : Heap), (K w.params).In h → h.Ns mainGlobals mg → Tx (K w.params) mg) :
    PySem.W.WalkO q loose XP YP l.row.toRowW d [] (fun f vs => PySem.call f vs) :=
  law_end hn hdf hr hY hx hg (fun w mg h KX G base KB GB => F (T w mg h KX G)) (fun w mg h KX G => B (T w mg h KX G)) hb
theorem thn' {p r : Prop} (a : p) (f : p → r) : r := f a
theorem isaC_mk {K : PySem.W.Frag} {mg : Str → Option Value} {h : Heap} {y : Str} {te : List (Str × Bool)} {C : Addr} (X : K.In h) (G : h.Ns mainGlobals mg) (a : PySem.W.nsIn K mainGlobals y = some (some (.ref C))) (e : ∀ p ∈ te, ExcI K mg (.ref C) p.1 p.2) : IsaC K mg y [] te [] :=
  ⟨C, PySem.W.mg_of X G a, ⟨(fun c b hh => by cases hh), all_lookup e, (fun c b hh => by cases hh)⟩⟩
theorem isaT_mk {K : PySem.W.Frag} {mg : Str → Option Value} {u : Value} {te : List (Str × Bool)} (e : ∀ p ∈ te, ExcI K mg u p.1 p.2) : IsaOk K mg u [] te [] :=
  ⟨(fun c b hh => by cases hh), all_lookup e, (fun c b hh => by cases hh)⟩
theorem kit_ref {K : PySem.W.Frag} {C D : Addr} {b : Bool} (i : PySem.W.isClsIn K D = true) (t : PySem.W.typeIn K (.ref D) = some (.type "type")) (s : PySem.W.subIn K (.ref C) (.ref D) = some b) (e : C = D → b = true) : PySem.W.kitOne K (.ref C) (.ref D) = some b := by
  unfold PySem.W.kitOne
  by_cases h : C = D
  · subst h
    rw [if_pos (by simp), e rfl]
  · rw [if_neg (by simpa using h)]
    show (if ((PySem.W.clsIn K D).isSome && PySem.W.typeIn K (.ref D) == some (.type "type")) = true then PySem.W.subIn K (.ref C) (.ref D) else none) = some b
    have i' : (PySem.W.clsIn K D).isSome = true := i
    rw [i', t, if_pos (by decide)]
    exact s
theorem kit_typ {K : PySem.W.Frag} {C : Addr} {T : String} {b : Bool} (m : PySem.W.kitMeta T = true) (s : PySem.W.subIn K (.ref C) (.type T) = some b) : PySem.W.kitOne K (.ref C) (.type T) = some b := by
  show (if PySem.W.kitMeta T = true then PySem.W.subIn K (.ref C) (.type T) else none) = some b
  rw [if_pos m]
  exact s
end DL

namespace DL
open PySem L2
abbrev topS (i : Nat) : Stmt := PySem.Challenge.pw_splitalike_k71_errors_stand_apart.main.body.getD i (.Pass ⟨0, 0, 0, 0⟩)
abbrev inClass (st : Stmt) (j : Nat) : Stmt := match st with
  | .ClassDef (body := b) .. => b.getD j (.Pass ⟨0, 0, 0, 0⟩)
  | _ => .Pass ⟨0, 0, 0, 0⟩
abbrev W0 : WX := fun _ _ _ _ => False
theorem hu65 {k : Nat} {A : Around} (h : Room k A) : A.units + 65 < cLine := by have := h.un; omega
abbrev s__law_state : Stmt := topS 17
theorem sc__law_state : FnScope ["_law_cell_here"] ["_law_cell_here"] (defScope s__law_state) := ⟨rfl, rfl, rfl, by decide +kernel, rfl, by decide +kernel, by decide +kernel⟩
abbrev s__law_draw : Stmt := topS 18
theorem sc__law_draw : FnScope ["_law_state_here", "_law_many", "_law_drawn", "_law_mixed"] ["_law_state_here", "_law_many"] (defScope s__law_draw) := ⟨rfl, rfl, rfl, by decide +kernel, rfl, by decide +kernel, by decide +kernel⟩
abbrev s__law_cell : Stmt := topS 20
theorem sc__law_cell : FnScope ["_law_script", "_law_at"] ["_law_script", "_law_at"] (defScope s__law_cell) := ⟨rfl, rfl, rfl, by decide +kernel, rfl, by decide +kernel, by decide +kernel⟩
abbrev s__law_numbered : Stmt := topS 21
theorem sc__law_numbered : FnScope ["_law_thing", "_law_errors", "_law_e", "_law_k"] ["_law_thing"] (defScope s__law_numbered) := ⟨rfl, rfl, rfl, by decide +kernel, rfl, by decide +kernel, by decide +kernel⟩
abbrev s__law_others : Stmt := topS 22
theorem sc__law_others : FnScope ["_law_thing", "_law_many", "_law_count", "_law_name", "_law_text", "_law_cell_here", "_law_place", "_law_bound", "_law_rule", "_law_told", "_law_k"] ["_law_thing"] (defScope s__law_others) := ⟨rfl, rfl, rfl, by decide +kernel, rfl, by decide +kernel, by decide +kernel⟩
abbrev s__law_kinds : Stmt := topS 23
theorem sc__law_kinds : FnScope ["_law_e", "_law_found"] ["_law_e"] (defScope s__law_kinds) := ⟨rfl, rfl, rfl, by decide +kernel, rfl, by decide +kernel, by decide +kernel⟩
abbrev s_law : Stmt := topS 24
theorem sc_law : FnScope ["_law_script", "_law_at", "_law_state_here", "_law_number", "_law_thing", "_law_first", "_law_right", "_law_second", "_law_fits", "_law_errors", "_law_k", "_law_j"] ["_law_script"] (defScope s_law) := ⟨rfl, rfl, rfl, by decide +kernel, rfl, by decide +kernel, by decide +kernel⟩
abbrev s_BadBegin___init__ : Stmt := inClass (topS 4) 0
theorem sc_BadBegin___init__ : FnScope ["self", "number"] ["self", "number"] (defScope s_BadBegin___init__) := ⟨rfl, rfl, rfl, by decide +kernel, rfl, by decide +kernel, by decide +kernel⟩
abbrev s_BadBound___init__ : Stmt := inClass (topS 14) 0
theorem sc_BadBound___init__ : FnScope ["self", "bound"] ["self", "bound"] (defScope s_BadBound___init__) := ⟨rfl, rfl, rfl, by decide +kernel, rfl, by decide +kernel, by decide +kernel⟩
abbrev s_BadCell___init__ : Stmt := inClass (topS 9) 0
theorem sc_BadCell___init__ : FnScope ["self", "cell"] ["self", "cell"] (defScope s_BadCell___init__) := ⟨rfl, rfl, rfl, by decide +kernel, rfl, by decide +kernel, by decide +kernel⟩
abbrev s_BadCount___init__ : Stmt := inClass (topS 10) 0
theorem sc_BadCount___init__ : FnScope ["self", "count"] ["self", "count"] (defScope s_BadCount___init__) := ⟨rfl, rfl, rfl, by decide +kernel, rfl, by decide +kernel, by decide +kernel⟩
abbrev s_BadReader___init__ : Stmt := inClass (topS 2) 0
theorem sc_BadReader___init__ : FnScope ["self", "number"] ["self", "number"] (defScope s_BadReader___init__) := ⟨rfl, rfl, rfl, by decide +kernel, rfl, by decide +kernel, by decide +kernel⟩
abbrev s_BadRing___init__ : Stmt := inClass (topS 3) 0
theorem sc_BadRing___init__ : FnScope ["self", "number"] ["self", "number"] (defScope s_BadRing___init__) := ⟨rfl, rfl, rfl, by decide +kernel, rfl, by decide +kernel, by decide +kernel⟩
abbrev s_BadText___init__ : Stmt := inClass (topS 8) 0
theorem sc_BadText___init__ : FnScope ["self", "line"] ["self", "line"] (defScope s_BadText___init__) := ⟨rfl, rfl, rfl, by decide +kernel, rfl, by decide +kernel, by decide +kernel⟩
abbrev s_NoCell___init__ : Stmt := inClass (topS 11) 0
theorem sc_NoCell___init__ : FnScope ["self", "place"] ["self", "place"] (defScope s_NoCell___init__) := ⟨rfl, rfl, rfl, by decide +kernel, rfl, by decide +kernel, by decide +kernel⟩
abbrev s_NoLine___init__ : Stmt := inClass (topS 7) 0
theorem sc_NoLine___init__ : FnScope ["self", "name"] ["self", "name"] (defScope s_NoLine___init__) := ⟨rfl, rfl, rfl, by decide +kernel, rfl, by decide +kernel, by decide +kernel⟩
abbrev s_NoReader___init__ : Stmt := inClass (topS 12) 0
theorem sc_NoReader___init__ : FnScope ["self", "number"] ["self", "number"] (defScope s_NoReader___init__) := ⟨rfl, rfl, rfl, by decide +kernel, rfl, by decide +kernel, by decide +kernel⟩
abbrev s_NoRule___init__ : Stmt := inClass (topS 15) 0
theorem sc_NoRule___init__ : FnScope ["self", "rule"] ["self", "rule"] (defScope s_NoRule___init__) := ⟨rfl, rfl, rfl, by decide +kernel, rfl, by decide +kernel, by decide +kernel⟩
abbrev s_NothingToUndo___init__ : Stmt := inClass (topS 13) 0
theorem sc_NothingToUndo___init__ : FnScope ["self"] ["self"] (defScope s_NothingToUndo___init__) := ⟨rfl, rfl, rfl, by decide +kernel, rfl, by decide +kernel, by decide +kernel⟩
abbrev s_TooGreat___init__ : Stmt := inClass (topS 6) 0
theorem sc_TooGreat___init__ : FnScope ["self"] ["self"] (defScope s_TooGreat___init__) := ⟨rfl, rfl, rfl, by decide +kernel, rfl, by decide +kernel, by decide +kernel⟩
abbrev s_TooMany___init__ : Stmt := inClass (topS 5) 0
theorem sc_TooMany___init__ : FnScope ["self", "count"] ["self", "count"] (defScope s_TooMany___init__) := ⟨rfl, rfl, rfl, by decide +kernel, rfl, by decide +kernel, by decide +kernel⟩
def ci_number : List Str := []
def ce_number : List Str := ["BadBegin", "BadReader", "BadRing", "NoReader"]
def ci_rule : List Str := []
def ce_rule : List Str := ["NoRule"]
def ci_bound : List Str := []
def ce_bound : List Str := ["BadBound"]
def ci_place : List Str := []
def ce_place : List Str := ["NoCell"]
def ci_cell : List Str := []
def ce_cell : List Str := ["BadCell"]
def ci_line : List Str := []
def ce_line : List Str := ["BadText"]
def ci_name : List Str := []
def ce_name : List Str := ["NoLine"]
def ci_count : List Str := []
def ce_count : List Str := ["BadCount", "TooMany"]
def ti_NoReader : List (Str × Bool) := []
def te_NoReader : List (Str × Bool) := [("BadBegin", false), ("BadBound", false), ("BadCell", false), ("BadCount", false), ("BadReader", false), ("BadRing", false), ("BadText", false), ("NoCell", false), ("NoLine", false), ("NoReader", true), ("NoRule", false), ("NothingToUndo", false), ("TooGreat", false), ("TooMany", false)]
def bt_NoReader : List (String × Bool) := []
def ti_BadBegin : List (Str × Bool) := []
def te_BadBegin : List (Str × Bool) := [("BadBegin", true), ("BadBound", false), ("BadCell", false), ("BadCount", false), ("BadReader", false), ("BadRing", false), ("BadText", false), ("NoCell", false), ("NoLine", false), ("NoReader", false), ("NoRule", false), ("NothingToUndo", false), ("TooGreat", false), ("TooMany", false)]
def bt_BadBegin : List (String × Bool) := []
def ti_BadRing : List (Str × Bool) := []
def te_BadRing : List (Str × Bool) := [("BadBegin", false), ("BadBound", false), ("BadCell", false), ("BadCount", false), ("BadReader", false), ("BadRing", true), ("BadText", false), ("NoCell", false), ("NoLine", false), ("NoReader", false), ("NoRule", false), ("NothingToUndo", false), ("TooGreat", false), ("TooMany", false)]
def bt_BadRing : List (String × Bool) := []
def ti_BadReader : List (Str × Bool) := []
def te_BadReader : List (Str × Bool) := [("BadBegin", false), ("BadBound", false), ("BadCell", false), ("BadCount", false), ("BadReader", true), ("BadRing", false), ("BadText", false), ("NoCell", false), ("NoLine", false), ("NoReader", false), ("NoRule", false), ("NothingToUndo", false), ("TooGreat", false), ("TooMany", false)]
def bt_BadReader : List (String × Bool) := []
def ti_BadText : List (Str × Bool) := []
def te_BadText : List (Str × Bool) := [("BadBegin", false), ("BadBound", false), ("BadCell", false), ("BadCount", false), ("BadReader", false), ("BadRing", false), ("BadText", true), ("NoCell", false), ("NoLine", false), ("NoReader", false), ("NoRule", false), ("NothingToUndo", false), ("TooGreat", false), ("TooMany", false)]
def bt_BadText : List (String × Bool) := []
def ti_NoLine : List (Str × Bool) := []
def te_NoLine : List (Str × Bool) := [("BadBegin", false), ("BadBound", false), ("BadCell", false), ("BadCount", false), ("BadReader", false), ("BadRing", false), ("BadText", false), ("NoCell", false), ("NoLine", true), ("NoReader", false), ("NoRule", false), ("NothingToUndo", false), ("TooGreat", false), ("TooMany", false)]
def bt_NoLine : List (String × Bool) := []
def ti_BadCount : List (Str × Bool) := []
def te_BadCount : List (Str × Bool) := [("BadBegin", false), ("BadBound", false), ("BadCell", false), ("BadCount", true), ("BadReader", false), ("BadRing", false), ("BadText", false), ("NoCell", false), ("NoLine", false), ("NoReader", false), ("NoRule", false), ("NothingToUndo", false), ("TooGreat", false), ("TooMany", false)]
def bt_BadCount : List (String × Bool) := []
def ti_TooMany : List (Str × Bool) := []
def te_TooMany : List (Str × Bool) := [("BadBegin", false), ("BadBound", false), ("BadCell", false), ("BadCount", false), ("BadReader", false), ("BadRing", false), ("BadText", false), ("NoCell", false), ("NoLine", false), ("NoReader", false), ("NoRule", false), ("NothingToUndo", false), ("TooGreat", false), ("TooMany", true)]
def bt_TooMany : List (String × Bool) := []
def ti_NoRule : List (Str × Bool) := []
def te_NoRule : List (Str × Bool) := [("BadBegin", false), ("BadBound", false), ("BadCell", false), ("BadCount", false), ("BadReader", false), ("BadRing", false), ("BadText", false), ("NoCell", false), ("NoLine", false), ("NoReader", false), ("NoRule", true), ("NothingToUndo", false), ("TooGreat", false), ("TooMany", false)]
def bt_NoRule : List (String × Bool) := []
def ti_BadBound : List (Str × Bool) := []
def te_BadBound : List (Str × Bool) := [("BadBegin", false), ("BadBound", true), ("BadCell", false), ("BadCount", false), ("BadReader", false), ("BadRing", false), ("BadText", false), ("NoCell", false), ("NoLine", false), ("NoReader", false), ("NoRule", false), ("NothingToUndo", false), ("TooGreat", false), ("TooMany", false)]
def bt_BadBound : List (String × Bool) := []
def ti_NoCell : List (Str × Bool) := []
def te_NoCell : List (Str × Bool) := [("BadBegin", false), ("BadBound", false), ("BadCell", false), ("BadCount", false), ("BadReader", false), ("BadRing", false), ("BadText", false), ("NoCell", true), ("NoLine", false), ("NoReader", false), ("NoRule", false), ("NothingToUndo", false), ("TooGreat", false), ("TooMany", false)]
def bt_NoCell : List (String × Bool) := []
def ti_BadCell : List (Str × Bool) := []
def te_BadCell : List (Str × Bool) := [("BadBegin", false), ("BadBound", false), ("BadCell", true), ("BadCount", false), ("BadReader", false), ("BadRing", false), ("BadText", false), ("NoCell", false), ("NoLine", false), ("NoReader", false), ("NoRule", false), ("NothingToUndo", false), ("TooGreat", false), ("TooMany", false)]
def bt_BadCell : List (String × Bool) := []
def ti_NothingToUndo : List (Str × Bool) := []
def te_NothingToUndo : List (Str × Bool) := [("BadBegin", false), ("BadBound", false), ("BadCell", false), ("BadCount", false), ("BadReader", false), ("BadRing", false), ("BadText", false), ("NoCell", false), ("NoLine", false), ("NoReader", false), ("NoRule", false), ("NothingToUndo", true), ("TooGreat", false), ("TooMany", false)]
def bt_NothingToUndo : List (String × Bool) := []
def ti_TooGreat : List (Str × Bool) := []
def te_TooGreat : List (Str × Bool) := [("BadBegin", false), ("BadBound", false), ("BadCell", false), ("BadCount", false), ("BadReader", false), ("BadRing", false), ("BadText", false), ("NoCell", false), ("NoLine", false), ("NoReader", false), ("NoRule", false), ("NothingToUndo", false), ("TooGreat", true), ("TooMany", false)]
def bt_TooGreat : List (String × Bool) := []
def ti_SplitError : List (Str × Bool) := []
def te_SplitError : List (Str × Bool) := [("BadBegin", true), ("BadBound", true), ("BadCell", true), ("BadCount", true), ("BadReader", true), ("BadRing", true), ("BadText", true), ("NoCell", true), ("NoLine", true), ("NoReader", true), ("NoRule", true), ("NothingToUndo", true), ("TooGreat", true), ("TooMany", true)]
def bt_SplitError : List (String × Bool) := []
def ti_ValueError : List (Str × Bool) := []
def te_ValueError : List (Str × Bool) := [("BadBegin", true), ("BadBound", true), ("BadCell", true), ("BadCount", true), ("BadReader", true), ("BadRing", true), ("BadText", true), ("NoCell", true), ("NoLine", true), ("NoReader", true), ("NoRule", true), ("NothingToUndo", true), ("TooGreat", true), ("TooMany", true)]
def bt_ValueError : List (String × Bool) := []
structure Txt (K : PySem.W.Frag) (mg : Str → Option Value) : Prop where
  x_BadBegin : ErrC K mg "BadBegin" "BadBegin.__init__" (some "number") s_BadBegin___init__
  x_BadBound : ErrC K mg "BadBound" "BadBound.__init__" (some "bound") s_BadBound___init__
  x_BadCell : ErrC K mg "BadCell" "BadCell.__init__" (some "cell") s_BadCell___init__
  x_BadCount : ErrC K mg "BadCount" "BadCount.__init__" (some "count") s_BadCount___init__
  x_BadReader : ErrC K mg "BadReader" "BadReader.__init__" (some "number") s_BadReader___init__
  x_BadRing : ErrC K mg "BadRing" "BadRing.__init__" (some "number") s_BadRing___init__
  x_BadText : ErrC K mg "BadText" "BadText.__init__" (some "line") s_BadText___init__
  x_NoCell : ErrC K mg "NoCell" "NoCell.__init__" (some "place") s_NoCell___init__
  x_NoLine : ErrC K mg "NoLine" "NoLine.__init__" (some "name") s_NoLine___init__
  x_NoReader : ErrC K mg "NoReader" "NoReader.__init__" (some "number") s_NoReader___init__
  x_NoRule : ErrC K mg "NoRule" "NoRule.__init__" (some "rule") s_NoRule___init__
  x_NothingToUndo : ErrC K mg "NothingToUndo" "NothingToUndo.__init__" none s_NothingToUndo___init__
  x_TooGreat : ErrC K mg "TooGreat" "TooGreat.__init__" none s_TooGreat___init__
  x_TooMany : ErrC K mg "TooMany" "TooMany.__init__" (some "count") s_TooMany___init__
  base : BaseE K mg "SplitError"
  f__law_state : FnA K mg "_law_state" "_law_state" s__law_state ["_law_cell_here"]
  f__law_draw : FnA K mg "_law_draw" "_law_draw" s__law_draw ["_law_state_here", "_law_many"]
  f__law_cell : FnA K mg "_law_cell" "_law_cell" s__law_cell ["_law_script", "_law_at"]
  f__law_numbered : FnA K mg "_law_numbered" "_law_numbered" s__law_numbered ["_law_thing"]
  f__law_others : FnA K mg "_law_others" "_law_others" s__law_others ["_law_thing"]
  f__law_kinds : FnA K mg "_law_kinds" "_law_kinds" s__law_kinds ["_law_e"]
  f_law : FnA K mg "law" "law" s_law ["_law_script"]
  b_int : mg "int" = none
  b_len : mg "len" = none
  at_number : (∀ c ∈ ci_number, ClsAt K mg "number" c) ∧ ∀ c ∈ ce_number, ExcAt K mg "number" c
  b_range : mg "range" = none
  at_rule : (∀ c ∈ ci_rule, ClsAt K mg "rule" c) ∧ ∀ c ∈ ce_rule, ExcAt K mg "rule" c
  at_bound : (∀ c ∈ ci_bound, ClsAt K mg "bound" c) ∧ ∀ c ∈ ce_bound, ExcAt K mg "bound" c
  at_place : (∀ c ∈ ci_place, ClsAt K mg "place" c) ∧ ∀ c ∈ ce_place, ExcAt K mg "place" c
  at_cell : (∀ c ∈ ci_cell, ClsAt K mg "cell" c) ∧ ∀ c ∈ ce_cell, ExcAt K mg "cell" c
  at_line : (∀ c ∈ ci_line, ClsAt K mg "line" c) ∧ ∀ c ∈ ce_line, ExcAt K mg "line" c
  at_name : (∀ c ∈ ci_name, ClsAt K mg "name" c) ∧ ∀ c ∈ ce_name, ExcAt K mg "name" c
  at_count : (∀ c ∈ ci_count, ClsAt K mg "count" c) ∧ ∀ c ∈ ce_count, ExcAt K mg "count" c
  isa_NoReader : IsaC K mg "NoReader" ti_NoReader te_NoReader bt_NoReader
  b_isinstance : mg "isinstance" = none
  isa_BadBegin : IsaC K mg "BadBegin" ti_BadBegin te_BadBegin bt_BadBegin
  isa_BadRing : IsaC K mg "BadRing" ti_BadRing te_BadRing bt_BadRing
  isa_BadReader : IsaC K mg "BadReader" ti_BadReader te_BadReader bt_BadReader
  isa_BadText : IsaC K mg "BadText" ti_BadText te_BadText bt_BadText
  isa_NoLine : IsaC K mg "NoLine" ti_NoLine te_NoLine bt_NoLine
  isa_BadCount : IsaC K mg "BadCount" ti_BadCount te_BadCount bt_BadCount
  isa_TooMany : IsaC K mg "TooMany" ti_TooMany te_TooMany bt_TooMany
  isa_NoRule : IsaC K mg "NoRule" ti_NoRule te_NoRule bt_NoRule
  isa_BadBound : IsaC K mg "BadBound" ti_BadBound te_BadBound bt_BadBound
  isa_NoCell : IsaC K mg "NoCell" ti_NoCell te_NoCell bt_NoCell
  isa_BadCell : IsaC K mg "BadCell" ti_BadCell te_BadCell bt_BadCell
  isa_NothingToUndo : IsaC K mg "NothingToUndo" ti_NothingToUndo te_NothingToUndo bt_NothingToUndo
  isa_TooGreat : IsaC K mg "TooGreat" ti_TooGreat te_TooGreat bt_TooGreat
  b_min : mg "min" = none
  b_max : mg "max" = none
  isa_SplitError : IsaC K mg "SplitError" ti_SplitError te_SplitError bt_SplitError
  isa_ValueError : IsaOk K mg (.type "ValueError") ti_ValueError te_ValueError bt_ValueError
  b_ValueError : mg "ValueError" = none
theorem mke_BadBegin {P : Program} {w : World} {K : PySem.W.Frag} {mg : Str → Option Value} {base : Heap} (T : Txt K mg) : MkE P w K mg base 1 "BadBegin" (some "number") := by
  obtain ⟨S, mc, hS, rd, ga, vV⟩ := T.base.ex
  exact mke1 T.x_BadBegin sc_BadBegin___init__ fun fa cdv A outer s H E => ⟨_, pss_cons (ps_expr (pe_seinit rfl hS rd ga vV (pa_cons (de_var' (i := 0)) (pa_cons pe_str pa_nil)))) (pss_one (ps_ost (de_var' (i := 0)) (de_var' (i := 1))))⟩
theorem mke_BadBound {P : Program} {w : World} {K : PySem.W.Frag} {mg : Str → Option Value} {base : Heap} (T : Txt K mg) : MkE P w K mg base 1 "BadBound" (some "bound") := by
  obtain ⟨S, mc, hS, rd, ga, vV⟩ := T.base.ex
  exact mke1 T.x_BadBound sc_BadBound___init__ fun fa cdv A outer s H E => ⟨_, pss_cons (ps_expr (pe_seinit rfl hS rd ga vV (pa_cons (de_var' (i := 0)) (pa_cons pe_str pa_nil)))) (pss_one (ps_ost (de_var' (i := 0)) (de_var' (i := 1))))⟩
theorem mke_BadCell {P : Program} {w : World} {K : PySem.W.Frag} {mg : Str → Option Value} {base : Heap} (T : Txt K mg) : MkE P w K mg base 1 "BadCell" (some "cell") := by
  obtain ⟨S, mc, hS, rd, ga, vV⟩ := T.base.ex
  exact mke1 T.x_BadCell sc_BadCell___init__ fun fa cdv A outer s H E => ⟨_, pss_cons (ps_expr (pe_seinit rfl hS rd ga vV (pa_cons (de_var' (i := 0)) (pa_cons pe_str pa_nil)))) (pss_one (ps_ost (de_var' (i := 0)) (de_var' (i := 1))))⟩
theorem mke_BadCount {P : Program} {w : World} {K : PySem.W.Frag} {mg : Str → Option Value} {base : Heap} (T : Txt K mg) : MkE P w K mg base 1 "BadCount" (some "count") := by
  obtain ⟨S, mc, hS, rd, ga, vV⟩ := T.base.ex
  exact mke1 T.x_BadCount sc_BadCount___init__ fun fa cdv A outer s H E => ⟨_, pss_cons (ps_expr (pe_seinit rfl hS rd ga vV (pa_cons (de_var' (i := 0)) (pa_cons pe_str pa_nil)))) (pss_one (ps_ost (de_var' (i := 0)) (de_var' (i := 1))))⟩
theorem mke_BadReader {P : Program} {w : World} {K : PySem.W.Frag} {mg : Str → Option Value} {base : Heap} (T : Txt K mg) : MkE P w K mg base 1 "BadReader" (some "number") := by
  obtain ⟨S, mc, hS, rd, ga, vV⟩ := T.base.ex
  exact mke1 T.x_BadReader sc_BadReader___init__ fun fa cdv A outer s H E => ⟨_, pss_cons (ps_expr (pe_seinit rfl hS rd ga vV (pa_cons (de_var' (i := 0)) (pa_cons pe_str pa_nil)))) (pss_one (ps_ost (de_var' (i := 0)) (de_var' (i := 1))))⟩
theorem mke_BadRing {P : Program} {w : World} {K : PySem.W.Frag} {mg : Str → Option Value} {base : Heap} (T : Txt K mg) : MkE P w K mg base 1 "BadRing" (some "number") := by
  obtain ⟨S, mc, hS, rd, ga, vV⟩ := T.base.ex
  exact mke1 T.x_BadRing sc_BadRing___init__ fun fa cdv A outer s H E => ⟨_, pss_cons (ps_expr (pe_seinit rfl hS rd ga vV (pa_cons (de_var' (i := 0)) (pa_cons pe_str pa_nil)))) (pss_one (ps_ost (de_var' (i := 0)) (de_var' (i := 1))))⟩
theorem mke_BadText {P : Program} {w : World} {K : PySem.W.Frag} {mg : Str → Option Value} {base : Heap} (T : Txt K mg) : MkE P w K mg base 1 "BadText" (some "line") := by
  obtain ⟨S, mc, hS, rd, ga, vV⟩ := T.base.ex
  exact mke1 T.x_BadText sc_BadText___init__ fun fa cdv A outer s H E => ⟨_, pss_cons (ps_expr (pe_seinit rfl hS rd ga vV (pa_cons (de_var' (i := 0)) (pa_cons pe_str pa_nil)))) (pss_one (ps_ost (de_var' (i := 0)) (de_var' (i := 1))))⟩
theorem mke_NoCell {P : Program} {w : World} {K : PySem.W.Frag} {mg : Str → Option Value} {base : Heap} (T : Txt K mg) : MkE P w K mg base 1 "NoCell" (some "place") := by
  obtain ⟨S, mc, hS, rd, ga, vV⟩ := T.base.ex
  exact mke1 T.x_NoCell sc_NoCell___init__ fun fa cdv A outer s H E => ⟨_, pss_cons (ps_expr (pe_seinit rfl hS rd ga vV (pa_cons (de_var' (i := 0)) (pa_cons pe_str pa_nil)))) (pss_one (ps_ost (de_var' (i := 0)) (de_var' (i := 1))))⟩
theorem mke_NoLine {P : Program} {w : World} {K : PySem.W.Frag} {mg : Str → Option Value} {base : Heap} (T : Txt K mg) : MkE P w K mg base 1 "NoLine" (some "name") := by
  obtain ⟨S, mc, hS, rd, ga, vV⟩ := T.base.ex
  exact mke1 T.x_NoLine sc_NoLine___init__ fun fa cdv A outer s H E => ⟨_, pss_cons (ps_expr (pe_seinit rfl hS rd ga vV (pa_cons (de_var' (i := 0)) (pa_cons pe_str pa_nil)))) (pss_one (ps_ost (de_var' (i := 0)) (de_var' (i := 1))))⟩
theorem mke_NoReader {P : Program} {w : World} {K : PySem.W.Frag} {mg : Str → Option Value} {base : Heap} (T : Txt K mg) : MkE P w K mg base 1 "NoReader" (some "number") := by
  obtain ⟨S, mc, hS, rd, ga, vV⟩ := T.base.ex
  exact mke1 T.x_NoReader sc_NoReader___init__ fun fa cdv A outer s H E => ⟨_, pss_cons (ps_expr (pe_seinit rfl hS rd ga vV (pa_cons (de_var' (i := 0)) (pa_cons pe_str pa_nil)))) (pss_one (ps_ost (de_var' (i := 0)) (de_var' (i := 1))))⟩
theorem mke_NoRule {P : Program} {w : World} {K : PySem.W.Frag} {mg : Str → Option Value} {base : Heap} (T : Txt K mg) : MkE P w K mg base 1 "NoRule" (some "rule") := by
  obtain ⟨S, mc, hS, rd, ga, vV⟩ := T.base.ex
  exact mke1 T.x_NoRule sc_NoRule___init__ fun fa cdv A outer s H E => ⟨_, pss_cons (ps_expr (pe_seinit rfl hS rd ga vV (pa_cons (de_var' (i := 0)) (pa_cons pe_str pa_nil)))) (pss_one (ps_ost (de_var' (i := 0)) (de_var' (i := 1))))⟩
theorem mke_NothingToUndo {P : Program} {w : World} {K : PySem.W.Frag} {mg : Str → Option Value} {base : Heap} (T : Txt K mg) : MkE P w K mg base 1 "NothingToUndo" none := by
  obtain ⟨S, mc, hS, rd, ga, vV⟩ := T.base.ex
  exact mke0 T.x_NothingToUndo sc_NothingToUndo___init__ fun fa cdv A outer s H E => ⟨_, pss_one (ps_expr (pe_seinit rfl hS rd ga vV (pa_cons (de_var' (i := 0)) (pa_cons pe_str pa_nil))))⟩
theorem mke_TooGreat {P : Program} {w : World} {K : PySem.W.Frag} {mg : Str → Option Value} {base : Heap} (T : Txt K mg) : MkE P w K mg base 1 "TooGreat" none := by
  obtain ⟨S, mc, hS, rd, ga, vV⟩ := T.base.ex
  exact mke0 T.x_TooGreat sc_TooGreat___init__ fun fa cdv A outer s H E => ⟨_, pss_one (ps_expr (pe_seinit rfl hS rd ga vV (pa_cons (de_var' (i := 0)) (pa_cons pe_str pa_nil))))⟩
theorem mke_TooMany {P : Program} {w : World} {K : PySem.W.Frag} {mg : Str → Option Value} {base : Heap} (T : Txt K mg) : MkE P w K mg base 1 "TooMany" (some "count") := by
  obtain ⟨S, mc, hS, rd, ga, vV⟩ := T.base.ex
  exact mke1 T.x_TooMany sc_TooMany___init__ fun fa cdv A outer s H E => ⟨_, pss_cons (ps_expr (pe_seinit rfl hS rd ga vV (pa_cons (de_var' (i := 0)) (pa_cons pe_str pa_nil)))) (pss_one (ps_ost (de_var' (i := 0)) (de_var' (i := 1))))⟩
def M__law_state : S := (sRet (dLst (dCons (dCa opInt (dCons (dVar 0) dNil)) (dCons (dCa opInt (dCons (d2 opGe (dVar 0) (d2 opPow (ret (.int 10)) (ret (.int 18)))) dNil)) (dCons (ret (.int 0)) dNil)))))
def G__law_state : List D → Option (O D) := runF M__law_state [] 1 1
theorem ok__law_state {P : Program} {w : World} {K : PySem.W.Frag} {mg : Str → Option Value} {base : Heap} (T : Txt K mg) : OkF P w K mg base 1 "_law_state" ["_law_cell_here"] G__law_state := by
  refine T.f__law_state.ok (N := ["_law_cell_here"]) rfl sc__law_state (by decide) fun f cdv A outer s H E hr => ?_
  have sc_nd := sc__law_state.nd
  exact ((dss_one (ds_ret (de_lst (da_cons (de_callTy (call_intA) ca_int rfl T.b_int (by decide +kernel) (da_cons (de_var (i := 0)) da_nil)) (da_cons (de_callTy (call_intA) ca_int rfl T.b_int (by decide +kernel) (da_cons (de_cmp (op_ge) os_ge (de_var (i := 0)) (de_op op_pow os_pow de_int de_int) (nomark _)) da_nil)) (da_cons de_int da_nil)))))))
def M__law_draw : S := (sSeq (sSetIx 0 (ret (.int 2)) (d2 opAdd (d2L opIx 0 (ret (.int 2))) (ret (.int 1)))) (sSeq (sIf (dtB (d2 opEq (d2L opIx 0 (ret (.int 1))) (ret (.int 1)))) (sSeq (sAsg (d2 opMod (dCa opInt (dCons (d2L opIx 0 (ret (.int 0))) dNil)) (dVar 1)) (gN 2)) (sSeq (sSetIx 0 (ret (.int 0)) (d2 opDiv (d2L opIx 0 (ret (.int 0))) (dVar 1))) (sRet (dVar 2)))) sNil) (sSeq (sAsg (d2 opPow (dCa opInt (dCons (d2 opAdd (d2 opAdd (d2 opMod (dCa opInt (dCons (d2L opIx 0 (ret (.int 0))) dNil)) (ret (.int 2147483647))) (d2 opMul (d2L opIx 0 (ret (.int 2))) (ret (.int 69623)))) (ret (.int 48271))) dNil)) (ret (.int 5))) (gN 3)) (sRet (d2 opMod (dCa opInt (dCons (d2 opDiv (d2 opMod (dCa opInt (dCons (dVar 3) dNil)) (ret (.int 2305843009213693951))) (ret (.int 4096))) dNil)) (dVar 1))))))
def G__law_draw : List D → Option (O D) := runF M__law_draw [2, 3] 4 2
theorem ok__law_draw {P : Program} {w : World} {K : PySem.W.Frag} {mg : Str → Option Value} {base : Heap} (T : Txt K mg) : OkF P w K mg base 1 "_law_draw" ["_law_state_here", "_law_many"] G__law_draw := by
  refine T.f__law_draw.ok (N := ["_law_state_here", "_law_many", "_law_drawn", "_law_mixed"]) rfl sc__law_draw (by decide) fun f cdv A outer s H E hr => ?_
  have sc_nd := sc__law_draw.nd
  exact ((dss_cons (ds_setIx (de_var' (i := 0)) de_int (de_op op_addD os_add (de_ixL ix_seq ov_ix (de_var' (i := 0)) de_int (fun _ _ => rfl)) de_int)) (dss_cons (ds_if (dt_cmp (op_eqD hr.units) os_eq (de_ixL ix_seq ov_ix (de_var' (i := 0)) de_int (fun _ _ => rfl)) de_int (nomark _)) (dss_cons (ds_set (i := 2) sc_nd rfl (by first | exact Or.inl rfl | exact Or.inr rfl) (by decide) (de_op op_mod os_mod (de_callTy (call_intA) ca_int rfl T.b_int (by decide +kernel) (da_cons (de_ixL ix_seq ov_ix (de_var' (i := 0)) de_int (fun _ _ => rfl)) da_nil)) (de_var (i := 1)))) (dss_cons (ds_setIx (de_var' (i := 0)) de_int (de_op op_fdiv os_div (de_ixL ix_seq ov_ix (de_var' (i := 0)) de_int (fun _ _ => rfl)) (de_var (i := 1)))) (dss_one (ds_ret (de_var (i := 2)))))) dss_nil) (dss_cons (ds_set (i := 3) sc_nd rfl (by first | exact Or.inl rfl | exact Or.inr rfl) (by decide) (de_op op_pow os_pow (de_callTy (call_intA) ca_int rfl T.b_int (by decide +kernel) (da_cons (de_op op_addD os_add (de_op op_addD os_add (de_op op_mod os_mod (de_callTy (call_intA) ca_int rfl T.b_int (by decide +kernel) (da_cons (de_ixL ix_seq ov_ix (de_var' (i := 0)) de_int (fun _ _ => rfl)) da_nil)) de_int) (de_op op_mulD os_mul (de_ixL ix_seq ov_ix (de_var' (i := 0)) de_int (fun _ _ => rfl)) de_int)) de_int) da_nil)) de_int)) (dss_one (ds_ret (de_op op_mod os_mod (de_callTy (call_intA) ca_int rfl T.b_int (by decide +kernel) (da_cons (de_op op_fdiv os_div (de_op op_mod os_mod (de_callTy (call_intA) ca_int rfl T.b_int (by decide +kernel) (da_cons (de_var (i := 3)) da_nil)) de_int) de_int) da_nil)) (de_var (i := 1)))))))))
def M__law_cell : S := (sSeq (sIf (dtB (d2 opLt (dVar 1) (dCa opLen (dCons (dVar 0) dNil)))) (sRet (d2 opIx (dVar 0) (dVar 1))) sNil) (sRet (d2 opAdd (ret (.int 7)) (dVar 1))))
def G__law_cell : List D → Option (O D) := runF M__law_cell [] 2 2
theorem ok__law_cell {P : Program} {w : World} {K : PySem.W.Frag} {mg : Str → Option Value} {base : Heap} (T : Txt K mg) : OkF P w K mg base 1 "_law_cell" ["_law_script", "_law_at"] G__law_cell := by
  refine T.f__law_cell.ok (N := ["_law_script", "_law_at"]) rfl sc__law_cell (by decide) fun f cdv A outer s H E hr => ?_
  have sc_nd := sc__law_cell.nd
  exact ((dss_cons (ds_if (dt_cmp (op_lt) os_lt (de_var (i := 1)) (de_callB (call_lenA) ca_len rfl T.b_len (by decide +kernel) (da_cons (de_var (i := 0)) da_nil)) (nomark _)) (dss_one (ds_ret (de_ix ix_seq ov_ix.s (de_var (i := 0)) (de_var (i := 1)) (fun _ _ => rfl)))) dss_nil) (dss_one (ds_ret (de_op op_addD os_add de_int (de_var (i := 1)))))))
def M__law_numbered : S := (sSeq (sAsg (dLst (dCons (dExc "BadReader" (some "number") (dCons (dVar 0) dNil)) (dCons (dExc "BadRing" (some "number") (dCons (dVar 0) dNil)) (dCons (dExc "BadBegin" (some "number") (dCons (dVar 0) dNil)) (dCons (dExc "NoReader" (some "number") (dCons (dVar 0) dNil)) dNil))))) (gN 1)) (sRet (dTup (dCons (dVar 1) (dCons (d2 opEq (dLc (dSeq (dVar 1)) (gN 2) (ret true) (d1 (opAt ci_number ce_number "number") (dVar 2)) [2]) (dLc (dRng1 (dCons (ret (.int 4)) dNil)) (gN 3) (ret true) (dVar 0) [3])) dNil)))))
def G__law_numbered : List D → Option (O D) := runF M__law_numbered [1] 4 1
theorem ok__law_numbered {P : Program} {w : World} {K : PySem.W.Frag} {mg : Str → Option Value} {base : Heap} (T : Txt K mg) : OkF P w K mg base 3 "_law_numbered" ["_law_thing"] G__law_numbered := by
  refine T.f__law_numbered.ok (N := ["_law_thing", "_law_errors", "_law_e", "_law_k"]) rfl sc__law_numbered (by decide) fun f cdv A outer s H E hr => ?_
  have sc_nd := sc__law_numbered.nd
  exact ((dss_cons (ds_set (i := 1) sc_nd rfl (by first | exact Or.inl rfl | exact Or.inr rfl) (by decide) (de_lst (da_cons (de_exc1 (mke_BadReader T) (hr.mono (by decide)) rfl (da_cons (de_var (i := 0)) da_nil)) (da_cons (de_exc1 (mke_BadRing T) (hr.mono (by decide)) rfl (da_cons (de_var (i := 0)) da_nil)) (da_cons (de_exc1 (mke_BadBegin T) (hr.mono (by decide)) rfl (da_cons (de_var (i := 0)) da_nil)) (da_cons (de_exc1 (mke_NoReader T) (hr.mono (by decide)) rfl (da_cons (de_var (i := 0)) da_nil)) da_nil)))))) (dss_one (ds_ret (de_tup (da_cons (de_var (i := 1)) (da_cons (de_cmp (op_eqD hr.units) os_eq (de_lc (own := [("_law_e", 2)]) (is := [2]) (g := (gN 2)) (t := (ret true)) (m := (d1 (opAt ci_number ce_number "number") (dVar 2))) (W' := W0) rfl sc_nd (di_seq (de_var (i := 1))) (blkOk_by (own := [("_law_e", 2)]) rfl) (by decide) (fun _ _ _ _ _ => (dg_name sc_nd rfl (by first | exact Or.inl rfl | exact Or.inr rfl) [2] (by decide))) (fun _ _ _ _ _ => dts_nil) (fun _ _ _ _ _ => (de_at T.at_number.1 T.at_number.2 (de_var (i := 2)) rfl))) (de_lc (own := [("_law_k", 3)]) (is := [3]) (g := (gN 3)) (t := (ret true)) (m := (dVar 0)) (W' := W0) rfl sc_nd (di_range1 rfl T.b_range (da_cons de_int da_nil)) (blkOk_by (own := [("_law_k", 3)]) rfl) (by decide) (fun _ _ _ _ _ => (dg_name sc_nd rfl (by first | exact Or.inl rfl | exact Or.inr rfl) [3] (by decide))) (fun _ _ _ _ _ => dts_nil) (fun _ _ _ _ _ => (de_var (i := 0)))) (nomark _)) da_nil)))))))
def M__law_others : S := (sSeq (sAsg (dExc "TooMany" (some "count") (dCons (dVar 0) dNil)) (gN 1)) (sSeq (sAsg (dExc "BadCount" (some "count") (dCons (dVar 0) dNil)) (gN 2)) (sSeq (sAsg (dExc "NoLine" (some "name") (dCons (dVar 0) dNil)) (gN 3)) (sSeq (sAsg (dExc "BadText" (some "line") (dCons (dVar 0) dNil)) (gN 4)) (sSeq (sAsg (dExc "BadCell" (some "cell") (dCons (dVar 0) dNil)) (gN 5)) (sSeq (sAsg (dExc "NoCell" (some "place") (dCons (dVar 0) dNil)) (gN 6)) (sSeq (sAsg (dExc "BadBound" (some "bound") (dCons (dVar 0) dNil)) (gN 7)) (sSeq (sAsg (dExc "NoRule" (some "rule") (dCons (dVar 0) dNil)) (gN 8)) (sSeq (sAsg (dLst (dCons (d1 (opAt ci_count ce_count "count") (dVar 1)) (dCons (d1 (opAt ci_count ce_count "count") (dVar 2)) (dCons (d1 (opAt ci_name ce_name "name") (dVar 3)) (dCons (d1 (opAt ci_line ce_line "line") (dVar 4)) (dCons (d1 (opAt ci_cell ce_cell "cell") (dVar 5)) (dCons (d1 (opAt ci_place ce_place "place") (dVar 6)) (dCons (d1 (opAt ci_bound ce_bound "bound") (dVar 7)) (dCons (d1 (opAt ci_rule ce_rule "rule") (dVar 8)) dNil))))))))) (gN 9)) (sRet (dTup (dCons (dLst (dCons (dVar 1) (dCons (dVar 2) (dCons (dVar 3) (dCons (dVar 4) (dCons (dVar 5) (dCons (dVar 6) (dCons (dVar 7) (dCons (dVar 8) dNil))))))))) (dCons (d2 opEq (dVar 9) (dLc (dRng1 (dCons (ret (.int 8)) dNil)) (gN 10) (ret true) (dVar 0) [10])) dNil)))))))))))))
def G__law_others : List D → Option (O D) := runF M__law_others [1, 2, 3, 4, 5, 6, 7, 8, 9] 11 1
theorem ok__law_others {P : Program} {w : World} {K : PySem.W.Frag} {mg : Str → Option Value} {base : Heap} (T : Txt K mg) : OkF P w K mg base 3 "_law_others" ["_law_thing"] G__law_others := by
  refine T.f__law_others.ok (N := ["_law_thing", "_law_many", "_law_count", "_law_name", "_law_text", "_law_cell_here", "_law_place", "_law_bound", "_law_rule", "_law_told", "_law_k"]) rfl sc__law_others (by decide) fun f cdv A outer s H E hr => ?_
  have sc_nd := sc__law_others.nd
  exact ((dss_cons (ds_set (i := 1) sc_nd rfl (by first | exact Or.inl rfl | exact Or.inr rfl) (by decide) (de_exc1 (mke_TooMany T) (hr.mono (by decide)) rfl (da_cons (de_var (i := 0)) da_nil))) (dss_cons (ds_set (i := 2) sc_nd rfl (by first | exact Or.inl rfl | exact Or.inr rfl) (by decide) (de_exc1 (mke_BadCount T) (hr.mono (by decide)) rfl (da_cons (de_var (i := 0)) da_nil))) (dss_cons (ds_set (i := 3) sc_nd rfl (by first | exact Or.inl rfl | exact Or.inr rfl) (by decide) (de_exc1 (mke_NoLine T) (hr.mono (by decide)) rfl (da_cons (de_var (i := 0)) da_nil))) (dss_cons (ds_set (i := 4) sc_nd rfl (by first | exact Or.inl rfl | exact Or.inr rfl) (by decide) (de_exc1 (mke_BadText T) (hr.mono (by decide)) rfl (da_cons (de_var (i := 0)) da_nil))) (dss_cons (ds_set (i := 5) sc_nd rfl (by first | exact Or.inl rfl | exact Or.inr rfl) (by decide) (de_exc1 (mke_BadCell T) (hr.mono (by decide)) rfl (da_cons (de_var (i := 0)) da_nil))) (dss_cons (ds_set (i := 6) sc_nd rfl (by first | exact Or.inl rfl | exact Or.inr rfl) (by decide) (de_exc1 (mke_NoCell T) (hr.mono (by decide)) rfl (da_cons (de_var (i := 0)) da_nil))) (dss_cons (ds_set (i := 7) sc_nd rfl (by first | exact Or.inl rfl | exact Or.inr rfl) (by decide) (de_exc1 (mke_BadBound T) (hr.mono (by decide)) rfl (da_cons (de_var (i := 0)) da_nil))) (dss_cons (ds_set (i := 8) sc_nd rfl (by first | exact Or.inl rfl | exact Or.inr rfl) (by decide) (de_exc1 (mke_NoRule T) (hr.mono (by decide)) rfl (da_cons (de_var (i := 0)) da_nil))) (dss_cons (ds_set (i := 9) sc_nd rfl (by first | exact Or.inl rfl | exact Or.inr rfl) (by decide) (de_lst (da_cons (de_at T.at_count.1 T.at_count.2 (de_var (i := 1)) rfl) (da_cons (de_at T.at_count.1 T.at_count.2 (de_var (i := 2)) rfl) (da_cons (de_at T.at_name.1 T.at_name.2 (de_var (i := 3)) rfl) (da_cons (de_at T.at_line.1 T.at_line.2 (de_var (i := 4)) rfl) (da_cons (de_at T.at_cell.1 T.at_cell.2 (de_var (i := 5)) rfl) (da_cons (de_at T.at_place.1 T.at_place.2 (de_var (i := 6)) rfl) (da_cons (de_at T.at_bound.1 T.at_bound.2 (de_var (i := 7)) rfl) (da_cons (de_at T.at_rule.1 T.at_rule.2 (de_var (i := 8)) rfl) da_nil)))))))))) (dss_one (ds_ret (de_tup (da_cons (de_lst (da_cons (de_var (i := 1)) (da_cons (de_var (i := 2)) (da_cons (de_var (i := 3)) (da_cons (de_var (i := 4)) (da_cons (de_var (i := 5)) (da_cons (de_var (i := 6)) (da_cons (de_var (i := 7)) (da_cons (de_var (i := 8)) da_nil))))))))) (da_cons (de_cmp (op_eqD hr.units) os_eq (de_var (i := 9)) (de_lc (own := [("_law_k", 10)]) (is := [10]) (g := (gN 10)) (t := (ret true)) (m := (dVar 0)) (W' := W0) rfl sc_nd (di_range1 rfl T.b_range (da_cons de_int da_nil)) (blkOk_by (own := [("_law_k", 10)]) rfl) (by decide) (fun _ _ _ _ _ => (dg_name sc_nd rfl (by first | exact Or.inl rfl | exact Or.inr rfl) [10] (by decide))) (fun _ _ _ _ _ => dts_nil) (fun _ _ _ _ _ => (de_var (i := 0)))) (nomark _)) da_nil)))))))))))))))
def M__law_kinds : S := (sSeq (sAsg (dLst (dCons (d1 (opIsa ti_BadReader te_BadReader bt_BadReader) (dVar 0)) (dCons (d1 (opIsa ti_BadRing te_BadRing bt_BadRing) (dVar 0)) (dCons (d1 (opIsa ti_BadBegin te_BadBegin bt_BadBegin) (dVar 0)) (dCons (d1 (opIsa ti_NoReader te_NoReader bt_NoReader) (dVar 0)) dNil))))) (gN 1)) (sSeq (sAsg (d2 opAdd (dVar 1) (dLst (dCons (d1 (opIsa ti_TooMany te_TooMany bt_TooMany) (dVar 0)) (dCons (d1 (opIsa ti_BadCount te_BadCount bt_BadCount) (dVar 0)) (dCons (d1 (opIsa ti_NoLine te_NoLine bt_NoLine) (dVar 0)) (dCons (d1 (opIsa ti_BadText te_BadText bt_BadText) (dVar 0)) dNil)))))) (gN 1)) (sSeq (sAsg (d2 opAdd (dVar 1) (dLst (dCons (d1 (opIsa ti_BadCell te_BadCell bt_BadCell) (dVar 0)) (dCons (d1 (opIsa ti_NoCell te_NoCell bt_NoCell) (dVar 0)) (dCons (d1 (opIsa ti_BadBound te_BadBound bt_BadBound) (dVar 0)) (dCons (d1 (opIsa ti_NoRule te_NoRule bt_NoRule) (dVar 0)) dNil)))))) (gN 1)) (sRet (d2 opAdd (dVar 1) (dLst (dCons (d1 (opIsa ti_TooGreat te_TooGreat bt_TooGreat) (dVar 0)) (dCons (d1 (opIsa ti_NothingToUndo te_NothingToUndo bt_NothingToUndo) (dVar 0)) dNil))))))))
def G__law_kinds : List D → Option (O D) := runF M__law_kinds [1] 2 1
theorem ok__law_kinds {P : Program} {w : World} {K : PySem.W.Frag} {mg : Str → Option Value} {base : Heap} (T : Txt K mg) : OkF P w K mg base 1 "_law_kinds" ["_law_e"] G__law_kinds := by
  refine T.f__law_kinds.ok (N := ["_law_e", "_law_found"]) rfl sc__law_kinds (by decide) fun f cdv A outer s H E hr => ?_
  have sc_nd := sc__law_kinds.nd
  exact ((dss_cons (ds_set (i := 1) sc_nd rfl (by first | exact Or.inl rfl | exact Or.inr rfl) (by decide) (de_lst (da_cons (de_isaC T.isa_BadReader rfl T.b_isinstance (de_var (i := 0)) rfl) (da_cons (de_isaC T.isa_BadRing rfl T.b_isinstance (de_var (i := 0)) rfl) (da_cons (de_isaC T.isa_BadBegin rfl T.b_isinstance (de_var (i := 0)) rfl) (da_cons (de_isaC T.isa_NoReader rfl T.b_isinstance (de_var (i := 0)) rfl) da_nil)))))) (dss_cons (ds_set (i := 1) sc_nd rfl (by first | exact Or.inl rfl | exact Or.inr rfl) (by decide) (de_op op_addD os_add (de_var (i := 1)) (de_lst (da_cons (de_isaC T.isa_TooMany rfl T.b_isinstance (de_var (i := 0)) rfl) (da_cons (de_isaC T.isa_BadCount rfl T.b_isinstance (de_var (i := 0)) rfl) (da_cons (de_isaC T.isa_NoLine rfl T.b_isinstance (de_var (i := 0)) rfl) (da_cons (de_isaC T.isa_BadText rfl T.b_isinstance (de_var (i := 0)) rfl) da_nil))))))) (dss_cons (ds_set (i := 1) sc_nd rfl (by first | exact Or.inl rfl | exact Or.inr rfl) (by decide) (de_op op_addD os_add (de_var (i := 1)) (de_lst (da_cons (de_isaC T.isa_BadCell rfl T.b_isinstance (de_var (i := 0)) rfl) (da_cons (de_isaC T.isa_NoCell rfl T.b_isinstance (de_var (i := 0)) rfl) (da_cons (de_isaC T.isa_BadBound rfl T.b_isinstance (de_var (i := 0)) rfl) (da_cons (de_isaC T.isa_NoRule rfl T.b_isinstance (de_var (i := 0)) rfl) da_nil))))))) (dss_one (ds_ret (de_op op_addD os_add (de_var (i := 1)) (de_lst (da_cons (de_isaC T.isa_TooGreat rfl T.b_isinstance (de_var (i := 0)) rfl) (da_cons (de_isaC T.isa_NothingToUndo rfl T.b_isinstance (de_var (i := 0)) rfl) da_nil))))))))))
def M_law : S := (sSeq (sFor (dRng1 (dCons (dCa opMax2 (dCons (ret (.int 1)) (dCons (dCa opMin2 (dCons (ret (.int 3)) (dCons (dCa opLen (dCons (dVar 0) dNil)) dNil))) dNil))) dNil)) (gN 1) (sSeq (sAsg (dCall 1 G__law_state [.val (dCall 2 G__law_cell [.val (dVar 0), .val (dVar 1)] [])] []) (gN 2)) (sSeq (sAsg (d2 opMul (d2 opSub (dCall 2 G__law_draw [.ref 2, .val (ret (.int 2001))] []) (ret (.int 1000))) (d2 opIx (dLst (dCons (ret (.int 1)) (dCons (d2 opPow (ret (.int 10)) (ret (.int 20))) dNil))) (dCall 2 G__law_draw [.ref 2, .val (ret (.int 2))] []))) (gN 3)) (sSeq (sAsg (d2 opIx (dLst (dCons (ret (.str "a")) (dCons (dVar 3) (dCons (ret .non) (dCons (dTup (dCons (dTup (dCons (ret (.str "a")) (dCons (ret (.int 1)) dNil))) (dCons (ret (.int 2)) dNil))) (dCons (dTup dNil) (dCons (ret (.str "")) dNil))))))) (dCall 2 G__law_draw [.ref 2, .val (ret (.int 6))] [])) (gN 4)) (sSeq (sAsg (dCall 1 G__law_numbered [.val (dVar 4)] []) (gTup 2 (gsCons (gN 5) (gsCons (gN 6) gsNil)))) (sSeq (sAsg (dCall 1 G__law_others [.val (dVar 4)] []) (gTup 2 (gsCons (gN 7) (gsCons (gN 8) gsNil)))) (sSeq (sAsg (d2 opAdd (d2 opAdd (dVar 5) (dVar 7)) (dLst (dCons (dExc "TooGreat" none dNil) (dCons (dExc "NothingToUndo" none dNil) dNil)))) (gN 9)) (sSeq (sIf (dOr (dNot (dTru (dVar 6))) (dNot (dTru (dVar 8)))) (sRet (ret (.bl false))) sNil) (sFor (dRng1 (dCons (dCa opLen (dCons (dVar 9) dNil)) dNil)) (gN 10) (sSeq (sIf (dtB (d2 opNe (dCall 1 G__law_kinds [.val (d2 opIx (dVar 9) (dVar 10))] []) (dLc (dRng1 (dCons (ret (.int 14)) dNil)) (gN 11) (ret true) (d2 opEq (dVar 11) (dVar 10)) [11]))) (sRet (ret (.bl false))) sNil) (sIf (dOr (dNot (dTru (d1 (opIsa ti_SplitError te_SplitError bt_SplitError) (d2 opIx (dVar 9) (dVar 10))))) (dNot (dTru (d1 (opIsa ti_ValueError te_ValueError bt_ValueError) (d2 opIx (dVar 9) (dVar 10)))))) (sRet (ret (.bl false))) sNil))))))))))) (sRet (ret (.bl true))))
def G_law : List D → Option (O D) := runF M_law [1, 2, 3, 4, 5, 6, 7, 8, 9, 10] 12 1
theorem ok_law {P : Program} {w : World} {K : PySem.W.Frag} {mg : Str → Option Value} {base : Heap} (T : Txt K mg) : OkF P w K mg base 4 "law" ["_law_script"] G_law := by
  refine T.f_law.ok (N := ["_law_script", "_law_at", "_law_state_here", "_law_number", "_law_thing", "_law_first", "_law_right", "_law_second", "_law_fits", "_law_errors", "_law_k", "_law_j"]) rfl sc_law (by decide) fun f cdv A outer s H E hr => ?_
  have sc_nd := sc_law.nd
  exact ((dss_cons (ds_for (passes_of rfl) rfl (di_range1 rfl T.b_range (da_cons (de_callB (call_max2 rfl) ca_max2 rfl T.b_max (by decide +kernel) (da_cons de_int (da_cons (de_callB (call_min2 rfl) ca_min2 rfl T.b_min (by decide +kernel) (da_cons de_int (da_cons (de_callB (call_lenA) ca_len rfl T.b_len (by decide +kernel) (da_cons (de_var (i := 0)) da_nil)) da_nil))) da_nil))) da_nil)) (dg_name sc_nd rfl (by first | exact Or.inl rfl | exact Or.inr rfl) [1, 2, 3, 4, 5, 6, 7, 8, 9, 10] (by decide)) (dss_cons (ds_set (i := 2) sc_nd rfl (by first | exact Or.inl rfl | exact Or.inr rfl) (by decide) (de_callF (ok__law_state T) (hr.mono (by decide)) rfl (takes_of rfl rfl rfl rfl) (dar_val (de_callF (ok__law_cell T) (hr.mono (by decide)) rfl (takes_of rfl rfl rfl rfl) (dar_val (de_var (i := 0)) (dar_val (de_var (i := 1)) dar_nil))) dar_nil))) (dss_cons (ds_set (i := 3) sc_nd rfl (by first | exact Or.inl rfl | exact Or.inr rfl) (by decide) (de_op op_mulD os_mul (de_op op_sub os_sub (de_callF (ok__law_draw T) (hr.mono (by decide)) rfl (takes_of rfl rfl rfl rfl) (dar_ref (de_var' (i := 2)) (dar_val de_int dar_nil))) de_int) (de_ix ix_seq ov_ix.s (de_lst (da_cons de_int (da_cons (de_op op_pow os_pow de_int de_int) da_nil))) (de_callF (ok__law_draw T) (hr.mono (by decide)) rfl (takes_of rfl rfl rfl rfl) (dar_ref (de_var' (i := 2)) (dar_val de_int dar_nil))) (fun _ _ => rfl)))) (dss_cons (ds_set (i := 4) sc_nd rfl (by first | exact Or.inl rfl | exact Or.inr rfl) (by decide) (de_ix ix_seq ov_ix.s (de_lst (da_cons de_str (da_cons (de_var (i := 3)) (da_cons de_non (da_cons (de_tup (da_cons (de_tup (da_cons de_str (da_cons de_int da_nil))) (da_cons de_int da_nil))) (da_cons (de_tup da_nil) (da_cons de_str da_nil))))))) (de_callF (ok__law_draw T) (hr.mono (by decide)) rfl (takes_of rfl rfl rfl rfl) (dar_ref (de_var' (i := 2)) (dar_val de_int dar_nil))) (fun _ _ => rfl))) (dss_cons (ds_asg (de_callF (ok__law_numbered T) (hr.mono (by decide)) rfl (takes_of rfl rfl rfl rfl) (dar_val (de_var (i := 4)) dar_nil)) (dg_tup rfl (dgs_cons (dg_name sc_nd rfl (by first | exact Or.inl rfl | exact Or.inr rfl) [1, 2, 3, 4, 5, 6, 7, 8, 9, 10] (by decide)) (dgs_cons (dg_name sc_nd rfl (by first | exact Or.inl rfl | exact Or.inr rfl) [1, 2, 3, 4, 5, 6, 7, 8, 9, 10] (by decide)) dgs_nil)))) (dss_cons (ds_asg (de_callF (ok__law_others T) (hr.mono (by decide)) rfl (takes_of rfl rfl rfl rfl) (dar_val (de_var (i := 4)) dar_nil)) (dg_tup rfl (dgs_cons (dg_name sc_nd rfl (by first | exact Or.inl rfl | exact Or.inr rfl) [1, 2, 3, 4, 5, 6, 7, 8, 9, 10] (by decide)) (dgs_cons (dg_name sc_nd rfl (by first | exact Or.inl rfl | exact Or.inr rfl) [1, 2, 3, 4, 5, 6, 7, 8, 9, 10] (by decide)) dgs_nil)))) (dss_cons (ds_set (i := 9) sc_nd rfl (by first | exact Or.inl rfl | exact Or.inr rfl) (by decide) (de_op op_addD os_add (de_op op_addD os_add (de_var (i := 5)) (de_var (i := 7))) (de_lst (da_cons (de_exc0 (mke_TooGreat T) (hr.mono (by decide)) rfl) (da_cons (de_exc0 (mke_NothingToUndo T) (hr.mono (by decide)) rfl) da_nil))))) (dss_cons (ds_if (dt_bool (dw_or (dt_not (dt_tru (de_var (i := 6)))) (dw_or1 (dt_not (dt_tru (de_var (i := 8))))))) (dss_one (ds_ret de_bl)) dss_nil) (dss_one (ds_for (passes_of rfl) rfl (di_range1 rfl T.b_range (da_cons (de_callB (call_lenA) ca_len rfl T.b_len (by decide +kernel) (da_cons (de_var (i := 9)) da_nil)) da_nil)) (dg_name sc_nd rfl (by first | exact Or.inl rfl | exact Or.inr rfl) [1, 2, 3, 4, 5, 6, 7, 8, 9, 10] (by decide)) (dss_cons (ds_if (dt_cmp (op_neD hr.units) os_ne (de_callF (ok__law_kinds T) (hr.mono (by decide)) rfl (takes_of rfl rfl rfl rfl) (dar_val (de_ix ix_seq ov_ix.s (de_var (i := 9)) (de_var (i := 10)) (fun _ _ => rfl)) dar_nil)) (de_lc (own := [("_law_j", 11)]) (is := [11]) (g := (gN 11)) (t := (ret true)) (m := (d2 opEq (dVar 11) (dVar 10))) (W' := W0) rfl sc_nd (di_range1 rfl T.b_range (da_cons de_int da_nil)) (blkOk_by (own := [("_law_j", 11)]) rfl) (by decide) (fun _ _ _ _ _ => (dg_name sc_nd rfl (by first | exact Or.inl rfl | exact Or.inr rfl) [11] (by decide))) (fun _ _ _ _ _ => dts_nil) (fun _ _ _ _ _ => (de_cmp (op_eqD hr.units) os_eq (de_var (i := 11)) (de_var (i := 10)) (nomark _)))) (nomark _)) (dss_one (ds_ret de_bl)) dss_nil) (dss_one (ds_if (dt_bool (dw_or (dt_not (dt_tru (de_isaC T.isa_SplitError rfl T.b_isinstance (de_ix ix_seq ov_ix.s (de_var (i := 9)) (de_var (i := 10)) (fun _ _ => rfl)) rfl))) (dw_or1 (dt_not (dt_tru (de_isaT T.isa_ValueError T.b_ValueError (by decide +kernel) rfl T.b_isinstance (de_ix ix_seq ov_ix.s (de_var (i := 9)) (de_var (i := 10)) (fun _ _ => rfl)) rfl)))))) (dss_one (ds_ret de_bl)) dss_nil))))))))))))) (dss_one (ds_ret de_bl))))
end DL

namespace DL
open PySem L2
abbrev pen (a f c : Int) : D := .nd true .lst [.int a, .int f, .int c]
theorem draw_big (a n c : Int) (hn : 0 < n) (hn2 : n < 1073741824) : G__law_draw [pen a 1 c, .int n] = some (.ok (.int (a % n)) [pen (a / n) 1 (c + 1), .int n]) := by
  have h1 : CDiv a n := ⟨hn, hn2⟩
  simp [G__law_draw, M__law_draw, runF, sSetIx, d2L, opAdd, opIx, atI, ixN, opEq, opMod, opInt, dVar, opDiv, keepA, wipeD, hn, h1]
theorem draw_small (a n c : Int) (hn : 0 < n) (hc : 0 ≤ c) (hc2 : c < 100000) : ∃ d, 0 ≤ d ∧ d < n ∧ G__law_draw [pen a 0 c, .int n] = some (.ok (.int d) [pen a 0 (c + 1), .int n]) := by
  have m1 : 0 ≤ a % 2147483647 := Int.emod_nonneg _ (by decide)
  have m2 : a % 2147483647 < 2147483647 := Int.emod_lt_of_pos _ (by decide)
  have h1 : CMul (c + 1) 69623 := .inr ⟨by decide, by decide⟩
  have h2 : CPow (a % 2147483647 + (c + 1) * 69623 + 48271) 5 := ⟨by decide, by decide, by omega⟩
  have h3 : CDiv ((a % 2147483647 + (c + 1) * 69623 + 48271) ^ 5 % 2305843009213693951) 4096 := ⟨by decide, by decide⟩
  refine ⟨((a % 2147483647 + (c + 1) * 69623 + 48271) ^ 5 % 2305843009213693951 / 4096) % n, Int.emod_nonneg _ (by omega), Int.emod_lt_of_pos _ hn, ?_⟩
  simp [G__law_draw, M__law_draw, runF, sSetIx, d2L, opAdd, opIx, atI, ixN, opEq, opMod, opInt, dVar, opDiv, opMul, opPow, keepA, wipeD, hn, h1, h2, h3]
/-- a draw -/
theorem draw_ok {a f c n : Int} (hf : f = 0 ∨ f = 1) (hn : 0 < n) (hn2 : n < 1073741824) (hc : 0 ≤ c) (hc2 : c < 100000) : ∃ d a', 0 ≤ d ∧ d < n ∧ G__law_draw [pen a f c, .int n] = some (.ok (.int d) [pen a' f (c + 1), .int n]) := by
  rcases hf with rfl | rfl
  · obtain ⟨d, h1, h2, h3⟩ := draw_small a n c hn hc hc2
    exact ⟨d, a, h1, h2, h3⟩
  · exact ⟨_, _, Int.emod_nonneg _ (by omega), Int.emod_lt_of_pos _ hn, draw_big a n c hn hn2⟩
theorem state_ok (z : Int) : ∃ f, (f = 0 ∨ f = 1) ∧ ∃ ρ, G__law_state [.int z] = some (.ok (pen z f 0) ρ) ∧ ρ.length = 1 := by
  have h : CPow 10 18 := by decide
  refine ⟨if decide ((10 : Int) ^ 18 ≤ z) = true then 1 else 0, by split <;> simp, ?_⟩
  simp [G__law_state, M__law_state, runF, dVar, opInt, opPow, opGe, keepA, wipeD, h]
theorem cell_ok (ns : List Int) (i : Int) (hi : 0 ≤ i) (hl : ns.length ≤ 63) : ∃ z ρ, G__law_cell [.nd false .scr (ns.map .int), .int i] = some (.ok (.int z) ρ) ∧ ρ.length = 2 := by
  by_cases h : i < (ns.length : Int)
  · have h2 : i.toNat < ns.length := by omega
    refine ⟨ns[i.toNat], [.nd false .scr (ns.map .int), .int i], ?_, rfl⟩
    simp [G__law_cell, M__law_cell, runF, dVar, opLen, lenD, opLt, opIx, atI, ixN, keepA, wipeD, h, hi, h2]
  · refine ⟨7 + i, [.nd false .scr (ns.map .int), .int i], ?_, rfl⟩
    simp [G__law_cell, M__law_cell, runF, dVar, opLen, lenD, opLt, opIx, opAdd, keepA, wipeD, h]
theorem shd_w {d : D} (h : shd d = true) : whole d = true := shd_whole h
abbrev exN (c f : Str) (d : D) : D := .nd false (.exc c [f]) [d]
theorem numbered_ok (t : D) (ht : shd t = true) (hc : cmpOk 15 t = true) :
    G__law_numbered [t] = some (.ok (.nd false .tup [.nd false .lst [exN "BadReader" "number" t, exN "BadRing" "number" t, exN "BadBegin" "number" t, exN "NoReader" "number" t], .bl true]) [t]) := by
  have hw := shd_whole ht
  have hf := frz_shd ht
  have hc2 : cmpOk 19 t = true := cmpOk_mono hc (by decide)
  have he := eqv_refl hc
  simp [G__law_numbered, M__law_numbered, runF, dVar, opEq, dLc, lcT, opAt, ce_number, ce_count, ce_name, ce_line, ce_cell, ce_place, ce_bound, ce_rule, dRng1, rngL, List.range, List.range.loop, seqD, wipeD, resD, keepA, ht, hw, hf, hc2, he, cmpOk_lst]

theorem others_ok (t : D) (ht : shd t = true) (hc : cmpOk 15 t = true) : ∃ ρ, ρ.length = 1 ∧
    G__law_others [t] = some (.ok (.nd false .tup [.nd false .lst [exN "TooMany" "count" t, exN "BadCount" "count" t, exN "NoLine" "name" t, exN "BadText" "line" t, exN "BadCell" "cell" t, exN "NoCell" "place" t, exN "BadBound" "bound" t, exN "NoRule" "rule" t], .bl true]) ρ) := by
  have hw := shd_whole ht
  have hf := frz_shd ht
  have hc2 : cmpOk 19 t = true := cmpOk_mono hc (by decide)
  have he := eqv_refl hc
  refine ⟨[t], rfl, ?_⟩
  simp [G__law_others, M__law_others, runF, dVar, opEq, dLc, lcT, opAt, ce_number, ce_count, ce_name, ce_line, ce_cell, ce_place, ce_bound, ce_rule, dRng1, rngL, List.range, List.range.loop, seqD, wipeD, resD, keepA, ht, hw, hf, hc2, he, cmpOk_lst]
def order : List Str := ["BadReader", "BadRing", "BadBegin", "NoReader", "TooMany", "BadCount", "NoLine", "BadText", "BadCell", "NoCell", "BadBound", "NoRule", "TooGreat", "NothingToUndo"]
theorem L_BadReader : ∀ c ∈ order, te_BadReader.lookup c = some (("BadReader" : Str) == c) := by decide
theorem L_BadRing : ∀ c ∈ order, te_BadRing.lookup c = some (("BadRing" : Str) == c) := by decide
theorem L_BadBegin : ∀ c ∈ order, te_BadBegin.lookup c = some (("BadBegin" : Str) == c) := by decide
theorem L_NoReader : ∀ c ∈ order, te_NoReader.lookup c = some (("NoReader" : Str) == c) := by decide
theorem L_TooMany : ∀ c ∈ order, te_TooMany.lookup c = some (("TooMany" : Str) == c) := by decide
theorem L_BadCount : ∀ c ∈ order, te_BadCount.lookup c = some (("BadCount" : Str) == c) := by decide
theorem L_NoLine : ∀ c ∈ order, te_NoLine.lookup c = some (("NoLine" : Str) == c) := by decide
theorem L_BadText : ∀ c ∈ order, te_BadText.lookup c = some (("BadText" : Str) == c) := by decide
theorem L_BadCell : ∀ c ∈ order, te_BadCell.lookup c = some (("BadCell" : Str) == c) := by decide
theorem L_NoCell : ∀ c ∈ order, te_NoCell.lookup c = some (("NoCell" : Str) == c) := by decide
theorem L_BadBound : ∀ c ∈ order, te_BadBound.lookup c = some (("BadBound" : Str) == c) := by decide
theorem L_NoRule : ∀ c ∈ order, te_NoRule.lookup c = some (("NoRule" : Str) == c) := by decide
theorem L_TooGreat : ∀ c ∈ order, te_TooGreat.lookup c = some (("TooGreat" : Str) == c) := by decide
theorem L_NothingToUndo : ∀ c ∈ order, te_NothingToUndo.lookup c = some (("NothingToUndo" : Str) == c) := by decide
theorem L_SplitError : ∀ c ∈ order, te_SplitError.lookup c = some true := by decide
theorem L_ValueError : ∀ c ∈ order, te_ValueError.lookup c = some true := by decide
theorem kinds_ok (c : Str) (hc : c ∈ order) (ns : List Str) (ds : List D) (hs : shdL ds = true) : ∃ ρ, ρ.length = 1 ∧ G__law_kinds [.nd false (.exc c ns) ds] = some (.ok (.nd true .lst (order.map fun x => .bl (x == c))) ρ) := by
  have hw := shdL_whole hs
  have hf := frzL_shd hs
  refine ⟨[.nd false (.exc c ns) ds], rfl, ?_⟩
  simp [G__law_kinds, M__law_kinds, runF, dVar, opIsa, opAdd, keepA, wipeD, hs, hw, hf, order, L_BadReader c hc, L_BadRing c hc, L_BadBegin c hc, L_NoReader c hc, L_TooMany c hc, L_BadCount c hc, L_NoLine c hc, L_BadText c hc, L_BadCell c hc, L_NoCell c hc, L_BadBound c hc, L_NoRule c hc, L_TooGreat c hc, L_NothingToUndo c hc]

abbrev scrD (ns : List Int) : D := .nd false .scr (ns.map .int)
theorem pick2 (d : Int) (h0 : 0 ≤ d) (h1 : d < 2) : ∃ m, opIx (.nd false .lst [.int 1, .int 100000000000000000000]) (.int d) = some (.int m) := by
  have : d = 0 ∨ d = 1 := by omega
  rcases this with rfl | rfl <;> exact ⟨_, rfl⟩
theorem pick6 (n d : Int) (h0 : 0 ≤ d) (h1 : d < 6) : ∃ t, shd t = true ∧ cmpOk 15 t = true ∧
    opIx (.nd false .lst [.str "a", .int n, .non, .nd false .tup [.nd false .tup [.str "a", .int 1], .int 2], .nd false .tup [], .str ""]) (.int d) = some t := by
  have : d = 0 ∨ d = 1 ∨ d = 2 ∨ d = 3 ∨ d = 4 ∨ d = 5 := by omega
  rcases this with rfl | rfl | rfl | rfl | rfl | rfl
  · exact ⟨.str "a", rfl, by rw [cmpOk_str]; decide +kernel, rfl⟩
  · exact ⟨.int n, rfl, by simp, rfl⟩
  · exact ⟨.non, rfl, by simp, rfl⟩
  · exact ⟨.nd false .tup [.nd false .tup [.str "a", .int 1], .int 2], by simp, by simp [cmpOk_tup]; decide +kernel, rfl⟩
  · exact ⟨.nd false .tup [], by simp, by simp [cmpOk_tup], rfl⟩
  · exact ⟨.str "", rfl, by rw [cmpOk_str]; decide +kernel, rfl⟩
def errs (t : D) : List D := [exN "BadReader" "number" t, exN "BadRing" "number" t, exN "BadBegin" "number" t, exN "NoReader" "number" t, exN "TooMany" "count" t, exN "BadCount" "count" t, exN "NoLine" "name" t, exN "BadText" "line" t, exN "BadCell" "cell" t,
  exN "NoCell" "place" t, exN "BadBound" "bound" t, exN "NoRule" "rule" t, .nd false (.exc "TooGreat" []) [], .nd false (.exc "NothingToUndo" []) []]
def inner : S := (sSeq (sIf (dtB (d2 opNe (dCall 1 G__law_kinds [.val (d2 opIx (dVar 9) (dVar 10))] []) (dLc (dRng1 (dCons (ret (.int 14)) dNil)) (gN 11) (ret true) (d2 opEq (dVar 11) (dVar 10)) [11]))) (sRet (ret (.bl false))) sNil) (sIf (dOr (dNot (dTru (d1 (opIsa ti_SplitError te_SplitError bt_SplitError) (d2 opIx (dVar 9) (dVar 10))))) (dNot (dTru (d1 (opIsa ti_ValueError te_ValueError bt_ValueError) (d2 opIx (dVar 9) (dVar 10)))))) (sRet (ret (.bl false))) sNil))
theorem errs_at (t : D) (ht : shd t = true) (k : Nat) (hk : k < 14) : ∃ c ns ds, c ∈ order ∧ order[k]? = some c ∧ shdL ds = true ∧ (errs t)[k]? = some (.nd false (.exc c ns) ds) := by
  have : k = 0 ∨ k = 1 ∨ k = 2 ∨ k = 3 ∨ k = 4 ∨ k = 5 ∨ k = 6 ∨ k = 7 ∨ k = 8 ∨ k = 9 ∨ k = 10 ∨ k = 11 ∨ k = 12 ∨ k = 13 := by omega
  rcases this with rfl | rfl | rfl | rfl | rfl | rfl | rfl | rfl | rfl | rfl | rfl | rfl | rfl | rfl <;> exact ⟨_, _, _, by decide, rfl, by simp [ht], rfl⟩
theorem errs_shd (t : D) (ht : shd t = true) : shdL (errs t) = true := by simp [errs, ht]
theorem order_eq (k : Nat) (hk : k < 14) (c : Str) (h : order[k]? = some c) : (order.map fun x => D.bl (x == c)) = (List.range 14).map fun j : Nat => D.bl ((j : Int) == (k : Int)) := by
  have : k = 0 ∨ k = 1 ∨ k = 2 ∨ k = 3 ∨ k = 4 ∨ k = 5 ∨ k = 6 ∨ k = 7 ∨ k = 8 ∨ k = 9 ∨ k = 10 ∨ k = 11 ∨ k = 12 ∨ k = 13 := by omega
  rcases this with rfl | rfl | rfl | rfl | rfl | rfl | rfl | rfl | rfl | rfl | rfl | rfl | rfl | rfl <;> (simp only [order, List.getElem?_cons_zero, List.getElem?_cons_succ, Option.some.injEq] at h; subst h; rfl)
theorem bools_cmp (k : Nat) : cmpOk 20 (.nd false .lst ((List.range 14).map fun j : Nat => D.bl ((j : Int) == (k : Int)))) = true := by
  rw [cmpOk_lst]
  refine cmpOkL_of fun d hd => ?_
  obtain ⟨j, _, rfl⟩ := List.mem_map.mp hd
  simp
theorem bools_shd (k : Nat) : shdL ((List.range 14).map fun j : Nat => D.bl ((j : Int) == (k : Int))) = true := by
  refine shdL_of fun d hd => ?_
  obtain ⟨j, _, rfl⟩ := List.mem_map.mp hd
  simp
theorem inner_ok (t : D) (ht : shd t = true) (k : Nat) (hk : k < 14) (o : Bool) (d0 d1 d2 d3 d4 d5 d6 d7 d8 d11 : D) : ∃ y,
    inner [d0, d1, d2, d3, d4, d5, d6, d7, d8, .nd o .lst (errs t), .int k, d11] = some (.nx [d0, d1, d2, d3, d4, d5, d6, d7, d8, .nd false .lst (errs t), .int k, y]) := by
  obtain ⟨c, ns, ds, hc, ho, hs, he⟩ := errs_at t ht k hk
  obtain ⟨ρk, hl, hkinds⟩ := kinds_ok c hc ns ds hs
  rw [order_eq k hk c ho] at hkinds
  have hE := errs_shd t ht
  have hw := shdL_whole hE
  have hf := frzL_shd hE
  have hlen : (errs t).length = 14 := rfl
  have hv : dVar 9 [d0, d1, d2, d3, d4, d5, d6, d7, d8, .nd o .lst (errs t), .int k, d11] = some (.ok (.nd false .lst (errs t)) [d0, d1, d2, d3, d4, d5, d6, d7, d8, .nd false .lst (errs t), .int k, d11]) := by
    rw [dVar_fr (d := .nd o .lst (errs t)) rfl (by simpa using hw)]
    simp [hf]
  have hv2 : dVar 9 [d0, d1, d2, d3, d4, d5, d6, d7, d8, .nd false .lst (errs t), .int k, d11] = some (.ok (.nd false .lst (errs t)) [d0, d1, d2, d3, d4, d5, d6, d7, d8, .nd false .lst (errs t), .int k, d11]) := by
    rw [dVar_fr (d := .nd false .lst (errs t)) rfl (by simpa using hw)]
    simp [hf]
  have hix : opIx (.nd false .lst (errs t)) (.int k) = some (.nd false (.exc c ns) ds) := by
    have : ixN (errs t).length (k : Int) = some k := by rw [hlen]; unfold ixN; rw [if_pos (by omega), if_pos (by omega)]; rfl
    simp only [opIx, atI, this, Option.bind_some, he]
  have hdw := shdL_whole hs
  have hdf := frzL_shd hs
  have hcm := bools_cmp k
  have hBw := bools_shd k
  have hBf := frzL_shd hBw
  have hBw2 := shdL_whole hBw
  have hne : opNe (.nd false .lst ((List.range 14).map fun j : Nat => D.bl ((j : Int) == (k : Int)))) (.nd false .lst ((List.range 14).map fun j : Nat => D.bl ((j : Int) == (k : Int)))) = some (.bl false) := by
    rw [opNe_of hcm hcm, eqv_refl hcm]; rfl
  generalize hB : ((List.range 14).map fun j : Nat => D.bl ((j : Int) == (k : Int))) = B at *
  have hlc : ∀ y, dLc (dRng1 (dCons (ret (.int 14)) dNil)) (gN 11) (ret true) (DL.d2 opEq (dVar 11) (dVar 10)) [11] [d0, d1, d2, d3, d4, d5, d6, d7, d8, .nd false .lst (errs t), .int k, y] =
      some (.ok (.nd true .lst B) (resD [d0, d1, d2, d3, d4, d5, d6, d7, d8, .nd false .lst (errs t), .int k, y] [d0, d1, d2, d3, d4, d5, d6, d7, d8, .nd false .lst (errs t), .int k, .un] [11])) := by
    intro y
    rw [← hB]
    simp [dLc, lcT, dRng1, rngL, List.range, List.range.loop, wipeD, opEq, dVar]
  have hdV10 : ∀ x9 y, dVar 10 [d0, d1, d2, d3, d4, d5, d6, d7, d8, x9, .int k, y] = some (.ok (.int k) [d0, d1, d2, d3, d4, d5, d6, d7, d8, x9, .int k, y]) := fun x9 y => dVar_of rfl rfl
  have hr : ∃ y, resD [d0, d1, d2, d3, d4, d5, d6, d7, d8, .nd false .lst (errs t), .int k, d11] [d0, d1, d2, d3, d4, d5, d6, d7, d8, .nd false .lst (errs t), .int k, .un] [11] = [d0, d1, d2, d3, d4, d5, d6, d7, d8, .nd false .lst (errs t), .int k, y] := by
    by_cases h : shd d11 = true
    · exact ⟨d11, by simp [resD, h]⟩
    · exact ⟨.un, by simp [resD, h]⟩
  obtain ⟨y, hr⟩ := hr
  refine ⟨y, ?_⟩
  have hk2 : ∀ x : Str × Bool, True := fun _ => trivial
  have i1 : opIsa ti_SplitError te_SplitError bt_SplitError (.nd false (.exc c ns) ds) = some (.bl true) := by simp [opIsa, L_SplitError c hc]
  have i2 : opIsa ti_ValueError te_ValueError bt_ValueError (.nd false (.exc c ns) ds) = some (.bl true) := by simp [opIsa, L_ValueError c hc]
  have hv' := hv2 
  simp [inner, hv, hdV10, hw, hf, hix, hs, hdw, hdf, hkinds, hl, callOut_vals1, hlc, hBw2, hBf, hne, hr]
  have hv3 : dVar 9 [d0, d1, d2, d3, d4, d5, d6, d7, d8, .nd false .lst (errs t), .int k, y] = some (.ok (.nd false .lst (errs t)) [d0, d1, d2, d3, d4, d5, d6, d7, d8, .nd false .lst (errs t), .int k, y]) := by
    rw [dVar_fr (d := .nd false .lst (errs t)) rfl (by simpa using hw)]
    simp [hf]
  simp [hv3, hdV10, hw, hf, hix, hs, hdw, hdf, i1, i2, tru]

def outer : S := (sSeq (sAsg (dCall 1 G__law_state [.val (dCall 2 G__law_cell [.val (dVar 0), .val (dVar 1)] [])] []) (gN 2)) (sSeq (sAsg (d2 opMul (d2 opSub (dCall 2 G__law_draw [.ref 2, .val (ret (.int 2001))] []) (ret (.int 1000))) (d2 opIx (dLst (dCons (ret (.int 1)) (dCons (d2 opPow (ret (.int 10)) (ret (.int 20))) dNil))) (dCall 2 G__law_draw [.ref 2, .val (ret (.int 2))] []))) (gN 3)) (sSeq (sAsg (d2 opIx (dLst (dCons (ret (.str "a")) (dCons (dVar 3) (dCons (ret .non) (dCons (dTup (dCons (dTup (dCons (ret (.str "a")) (dCons (ret (.int 1)) dNil))) (dCons (ret (.int 2)) dNil))) (dCons (dTup dNil) (dCons (ret (.str "")) dNil))))))) (dCall 2 G__law_draw [.ref 2, .val (ret (.int 6))] [])) (gN 4)) (sSeq (sAsg (dCall 1 G__law_numbered [.val (dVar 4)] []) (gTup 2 (gsCons (gN 5) (gsCons (gN 6) gsNil)))) (sSeq (sAsg (dCall 1 G__law_others [.val (dVar 4)] []) (gTup 2 (gsCons (gN 7) (gsCons (gN 8) gsNil)))) (sSeq (sAsg (d2 opAdd (d2 opAdd (dVar 5) (dVar 7)) (dLst (dCons (dExc "TooGreat" none dNil) (dCons (dExc "NothingToUndo" none dNil) dNil)))) (gN 9)) (sSeq (sIf (dOr (dNot (dTru (dVar 6))) (dNot (dTru (dVar 8)))) (sRet (ret (.bl false))) sNil) (sFor (dRng1 (dCons (dCa opLen (dCons (dVar 9) dNil)) dNil)) (gN 10) inner))))))))
theorem M_law_is : M_law = (sSeq (sFor (dRng1 (dCons (dCa opMax2 (dCons (ret (.int 1)) (dCons (dCa opMin2 (dCons (ret (.int 3)) (dCons (dCa opLen (dCons (dVar 0) dNil)) dNil))) dNil))) dNil)) (gN 1) outer) (sRet (ret (.bl true)))) := rfl
theorem len12 {ρ : List D} (h : ρ.length = 12) : ∃ d0 d1 d2 d3 d4 d5 d6 d7 d8 d9 d10 d11, ρ = [d0, d1, d2, d3, d4, d5, d6, d7, d8, d9, d10, d11] := by
  match ρ, h with
  | [d0, d1, d2, d3, d4, d5, d6, d7, d8, d9, d10, d11], _ => exact ⟨d0, d1, d2, d3, d4, d5, d6, d7, d8, d9, d10, d11, rfl⟩
theorem inner_loop (t : D) (ht : shd t = true) (d0 d1 d2 d3 d4 d5 d6 d7 d8 d10 d11 : D) : ∃ ρ', forD (gN 10) inner (rngL 0 14) [d0, d1, d2, d3, d4, d5, d6, d7, d8, .nd false .lst (errs t), d10, d11] = some (.nx ρ') ∧ ρ'.length = 12 ∧ ρ'[0]? = some d0 := by
  obtain ⟨ρ', e, o, x, y, rfl⟩ := forD_inv (g := gN 10) (b := inner) (fun ρ => ∃ o x y, ρ = [d0, d1, d2, d3, d4, d5, d6, d7, d8, .nd o .lst (errs t), x, y]) (ds := rngL 0 14) (ρ := [d0, d1, d2, d3, d4, d5, d6, d7, d8, .nd false .lst (errs t), d10, d11]) (by
    rintro d hd ρ ⟨o, x, y, rfl⟩
    unfold rngL at hd
    obtain ⟨k, hk, rfl⟩ := List.mem_map.mp hd
    rw [List.mem_range] at hk
    obtain ⟨y', h⟩ := inner_ok t ht k hk o d0 d1 d2 d3 d4 d5 d6 d7 d8 y
    refine ⟨_, _, rfl, ?_, false, .int k, y', rfl⟩
    rw [← h]
    simp) ⟨false, d10, d11, rfl⟩
  exact ⟨_, e, rfl, rfl⟩
theorem outer_ok (ns : List Int) (hns : ns.length ≤ 63) (i : Nat) (e1 d2 d3 d4 d5 d6 d7 d8 d9 d10 d11 : D) : ∃ ρ', outer [scrD ns, .int i, d2, d3, d4, d5, d6, d7, d8, d9, d10, d11] = some (.nx ρ') ∧ ρ'.length = 12 ∧ ρ'[0]? = some (scrD ns) := by
  obtain ⟨z, ρc, hcell, hlc⟩ := cell_ok ns i (by omega) hns
  obtain ⟨f, hf, ρs, hst, hls⟩ := state_ok z
  obtain ⟨v1, a1, v1a, v1b, hv1⟩ := draw_ok (a := z) (c := 0) (n := 2001) hf (by decide) (by decide) (by decide) (by decide)
  obtain ⟨v2, a2, v2a, v2b, hv2⟩ := draw_ok (a := a1) (c := 1) (n := 2) hf (by decide) (by decide) (by decide) (by decide)
  obtain ⟨v3, a3, v3a, v3b, hv3⟩ := draw_ok (a := a2) (c := 2) (n := 6) hf (by decide) (by decide) (by decide) (by decide)
  simp only [Int.zero_add, pen] at hv1 hv2 hv3 hst
  obtain ⟨m, hm⟩ := pick2 v2 v2a v2b
  have hmul : CMul (v1 - 1000) m := .inl ⟨by omega, by omega⟩
  obtain ⟨t, ht, hct, hpick⟩ := pick6 ((v1 - 1000) * m) v3 v3a v3b
  have htw := shd_whole ht
  have htf := frz_shd ht
  have hp20 : CPow 10 20 := by decide
  have hnum := numbered_ok t ht hct
  obtain ⟨ρo, hlo, hoth⟩ := others_ok t ht hct
  obtain ⟨ρ', hl, hl1, hl2⟩ := inner_loop t ht (scrD ns) (.int i) (.nd true .lst [.int a3, .int f, .int 3]) (.int ((v1 - 1000) * m)) t (.nd false .lst [exN "BadReader" "number" t, exN "BadRing" "number" t, exN "BadBegin" "number" t, exN "NoReader" "number" t]) (.bl true) (.nd false .lst [exN "TooMany" "count" t, exN "BadCount" "count" t, exN "NoLine" "name" t, exN "BadText" "line" t, exN "BadCell" "cell" t, exN "NoCell" "place" t, exN "BadBound" "bound" t, exN "NoRule" "rule" t]) (.bl true) d10 d11
  refine ⟨ρ', ?_, hl1, hl2⟩
  rw [← hl]
  simp [outer, dVar, hcell, hlc, hst, hls, hv1, hv2, hv3, hm, hmul, opSub, opMul, opPow, hp20, hpick, ht, htw, htf, hnum, hoth, hlo, gTup, opAdd, tru, opLen, lenD, dRng1, callOut_vals1, callOut_vals2, errs]
theorem law_true (ns : List Int) (hns : ns.length ≤ 63) : ∃ ds, G_law [scrD ns] = some (.ok (.bl true) ds) := by
  obtain ⟨n, hn⟩ : ∃ n : Nat, ∀ ρ, (dRng1 (dCons (dCa opMax2 (dCons (ret (.int 1)) (dCons (dCa opMin2 (dCons (ret (.int 3)) (dCons (dCa opLen (dCons (dVar 0) dNil)) dNil))) dNil))) dNil)) (scrD ns :: ρ) = some (.ok (rngL 0 n) (scrD ns :: ρ)) := by
    by_cases h : (ns.length : Int) < 3
    · by_cases h2 : (1 : Int) < ns.length
      · have h3 : (ns.length : Int) ≤ 100000 := by omega
        have h4 : (-100000 : Int) ≤ ns.length := by omega
        exact ⟨ns.length, fun ρ => by simp [dRng1, opMax2, opMin2, opLen, lenD, dVar, h, h2, h3, h4]⟩
      · exact ⟨1, fun ρ => by simp [dRng1, opMax2, opMin2, opLen, lenD, dVar, h, h2]⟩
    · exact ⟨3, fun ρ => by simp [dRng1, opMax2, opMin2, opLen, lenD, dVar, h]⟩
  have hstart : [scrD ns] ++ List.replicate (12 - 1) D.un = [scrD ns, .un, .un, .un, .un, .un, .un, .un, .un, .un, .un, .un] := rfl
  obtain ⟨ρ', h1, h2, h3⟩ := forD_inv (g := gN 1) (b := outer) (fun ρ => ρ.length = 12 ∧ ρ[0]? = some (scrD ns)) (ds := rngL 0 n) (ρ := [scrD ns, .un, .un, .un, .un, .un, .un, .un, .un, .un, .un, .un]) (by
    rintro d hd ρ ⟨hl, h0⟩
    unfold rngL at hd
    obtain ⟨k, hk, rfl⟩ := List.mem_map.mp hd
    obtain ⟨d0, d1, d2, d3, d4, d5, d6, d7, d8, d9, d10, d11, rfl⟩ := len12 hl
    simp only [List.getElem?_cons_zero, Option.some.injEq] at h0
    subst h0
    obtain ⟨ρ', h, h1, h2⟩ := outer_ok ns hns k d1 d2 d3 d4 d5 d6 d7 d8 d9 d10 d11
    refine ⟨_, ρ', rfl, ?_, h1, h2⟩
    rw [← h]
    simp) ⟨rfl, rfl⟩
  refine ⟨keepA [1, 2, 3, 4, 5, 6, 7, 8, 9, 10] 1 ρ', ?_⟩
  unfold G_law
  rw [M_law_is]
  simp [runF, hn, h1]
end DL

open PySem PySem.W PyProof.Rows
open_top hd for PySem.Challenge.rw_splitalike_k71_errors_stand_apart

open PySem PySem.W PyProof.Rows
theorem PySem.Challenge.cw_splitalike_k71_errors_stand_apart_holds : PySem.Challenge.rw_splitalike_k71_errors_stand_apart.Holds := by
  refine hd ?_
  k_fill
  refine DL.law_endT (l := PySem.Challenge.rw_splitalike_k71_errors_stand_apart) (k := 4) (st := DL.s_law) (g := DL.G_law) (x := "_law_script") (Tx := DL.Txt) rfl rfl ⟨rfl, by decide, by decide⟩ (fun w h Y => PySem.W.kIn_of Y) rfl DL.law_true (fun T => DL.ok_law T) (fun T => T.f_law) (fun _ _ _ _ _ _ _ _ => .of_eq rfl) ?T
  case T =>
    intro w mg h KX G
    refine' DL.thn' (DL.errC_mk (c := "BadBegin") (qual := "BadBegin.__init__") (f := "number") (st := DL.s_BadBegin___init__) KX G ?aC ?xL ?hbm ?sa ?eC ?tC ?kC ?ga ?gg ?hd ?ha ?hn ?ht ?hm ?iC ?tI ?l ?cI ?kI ?no (fun _ _ _ _ _ _ us hl => match us, hl with | [_, _], _ => rfl)) ?go_BadBegin
    (case aC => k_is); (case xL => k_is); (case hbm => decide +kernel); (case sa => k_is); (case eC => k_is); (case tC => k_is); (case kC => k_is); (case ga => k_is); (case gg => k_is); (case hd => k_is); (case ha => k_is); (case hn => k_is); (case ht => k_is); (case hm => k_is); (case iC => k_is); (case tI => k_is); (case l => k_is); (case cI => k_is); (case kI => k_is); (case no => k_is)
    intro x_BadBegin
    refine' DL.thn' (DL.errC_mk (c := "BadBound") (qual := "BadBound.__init__") (f := "bound") (st := DL.s_BadBound___init__) KX G ?aC ?xL ?hbm ?sa ?eC ?tC ?kC ?ga ?gg ?hd ?ha ?hn ?ht ?hm ?iC ?tI ?l ?cI ?kI ?no (fun _ _ _ _ _ _ us hl => match us, hl with | [_, _], _ => rfl)) ?go_BadBound
    (case aC => k_is); (case xL => k_is); (case hbm => decide +kernel); (case sa => k_is); (case eC => k_is); (case tC => k_is); (case kC => k_is); (case ga => k_is); (case gg => k_is); (case hd => k_is); (case ha => k_is); (case hn => k_is); (case ht => k_is); (case hm => k_is); (case iC => k_is); (case tI => k_is); (case l => k_is); (case cI => k_is); (case kI => k_is); (case no => k_is)
    intro x_BadBound
    refine' DL.thn' (DL.errC_mk (c := "BadCell") (qual := "BadCell.__init__") (f := "cell") (st := DL.s_BadCell___init__) KX G ?aC ?xL ?hbm ?sa ?eC ?tC ?kC ?ga ?gg ?hd ?ha ?hn ?ht ?hm ?iC ?tI ?l ?cI ?kI ?no (fun _ _ _ _ _ _ us hl => match us, hl with | [_, _], _ => rfl)) ?go_BadCell
    (case aC => k_is); (case xL => k_is); (case hbm => decide +kernel); (case sa => k_is); (case eC => k_is); (case tC => k_is); (case kC => k_is); (case ga => k_is); (case gg => k_is); (case hd => k_is); (case ha => k_is); (case hn => k_is); (case ht => k_is); (case hm => k_is); (case iC => k_is); (case tI => k_is); (case l => k_is); (case cI => k_is); (case kI => k_is); (case no => k_is)
    intro x_BadCell
    refine' DL.thn' (DL.errC_mk (c := "BadCount") (qual := "BadCount.__init__") (f := "count") (st := DL.s_BadCount___init__) KX G ?aC ?xL ?hbm ?sa ?eC ?tC ?kC ?ga ?gg ?hd ?ha ?hn ?ht ?hm ?iC ?tI ?l ?cI ?kI ?no (fun _ _ _ _ _ _ us hl => match us, hl with | [_, _], _ => rfl)) ?go_BadCount
    (case aC => k_is); (case xL => k_is); (case hbm => decide +kernel); (case sa => k_is); (case eC => k_is); (case tC => k_is); (case kC => k_is); (case ga => k_is); (case gg => k_is); (case hd => k_is); (case ha => k_is); (case hn => k_is); (case ht => k_is); (case hm => k_is); (case iC => k_is); (case tI => k_is); (case l => k_is); (case cI => k_is); (case kI => k_is); (case no => k_is)
    intro x_BadCount
    refine' DL.thn' (DL.errC_mk (c := "BadReader") (qual := "BadReader.__init__") (f := "number") (st := DL.s_BadReader___init__) KX G ?aC ?xL ?hbm ?sa ?eC ?tC ?kC ?ga ?gg ?hd ?ha ?hn ?ht ?hm ?iC ?tI ?l ?cI ?kI ?no (fun _ _ _ _ _ _ us hl => match us, hl with | [_, _], _ => rfl)) ?go_BadReader
    (case aC => k_is); (case xL => k_is); (case hbm => decide +kernel); (case sa => k_is); (case eC => k_is); (case tC => k_is); (case kC => k_is); (case ga => k_is); (case gg => k_is); (case hd => k_is); (case ha => k_is); (case hn => k_is); (case ht => k_is); (case hm => k_is); (case iC => k_is); (case tI => k_is); (case l => k_is); (case cI => k_is); (case kI => k_is); (case no => k_is)
    intro x_BadReader
    refine' DL.thn' (DL.errC_mk (c := "BadRing") (qual := "BadRing.__init__") (f := "number") (st := DL.s_BadRing___init__) KX G ?aC ?xL ?hbm ?sa ?eC ?tC ?kC ?ga ?gg ?hd ?ha ?hn ?ht ?hm ?iC ?tI ?l ?cI ?kI ?no (fun _ _ _ _ _ _ us hl => match us, hl with | [_, _], _ => rfl)) ?go_BadRing
    (case aC => k_is); (case xL => k_is); (case hbm => decide +kernel); (case sa => k_is); (case eC => k_is); (case tC => k_is); (case kC => k_is); (case ga => k_is); (case gg => k_is); (case hd => k_is); (case ha => k_is); (case hn => k_is); (case ht => k_is); (case hm => k_is); (case iC => k_is); (case tI => k_is); (case l => k_is); (case cI => k_is); (case kI => k_is); (case no => k_is)
    intro x_BadRing
    refine' DL.thn' (DL.errC_mk (c := "BadText") (qual := "BadText.__init__") (f := "line") (st := DL.s_BadText___init__) KX G ?aC ?xL ?hbm ?sa ?eC ?tC ?kC ?ga ?gg ?hd ?ha ?hn ?ht ?hm ?iC ?tI ?l ?cI ?kI ?no (fun _ _ _ _ _ _ us hl => match us, hl with | [_, _], _ => rfl)) ?go_BadText
    (case aC => k_is); (case xL => k_is); (case hbm => decide +kernel); (case sa => k_is); (case eC => k_is); (case tC => k_is); (case kC => k_is); (case ga => k_is); (case gg => k_is); (case hd => k_is); (case ha => k_is); (case hn => k_is); (case ht => k_is); (case hm => k_is); (case iC => k_is); (case tI => k_is); (case l => k_is); (case cI => k_is); (case kI => k_is); (case no => k_is)
    intro x_BadText
    refine' DL.thn' (DL.errC_mk (c := "NoCell") (qual := "NoCell.__init__") (f := "place") (st := DL.s_NoCell___init__) KX G ?aC ?xL ?hbm ?sa ?eC ?tC ?kC ?ga ?gg ?hd ?ha ?hn ?ht ?hm ?iC ?tI ?l ?cI ?kI ?no (fun _ _ _ _ _ _ us hl => match us, hl with | [_, _], _ => rfl)) ?go_NoCell
    (case aC => k_is); (case xL => k_is); (case hbm => decide +kernel); (case sa => k_is); (case eC => k_is); (case tC => k_is); (case kC => k_is); (case ga => k_is); (case gg => k_is); (case hd => k_is); (case ha => k_is); (case hn => k_is); (case ht => k_is); (case hm => k_is); (case iC => k_is); (case tI => k_is); (case l => k_is); (case cI => k_is); (case kI => k_is); (case no => k_is)
    intro x_NoCell
    refine' DL.thn' (DL.errC_mk (c := "NoLine") (qual := "NoLine.__init__") (f := "name") (st := DL.s_NoLine___init__) KX G ?aC ?xL ?hbm ?sa ?eC ?tC ?kC ?ga ?gg ?hd ?ha ?hn ?ht ?hm ?iC ?tI ?l ?cI ?kI ?no (fun _ _ _ _ _ _ us hl => match us, hl with | [_, _], _ => rfl)) ?go_NoLine
    (case aC => k_is); (case xL => k_is); (case hbm => decide +kernel); (case sa => k_is); (case eC => k_is); (case tC => k_is); (case kC => k_is); (case ga => k_is); (case gg => k_is); (case hd => k_is); (case ha => k_is); (case hn => k_is); (case ht => k_is); (case hm => k_is); (case iC => k_is); (case tI => k_is); (case l => k_is); (case cI => k_is); (case kI => k_is); (case no => k_is)
    intro x_NoLine
    refine' DL.thn' (DL.errC_mk (c := "NoReader") (qual := "NoReader.__init__") (f := "number") (st := DL.s_NoReader___init__) KX G ?aC ?xL ?hbm ?sa ?eC ?tC ?kC ?ga ?gg ?hd ?ha ?hn ?ht ?hm ?iC ?tI ?l ?cI ?kI ?no (fun _ _ _ _ _ _ us hl => match us, hl with | [_, _], _ => rfl)) ?go_NoReader
    (case aC => k_is); (case xL => k_is); (case hbm => decide +kernel); (case sa => k_is); (case eC => k_is); (case tC => k_is); (case kC => k_is); (case ga => k_is); (case gg => k_is); (case hd => k_is); (case ha => k_is); (case hn => k_is); (case ht => k_is); (case hm => k_is); (case iC => k_is); (case tI => k_is); (case l => k_is); (case cI => k_is); (case kI => k_is); (case no => k_is)
    intro x_NoReader
    refine' DL.thn' (DL.errC_mk (c := "NoRule") (qual := "NoRule.__init__") (f := "rule") (st := DL.s_NoRule___init__) KX G ?aC ?xL ?hbm ?sa ?eC ?tC ?kC ?ga ?gg ?hd ?ha ?hn ?ht ?hm ?iC ?tI ?l ?cI ?kI ?no (fun _ _ _ _ _ _ us hl => match us, hl with | [_, _], _ => rfl)) ?go_NoRule
    (case aC => k_is); (case xL => k_is); (case hbm => decide +kernel); (case sa => k_is); (case eC => k_is); (case tC => k_is); (case kC => k_is); (case ga => k_is); (case gg => k_is); (case hd => k_is); (case ha => k_is); (case hn => k_is); (case ht => k_is); (case hm => k_is); (case iC => k_is); (case tI => k_is); (case l => k_is); (case cI => k_is); (case kI => k_is); (case no => k_is)
    intro x_NoRule
    refine' DL.thn' (DL.errC_mk0 (c := "NothingToUndo") (qual := "NothingToUndo.__init__") (st := DL.s_NothingToUndo___init__) KX G ?aC ?xL ?hbm ?sa ?eC ?tC ?kC ?ga ?gg ?hd ?ha ?hn ?ht ?hm ?iC ?tI ?l ?cI ?kI (fun _ _ _ _ _ _ us hl => match us, hl with | [_], _ => rfl)) ?go_NothingToUndo
    (case aC => k_is); (case xL => k_is); (case hbm => decide +kernel); (case sa => k_is); (case eC => k_is); (case tC => k_is); (case kC => k_is); (case ga => k_is); (case gg => k_is); (case hd => k_is); (case ha => k_is); (case hn => k_is); (case ht => k_is); (case hm => k_is); (case iC => k_is); (case tI => k_is); (case l => k_is); (case cI => k_is); (case kI => k_is)
    intro x_NothingToUndo
    refine' DL.thn' (DL.errC_mk0 (c := "TooGreat") (qual := "TooGreat.__init__") (st := DL.s_TooGreat___init__) KX G ?aC ?xL ?hbm ?sa ?eC ?tC ?kC ?ga ?gg ?hd ?ha ?hn ?ht ?hm ?iC ?tI ?l ?cI ?kI (fun _ _ _ _ _ _ us hl => match us, hl with | [_], _ => rfl)) ?go_TooGreat
    (case aC => k_is); (case xL => k_is); (case hbm => decide +kernel); (case sa => k_is); (case eC => k_is); (case tC => k_is); (case kC => k_is); (case ga => k_is); (case gg => k_is); (case hd => k_is); (case ha => k_is); (case hn => k_is); (case ht => k_is); (case hm => k_is); (case iC => k_is); (case tI => k_is); (case l => k_is); (case cI => k_is); (case kI => k_is)
    intro x_TooGreat
    refine' DL.thn' (DL.errC_mk (c := "TooMany") (qual := "TooMany.__init__") (f := "count") (st := DL.s_TooMany___init__) KX G ?aC ?xL ?hbm ?sa ?eC ?tC ?kC ?ga ?gg ?hd ?ha ?hn ?ht ?hm ?iC ?tI ?l ?cI ?kI ?no (fun _ _ _ _ _ _ us hl => match us, hl with | [_, _], _ => rfl)) ?go_TooMany
    (case aC => k_is); (case xL => k_is); (case hbm => decide +kernel); (case sa => k_is); (case eC => k_is); (case tC => k_is); (case kC => k_is); (case ga => k_is); (case gg => k_is); (case hd => k_is); (case ha => k_is); (case hn => k_is); (case ht => k_is); (case hm => k_is); (case iC => k_is); (case tI => k_is); (case l => k_is); (case cI => k_is); (case kI => k_is); (case no => k_is)
    intro x_TooMany
    refine DL.Txt.mk ?x_BadBegin ?x_BadBound ?x_BadCell ?x_BadCount ?x_BadReader ?x_BadRing ?x_BadText ?x_NoCell ?x_NoLine ?x_NoReader ?x_NoRule ?x_NothingToUndo ?x_TooGreat ?x_TooMany ?base ?f__law_state ?f__law_draw ?f__law_cell ?f__law_numbered ?f__law_others ?f__law_kinds ?f_law ?b_int ?b_len ?at_number ?b_range ?at_rule ?at_bound ?at_place ?at_cell ?at_line ?at_name ?at_count ?isa_NoReader ?b_isinstance ?isa_BadBegin ?isa_BadRing ?isa_BadReader ?isa_BadText ?isa_NoLine ?isa_BadCount ?isa_TooMany ?isa_NoRule ?isa_BadBound ?isa_NoCell ?isa_BadCell ?isa_NothingToUndo ?isa_TooGreat ?b_min ?b_max ?isa_SplitError ?isa_ValueError ?b_ValueError
    case x_BadBegin => exact x_BadBegin
    case x_BadBound => exact x_BadBound
    case x_BadCell => exact x_BadCell
    case x_BadCount => exact x_BadCount
    case x_BadReader => exact x_BadReader
    case x_BadRing => exact x_BadRing
    case x_BadText => exact x_BadText
    case x_NoCell => exact x_NoCell
    case x_NoLine => exact x_NoLine
    case x_NoReader => exact x_NoReader
    case x_NoRule => exact x_NoRule
    case x_NothingToUndo => exact x_NothingToUndo
    case x_TooGreat => exact x_TooGreat
    case x_TooMany => exact x_TooMany
    case base => (refine' DL.baseE_mk (mc := .type "type") KX G ?a ?rd ?ga ?vV; (case a => k_is); (case rd => k_is); (case ga => k_is); (case vV => k_is))
    case f__law_state => (refine' DL.fnA_mk KX G ?a ?l ?c ?k (fun _ _ _ _ _ _ us hl => match us, hl with | [_], _ => rfl); (case a => k_is); (case l => k_is); (case c => k_is); (case k => k_is))
    case f__law_draw => (refine' DL.fnA_mk KX G ?a ?l ?c ?k (fun _ _ _ _ _ _ us hl => match us, hl with | [_, _], _ => rfl); (case a => k_is); (case l => k_is); (case c => k_is); (case k => k_is))
    case f__law_cell => (refine' DL.fnA_mk KX G ?a ?l ?c ?k (fun _ _ _ _ _ _ us hl => match us, hl with | [_, _], _ => rfl); (case a => k_is); (case l => k_is); (case c => k_is); (case k => k_is))
    case f__law_numbered => (refine' DL.fnA_mk KX G ?a ?l ?c ?k (fun _ _ _ _ _ _ us hl => match us, hl with | [_], _ => rfl); (case a => k_is); (case l => k_is); (case c => k_is); (case k => k_is))
    case f__law_others => (refine' DL.fnA_mk KX G ?a ?l ?c ?k (fun _ _ _ _ _ _ us hl => match us, hl with | [_], _ => rfl); (case a => k_is); (case l => k_is); (case c => k_is); (case k => k_is))
    case f__law_kinds => (refine' DL.fnA_mk KX G ?a ?l ?c ?k (fun _ _ _ _ _ _ us hl => match us, hl with | [_], _ => rfl); (case a => k_is); (case l => k_is); (case c => k_is); (case k => k_is))
    case f_law => (refine' DL.fnA_mk KX G ?a ?l ?c ?k (fun _ _ _ _ _ _ us hl => match us, hl with | [_], _ => rfl); (case a => k_is); (case l => k_is); (case c => k_is); (case k => k_is))
    case b_int => (refine' PySem.W.mg_none_of KX G ?z; (case z => k_is))
    case b_len => (refine' PySem.W.mg_none_of KX G ?z; (case z => k_is))
    case at_number => exact ⟨List.forall_mem_nil _, List.forall_mem_cons.2 ⟨x_BadBegin.at, List.forall_mem_cons.2 ⟨x_BadReader.at, List.forall_mem_cons.2 ⟨x_BadRing.at, List.forall_mem_cons.2 ⟨x_NoReader.at, List.forall_mem_nil _⟩⟩⟩⟩⟩
    case b_range => (refine' PySem.W.mg_none_of KX G ?z; (case z => k_is))
    case at_rule => exact ⟨List.forall_mem_nil _, List.forall_mem_cons.2 ⟨x_NoRule.at, List.forall_mem_nil _⟩⟩
    case at_bound => exact ⟨List.forall_mem_nil _, List.forall_mem_cons.2 ⟨x_BadBound.at, List.forall_mem_nil _⟩⟩
    case at_place => exact ⟨List.forall_mem_nil _, List.forall_mem_cons.2 ⟨x_NoCell.at, List.forall_mem_nil _⟩⟩
    case at_cell => exact ⟨List.forall_mem_nil _, List.forall_mem_cons.2 ⟨x_BadCell.at, List.forall_mem_nil _⟩⟩
    case at_line => exact ⟨List.forall_mem_nil _, List.forall_mem_cons.2 ⟨x_BadText.at, List.forall_mem_nil _⟩⟩
    case at_name => exact ⟨List.forall_mem_nil _, List.forall_mem_cons.2 ⟨x_NoLine.at, List.forall_mem_nil _⟩⟩
    case at_count => exact ⟨List.forall_mem_nil _, List.forall_mem_cons.2 ⟨x_BadCount.at, List.forall_mem_cons.2 ⟨x_TooMany.at, List.forall_mem_nil _⟩⟩⟩
    case isa_NoReader =>
      refine' DL.isaC_mk KX G ?a ?e
      (case a => k_is)
      case e =>
        refine' List.forall_mem_cons.2 ⟨?e0, ?_⟩; (case e0 => (refine' DL.excI_mk x_BadBegin KX G ?a ?k; (case a => k_is); (case k => (refine' DL.kit_ref ?i ?t ?s ?d; (case i => k_is); (case t => k_is); (case s => first | rfl | k_is); (case d => decide)))))
        refine' List.forall_mem_cons.2 ⟨?e1, ?_⟩; (case e1 => (refine' DL.excI_mk x_BadBound KX G ?a ?k; (case a => k_is); (case k => (refine' DL.kit_ref ?i ?t ?s ?d; (case i => k_is); (case t => k_is); (case s => first | rfl | k_is); (case d => decide)))))
        refine' List.forall_mem_cons.2 ⟨?e2, ?_⟩; (case e2 => (refine' DL.excI_mk x_BadCell KX G ?a ?k; (case a => k_is); (case k => (refine' DL.kit_ref ?i ?t ?s ?d; (case i => k_is); (case t => k_is); (case s => first | rfl | k_is); (case d => decide)))))
        refine' List.forall_mem_cons.2 ⟨?e3, ?_⟩; (case e3 => (refine' DL.excI_mk x_BadCount KX G ?a ?k; (case a => k_is); (case k => (refine' DL.kit_ref ?i ?t ?s ?d; (case i => k_is); (case t => k_is); (case s => first | rfl | k_is); (case d => decide)))))
        refine' List.forall_mem_cons.2 ⟨?e4, ?_⟩; (case e4 => (refine' DL.excI_mk x_BadReader KX G ?a ?k; (case a => k_is); (case k => (refine' DL.kit_ref ?i ?t ?s ?d; (case i => k_is); (case t => k_is); (case s => first | rfl | k_is); (case d => decide)))))
        refine' List.forall_mem_cons.2 ⟨?e5, ?_⟩; (case e5 => (refine' DL.excI_mk x_BadRing KX G ?a ?k; (case a => k_is); (case k => (refine' DL.kit_ref ?i ?t ?s ?d; (case i => k_is); (case t => k_is); (case s => first | rfl | k_is); (case d => decide)))))
        refine' List.forall_mem_cons.2 ⟨?e6, ?_⟩; (case e6 => (refine' DL.excI_mk x_BadText KX G ?a ?k; (case a => k_is); (case k => (refine' DL.kit_ref ?i ?t ?s ?d; (case i => k_is); (case t => k_is); (case s => first | rfl | k_is); (case d => decide)))))
        refine' List.forall_mem_cons.2 ⟨?e7, ?_⟩; (case e7 => (refine' DL.excI_mk x_NoCell KX G ?a ?k; (case a => k_is); (case k => (refine' DL.kit_ref ?i ?t ?s ?d; (case i => k_is); (case t => k_is); (case s => first | rfl | k_is); (case d => decide)))))
        refine' List.forall_mem_cons.2 ⟨?e8, ?_⟩; (case e8 => (refine' DL.excI_mk x_NoLine KX G ?a ?k; (case a => k_is); (case k => (refine' DL.kit_ref ?i ?t ?s ?d; (case i => k_is); (case t => k_is); (case s => first | rfl | k_is); (case d => decide)))))
        refine' List.forall_mem_cons.2 ⟨?e9, ?_⟩; (case e9 => (refine' DL.excI_mk x_NoReader KX G ?a ?k; (case a => k_is); (case k => (refine' DL.kit_ref ?i ?t ?s ?d; (case i => k_is); (case t => k_is); (case s => first | rfl | k_is); (case d => decide)))))
        refine' List.forall_mem_cons.2 ⟨?e10, ?_⟩; (case e10 => (refine' DL.excI_mk x_NoRule KX G ?a ?k; (case a => k_is); (case k => (refine' DL.kit_ref ?i ?t ?s ?d; (case i => k_is); (case t => k_is); (case s => first | rfl | k_is); (case d => decide)))))
        refine' List.forall_mem_cons.2 ⟨?e11, ?_⟩; (case e11 => (refine' DL.excI_mk x_NothingToUndo KX G ?a ?k; (case a => k_is); (case k => (refine' DL.kit_ref ?i ?t ?s ?d; (case i => k_is); (case t => k_is); (case s => first | rfl | k_is); (case d => decide)))))
        refine' List.forall_mem_cons.2 ⟨?e12, ?_⟩; (case e12 => (refine' DL.excI_mk x_TooGreat KX G ?a ?k; (case a => k_is); (case k => (refine' DL.kit_ref ?i ?t ?s ?d; (case i => k_is); (case t => k_is); (case s => first | rfl | k_is); (case d => decide)))))
        refine' List.forall_mem_cons.2 ⟨?e13, ?_⟩; (case e13 => (refine' DL.excI_mk x_TooMany KX G ?a ?k; (case a => k_is); (case k => (refine' DL.kit_ref ?i ?t ?s ?d; (case i => k_is); (case t => k_is); (case s => first | rfl | k_is); (case d => decide)))))
        exact List.forall_mem_nil _
    case b_isinstance => (refine' PySem.W.mg_none_of KX G ?z; (case z => k_is))
    case isa_BadBegin =>
      refine' DL.isaC_mk KX G ?a ?e
      (case a => k_is)
      case e =>
        refine' List.forall_mem_cons.2 ⟨?e0, ?_⟩; (case e0 => (refine' DL.excI_mk x_BadBegin KX G ?a ?k; (case a => k_is); (case k => (refine' DL.kit_ref ?i ?t ?s ?d; (case i => k_is); (case t => k_is); (case s => first | rfl | k_is); (case d => decide)))))
        refine' List.forall_mem_cons.2 ⟨?e1, ?_⟩; (case e1 => (refine' DL.excI_mk x_BadBound KX G ?a ?k; (case a => k_is); (case k => (refine' DL.kit_ref ?i ?t ?s ?d; (case i => k_is); (case t => k_is); (case s => first | rfl | k_is); (case d => decide)))))
        refine' List.forall_mem_cons.2 ⟨?e2, ?_⟩; (case e2 => (refine' DL.excI_mk x_BadCell KX G ?a ?k; (case a => k_is); (case k => (refine' DL.kit_ref ?i ?t ?s ?d; (case i => k_is); (case t => k_is); (case s => first | rfl | k_is); (case d => decide)))))
        refine' List.forall_mem_cons.2 ⟨?e3, ?_⟩; (case e3 => (refine' DL.excI_mk x_BadCount KX G ?a ?k; (case a => k_is); (case k => (refine' DL.kit_ref ?i ?t ?s ?d; (case i => k_is); (case t => k_is); (case s => first | rfl | k_is); (case d => decide)))))
        refine' List.forall_mem_cons.2 ⟨?e4, ?_⟩; (case e4 => (refine' DL.excI_mk x_BadReader KX G ?a ?k; (case a => k_is); (case k => (refine' DL.kit_ref ?i ?t ?s ?d; (case i => k_is); (case t => k_is); (case s => first | rfl | k_is); (case d => decide)))))
        refine' List.forall_mem_cons.2 ⟨?e5, ?_⟩; (case e5 => (refine' DL.excI_mk x_BadRing KX G ?a ?k; (case a => k_is); (case k => (refine' DL.kit_ref ?i ?t ?s ?d; (case i => k_is); (case t => k_is); (case s => first | rfl | k_is); (case d => decide)))))
        refine' List.forall_mem_cons.2 ⟨?e6, ?_⟩; (case e6 => (refine' DL.excI_mk x_BadText KX G ?a ?k; (case a => k_is); (case k => (refine' DL.kit_ref ?i ?t ?s ?d; (case i => k_is); (case t => k_is); (case s => first | rfl | k_is); (case d => decide)))))
        refine' List.forall_mem_cons.2 ⟨?e7, ?_⟩; (case e7 => (refine' DL.excI_mk x_NoCell KX G ?a ?k; (case a => k_is); (case k => (refine' DL.kit_ref ?i ?t ?s ?d; (case i => k_is); (case t => k_is); (case s => first | rfl | k_is); (case d => decide)))))
        refine' List.forall_mem_cons.2 ⟨?e8, ?_⟩; (case e8 => (refine' DL.excI_mk x_NoLine KX G ?a ?k; (case a => k_is); (case k => (refine' DL.kit_ref ?i ?t ?s ?d; (case i => k_is); (case t => k_is); (case s => first | rfl | k_is); (case d => decide)))))
        refine' List.forall_mem_cons.2 ⟨?e9, ?_⟩; (case e9 => (refine' DL.excI_mk x_NoReader KX G ?a ?k; (case a => k_is); (case k => (refine' DL.kit_ref ?i ?t ?s ?d; (case i => k_is); (case t => k_is); (case s => first | rfl | k_is); (case d => decide)))))
        refine' List.forall_mem_cons.2 ⟨?e10, ?_⟩; (case e10 => (refine' DL.excI_mk x_NoRule KX G ?a ?k; (case a => k_is); (case k => (refine' DL.kit_ref ?i ?t ?s ?d; (case i => k_is); (case t => k_is); (case s => first | rfl | k_is); (case d => decide)))))
        refine' List.forall_mem_cons.2 ⟨?e11, ?_⟩; (case e11 => (refine' DL.excI_mk x_NothingToUndo KX G ?a ?k; (case a => k_is); (case k => (refine' DL.kit_ref ?i ?t ?s ?d; (case i => k_is); (case t => k_is); (case s => first | rfl | k_is); (case d => decide)))))
        refine' List.forall_mem_cons.2 ⟨?e12, ?_⟩; (case e12 => (refine' DL.excI_mk x_TooGreat KX G ?a ?k; (case a => k_is); (case k => (refine' DL.kit_ref ?i ?t ?s ?d; (case i => k_is); (case t => k_is); (case s => first | rfl | k_is); (case d => decide)))))
        refine' List.forall_mem_cons.2 ⟨?e13, ?_⟩; (case e13 => (refine' DL.excI_mk x_TooMany KX G ?a ?k; (case a => k_is); (case k => (refine' DL.kit_ref ?i ?t ?s ?d; (case i => k_is); (case t => k_is); (case s => first | rfl | k_is); (case d => decide)))))
        exact List.forall_mem_nil _
    case isa_BadRing =>
      refine' DL.isaC_mk KX G ?a ?e
      (case a => k_is)
      case e =>
        refine' List.forall_mem_cons.2 ⟨?e0, ?_⟩; (case e0 => (refine' DL.excI_mk x_BadBegin KX G ?a ?k; (case a => k_is); (case k => (refine' DL.kit_ref ?i ?t ?s ?d; (case i => k_is); (case t => k_is); (case s => first | rfl | k_is); (case d => decide)))))
        refine' List.forall_mem_cons.2 ⟨?e1, ?_⟩; (case e1 => (refine' DL.excI_mk x_BadBound KX G ?a ?k; (case a => k_is); (case k => (refine' DL.kit_ref ?i ?t ?s ?d; (case i => k_is); (case t => k_is); (case s => first | rfl | k_is); (case d => decide)))))
        refine' List.forall_mem_cons.2 ⟨?e2, ?_⟩; (case e2 => (refine' DL.excI_mk x_BadCell KX G ?a ?k; (case a => k_is); (case k => (refine' DL.kit_ref ?i ?t ?s ?d; (case i => k_is); (case t => k_is); (case s => first | rfl | k_is); (case d => decide)))))
        refine' List.forall_mem_cons.2 ⟨?e3, ?_⟩; (case e3 => (refine' DL.excI_mk x_BadCount KX G ?a ?k; (case a => k_is); (case k => (refine' DL.kit_ref ?i ?t ?s ?d; (case i => k_is); (case t => k_is); (case s => first | rfl | k_is); (case d => decide)))))
        refine' List.forall_mem_cons.2 ⟨?e4, ?_⟩; (case e4 => (refine' DL.excI_mk x_BadReader KX G ?a ?k; (case a => k_is); (case k => (refine' DL.kit_ref ?i ?t ?s ?d; (case i => k_is); (case t => k_is); (case s => first | rfl | k_is); (case d => decide)))))
        refine' List.forall_mem_cons.2 ⟨?e5, ?_⟩; (case e5 => (refine' DL.excI_mk x_BadRing KX G ?a ?k; (case a => k_is); (case k => (refine' DL.kit_ref ?i ?t ?s ?d; (case i => k_is); (case t => k_is); (case s => first | rfl | k_is); (case d => decide)))))
        refine' List.forall_mem_cons.2 ⟨?e6, ?_⟩; (case e6 => (refine' DL.excI_mk x_BadText KX G ?a ?k; (case a => k_is); (case k => (refine' DL.kit_ref ?i ?t ?s ?d; (case i => k_is); (case t => k_is); (case s => first | rfl | k_is); (case d => decide)))))
        refine' List.forall_mem_cons.2 ⟨?e7, ?_⟩; (case e7 => (refine' DL.excI_mk x_NoCell KX G ?a ?k; (case a => k_is); (case k => (refine' DL.kit_ref ?i ?t ?s ?d; (case i => k_is); (case t => k_is); (case s => first | rfl | k_is); (case d => decide)))))
        refine' List.forall_mem_cons.2 ⟨?e8, ?_⟩; (case e8 => (refine' DL.excI_mk x_NoLine KX G ?a ?k; (case a => k_is); (case k => (refine' DL.kit_ref ?i ?t ?s ?d; (case i => k_is); (case t => k_is); (case s => first | rfl | k_is); (case d => decide)))))
        refine' List.forall_mem_cons.2 ⟨?e9, ?_⟩; (case e9 => (refine' DL.excI_mk x_NoReader KX G ?a ?k; (case a => k_is); (case k => (refine' DL.kit_ref ?i ?t ?s ?d; (case i => k_is); (case t => k_is); (case s => first | rfl | k_is); (case d => decide)))))
        refine' List.forall_mem_cons.2 ⟨?e10, ?_⟩; (case e10 => (refine' DL.excI_mk x_NoRule KX G ?a ?k; (case a => k_is); (case k => (refine' DL.kit_ref ?i ?t ?s ?d; (case i => k_is); (case t => k_is); (case s => first | rfl | k_is); (case d => decide)))))
        refine' List.forall_mem_cons.2 ⟨?e11, ?_⟩; (case e11 => (refine' DL.excI_mk x_NothingToUndo KX G ?a ?k; (case a => k_is); (case k => (refine' DL.kit_ref ?i ?t ?s ?d; (case i => k_is); (case t => k_is); (case s => first | rfl | k_is); (case d => decide)))))
        refine' List.forall_mem_cons.2 ⟨?e12, ?_⟩; (case e12 => (refine' DL.excI_mk x_TooGreat KX G ?a ?k; (case a => k_is); (case k => (refine' DL.kit_ref ?i ?t ?s ?d; (case i => k_is); (case t => k_is); (case s => first | rfl | k_is); (case d => decide)))))
        refine' List.forall_mem_cons.2 ⟨?e13, ?_⟩; (case e13 => (refine' DL.excI_mk x_TooMany KX G ?a ?k; (case a => k_is); (case k => (refine' DL.kit_ref ?i ?t ?s ?d; (case i => k_is); (case t => k_is); (case s => first | rfl | k_is); (case d => decide)))))
        exact List.forall_mem_nil _
    case isa_BadReader =>
      refine' DL.isaC_mk KX G ?a ?e
      (case a => k_is)
      case e =>
        refine' List.forall_mem_cons.2 ⟨?e0, ?_⟩; (case e0 => (refine' DL.excI_mk x_BadBegin KX G ?a ?k; (case a => k_is); (case k => (refine' DL.kit_ref ?i ?t ?s ?d; (case i => k_is); (case t => k_is); (case s => first | rfl | k_is); (case d => decide)))))
        refine' List.forall_mem_cons.2 ⟨?e1, ?_⟩; (case e1 => (refine' DL.excI_mk x_BadBound KX G ?a ?k; (case a => k_is); (case k => (refine' DL.kit_ref ?i ?t ?s ?d; (case i => k_is); (case t => k_is); (case s => first | rfl | k_is); (case d => decide)))))
        refine' List.forall_mem_cons.2 ⟨?e2, ?_⟩; (case e2 => (refine' DL.excI_mk x_BadCell KX G ?a ?k; (case a => k_is); (case k => (refine' DL.kit_ref ?i ?t ?s ?d; (case i => k_is); (case t => k_is); (case s => first | rfl | k_is); (case d => decide)))))
        refine' List.forall_mem_cons.2 ⟨?e3, ?_⟩; (case e3 => (refine' DL.excI_mk x_BadCount KX G ?a ?k; (case a => k_is); (case k => (refine' DL.kit_ref ?i ?t ?s ?d; (case i => k_is); (case t => k_is); (case s => first | rfl | k_is); (case d => decide)))))
        refine' List.forall_mem_cons.2 ⟨?e4, ?_⟩; (case e4 => (refine' DL.excI_mk x_BadReader KX G ?a ?k; (case a => k_is); (case k => (refine' DL.kit_ref ?i ?t ?s ?d; (case i => k_is); (case t => k_is); (case s => first | rfl | k_is); (case d => decide)))))
        refine' List.forall_mem_cons.2 ⟨?e5, ?_⟩; (case e5 => (refine' DL.excI_mk x_BadRing KX G ?a ?k; (case a => k_is); (case k => (refine' DL.kit_ref ?i ?t ?s ?d; (case i => k_is); (case t => k_is); (case s => first | rfl | k_is); (case d => decide)))))
        refine' List.forall_mem_cons.2 ⟨?e6, ?_⟩; (case e6 => (refine' DL.excI_mk x_BadText KX G ?a ?k; (case a => k_is); (case k => (refine' DL.kit_ref ?i ?t ?s ?d; (case i => k_is); (case t => k_is); (case s => first | rfl | k_is); (case d => decide)))))
        refine' List.forall_mem_cons.2 ⟨?e7, ?_⟩; (case e7 => (refine' DL.excI_mk x_NoCell KX G ?a ?k; (case a => k_is); (case k => (refine' DL.kit_ref ?i ?t ?s ?d; (case i => k_is); (case t => k_is); (case s => first | rfl | k_is); (case d => decide)))))
        refine' List.forall_mem_cons.2 ⟨?e8, ?_⟩; (case e8 => (refine' DL.excI_mk x_NoLine KX G ?a ?k; (case a => k_is); (case k => (refine' DL.kit_ref ?i ?t ?s ?d; (case i => k_is); (case t => k_is); (case s => first | rfl | k_is); (case d => decide)))))
        refine' List.forall_mem_cons.2 ⟨?e9, ?_⟩; (case e9 => (refine' DL.excI_mk x_NoReader KX G ?a ?k; (case a => k_is); (case k => (refine' DL.kit_ref ?i ?t ?s ?d; (case i => k_is); (case t => k_is); (case s => first | rfl | k_is); (case d => decide)))))
        refine' List.forall_mem_cons.2 ⟨?e10, ?_⟩; (case e10 => (refine' DL.excI_mk x_NoRule KX G ?a ?k; (case a => k_is); (case k => (refine' DL.kit_ref ?i ?t ?s ?d; (case i => k_is); (case t => k_is); (case s => first | rfl | k_is); (case d => decide)))))
        refine' List.forall_mem_cons.2 ⟨?e11, ?_⟩; (case e11 => (refine' DL.excI_mk x_NothingToUndo KX G ?a ?k; (case a => k_is); (case k => (refine' DL.kit_ref ?i ?t ?s ?d; (case i => k_is); (case t => k_is); (case s => first | rfl | k_is); (case d => decide)))))
        refine' List.forall_mem_cons.2 ⟨?e12, ?_⟩; (case e12 => (refine' DL.excI_mk x_TooGreat KX G ?a ?k; (case a => k_is); (case k => (refine' DL.kit_ref ?i ?t ?s ?d; (case i => k_is); (case t => k_is); (case s => first | rfl | k_is); (case d => decide)))))
        refine' List.forall_mem_cons.2 ⟨?e13, ?_⟩; (case e13 => (refine' DL.excI_mk x_TooMany KX G ?a ?k; (case a => k_is); (case k => (refine' DL.kit_ref ?i ?t ?s ?d; (case i => k_is); (case t => k_is); (case s => first | rfl | k_is); (case d => decide)))))
        exact List.forall_mem_nil _
    case isa_BadText =>
      refine' DL.isaC_mk KX G ?a ?e
      (case a => k_is)
      case e =>
        refine' List.forall_mem_cons.2 ⟨?e0, ?_⟩; (case e0 => (refine' DL.excI_mk x_BadBegin KX G ?a ?k; (case a => k_is); (case k => (refine' DL.kit_ref ?i ?t ?s ?d; (case i => k_is); (case t => k_is); (case s => first | rfl | k_is); (case d => decide)))))
        refine' List.forall_mem_cons.2 ⟨?e1, ?_⟩; (case e1 => (refine' DL.excI_mk x_BadBound KX G ?a ?k; (case a => k_is); (case k => (refine' DL.kit_ref ?i ?t ?s ?d; (case i => k_is); (case t => k_is); (case s => first | rfl | k_is); (case d => decide)))))
        refine' List.forall_mem_cons.2 ⟨?e2, ?_⟩; (case e2 => (refine' DL.excI_mk x_BadCell KX G ?a ?k; (case a => k_is); (case k => (refine' DL.kit_ref ?i ?t ?s ?d; (case i => k_is); (case t => k_is); (case s => first | rfl | k_is); (case d => decide)))))
        refine' List.forall_mem_cons.2 ⟨?e3, ?_⟩; (case e3 => (refine' DL.excI_mk x_BadCount KX G ?a ?k; (case a => k_is); (case k => (refine' DL.kit_ref ?i ?t ?s ?d; (case i => k_is); (case t => k_is); (case s => first | rfl | k_is); (case d => decide)))))
        refine' List.forall_mem_cons.2 ⟨?e4, ?_⟩; (case e4 => (refine' DL.excI_mk x_BadReader KX G ?a ?k; (case a => k_is); (case k => (refine' DL.kit_ref ?i ?t ?s ?d; (case i => k_is); (case t => k_is); (case s => first | rfl | k_is); (case d => decide)))))
        refine' List.forall_mem_cons.2 ⟨?e5, ?_⟩; (case e5 => (refine' DL.excI_mk x_BadRing KX G ?a ?k; (case a => k_is); (case k => (refine' DL.kit_ref ?i ?t ?s ?d; (case i => k_is); (case t => k_is); (case s => first | rfl | k_is); (case d => decide)))))
        refine' List.forall_mem_cons.2 ⟨?e6, ?_⟩; (case e6 => (refine' DL.excI_mk x_BadText KX G ?a ?k; (case a => k_is); (case k => (refine' DL.kit_ref ?i ?t ?s ?d; (case i => k_is); (case t => k_is); (case s => first | rfl | k_is); (case d => decide)))))
        refine' List.forall_mem_cons.2 ⟨?e7, ?_⟩; (case e7 => (refine' DL.excI_mk x_NoCell KX G ?a ?k; (case a => k_is); (case k => (refine' DL.kit_ref ?i ?t ?s ?d; (case i => k_is); (case t => k_is); (case s => first | rfl | k_is); (case d => decide)))))
        refine' List.forall_mem_cons.2 ⟨?e8, ?_⟩; (case e8 => (refine' DL.excI_mk x_NoLine KX G ?a ?k; (case a => k_is); (case k => (refine' DL.kit_ref ?i ?t ?s ?d; (case i => k_is); (case t => k_is); (case s => first | rfl | k_is); (case d => decide)))))
        refine' List.forall_mem_cons.2 ⟨?e9, ?_⟩; (case e9 => (refine' DL.excI_mk x_NoReader KX G ?a ?k; (case a => k_is); (case k => (refine' DL.kit_ref ?i ?t ?s ?d; (case i => k_is); (case t => k_is); (case s => first | rfl | k_is); (case d => decide)))))
        refine' List.forall_mem_cons.2 ⟨?e10, ?_⟩; (case e10 => (refine' DL.excI_mk x_NoRule KX G ?a ?k; (case a => k_is); (case k => (refine' DL.kit_ref ?i ?t ?s ?d; (case i => k_is); (case t => k_is); (case s => first | rfl | k_is); (case d => decide)))))
        refine' List.forall_mem_cons.2 ⟨?e11, ?_⟩; (case e11 => (refine' DL.excI_mk x_NothingToUndo KX G ?a ?k; (case a => k_is); (case k => (refine' DL.kit_ref ?i ?t ?s ?d; (case i => k_is); (case t => k_is); (case s => first | rfl | k_is); (case d => decide)))))
        refine' List.forall_mem_cons.2 ⟨?e12, ?_⟩; (case e12 => (refine' DL.excI_mk x_TooGreat KX G ?a ?k; (case a => k_is); (case k => (refine' DL.kit_ref ?i ?t ?s ?d; (case i => k_is); (case t => k_is); (case s => first | rfl | k_is); (case d => decide)))))
        refine' List.forall_mem_cons.2 ⟨?e13, ?_⟩; (case e13 => (refine' DL.excI_mk x_TooMany KX G ?a ?k; (case a => k_is); (case k => (refine' DL.kit_ref ?i ?t ?s ?d; (case i => k_is); (case t => k_is); (case s => first | rfl | k_is); (case d => decide)))))
        exact List.forall_mem_nil _
    case isa_NoLine =>
      refine' DL.isaC_mk KX G ?a ?e
      (case a => k_is)
      case e =>
        refine' List.forall_mem_cons.2 ⟨?e0, ?_⟩; (case e0 => (refine' DL.excI_mk x_BadBegin KX G ?a ?k; (case a => k_is); (case k => (refine' DL.kit_ref ?i ?t ?s ?d; (case i => k_is); (case t => k_is); (case s => first | rfl | k_is); (case d => decide)))))
        refine' List.forall_mem_cons.2 ⟨?e1, ?_⟩; (case e1 => (refine' DL.excI_mk x_BadBound KX G ?a ?k; (case a => k_is); (case k => (refine' DL.kit_ref ?i ?t ?s ?d; (case i => k_is); (case t => k_is); (case s => first | rfl | k_is); (case d => decide)))))
        refine' List.forall_mem_cons.2 ⟨?e2, ?_⟩; (case e2 => (refine' DL.excI_mk x_BadCell KX G ?a ?k; (case a => k_is); (case k => (refine' DL.kit_ref ?i ?t ?s ?d; (case i => k_is); (case t => k_is); (case s => first | rfl | k_is); (case d => decide)))))
        refine' List.forall_mem_cons.2 ⟨?e3, ?_⟩; (case e3 => (refine' DL.excI_mk x_BadCount KX G ?a ?k; (case a => k_is); (case k => (refine' DL.kit_ref ?i ?t ?s ?d; (case i => k_is); (case t => k_is); (case s => first | rfl | k_is); (case d => decide)))))
        refine' List.forall_mem_cons.2 ⟨?e4, ?_⟩; (case e4 => (refine' DL.excI_mk x_BadReader KX G ?a ?k; (case a => k_is); (case k => (refine' DL.kit_ref ?i ?t ?s ?d; (case i => k_is); (case t => k_is); (case s => first | rfl | k_is); (case d => decide)))))
        refine' List.forall_mem_cons.2 ⟨?e5, ?_⟩; (case e5 => (refine' DL.excI_mk x_BadRing KX G ?a ?k; (case a => k_is); (case k => (refine' DL.kit_ref ?i ?t ?s ?d; (case i => k_is); (case t => k_is); (case s => first | rfl | k_is); (case d => decide)))))
        refine' List.forall_mem_cons.2 ⟨?e6, ?_⟩; (case e6 => (refine' DL.excI_mk x_BadText KX G ?a ?k; (case a => k_is); (case k => (refine' DL.kit_ref ?i ?t ?s ?d; (case i => k_is); (case t => k_is); (case s => first | rfl | k_is); (case d => decide)))))
        refine' List.forall_mem_cons.2 ⟨?e7, ?_⟩; (case e7 => (refine' DL.excI_mk x_NoCell KX G ?a ?k; (case a => k_is); (case k => (refine' DL.kit_ref ?i ?t ?s ?d; (case i => k_is); (case t => k_is); (case s => first | rfl | k_is); (case d => decide)))))
        refine' List.forall_mem_cons.2 ⟨?e8, ?_⟩; (case e8 => (refine' DL.excI_mk x_NoLine KX G ?a ?k; (case a => k_is); (case k => (refine' DL.kit_ref ?i ?t ?s ?d; (case i => k_is); (case t => k_is); (case s => first | rfl | k_is); (case d => decide)))))
        refine' List.forall_mem_cons.2 ⟨?e9, ?_⟩; (case e9 => (refine' DL.excI_mk x_NoReader KX G ?a ?k; (case a => k_is); (case k => (refine' DL.kit_ref ?i ?t ?s ?d; (case i => k_is); (case t => k_is); (case s => first | rfl | k_is); (case d => decide)))))
        refine' List.forall_mem_cons.2 ⟨?e10, ?_⟩; (case e10 => (refine' DL.excI_mk x_NoRule KX G ?a ?k; (case a => k_is); (case k => (refine' DL.kit_ref ?i ?t ?s ?d; (case i => k_is); (case t => k_is); (case s => first | rfl | k_is); (case d => decide)))))
        refine' List.forall_mem_cons.2 ⟨?e11, ?_⟩; (case e11 => (refine' DL.excI_mk x_NothingToUndo KX G ?a ?k; (case a => k_is); (case k => (refine' DL.kit_ref ?i ?t ?s ?d; (case i => k_is); (case t => k_is); (case s => first | rfl | k_is); (case d => decide)))))
        refine' List.forall_mem_cons.2 ⟨?e12, ?_⟩; (case e12 => (refine' DL.excI_mk x_TooGreat KX G ?a ?k; (case a => k_is); (case k => (refine' DL.kit_ref ?i ?t ?s ?d; (case i => k_is); (case t => k_is); (case s => first | rfl | k_is); (case d => decide)))))
        refine' List.forall_mem_cons.2 ⟨?e13, ?_⟩; (case e13 => (refine' DL.excI_mk x_TooMany KX G ?a ?k; (case a => k_is); (case k => (refine' DL.kit_ref ?i ?t ?s ?d; (case i => k_is); (case t => k_is); (case s => first | rfl | k_is); (case d => decide)))))
        exact List.forall_mem_nil _
    case isa_BadCount =>
      refine' DL.isaC_mk KX G ?a ?e
      (case a => k_is)
      case e =>
        refine' List.forall_mem_cons.2 ⟨?e0, ?_⟩; (case e0 => (refine' DL.excI_mk x_BadBegin KX G ?a ?k; (case a => k_is); (case k => (refine' DL.kit_ref ?i ?t ?s ?d; (case i => k_is); (case t => k_is); (case s => first | rfl | k_is); (case d => decide)))))
        refine' List.forall_mem_cons.2 ⟨?e1, ?_⟩; (case e1 => (refine' DL.excI_mk x_BadBound KX G ?a ?k; (case a => k_is); (case k => (refine' DL.kit_ref ?i ?t ?s ?d; (case i => k_is); (case t => k_is); (case s => first | rfl | k_is); (case d => decide)))))
        refine' List.forall_mem_cons.2 ⟨?e2, ?_⟩; (case e2 => (refine' DL.excI_mk x_BadCell KX G ?a ?k; (case a => k_is); (case k => (refine' DL.kit_ref ?i ?t ?s ?d; (case i => k_is); (case t => k_is); (case s => first | rfl | k_is); (case d => decide)))))
        refine' List.forall_mem_cons.2 ⟨?e3, ?_⟩; (case e3 => (refine' DL.excI_mk x_BadCount KX G ?a ?k; (case a => k_is); (case k => (refine' DL.kit_ref ?i ?t ?s ?d; (case i => k_is); (case t => k_is); (case s => first | rfl | k_is); (case d => decide)))))
        refine' List.forall_mem_cons.2 ⟨?e4, ?_⟩; (case e4 => (refine' DL.excI_mk x_BadReader KX G ?a ?k; (case a => k_is); (case k => (refine' DL.kit_ref ?i ?t ?s ?d; (case i => k_is); (case t => k_is); (case s => first | rfl | k_is); (case d => decide)))))
        refine' List.forall_mem_cons.2 ⟨?e5, ?_⟩; (case e5 => (refine' DL.excI_mk x_BadRing KX G ?a ?k; (case a => k_is); (case k => (refine' DL.kit_ref ?i ?t ?s ?d; (case i => k_is); (case t => k_is); (case s => first | rfl | k_is); (case d => decide)))))
        refine' List.forall_mem_cons.2 ⟨?e6, ?_⟩; (case e6 => (refine' DL.excI_mk x_BadText KX G ?a ?k; (case a => k_is); (case k => (refine' DL.kit_ref ?i ?t ?s ?d; (case i => k_is); (case t => k_is); (case s => first | rfl | k_is); (case d => decide)))))
        refine' List.forall_mem_cons.2 ⟨?e7, ?_⟩; (case e7 => (refine' DL.excI_mk x_NoCell KX G ?a ?k; (case a => k_is); (case k => (refine' DL.kit_ref ?i ?t ?s ?d; (case i => k_is); (case t => k_is); (case s => first | rfl | k_is); (case d => decide)))))
        refine' List.forall_mem_cons.2 ⟨?e8, ?_⟩; (case e8 => (refine' DL.excI_mk x_NoLine KX G ?a ?k; (case a => k_is); (case k => (refine' DL.kit_ref ?i ?t ?s ?d; (case i => k_is); (case t => k_is); (case s => first | rfl | k_is); (case d => decide)))))
        refine' List.forall_mem_cons.2 ⟨?e9, ?_⟩; (case e9 => (refine' DL.excI_mk x_NoReader KX G ?a ?k; (case a => k_is); (case k => (refine' DL.kit_ref ?i ?t ?s ?d; (case i => k_is); (case t => k_is); (case s => first | rfl | k_is); (case d => decide)))))
        refine' List.forall_mem_cons.2 ⟨?e10, ?_⟩; (case e10 => (refine' DL.excI_mk x_NoRule KX G ?a ?k; (case a => k_is); (case k => (refine' DL.kit_ref ?i ?t ?s ?d; (case i => k_is); (case t => k_is); (case s => first | rfl | k_is); (case d => decide)))))
        refine' List.forall_mem_cons.2 ⟨?e11, ?_⟩; (case e11 => (refine' DL.excI_mk x_NothingToUndo KX G ?a ?k; (case a => k_is); (case k => (refine' DL.kit_ref ?i ?t ?s ?d; (case i => k_is); (case t => k_is); (case s => first | rfl | k_is); (case d => decide)))))
        refine' List.forall_mem_cons.2 ⟨?e12, ?_⟩; (case e12 => (refine' DL.excI_mk x_TooGreat KX G ?a ?k; (case a => k_is); (case k => (refine' DL.kit_ref ?i ?t ?s ?d; (case i => k_is); (case t => k_is); (case s => first | rfl | k_is); (case d => decide)))))
        refine' List.forall_mem_cons.2 ⟨?e13, ?_⟩; (case e13 => (refine' DL.excI_mk x_TooMany KX G ?a ?k; (case a => k_is); (case k => (refine' DL.kit_ref ?i ?t ?s ?d; (case i => k_is); (case t => k_is); (case s => first | rfl | k_is); (case d => decide)))))
        exact List.forall_mem_nil _
    case isa_TooMany =>
      refine' DL.isaC_mk KX G ?a ?e
      (case a => k_is)
      case e =>
        refine' List.forall_mem_cons.2 ⟨?e0, ?_⟩; (case e0 => (refine' DL.excI_mk x_BadBegin KX G ?a ?k; (case a => k_is); (case k => (refine' DL.kit_ref ?i ?t ?s ?d; (case i => k_is); (case t => k_is); (case s => first | rfl | k_is); (case d => decide)))))
        refine' List.forall_mem_cons.2 ⟨?e1, ?_⟩; (case e1 => (refine' DL.excI_mk x_BadBound KX G ?a ?k; (case a => k_is); (case k => (refine' DL.kit_ref ?i ?t ?s ?d; (case i => k_is); (case t => k_is); (case s => first | rfl | k_is); (case d => decide)))))
        refine' List.forall_mem_cons.2 ⟨?e2, ?_⟩; (case e2 => (refine' DL.excI_mk x_BadCell KX G ?a ?k; (case a => k_is); (case k => (refine' DL.kit_ref ?i ?t ?s ?d; (case i => k_is); (case t => k_is); (case s => first | rfl | k_is); (case d => decide)))))
        refine' List.forall_mem_cons.2 ⟨?e3, ?_⟩; (case e3 => (refine' DL.excI_mk x_BadCount KX G ?a ?k; (case a => k_is); (case k => (refine' DL.kit_ref ?i ?t ?s ?d; (case i => k_is); (case t => k_is); (case s => first | rfl | k_is); (case d => decide)))))
        refine' List.forall_mem_cons.2 ⟨?e4, ?_⟩; (case e4 => (refine' DL.excI_mk x_BadReader KX G ?a ?k; (case a => k_is); (case k => (refine' DL.kit_ref ?i ?t ?s ?d; (case i => k_is); (case t => k_is); (case s => first | rfl | k_is); (case d => decide)))))
        refine' List.forall_mem_cons.2 ⟨?e5, ?_⟩; (case e5 => (refine' DL.excI_mk x_BadRing KX G ?a ?k; (case a => k_is); (case k => (refine' DL.kit_ref ?i ?t ?s ?d; (case i => k_is); (case t => k_is); (case s => first | rfl | k_is); (case d => decide)))))
        refine' List.forall_mem_cons.2 ⟨?e6, ?_⟩; (case e6 => (refine' DL.excI_mk x_BadText KX G ?a ?k; (case a => k_is); (case k => (refine' DL.kit_ref ?i ?t ?s ?d; (case i => k_is); (case t => k_is); (case s => first | rfl | k_is); (case d => decide)))))
        refine' List.forall_mem_cons.2 ⟨?e7, ?_⟩; (case e7 => (refine' DL.excI_mk x_NoCell KX G ?a ?k; (case a => k_is); (case k => (refine' DL.kit_ref ?i ?t ?s ?d; (case i => k_is); (case t => k_is); (case s => first | rfl | k_is); (case d => decide)))))
        refine' List.forall_mem_cons.2 ⟨?e8, ?_⟩; (case e8 => (refine' DL.excI_mk x_NoLine KX G ?a ?k; (case a => k_is); (case k => (refine' DL.kit_ref ?i ?t ?s ?d; (case i => k_is); (case t => k_is); (case s => first | rfl | k_is); (case d => decide)))))
        refine' List.forall_mem_cons.2 ⟨?e9, ?_⟩; (case e9 => (refine' DL.excI_mk x_NoReader KX G ?a ?k; (case a => k_is); (case k => (refine' DL.kit_ref ?i ?t ?s ?d; (case i => k_is); (case t => k_is); (case s => first | rfl | k_is); (case d => decide)))))
        refine' List.forall_mem_cons.2 ⟨?e10, ?_⟩; (case e10 => (refine' DL.excI_mk x_NoRule KX G ?a ?k; (case a => k_is); (case k => (refine' DL.kit_ref ?i ?t ?s ?d; (case i => k_is); (case t => k_is); (case s => first | rfl | k_is); (case d => decide)))))
        refine' List.forall_mem_cons.2 ⟨?e11, ?_⟩; (case e11 => (refine' DL.excI_mk x_NothingToUndo KX G ?a ?k; (case a => k_is); (case k => (refine' DL.kit_ref ?i ?t ?s ?d; (case i => k_is); (case t => k_is); (case s => first | rfl | k_is); (case d => decide)))))
        refine' List.forall_mem_cons.2 ⟨?e12, ?_⟩; (case e12 => (refine' DL.excI_mk x_TooGreat KX G ?a ?k; (case a => k_is); (case k => (refine' DL.kit_ref ?i ?t ?s ?d; (case i => k_is); (case t => k_is); (case s => first | rfl | k_is); (case d => decide)))))
        refine' List.forall_mem_cons.2 ⟨?e13, ?_⟩; (case e13 => (refine' DL.excI_mk x_TooMany KX G ?a ?k; (case a => k_is); (case k => (refine' DL.kit_ref ?i ?t ?s ?d; (case i => k_is); (case t => k_is); (case s => first | rfl | k_is); (case d => decide)))))
        exact List.forall_mem_nil _
    case isa_NoRule =>
      refine' DL.isaC_mk KX G ?a ?e
      (case a => k_is)
      case e =>
        refine' List.forall_mem_cons.2 ⟨?e0, ?_⟩; (case e0 => (refine' DL.excI_mk x_BadBegin KX G ?a ?k; (case a => k_is); (case k => (refine' DL.kit_ref ?i ?t ?s ?d; (case i => k_is); (case t => k_is); (case s => first | rfl | k_is); (case d => decide)))))
        refine' List.forall_mem_cons.2 ⟨?e1, ?_⟩; (case e1 => (refine' DL.excI_mk x_BadBound KX G ?a ?k; (case a => k_is); (case k => (refine' DL.kit_ref ?i ?t ?s ?d; (case i => k_is); (case t => k_is); (case s => first | rfl | k_is); (case d => decide)))))
        refine' List.forall_mem_cons.2 ⟨?e2, ?_⟩; (case e2 => (refine' DL.excI_mk x_BadCell KX G ?a ?k; (case a => k_is); (case k => (refine' DL.kit_ref ?i ?t ?s ?d; (case i => k_is); (case t => k_is); (case s => first | rfl | k_is); (case d => decide)))))
        refine' List.forall_mem_cons.2 ⟨?e3, ?_⟩; (case e3 => (refine' DL.excI_mk x_BadCount KX G ?a ?k; (case a => k_is); (case k => (refine' DL.kit_ref ?i ?t ?s ?d; (case i => k_is); (case t => k_is); (case s => first | rfl | k_is); (case d => decide)))))
        refine' List.forall_mem_cons.2 ⟨?e4, ?_⟩; (case e4 => (refine' DL.excI_mk x_BadReader KX G ?a ?k; (case a => k_is); (case k => (refine' DL.kit_ref ?i ?t ?s ?d; (case i => k_is); (case t => k_is); (case s => first | rfl | k_is); (case d => decide)))))
        refine' List.forall_mem_cons.2 ⟨?e5, ?_⟩; (case e5 => (refine' DL.excI_mk x_BadRing KX G ?a ?k; (case a => k_is); (case k => (refine' DL.kit_ref ?i ?t ?s ?d; (case i => k_is); (case t => k_is); (case s => first | rfl | k_is); (case d => decide)))))
        refine' List.forall_mem_cons.2 ⟨?e6, ?_⟩; (case e6 => (refine' DL.excI_mk x_BadText KX G ?a ?k; (case a => k_is); (case k => (refine' DL.kit_ref ?i ?t ?s ?d; (case i => k_is); (case t => k_is); (case s => first | rfl | k_is); (case d => decide)))))
        refine' List.forall_mem_cons.2 ⟨?e7, ?_⟩; (case e7 => (refine' DL.excI_mk x_NoCell KX G ?a ?k; (case a => k_is); (case k => (refine' DL.kit_ref ?i ?t ?s ?d; (case i => k_is); (case t => k_is); (case s => first | rfl | k_is); (case d => decide)))))
        refine' List.forall_mem_cons.2 ⟨?e8, ?_⟩; (case e8 => (refine' DL.excI_mk x_NoLine KX G ?a ?k; (case a => k_is); (case k => (refine' DL.kit_ref ?i ?t ?s ?d; (case i => k_is); (case t => k_is); (case s => first | rfl | k_is); (case d => decide)))))
        refine' List.forall_mem_cons.2 ⟨?e9, ?_⟩; (case e9 => (refine' DL.excI_mk x_NoReader KX G ?a ?k; (case a => k_is); (case k => (refine' DL.kit_ref ?i ?t ?s ?d; (case i => k_is); (case t => k_is); (case s => first | rfl | k_is); (case d => decide)))))
        refine' List.forall_mem_cons.2 ⟨?e10, ?_⟩; (case e10 => (refine' DL.excI_mk x_NoRule KX G ?a ?k; (case a => k_is); (case k => (refine' DL.kit_ref ?i ?t ?s ?d; (case i => k_is); (case t => k_is); (case s => first | rfl | k_is); (case d => decide)))))
        refine' List.forall_mem_cons.2 ⟨?e11, ?_⟩; (case e11 => (refine' DL.excI_mk x_NothingToUndo KX G ?a ?k; (case a => k_is); (case k => (refine' DL.kit_ref ?i ?t ?s ?d; (case i => k_is); (case t => k_is); (case s => first | rfl | k_is); (case d => decide)))))
        refine' List.forall_mem_cons.2 ⟨?e12, ?_⟩; (case e12 => (refine' DL.excI_mk x_TooGreat KX G ?a ?k; (case a => k_is); (case k => (refine' DL.kit_ref ?i ?t ?s ?d; (case i => k_is); (case t => k_is); (case s => first | rfl | k_is); (case d => decide)))))
        refine' List.forall_mem_cons.2 ⟨?e13, ?_⟩; (case e13 => (refine' DL.excI_mk x_TooMany KX G ?a ?k; (case a => k_is); (case k => (refine' DL.kit_ref ?i ?t ?s ?d; (case i => k_is); (case t => k_is); (case s => first | rfl | k_is); (case d => decide)))))
        exact List.forall_mem_nil _
    case isa_BadBound =>
      refine' DL.isaC_mk KX G ?a ?e
      (case a => k_is)
      case e =>
        refine' List.forall_mem_cons.2 ⟨?e0, ?_⟩; (case e0 => (refine' DL.excI_mk x_BadBegin KX G ?a ?k; (case a => k_is); (case k => (refine' DL.kit_ref ?i ?t ?s ?d; (case i => k_is); (case t => k_is); (case s => first | rfl | k_is); (case d => decide)))))
        refine' List.forall_mem_cons.2 ⟨?e1, ?_⟩; (case e1 => (refine' DL.excI_mk x_BadBound KX G ?a ?k; (case a => k_is); (case k => (refine' DL.kit_ref ?i ?t ?s ?d; (case i => k_is); (case t => k_is); (case s => first | rfl | k_is); (case d => decide)))))
        refine' List.forall_mem_cons.2 ⟨?e2, ?_⟩; (case e2 => (refine' DL.excI_mk x_BadCell KX G ?a ?k; (case a => k_is); (case k => (refine' DL.kit_ref ?i ?t ?s ?d; (case i => k_is); (case t => k_is); (case s => first | rfl | k_is); (case d => decide)))))
        refine' List.forall_mem_cons.2 ⟨?e3, ?_⟩; (case e3 => (refine' DL.excI_mk x_BadCount KX G ?a ?k; (case a => k_is); (case k => (refine' DL.kit_ref ?i ?t ?s ?d; (case i => k_is); (case t => k_is); (case s => first | rfl | k_is); (case d => decide)))))
        refine' List.forall_mem_cons.2 ⟨?e4, ?_⟩; (case e4 => (refine' DL.excI_mk x_BadReader KX G ?a ?k; (case a => k_is); (case k => (refine' DL.kit_ref ?i ?t ?s ?d; (case i => k_is); (case t => k_is); (case s => first | rfl | k_is); (case d => decide)))))
        refine' List.forall_mem_cons.2 ⟨?e5, ?_⟩; (case e5 => (refine' DL.excI_mk x_BadRing KX G ?a ?k; (case a => k_is); (case k => (refine' DL.kit_ref ?i ?t ?s ?d; (case i => k_is); (case t => k_is); (case s => first | rfl | k_is); (case d => decide)))))
        refine' List.forall_mem_cons.2 ⟨?e6, ?_⟩; (case e6 => (refine' DL.excI_mk x_BadText KX G ?a ?k; (case a => k_is); (case k => (refine' DL.kit_ref ?i ?t ?s ?d; (case i => k_is); (case t => k_is); (case s => first | rfl | k_is); (case d => decide)))))
        refine' List.forall_mem_cons.2 ⟨?e7, ?_⟩; (case e7 => (refine' DL.excI_mk x_NoCell KX G ?a ?k; (case a => k_is); (case k => (refine' DL.kit_ref ?i ?t ?s ?d; (case i => k_is); (case t => k_is); (case s => first | rfl | k_is); (case d => decide)))))
        refine' List.forall_mem_cons.2 ⟨?e8, ?_⟩; (case e8 => (refine' DL.excI_mk x_NoLine KX G ?a ?k; (case a => k_is); (case k => (refine' DL.kit_ref ?i ?t ?s ?d; (case i => k_is); (case t => k_is); (case s => first | rfl | k_is); (case d => decide)))))
        refine' List.forall_mem_cons.2 ⟨?e9, ?_⟩; (case e9 => (refine' DL.excI_mk x_NoReader KX G ?a ?k; (case a => k_is); (case k => (refine' DL.kit_ref ?i ?t ?s ?d; (case i => k_is); (case t => k_is); (case s => first | rfl | k_is); (case d => decide)))))
        refine' List.forall_mem_cons.2 ⟨?e10, ?_⟩; (case e10 => (refine' DL.excI_mk x_NoRule KX G ?a ?k; (case a => k_is); (case k => (refine' DL.kit_ref ?i ?t ?s ?d; (case i => k_is); (case t => k_is); (case s => first | rfl | k_is); (case d => decide)))))
        refine' List.forall_mem_cons.2 ⟨?e11, ?_⟩; (case e11 => (refine' DL.excI_mk x_NothingToUndo KX G ?a ?k; (case a => k_is); (case k => (refine' DL.kit_ref ?i ?t ?s ?d; (case i => k_is); (case t => k_is); (case s => first | rfl | k_is); (case d => decide)))))
        refine' List.forall_mem_cons.2 ⟨?e12, ?_⟩; (case e12 => (refine' DL.excI_mk x_TooGreat KX G ?a ?k; (case a => k_is); (case k => (refine' DL.kit_ref ?i ?t ?s ?d; (case i => k_is); (case t => k_is); (case s => first | rfl | k_is); (case d => decide)))))
        refine' List.forall_mem_cons.2 ⟨?e13, ?_⟩; (case e13 => (refine' DL.excI_mk x_TooMany KX G ?a ?k; (case a => k_is); (case k => (refine' DL.kit_ref ?i ?t ?s ?d; (case i => k_is); (case t => k_is); (case s => first | rfl | k_is); (case d => decide)))))
        exact List.forall_mem_nil _
    case isa_NoCell =>
      refine' DL.isaC_mk KX G ?a ?e
      (case a => k_is)
      case e =>
        refine' List.forall_mem_cons.2 ⟨?e0, ?_⟩; (case e0 => (refine' DL.excI_mk x_BadBegin KX G ?a ?k; (case a => k_is); (case k => (refine' DL.kit_ref ?i ?t ?s ?d; (case i => k_is); (case t => k_is); (case s => first | rfl | k_is); (case d => decide)))))
        refine' List.forall_mem_cons.2 ⟨?e1, ?_⟩; (case e1 => (refine' DL.excI_mk x_BadBound KX G ?a ?k; (case a => k_is); (case k => (refine' DL.kit_ref ?i ?t ?s ?d; (case i => k_is); (case t => k_is); (case s => first | rfl | k_is); (case d => decide)))))
        refine' List.forall_mem_cons.2 ⟨?e2, ?_⟩; (case e2 => (refine' DL.excI_mk x_BadCell KX G ?a ?k; (case a => k_is); (case k => (refine' DL.kit_ref ?i ?t ?s ?d; (case i => k_is); (case t => k_is); (case s => first | rfl | k_is); (case d => decide)))))
        refine' List.forall_mem_cons.2 ⟨?e3, ?_⟩; (case e3 => (refine' DL.excI_mk x_BadCount KX G ?a ?k; (case a => k_is); (case k => (refine' DL.kit_ref ?i ?t ?s ?d; (case i => k_is); (case t => k_is); (case s => first | rfl | k_is); (case d => decide)))))
        refine' List.forall_mem_cons.2 ⟨?e4, ?_⟩; (case e4 => (refine' DL.excI_mk x_BadReader KX G ?a ?k; (case a => k_is); (case k => (refine' DL.kit_ref ?i ?t ?s ?d; (case i => k_is); (case t => k_is); (case s => first | rfl | k_is); (case d => decide)))))
        refine' List.forall_mem_cons.2 ⟨?e5, ?_⟩; (case e5 => (refine' DL.excI_mk x_BadRing KX G ?a ?k; (case a => k_is); (case k => (refine' DL.kit_ref ?i ?t ?s ?d; (case i => k_is); (case t => k_is); (case s => first | rfl | k_is); (case d => decide)))))
        refine' List.forall_mem_cons.2 ⟨?e6, ?_⟩; (case e6 => (refine' DL.excI_mk x_BadText KX G ?a ?k; (case a => k_is); (case k => (refine' DL.kit_ref ?i ?t ?s ?d; (case i => k_is); (case t => k_is); (case s => first | rfl | k_is); (case d => decide)))))
        refine' List.forall_mem_cons.2 ⟨?e7, ?_⟩; (case e7 => (refine' DL.excI_mk x_NoCell KX G ?a ?k; (case a => k_is); (case k => (refine' DL.kit_ref ?i ?t ?s ?d; (case i => k_is); (case t => k_is); (case s => first | rfl | k_is); (case d => decide)))))
        refine' List.forall_mem_cons.2 ⟨?e8, ?_⟩; (case e8 => (refine' DL.excI_mk x_NoLine KX G ?a ?k; (case a => k_is); (case k => (refine' DL.kit_ref ?i ?t ?s ?d; (case i => k_is); (case t => k_is); (case s => first | rfl | k_is); (case d => decide)))))
        refine' List.forall_mem_cons.2 ⟨?e9, ?_⟩; (case e9 => (refine' DL.excI_mk x_NoReader KX G ?a ?k; (case a => k_is); (case k => (refine' DL.kit_ref ?i ?t ?s ?d; (case i => k_is); (case t => k_is); (case s => first | rfl | k_is); (case d => decide)))))
        refine' List.forall_mem_cons.2 ⟨?e10, ?_⟩; (case e10 => (refine' DL.excI_mk x_NoRule KX G ?a ?k; (case a => k_is); (case k => (refine' DL.kit_ref ?i ?t ?s ?d; (case i => k_is); (case t => k_is); (case s => first | rfl | k_is); (case d => decide)))))
        refine' List.forall_mem_cons.2 ⟨?e11, ?_⟩; (case e11 => (refine' DL.excI_mk x_NothingToUndo KX G ?a ?k; (case a => k_is); (case k => (refine' DL.kit_ref ?i ?t ?s ?d; (case i => k_is); (case t => k_is); (case s => first | rfl | k_is); (case d => decide)))))
        refine' List.forall_mem_cons.2 ⟨?e12, ?_⟩; (case e12 => (refine' DL.excI_mk x_TooGreat KX G ?a ?k; (case a => k_is); (case k => (refine' DL.kit_ref ?i ?t ?s ?d; (case i => k_is); (case t => k_is); (case s => first | rfl | k_is); (case d => decide)))))
        refine' List.forall_mem_cons.2 ⟨?e13, ?_⟩; (case e13 => (refine' DL.excI_mk x_TooMany KX G ?a ?k; (case a => k_is); (case k => (refine' DL.kit_ref ?i ?t ?s ?d; (case i => k_is); (case t => k_is); (case s => first | rfl | k_is); (case d => decide)))))
        exact List.forall_mem_nil _
    case isa_BadCell =>
      refine' DL.isaC_mk KX G ?a ?e
      (case a => k_is)
      case e =>
        refine' List.forall_mem_cons.2 ⟨?e0, ?_⟩; (case e0 => (refine' DL.excI_mk x_BadBegin KX G ?a ?k; (case a => k_is); (case k => (refine' DL.kit_ref ?i ?t ?s ?d; (case i => k_is); (case t => k_is); (case s => first | rfl | k_is); (case d => decide)))))
        refine' List.forall_mem_cons.2 ⟨?e1, ?_⟩; (case e1 => (refine' DL.excI_mk x_BadBound KX G ?a ?k; (case a => k_is); (case k => (refine' DL.kit_ref ?i ?t ?s ?d; (case i => k_is); (case t => k_is); (case s => first | rfl | k_is); (case d => decide)))))
        refine' List.forall_mem_cons.2 ⟨?e2, ?_⟩; (case e2 => (refine' DL.excI_mk x_BadCell KX G ?a ?k; (case a => k_is); (case k => (refine' DL.kit_ref ?i ?t ?s ?d; (case i => k_is); (case t => k_is); (case s => first | rfl | k_is); (case d => decide)))))
        refine' List.forall_mem_cons.2 ⟨?e3, ?_⟩; (case e3 => (refine' DL.excI_mk x_BadCount KX G ?a ?k; (case a => k_is); (case k => (refine' DL.kit_ref ?i ?t ?s ?d; (case i => k_is); (case t => k_is); (case s => first | rfl | k_is); (case d => decide)))))
        refine' List.forall_mem_cons.2 ⟨?e4, ?_⟩; (case e4 => (refine' DL.excI_mk x_BadReader KX G ?a ?k; (case a => k_is); (case k => (refine' DL.kit_ref ?i ?t ?s ?d; (case i => k_is); (case t => k_is); (case s => first | rfl | k_is); (case d => decide)))))
        refine' List.forall_mem_cons.2 ⟨?e5, ?_⟩; (case e5 => (refine' DL.excI_mk x_BadRing KX G ?a ?k; (case a => k_is); (case k => (refine' DL.kit_ref ?i ?t ?s ?d; (case i => k_is); (case t => k_is); (case s => first | rfl | k_is); (case d => decide)))))
        refine' List.forall_mem_cons.2 ⟨?e6, ?_⟩; (case e6 => (refine' DL.excI_mk x_BadText KX G ?a ?k; (case a => k_is); (case k => (refine' DL.kit_ref ?i ?t ?s ?d; (case i => k_is); (case t => k_is); (case s => first | rfl | k_is); (case d => decide)))))
        refine' List.forall_mem_cons.2 ⟨?e7, ?_⟩; (case e7 => (refine' DL.excI_mk x_NoCell KX G ?a ?k; (case a => k_is); (case k => (refine' DL.kit_ref ?i ?t ?s ?d; (case i => k_is); (case t => k_is); (case s => first | rfl | k_is); (case d => decide)))))
        refine' List.forall_mem_cons.2 ⟨?e8, ?_⟩; (case e8 => (refine' DL.excI_mk x_NoLine KX G ?a ?k; (case a => k_is); (case k => (refine' DL.kit_ref ?i ?t ?s ?d; (case i => k_is); (case t => k_is); (case s => first | rfl | k_is); (case d => decide)))))
        refine' List.forall_mem_cons.2 ⟨?e9, ?_⟩; (case e9 => (refine' DL.excI_mk x_NoReader KX G ?a ?k; (case a => k_is); (case k => (refine' DL.kit_ref ?i ?t ?s ?d; (case i => k_is); (case t => k_is); (case s => first | rfl | k_is); (case d => decide)))))
        refine' List.forall_mem_cons.2 ⟨?e10, ?_⟩; (case e10 => (refine' DL.excI_mk x_NoRule KX G ?a ?k; (case a => k_is); (case k => (refine' DL.kit_ref ?i ?t ?s ?d; (case i => k_is); (case t => k_is); (case s => first | rfl | k_is); (case d => decide)))))
        refine' List.forall_mem_cons.2 ⟨?e11, ?_⟩; (case e11 => (refine' DL.excI_mk x_NothingToUndo KX G ?a ?k; (case a => k_is); (case k => (refine' DL.kit_ref ?i ?t ?s ?d; (case i => k_is); (case t => k_is); (case s => first | rfl | k_is); (case d => decide)))))
        refine' List.forall_mem_cons.2 ⟨?e12, ?_⟩; (case e12 => (refine' DL.excI_mk x_TooGreat KX G ?a ?k; (case a => k_is); (case k => (refine' DL.kit_ref ?i ?t ?s ?d; (case i => k_is); (case t => k_is); (case s => first | rfl | k_is); (case d => decide)))))
        refine' List.forall_mem_cons.2 ⟨?e13, ?_⟩; (case e13 => (refine' DL.excI_mk x_TooMany KX G ?a ?k; (case a => k_is); (case k => (refine' DL.kit_ref ?i ?t ?s ?d; (case i => k_is); (case t => k_is); (case s => first | rfl | k_is); (case d => decide)))))
        exact List.forall_mem_nil _
    case isa_NothingToUndo =>
      refine' DL.isaC_mk KX G ?a ?e
      (case a => k_is)
      case e =>
        refine' List.forall_mem_cons.2 ⟨?e0, ?_⟩; (case e0 => (refine' DL.excI_mk x_BadBegin KX G ?a ?k; (case a => k_is); (case k => (refine' DL.kit_ref ?i ?t ?s ?d; (case i => k_is); (case t => k_is); (case s => first | rfl | k_is); (case d => decide)))))
        refine' List.forall_mem_cons.2 ⟨?e1, ?_⟩; (case e1 => (refine' DL.excI_mk x_BadBound KX G ?a ?k; (case a => k_is); (case k => (refine' DL.kit_ref ?i ?t ?s ?d; (case i => k_is); (case t => k_is); (case s => first | rfl | k_is); (case d => decide)))))
        refine' List.forall_mem_cons.2 ⟨?e2, ?_⟩; (case e2 => (refine' DL.excI_mk x_BadCell KX G ?a ?k; (case a => k_is); (case k => (refine' DL.kit_ref ?i ?t ?s ?d; (case i => k_is); (case t => k_is); (case s => first | rfl | k_is); (case d => decide)))))
        refine' List.forall_mem_cons.2 ⟨?e3, ?_⟩; (case e3 => (refine' DL.excI_mk x_BadCount KX G ?a ?k; (case a => k_is); (case k => (refine' DL.kit_ref ?i ?t ?s ?d; (case i => k_is); (case t => k_is); (case s => first | rfl | k_is); (case d => decide)))))
        refine' List.forall_mem_cons.2 ⟨?e4, ?_⟩; (case e4 => (refine' DL.excI_mk x_BadReader KX G ?a ?k; (case a => k_is); (case k => (refine' DL.kit_ref ?i ?t ?s ?d; (case i => k_is); (case t => k_is); (case s => first | rfl | k_is); (case d => decide)))))
        refine' List.forall_mem_cons.2 ⟨?e5, ?_⟩; (case e5 => (refine' DL.excI_mk x_BadRing KX G ?a ?k; (case a => k_is); (case k => (refine' DL.kit_ref ?i ?t ?s ?d; (case i => k_is); (case t => k_is); (case s => first | rfl | k_is); (case d => decide)))))
        refine' List.forall_mem_cons.2 ⟨?e6, ?_⟩; (case e6 => (refine' DL.excI_mk x_BadText KX G ?a ?k; (case a => k_is); (case k => (refine' DL.kit_ref ?i ?t ?s ?d; (case i => k_is); (case t => k_is); (case s => first | rfl | k_is); (case d => decide)))))
        refine' List.forall_mem_cons.2 ⟨?e7, ?_⟩; (case e7 => (refine' DL.excI_mk x_NoCell KX G ?a ?k; (case a => k_is); (case k => (refine' DL.kit_ref ?i ?t ?s ?d; (case i => k_is); (case t => k_is); (case s => first | rfl | k_is); (case d => decide)))))
        refine' List.forall_mem_cons.2 ⟨?e8, ?_⟩; (case e8 => (refine' DL.excI_mk x_NoLine KX G ?a ?k; (case a => k_is); (case k => (refine' DL.kit_ref ?i ?t ?s ?d; (case i => k_is); (case t => k_is); (case s => first | rfl | k_is); (case d => decide)))))
        refine' List.forall_mem_cons.2 ⟨?e9, ?_⟩; (case e9 => (refine' DL.excI_mk x_NoReader KX G ?a ?k; (case a => k_is); (case k => (refine' DL.kit_ref ?i ?t ?s ?d; (case i => k_is); (case t => k_is); (case s => first | rfl | k_is); (case d => decide)))))
        refine' List.forall_mem_cons.2 ⟨?e10, ?_⟩; (case e10 => (refine' DL.excI_mk x_NoRule KX G ?a ?k; (case a => k_is); (case k => (refine' DL.kit_ref ?i ?t ?s ?d; (case i => k_is); (case t => k_is); (case s => first | rfl | k_is); (case d => decide)))))
        refine' List.forall_mem_cons.2 ⟨?e11, ?_⟩; (case e11 => (refine' DL.excI_mk x_NothingToUndo KX G ?a ?k; (case a => k_is); (case k => (refine' DL.kit_ref ?i ?t ?s ?d; (case i => k_is); (case t => k_is); (case s => first | rfl | k_is); (case d => decide)))))
        refine' List.forall_mem_cons.2 ⟨?e12, ?_⟩; (case e12 => (refine' DL.excI_mk x_TooGreat KX G ?a ?k; (case a => k_is); (case k => (refine' DL.kit_ref ?i ?t ?s ?d; (case i => k_is); (case t => k_is); (case s => first | rfl | k_is); (case d => decide)))))
        refine' List.forall_mem_cons.2 ⟨?e13, ?_⟩; (case e13 => (refine' DL.excI_mk x_TooMany KX G ?a ?k; (case a => k_is); (case k => (refine' DL.kit_ref ?i ?t ?s ?d; (case i => k_is); (case t => k_is); (case s => first | rfl | k_is); (case d => decide)))))
        exact List.forall_mem_nil _
    case isa_TooGreat =>
      refine' DL.isaC_mk KX G ?a ?e
      (case a => k_is)
      case e =>
        refine' List.forall_mem_cons.2 ⟨?e0, ?_⟩; (case e0 => (refine' DL.excI_mk x_BadBegin KX G ?a ?k; (case a => k_is); (case k => (refine' DL.kit_ref ?i ?t ?s ?d; (case i => k_is); (case t => k_is); (case s => first | rfl | k_is); (case d => decide)))))
        refine' List.forall_mem_cons.2 ⟨?e1, ?_⟩; (case e1 => (refine' DL.excI_mk x_BadBound KX G ?a ?k; (case a => k_is); (case k => (refine' DL.kit_ref ?i ?t ?s ?d; (case i => k_is); (case t => k_is); (case s => first | rfl | k_is); (case d => decide)))))
        refine' List.forall_mem_cons.2 ⟨?e2, ?_⟩; (case e2 => (refine' DL.excI_mk x_BadCell KX G ?a ?k; (case a => k_is); (case k => (refine' DL.kit_ref ?i ?t ?s ?d; (case i => k_is); (case t => k_is); (case s => first | rfl | k_is); (case d => decide)))))
        refine' List.forall_mem_cons.2 ⟨?e3, ?_⟩; (case e3 => (refine' DL.excI_mk x_BadCount KX G ?a ?k; (case a => k_is); (case k => (refine' DL.kit_ref ?i ?t ?s ?d; (case i => k_is); (case t => k_is); (case s => first | rfl | k_is); (case d => decide)))))
        refine' List.forall_mem_cons.2 ⟨?e4, ?_⟩; (case e4 => (refine' DL.excI_mk x_BadReader KX G ?a ?k; (case a => k_is); (case k => (refine' DL.kit_ref ?i ?t ?s ?d; (case i => k_is); (case t => k_is); (case s => first | rfl | k_is); (case d => decide)))))
        refine' List.forall_mem_cons.2 ⟨?e5, ?_⟩; (case e5 => (refine' DL.excI_mk x_BadRing KX G ?a ?k; (case a => k_is); (case k => (refine' DL.kit_ref ?i ?t ?s ?d; (case i => k_is); (case t => k_is); (case s => first | rfl | k_is); (case d => decide)))))
        refine' List.forall_mem_cons.2 ⟨?e6, ?_⟩; (case e6 => (refine' DL.excI_mk x_BadText KX G ?a ?k; (case a => k_is); (case k => (refine' DL.kit_ref ?i ?t ?s ?d; (case i => k_is); (case t => k_is); (case s => first | rfl | k_is); (case d => decide)))))
        refine' List.forall_mem_cons.2 ⟨?e7, ?_⟩; (case e7 => (refine' DL.excI_mk x_NoCell KX G ?a ?k; (case a => k_is); (case k => (refine' DL.kit_ref ?i ?t ?s ?d; (case i => k_is); (case t => k_is); (case s => first | rfl | k_is); (case d => decide)))))
        refine' List.forall_mem_cons.2 ⟨?e8, ?_⟩; (case e8 => (refine' DL.excI_mk x_NoLine KX G ?a ?k; (case a => k_is); (case k => (refine' DL.kit_ref ?i ?t ?s ?d; (case i => k_is); (case t => k_is); (case s => first | rfl | k_is); (case d => decide)))))
        refine' List.forall_mem_cons.2 ⟨?e9, ?_⟩; (case e9 => (refine' DL.excI_mk x_NoReader KX G ?a ?k; (case a => k_is); (case k => (refine' DL.kit_ref ?i ?t ?s ?d; (case i => k_is); (case t => k_is); (case s => first | rfl | k_is); (case d => decide)))))
        refine' List.forall_mem_cons.2 ⟨?e10, ?_⟩; (case e10 => (refine' DL.excI_mk x_NoRule KX G ?a ?k; (case a => k_is); (case k => (refine' DL.kit_ref ?i ?t ?s ?d; (case i => k_is); (case t => k_is); (case s => first | rfl | k_is); (case d => decide)))))
        refine' List.forall_mem_cons.2 ⟨?e11, ?_⟩; (case e11 => (refine' DL.excI_mk x_NothingToUndo KX G ?a ?k; (case a => k_is); (case k => (refine' DL.kit_ref ?i ?t ?s ?d; (case i => k_is); (case t => k_is); (case s => first | rfl | k_is); (case d => decide)))))
        refine' List.forall_mem_cons.2 ⟨?e12, ?_⟩; (case e12 => (refine' DL.excI_mk x_TooGreat KX G ?a ?k; (case a => k_is); (case k => (refine' DL.kit_ref ?i ?t ?s ?d; (case i => k_is); (case t => k_is); (case s => first | rfl | k_is); (case d => decide)))))
        refine' List.forall_mem_cons.2 ⟨?e13, ?_⟩; (case e13 => (refine' DL.excI_mk x_TooMany KX G ?a ?k; (case a => k_is); (case k => (refine' DL.kit_ref ?i ?t ?s ?d; (case i => k_is); (case t => k_is); (case s => first | rfl | k_is); (case d => decide)))))
        exact List.forall_mem_nil _
    case b_min => (refine' PySem.W.mg_none_of KX G ?z; (case z => k_is))
    case b_max => (refine' PySem.W.mg_none_of KX G ?z; (case z => k_is))
    case isa_SplitError =>
      refine' DL.isaC_mk KX G ?a ?e
      (case a => k_is)
      case e =>
        refine' List.forall_mem_cons.2 ⟨?e0, ?_⟩; (case e0 => (refine' DL.excI_mk x_BadBegin KX G ?a ?k; (case a => k_is); (case k => (refine' DL.kit_ref ?i ?t ?s ?d; (case i => k_is); (case t => k_is); (case s => first | rfl | k_is); (case d => decide)))))
        refine' List.forall_mem_cons.2 ⟨?e1, ?_⟩; (case e1 => (refine' DL.excI_mk x_BadBound KX G ?a ?k; (case a => k_is); (case k => (refine' DL.kit_ref ?i ?t ?s ?d; (case i => k_is); (case t => k_is); (case s => first | rfl | k_is); (case d => decide)))))
        refine' List.forall_mem_cons.2 ⟨?e2, ?_⟩; (case e2 => (refine' DL.excI_mk x_BadCell KX G ?a ?k; (case a => k_is); (case k => (refine' DL.kit_ref ?i ?t ?s ?d; (case i => k_is); (case t => k_is); (case s => first | rfl | k_is); (case d => decide)))))
        refine' List.forall_mem_cons.2 ⟨?e3, ?_⟩; (case e3 => (refine' DL.excI_mk x_BadCount KX G ?a ?k; (case a => k_is); (case k => (refine' DL.kit_ref ?i ?t ?s ?d; (case i => k_is); (case t => k_is); (case s => first | rfl | k_is); (case d => decide)))))
        refine' List.forall_mem_cons.2 ⟨?e4, ?_⟩; (case e4 => (refine' DL.excI_mk x_BadReader KX G ?a ?k; (case a => k_is); (case k => (refine' DL.kit_ref ?i ?t ?s ?d; (case i => k_is); (case t => k_is); (case s => first | rfl | k_is); (case d => decide)))))
        refine' List.forall_mem_cons.2 ⟨?e5, ?_⟩; (case e5 => (refine' DL.excI_mk x_BadRing KX G ?a ?k; (case a => k_is); (case k => (refine' DL.kit_ref ?i ?t ?s ?d; (case i => k_is); (case t => k_is); (case s => first | rfl | k_is); (case d => decide)))))
        refine' List.forall_mem_cons.2 ⟨?e6, ?_⟩; (case e6 => (refine' DL.excI_mk x_BadText KX G ?a ?k; (case a => k_is); (case k => (refine' DL.kit_ref ?i ?t ?s ?d; (case i => k_is); (case t => k_is); (case s => first | rfl | k_is); (case d => decide)))))
        refine' List.forall_mem_cons.2 ⟨?e7, ?_⟩; (case e7 => (refine' DL.excI_mk x_NoCell KX G ?a ?k; (case a => k_is); (case k => (refine' DL.kit_ref ?i ?t ?s ?d; (case i => k_is); (case t => k_is); (case s => first | rfl | k_is); (case d => decide)))))
        refine' List.forall_mem_cons.2 ⟨?e8, ?_⟩; (case e8 => (refine' DL.excI_mk x_NoLine KX G ?a ?k; (case a => k_is); (case k => (refine' DL.kit_ref ?i ?t ?s ?d; (case i => k_is); (case t => k_is); (case s => first | rfl | k_is); (case d => decide)))))
        refine' List.forall_mem_cons.2 ⟨?e9, ?_⟩; (case e9 => (refine' DL.excI_mk x_NoReader KX G ?a ?k; (case a => k_is); (case k => (refine' DL.kit_ref ?i ?t ?s ?d; (case i => k_is); (case t => k_is); (case s => first | rfl | k_is); (case d => decide)))))
        refine' List.forall_mem_cons.2 ⟨?e10, ?_⟩; (case e10 => (refine' DL.excI_mk x_NoRule KX G ?a ?k; (case a => k_is); (case k => (refine' DL.kit_ref ?i ?t ?s ?d; (case i => k_is); (case t => k_is); (case s => first | rfl | k_is); (case d => decide)))))
        refine' List.forall_mem_cons.2 ⟨?e11, ?_⟩; (case e11 => (refine' DL.excI_mk x_NothingToUndo KX G ?a ?k; (case a => k_is); (case k => (refine' DL.kit_ref ?i ?t ?s ?d; (case i => k_is); (case t => k_is); (case s => first | rfl | k_is); (case d => decide)))))
        refine' List.forall_mem_cons.2 ⟨?e12, ?_⟩; (case e12 => (refine' DL.excI_mk x_TooGreat KX G ?a ?k; (case a => k_is); (case k => (refine' DL.kit_ref ?i ?t ?s ?d; (case i => k_is); (case t => k_is); (case s => first | rfl | k_is); (case d => decide)))))
        refine' List.forall_mem_cons.2 ⟨?e13, ?_⟩; (case e13 => (refine' DL.excI_mk x_TooMany KX G ?a ?k; (case a => k_is); (case k => (refine' DL.kit_ref ?i ?t ?s ?d; (case i => k_is); (case t => k_is); (case s => first | rfl | k_is); (case d => decide)))))
        exact List.forall_mem_nil _
    case isa_ValueError =>
      refine' DL.isaT_mk ?e
      case e =>
        refine' List.forall_mem_cons.2 ⟨?e0, ?_⟩; (case e0 => (refine' DL.excI_mk x_BadBegin KX G ?a ?k; (case a => k_is); (case k => (refine' DL.kit_typ ?m ?s; (case m => decide +kernel); (case s => k_is)))))
        refine' List.forall_mem_cons.2 ⟨?e1, ?_⟩; (case e1 => (refine' DL.excI_mk x_BadBound KX G ?a ?k; (case a => k_is); (case k => (refine' DL.kit_typ ?m ?s; (case m => decide +kernel); (case s => k_is)))))
        refine' List.forall_mem_cons.2 ⟨?e2, ?_⟩; (case e2 => (refine' DL.excI_mk x_BadCell KX G ?a ?k; (case a => k_is); (case k => (refine' DL.kit_typ ?m ?s; (case m => decide +kernel); (case s => k_is)))))
        refine' List.forall_mem_cons.2 ⟨?e3, ?_⟩; (case e3 => (refine' DL.excI_mk x_BadCount KX G ?a ?k; (case a => k_is); (case k => (refine' DL.kit_typ ?m ?s; (case m => decide +kernel); (case s => k_is)))))
        refine' List.forall_mem_cons.2 ⟨?e4, ?_⟩; (case e4 => (refine' DL.excI_mk x_BadReader KX G ?a ?k; (case a => k_is); (case k => (refine' DL.kit_typ ?m ?s; (case m => decide +kernel); (case s => k_is)))))
        refine' List.forall_mem_cons.2 ⟨?e5, ?_⟩; (case e5 => (refine' DL.excI_mk x_BadRing KX G ?a ?k; (case a => k_is); (case k => (refine' DL.kit_typ ?m ?s; (case m => decide +kernel); (case s => k_is)))))
        refine' List.forall_mem_cons.2 ⟨?e6, ?_⟩; (case e6 => (refine' DL.excI_mk x_BadText KX G ?a ?k; (case a => k_is); (case k => (refine' DL.kit_typ ?m ?s; (case m => decide +kernel); (case s => k_is)))))
        refine' List.forall_mem_cons.2 ⟨?e7, ?_⟩; (case e7 => (refine' DL.excI_mk x_NoCell KX G ?a ?k; (case a => k_is); (case k => (refine' DL.kit_typ ?m ?s; (case m => decide +kernel); (case s => k_is)))))
        refine' List.forall_mem_cons.2 ⟨?e8, ?_⟩; (case e8 => (refine' DL.excI_mk x_NoLine KX G ?a ?k; (case a => k_is); (case k => (refine' DL.kit_typ ?m ?s; (case m => decide +kernel); (case s => k_is)))))
        refine' List.forall_mem_cons.2 ⟨?e9, ?_⟩; (case e9 => (refine' DL.excI_mk x_NoReader KX G ?a ?k; (case a => k_is); (case k => (refine' DL.kit_typ ?m ?s; (case m => decide +kernel); (case s => k_is)))))
        refine' List.forall_mem_cons.2 ⟨?e10, ?_⟩; (case e10 => (refine' DL.excI_mk x_NoRule KX G ?a ?k; (case a => k_is); (case k => (refine' DL.kit_typ ?m ?s; (case m => decide +kernel); (case s => k_is)))))
        refine' List.forall_mem_cons.2 ⟨?e11, ?_⟩; (case e11 => (refine' DL.excI_mk x_NothingToUndo KX G ?a ?k; (case a => k_is); (case k => (refine' DL.kit_typ ?m ?s; (case m => decide +kernel); (case s => k_is)))))
        refine' List.forall_mem_cons.2 ⟨?e12, ?_⟩; (case e12 => (refine' DL.excI_mk x_TooGreat KX G ?a ?k; (case a => k_is); (case k => (refine' DL.kit_typ ?m ?s; (case m => decide +kernel); (case s => k_is)))))
        refine' List.forall_mem_cons.2 ⟨?e13, ?_⟩; (case e13 => (refine' DL.excI_mk x_TooMany KX G ?a ?k; (case a => k_is); (case k => (refine' DL.kit_typ ?m ?s; (case m => decide +kernel); (case s => k_is)))))
        exact List.forall_mem_nil _
    case b_ValueError => (refine' PySem.W.mg_none_of KX G ?z; (case z => k_is))

