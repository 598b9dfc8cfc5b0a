import PyProof.Rows.All
import Wide.All
import OpenK.AllK
import Wide.FinOn
import HandS.ForMost
import HandS.ForExc
import HandS.SortInts
import HandS.Wide
import HandS.Style
import HandS.IsInst
import HandS.Walk
import HandS.Strs
import HandS.More
import HandS.Zip
import HandS.WordsDict
import KE.KDictZip
import HandS.Conv
import HandS.SetFor
import HandS.EndBits
import PySem.Challenge.RW_boxpasses_k02_whole_paths
set_option Elab.async false
set_option linter.all false
set_option maxRecDepth 100000
set_option autoImplicit false
set_option exponentiation.threshold 5000
namespace Bx
open PySem PySem.Spec L2

/-! ### trees -/
inductive Fl where
  | own | shr | bor
  deriving DecidableEq
inductive Tag where
  | lst | dct (ks : List Key) | obj (c : Nat) (ns : List Str)
  deriving DecidableEq
inductive D where
  | non | any | bl (b : Bool) | int (i : Int) | str (x : Str) | scr (ns : List Int)
  | tup (ds : List D) | nd (f : Fl) (t : Tag) (ds : List D)

/-- the constants of a world: where classes stand -/
structure Wc where
  cl : Nat → Addr
  K : PySem.W.Frag
  lk : List Addr

/-- what is owned (o), what of it by passing values alone (t) -/
structure Ow where
  o : Addr → Prop
  t : Addr → Prop
def AtR (c : Wc) (H : Hp) (a : Addr) : Tag → List V → Prop
  | .lst, vs => H a = some (.lst vs)
  | .dct ks, vs => (if a ∈ c.lk then ∃ o, H a = some (.frz o (.dK (ks.zip vs))) else H a = some (.dK (ks.zip vs))) ∧ ks.length = vs.length
  | .obj k ns, vs => ∃ dx, H a = some (.ins (c.cl k) dx (ns.zip vs)) ∧ ns.length = vs.length
def Scr (c : Wc) (H : Hp) (a : Addr) (ns : List Int) : Prop :=
  (∃ o, H a = some (.frz o (.lst (ns.map V.int)))) ∨ (∀ H', SqL c.K H' a (ns.map V.int))

mutual
def Rep (c : Wc) (O : Ow) (H : Hp) : D → V → List Addr → Prop
  | .non, v, fp => v = .non ∧ fp = []
  | .any, _, fp => fp = []
  | .bl b, v, fp => v = .bl b ∧ fp = []
  | .int i, v, fp => v = .int i ∧ fp = []
  | .str x, v, fp => v = .str x ∧ fp = []
  | .scr ns, v, fp => (∃ a, v = .ref a ∧ Scr c H a ns) ∧ fp = []
  | .tup ds, v, fp => ∃ a vs, v = .ref a ∧ H a = some (.tup vs) ∧ RepS c O H ds (vs.map some) fp
  | .nd f t ds, v, fp => ∃ a vs fq, v = .ref a ∧ AtR c H a t vs ∧ RepS c O H ds (vs.map some) fq ∧
      (match f with
        | .own => fp = a :: fq
        | .shr => ¬ O.o a ∧ fq = [] ∧ fp = []
        | .bor => ¬ O.t a ∧ fq = [] ∧ fp = [])
def RepS (c : Wc) (O : Ow) (H : Hp) : List D → List (Option V) → List Addr → Prop
  | [], os, fp => os = [] ∧ fp = []
  | d :: ds, os, fp => ∃ o r f1 f2, os = o :: r ∧ fp = f1 ++ f2 ∧ (d = .any ∧ f1 = [] ∨ ∃ v, o = some v ∧ Rep c O H d v f1) ∧ RepS c O H ds r f2
end

def Fl.un : Fl → Fl
  | .own => .shr
  | .shr => .shr
  | .bor => .bor
def Fl.bo : Fl → Fl
  | .own => .bor
  | .shr => .shr
  | .bor => .bor
def Fl.sb : Fl → Fl
  | .own => .own
  | .shr => .bor
  | .bor => .bor
mutual
/-- no borrowed node -/
def D.nb : D → Bool
  | .nd f _ ds => decide (f ≠ .bor) && D.nbs ds
  | .tup ds => D.nbs ds
  | _ => true
def D.nbs : List D → Bool
  | [] => true
  | d :: ds => d.nb && D.nbs ds
end
mutual
/-- all nodes shared -/
def D.sh : D → D
  | .nd _ t ds => .nd .shr t (D.shs ds)
  | .tup ds => .tup (D.shs ds)
  | d => d
def D.shs : List D → List D
  | [] => []
  | d :: ds => d.sh :: D.shs ds
end
mutual
/-- own nodes shared, the others as they are -/
def D.un : D → D
  | .nd f t ds => .nd f.un t (D.uns ds)
  | .tup ds => .tup (D.uns ds)
  | d => d
def D.uns : List D → List D
  | [] => []
  | d :: ds => d.un :: D.uns ds
end
mutual
/-- own nodes borrowed -/
def D.bo : D → D
  | .nd f t ds => .nd f.bo t (D.bos ds)
  | .tup ds => .tup (D.bos ds)
  | d => d
def D.bos : List D → List D
  | [] => []
  | d :: ds => d.bo :: D.bos ds
end
mutual
/-- shared nodes borrowed -/
def D.sb : D → D
  | .nd f t ds => .nd f.sb t (D.sbs ds)
  | .tup ds => .tup (D.sbs ds)
  | d => d
def D.sbs : List D → List D
  | [] => []
  | d :: ds => d.sb :: D.sbs ds
end
theorem shs_map : ∀ ds, D.shs ds = ds.map D.sh
  | [] => rfl
  | d :: ds => by rw [D.shs, shs_map ds]; rfl
theorem uns_map : ∀ ds, D.uns ds = ds.map D.un
  | [] => rfl
  | d :: ds => by rw [D.uns, uns_map ds]; rfl
theorem bos_map : ∀ ds, D.bos ds = ds.map D.bo
  | [] => rfl
  | d :: ds => by rw [D.bos, bos_map ds]; rfl
theorem sbs_map : ∀ ds, D.sbs ds = ds.map D.sb
  | [] => rfl
  | d :: ds => by rw [D.sbs, sbs_map ds]; rfl
theorem nbs_all : ∀ ds, D.nbs ds = ds.all D.nb
  | [] => rfl
  | d :: ds => by rw [D.nbs, nbs_all ds]; rfl

def Imm : HO → Prop
  | .tup _ => True
  | .frz _ _ => True
  | _ => False
/-- only f's objects (no tuple, no locked thing) may have changed -/
def Keep (f : List Addr) (H H' : Hp) : Prop := ∀ a o, H a = some o → (a ∉ f ∨ Imm o) → H' a = some o

section
variable {c : Wc} {O O' : Ow} {H H' : Hp}

theorem AtR.ex {a : Addr} {t : Tag} {vs : List V} (h : AtR c H a t vs) : ∃ o, H a = some o ∧ (a ∉ c.lk → ¬ Imm o ∧ Mut (some o)) := by
  cases t with
  | lst => exact ⟨_, h, fun _ => ⟨fun z => z, trivial⟩⟩
  | dct ks =>
    obtain ⟨h, _⟩ := h
    by_cases e : a ∈ c.lk
    · rw [if_pos e] at h
      obtain ⟨o, h⟩ := h
      exact ⟨_, h, fun n => absurd e n⟩
    · rw [if_neg e] at h
      exact ⟨_, h, fun _ => ⟨fun z => z, trivial⟩⟩
  | obj k ns => obtain ⟨dx, h, _⟩ := h; exact ⟨_, h, fun _ => ⟨fun z => z, trivial⟩⟩
theorem AtR.kp {a : Addr} {t : Tag} {vs : List V} (h : AtR c H a t vs) (k : ∀ o, H a = some o → H' a = some o) : AtR c H' a t vs := by
  cases t with
  | lst => exact k _ h
  | dct ks =>
    obtain ⟨h, l⟩ := h
    refine ⟨?_, l⟩
    by_cases e : a ∈ c.lk
    · rw [if_pos e] at h ⊢
      obtain ⟨o, h⟩ := h
      exact ⟨o, k _ h⟩
    · rw [if_neg e] at h ⊢
      exact k _ h
  | obj k' ns => obtain ⟨dx, h, l⟩ := h; exact ⟨dx, k _ h, l⟩

mutual
/-- a tree stays what it is: own nodes, shared nodes, (borrowed ones only if all is kept) -/
theorem Rep.stay : ∀ {d : D} {v : V} {fp : List Addr}, Rep c O H d v fp → (d.nb = true ∨ ∀ a o, H a = some o → ¬ O.t a → H' a = some o ∧ ¬ O'.t a) →
    (∀ a o, H a = some o → (a ∈ fp ∨ ¬ O.o a ∨ Imm o) → H' a = some o) → (∀ a o, H a = some o → ¬ O.o a → ¬ O'.o a) → Rep c O' H' d v fp
  | .non, _, _, h, _, _, _ => by simpa only [Rep] using h
  | .any, _, _, h, _, _, _ => by simpa only [Rep] using h
  | .bl _, _, _, h, _, _, _ => by simpa only [Rep] using h
  | .int _, _, _, h, _, _, _ => by simpa only [Rep] using h
  | .str _, _, _, h, _, _, _ => by simpa only [Rep] using h
  | .scr ns, v, fp, h, _, k, _ => by
    rw [Rep] at h ⊢
    obtain ⟨⟨a, e, h⟩, q⟩ := h
    refine ⟨⟨a, e, ?_⟩, q⟩
    rcases h with ⟨o, h⟩ | h
    · exact .inl ⟨o, k a _ h (.inr (.inr trivial))⟩
    · exact .inr h
  | .tup ds, v, fp, h, n, k, ho => by
    rw [Rep] at h ⊢
    obtain ⟨a, vs, e, h, q⟩ := h
    exact ⟨a, vs, e, k a _ h (.inr (.inr trivial)), RepS.stay q (by rw [D.nb] at n; exact n) k ho⟩
  | .nd f t ds, v, fp, h, n, k, ho => by
    rw [Rep] at h ⊢
    obtain ⟨a, vs, fq, e, h, q, z⟩ := h
    obtain ⟨o, eo, _⟩ := h.ex
    cases f with
    | own =>
      have z' : fp = a :: fq := z
      subst z'
      refine ⟨a, vs, fq, e, h.kp fun u eu => k a u eu (.inl List.mem_cons_self), RepS.stay q ?_ (fun b u eb hb => k b u eb ?_) ho, z⟩
      · rw [D.nb] at n; simpa using n
      · rcases hb with hb | hb
        · exact .inl (List.mem_cons_of_mem _ hb)
        · exact .inr hb
    | shr =>
      have z' : ¬ O.o a ∧ fq = [] ∧ fp = [] := z
      obtain ⟨z1, rfl, rfl⟩ := z'
      exact ⟨a, vs, [], e, h.kp fun u eu => k a u eu (.inr (.inl z1)), RepS.stay q (by rw [D.nb] at n; simpa using n) k ho, ho a o eo z1, rfl, rfl⟩
    | bor =>
      have z' : ¬ O.t a ∧ fq = [] ∧ fp = [] := z
      obtain ⟨z1, rfl, rfl⟩ := z'
      have n' : ∀ a o, H a = some o → ¬ O.t a → H' a = some o ∧ ¬ O'.t a := by
        rcases n with n | n
        · rw [D.nb] at n; simp at n
        · exact n
      exact ⟨a, vs, [], e, h.kp fun u eu => (n' a u eu z1).1, RepS.stay q (.inr n') k ho, (n' a o eo z1).2, rfl, rfl⟩
theorem RepS.stay : ∀ {ds : List D} {os : List (Option V)} {fp : List Addr}, RepS c O H ds os fp → (D.nbs ds = true ∨ ∀ a o, H a = some o → ¬ O.t a → H' a = some o ∧ ¬ O'.t a) →
    (∀ a o, H a = some o → (a ∈ fp ∨ ¬ O.o a ∨ Imm o) → H' a = some o) → (∀ a o, H a = some o → ¬ O.o a → ¬ O'.o a) → RepS c O' H' ds os fp
  | [], _, _, h, _, _, _ => by simpa only [RepS] using h
  | d :: ds, os, fp, h, n, k, ho => by
    rw [RepS] at h ⊢
    obtain ⟨o, r, f1, f2, e, ef, h1, h2⟩ := h
    subst ef
    rw [D.nbs, Bool.and_eq_true] at n
    refine ⟨o, r, f1, f2, e, rfl, ?_, RepS.stay h2 (n.imp (fun z => z.2) fun z => z) (fun a u eu hu => k a u eu ?_) ho⟩
    · rcases h1 with h1 | ⟨v, ev, h1⟩
      · exact .inl h1
      · refine .inr ⟨v, ev, Rep.stay h1 (n.imp (fun z => z.1) fun z => z) (fun a u eu hu => k a u eu ?_) ho⟩
        exact hu.imp (fun z => List.mem_append_left _ z) fun z => z
    · exact hu.imp (fun z => List.mem_append_right _ z) fun z => z
end

mutual
/-- own nodes stand in the heap -/
theorem Rep.there : ∀ {d : D} {v : V} {fp : List Addr}, Rep c O H d v fp → ∀ a ∈ fp, ∃ o, H a = some o ∧ (a ∉ c.lk → ¬ Imm o ∧ Mut (some o))
  | .non, _, _, h, _, ha => by simp only [Rep] at h; simp [h.2] at ha
  | .any, _, _, h, _, ha => by simp only [Rep] at h; simp [h] at ha
  | .bl _, _, _, h, _, ha => by simp only [Rep] at h; simp [h.2] at ha
  | .int _, _, _, h, _, ha => by simp only [Rep] at h; simp [h.2] at ha
  | .str _, _, _, h, _, ha => by simp only [Rep] at h; simp [h.2] at ha
  | .scr _, _, _, h, _, ha => by simp only [Rep] at h; simp [h.2] at ha
  | .tup ds, _, _, h, a, ha => by
    rw [Rep] at h
    obtain ⟨_, _, _, _, q⟩ := h
    exact RepS.there q a ha
  | .nd f t ds, _, fp, h, b, hb => by
    rw [Rep] at h
    obtain ⟨a, vs, fq, e, h, q, z⟩ := h
    cases f with
    | own =>
      have z' : fp = a :: fq := z
      subst z'
      rcases List.mem_cons.mp hb with rfl | hb
      · exact h.ex
      · exact RepS.there q b hb
    | shr =>
      have z' : ¬ O.o a ∧ fq = [] ∧ fp = [] := z
      rw [z'.2.2] at hb; cases hb
    | bor =>
      have z' : ¬ O.t a ∧ fq = [] ∧ fp = [] := z
      rw [z'.2.2] at hb; cases hb
theorem RepS.there : ∀ {ds : List D} {os : List (Option V)} {fp : List Addr}, RepS c O H ds os fp → ∀ a ∈ fp, ∃ o, H a = some o ∧ (a ∉ c.lk → ¬ Imm o ∧ Mut (some o))
  | [], _, _, h, _, ha => by simp only [RepS] at h; simp [h.2] at ha
  | d :: ds, os, fp, h, a, ha => by
    rw [RepS] at h
    obtain ⟨o, r, f1, f2, e, ef, h1, h2⟩ := h
    subst ef
    rcases List.mem_append.mp ha with ha | ha
    · rcases h1 with h1 | ⟨v, ev, h1⟩
      · rw [h1.2] at ha; cases ha
      · exact Rep.there h1 a ha
    · exact RepS.there h2 a ha
end

mutual
/-- a tree given over to all: its own nodes are nobody's any more -/
theorem Rep.share : ∀ {d : D} {v : V} {fp : List Addr}, Rep c O H d v fp → (d.nb = true ∨ ∀ a o, H a = some o → ¬ O.t a → ¬ O'.o a) → (∀ a ∈ fp, ¬ O'.o a) → (∀ a o, H a = some o → ¬ O.o a → ¬ O'.o a) → Rep c O' H d.sh v []
  | .non, _, _, h, _, _, _ => by
    rw [Rep] at h
    show Rep c O' H (.non) _ []
    rw [Rep]
    exact ⟨h.1, rfl⟩
  | .any, _, _, h, _, _, _ => by
    rw [Rep] at h
    show Rep c O' H (.any) _ []
    rw [Rep]
  | .bl z, _, _, h, _, _, _ => by
    rw [Rep] at h
    show Rep c O' H (.bl z) _ []
    rw [Rep]
    exact ⟨h.1, rfl⟩
  | .int z, _, _, h, _, _, _ => by
    rw [Rep] at h
    show Rep c O' H (.int z) _ []
    rw [Rep]
    exact ⟨h.1, rfl⟩
  | .str z, _, _, h, _, _, _ => by
    rw [Rep] at h
    show Rep c O' H (.str z) _ []
    rw [Rep]
    exact ⟨h.1, rfl⟩
  | .scr z, _, _, h, _, _, _ => by
    rw [Rep] at h
    show Rep c O' H (.scr z) _ []
    rw [Rep]
    exact ⟨h.1, rfl⟩
  | .tup ds, v, fp, h, n, k, ho => by
    rw [Rep] at h
    rw [D.sh, Rep]
    obtain ⟨a, vs, e, h, q⟩ := h
    exact ⟨a, vs, e, h, RepS.share q (by rw [D.nb] at n; exact n) k ho⟩
  | .nd f t ds, v, fp, h, n, k, ho => by
    rw [Rep] at h
    rw [D.sh, Rep]
    obtain ⟨a, vs, fq, e, h, q, z⟩ := h
    obtain ⟨o, eo, _⟩ := h.ex
    rw [D.nb, Bool.and_eq_true] at n
    cases f with
    | own =>
      have z' : fp = a :: fq := z
      subst z'
      exact ⟨a, vs, [], e, h, RepS.share q (n.imp (fun z => z.2) fun z => z) (fun b hb => k b (List.mem_cons_of_mem _ hb)) ho, k a List.mem_cons_self, rfl, rfl⟩
    | shr =>
      have z' : ¬ O.o a ∧ fq = [] ∧ fp = [] := z
      obtain ⟨z1, rfl, rfl⟩ := z'
      exact ⟨a, vs, [], e, h, RepS.share q (n.imp (fun z => z.2) fun z => z) k ho, ho a o eo z1, rfl, rfl⟩
    | bor =>
      have z' : ¬ O.t a ∧ fq = [] ∧ fp = [] := z
      obtain ⟨z1, rfl, rfl⟩ := z'
      have n' : ∀ a o, H a = some o → ¬ O.t a → ¬ O'.o a := by
        rcases n with n | n
        · simp at n
        · exact n
      exact ⟨a, vs, [], e, h, RepS.share q (.inr n') k ho, n' a o eo z1, rfl, rfl⟩
theorem RepS.share : ∀ {ds : List D} {os : List (Option V)} {fp : List Addr}, RepS c O H ds os fp → (D.nbs ds = true ∨ ∀ a o, H a = some o → ¬ O.t a → ¬ O'.o a) → (∀ a ∈ fp, ¬ O'.o a) → (∀ a o, H a = some o → ¬ O.o a → ¬ O'.o a) → RepS c O' H (D.shs ds) os []
  | [], _, _, h, _, _, _ => by
    rw [RepS] at h
    show RepS c O' H [] _ []
    rw [RepS]
    exact ⟨h.1, rfl⟩
  | d :: ds, os, fp, h, n, k, ho => by
    rw [RepS] at h
    rw [D.shs, RepS]
    obtain ⟨o, r, f1, f2, e, ef, h1, h2⟩ := h
    subst ef
    rw [D.nbs, Bool.and_eq_true] at n
    refine ⟨o, r, [], [], e, rfl, ?_, RepS.share h2 (n.imp (fun z => z.2) fun z => z) (fun a ha => k a (List.mem_append_right _ ha)) ho⟩
    rcases h1 with ⟨rfl, _⟩ | ⟨v, ev, h1⟩
    · exact .inl ⟨rfl, rfl⟩
    · exact .inr ⟨v, ev, Rep.share h1 (n.imp (fun z => z.1) fun z => z) (fun a ha => k a (List.mem_append_left _ ha)) ho⟩
end

mutual
/-- the same, borrowed nodes stay borrowed -/
theorem Rep.unown : ∀ {d : D} {v : V} {fp : List Addr}, Rep c O H d v fp → (d.nb = true ∨ ∀ a o, H a = some o → ¬ O.t a → ¬ O'.t a) → (∀ a ∈ fp, ¬ O'.o a) → (∀ a o, H a = some o → ¬ O.o a → ¬ O'.o a) → Rep c O' H d.un v []
  | .non, _, _, h, _, _, _ => by
    rw [Rep] at h
    show Rep c O' H (.non) _ []
    rw [Rep]
    exact ⟨h.1, rfl⟩
  | .any, _, _, h, _, _, _ => by
    rw [Rep] at h
    show Rep c O' H (.any) _ []
    rw [Rep]
  | .bl z, _, _, h, _, _, _ => by
    rw [Rep] at h
    show Rep c O' H (.bl z) _ []
    rw [Rep]
    exact ⟨h.1, rfl⟩
  | .int z, _, _, h, _, _, _ => by
    rw [Rep] at h
    show Rep c O' H (.int z) _ []
    rw [Rep]
    exact ⟨h.1, rfl⟩
  | .str z, _, _, h, _, _, _ => by
    rw [Rep] at h
    show Rep c O' H (.str z) _ []
    rw [Rep]
    exact ⟨h.1, rfl⟩
  | .scr z, _, _, h, _, _, _ => by
    rw [Rep] at h
    show Rep c O' H (.scr z) _ []
    rw [Rep]
    exact ⟨h.1, rfl⟩
  | .tup ds, v, fp, h, n, k, ho => by
    rw [Rep] at h
    rw [D.un, Rep]
    obtain ⟨a, vs, e, h, q⟩ := h
    exact ⟨a, vs, e, h, RepS.unown q (by rw [D.nb] at n; exact n) k ho⟩
  | .nd f t ds, v, fp, h, n, k, ho => by
    rw [Rep] at h
    rw [D.un, Rep]
    obtain ⟨a, vs, fq, e, h, q, z⟩ := h
    obtain ⟨o, eo, _⟩ := h.ex
    rw [D.nb, Bool.and_eq_true] at n
    have n2 := n.imp (fun z => z.2) fun z => z
    cases f with
    | own =>
      have z' : fp = a :: fq := z
      subst z'
      exact ⟨a, vs, [], e, h, RepS.unown q n2 (fun b hb => k b (List.mem_cons_of_mem _ hb)) ho, k a List.mem_cons_self, rfl, rfl⟩
    | shr =>
      have z' : ¬ O.o a ∧ fq = [] ∧ fp = [] := z
      obtain ⟨z1, rfl, rfl⟩ := z'
      exact ⟨a, vs, [], e, h, RepS.unown q n2 k ho, ho a o eo z1, rfl, rfl⟩
    | bor =>
      have z' : ¬ O.t a ∧ fq = [] ∧ fp = [] := z
      obtain ⟨z1, rfl, rfl⟩ := z'
      have n' : ∀ a o, H a = some o → ¬ O.t a → ¬ O'.t a := by
        rcases n with n | n
        · simp at n
        · exact n
      exact ⟨a, vs, [], e, h, RepS.unown q n2 k ho, n' a o eo z1, rfl, rfl⟩
theorem RepS.unown : ∀ {ds : List D} {os : List (Option V)} {fp : List Addr}, RepS c O H ds os fp → (D.nbs ds = true ∨ ∀ a o, H a = some o → ¬ O.t a → ¬ O'.t a) → (∀ a ∈ fp, ¬ O'.o a) → (∀ a o, H a = some o → ¬ O.o a → ¬ O'.o a) → RepS c O' H (D.uns ds) os []
  | [], _, _, h, _, _, _ => by
    rw [RepS] at h
    show RepS c O' H [] _ []
    rw [RepS]
    exact ⟨h.1, rfl⟩
  | d :: ds, os, fp, h, n, k, ho => by
    rw [RepS] at h
    rw [D.uns, RepS]
    obtain ⟨o, r, f1, f2, e, ef, h1, h2⟩ := h
    subst ef
    rw [D.nbs, Bool.and_eq_true] at n
    refine ⟨o, r, [], [], e, rfl, ?_, RepS.unown h2 (n.imp (fun z => z.2) fun z => z) (fun a ha => k a (List.mem_append_right _ ha)) ho⟩
    rcases h1 with ⟨rfl, _⟩ | ⟨v, ev, h1⟩
    · exact .inl ⟨rfl, rfl⟩
    · exact .inr ⟨v, ev, Rep.unown h1 (n.imp (fun z => z.1) fun z => z) (fun a ha => k a (List.mem_append_left _ ha)) ho⟩
end

mutual
theorem Rep.borrow : ∀ {d : D} {v : V} {fp : List Addr}, Rep c O H d v fp → (∀ a ∈ fp, ¬ O.t a) → Rep c O H d.bo v []
  | .non, _, _, h, _ => by
    rw [Rep] at h
    show Rep c O H (.non) _ []
    rw [Rep]
    exact ⟨h.1, rfl⟩
  | .any, _, _, h, _ => by
    rw [Rep] at h
    show Rep c O H (.any) _ []
    rw [Rep]
  | .bl z, _, _, h, _ => by
    rw [Rep] at h
    show Rep c O H (.bl z) _ []
    rw [Rep]
    exact ⟨h.1, rfl⟩
  | .int z, _, _, h, _ => by
    rw [Rep] at h
    show Rep c O H (.int z) _ []
    rw [Rep]
    exact ⟨h.1, rfl⟩
  | .str z, _, _, h, _ => by
    rw [Rep] at h
    show Rep c O H (.str z) _ []
    rw [Rep]
    exact ⟨h.1, rfl⟩
  | .scr z, _, _, h, _ => by
    rw [Rep] at h
    show Rep c O H (.scr z) _ []
    rw [Rep]
    exact ⟨h.1, rfl⟩
  | .tup ds, v, fp, h, k => by
    rw [Rep] at h
    rw [D.bo, Rep]
    obtain ⟨a, vs, e, h, q⟩ := h
    exact ⟨a, vs, e, h, RepS.borrow q k⟩
  | .nd f t ds, v, fp, h, k => by
    rw [Rep] at h
    rw [D.bo, Rep]
    obtain ⟨a, vs, fq, e, h, q, z⟩ := h
    cases f with
    | own =>
      have z' : fp = a :: fq := z
      subst z'
      exact ⟨a, vs, [], e, h, RepS.borrow q fun b hb => k b (List.mem_cons_of_mem _ hb), k a List.mem_cons_self, rfl, rfl⟩
    | shr =>
      have z' : ¬ O.o a ∧ fq = [] ∧ fp = [] := z
      obtain ⟨z1, rfl, rfl⟩ := z'
      exact ⟨a, vs, [], e, h, RepS.borrow q k, z1, rfl, rfl⟩
    | bor =>
      have z' : ¬ O.t a ∧ fq = [] ∧ fp = [] := z
      obtain ⟨z1, rfl, rfl⟩ := z'
      exact ⟨a, vs, [], e, h, RepS.borrow q k, z1, rfl, rfl⟩
theorem RepS.borrow : ∀ {ds : List D} {os : List (Option V)} {fp : List Addr}, RepS c O H ds os fp → (∀ a ∈ fp, ¬ O.t a) → RepS c O H (D.bos ds) os []
  | [], _, _, h, _ => by
    rw [RepS] at h
    show RepS c O H [] _ []
    rw [RepS]
    exact ⟨h.1, rfl⟩
  | d :: ds, os, fp, h, k => by
    rw [RepS] at h
    rw [D.bos, RepS]
    obtain ⟨o, r, f1, f2, e, ef, h1, h2⟩ := h
    subst ef
    refine ⟨o, r, [], [], e, rfl, ?_, RepS.borrow h2 fun a ha => k a (List.mem_append_right _ ha)⟩
    rcases h1 with ⟨rfl, _⟩ | ⟨v, ev, h1⟩
    · exact .inl ⟨rfl, rfl⟩
    · exact .inr ⟨v, ev, Rep.borrow h1 fun a ha => k a (List.mem_append_left _ ha)⟩
end
mutual
/-- what a callee's shared nodes are to a caller that lent its own -/
theorem Rep.lent : ∀ {d : D} {v : V} {fp : List Addr}, Rep c O H d v fp → d.nb = true → (∀ a o, H a = some o → ¬ O.o a → ¬ O'.t a) → Rep c O' H d.sb v fp
  | .non, _, _, h, _, _ => by
    rw [Rep] at h
    show Rep c O' H .non _ _
    rw [Rep]
    exact h
  | .any, _, _, h, _, _ => by
    rw [Rep] at h
    show Rep c O' H .any _ _
    rw [Rep]
    exact h
  | .bl z, _, _, h, _, _ => by
    rw [Rep] at h
    show Rep c O' H (.bl z) _ _
    rw [Rep]
    exact h
  | .int z, _, _, h, _, _ => by
    rw [Rep] at h
    show Rep c O' H (.int z) _ _
    rw [Rep]
    exact h
  | .str z, _, _, h, _, _ => by
    rw [Rep] at h
    show Rep c O' H (.str z) _ _
    rw [Rep]
    exact h
  | .scr z, _, _, h, _, _ => by
    rw [Rep] at h
    show Rep c O' H (.scr z) _ _
    rw [Rep]
    exact h
  | .tup ds, v, fp, h, n, k => by
    rw [Rep] at h
    rw [D.sb, Rep]
    obtain ⟨a, vs, e, h, q⟩ := h
    exact ⟨a, vs, e, h, RepS.lent q (by rw [D.nb] at n; exact n) k⟩
  | .nd f t ds, v, fp, h, n, k => by
    rw [Rep] at h
    rw [D.sb, Rep]
    obtain ⟨a, vs, fq, e, h, q, z⟩ := h
    obtain ⟨o, eo, _⟩ := h.ex
    rw [D.nb, Bool.and_eq_true] at n
    cases f with
    | own => exact ⟨a, vs, fq, e, h, RepS.lent q n.2 k, z⟩
    | shr =>
      have z' : ¬ O.o a ∧ fq = [] ∧ fp = [] := z
      exact ⟨a, vs, fq, e, h, RepS.lent q n.2 k, k a o eo z'.1, z'.2⟩
    | bor =>
      have n1 := n.1
      simp at n1
theorem RepS.lent : ∀ {ds : List D} {os : List (Option V)} {fp : List Addr}, RepS c O H ds os fp → D.nbs ds = true → (∀ a o, H a = some o → ¬ O.o a → ¬ O'.t a) → RepS c O' H (D.sbs ds) os fp
  | [], _, _, h, _, _ => by
    rw [RepS] at h
    show RepS c O' H [] _ _
    rw [RepS]
    exact h
  | d :: ds, os, fp, h, n, k => by
    rw [RepS] at h
    rw [D.sbs, RepS]
    obtain ⟨o, r, f1, f2, e, ef, h1, h2⟩ := h
    rw [D.nbs, Bool.and_eq_true] at n
    refine ⟨o, r, f1, f2, e, ef, ?_, RepS.lent h2 n.2 k⟩
    rcases h1 with ⟨rfl, z⟩ | ⟨v, ev, h1⟩
    · exact .inl ⟨rfl, z⟩
    · exact .inr ⟨v, ev, Rep.lent h1 n.1 k⟩
end

/-! ### lists of roots -/
theorem RepS.len : ∀ {ds : List D} {os : List (Option V)} {fp : List Addr}, RepS c O H ds os fp → ds.length = os.length
  | [], _, _, h => by
    rw [RepS] at h
    rw [h.1]
    rfl
  | d :: ds, os, fp, h => by
    rw [RepS] at h
    obtain ⟨o, r, f1, f2, rfl, ef, h1, h2⟩ := h
    simp [RepS.len h2]
theorem RepS.app : ∀ {ds es : List D} {os ps : List (Option V)} {fp fq : List Addr}, RepS c O H ds os fp → RepS c O H es ps fq → RepS c O H (ds ++ es) (os ++ ps) (fp ++ fq)
  | [], _, _, _, _, _, h, k => by
    rw [RepS] at h
    obtain ⟨rfl, rfl⟩ := h
    exact k
  | d :: ds, es, os, ps, fp, fq, h, k => by
    rw [RepS] at h
    obtain ⟨o, r, f1, f2, rfl, rfl, h1, h2⟩ := h
    rw [List.cons_append, RepS]
    exact ⟨o, r ++ ps, f1, f2 ++ fq, rfl, List.append_assoc .., h1, RepS.app h2 k⟩
theorem RepS.split : ∀ {ds es : List D} {os : List (Option V)} {fp : List Addr}, RepS c O H (ds ++ es) os fp → ∃ o1 o2 f1 f2, os = o1 ++ o2 ∧ fp = f1 ++ f2 ∧ o1.length = ds.length ∧ RepS c O H ds o1 f1 ∧ RepS c O H es o2 f2
  | [], es, os, fp, h => ⟨[], os, [], fp, rfl, rfl, rfl, by rw [RepS]; exact ⟨rfl, rfl⟩, h⟩
  | d :: ds, es, os, fp, h => by
    rw [List.cons_append, RepS] at h
    obtain ⟨o, r, f1, f2, rfl, rfl, h1, h2⟩ := h
    obtain ⟨o1, o2, g1, g2, rfl, rfl, l, k1, k2⟩ := RepS.split h2
    refine ⟨o :: o1, o2, f1 ++ g1, g2, rfl, (List.append_assoc ..).symm, by simp [l], ?_, k2⟩
    rw [RepS]
    exact ⟨o, o1, f1, g1, rfl, rfl, h1, k1⟩
/-- the root at a place, and the others -/
theorem RepS.at : ∀ {ds : List D} {os : List (Option V)} {fp : List Addr} {i : Nat} {d : D}, RepS c O H ds os fp → ds[i]? = some d → d ≠ .any →
    ∃ o1 v o2 p f q, os = o1 ++ some v :: o2 ∧ o1.length = i ∧ fp = p ++ (f ++ q) ∧ RepS c O H (ds.take i) o1 p ∧ Rep c O H d v f ∧ RepS c O H (ds.drop (i + 1)) o2 q
  | [], _, _, _, _, _, e, _ => by simp at e
  | d :: ds, os, fp, 0, x, h, e, n => by
    rw [RepS] at h
    obtain ⟨o, r, f1, f2, rfl, rfl, h1, h2⟩ := h
    have e' : d = x := by simpa using e
    subst e'
    rcases h1 with ⟨z, _⟩ | ⟨v, rfl, h1⟩
    · exact absurd z n
    · exact ⟨[], v, r, [], f1, f2, rfl, rfl, rfl, by rw [List.take_zero, RepS]; exact ⟨rfl, rfl⟩, h1, h2⟩
  | d :: ds, os, fp, i + 1, x, h, e, n => by
    rw [RepS] at h
    obtain ⟨o, r, f1, f2, rfl, rfl, h1, h2⟩ := h
    have e' : ds[i]? = some x := by simpa using e
    obtain ⟨o1, v, o2, p, f, q, rfl, l, rfl, k1, k2, k3⟩ := RepS.at h2 e' n
    refine ⟨o :: o1, v, o2, f1 ++ p, f, q, rfl, by simp [l], by simp, ?_, k2, k3⟩
    rw [List.take_succ_cons, RepS]
    exact ⟨o, o1, f1, p, rfl, rfl, h1, k1⟩
theorem set_at {α : Type} {ds : List α} {i : Nat} {d : α} (e : ds[i]? = some d) (x : α) : ds.set i x = ds.take i ++ x :: ds.drop (i + 1) := by
  have h : i < ds.length := (List.getElem?_eq_some_iff.mp e).1
  rw [List.set_eq_take_append_cons_drop, if_pos h]
theorem RepS.cons {d : D} {v : V} {f : List Addr} {ds : List D} {os : List (Option V)} {fp : List Addr} (h : Rep c O H d v f) (k : RepS c O H ds os fp) : RepS c O H (d :: ds) (some v :: os) (f ++ fp) := by
  rw [RepS]
  exact ⟨_, os, f, fp, rfl, rfl, .inr ⟨v, rfl, h⟩, k⟩
theorem RepS.hole {o : Option V} {ds : List D} {os : List (Option V)} {fp : List Addr} (k : RepS c O H ds os fp) : RepS c O H (.any :: ds) (o :: os) fp := by
  rw [RepS]
  exact ⟨_, os, [], fp, rfl, rfl, .inl ⟨rfl, rfl⟩, k⟩
end
end Bx

namespace Bx
open PySem PySem.Spec L2

/-! ### paths of child numbers, through own nodes -/
def D.getp : List Nat → D → Option D
  | [], d => some d
  | k :: r, .nd .own _ ds => (ds[k]?).bind (D.getp r)
  | _ :: _, _ => none
def D.setp : List Nat → D → D → D
  | [], _, x => x
  | k :: r, .nd f t ds, x => .nd f t (ds.set k (D.setp r (ds.getD k .any) x))
  | _ :: _, d, _ => d
def PV (c : Wc) (H : Hp) : V → List Nat → V → Prop
  | v, [], w => v = w
  | v, k :: r, w => ∃ a t vs u, v = .ref a ∧ AtR c H a t vs ∧ vs[k]? = some u ∧ PV c H u r w

section
variable {c : Wc} {O O' : Ow} {H H' : Hp}
theorem AtR.det {a : Addr} {t t' : Tag} {vs vs' : List V} (h : AtR c H a t vs) (h' : AtR c H a t' vs') : vs = vs' := by
  have zz : ∀ {α : Type} {ks ks' : List α} {xs xs' : List V}, ks.length = xs.length → ks'.length = xs'.length → ks.zip xs = ks'.zip xs' → xs = xs' := by
    intro α ks ks' xs xs' l l' e
    have e1 : (ks.zip xs).map Prod.snd = xs := List.map_snd_zip (Nat.le_of_eq l.symm)
    have e2 : (ks'.zip xs').map Prod.snd = xs' := List.map_snd_zip (Nat.le_of_eq l'.symm)
    rw [← e1, ← e2, e]
  have dk : ∀ {ks : List Key} {xs : List V}, (if a ∈ c.lk then ∃ o, H a = some (.frz o (.dK (ks.zip xs))) else H a = some (.dK (ks.zip xs))) → (∃ o, H a = some (.frz o (.dK (ks.zip xs)))) ∨ H a = some (.dK (ks.zip xs)) := by
    intro ks xs h
    split at h
    · exact .inl h
    · exact .inr h
  cases t with
  | lst =>
    cases t' with
    | lst => have e := h.symm.trans h'; simpa using e
    | dct ks =>
      rcases dk h'.1 with ⟨o, h'⟩ | h' <;> (have e := h.symm.trans h'; simp at e)
    | obj k ns => obtain ⟨dx, h', _⟩ := h'; have e := h.symm.trans h'; simp at e
  | dct ks =>
    obtain ⟨h, l⟩ := h
    cases t' with
    | lst => rcases dk h with ⟨o, h⟩ | h <;> (have e := h.symm.trans h'; simp at e)
    | dct ks' =>
      obtain ⟨h', l'⟩ := h'
      split at h
      · obtain ⟨o, h⟩ := h
        rename_i hl
        rw [if_pos hl] at h'
        obtain ⟨o', h'⟩ := h'
        have e := h.symm.trans h'
        have e' : ks.zip vs = ks'.zip vs' := by simp at e; exact e.2
        exact zz l l' e'
      · rename_i hl
        rw [if_neg hl] at h'
        have e := h.symm.trans h'
        have e' : ks.zip vs = ks'.zip vs' := by simpa using e
        exact zz l l' e'
    | obj k ns => obtain ⟨dx, h', _⟩ := h'; rcases dk h with ⟨o, h⟩ | h <;> (have e := h.symm.trans h'; simp at e)
  | obj k ns =>
    obtain ⟨dx, h, l⟩ := h
    cases t' with
    | lst => have e := h.symm.trans h'; simp at e
    | dct ks' => rcases dk h'.1 with ⟨o, h'⟩ | h' <;> (have e := h.symm.trans h'; simp at e)
    | obj k' ns' =>
      obtain ⟨dx', h', l'⟩ := h'
      have e := h.symm.trans h'
      have e' : ns.zip vs = ns'.zip vs' := by simp at e; exact e.2.2
      exact zz l l' e'
theorem PV.det : ∀ {r : List Nat} {v w w' : V}, PV c H v r w → PV c H v r w' → w = w'
  | [], _, _, _, h, h' => h.symm.trans h'
  | k :: r, v, w, w', h, h' => by
    obtain ⟨a, t, vs, u, rfl, h1, h2, h3⟩ := h
    obtain ⟨a', t', vs', u', e, h1', h2', h3'⟩ := h'
    cases e
    have e := AtR.det h1 h1'
    subst e
    rw [h2] at h2'
    cases h2'
    exact PV.det h3 h3'
theorem PV.ext (k : ∀ a o, H a = some o → H' a = some o) : ∀ {r : List Nat} {v w : V}, PV c H v r w → PV c H' v r w
  | [], _, _, h => h
  | _ :: r, v, w, h => by
    obtain ⟨a, t, vs, u, e, h1, h2, h3⟩ := h
    exact ⟨a, t, vs, u, e, h1.kp fun o eo => k a o eo, h2, PV.ext k h3⟩
theorem PV.snoc : ∀ {r : List Nat} {k : Nat} {v w u : V} {a : Addr} {t : Tag} {vs : List V}, PV c H v r (.ref a) → AtR c H a t vs → vs[k]? = some u → PV c H v (r ++ [k]) u
  | [], k, v, w, u, a, t, vs, h, h1, h2 => ⟨a, t, vs, u, h, h1, h2, rfl⟩
  | j :: r, k, v, w, u, a, t, vs, h, h1, h2 => by
    obtain ⟨a', t', vs', u', e, g1, g2, g3⟩ := h
    exact ⟨a', t', vs', u', e, g1, g2, PV.snoc (w := w) g3 h1 h2⟩

theorem Rep.nany {d : D} {v : V} {fp : List Addr} (h : Rep c O H d v fp) (n : fp ≠ []) : d ≠ .any := by
  rintro rfl
  rw [Rep] at h
  exact n h
/-- the node at a path of own nodes; another tree may be put there -/
theorem Rep.path : ∀ {r : List Nat} {d : D} {v : V} {fp : List Addr} {d1 : D}, Rep c O H d v fp → fp.Nodup → (∀ a ∈ fp, O.o a) → D.getp r d = some d1 → d1 ≠ .any →
    ∃ v1 p f q, fp = p ++ (f ++ q) ∧ PV c H v r v1 ∧ Rep c O H d1 v1 f ∧ ∀ {O' : Ow} {H' : Hp} {d1' : D} {f' : List Addr}, d.nb = true → (∀ a o, H a = some o → (a ∉ f ∨ Imm o) → H' a = some o) →
      (∀ a o, H a = some o → ¬ O.o a → ¬ O'.o a) → Rep c O' H' d1' v1 f' → Rep c O' H' (D.setp r d d1') v (p ++ (f' ++ q))
  | [], d, v, fp, d1, h, nd, _, g, _ => by
    have g' : d = d1 := by simpa [D.getp] using g
    subst g'
    exact ⟨v, [], fp, [], by simp, rfl, h, fun {O' H' d1' f'} _ _ _ k => by simpa [D.setp] using k⟩
  | k :: r, d, v, fp, d1, h, nd, hO, g, na => by
    cases d with
    | nd f t ds =>
      cases f with
      | own =>
        have g' : (ds[k]?).bind (D.getp r) = some d1 := g
        rw [Rep] at h
        obtain ⟨a, vs, fq, rfl, h1, h2, h3⟩ := h
        have e3 : fp = a :: fq := h3
        subst e3
        cases ek : ds[k]? with
        | none => rw [ek] at g'; cases g'
        | some dk =>
          rw [ek] at g'
          have g2 : D.getp r dk = some d1 := g'
          have nak : dk ≠ .any := by
            rintro rfl
            cases r with
            | nil => exact na (by simpa [D.getp] using g2.symm)
            | cons _ _ => simp [D.getp] at g2
          obtain ⟨o1, u, o2, p, fk, q, eo, lo, rfl, k1, k2, k3⟩ := RepS.at h2 ek nak
          have nd2 : (p ++ (fk ++ q)).Nodup := (List.nodup_cons.mp nd).2
          have na' : a ∉ p ++ (fk ++ q) := (List.nodup_cons.mp nd).1
          have ndk : fk.Nodup := (List.nodup_append.mp (List.nodup_append.mp nd2).2.1).1
          obtain ⟨v1, p1, f1, q1, rfl, m1, m2, m3⟩ := Rep.path k2 ndk (fun b hb => hO b (by simp [hb])) g2 na
          have eu : vs[k]? = some u := by
            have e1 : (vs.map some)[k]? = some (some u) := by rw [eo, List.getElem?_append_right (by omega), lo, Nat.sub_self]; rfl
            rw [List.getElem?_map] at e1
            cases ev : vs[k]? with
            | none => rw [ev] at e1; cases e1
            | some x => rw [ev] at e1; simpa using e1
          refine ⟨v1, a :: (p ++ p1), f1, q1 ++ q, by simp, ⟨a, t, vs, u, rfl, h1, eu, m1⟩, m2, fun {O' H' d1' f'} nb hk ho m => ?_⟩
          rw [D.nb, Bool.and_eq_true] at nb
          have nbs := nb.2
          rw [nbs_all, List.all_eq_true] at nbs
          have nbk : dk.nb = true := nbs dk (List.mem_of_getElem? ek)
          have hdj : ∀ b, b ∈ a :: p ∨ b ∈ q → b ∉ f1 := by
            intro b hb hf
            simp only [List.nodup_append, List.mem_append, List.nodup_cons] at nd2
            simp only [List.mem_append] at na'
            rcases hb with hb | hb
            · rcases List.mem_cons.mp hb with rfl | hb
              · exact na' (.inr (.inl (.inr (.inl hf))))
              · exact nd2.2.2 b hb b (.inl (.inr (.inl hf))) rfl
            · exact nd2.2.1.2.2 b (.inr (.inl hf)) b hb rfl
          have n1 : D.nbs (ds.take k) = true := by
            rw [nbs_all, List.all_eq_true]
            exact fun x hx => nbs x (List.mem_of_mem_take hx)
          have n2 : D.nbs (ds.drop (k + 1)) = true := by
            rw [nbs_all, List.all_eq_true]
            exact fun x hx => nbs x (List.mem_of_mem_drop hx)
          have st : ∀ {fz : List Addr}, (∀ b ∈ fz, b ∉ f1) → ∀ b o, H b = some o → (b ∈ fz ∨ ¬ O.o b ∨ Imm o) → H' b = some o := fun hz b o eb hb => by
            rcases hb with hb | hb | hb
            · exact hk b o eb (.inl (hz b hb))
            · exact hk b o eb (.inl fun z => hb (hO b (by simp [z])))
            · exact hk b o eb (.inr hb)
          have q1' := RepS.stay (O' := O') (H' := H') k1 (.inl n1) (st fun b hb => hdj b (.inl (List.mem_cons_of_mem _ hb))) ho
          have q3' := RepS.stay (O' := O') (H' := H') k3 (.inl n2) (st fun b hb => hdj b (.inr hb)) ho
          have q2' := m3 nbk hk ho m
          rw [D.setp, Rep]
          have eg : ds.getD k .any = dk := by rw [List.getD_eq_getElem?_getD, ek]; rfl
          refine ⟨a, vs, p ++ ((p1 ++ (f' ++ q1)) ++ q), rfl, h1.kp fun o eo' => hk a o eo' (.inl (hdj a (.inl List.mem_cons_self))), ?_, by simp⟩
          rw [set_at ek, eg, eo]
          exact RepS.app q1' (RepS.cons q2' q3')
      | shr => simp [D.getp] at g
      | bor => simp [D.getp] at g
    | _ => simp [D.getp] at g

/-! ### worlds -/
/-- what a frame stands on: addresses that are not its own (F), its entry's heap, what it may write of it, what its first slots hold for good -/
structure Bs where
  F : Addr → Prop
  H0 : Hp
  f0 : List Addr
  fx : List V
def ow (B : Bs) (ft fs : List Addr) : Ow := ⟨fun a => a ∈ ft ++ fs ∨ B.F a, fun a => a ∈ ft⟩
structure W0 (c : Wc) (B : Bs) (H : Hp) (ts : List D) (ws : List V) (Γ : List D) (σ : St) (ft fs : List Addr) : Prop where
  nd : (ft ++ fs).Nodup
  nf : ∀ a ∈ ft ++ fs, ¬ B.F a
  fh : ∀ a, B.F a → ∃ o, H a = some o
  kp : Keep B.f0 B.H0 H
  gr : ∀ a ∈ ft ++ fs, a ∈ B.f0 ∨ B.H0 a = none
  rt : RepS c (ow B ft fs) H ts (ws.map some) ft
  rs : RepS c (ow B ft fs) H Γ σ fs
  nb : D.nbs Γ = true
  fx : ∀ (i : Nat) (v : V), B.fx[i]? = some v → σ[i]? = some (some v)
def Wd (c : Wc) (B : Bs) (H : Hp) (ts : List D) (ws : List V) (Γ : List D) (σ : St) : Prop := ∃ ft fs, W0 c B H ts ws Γ σ ft fs
variable {B : Bs} {ts as : List D} {ws vs : List V} {Γ : List D} {σ : St} {ft fs : List Addr} {d : D} {v : V}

theorem W0.lenT (w : W0 c B H ts ws Γ σ ft fs) : ts.length = ws.length := by simpa using w.rt.len
theorem Wd.lenT (w : Wd c B H ts ws Γ σ) : ts.length = ws.length := let ⟨_, _, w⟩ := w; w.lenT
theorem Wd.lenS (w : Wd c B H ts ws Γ σ) : Γ.length = σ.length := let ⟨_, _, w⟩ := w; w.rs.len
theorem W0.there (w : W0 c B H ts ws Γ σ ft fs) : ∀ a ∈ ft ++ fs, ∃ o, H a = some o ∧ (a ∉ c.lk → ¬ Imm o ∧ Mut (some o)) := fun a ha =>
  (List.mem_append.mp ha).elim (w.rt.there a) (w.rs.there a)

/-- temps rearranged, let go: each own node at most once -/
def Shuf (ds : List D) (vs : List V) (es : List D) (us : List V) : Prop :=
  ∀ (c : Wc) (O : Ow) (H : Hp) (f : List Addr), RepS c O H ds (vs.map some) f → f.Nodup → ∃ g, g.Nodup ∧ (∀ a ∈ g, a ∈ f) ∧ RepS c O H es (us.map some) g
theorem W0.less {gt gs : List Addr} {es : List D} {us : List V} {Δ : List D} {τ : St} (w : W0 c B H ts ws Γ σ ft fs) (nd : (gt ++ gs).Nodup) (hs : ∀ a ∈ gt ++ gs, a ∈ ft ++ fs) (ht : ∀ a ∈ gt, a ∈ ft ∨ D.nbs es = true)
    (rt : RepS c (ow B ft fs) H es (us.map some) gt) (rs : RepS c (ow B ft fs) H Δ τ gs) (nb : D.nbs Δ = true) (fx : ∀ (i : Nat) (v : V), B.fx[i]? = some v → τ[i]? = some (some v)) : Wd c B H es us Δ τ := by
  have ho : ∀ a o, H a = some o → ¬ (ow B ft fs).o a → ¬ (ow B gt gs).o a := fun a o _ n z => n (z.imp (hs a) fun z => z)
  refine ⟨gt, gs, nd, fun a ha => w.nf a (hs a ha), w.fh, w.kp, fun a ha => w.gr a (hs a ha), rt.stay ?_ (fun _ _ e _ => e) ho, rs.stay (.inl nb) (fun _ _ e _ => e) ho, nb, fx⟩
  by_cases hn : D.nbs es = true
  · exact .inl hn
  · exact .inr fun a o e n => ⟨e, fun z => n ((ht a z).resolve_right hn)⟩
theorem Wd.shuf {ds es : List D} {us xs : List V} (w : Wd c B H (ds ++ ts) (us ++ ws) Γ σ) (l : ds.length = us.length) (s : Shuf ds us es xs) : Wd c B H (es ++ ts) (xs ++ ws) Γ σ := by
  obtain ⟨ft, fs, w⟩ := w
  have rt := w.rt
  rw [List.map_append] at rt
  obtain ⟨o1, o2, f1, f2, eo, rfl, l1, r1, r2⟩ := rt.split
  obtain ⟨rfl, rfl⟩ := List.append_inj eo (by simp [l1, l])
  have nd := w.nd
  have nd1 : f1.Nodup := (List.nodup_append.mp (List.nodup_append.mp nd).1).1
  obtain ⟨g, ng, hg, rg⟩ := s c _ H f1 r1 nd1
  refine w.less (gt := g ++ f2) (gs := fs) ?_ ?_ (fun a ha => .inl ?_) (by rw [List.map_append]; exact rg.app r2) w.rs w.nb w.fx
  · simp only [List.nodup_append, List.mem_append] at nd ⊢
    exact ⟨⟨ng, nd.1.2.1, fun a ha b hb => nd.1.2.2 a (hg a ha) b hb⟩, nd.2.1, fun a ha b hb => nd.2.2 a (ha.imp (hg a) fun z => z) b hb⟩
  · simp only [List.mem_append]
    exact fun a ha => ha.imp (fun z => z.imp (hg a) fun z => z) fun z => z
  · simp only [List.mem_append] at ha ⊢
    exact ha.imp (hg a) fun z => z
theorem Shuf.nil (ds : List D) (vs : List V) : Shuf ds vs [] [] := fun c O H f _ _ => ⟨[], List.nodup_nil, fun _ h => (nomatch h), by rw [RepS]; exact ⟨rfl, rfl⟩⟩
theorem Shuf.refl (ds : List D) (vs : List V) : Shuf ds vs ds vs := fun c O H f h n => ⟨f, n, fun _ h => h, h⟩
theorem Shuf.trans {ds es fs' : List D} {vs us xs : List V} (a : Shuf ds vs es us) (b : Shuf es us fs' xs) : Shuf ds vs fs' xs := fun c O H f h n => by
  obtain ⟨g, n1, h1, r1⟩ := a c O H f h n
  obtain ⟨g', n2, h2, r2⟩ := b c O H g r1 n1
  exact ⟨g', n2, fun a ha => h1 a (h2 a ha), r2⟩
theorem Shuf.swap {ds es : List D} {vs us : List V} (l : ds.length = vs.length) : Shuf (ds ++ es) (vs ++ us) (es ++ ds) (us ++ vs) := fun c O H f h n => by
  rw [List.map_append] at h
  obtain ⟨o1, o2, f1, f2, eo, rfl, l1, r1, r2⟩ := h.split
  obtain ⟨rfl, rfl⟩ := List.append_inj eo (by simp [l1, l])
  refine ⟨f2 ++ f1, ?_, fun a ha => by simp only [List.mem_append] at ha ⊢; exact ha.symm, by rw [List.map_append]; exact r2.app r1⟩
  simp only [List.nodup_append] at n ⊢
  exact ⟨n.2.1, n.1, fun a ha b hb e => n.2.2 b hb a ha e.symm⟩
theorem Shuf.app {ds es xs ys : List D} {vs us ps qs : List V} (l : ds.length = vs.length) (a : Shuf ds vs es us) (b : Shuf xs ps ys qs) : Shuf (ds ++ xs) (vs ++ ps) (es ++ ys) (us ++ qs) := fun c O H f h n => by
  rw [List.map_append] at h
  obtain ⟨o1, o2, f1, f2, eo, rfl, l1, r1, r2⟩ := h.split
  obtain ⟨rfl, rfl⟩ := List.append_inj eo (by simp [l1, l])
  simp only [List.nodup_append] at n
  obtain ⟨g1, n1, h1, k1⟩ := a c O H f1 r1 n.1
  obtain ⟨g2, n2, h2, k2⟩ := b c O H f2 r2 n.2.1
  refine ⟨g1 ++ g2, ?_, fun z hz => by simp only [List.mem_append] at hz ⊢; exact hz.imp (h1 z) (h2 z), by rw [List.map_append]; exact k1.app k2⟩
  simp only [List.nodup_append]
  exact ⟨n1, n2, fun z hz y hy => n.2.2 z (h1 z hz) y (h2 y hy)⟩
theorem Shuf.left {ds es : List D} {vs us : List V} (l : ds.length = vs.length) : Shuf (ds ++ es) (vs ++ us) ds vs := by
  have := Shuf.app l (Shuf.refl ds vs) (Shuf.nil es us)
  simpa using this
theorem Shuf.right {ds es : List D} {vs us : List V} (l : ds.length = vs.length) : Shuf (ds ++ es) (vs ++ us) es us := by
  have := Shuf.app l (Shuf.nil ds vs) (Shuf.refl es us)
  simpa using this
theorem Shuf.take {ds : List D} {vs : List V} (l : ds.length = vs.length) (n : Nat) : Shuf ds vs (ds.take n) (vs.take n) := by
  have := Shuf.left (ds := ds.take n) (es := ds.drop n) (vs := vs.take n) (us := vs.drop n) (by simp [l])
  simpa using this
theorem Shuf.drop {ds : List D} {vs : List V} (l : ds.length = vs.length) (n : Nat) : Shuf ds vs (ds.drop n) (vs.drop n) := by
  have := Shuf.right (ds := ds.take n) (es := ds.drop n) (vs := vs.take n) (us := vs.drop n) (by simp [l])
  simpa using this
theorem Shuf.rev : ∀ {ds : List D} {vs : List V}, ds.length = vs.length → Shuf ds vs ds.reverse vs.reverse
  | [], [], _ => Shuf.refl _ _
  | [], _ :: _, l => by simp at l
  | _ :: _, [], l => by simp at l
  | d :: ds, v :: vs, l => by
    have l' : ds.length = vs.length := by simpa using l
    have h1 : Shuf ([d] ++ ds) ([v] ++ vs) (ds ++ [d]) (vs ++ [v]) := Shuf.swap rfl
    have h2 := Shuf.app (xs := [d]) (ys := [d]) (ps := [v]) (qs := [v]) l' (Shuf.rev l') (Shuf.refl [d] [v])
    simpa using h1.trans h2
theorem Shuf.pick {ds : List D} {vs : List V} {i : Nat} {d : D} {v : V} (l : ds.length = vs.length) (e : ds[i]? = some d) (e' : vs[i]? = some v) : Shuf ds vs [d] [v] := by
  have h := (Shuf.drop l i).trans (Shuf.take (ds := ds.drop i) (vs := vs.drop i) (by simp [l]) 1)
  have e1 : (ds.drop i).take 1 = [d] := by
    rw [List.take_one, List.head?_drop, e]; rfl
  have e2 : (vs.drop i).take 1 = [v] := by
    rw [List.take_one, List.head?_drop, e']; rfl
  rw [e1, e2] at h
  exact h

theorem Wd.drop (w : Wd c B H (d :: ts) (v :: ws) Γ σ) : Wd c B H ts ws Γ σ :=
  Wd.shuf (ds := [d]) (us := [v]) (es := []) (xs := []) w rfl (Shuf.nil _ _)
theorem Wd.drops {ds : List D} {us : List V} (w : Wd c B H (ds ++ ts) (us ++ ws) Γ σ) (l : ds.length = us.length) : Wd c B H ts ws Γ σ :=
  Wd.shuf (es := []) (xs := []) w l (Shuf.nil _ _)

/-- a value that owns nothing -/
theorem Wd.push (w : Wd c B H ts ws Γ σ) (h : ∀ O, Rep c O H d v []) : Wd c B H (d :: ts) (v :: ws) Γ σ := by
  obtain ⟨ft, fs, w⟩ := w
  exact ⟨ft, fs, w.nd, w.nf, w.fh, w.kp, w.gr, RepS.cons (h _) w.rt, w.rs, w.nb, w.fx⟩
theorem Wd.int (w : Wd c B H ts ws Γ σ) (i : Int) : Wd c B H (.int i :: ts) (.int i :: ws) Γ σ := w.push fun _ => by rw [Rep]; exact ⟨rfl, rfl⟩
theorem Wd.bl (w : Wd c B H ts ws Γ σ) (i : Bool) : Wd c B H (.bl i :: ts) (.bl i :: ws) Γ σ := w.push fun _ => by rw [Rep]; exact ⟨rfl, rfl⟩
theorem Wd.str (w : Wd c B H ts ws Γ σ) (i : Str) : Wd c B H (.str i :: ts) (.str i :: ws) Γ σ := w.push fun _ => by rw [Rep]; exact ⟨rfl, rfl⟩
theorem Wd.non (w : Wd c B H ts ws Γ σ) : Wd c B H (.non :: ts) (.non :: ws) Γ σ := w.push fun _ => by rw [Rep]; exact ⟨rfl, rfl⟩

theorem nbs_mem {ds : List D} (h : D.nbs ds = true) {d : D} (m : d ∈ ds) : d.nb = true := by
  rw [nbs_all, List.all_eq_true] at h
  exact h d m
theorem nbs_set {ds : List D} (h : D.nbs ds = true) {d : D} (n : d.nb = true) (i : Nat) : D.nbs (ds.set i d) = true := by
  rw [nbs_all, List.all_eq_true] at h ⊢
  intro x hx
  rcases List.mem_or_eq_of_mem_set hx with z | z
  · exact h x z
  · rw [z]; exact n
theorem nbs_app {ds es : List D} : D.nbs (ds ++ es) = (D.nbs ds && D.nbs es) := by
  rw [nbs_all, nbs_all, nbs_all, List.all_append]

theorem slot_at {o1 o2 : List (Option V)} {o : Option V} {i : Nat} (l : o1.length = i) : (o1 ++ o :: o2)[i]? = some o := by
  rw [List.getElem?_append_right (by omega), l, Nat.sub_self]; rfl
/-- a slot's value is lent -/
theorem Wd.lend {i : Nat} (w : Wd c B H ts ws Γ σ) (e : Γ[i]? = some d) (na : d ≠ .any) : ∃ v, σ[i]? = some (some v) ∧ Wd c B H (d.bo :: ts) (v :: ws) Γ σ := by
  obtain ⟨ft, fs, w⟩ := w
  obtain ⟨o1, v, o2, p, f, q, rfl, l, rfl, k1, k2, k3⟩ := RepS.at w.rs e na
  refine ⟨v, slot_at l, ft, p ++ (f ++ q), w.nd, w.nf, w.fh, w.kp, w.gr, RepS.cons (k2.borrow fun a ha hz => ?_) w.rt, w.rs, w.nb, w.fx⟩
  have nd := w.nd
  simp only [List.nodup_append, List.mem_append] at nd
  exact nd.2.2 a hz a (.inr (.inl ha)) rfl
/-- a slot's value is given to all -/
theorem Wd.give {i : Nat} (w : Wd c B H ts ws Γ σ) (e : Γ[i]? = some d) (na : d ≠ .any) : ∃ v, σ[i]? = some (some v) ∧ Wd c B H (d.sh :: ts) (v :: ws) (Γ.set i d.sh) σ := by
  obtain ⟨ft, fs, w⟩ := w
  obtain ⟨o1, v, o2, p, f, q, rfl, l, rfl, k1, k2, k3⟩ := RepS.at w.rs e na
  have nd := w.nd
  have nb : d.nb = true := nbs_mem w.nb (List.mem_of_getElem? e)
  have ho : ∀ a o, H a = some o → ¬ (ow B ft (p ++ (f ++ q))).o a → ¬ (ow B ft (p ++ q)).o a := fun a o _ n z => n (by
    rcases z with z | z
    · refine .inl ?_
      simp only [List.mem_append] at z ⊢
      rcases z with z | z | z
      · exact .inl z
      · exact .inr (.inl z)
      · exact .inr (.inr (.inr z))
    · exact .inr z)
  have nds : (ft ++ (p ++ q)).Nodup := by
    simp only [List.nodup_append, List.mem_append] at nd ⊢
    refine ⟨nd.1, ⟨nd.2.1.1, nd.2.1.2.1.2.1, fun a ha b hb => nd.2.1.2.2 a ha b (.inr hb)⟩, fun a ha b hb => nd.2.2 a ha b (hb.imp (fun z => z) fun z => .inr z)⟩
  have sub : ∀ a ∈ ft ++ (p ++ q), a ∈ ft ++ (p ++ (f ++ q)) := by
    intro a ha
    simp only [List.mem_append] at ha ⊢
    rcases ha with z | z | z
    · exact .inl z
    · exact .inr (.inl z)
    · exact .inr (.inr (.inr z))
  have ks : Rep c (ow B ft (p ++ q)) H d.sh v [] := k2.share (.inl nb) (fun a ha z => by
    rcases z with z | z
    · simp only [List.nodup_append, List.mem_append] at nd z
      rcases z with z | z | z
      · exact nd.2.2 a z a (.inr (.inl ha)) rfl
      · exact nd.2.1.2.2 a z a (.inl ha) rfl
      · exact nd.2.1.2.1.2.2 a ha a z rfl
    · exact w.nf a (by simp [ha]) z) ho
  have nbl := w.nb
  have n1 : D.nbs (Γ.take i) = true := by
    rw [nbs_all, List.all_eq_true] at nbl ⊢
    exact fun x hx => nbl x (List.mem_of_mem_take hx)
  have n2 : D.nbs (Γ.drop (i + 1)) = true := by
    rw [nbs_all, List.all_eq_true] at nbl ⊢
    exact fun x hx => nbl x (List.mem_of_mem_drop hx)
  have nsh : ∀ d : D, d.sh.nb = true := by
    intro d
    have both : (∀ d : D, d.sh.nb = true) ∧ True := by
      refine ⟨fun d => ?_, trivial⟩
      induction d using D.rec (motive_2 := fun ds => D.nbs (D.shs ds) = true) with
      | nd f t ds ih => rw [D.sh, D.nb, ih]; rfl
      | tup ds ih => rw [D.sh, D.nb, ih]
      | nil => rfl
      | cons d ds h1 h2 => rw [D.shs, D.nbs, h1, h2]; rfl
      | _ => rfl
    exact both.1 d
  refine ⟨v, slot_at l, ft, p ++ q, nds, fun a ha => w.nf a (sub a ha), w.fh, w.kp, fun a ha => w.gr a (sub a ha), ?_, ?_, nbs_set w.nb (nsh d) i, w.fx⟩
  · exact RepS.cons ks (w.rt.stay (.inr fun a o eo n => ⟨eo, n⟩) (fun _ _ e _ => e) ho)
  · rw [set_at e]
    have := RepS.app (k1.stay (.inl n1) (fun _ _ e _ => e) ho) (RepS.cons ks (k3.stay (.inl n2) (fun _ _ e _ => e) ho))
    simpa using this
end
end Bx

namespace Bx
open PySem PySem.Spec L2

section
variable {c : Wc} {O O' : Ow} {H H' : Hp} {B : Bs} {ts as : List D} {ws vs : List V} {Γ : List D} {σ : L2.St} {ft fs : List Addr} {d : D} {v : V}

theorem W0.anew {gt gs : List Addr} {es : List D} {us : List V} {Δ : List D} {τ : L2.St} (w : W0 c B H ts ws Γ σ ft fs) (nd : (gt ++ gs).Nodup) (hs : ∀ a ∈ gt ++ gs, a ∈ ft ++ fs)
    (rt : RepS c (ow B gt gs) H es (us.map some) gt) (rs : RepS c (ow B gt gs) H Δ τ gs) (nb : D.nbs Δ = true) (fx : ∀ (i : Nat) (v : V), B.fx[i]? = some v → τ[i]? = some (some v)) : Wd c B H es us Δ τ :=
  ⟨gt, gs, nd, fun a ha => w.nf a (hs a ha), w.fh, w.kp, fun a ha => w.gr a (hs a ha), rt, rs, nb, fx⟩

theorem nbs_take {ds : List D} (h : D.nbs ds = true) (n : Nat) : D.nbs (ds.take n) = true := by
  rw [nbs_all, List.all_eq_true] at h ⊢
  exact fun x hx => h x (List.mem_of_mem_take hx)
theorem nbs_drop {ds : List D} (h : D.nbs ds = true) (n : Nat) : D.nbs (ds.drop n) = true := by
  rw [nbs_all, List.all_eq_true] at h ⊢
  exact fun x hx => h x (List.mem_of_mem_drop hx)

/-- a slot's value is moved out -/
theorem Wd.move {i : Nat} (w : Wd c B H ts ws Γ σ) (nbt : D.nbs ts = true) (e : Γ[i]? = some d) (na : d ≠ .any) : ∃ v, σ[i]? = some (some v) ∧ Wd c B H (d :: ts) (v :: ws) (Γ.set i .any) σ := by
  obtain ⟨ft, fs, w⟩ := w
  obtain ⟨o1, v, o2, p, f, q, rfl, l, rfl, k1, k2, k3⟩ := RepS.at w.rs e na
  have nd := w.nd
  have nb : d.nb = true := nbs_mem w.nb (List.mem_of_getElem? e)
  refine ⟨v, slot_at l, w.less (gt := f ++ ft) (gs := p ++ q) ?_ (fun a ha => ?_) (fun a _ => .inr ?_) (RepS.cons k2 w.rt) ?_ (nbs_set w.nb rfl i) w.fx⟩
  · simp only [List.nodup_append, List.mem_append] at nd ⊢
    refine ⟨⟨nd.2.1.2.1.1, nd.1, fun a ha b hb e => nd.2.2 b hb a (.inr (.inl ha)) e.symm⟩, ⟨nd.2.1.1, nd.2.1.2.1.2.1, fun a ha b hb => nd.2.1.2.2 a ha b (.inr hb)⟩, fun a ha b hb e => ?_⟩
    rcases ha with ha | ha
    · rcases hb with hb | hb
      · exact nd.2.1.2.2 b hb a (.inl ha) e.symm
      · exact nd.2.1.2.1.2.2 a ha b hb e
    · exact nd.2.2 a ha b (hb.imp (fun z => z) .inr) e
  · simp only [List.mem_append] at ha ⊢
    rcases ha with (z | z) | z | z
    · exact .inr (.inr (.inl z))
    · exact .inl z
    · exact .inr (.inl z)
    · exact .inr (.inr (.inr z))
  · rw [D.nbs, nb, nbt]; rfl
  · rw [set_at e]
    exact RepS.app k1 (RepS.hole k3)

theorem RepS.at' : ∀ {ds : List D} {os : List (Option V)} {fp : List Addr} {i : Nat}, RepS c O H ds os fp → i < ds.length →
    ∃ o1 o o2 p f q, os = o1 ++ o :: o2 ∧ o1.length = i ∧ fp = p ++ (f ++ q) ∧ RepS c O H (ds.take i) o1 p ∧ RepS c O H (ds.drop (i + 1)) o2 q
  | [], _, _, _, _, l => by simp at l
  | d :: ds, os, fp, 0, h, _ => by
    rw [RepS] at h
    obtain ⟨o, r, f1, f2, rfl, rfl, h1, h2⟩ := h
    exact ⟨[], o, r, [], f1, f2, rfl, rfl, rfl, by rw [List.take_zero, RepS]; exact ⟨rfl, rfl⟩, h2⟩
  | d :: ds, os, fp, i + 1, h, l => by
    rw [RepS] at h
    obtain ⟨o, r, f1, f2, rfl, rfl, h1, h2⟩ := h
    obtain ⟨o1, v, o2, p, f, q, rfl, l, rfl, k1, k2⟩ := RepS.at' h2 (by simpa using l)
    refine ⟨o :: o1, v, o2, f1 ++ p, f, q, rfl, by simp [l], by simp, ?_, k2⟩
    rw [List.take_succ_cons, RepS]
    exact ⟨o, o1, f1, p, rfl, rfl, h1, k1⟩
theorem set_len {α : Type} {ds : List α} {i : Nat} (h : i < ds.length) (x : α) : ds.set i x = ds.take i ++ x :: ds.drop (i + 1) := by
  rw [List.set_eq_take_append_cons_drop, if_pos h]
/-- a value is stored in a slot -/
theorem Wd.asg {i : Nat} (w : Wd c B H (d :: ts) (v :: ws) Γ σ) (n : d.nb = true) (hi : i < Γ.length) (hfx : B.fx.length ≤ i) : Wd c B H ts ws (Γ.set i d) (σ.set i (some v)) := by
  obtain ⟨ft, fs, w⟩ := w
  have rt := w.rt
  rw [List.map_cons, RepS] at rt
  obtain ⟨o, r, f1, f2, e, rfl, h1, h2⟩ := rt
  obtain ⟨rfl, rfl⟩ := List.cons.inj e
  obtain ⟨o1, o, o2, p, f, q, rfl, l, rfl, k1, k2⟩ := RepS.at' w.rs hi
  have nd := w.nd
  have es : (o1 ++ o :: o2).set i (some v) = o1 ++ some v :: o2 := by
    rw [List.set_append_right _ _ (by omega), l, Nat.sub_self]
    rfl
  have rs : RepS c (ow B (f1 ++ f2) (p ++ (f ++ q))) H (Γ.set i d) (o1 ++ some v :: o2) (p ++ (f1 ++ q)) := by
    rw [set_len hi]
    refine RepS.app k1 ?_
    rcases h1 with ⟨rfl, rfl⟩ | ⟨v', e', h1⟩
    · exact RepS.hole k2
    · cases e'
      exact RepS.cons h1 k2
  rw [es]
  refine w.less (gt := f2) (gs := p ++ (f1 ++ q)) ?_ (fun a ha => ?_) (fun a ha => .inl (by simp [ha])) h2 rs (nbs_set w.nb n i) fun j u ej => ?_
  · simp only [List.nodup_append, List.mem_append] at nd ⊢
    refine ⟨nd.1.2.1, ⟨nd.2.1.1, ⟨nd.1.1, nd.2.1.2.1.2.1, fun a ha b hb => nd.2.2 a (.inl ha) b (.inr (.inr hb))⟩, fun a ha b hb e => ?_⟩, fun a ha b hb e => ?_⟩
    · rcases hb with hb | hb
      · exact nd.2.2 b (.inl hb) a (.inl ha) e.symm
      · exact nd.2.1.2.2 a ha b (.inr hb) e
    · rcases hb with hb | hb | hb
      · exact nd.2.2 a (.inr ha) b (.inl hb) e
      · exact nd.1.2.2 b hb a ha e.symm
      · exact nd.2.2 a (.inr ha) b (.inr (.inr hb)) e
  · simp only [List.mem_append] at ha ⊢
    rcases ha with z | z | z | z
    · exact .inl (.inr z)
    · exact .inr (.inl z)
    · exact .inl (.inl z)
    · exact .inr (.inr (.inr z))
  · have hj : j < B.fx.length := (List.getElem?_eq_some_iff.mp ej).1
    have e1 := w.fx j u ej
    rw [List.getElem?_append_left (by omega)] at e1 ⊢
    exact e1

/-- the heap grows -/
theorem W0.ext (w : W0 c B H ts ws Γ σ ft fs) (k : ∀ a o, H a = some o → H' a = some o) : W0 c B H' ts ws Γ σ ft fs :=
  ⟨w.nd, w.nf, fun a ha => let ⟨o, e⟩ := w.fh a ha; ⟨o, k a o e⟩, fun a o e h => k a o (w.kp a o e h), w.gr, w.rt.stay (.inr fun a o e n => ⟨k a o e, n⟩) (fun a o e _ => k a o e) (fun _ _ _ n => n),
    w.rs.stay (.inl w.nb) (fun a o e _ => k a o e) (fun _ _ _ n => n), w.nb, w.fx⟩
theorem Wd.ext (w : Wd c B H ts ws Γ σ) (k : ∀ a o, H a = some o → H' a = some o) : Wd c B H' ts ws Γ σ := let ⟨ft, fs, w⟩ := w; ⟨ft, fs, w.ext k⟩
theorem upd_ext {p : Addr} {o : HO} (hp : H p = none) : ∀ a u, H a = some u → upd H p o a = some u := fun a u e => by
  rw [upd_ne (ne_of_none e hp)]; exact e
/-- one more own address -/
theorem W0.fresh (w : W0 c B H ts ws Γ σ ft fs) {p : Addr} (hp : H p = none) : p ∉ ft ++ fs ∧ ¬ B.F p ∧ (p ∈ B.f0 ∨ B.H0 p = none) := by
  refine ⟨fun z => ?_, fun z => ?_, ?_⟩
  · obtain ⟨o, e, _⟩ := w.there p z
    rw [hp] at e; cases e
  · obtain ⟨o, e⟩ := w.fh p z
    rw [hp] at e; cases e
  · by_cases h : p ∈ B.f0
    · exact .inl h
    · refine .inr ?_
      cases e : B.H0 p with
      | none => rfl
      | some o =>
        have := w.kp p o e (.inl h)
        rw [hp] at this; cases this
theorem RepS.grown {gt gs : List Addr} {es : List D} {os : List (Option V)} {fp : List Addr} {p : Addr} {o : HO} (h : RepS c (ow B ft fs) H es os fp) (hp : H p = none) (h1 : ∀ a ∈ gt ++ gs, a = p ∨ a ∈ ft ++ fs) (h2 : ∀ a ∈ gt, a = p ∨ a ∈ ft) :
    RepS c (ow B gt gs) (upd H p o) es os fp :=
  h.stay (.inr fun a u e n => ⟨upd_ext hp a u e, fun z => (h2 a z).elim (fun q => by subst q; rw [hp] at e; cases e) n⟩) (fun a u e _ => upd_ext hp a u e) fun a u e n z => by
    rcases z with z | z
    · rcases h1 a z with rfl | z
      · rw [hp] at e; cases e
      · exact n (.inl z)
    · exact n (.inr z)
/-- a new object at p, owned by a passing value -/
theorem W0.newp {gt : List Addr} {es : List D} {us : List V} {p : Addr} {o : HO} (w : W0 c B H ts ws Γ σ ft fs) (hp : H p = none) (nd : (gt ++ fs).Nodup) (h1 : ∀ a ∈ gt, a = p ∨ a ∈ ft)
    (rt : RepS c (ow B gt fs) (upd H p o) es (us.map some) gt) : Wd c B (upd H p o) es us Γ σ := by
  obtain ⟨n1, n2, n3⟩ := w.fresh hp
  have h1' : ∀ a ∈ gt ++ fs, a = p ∨ a ∈ ft ++ fs := fun a ha => by
    rcases List.mem_append.mp ha with z | z
    · exact (h1 a z).imp (fun z => z) fun z => List.mem_append_left _ z
    · exact .inr (List.mem_append_right _ z)
  refine ⟨gt, fs, nd, fun a ha => ?_, fun a ha => let ⟨u, e⟩ := w.fh a ha; ⟨u, upd_ext hp a u e⟩, fun a u e h => upd_ext hp a u (w.kp a u e h), fun a ha => ?_, rt, w.rs.grown hp h1' h1, w.nb, w.fx⟩
  · rcases h1' a ha with rfl | z
    · exact n2
    · exact w.nf a z
  · rcases h1' a ha with rfl | z
    · exact n3
    · exact w.gr a z
theorem Wd.alloc {ds : List D} {us : List V} {p : Addr} {o : HO} {t : Tag} (w : Wd c B H (ds ++ ts) (us ++ ws) Γ σ) (l : ds.length = us.length) (hp : H p = none) (ha : AtR c (upd H p o) p t us) :
    Wd c B (upd H p o) (.nd .own t ds :: ts) (.ref p :: ws) Γ σ := by
  obtain ⟨ft, fs, w⟩ := w
  obtain ⟨n1, n2, n3⟩ := w.fresh hp
  have rt := w.rt
  rw [List.map_append] at rt
  obtain ⟨o1, o2, f1, f2, eo, rfl, l1, r1, r2⟩ := rt.split
  obtain ⟨rfl, rfl⟩ := List.append_inj eo (by simp [l1, l])
  have g1 : ∀ a ∈ (p :: f1) ++ f2, a = p ∨ a ∈ f1 ++ f2 := fun a ha => List.mem_cons.mp ha
  have g2 : ∀ a ∈ ((p :: f1) ++ f2) ++ fs, a = p ∨ a ∈ (f1 ++ f2) ++ fs := fun a ha => List.mem_cons.mp ha
  refine w.newp (gt := (p :: f1) ++ f2) hp (List.nodup_cons.mpr ⟨n1, w.nd⟩) g1 ?_
  refine RepS.cons ?_ (r2.grown hp g2 g1)
  rw [Rep]
  exact ⟨p, us, f1, rfl, ha, r1.grown hp g2 g1, rfl⟩
theorem Wd.alloct {ds : List D} {us : List V} {p : Addr} (w : Wd c B H (ds ++ ts) (us ++ ws) Γ σ) (l : ds.length = us.length) (hp : H p = none) :
    Wd c B (upd H p (.tup us)) (.tup ds :: ts) (.ref p :: ws) Γ σ := by
  obtain ⟨ft, fs, w⟩ := w
  have rt := w.rt
  rw [List.map_append] at rt
  obtain ⟨o1, o2, f1, f2, eo, rfl, l1, r1, r2⟩ := rt.split
  obtain ⟨rfl, rfl⟩ := List.append_inj eo (by simp [l1, l])
  refine w.newp (gt := f1 ++ f2) hp w.nd (fun a ha => .inr ha) ?_
  refine RepS.cons ?_ (r2.grown hp (fun a ha => .inr ha) fun a ha => .inr ha)
  rw [Rep]
  exact ⟨p, us, rfl, upd_same, r1.grown hp (fun a ha => .inr ha) fun a ha => .inr ha⟩

/-- a passing value's node is let go, its children stay -/
theorem Wd.opn {f : Fl} {t : Tag} {ds : List D} (w : Wd c B H (.nd f t ds :: ts) (v :: ws) Γ σ) : ∃ a us, v = .ref a ∧ AtR c H a t us ∧ ds.length = us.length ∧ Wd c B H (ds ++ ts) (us ++ ws) Γ σ := by
  obtain ⟨ft, fs, w⟩ := w
  have rt := w.rt
  rw [List.map_cons, RepS] at rt
  obtain ⟨o, r, f1, f2, e, rfl, h1, h2⟩ := rt
  obtain ⟨rfl, rfl⟩ := List.cons.inj e
  rcases h1 with ⟨z, _⟩ | ⟨v', e', h1⟩
  · cases z
  · cases e'
    rw [Rep] at h1
    obtain ⟨a, us, fq, rfl, ha, hq, hf⟩ := h1
    have l : ds.length = us.length := by simpa using hq.len
    have sub : ∀ b ∈ fq, b ∈ f1 := fun b hb => by
      cases f with
      | own => have hf' : f1 = a :: fq := hf; rw [hf']; exact List.mem_cons_of_mem _ hb
      | shr => have hf' : ¬ (ow B (f1 ++ f2) fs).o a ∧ fq = [] ∧ f1 = [] := hf; rw [hf'.2.1] at hb; cases hb
      | bor => have hf' : ¬ (ow B (f1 ++ f2) fs).t a ∧ fq = [] ∧ f1 = [] := hf; rw [hf'.2.1] at hb; cases hb
    have ndq : fq.Nodup := by
      have n1 : f1.Nodup := (List.nodup_append.mp (List.nodup_append.mp w.nd).1).1
      cases f with
      | own => have hf' : f1 = a :: fq := hf; rw [hf'] at n1; exact (List.nodup_cons.mp n1).2
      | shr => have hf' : ¬ (ow B (f1 ++ f2) fs).o a ∧ fq = [] ∧ f1 = [] := hf; rw [hf'.2.1]; exact List.nodup_nil
      | bor => have hf' : ¬ (ow B (f1 ++ f2) fs).t a ∧ fq = [] ∧ f1 = [] := hf; rw [hf'.2.1]; exact List.nodup_nil
    refine ⟨a, us, rfl, ha, l, w.less (gt := fq ++ f2) (gs := fs) ?_ (fun b hb => ?_) (fun b hb => .inl ?_) (by rw [List.map_append]; exact hq.app h2) w.rs w.nb w.fx⟩
    · have nd := w.nd
      simp only [List.nodup_append, List.mem_append] at nd ⊢
      exact ⟨⟨ndq, nd.1.2.1, fun a ha b hb => nd.1.2.2 a (sub a ha) b hb⟩, nd.2.1, fun a ha b hb => nd.2.2 a (ha.imp (sub a) fun z => z) b hb⟩
    · simp only [List.mem_append] at hb ⊢
      exact hb.imp (fun z => z.imp (sub b) fun z => z) fun z => z
    · simp only [List.mem_append] at hb ⊢
      exact hb.imp (sub b) fun z => z
theorem Wd.opnt {ds : List D} (w : Wd c B H (.tup ds :: ts) (v :: ws) Γ σ) : ∃ a us, v = .ref a ∧ H a = some (.tup us) ∧ ds.length = us.length ∧ Wd c B H (ds ++ ts) (us ++ ws) Γ σ := by
  obtain ⟨ft, fs, w⟩ := w
  have rt := w.rt
  rw [List.map_cons, RepS] at rt
  obtain ⟨o, r, f1, f2, e, rfl, h1, h2⟩ := rt
  obtain ⟨rfl, rfl⟩ := List.cons.inj e
  rcases h1 with ⟨z, _⟩ | ⟨v', e', h1⟩
  · cases z
  · cases e'
    rw [Rep] at h1
    obtain ⟨a, us, rfl, ha, hq⟩ := h1
    have l : ds.length = us.length := by simpa using hq.len
    exact ⟨a, us, rfl, ha, l, w.less (gt := f1 ++ f2) (gs := fs) w.nd (fun b hb => hb) (fun b hb => .inl hb) (by rw [List.map_append]; exact hq.app h2) w.rs w.nb w.fx⟩
/-- what a passing value is, where the others stay as they are -/
theorem Wd.peek {f : Fl} {t : Tag} {ds : List D} (w : Wd c B H (.nd f t ds :: ts) (v :: ws) Γ σ) : ∃ a us, v = .ref a ∧ AtR c H a t us ∧ ds.length = us.length :=
  let ⟨a, us, h1, h2, h3, _⟩ := w.opn; ⟨a, us, h1, h2, h3⟩

mutual
theorem Rep.unn : ∀ {d : D} {v : V} {f : List Addr}, Rep c O H d.un v f → f = []
  | .non, _, _, h => by
    have h' : Rep c O H .non _ _ := h
    rw [Rep] at h'; exact h'.2
  | .any, _, _, h => by
    have h' : Rep c O H .any _ _ := h
    rw [Rep] at h'; exact h'
  | .bl z, _, _, h => by
    have h' : Rep c O H (.bl z) _ _ := h
    rw [Rep] at h'; exact h'.2
  | .int z, _, _, h => by
    have h' : Rep c O H (.int z) _ _ := h
    rw [Rep] at h'; exact h'.2
  | .str z, _, _, h => by
    have h' : Rep c O H (.str z) _ _ := h
    rw [Rep] at h'; exact h'.2
  | .scr z, _, _, h => by
    have h' : Rep c O H (.scr z) _ _ := h
    rw [Rep] at h'; exact h'.2
  | .tup ds, _, _, h => by
    rw [D.un, Rep] at h
    obtain ⟨_, _, _, _, q⟩ := h
    exact RepS.unn q
  | .nd f t ds, _, _, h => by
    rw [D.un, Rep] at h
    obtain ⟨_, _, fq, _, _, q, z⟩ := h
    cases f with
    | own => exact z.2.2
    | shr => exact z.2.2
    | bor => exact z.2.2
theorem RepS.unn : ∀ {ds : List D} {os : List (Option V)} {f : List Addr}, RepS c O H (D.uns ds) os f → f = []
  | [], _, _, h => by
    have h' : RepS c O H [] _ _ := h
    rw [RepS] at h'; exact h'.2
  | d :: ds, _, _, h => by
    rw [D.uns, RepS] at h
    obtain ⟨o, r, f1, f2, _, rfl, h1, h2⟩ := h
    rw [RepS.unn h2]
    rcases h1 with ⟨_, rfl⟩ | ⟨_, _, h1⟩
    · rfl
    · rw [Rep.unn h1]; rfl
end

/-- the children of a passing value are nobody's -/
theorem Wd.uncs {f : Fl} {t : Tag} {ds : List D} (w : Wd c B H (.nd f t ds :: ts) (v :: ws) Γ σ) : Wd c B H (.nd f t (D.uns ds) :: ts) (v :: ws) Γ σ := by
  obtain ⟨ft, fs, w⟩ := w
  have rt := w.rt
  rw [List.map_cons, RepS] at rt
  obtain ⟨o, r, f1, f2, e, rfl, h1, h2⟩ := rt
  obtain ⟨rfl, rfl⟩ := List.cons.inj e
  rcases h1 with ⟨z, _⟩ | ⟨v', e', h1⟩
  · cases z
  · cases e'
    rw [Rep] at h1
    obtain ⟨a, us, fq, rfl, ha, hq, hf⟩ := h1
    -- the new own part
    obtain ⟨g, hg, hgn⟩ : ∃ g : List Addr, (match f with | .own => g = [a] | _ => g = []) ∧ ((g ++ f2) ++ fs).Nodup := by
      have nd := w.nd
      cases f with
      | own =>
        have hf' : f1 = a :: fq := hf
        subst hf'
        refine ⟨[a], rfl, ?_⟩
        simp only [List.nodup_append, List.mem_append, List.nodup_cons, List.mem_cons] at nd ⊢
        exact ⟨⟨⟨by simp, List.nodup_nil⟩, nd.1.2.1, fun x hx b hb => nd.1.2.2 x (.inl (by simpa using hx)) b hb⟩, nd.2.1, fun x hx b hb => nd.2.2 x (hx.imp (fun z => .inl (by simpa using z)) fun z => z) b hb⟩
      | shr =>
        have hf' : ¬ (ow B (f1 ++ f2) fs).o a ∧ fq = [] ∧ f1 = [] := hf
        rw [hf'.2.2] at nd
        exact ⟨[], rfl, nd⟩
      | bor =>
        have hf' : ¬ (ow B (f1 ++ f2) fs).t a ∧ fq = [] ∧ f1 = [] := hf
        rw [hf'.2.2] at nd
        exact ⟨[], rfl, nd⟩
    have gsub : ∀ b ∈ g, b ∈ f1 := fun b hb => by
      cases f with
      | own =>
        have hf' : f1 = a :: fq := hf
        have hg' : g = [a] := hg
        rw [hg'] at hb; rw [hf']; simp at hb; simp [hb]
      | shr => have hg' : g = [] := hg; rw [hg'] at hb; cases hb
      | bor => have hg' : g = [] := hg; rw [hg'] at hb; cases hb
    have fqsub : ∀ b ∈ fq, b ∈ f1 ∧ b ∉ g := fun b hb => by
      have nd := w.nd
      cases f with
      | own =>
        have hf' : f1 = a :: fq := hf
        have hg' : g = [a] := hg
        subst hf'
        simp only [List.nodup_append, List.nodup_cons] at nd
        rw [hg']
        refine ⟨List.mem_cons_of_mem _ hb, fun z => ?_⟩
        have z' : b = a := by simpa using z
        subst z'
        exact nd.1.1.1 hb
      | shr => have hf' : ¬ (ow B (f1 ++ f2) fs).o a ∧ fq = [] ∧ f1 = [] := hf; rw [hf'.2.1] at hb; cases hb
      | bor => have hf' : ¬ (ow B (f1 ++ f2) fs).t a ∧ fq = [] ∧ f1 = [] := hf; rw [hf'.2.1] at hb; cases hb
    have s1 : ∀ b ∈ (g ++ f2) ++ fs, b ∈ (f1 ++ f2) ++ fs := fun b hb => by
      simp only [List.mem_append] at hb ⊢
      exact hb.imp (fun z => z.imp (gsub b) fun z => z) fun z => z
    have s2 : ∀ b ∈ g ++ f2, b ∈ f1 ++ f2 := fun b hb => by
      simp only [List.mem_append] at hb ⊢
      exact hb.imp (gsub b) fun z => z
    have ho : ∀ b o, H b = some o → ¬ (ow B (f1 ++ f2) fs).o b → ¬ (ow B (g ++ f2) fs).o b := fun b o _ n z => n (z.imp (s1 b) fun z => z)
    have htt : ∀ b o, H b = some o → ¬ (ow B (f1 ++ f2) fs).t b → ¬ (ow B (g ++ f2) fs).t b := fun b o _ n z => n (s2 b z)
    refine w.anew (gt := g ++ f2) (gs := fs) hgn s1 ?_ (w.rs.stay (.inl w.nb) (fun _ _ e _ => e) ho) w.nb w.fx
    have h2' := h2.stay (O' := ow B (g ++ f2) fs) (.inr fun b o e n => ⟨e, htt b o e n⟩) (fun _ _ e _ => e) ho
    refine RepS.cons (f := g) ?_ h2'
    have hq' : RepS c (ow B (g ++ f2) fs) H (D.uns ds) (us.map some) [] := hq.unown (.inr htt) (fun b hb z => ?_) ho
    · rw [Rep]
      refine ⟨a, us, [], rfl, ha, hq', ?_⟩
      obtain ⟨o, eo, _⟩ := ha.ex
      cases f with
      | own => exact hg
      | shr =>
        have hf' : ¬ (ow B (f1 ++ f2) fs).o a ∧ fq = [] ∧ f1 = [] := hf
        exact ⟨ho a o eo hf'.1, rfl, hg⟩
      | bor =>
        have hf' : ¬ (ow B (f1 ++ f2) fs).t a ∧ fq = [] ∧ f1 = [] := hf
        exact ⟨htt a o eo hf'.1, rfl, hg⟩
    · have nd := w.nd
      obtain ⟨m1, m2⟩ := fqsub b hb
      rcases z with z | z
      · simp only [List.nodup_append, List.mem_append] at nd z
        rcases z with (z | z) | z
        · exact m2 z
        · exact nd.1.2.2 b m1 b z rfl
        · exact nd.2.2 b (.inl m1) b z rfl
      · exact w.nf b (by simp [m1]) z
/-- one of them, once more -/
theorem Wd.item {f : Fl} {t : Tag} {ds : List D} {i : Nat} {a : Addr} {us : List V} {x : D} {u : V} (w : Wd c B H (.nd f t (D.uns ds) :: ts) (.ref a :: ws) Γ σ) (ha : AtR c H a t us) (e : (D.uns ds)[i]? = some x) (eu : us[i]? = some u) :
    Wd c B H (x :: .nd f t (D.uns ds) :: ts) (u :: .ref a :: ws) Γ σ := by
  by_cases na : x = .any
  · subst na
    exact w.push fun O => by rw [Rep]
  obtain ⟨ft, fs, w⟩ := w
  have rt := w.rt
  rw [List.map_cons, RepS] at rt
  obtain ⟨o, r, f1, f2, e0, rfl, h1, h2⟩ := rt
  obtain ⟨rfl, rfl⟩ := List.cons.inj e0
  rcases h1 with ⟨z, _⟩ | ⟨v', e', h1⟩
  · cases z
  · cases e'
    have h1' := h1
    rw [Rep] at h1
    obtain ⟨a', us', fq, e1, ha', hq, hf⟩ := h1
    cases e1
    have e2 := AtR.det ha ha'
    subst e2
    have hn := RepS.unn hq
    subst hn
    obtain ⟨o1, u', o2, p, g, q, eo, lo, ef, k1, k2, k3⟩ := RepS.at hq e na
    have eg : g = [] := by
      simp at ef
      exact ef.2.1
    subst eg
    have eu' : (us.map some)[i]? = some (some u') := by rw [eo]; exact slot_at lo
    have e3 : u' = u := by
      rw [List.getElem?_map, eu] at eu'
      simpa using eu'.symm
    subst e3
    exact ⟨[] ++ (f1 ++ f2), fs, w.nd, w.nf, w.fh, w.kp, w.gr, RepS.cons k2 w.rt, w.rs, w.nb, w.fx⟩
theorem Wd.uncst {ds : List D} (w : Wd c B H (.tup ds :: ts) (v :: ws) Γ σ) : Wd c B H (.tup (D.uns ds) :: ts) (v :: ws) Γ σ := by
  obtain ⟨ft, fs, w⟩ := w
  have rt := w.rt
  rw [List.map_cons, RepS] at rt
  obtain ⟨o, r, f1, f2, e, rfl, h1, h2⟩ := rt
  obtain ⟨rfl, rfl⟩ := List.cons.inj e
  rcases h1 with ⟨z, _⟩ | ⟨v', e', h1⟩
  · cases z
  · cases e'
    rw [Rep] at h1
    obtain ⟨a, us, rfl, ha, hq⟩ := h1
    have nd := w.nd
    have s1 : ∀ b ∈ f2 ++ fs, b ∈ (f1 ++ f2) ++ fs := fun b hb => by
      simp only [List.mem_append] at hb ⊢
      exact hb.imp .inr fun z => z
    have ho : ∀ b o, H b = some o → ¬ (ow B (f1 ++ f2) fs).o b → ¬ (ow B f2 fs).o b := fun b o _ n z => n (z.imp (s1 b) fun z => z)
    have htt : ∀ b o, H b = some o → ¬ (ow B (f1 ++ f2) fs).t b → ¬ (ow B f2 fs).t b := fun b o _ n z => n (List.mem_append_right _ z)
    refine w.anew (gt := f2) (gs := fs) ?_ s1 ?_ (w.rs.stay (.inl w.nb) (fun _ _ e _ => e) ho) w.nb w.fx
    · simp only [List.nodup_append, List.mem_append] at nd ⊢
      exact ⟨nd.1.2.1, nd.2.1, fun x hx b hb => nd.2.2 x (.inr hx) b hb⟩
    have h2' := h2.stay (O' := ow B f2 fs) (.inr fun b o e n => ⟨e, htt b o e n⟩) (fun _ _ e _ => e) ho
    refine RepS.cons (f := []) ?_ h2'
    have hq' : RepS c (ow B f2 fs) H (D.uns ds) (us.map some) [] := hq.unown (.inr htt) (fun b hb z => ?_) ho
    · rw [Rep]
      exact ⟨a, us, rfl, ha, hq'⟩
    · rcases z with z | z
      · simp only [List.nodup_append, List.mem_append] at nd z
        rcases z with z | z
        · exact nd.1.2.2 b hb b z rfl
        · exact nd.2.2 b (.inl hb) b z rfl
      · exact w.nf b (by simp [hb]) z
theorem Wd.itemt {ds : List D} {i : Nat} {a : Addr} {us : List V} {x : D} {u : V} (w : Wd c B H (.tup (D.uns ds) :: ts) (.ref a :: ws) Γ σ) (ha : H a = some (.tup us)) (e : (D.uns ds)[i]? = some x) (eu : us[i]? = some u) :
    Wd c B H (x :: .tup (D.uns ds) :: ts) (u :: .ref a :: ws) Γ σ := by
  by_cases na : x = .any
  · subst na
    exact w.push fun O => by rw [Rep]
  obtain ⟨ft, fs, w⟩ := w
  have rt := w.rt
  rw [List.map_cons, RepS] at rt
  obtain ⟨o, r, f1, f2, e0, rfl, h1, h2⟩ := rt
  obtain ⟨rfl, rfl⟩ := List.cons.inj e0
  rcases h1 with ⟨z, _⟩ | ⟨v', e', h1⟩
  · cases z
  · cases e'
    rw [Rep] at h1
    obtain ⟨a', us', e1, ha', hq⟩ := h1
    cases e1
    rw [ha] at ha'
    cases ha'
    have hn := RepS.unn hq
    subst hn
    obtain ⟨o1, u', o2, p, g, q, eo, lo, ef, k1, k2, k3⟩ := RepS.at hq e na
    have eg : g = [] := by
      simp at ef
      exact ef.2.1
    subst eg
    have eu' : (us.map some)[i]? = some (some u') := by rw [eo]; exact slot_at lo
    have e3 : u' = u := by
      rw [List.getElem?_map, eu] at eu'
      simpa using eu'.symm
    subst e3
    exact ⟨[] ++ ([] ++ f2), fs, w.nd, w.nf, w.fh, w.kp, w.gr, RepS.cons k2 w.rt, w.rs, w.nb, w.fx⟩
end
end Bx

namespace Bx
open PySem PySem.Spec L2

section
variable {c : Wc} {O O' : Ow} {H H' : Hp} {B : Bs} {ts as : List D} {ws vs : List V} {Γ : List D} {σ : L2.St} {ft fs : List Addr} {d : D} {v : V}

theorem setp_nb : ∀ {r : List Nat} {d x : D}, d.nb = true → x.nb = true → (D.setp r d x).nb = true
  | [], _, _, _, h => by simpa [D.setp] using h
  | k :: r, d, x, h, h' => by
    cases d with
    | nd f t ds =>
      rw [D.setp, D.nb]
      rw [D.nb, Bool.and_eq_true] at h
      rw [Bool.and_eq_true]
      refine ⟨h.1, ?_⟩
      by_cases hk : k < ds.length
      · refine nbs_set h.2 (setp_nb (nbs_mem h.2 (d := ds.getD k .any) ?_) h') k
        rw [List.getD_eq_getElem?_getD, List.getElem?_eq_getElem hk]
        exact List.getElem_mem hk
      · rw [List.set_eq_of_length_le (by omega)]
        exact h.2
    | _ => simpa [D.setp] using h

/-- a node of a slot's value, reached through own nodes; another may take its place -/
theorem W0.node {i : Nat} {r : List Nat} {d1 : D} (w : W0 c B H ts ws Γ σ ft fs) (e : Γ[i]? = some d) (g : D.getp r d = some d1) (na : d1 ≠ .any) :
    ∃ v v1 p f q, σ[i]? = some (some v) ∧ PV c H v r v1 ∧ fs = p ++ (f ++ q) ∧ Rep c (ow B ft fs) H d1 v1 f ∧ ∀ {O' : Ow} {H' : Hp} {d1' : D} {f' : List Addr}, (∀ a o, H a = some o → (a ∉ f ∨ Imm o) → H' a = some o) →
      (∀ a o, H a = some o → ¬ (ow B ft fs).o a → ¬ O'.o a) → Rep c O' H' d1' v1 f' → RepS c O' H' (Γ.set i (D.setp r d d1')) σ (p ++ (f' ++ q)) := by
  have nad : d ≠ .any := by
    rintro rfl
    cases r with
    | nil => exact na (by simpa [D.getp] using g.symm)
    | cons _ _ => simp [D.getp] at g
  obtain ⟨o1, v, o2, p, f, q, rfl, l, rfl, k1, k2, k3⟩ := RepS.at w.rs e nad
  have nd := w.nd
  have nds : (p ++ (f ++ q)).Nodup := (List.nodup_append.mp nd).2.1
  have ndf : f.Nodup := (List.nodup_append.mp (List.nodup_append.mp nds).2.1).1
  have hO : ∀ a ∈ p ++ (f ++ q), (ow B ft (p ++ (f ++ q))).o a := fun a ha => .inl (List.mem_append_right _ ha)
  obtain ⟨v1, p1, f1, q1, rfl, m1, m2, m3⟩ := Rep.path k2 ndf (fun a ha => hO a (by simp [ha])) g na
  refine ⟨v, v1, p ++ p1, f1, q1 ++ q, slot_at l, m1, by simp, m2, fun {O' H' d1' f'} hk ho m => ?_⟩
  have hdj : ∀ b, b ∈ p ∨ b ∈ q → b ∉ f1 := by
    intro b hb hf
    simp only [List.nodup_append, List.mem_append] at nds
    rcases hb with hb | hb
    · exact nds.2.2 b hb b (.inl (.inr (.inl hf))) rfl
    · exact nds.2.1.2.2 b (.inr (.inl hf)) b hb rfl
  have st : ∀ {fz : List Addr}, (∀ b ∈ fz, b ∉ f1) → ∀ b o, H b = some o → (b ∈ fz ∨ ¬ (ow B ft (p ++ ((p1 ++ (f1 ++ q1)) ++ q))).o b ∨ Imm o) → H' b = some o := fun hz b o eb hb => by
    rcases hb with hb | hb | hb
    · exact hk b o eb (.inl (hz b hb))
    · exact hk b o eb (.inl fun z => hb (hO b (by simp [z])))
    · exact hk b o eb (.inr hb)
  have q1' := RepS.stay (O' := O') (H' := H') k1 (.inl (nbs_take w.nb i)) (st fun b hb => hdj b (.inl hb)) ho
  have q3' := RepS.stay (O' := O') (H' := H') k3 (.inl (nbs_drop w.nb (i + 1))) (st fun b hb => hdj b (.inr hb)) ho
  have q2' := m3 (nbs_mem w.nb (List.mem_of_getElem? e)) hk ho m
  rw [set_at e]
  have := RepS.app q1' (RepS.cons q2' q3')
  simpa using this

/-- an object of a slot's value is changed; passing values go into it, or come out of it -/
theorem Wd.write {i : Nat} {r : List Nat} {t : Tag} {ds es : List D} {us : List V} (w : Wd c B H (es ++ ts) (us ++ ws) Γ σ) (hlk : c.lk = []) (l : es.length = us.length) (nbt : D.nbs ts = true) (e : Γ[i]? = some d) (g : D.getp r d = some (.nd .own t ds)) :
    ∃ v a cs, σ[i]? = some (some v) ∧ PV c H v r (.ref a) ∧ AtR c H a t cs ∧ ds.length = cs.length ∧
      ∀ {t' : Tag} {o' : HO} {ds' rs : List D} {cs' xs : List V}, AtR c (upd H a o') a t' cs' → D.nbs (rs ++ ds') = true → rs.length = xs.length → Shuf (es ++ ds) (us ++ cs) (rs ++ ds') (xs ++ cs') →
        Wd c B (upd H a o') (rs ++ ts) (xs ++ ws) (Γ.set i (D.setp r d (.nd .own t' ds'))) σ := by
  obtain ⟨ft, fs, w⟩ := w
  obtain ⟨v, v1, p, f, q, hv, hp, rfl, m2, m3⟩ := w.node e g (by simp)
  have m2' := m2
  rw [Rep] at m2
  obtain ⟨a, cs, fq, rfl, ha, hq, hf⟩ := m2
  have hf' : f = a :: fq := hf
  subst hf'
  have lc : ds.length = cs.length := by simpa using hq.len
  have rt := w.rt
  rw [List.map_append] at rt
  obtain ⟨o1, o2, fe, f2, eo, rfl, l1, r1, r2⟩ := rt.split
  obtain ⟨rfl, rfl⟩ := List.append_inj eo (by simp [l1, l])
  refine ⟨v, a, cs, hv, hp, ha, lc, fun {t' o' ds' rs cs' xs} ha' nbr lr sh => ?_⟩
  have nd := w.nd
  have nd0 : (fe ++ fq).Nodup := by
    simp only [List.nodup_append, List.mem_append, List.nodup_cons, List.mem_cons] at nd ⊢
    exact ⟨nd.1.1, nd.2.1.2.1.1.2, fun x hx y hy => nd.2.2 x (.inl hx) y (.inr (.inl (.inr hy)))⟩
  have hall := r1.app hq
  rw [← List.map_append] at hall
  obtain ⟨g0, ng, hg, rg⟩ := sh c _ H _ hall nd0
  rw [List.map_append] at rg
  obtain ⟨p1, p2, gr, g', eg, rfl, lg, k1, k2⟩ := rg.split
  obtain ⟨rfl, rfl⟩ := List.append_inj eg (by simp [lg, lr])
  -- what is new
  have ane : ∀ b, b ∈ fe ∨ b ∈ fq ∨ b ∈ f2 ∨ b ∈ p ∨ b ∈ q → b ≠ a := by
    intro b hb z
    subst z
    simp only [List.nodup_append, List.mem_append, List.nodup_cons, List.mem_cons] at nd
    rcases hb with hb | hb | hb | hb | hb
    · exact nd.2.2 b (.inl hb) b (.inr (.inl (.inl rfl))) rfl
    · exact nd.2.1.2.1.1.1 hb
    · exact nd.2.2 b (.inr hb) b (.inr (.inl (.inl rfl))) rfl
    · exact nd.2.1.2.2 b hb b (.inl (.inl rfl)) rfl
    · exact nd.2.1.2.1.2.2 b (.inl rfl) b hb rfl
  have ao : (ow B (fe ++ f2) (p ++ (a :: fq ++ q))).o a := .inl (by simp)
  have nf1 : D.nbs rs = true ∧ D.nbs ds' = true := by
    rw [nbs_app, Bool.and_eq_true] at nbr
    exact nbr
  obtain ⟨oa, eoa, nim0⟩ := ha.ex
  have nim := (nim0 (by simp [hlk])).1
  have subg : ∀ b ∈ gr ++ g', b ∈ fe ∨ b ∈ fq := fun b hb => List.mem_append.mp (hg b hb)
  have sub : ∀ b, b ∈ (gr ++ f2) ++ (p ++ ((a :: g') ++ q)) → b ∈ (fe ++ f2) ++ (p ++ (a :: fq ++ q)) := by
    intro b hb
    have h1 := subg b
    simp only [List.mem_append, List.mem_cons] at hb h1 ⊢
    rcases hb with (hb | hb) | hb | (hb | hb) | hb
    · rcases h1 (.inl hb) with z | z
      · exact .inl (.inl z)
      · exact .inr (.inr (.inl (.inr z)))
    · exact .inl (.inr hb)
    · exact .inr (.inl hb)
    · exact .inr (.inr (.inl (.inl hb)))
    · rcases h1 (.inr hb) with z | z
      · exact .inl (.inl z)
      · exact .inr (.inr (.inl (.inr z)))
    · exact .inr (.inr (.inr hb))
  have ho : ∀ b o, H b = some o → ¬ (ow B (fe ++ f2) (p ++ (a :: fq ++ q))).o b → ¬ (ow B (gr ++ f2) (p ++ ((a :: g') ++ q))).o b := fun b o _ n z => n (z.imp (sub b) fun z => z)
  have hk : ∀ b o, H b = some o → (b ≠ a ∨ Imm o) → upd H a o' b = some o := fun b o eb hb => by
    by_cases z : b = a
    · subst z
      rw [eoa] at eb; cases eb
      exact absurd (hb.resolve_left fun n => n rfl) nim
    · rw [upd_ne z]; exact eb
  have st : ∀ {es : List D} {os : List (Option V)} {fz : List Addr}, RepS c (ow B (fe ++ f2) (p ++ (a :: fq ++ q))) H es os fz → D.nbs es = true → (∀ b ∈ fz, b ≠ a) → RepS c (ow B (gr ++ f2) (p ++ ((a :: g') ++ q))) (upd H a o') es os fz := fun h n hz =>
    h.stay (.inl n) (fun b o eb hb => hk b o eb (by
      rcases hb with hb | hb | hb
      · exact .inl (hz b hb)
      · exact .inl fun z => hb (by rw [z]; exact ao)
      · exact .inr hb)) ho
  have nodup' : ((gr ++ f2) ++ (p ++ ((a :: g') ++ q))).Nodup := by
    have hs := subg
    have hne := ane a
    simp only [List.nodup_append, List.mem_append, List.nodup_cons, List.mem_cons] at nd ng hs ⊢
    refine ⟨⟨ng.1, nd.1.2.1, fun x hx y hy e => ?_⟩, ⟨nd.2.1.1, ⟨⟨fun z => ?_, ng.2.1⟩, nd.2.1.2.1.2.1, fun x hx y hy e => ?_⟩, fun x hx y hy e => ?_⟩, fun x hx y hy e => ?_⟩
    · rcases hs x (.inl hx) with z | z
      · exact nd.1.2.2 x z y hy e
      · exact nd.2.2 y (.inr hy) x (.inr (.inl (.inr z))) e.symm
    · rcases hs a (.inr z) with y | y
      · exact ane a (.inl y) rfl
      · exact ane a (.inr (.inl y)) rfl
    · rcases hx with hx | hx
      · exact nd.2.1.2.1.2.2 x (.inl hx) y hy e
      · rcases hs x (.inr hx) with z | z
        · exact nd.2.2 x (.inl z) y (.inr (.inr hy)) e
        · exact nd.2.1.2.1.2.2 x (.inr z) y hy e
    · rcases hy with (hy | hy) | hy
      · exact nd.2.1.2.2 x hx y (.inl (.inl hy)) e
      · rcases hs y (.inr hy) with z | z
        · exact nd.2.2 y (.inl z) x (.inl hx) e.symm
        · exact nd.2.1.2.2 x hx y (.inl (.inr z)) e
      · exact nd.2.1.2.2 x hx y (.inr hy) e
    · rcases hx with hx | hx
      · rcases hs x (.inl hx) with z | z
        · rcases hy with hy | (hy | hy) | hy
          · exact nd.2.2 x (.inl z) y (.inl hy) e
          · exact nd.2.2 x (.inl z) y (.inr (.inl (.inl hy))) e
          · rcases hs y (.inr hy) with u | u
            · exact ng.2.2 x hx y hy e
            · exact nd.2.2 x (.inl z) y (.inr (.inl (.inr u))) e
          · exact nd.2.2 x (.inl z) y (.inr (.inr hy)) e
        · rcases hy with hy | (hy | hy) | hy
          · exact nd.2.1.2.2 y hy x (.inl (.inr z)) e.symm
          · subst hy
            exact ane x (.inr (.inl z)) e
          · exact ng.2.2 x hx y hy e
          · exact nd.2.1.2.1.2.2 x (.inr z) y hy e
      · rcases hy with hy | (hy | hy) | hy
        · exact nd.2.2 x (.inr hx) y (.inl hy) e
        · exact nd.2.2 x (.inr hx) y (.inr (.inl (.inl hy))) e
        · rcases hs y (.inr hy) with u | u
          · exact nd.1.2.2 y u x hx e.symm
          · exact nd.2.2 x (.inr hx) y (.inr (.inl (.inr u))) e
        · exact nd.2.2 x (.inr hx) y (.inr (.inr hy)) e
  refine ⟨gr ++ f2, p ++ ((a :: g') ++ q), nodup', fun b hb => w.nf b (sub b hb), fun b hb => ?_, fun b o eb hb => ?_, fun b hb => w.gr b (sub b hb), ?_, ?_, ?_, w.fx⟩
  · obtain ⟨o, eb⟩ := w.fh b hb
    by_cases z : b = a
    · subst z; exact ⟨_, upd_same⟩
    · exact ⟨o, by rw [upd_ne z]; exact eb⟩
  · refine hk b o (w.kp b o eb hb) ?_
    by_cases z : b = a
    · subst z
      refine .inr (hb.resolve_left fun n => ?_)
      rcases w.gr b (by simp) with y | y
      · exact n y
      · rw [eb] at y; cases y
    · exact .inl z
  · rw [List.map_append]
    refine RepS.app (st k1 nf1.1 fun b hb => ?_) (st r2 nbt fun b hb => ane b (.inr (.inr (.inl hb))))
    rcases subg b (List.mem_append_left _ hb) with z | z
    · exact ane b (.inl z)
    · exact ane b (.inr (.inl z))
  · refine m3 (fun b o eb hb => hk b o eb (hb.imp (fun n z => n (by rw [z]; exact List.mem_cons_self)) fun z => z)) ho ?_
    rw [Rep]
    refine ⟨a, cs', g', rfl, ha', st k2 nf1.2 fun b hb => ?_, rfl⟩
    rcases subg b (List.mem_append_right _ hb) with z | z
    · exact ane b (.inl z)
    · exact ane b (.inr (.inl z))
  · refine nbs_set w.nb (setp_nb (nbs_mem w.nb (List.mem_of_getElem? e)) ?_) i
    rw [D.nb, nf1.2]; rfl
end
end Bx

namespace Bx
open PySem PySem.Spec L2

section
variable {c : Wc} {O O' : Ow} {H H' : Hp} {B : Bs} {ts as : List D} {ws vs us : List V} {Γ : List D} {σ : L2.St} {ft fs : List Addr} {d : D} {v : V}

theorem sh_nb (d : D) : d.sh.nb = true := by
  induction d using D.rec (motive_2 := fun ds => D.nbs (D.shs ds) = true) with
  | nd f t ds ih => rw [D.sh, D.nb, ih]; rfl
  | tup ds ih => rw [D.sh, D.nb, ih]
  | nil => rfl
  | cons d ds h1 h2 => rw [D.shs, D.nbs, h1, h2]; rfl
  | _ => rfl
theorem shs_nb : ∀ ds : List D, D.nbs (D.shs ds) = true
  | [] => rfl
  | d :: ds => by rw [D.shs, D.nbs, sh_nb, shs_nb ds]; rfl
theorem reps_any : ∀ n : Nat, RepS c O H (List.replicate n .any) (List.replicate n none) []
  | 0 => by rw [List.replicate_zero, List.replicate_zero, RepS]; exact ⟨rfl, rfl⟩
  | n + 1 => by
    rw [List.replicate_succ, List.replicate_succ]
    exact RepS.hole (reps_any n)
theorem nbs_any : ∀ n : Nat, D.nbs (List.replicate n .any) = true
  | 0 => rfl
  | n + 1 => by rw [List.replicate_succ, D.nbs, nbs_any n]; rfl
def lentIf (k : Bool) (r : D) : D := if k = true then r else r.sb

/-- a call with values that are lent, and back -/
theorem Wd.call (w : Wd c B H (as ++ ts) (us ++ ws) Γ σ) (l : as.length = us.length) :
    ∃ Bc : Bs, Bc.fx = [] ∧ (Bc.H0 = H ∧ Bc.f0 = []) ∧ (∀ n, Wd c Bc H [] [] (D.shs as ++ List.replicate n .any) (us.map some ++ List.replicate n none)) ∧
      ∀ {r : D} {x : V} {H' : Hp} {Δ : List D} {τ : L2.St}, r.nb = true → Wd c Bc H' [r] [x] Δ τ → Wd c B H' (lentIf (D.nbs as) r :: ts) (x :: ws) Γ σ := by
  obtain ⟨ft, fs, w⟩ := w
  have rt := w.rt
  rw [List.map_append] at rt
  obtain ⟨o1, o2, f1, f2, eo, rfl, l1, r1, r2⟩ := rt.split
  obtain ⟨rfl, rfl⟩ := List.append_inj eo (by simp [l1, l])
  have nd := w.nd
  generalize hk : D.nbs as = k
  let F : Addr → Prop := fun a => a ∈ f2 ∨ (k = true ∧ (a ∈ fs ∨ B.F a))
  have Fsub : ∀ a, F a → a ∈ f2 ∨ a ∈ fs ∨ B.F a := fun a z => z.imp (fun z => z) fun z => z.2
  have Fh : ∀ a, F a → ∃ o, H a = some o := fun a z => by
    rcases Fsub a z with z | z | z
    · exact let ⟨o, e, _⟩ := w.there a (by simp [z]); ⟨o, e⟩
    · exact let ⟨o, e, _⟩ := w.there a (by simp [z]); ⟨o, e⟩
    · exact w.fh a z
  refine ⟨⟨F, H, [], []⟩, rfl, ⟨rfl, rfl⟩, fun n => ?_, fun {r x H' Δ τ} nbr wc => ?_⟩
  · refine ⟨[], [], List.nodup_nil, fun a ha => (nomatch ha), Fh, fun a o e _ => e, fun a ha => (nomatch ha), by rw [List.map_nil, RepS]; exact ⟨rfl, rfl⟩, ?_, ?_, fun i v e => by simp at e⟩
    · refine RepS.app (fq := []) (fp := []) (r1.share ?_ (fun a ha z => ?_) fun a o e n z => ?_) (reps_any n)
      · cases k with
        | true => exact .inl hk
        | false =>
          refine .inr fun a o e n z => n ?_
          rcases z with z | z
          · simp at z
          · rcases z with z | z
            · exact List.mem_append_right _ z
            · cases z.1
      · rcases z with z | z
        · simp at z
        · simp only [List.nodup_append, List.mem_append] at nd
          rcases Fsub a z with z | z | z
          · exact nd.1.2.2 a ha a z rfl
          · exact nd.2.2 a (.inl ha) a z rfl
          · exact w.nf a (by simp [ha]) z
      · rcases z with z | z
        · simp at z
        · rcases Fsub a z with z | z | z
          · exact n (.inl (by simp [z]))
          · exact n (.inl (by simp [z]))
          · exact n (.inr z)
    · rw [nbs_app, shs_nb, nbs_any]; rfl
  · obtain ⟨gt, gs, wc⟩ := wc
    have ext : ∀ a o, H a = some o → H' a = some o := fun a o e => wc.kp a o e (.inl (by simp))
    have fr : ∀ a ∈ gt ++ gs, H a = none := fun a ha => (wc.gr a ha).resolve_left (by simp)
    have old : ∀ a, a ∈ f2 ∨ a ∈ fs → a ∉ gt := fun a ha z => by
      have e1 := fr a (List.mem_append_left _ z)
      obtain ⟨o, e2, _⟩ := w.there a (by simp only [List.mem_append]; exact ha.imp (fun z => .inr z) fun z => z)
      rw [e1] at e2; cases e2
    have rt := wc.rt
    rw [List.map_cons, List.map_nil, RepS] at rt
    obtain ⟨o, q, g1, g2, e, eg, h1, h2⟩ := rt
    obtain ⟨rfl, rfl⟩ := List.cons.inj e
    rw [RepS] at h2
    obtain ⟨_, rfl⟩ := h2
    rw [List.append_nil] at eg
    subst eg
    have rr : Rep c (ow ⟨F, H, [], []⟩ gt gs) H' r x gt := by
      rcases h1 with ⟨rfl, rfl⟩ | ⟨v', e', h1⟩
      · rw [Rep]
      · cases e'; exact h1
    have sub : ∀ a ∈ (gt ++ f2) ++ fs, a ∈ gt ∨ a ∈ (f1 ++ f2) ++ fs := fun a ha => by
      simp only [List.mem_append] at ha ⊢
      rcases ha with (z | z) | z
      · exact .inl z
      · exact .inr (.inl (.inr z))
      · exact .inr (.inr z)
    have ho : ∀ a o, H a = some o → ¬ (ow B (f1 ++ f2) fs).o a → ¬ (ow B (gt ++ f2) fs).o a := fun a o e n z => by
      rcases z with z | z
      · rcases sub a z with y | y
        · have := fr a (List.mem_append_left _ y)
          rw [e] at this; cases this
        · exact n (.inl y)
      · exact n (.inr z)
    have ht : ∀ a o, H a = some o → ¬ (ow B (f1 ++ f2) fs).t a → ¬ (ow B (gt ++ f2) fs).t a := fun a o e n z => by
      rcases List.mem_append.mp z with y | y
      · have := fr a (List.mem_append_left _ y)
        rw [e] at this; cases this
      · exact n (List.mem_append_right _ y)
    refine ⟨gt ++ f2, fs, ?_, fun a ha => ?_, fun a z => let ⟨o, e⟩ := w.fh a z; ⟨o, ext a o e⟩, fun a o e z => ext a o (w.kp a o e z), fun a ha => ?_, RepS.cons ?_ (r2.stay (.inr fun a o e n => ⟨ext a o e, ht a o e n⟩) (fun a o e _ => ext a o e) ho), w.rs.stay (.inl w.nb) (fun a o e _ => ext a o e) ho, w.nb, w.fx⟩
    · have ndg := (List.nodup_append.mp wc.nd).1
      simp only [List.nodup_append, List.mem_append] at nd ⊢
      refine ⟨⟨ndg, nd.1.2.1, fun a ha b hb e => old b (.inl hb) (e ▸ ha)⟩, nd.2.1, fun a ha b hb e => ?_⟩
      rcases ha with ha | ha
      · exact old b (.inr hb) (e ▸ ha)
      · exact nd.2.2 a (.inr ha) b hb e
    · rcases sub a ha with z | z
      · intro y
        obtain ⟨o, e⟩ := w.fh a y
        rw [fr a (List.mem_append_left _ z)] at e; cases e
      · exact w.nf a z
    · rcases sub a ha with z | z
      · have e1 := fr a (List.mem_append_left _ z)
        by_cases y : a ∈ B.f0
        · exact .inl y
        · refine .inr ?_
          cases e : B.H0 a with
          | none => rfl
          | some o =>
            have := w.kp a o e (.inl y)
            rw [e1] at this; cases this
      · exact w.gr a z
    · unfold lentIf
      cases k with
      | true =>
        rw [if_pos rfl]
        refine rr.stay (.inl nbr) (fun _ _ e _ => e) fun a o e n z => n ?_
        rcases z with z | z
        · simp only [List.mem_append] at z
          rcases z with (z | z) | z
          · exact .inl (by simp [z])
          · exact .inr (.inl z)
          · exact .inr (.inr ⟨rfl, .inl z⟩)
        · exact .inr (.inr ⟨rfl, .inr z⟩)
      | false =>
        rw [if_neg Bool.false_ne_true]
        refine rr.lent nbr fun a o e n z => n ?_
        rcases List.mem_append.mp z with z | z
        · exact .inl (by simp [z])
        · exact .inr (.inl z)

/-- a call that may change its first value, a node of a slot's value, and back -/
theorem Wd.callio {i : Nat} {r : List Nat} {d1 : D} (w : Wd c B H (as ++ ts) (us ++ ws) Γ σ) (l : as.length = us.length) (na : D.nbs as = true) (nt : D.nbs ts = true) (e : Γ[i]? = some d) (g : D.getp r d = some d1) (na1 : d1 ≠ .any) (nb1 : d1.nb = true) :
    ∃ (Bc : Bs) (v v1 : V), σ[i]? = some (some v) ∧ PV c H v r v1 ∧ Bc.fx = [v1] ∧ (∀ n, Wd c Bc H [] [] (d1 :: (D.shs as ++ List.replicate n .any)) (some v1 :: (us.map some ++ List.replicate n none))) ∧
      ∀ {z : D} {x : V} {H' : Hp} {d1' : D} {Δ : List D} {τ : L2.St}, z.nb = true → Wd c Bc H' [z] [x] (d1' :: Δ) τ → Wd c B H' (z :: ts) (x :: ws) (Γ.set i (D.setp r d d1')) σ := by
  obtain ⟨ft, fs, w⟩ := w
  have rt := w.rt
  rw [List.map_append] at rt
  obtain ⟨o1, o2, f1, f2, eo, rfl, l1, r1, r2⟩ := rt.split
  obtain ⟨rfl, rfl⟩ := List.append_inj eo (by simp [l1, l])
  obtain ⟨v, v1, p, f, q, hv, hp, rfl, m2, m3⟩ := w.node e g na1
  have nd := w.nd
  let F : Addr → Prop := fun a => a ∈ f2 ∨ a ∈ p ∨ a ∈ q ∨ B.F a
  have Fh : ∀ a, F a → ∃ o, H a = some o := fun a z => by
    rcases z with z | z | z | z
    · exact let ⟨o, e, _⟩ := w.there a (by simp [z]); ⟨o, e⟩
    · exact let ⟨o, e, _⟩ := w.there a (by simp [z]); ⟨o, e⟩
    · exact let ⟨o, e, _⟩ := w.there a (by simp [z]); ⟨o, e⟩
    · exact w.fh a z
  have Fn : ∀ a ∈ f, ¬ F a := fun a ha z => by
    simp only [List.nodup_append, List.mem_append] at nd
    rcases z with z | z | z | z
    · exact nd.2.2 a (.inr z) a (.inr (.inl ha)) rfl
    · exact nd.2.1.2.2 a z a (.inl ha) rfl
    · exact nd.2.1.2.1.2.2 a ha a z rfl
    · exact w.nf a (by simp [ha]) z
  have ndf : f.Nodup := by
    simp only [List.nodup_append] at nd
    exact nd.2.1.2.1.1
  refine ⟨⟨F, H, f, [v1]⟩, v, v1, hv, hp, rfl, fun n => ?_, fun {z x H' d1' Δ τ} nbz wc => ?_⟩
  · have ho : ∀ a o, H a = some o → ¬ (ow B (f1 ++ f2) (p ++ (f ++ q))).o a → ¬ (ow ⟨F, H, f, [v1]⟩ [] f).o a := fun a o _ n z => n (by
      rcases z with z | z
      · have z' : a ∈ f := z
        exact .inl (by simp [z'])
      · rcases z with z | z | z | z
        · exact .inl (by simp [z])
        · exact .inl (by simp [z])
        · exact .inl (by simp [z])
        · exact .inr z)
    refine ⟨[], f, ndf, Fn, Fh, fun a o e _ => e, fun a ha => .inl ha, by rw [List.map_nil, RepS]; exact ⟨rfl, rfl⟩, ?_, ?_, fun j u ej => ?_⟩
    · have h1 : Rep c (ow ⟨F, H, f, [v1]⟩ [] f) H d1 v1 f := m2.stay (.inl nb1) (fun _ _ e _ => e) ho
      have h2 : RepS c (ow ⟨F, H, f, [v1]⟩ [] f) H (D.shs as) (us.map some) [] := r1.share (.inl na) (fun a ha z => by
        simp only [List.nodup_append, List.mem_append] at nd
        rcases z with z | z
        · have z' : a ∈ f := z
          exact nd.2.2 a (.inl ha) a (.inr (.inl z')) rfl
        · rcases z with z | z | z | z
          · exact nd.1.2.2 a ha a z rfl
          · exact nd.2.2 a (.inl ha) a (.inl z) rfl
          · exact nd.2.2 a (.inl ha) a (.inr (.inr z)) rfl
          · exact w.nf a (by simp [ha]) z) ho
      have h3 := RepS.cons h1 (h2.app (reps_any n))
      simpa using h3
    · rw [D.nbs, nb1, nbs_app, shs_nb, nbs_any]; rfl
    · cases j with
      | zero => simpa using ej
      | succ j => simp at ej
  · obtain ⟨gt, gs, wc⟩ := wc
    have keep : ∀ a o, H a = some o → (a ∉ f ∨ Imm o) → H' a = some o := fun a o e z => wc.kp a o e z
    have gr : ∀ a ∈ gt ++ gs, a ∈ f ∨ H a = none := wc.gr
    have rt := wc.rt
    rw [List.map_cons, List.map_nil, RepS] at rt
    obtain ⟨o, y, g1, g2, e, eg, h1, h2⟩ := rt
    obtain ⟨rfl, rfl⟩ := List.cons.inj e
    rw [RepS] at h2
    obtain ⟨_, rfl⟩ := h2
    rw [List.append_nil] at eg
    subst eg
    have rz : Rep c (ow ⟨F, H, f, [v1]⟩ gt gs) H' z x gt := by
      rcases h1 with ⟨rfl, rfl⟩ | ⟨v', e', h1⟩
      · rw [Rep]
      · cases e'; exact h1
    have rs := wc.rs
    rw [RepS] at rs
    obtain ⟨o, y, g1, g2, e, eg, h3, h4⟩ := rs
    have fx0 : τ[0]? = some (some v1) := wc.fx 0 v1 rfl
    rw [e] at fx0
    have eo1 : o = some v1 := by simpa using fx0
    subst eo1
    have rd : Rep c (ow ⟨F, H, f, [v1]⟩ gt gs) H' d1' v1 g1 := by
      rcases h3 with ⟨rfl, rfl⟩ | ⟨v', e', h3⟩
      · rw [Rep]
      · cases e'; exact h3
    have nbd : d1'.nb = true := by
      have := wc.nb
      rw [D.nbs, Bool.and_eq_true] at this
      exact this.1
    -- all that was the caller's beside
    have outf : ∀ a, a ∈ f2 ∨ a ∈ p ∨ a ∈ q → a ∉ f ∧ (∃ o, H a = some o) := fun a ha => by
      simp only [List.nodup_append, List.mem_append] at nd
      refine ⟨fun z => ?_, ?_⟩
      · rcases ha with h | h | h
        · exact nd.2.2 a (.inr h) a (.inr (.inl z)) rfl
        · exact nd.2.1.2.2 a h a (.inl z) rfl
        · exact nd.2.1.2.1.2.2 a z a h rfl
      · refine let ⟨o, e, _⟩ := w.there a ?_; ⟨o, e⟩
        simp only [List.mem_append]
        rcases ha with h | h | h
        · exact .inl (.inr h)
        · exact .inr (.inl h)
        · exact .inr (.inr (.inr h))
    have outg : ∀ a, a ∈ f2 ∨ a ∈ p ∨ a ∈ q → a ∉ gt ++ gs := fun a ha z => by
      obtain ⟨h1, o, h2⟩ := outf a ha
      rcases gr a z with y | y
      · exact h1 y
      · rw [h2] at y; cases y
    have g1s : ∀ a ∈ g1, a ∈ gt ++ gs := fun a ha => by rw [eg]; simp [ha]
    have gts : ∀ a ∈ gt, a ∈ gt ++ gs := fun a ha => List.mem_append_left _ ha
    have sub : ∀ a ∈ (gt ++ f2) ++ (p ++ (g1 ++ q)), a ∈ gt ++ gs ∨ (a ∈ f2 ∨ a ∈ p ∨ a ∈ q) := fun a ha => by
      simp only [List.mem_append] at ha
      rcases ha with (h | h) | h | h | h
      · exact .inl (gts a h)
      · exact .inr (.inl h)
      · exact .inr (.inr (.inl h))
      · exact .inl (g1s a h)
      · exact .inr (.inr (.inr h))
    have hoc : ∀ a o, H' a = some o → ¬ (ow ⟨F, H, f, [v1]⟩ gt gs).o a → ¬ (ow B (gt ++ f2) (p ++ (g1 ++ q))).o a := fun a o _ n y => n (by
      rcases y with y | y
      · rcases sub a y with y | y | y | y
        · exact .inl y
        · exact .inr (.inl y)
        · exact .inr (.inr (.inl y))
        · exact .inr (.inr (.inr (.inl y)))
      · exact .inr (.inr (.inr (.inr y))))
    have ho : ∀ a o, H a = some o → ¬ (ow B (f1 ++ f2) (p ++ (f ++ q))).o a → ¬ (ow B (gt ++ f2) (p ++ (g1 ++ q))).o a := fun a o e n y => n (by
      rcases y with y | y
      · rcases sub a y with y | y | y | y
        · rcases gr a y with u | u
          · exact .inl (by simp [u])
          · rw [e] at u; cases u
        · exact .inl (by simp [y])
        · exact .inl (by simp [y])
        · exact .inl (by simp [y])
      · exact .inr y)
    refine ⟨gt ++ f2, p ++ (g1 ++ q), ?_, fun a ha => ?_, fun a y => ?_, fun a o e y => ?_, fun a ha => ?_, RepS.cons ?_ (r2.stay (.inl nt) (fun a o e y => keep a o e ?_) ho), ?_, nbs_set w.nb (setp_nb (nbs_mem w.nb (List.mem_of_getElem? ‹_›)) nbd) i, w.fx⟩
    · have ndc := wc.nd
      have eg' : gs = g1 ++ g2 := eg
      rw [eg'] at ndc
      simp only [List.nodup_append, List.mem_append] at nd ndc ⊢
      have og : ∀ a, a ∈ f2 ∨ a ∈ p ∨ a ∈ q → a ∉ gt ∧ a ∉ g1 := fun a ha => ⟨fun y => outg a ha (gts a y), fun y => outg a ha (g1s a y)⟩
      refine ⟨⟨ndc.1, nd.1.2.1, fun a ha b hb e => (og b (.inl hb)).1 (e ▸ ha)⟩, ⟨nd.2.1.1, ⟨ndc.2.1.1, nd.2.1.2.1.2.1, fun a ha b hb e => (og b (.inr (.inr hb))).2 (e ▸ ha)⟩, fun a ha b hb e => ?_⟩, fun a ha b hb e => ?_⟩
      · rcases hb with hb | hb
        · exact (og a (.inr (.inl ha))).2 (e ▸ hb)
        · exact nd.2.1.2.2 a ha b (.inr hb) e
      · rcases ha with ha | ha
        · rcases hb with hb | hb | hb
          · exact (og b (.inr (.inl hb))).1 (e ▸ ha)
          · exact ndc.2.2 a ha b (.inl hb) e
          · exact (og b (.inr (.inr hb))).1 (e ▸ ha)
        · rcases hb with hb | hb | hb
          · exact nd.2.2 a (.inr ha) b (.inl hb) e
          · exact (og a (.inl ha)).2 (e ▸ hb)
          · exact nd.2.2 a (.inr ha) b (.inr (.inr hb)) e
    · rcases sub a ha with y | y
      · intro u
        exact wc.nf a y (.inr (.inr (.inr u)))
      · refine w.nf a ?_
        simp only [List.mem_append]
        rcases y with h | h | h
        · exact .inl (.inr h)
        · exact .inr (.inl h)
        · exact .inr (.inr (.inr h))
    · obtain ⟨o, e⟩ := w.fh a y
      exact ⟨o, keep a o e (.inl fun u => w.nf a (by simp [u]) y)⟩
    · have e1 := w.kp a o e y
      refine keep a o e1 ?_
      by_cases u : a ∈ f
      · refine .inr (y.resolve_left fun n => ?_)
        rcases w.gr a (by simp [u]) with z | z
        · exact n z
        · rw [e] at z; cases z
      · exact .inl u
    · rcases sub a ha with y | y
      · rcases gr a y with u | u
        · exact w.gr a (by simp [u])
        · by_cases h : a ∈ B.f0
          · exact .inl h
          · refine .inr ?_
            cases e : B.H0 a with
            | none => rfl
            | some o =>
              have := w.kp a o e (.inl h)
              rw [u] at this; cases this
      · refine w.gr a ?_
        simp only [List.mem_append]
        rcases y with h | h | h
        · exact .inl (.inr h)
        · exact .inr (.inl h)
        · exact .inr (.inr (.inr h))
    · exact rz.stay (.inl nbz) (fun _ _ e _ => e) hoc
    · rcases y with y | y | y
      · exact .inl (outf a (.inl y)).1
      · exact .inl fun u => y (.inl (by simp [u]))
      · exact .inr y
    · exact m3 keep ho (rd.stay (.inl nbd) (fun _ _ e _ => e) hoc)
end
end Bx

namespace Bx
open PySem PySem.Spec L2

/-! ### a small language -/
inductive Md where
  | b | s | m
  deriving DecidableEq
inductive Op where
  | add | sub | mul | mod | fdiv | pow
  deriving DecidableEq
inductive Cm where
  | eq | ne | lt | le | gt | ge | mem | nmem | iis | nis
  deriving DecidableEq
inductive Bi where
  | len | abs | sorted | list | sum | min | max | any | all | str | min2
  deriving DecidableEq
inductive Ty where
  | int | bool | str | lst | tup | cls (c : Nat) | lt | is
  deriving DecidableEq
inductive Bm where
  | index | count
  deriving DecidableEq
inductive Mm where
  | append | extend | insert | pop | reverse
  deriving DecidableEq
inductive Tg where
  | nm (i : Nat) | tp (l : Tg) | nil | cons (a b : Tg)
inductive E where
  | non | bl (b : Bool) | int (i : Int) | str (x : Str) | glo (x : Str)
  | var (i : Nat) (m : Md)
  | nil | cons (e es : E)
  | lst (es : E) | tup (es : E) | dnew
  | op (o : Op) (a b : E) | neg (a : E)
  | cmp (o : Cm) (a b : E) | chn (o p : Cm) (a b c : E)
  | and (a b : E) | or (a b : E) | one (a : E) | not (a : E) | ife (c a b : E)
  | ix (a b : E) | sl (a l h : E) | nop | rev (a : E)
  | fld (a : E) (f : Str)
  | call (f : Nat) (es : E) | mk (k : Nat) (es : E) | mth (a : E) (m : Str) (es : E)
  | io (p : E) (m : Str) (es : E) | iof (f : Nat) (p : E) (es : E)
  | bi (b : Bi) (es : E) | isi (a : E) (t : Ty)
  | lset (a : E) | sset (a : E) | dzip (a b : E) | dprs (a : E) | lrng (a : E) | lrng3 (a b k : E) | ldct (a : E) | svals (a : E)
  | bm (b : Bm) (a : E) (es : E)
  | mut (p : E) (m : Mm) (es : E)
  | comp (elt cnd : E) (t : Tg) (it : E) (own : List Nat)
  | frz (a : E) | unz (a : E) (i j : Nat) (own : List Nat)
  | src (a : E) | rng (a : E) | rng2 (a b : E) | enu (a : E) | zip (a b : E) | dkeys (a : E) | ditems (a : E)
inductive S where
  | nil | cons (s r : S)
  | set (i : Nat) (e : E) | par (js : List Nat) (es : E) | unp (t : Tg) (e : E)
  | sfl (p : E) (f : Str) (e : E) | six (p k e : E)
  | aug (i : Nat) (o : Op) (e : E) | agf (p : E) (f : Str) (o : Op) (e : E)
  | ex (e : E) | ife (c : E) (a b : S) | for (t : Tg) (it : E) (b : S) | fom (i j : Nat) (b : S) | setc (i : Nat) (e c : E) (t : Tg) (it : E) (own : List Nat) | fapp (j i : Nat) (v : Int)
  | ret (e : E) | ret0 | brk | cnt | pas | rai (k : Nat) (x : Str)

def Tg.ixs : Tg → List Nat
  | .nm i => [i]
  | .tp l => l.ixs
  | .nil => []
  | .cons a b => a.ixs ++ b.ixs

/-! ### values -/
def okn (n : Nat) : Bool := decide (n < 1000000)
mutual
def D.py : D → PyData
  | .bl b => .bool b
  | .int i => .int i
  | .str x => .str x
  | .scr ns => .list (ns.map .int)
  | .tup ds => .tuple (D.pys ds)
  | .nd _ _ ds => .list (D.pys ds)
  | .non => .none
  | .any => .none
def D.pys : List D → List PyData
  | [] => []
  | d :: ds => d.py :: D.pys ds
end
mutual
def D.pyb : D → Bool
  | .tup ds => D.pybs ds
  | .nd _ t ds => decide (t = .lst) && D.pybs ds
  | .any => false
  | _ => true
def D.pybs : List D → Bool
  | [] => true
  | d :: ds => d.pyb && D.pybs ds
end
def D.cmpb (d : D) : Bool := d.pyb && SeqAt.shaped d.py
def D.flat : D → Option V
  | .non => some .non
  | .bl b => some (.bl b)
  | .int i => some (.int i)
  | .str x => some (.str x)
  | _ => none
def D.flats : List D → Option (List V)
  | [] => some []
  | d :: ds => match d.flat, D.flats ds with
    | some v, some vs => some (v :: vs)
    | _, _ => none
def D.ints : List D → Option (List Int)
  | [] => some []
  | .int i :: ds => (D.ints ds).map (i :: ·)
  | _ => none
def D.bools : List D → Option (List Bool)
  | [] => some []
  | .bl i :: ds => (D.bools ds).map (i :: ·)
  | _ => none
def mulOk (i j : Int) : Bool := decide (i.natAbs < 2 ^ 4000) && decide (j.natAbs < 2 ^ 4000)
def opD : Op → D → D → Option D
  | .add, .int i, .int j => some (.int (i + j))
  | .add, .nd _ .lst ds, .nd _ .lst es => if okn (ds.length + es.length) = true then some (.nd .own .lst (ds ++ es)) else none
  | .sub, .int i, .int j => some (.int (i - j))
  | .mul, .int i, .int j => if mulOk i j = true then some (.int (i * j)) else none
  | .mul, .nd _ .lst ds, .int k => if (okn (ds.length * k.toNat) && decide (-(2 ^ 60) < k) && decide (k < 2 ^ 60)) = true then some (.nd .own .lst (List.replicate k.toNat (D.uns ds)).flatten) else none
  | .mod, .int i, .int j => if 0 < j then some (.int (i % j)) else none
  | .fdiv, .int i, .int j => if 0 < j ∧ j < 1000000000 then some (.int (i / j)) else none
  | .pow, .int i, .int j => if 0 ≤ j ∧ j ≤ 1000 ∧ i.natAbs < 2 ^ 60 then some (.int (i ^ j.toNat)) else none
  | _, _, _ => none
def memD (x y : D) : Option Bool :=
  match x.flat, (match y with
    | .nd _ .lst ds => D.flats ds
    | .tup ds => D.flats ds
    | _ => none) with
  | some v, some vs => some (inV v vs)
  | _, _ => none
def cmpD : Cm → D → D → Option Bool
  | .eq, x, y => if (x.cmpb && y.cmpb) = true then some (PyData.eqv x.py y.py) else none
  | .ne, x, y => if (x.cmpb && y.cmpb) = true then some (!PyData.eqv x.py y.py) else none
  | .lt, .int i, .int j => some (decide (i < j))
  | .le, .int i, .int j => some (decide (i ≤ j))
  | .gt, .int i, .int j => some (decide (j < i))
  | .ge, .int i, .int j => some (decide (j ≤ i))
  | .mem, x, y => memD x y
  | .nmem, x, y => (memD x y).map (!·)
  | .iis, .bl a, .bl b => some (decide (a = b))
  | .nis, .bl a, .bl b => some (!decide (a = b))
  | _, _, _ => none
/-- a place counted from the front, or from behind -/
def ixD (n : Nat) (i : Int) : Option Nat := ixN n i
def pickD : D → Int → Option D
  | .nd _ .lst ds, i => (ixD ds.length i).bind fun j => ds[j]?
  | .tup ds, i => (ixD ds.length i).bind fun j => ds[j]?
  | .scr ns, i => (ixD ns.length i).bind fun j => (ns[j]?).map .int
  | _, _ => none
def keyD : D → Option Key
  | .int i => some (.inl i)
  | .str x => some (.inr x)
  | _ => none
def atK {κ : Type} [DecidableEq κ] (ks : List κ) (k : κ) : Option Nat := match ks with
  | [] => none
  | j :: r => if j = k then some 0 else (atK r k).map (· + 1)
def subD : D → D → Option D
  | .nd _ (.dct ks) ds, k => (keyD k).bind fun k => (atK ks k).bind fun j => ds[j]?
  | x, .int i => pickD x i
  | _, _ => none
def fldD (fo : Nat → Str → Bool) : D → Str → Option D
  | .nd _ (.obj k ns) ds, f => if fo k f = true then (atK ns f).bind fun j => ds[j]? else none
  | _, _ => none
def cutD {α : Type} (xs : List α) (lo hi : Option Int) : List α := (xs.drop (HT.sIx xs.length 0 lo)).take (HT.sIx xs.length xs.length hi - HT.sIx xs.length 0 lo)
def slD : D → Option Int → Option Int → Option D
  | .nd _ .lst ds, lo, hi => some (.nd .own .lst (cutD ds lo hi))
  | .scr ns, lo, hi => some (.nd .own .lst ((cutD ns lo hi).map .int))
  | _, _, _ => none
def ins1 (x : Int) : List Int → List Int
  | [] => [x]
  | y :: r => if x ≤ y then x :: y :: r else y :: ins1 x r
def isort : List Int → List Int
  | [] => []
  | x :: r => ins1 x (isort r)
def least : List Int → Option Int
  | [] => none
  | x :: r => some (r.foldl (fun a b => if b < a then b else a) x)
def most : List Int → Option Int
  | [] => none
  | x :: r => some (r.foldl (fun a b => if a < b then b else a) x)
def showB (d : D) : Bool := d.pyb && d.py.showable && !d.py.hasDict && decide (d.py.depth ≤ 60) && okn d.py.shown.length
def biD : Bi → List D → Option D
  | .len, [.nd _ (.obj _ _) _] => none
  | .len, [.nd _ _ ds] => some (.int ds.length)
  | .len, [.tup ds] => some (.int ds.length)
  | .len, [.scr ns] => some (.int ns.length)
  | .abs, [.int i] => some (.int (if i < 0 then -i else i))
  | .list, [.nd _ .lst ds] => some (.nd .own .lst ds)
  | .list, [.tup ds] => some (.nd .own .lst ds)
  | .sum, [.nd _ .lst ds] => (D.ints ds).map fun ns => .int ns.sum
  | .any, [.nd _ .lst ds] => (D.bools ds).map fun ns => .bl (ns.any id)
  | .all, [.nd _ .lst ds] => (D.bools ds).map fun ns => .bl (ns.all id)
  | .sorted, [.nd _ .lst ds] => (D.ints ds).map fun ns => .nd .own .lst ((isort ns).map .int)
  | .min, [.nd _ .lst ds] => (D.ints ds).bind fun ns => (least ns).map .int
  | .min2, [.int i, .int j] => some (.int (if j < i then j else i))
  | .str, [.nd _ .lst ds] => if showB (.nd .own .lst ds) = true then some (.str (D.nd .own .lst ds).py.shown) else none
  | _, _ => none
def bmD : Bm → List D → List D → Option D
  | .index, cs, [x] => match x.flat, D.flats cs with
    | some v, some vs => (vs.findIdx? fun y => eqV y v).map fun j => .int (j : Nat)
    | _, _ => none
  | _, _, _ => none
def firsts : List D → Option (List D)
  | [] => some []
  | .tup [d, _] :: ds => (firsts ds).map (d :: ·)
  | _ => none
/-- a list changed: what is handed back, its items then -/
def mmD : Mm → List D → List D → Option (D × List D)
  | .append, ds, [x] => if okn ds.length = true then some (.non, ds ++ [x]) else none
  | .extend, ds, [.nd _ .lst es] => if okn (ds.length + es.length) = true then some (.non, ds ++ es) else none
  | .insert, ds, [.int i, x] => if (okn ds.length && decide (0 ≤ i) && decide (i ≤ ds.length)) = true then some (.non, ds.take i.toNat ++ x :: ds.drop i.toNat) else none
  | .pop, ds, [] => match ds.getLast? with
    | some x => some (x, ds.dropLast)
    | none => none
  | .reverse, ds, [] => some (.non, ds.reverse)
  | _, _, _ => none

/-! ### the evaluator -/
inductive Rs (α : Type) where
  | bad | exc (k : Nat) (g : List D) | ok (a : α) (g : List D)
def Rs.bind {α β : Type} (r : Rs α) (f : α → List D → Rs β) : Rs β := match r with
  | .bad => .bad
  | .exc k g => .exc k g
  | .ok a g => f a g
def Rs.of {α : Type} (o : Option α) (g : List D) : Rs α := match o with
  | none => .bad
  | some a => .ok a g
inductive CR where
  | bad | exc (k : Nat) (o : D) | ok (r o : D)
structure Cxt where
  fn : Nat → List D → CR
  meth : Nat → Str → Option Nat
  init : Nat → Option Nat
  sup : Nat → List Nat
  glo : Str → Option Int
  fo : Nat → Str → Bool
  io : Nat → Bool
  isc : Nat → Bool
def D.tyN : D → Option String
  | .non => some "NoneType"
  | .bl _ => some "bool"
  | .int _ => some "int"
  | .str _ => some "str"
  | .scr _ => some "list"
  | .tup _ => some "tuple"
  | .nd _ .lst _ => some "list"
  | .nd _ (.dct _) _ => some "dict"
  | _ => none
def tyS : Ty → Option String
  | .int => some "int"
  | .bool => some "bool"
  | .str => some "str"
  | .lst => some "list"
  | .tup => some "tuple"
  | _ => none
def isTab (m n : String) : Bool := decide (m = n) || (decide (m = "bool") && decide (n = "int"))
def isD (C : Cxt) (t : Ty) (d : D) : Option Bool := match tyS t, d.tyN with
  | some n, some m => some (isTab m n)
  | some n, none => match d with
    | .nd _ (.obj c _) _ => if C.isc c = true then some false else none
    | _ => none
  | none, some m => match t with
    | .cls _ => some false
    | _ => none
  | none, none => match t, d with
    | .cls k, .nd _ (.obj c _) _ => if C.isc c = true then some ((C.sup c).contains k) else none
    | _, _ => none
/-- may a slot's object change -/
def E.imp : E → Bool
  | .var _ .m => true
  | .cons e es => e.imp || es.imp
  | .lst es => es.imp
  | .tup es => es.imp
  | .op _ a b => a.imp || b.imp
  | .neg a => a.imp
  | .cmp _ a b => a.imp || b.imp
  | .chn _ _ a b c => a.imp || b.imp || c.imp
  | .and a b => a.imp || b.imp
  | .or a b => a.imp || b.imp
  | .one a => a.imp
  | .frz a => a.imp
  | .unz a _ _ _ => a.imp
  | .not a => a.imp
  | .ife c a b => c.imp || a.imp || b.imp
  | .ix a b => a.imp || b.imp
  | .sl a l h => a.imp || l.imp || h.imp
  | .rev a => a.imp
  | .fld a _ => a.imp
  | .call _ es => es.imp
  | .mk _ _ => true
  | .mth a _ es => a.imp || es.imp
  | .io _ _ _ => true
  | .iof _ _ _ => true
  | .bi _ es => es.imp
  | .isi a _ => a.imp
  | .lset a => a.imp
  | .sset a => a.imp
  | .dzip a b => a.imp || b.imp
  | .dprs a => a.imp
  | .lrng a => a.imp
  | .lrng3 a b k => a.imp || b.imp || k.imp
  | .ldct a => a.imp
  | .svals a => a.imp
  | .bm _ a es => a.imp || es.imp
  | .mut _ _ _ => true
  | .comp e c _ i _ => e.imp || c.imp || i.imp
  | .src a => a.imp
  | .rng a => a.imp
  | .rng2 a b => a.imp || b.imp
  | .enu a => a.imp
  | .zip a b => a.imp || b.imp
  | .dkeys a => a.imp
  | .ditems a => a.imp
  | _ => false
def setAny (g : List D) : List Nat → List D
  | [] => g
  | i :: r => (setAny g r).set i .any
def ensure {α : Type} (b : Bool) (r : Rs α) : Rs α := match b with
  | true => r
  | false => .bad
/-- a value stored in a target -/
def asgT (nf : Nat) : Tg → D → List D → Option (List D)
  | .nm i, d, g => if (d.nb && decide (i < g.length) && decide (nf ≤ i)) = true then some (g.set i d) else none
  | .tp l, .tup ds, g => asgTs nf l ds g
  | _, _, _ => none
where asgTs (nf : Nat) : Tg → List D → List D → Option (List D)
  | .nil, [], g => some g
  | .cons a b, d :: ds, g => (asgT nf a d g).bind fun g => asgTs nf b ds g
  | _, _, _ => none
end Bx

namespace Bx
open PySem PySem.Spec L2

def compK (r : Rs (Option D)) (k : List D → Rs (List D)) : Rs (List D) := match r with
  | .ok (some d) g => (k g).bind fun ds g => .ok (d :: ds) g
  | .ok none g => k g
  | _ => .bad
def compL (turn : D → List D → Rs (Option D)) : List D → List D → Rs (List D)
  | [], g => .ok [] g
  | x :: xs, g => compK (turn x g) (fun g => compL turn xs g)
def putD (ks : List Key) (ds : List D) (k : Key) (d : D) : List Key × List D := match atK ks k with
  | some j => (ks, ds.set j d)
  | none => (ks ++ [k], ds ++ [d])
def putAllD : List Key → List D → List (Key × D) → List Key × List D
  | ks, ds, [] => (ks, ds)
  | ks, ds, (k, d) :: r => let p := putD ks ds k d; putAllD p.1 p.2 r
def keysD : List D → Option (List Key)
  | [] => some []
  | d :: ds => match keyD d, keysD ds with
    | some k, some ks => some (k :: ks)
    | _, _ => none
def pairsD : List D → Option (List (Key × D))
  | [] => some []
  | .tup [k, v] :: ds => match keyD k, pairsD ds with
    | some k, some r => some ((k, v) :: r)
    | _, _ => none
  | _ => none
def dictD (ps : List (Key × D)) : Option D := if (ps.map (·.1)).Nodup then some (.nd .own (.dct (ps.map (·.1))) (ps.map (·.2))) else none
def dedup : List Int → List Int
  | [] => []
  | x :: r => if x ∈ r then dedup r else x :: dedup r
def upTo (lo : Int) : Nat → List D
  | 0 => []
  | n + 1 => .int lo :: upTo (lo + 1) n
def enumD (k : Nat) : List D → List D
  | [] => []
  | d :: ds => .tup [.int k, d] :: enumD (k + 1) ds
def zipD : List D → List D → List D
  | d :: ds, e :: es => .tup [d, e] :: zipD ds es
  | _, _ => []
def kD : Key → D
  | .inl i => .int i
  | .inr x => .str x
def itemsD : List Key → List D → List D
  | k :: ks, d :: ds => .tup [kD k, d] :: itemsD ks ds
  | _, _ => []
/-- what a for walks over: its items, what must stand meanwhile -/
def listI : D → Option (List D × List D)
  | .nd f .lst ds => some (D.uns ds, [.nd f .lst (D.uns ds)])
  | .tup ds => some (D.uns ds, [.tup (D.uns ds)])
  | .scr ns => some (ns.map .int, [.scr ns])
  | _ => none
def E.lockd : E → Bool
  | .dkeys _ => true
  | .ditems _ => true
  | _ => false
/-- no call of the program's own, no change: what may run while a dict is walked -/
def E.plain : E → Bool
  | .non => true
  | .bl _ => true
  | .int _ => true
  | .str _ => true
  | .glo _ => true
  | .var _ .b => true
  | .op _ a b => a.plain && b.plain
  | .cmp _ a b => a.plain && b.plain
  | .and a b => a.plain && b.plain
  | .or a b => a.plain && b.plain
  | .one a => a.plain
  | .not a => a.plain
  | .ix a b => a.plain && b.plain
  | .nop => true
  | _ => false
def D.isAny : D → Bool
  | .any => true
  | _ => false
def readV (m : Md) (d : D) (i : Nat) (g : List D) : Rs D := match m with
  | .b => .ok d.bo g
  | .s => .ok d.sh (g.set i d.sh)
  | .m => .ok d (g.set i .any)
def E.isNop : E → Bool
  | .nop => true
  | _ => false
def optI (n : Bool) (r : Rs D) (g : List D) : Rs (Option Int) := match n with
  | true => .ok none g
  | false => r.bind fun d g => match d with
    | .int i => .ok (some i) g
    | _ => .bad
def optB (n : Bool) (r : Rs D) (g : List D) : Rs Bool := match n with
  | true => .ok true g
  | false => r.bind fun d g => match d with
    | .bl b => .ok b g
    | _ => .bad
mutual
def evE (C : Cxt) (nf : Nat) : E → List D → Rs D
  | .non, g => .ok .non g
  | .bl b, g => .ok (.bl b) g
  | .int i, g => .ok (.int i) g
  | .str x, g => .ok (.str x) g
  | .glo x, g => Rs.of ((C.glo x).map .int) g
  | .var i m, g => match g[i]? with
    | none => .bad
    | some d => ensure (!d.isAny) (readV m d i g)
  | .lst es, g => (evA C nf es g).bind fun ds g => ensure (okn ds.length) (.ok (.nd .own .lst ds) g)
  | .tup es, g => (evA C nf es g).bind fun ds g => ensure (okn ds.length) (.ok (.tup ds) g)
  | .dnew, g => .ok (.nd .own (.dct []) []) g
  | .op o a b, g => ensure (!b.imp) ((evE C nf a g).bind fun x g => (evE C nf b g).bind fun y g => Rs.of (opD o x y) g)
  | .neg a, g => (evE C nf a g).bind fun x g => match x with
    | .int i => .ok (.int (-i)) g
    | _ => .bad
  | .cmp o a b, g => ensure (!b.imp) ((evE C nf a g).bind fun x g => (evE C nf b g).bind fun y g => Rs.of ((cmpD o x y).map .bl) g)
  | .chn o p a b c, g => ensure (!b.imp && !c.imp) ((evE C nf a g).bind fun x g => (evE C nf b g).bind fun y g => match x, y with
    | .int i, .int j => match cmpD o (.int i) (.int j) with
      | some true => (evE C nf c g).bind fun z g => match z with
        | .int k => Rs.of ((cmpD p (.int j) (.int k)).map .bl) g
        | _ => .bad
      | some false => .ok (.bl false) g
      | none => .bad
    | _, _ => .bad)
  | .and a b, g => (evE C nf a g).bind fun x g => match x with
    | .bl true => evE C nf b g
    | .bl false => .ok (.bl false) g
    | _ => .bad
  | .or a b, g => (evE C nf a g).bind fun x g => match x with
    | .bl true => .ok (.bl true) g
    | .bl false => evE C nf b g
    | _ => .bad
  | .one a, g => evE C nf a g
  | .frz a, g => ensure (!a.imp) (match evE C nf a (D.shs g) with
    | .ok d _ => ensure d.flat.isSome (.ok d g)
    | _ => .bad)
  | .not a, g => (evE C nf a g).bind fun x g => match x with
    | .bl b => .ok (.bl (!b)) g
    | _ => .bad
  | .ife c a b, g => (evE C nf c g).bind fun x g => match x with
    | .bl true => evE C nf a g
    | .bl false => evE C nf b g
    | _ => .bad
  | .ix a b, g => ensure (!b.imp) ((evE C nf a g).bind fun x g => (evE C nf b g).bind fun y g => Rs.of (subD x y) g)
  | .sl a l h, g => ensure (!l.imp && !h.imp) ((evE C nf a g).bind fun x g => (optI l.isNop (evE C nf l g) g).bind fun lo g => (optI h.isNop (evE C nf h g) g).bind fun hi g => Rs.of (slD x lo hi) g)
  | .rev a, g => (evE C nf a g).bind fun x g => match x with
    | .nd _ .lst ds => .ok (.nd .own .lst ds.reverse) g
    | _ => .bad
  | .fld a f, g => (evE C nf a g).bind fun x g => Rs.of (fldD C.fo x f) g
  | .call f es, g => (evA C nf es g).bind fun ds g => match C.fn f (D.shs ds) with
    | .ok r _ => ensure r.nb (.ok (lentIf (D.nbs ds) r) g)
    | .exc k _ => .exc k g
    | .bad => .bad
  | .mth a m es, g => ensure (!es.imp) ((evE C nf a g).bind fun x g => match x with
    | .nd f (.obj c ns) cs => match C.meth c m, atK ns m with
      | some i, none => (evA C nf es g).bind fun ds g => match C.fn i (D.shs (.nd f (.obj c ns) cs :: ds)) with
        | .ok r _ => ensure r.nb (.ok (lentIf (D.nbs (.nd f (.obj c ns) cs :: ds)) r) g)
        | .exc k _ => .exc k g
        | .bad => .bad
      | _, _ => .bad
    | _ => .bad)
  | .bi b es, g => (evA C nf es g).bind fun ds g => Rs.of (biD b ds) g
  | .isi a t, g => (evE C nf a g).bind fun x g => Rs.of ((isD C t x).map .bl) g
  | .lset a, g => (evE C nf a g).bind fun x g => match x with
    | .nd _ .lst ds => Rs.of ((D.ints ds).bind fun ns => if ns.Nodup ∧ okn ns.length = true ∧ ns.length ≤ 4000 then some (.int ns.length) else none) g
    | _ => .bad
  | .dzip a b, g => ensure (!b.imp) ((evE C nf a g).bind fun x g => (evE C nf b g).bind fun y g => match x, y with
    | .nd _ .lst ds, .nd _ .lst es => Rs.of ((keysD ds).bind fun ks => dictD (ks.zip (D.uns es))) g
    | _, _ => .bad)
  | .dprs a, g => (evE C nf a g).bind fun x g => match x with
    | .nd _ .lst ds => Rs.of ((pairsD (D.uns ds)).bind dictD) g
    | _ => .bad
  | .bm b a es, g => ensure (decide (b = .index) && !es.imp) ((evE C nf a g).bind fun x g => match x with
    | .nd _ .lst cs => (evA C nf es g).bind fun ds g => Rs.of (bmD b cs ds) g
    | _ => .bad)
  | .lrng a, g => (evE C nf a g).bind fun x g => match x with
    | .int n => ensure (decide (-(2 ^ 60) < n) && decide (n < 1000000)) (.ok (.nd .own .lst (upTo 0 n.toNat)) g)
    | _ => .bad
  | .sset a, g => (evE C nf a g).bind fun x g => match x with
    | .nd _ .lst ds => Rs.of ((D.ints ds).bind fun ns => if ns.length < 64 then some (.nd .own .lst ((isort (dedup ns)).map .int)) else none) g
    | _ => .bad
  | .unz a i j own, g => ensure (decide (own = [i, j] ∨ own = [j, i]) && decide (i ≠ j) && decide (nf ≤ i) && decide (nf ≤ j) && decide (i < g.length) && decide (j < g.length) && !a.imp) ((evE C nf a g).bind fun x g => match x with
    | .nd .own .lst ds => match firsts ds with
      | some fs => ensure (okn ds.length) (.ok (.nd .own .lst fs) g)
      | none => .bad
    | _ => .bad)
  | .mut p m es, g => ensure (!es.imp) ((evP C nf p g).bind fun q g => match (g[q.1]?).bind (D.getp q.2) with
    | some (.nd .own .lst _) => (evA C nf es g).bind fun ds g => match g[q.1]? with
      | none => .bad
      | some d => match D.getp q.2 d with
        | some (.nd .own .lst cs) => match mmD m cs ds with
          | some (r, cs') => ensure (D.nbs (r :: cs')) (.ok r (g.set q.1 (D.setp q.2 d (.nd .own .lst cs'))))
          | none => .bad
        | _ => .bad
    | _ => .bad)
  | .comp e c t i own, g => ensure (!e.imp && !c.imp && !i.imp && !i.lockd && t.ixs.all (own.contains ·) && own.all (fun j => decide (nf ≤ j))) ((evI C nf i g).bind fun q g => ensure (okn q.1.length)
      ((compL (fun x g => match asgT nf t x g with
        | none => .bad
        | some g => (optB c.isNop (evE C nf c g) g).bind fun b g => match b with
          | true => (evE C nf e g).bind fun d g => .ok (some d) (setAny g own)
          | false => .ok none (setAny g own)) q.1 (setAny g own)).bind fun ds g => .ok (.nd .own .lst ds) g))
  | _, _ => .bad
def evA (C : Cxt) (nf : Nat) : E → List D → Rs (List D)
  | .nil, g => .ok [] g
  | .cons e es, g => (evE C nf e g).bind fun d g => ensure (!es.imp || d.nb) ((evA C nf es g).bind fun ds g => .ok (d :: ds) g)
  | _, _ => .bad
def evI (C : Cxt) (nf : Nat) : E → List D → Rs (List D × List D)
  | .rng a, g => (evE C nf a g).bind fun x g => match x with
    | .int n => ensure (decide (-(2 ^ 60) < n) && decide (n < 2 ^ 60)) (.ok (upTo 0 n.toNat, []) g)
    | _ => .bad
  | .rng2 a b, g => ensure (!b.imp) ((evE C nf a g).bind fun x g => (evE C nf b g).bind fun y g => match x, y with
    | .int m, .int n => ensure (decide (-(2 ^ 60) < n) && decide (n < 2 ^ 60) && decide (-(2 ^ 60) < m) && decide (m < 2 ^ 60)) (.ok (upTo m (n - m).toNat, []) g)
    | _, _ => .bad)
  | .enu a, g => (evE C nf a g).bind fun x g => match x with
    | .nd f .lst ds => .ok (enumD 0 (D.uns ds), [.nd f .lst (D.uns ds)]) g
    | _ => .bad
  | .zip a b, g => ensure (!b.imp) ((evE C nf a g).bind fun x g => (evE C nf b g).bind fun y g => match x, y with
    | .nd f .lst ds, .nd h .lst es => .ok (zipD (D.uns ds) (D.uns es), [.nd f .lst (D.uns ds), .nd h .lst (D.uns es)]) g
    | _, _ => .bad)
  | .src e, g => (evE C nf e g).bind fun x g => Rs.of (listI x) g
  | _, _ => .bad
def evP (C : Cxt) (nf : Nat) : E → List D → Rs (Nat × List Nat)
  | .var i _, g => match g[i]? with
    | none => .bad
    | some d => ensure (!d.isAny) (.ok (i, []) g)
  | .fld p f, g => (evP C nf p g).bind fun q g => match (g[q.1]?).bind (D.getp q.2) with
    | some (.nd .own (.obj k ns) _) => ensure (C.fo k f) (Rs.of ((atK ns f).map fun j => (q.1, q.2 ++ [j])) g)
    | _ => .bad
  | .ix p e, g => ensure (!e.imp) ((evP C nf p g).bind fun q g => (evE C nf e g).bind fun y g => match (g[q.1]?).bind (D.getp q.2) with
    | some (.nd .own .lst ds) => match y with
      | .int k => Rs.of ((ixD ds.length k).map fun j => (q.1, q.2 ++ [j])) g
      | _ => .bad
    | _ => .bad)
  | _, _ => .bad
end

/-! ### statements -/
inductive So where
  | bad | exc (k : Nat) (g : List D) | nx (g : List D) | ret (d : D) (g : List D) | brk (g : List D) | cnt (g : List D)
def Rs.so {α : Type} (r : Rs α) (f : α → List D → So) : So := match r with
  | .bad => .bad
  | .exc k g => .exc k g
  | .ok a g => f a g
def So.ens (b : Bool) (r : So) : So := match b with
  | true => r
  | false => .bad
def So.of (r : Option (List D)) : So := match r with
  | none => .bad
  | some g => .nx g
def loopL (turn : D → List D → So) : List D → List D → So
  | [], g => .nx g
  | x :: xs, g => match turn x g with
    | .nx g => loopL turn xs g
    | .cnt g => loopL turn xs g
    | .brk g => .nx g
    | .ret d g => .ret d g
    | .exc k g => .exc k g
    | .bad => .bad
def S.imp : S → Bool
  | .cons s r => s.imp || r.imp
  | .set _ e => e.imp
  | .par _ es => es.imp
  | .unp _ e => e.imp
  | .sfl _ _ _ => true
  | .six _ _ _ => true
  | .aug _ _ e => e.imp
  | .agf _ _ _ _ => true
  | .ex e => e.imp
  | .ife c a b => c.imp || a.imp || b.imp
  | .for _ i b => i.imp || b.imp
  | .fom _ _ _ => true
  | .fapp _ _ _ => true
  | .ret e => e.imp
  | _ => false
def setAll (nf : Nat) : List Nat → List D → List D → Option (List D)
  | [], [], g => some g
  | i :: r, d :: ds, g => if (d.nb && decide (i < g.length) && decide (nf ≤ i)) = true then setAll nf r ds (g.set i d) else none
  | _, _, _ => none
def appAll (v : Int) : List D → Option (List D)
  | [] => some []
  | .nd .own .lst es :: ds => if okn es.length = true then (appAll v ds).map (.nd .own .lst (es ++ [.int v]) :: ·) else none
  | _ => none
def evS (C : Cxt) (nf : Nat) : S → List D → So
  | .nil, g => .nx g
  | .cons s r, g => match evS C nf s g with
    | .nx g => evS C nf r g
    | o => o
  | .set i e, g => (evE C nf e g).so fun d g => So.of (asgT nf (.nm i) d g)
  | .par js es, g => (evA C nf es g).so fun ds g => So.of (setAll nf js ds g)
  | .unp t e, g => (evE C nf e g).so fun d g => So.of (asgT nf t d g)
  | .six p k e, g => (evE C nf e g).so fun d g => So.ens (!k.imp && d.nb) ((evP C nf p g).so fun q g => (evE C nf k g).so fun y g => match g[q.1]? with
    | none => .bad
    | some x => match D.getp q.2 x with
      | some (.nd .own .lst cs) => match y with
        | .int i => match ixD cs.length i with
          | some j => .nx (g.set q.1 (D.setp q.2 x (.nd .own .lst (cs.set j d))))
          | none => .bad
        | _ => .bad
      | _ => .bad)
  | .ex e, g => (evE C nf e g).so fun _ g => .nx g
  | .ife c a b, g => (evE C nf c g).so fun x g => match x with
    | .bl true => evS C nf a g
    | .bl false => evS C nf b g
    | _ => .bad
  | .for t i b, g => (evI C nf i g).so fun q g => So.ens (!i.lockd && (D.nbs q.2 || !b.imp)) (loopL (fun x g => match asgT nf t x g with
      | none => .bad
      | some g => evS C nf b g) q.1 g)
  | .ret e, g => (evE C nf e g).so fun d g => So.ens d.nb (.ret d g)
  | .ret0, g => .ret .non g
  | .brk, g => .brk g
  | .cnt, g => .cnt g
  | .pas, g => .nx g
  | .rai k _, g => .exc k g
  | .setc i e c t it own, g => (evE C nf (.comp e c t it own) g).so fun d g => So.of (asgT nf (.nm i) d g)
  | .fapp j i v, g => match g[i]? with
    | some (.nd .own .lst ds) => match appAll v ds with
      | some es => So.ens (decide (nf ≤ j) && decide (j < g.length) && decide (i ≠ j)) (.nx ((g.set i (.nd .own .lst es)).set j .any))
      | none => .bad
    | _ => .bad
  | _, _ => .bad

/-! ### functions -/
structure FnD where
  ar : Nat
  len : Nat
  nf : Nat
  body : S
structure Tab where
  fn : Nat → Option FnD
  meth : Nat → Str → Option Nat
  init : Nat → Option Nat
  sup : Nat → List Nat
  glo : Str → Option Int
  fo : Nat → Str → Bool
  isc : Nat → Bool
def Tab.cx (T : Tab) (f : Nat → List D → CR) : Cxt := ⟨f, T.meth, T.init, T.sup, T.glo, T.fo, fun i => match T.fn i with | some fd => decide (1 ≤ fd.nf) | none => false, T.isc⟩
def runF (T : Tab) (call : Nat → List D → CR) (fd : FnD) (ds : List D) : CR :=
  if ds.length = fd.ar then
    match evS (T.cx call) fd.nf fd.body (ds ++ List.replicate (fd.len - fd.ar) .any) with
    | .nx g => .ok .non (g.getD 0 .any)
    | .ret d g => match d.nb with
      | true => .ok d (g.getD 0 .any)
      | false => .bad
    | .exc k g => .exc k (g.getD 0 .any)
    | _ => .bad
  else .bad
def callD (T : Tab) : Nat → Nat → List D → CR
  | 0, _, _ => .bad
  | n + 1, f, ds => match T.fn f with
    | none => .bad
    | some fd => runF T (callD T n) fd ds
end Bx

namespace Bx
open PySem PySem.Spec L2

/-! ### a text of the small language is a text of Python -/
structure Nms where
  fnm : Nat → Str
  cnm : Nat → Str
  isf : Nat → Bool
  isc : Nat → Bool
  ise : Nat → Bool
  isk : Nat → Bool
def visB (sc : Scope) (x : Str) : Bool := match sc.names.lookup x with
  | some .local => true
  | some .cell => true
  | some .free => true
  | _ => false
def locB (sc : Scope) (x : Str) : Bool := match sc.names.lookup x with
  | some .local => true
  | some .cell => true
  | _ => false
def glB (sc : Scope) (x : Str) : Bool := match sc.names.lookup x with
  | some .globalImplicit => true
  | _ => false
def plainB (x : Str) : Bool := !(x == "__debug__") && !(x == "__classdict__") && !(x == "__name__")
def opM : Op → Operator
  | .add => .Add
  | .sub => .Sub
  | .mul => .Mult
  | .mod => .Mod
  | .fdiv => .FloorDiv
  | .pow => .Pow
def cmM : Cm → CmpOp
  | .eq => .Eq
  | .ne => .NotEq
  | .lt => .Lt
  | .le => .LtE
  | .gt => .Gt
  | .ge => .GtE
  | .mem => .In
  | .nmem => .NotIn
  | .iis => .Is
  | .nis => .IsNot
def opB : Operator → Operator → Bool
  | .Add, .Add => true
  | .Sub, .Sub => true
  | .Mult, .Mult => true
  | .Mod, .Mod => true
  | .FloorDiv, .FloorDiv => true
  | .Pow, .Pow => true
  | _, _ => false
def cmB : CmpOp → CmpOp → Bool
  | .Eq, .Eq => true
  | .NotEq, .NotEq => true
  | .Lt, .Lt => true
  | .LtE, .LtE => true
  | .Gt, .Gt => true
  | .GtE, .GtE => true
  | .In, .In => true
  | .NotIn, .NotIn => true
  | .Is, .Is => true
  | .IsNot, .IsNot => true
  | _, _ => false
def biN : Bi → Str
  | .len => "len"
  | .abs => "abs"
  | .sorted => "sorted"
  | .list => "list"
  | .sum => "sum"
  | .min => "min"
  | .max => "max"
  | .any => "any"
  | .all => "all"
  | .str => "str"
  | .min2 => "min"
def bmN : Bm → Str
  | .index => "index"
  | .count => "count"
def mmN : Mm → Str
  | .append => "append"
  | .extend => "extend"
  | .insert => "insert"
  | .pop => "pop"
  | .reverse => "reverse"
def noStar : Expr → Bool
  | .Starred _ _ => false
  | _ => true
def noSlice : Expr → Bool
  | .Slice _ _ _ _ => false
  | _ => true
def noCall0 : Expr → Bool
  | .Call (.Name _ _) [] [] _ => false
  | _ => true
def noIf : Expr → Bool
  | .IfExp _ _ _ _ => false
  | _ => true
def noSet : Expr → Bool
  | .Set _ _ _ => false
  | _ => true
/-- a global name -/
def isGl (sc : Scope) (x : Str) : Expr → Bool
  | .Name y _ => decide (x = y) && glB sc y && plainB y
  | _ => false
def tyM (sc : Scope) (nm : Nms) : Ty → Expr → Bool
  | .int, e => isGl sc "int" e
  | .bool, e => isGl sc "bool" e
  | .str, e => isGl sc "str" e
  | .lst, e => isGl sc "list" e
  | .tup, e => isGl sc "tuple" e
  | .cls k, e => nm.isc k && nm.isk k && isGl sc (nm.cnm k) e
  | _, _ => false
/-- a target; loc: which names may be stored -/
def trT (N : List Str) (loc : Str → Bool) : Tg → Expr → Bool
  | .nm i, .Name x _ => decide (N[i]? = some x) && loc x
  | .tp l, .Tuple es _ _ => trTs N loc l es
  | _, _ => false
where trTs (N : List Str) (loc : Str → Bool) : Tg → List Expr → Bool
  | .nil, [] => true
  | .cons a b, e :: es => noStar e && trT N loc a e && trTs N loc b es
  | _, _ => false
def isTupT : Expr → Bool
  | .Tuple _ _ _ => true
  | _ => false
/-- what is walked by a rule that hands over tuples -/
def E.pairs : E → Bool
  | .enu _ => true
  | .zip _ _ => true
  | .ditems _ => true
  | _ => false
mutual
def trE (N : List Str) (nm : Nms) : E → Scope → Expr → Bool
  | .non, _, ex => match ex with
    | .Constant .none _ _ => true
    | _ => false
  | .bl b, _, ex => match ex with
    | .Constant (.bool c) _ _ => decide (b = c)
    | _ => false
  | .int i, _, ex => match ex with
    | .Constant (.int j) _ _ => decide (i = j)
    | _ => false
  | .str x, _, ex => match ex with
    | .Constant (.str y) _ _ => decide (x = y)
    | _ => false
  | .glo x, sc, e => isGl sc x e
  | .var i _, sc, ex => match ex with
    | .Name x _ => decide (N[i]? = some x) && visB sc x && plainB x
    | _ => false
  | .lst es, sc, ex => match ex with
    | .List xs _ => trA N nm es sc xs
    | _ => false
  | .tup es, sc, ex => match ex with
    | .Tuple xs _ _ => trA N nm es sc xs
    | _ => false
  | .dnew, _, ex => match ex with
    | .Dict [] [] _ => true
    | _ => false
  | .op o a b, sc, ex => match ex with
    | .BinOp x p y _ => opB (opM o) p && trE N nm a sc x && trE N nm b sc y
    | _ => false
  | .neg a, sc, ex => match ex with
    | .UnaryOp .USub x _ => trE N nm a sc x
    | _ => false
  | .cmp o a b, sc, ex => match ex with
    | .Compare x [p] [y] _ => cmB (cmM o) p && noSet y && trE N nm a sc x && trE N nm b sc y
    | _ => false
  | .chn o p a b c, sc, ex => match ex with
    | .Compare x [o', p'] [y, z] _ => cmB (cmM o) o' && cmB (cmM p) p' && noSet y && noSet z && trE N nm a sc x && trE N nm b sc y && trE N nm c sc z
    | _ => false
  | .and a b, sc, ex => match ex with
    | .BoolOp .And (x :: y :: r) p => noIf x && trE N nm a sc x && trE N nm b sc (.BoolOp .And (y :: r) p)
    | _ => false
  | .or a b, sc, ex => match ex with
    | .BoolOp .Or (x :: y :: r) p => noIf x && trE N nm a sc x && trE N nm b sc (.BoolOp .Or (y :: r) p)
    | _ => false
  | .frz a, sc, ex => trE N nm a sc ex
  | .unz a i j own, sc, ex => match ex with
    | .ListComp (.Name x _) [⟨.Tuple [.Name x' _, .Name y _] _ _, it, [], 0⟩] scope _ => trE N nm a sc it && decide (N[i]? = some x) && decide (N[i]? = some x') && decide (N[j]? = some y) && visB (relS scope sc) x && plainB x && locB scope x && locB scope y &&
      blkC N sc scope (own.map fun i => (N.getD i "", i)) && noSet it
    | _ => false
  | .one a, sc, ex => match ex with
    | .BoolOp _ [x] _ => noIf x && trE N nm a sc x
    | _ => false
  | .not a, sc, ex => match ex with
    | .UnaryOp .Not x _ => noIf x && trE N nm a sc x
    | _ => false
  | .ife c a b, sc, ex => match ex with
    | .IfExp t x y _ => noIf t && trE N nm c sc t && trE N nm a sc x && trE N nm b sc y
    | _ => false
  | .ix a b, sc, ex => match ex with
    | .Subscript x y _ => noSlice y && trE N nm a sc x && trE N nm b sc y
    | _ => false
  | .sl a l h, sc, ex => match ex with
    | .Subscript x (.Slice lo hi none _) _ => trE N nm a sc x && (match lo with | none => l.isNop | some lo => !l.isNop && trE N nm l sc lo) && (match hi with | none => h.isNop | some hi => !h.isNop && trE N nm h sc hi)
    | _ => false
  | .rev a, sc, ex => match ex with
    | .Subscript x (.Slice none none (some (.UnaryOp .USub (.Constant (.int i) _ _) _)) _) _ => decide (i = 1) && trE N nm a sc x
    | _ => false
  | .fld a f, sc, ex => match ex with
    | .Attribute x g _ => decide (f = g) && noCall0 x && trE N nm a sc x
    | _ => false
  | .call f es, sc, ex => match ex with
    | .Call h xs [] _ => nm.isf f && isGl sc (nm.fnm f) h && trA N nm es sc xs
    | _ => false
  | .mk k es, sc, ex => match ex with
    | .Call h xs [] _ => nm.isc k && isGl sc (nm.cnm k) h && trA N nm es sc xs
    | _ => false
  | .mth a m es, sc, ex => match ex with
    | .Call (.Attribute x g ap) xs [] cp => (ap.endLine == cp.line) && decide (xs.length < 20) && decide (m = g) && noCall0 x && trE N nm a sc x && trA N nm es sc xs
    | _ => false
  | .io p m es, sc, ex => match ex with
    | .Call (.Attribute x g ap) xs [] cp => (ap.endLine == cp.line) && decide (xs.length < 20) && decide (m = g) && noCall0 x && trE N nm p sc x && trA N nm es sc xs
    | _ => false
  | .iof f p es, sc, ex => match ex with
    | .Call h (x :: xs) [] _ => nm.isf f && isGl sc (nm.fnm f) h && noStar x && trE N nm p sc x && trA N nm es sc xs
    | _ => false
  | .bi b es, sc, ex => match ex with
    | .Call h xs [] _ => isGl sc (biN b) h && trA N nm es sc xs
    | _ => false
  | .isi a t, sc, ex => match ex with
    | .Call h [x, y] [] _ => isGl sc "isinstance" h && noStar x && trE N nm a sc x && tyM sc nm t y
    | _ => false
  | .lset a, sc, ex => match ex with
    | .Call h [.Call h2 [x] [] _] [] _ => isGl sc "len" h && isGl sc "set" h2 && noStar x && trE N nm a sc x
    | _ => false
  | .sset a, sc, ex => match ex with
    | .Call h [.Call h2 [x] [] _] [] _ => isGl sc "sorted" h && isGl sc "set" h2 && noStar x && trE N nm a sc x
    | _ => false
  | .dzip a b, sc, ex => match ex with
    | .Call h [.Call h2 [x, y] [] _] [] _ => isGl sc "dict" h && isGl sc "zip" h2 && noStar x && noStar y && trE N nm a sc x && trE N nm b sc y
    | _ => false
  | .dprs a, sc, ex => match ex with
    | .Call h [x] [] _ => isGl sc "dict" h && noStar x && trE N nm a sc x
    | _ => false
  | .lrng a, sc, ex => match ex with
    | .Call h [.Call h2 [x] [] _] [] _ => isGl sc "list" h && isGl sc "range" h2 && noStar x && trE N nm a sc x
    | _ => false
  | .ldct a, sc, ex => match ex with
    | .Call h [x] [] _ => isGl sc "list" h && noStar x && trE N nm a sc x
    | _ => false
  | .svals a, sc, ex => match ex with
    | .Call h [.Call (.Attribute x g ap) [] [] cp] [] _ => (ap.endLine == cp.line) && isGl sc "sum" h && decide (g = "values") && noCall0 x && trE N nm a sc x
    | _ => false
  | .bm b a es, sc, ex => match ex with
    | .Call (.Attribute x g ap) xs [] cp => (ap.endLine == cp.line) && decide (xs.length < 20) && decide (bmN b = g) && noCall0 x && trE N nm a sc x && trA N nm es sc xs
    | _ => false
  | .mut p m es, sc, ex => match ex with
    | .Call (.Attribute x g ap) xs [] cp => (ap.endLine == cp.line) && decide (xs.length < 20) && decide (mmN m = g) && noCall0 x && trE N nm p sc x && trA N nm es sc xs
    | _ => false
  | .comp e c t i own, sc, ex => match ex with
    | .ListComp x [⟨tg, it, ifs, 0⟩] scope _ => trI N nm i sc it && (!i.pairs || isTupT tg) && trT N (locB scope) t tg && (match ifs with | [] => c.isNop | [x] => !c.isNop && noIf x && trE N nm c (relS scope sc) x | _ => false) && trE N nm e (relS scope sc) x &&
      blkC N sc scope (own.map fun i => (N.getD i "", i)) && noSet it
    | _ => false
  | _, _, _ => false
def trA (N : List Str) (nm : Nms) : E → Scope → List Expr → Bool
  | .nil, _, ex => match ex with
    | [] => true
    | _ => false
  | .cons e es, sc, ex => match ex with
    | x :: xs => noStar x && trE N nm e sc x && trA N nm es sc xs
    | _ => false
  | _, _, _ => false
def trI (N : List Str) (nm : Nms) : E → Scope → Expr → Bool
  | .rng a, sc, ex => match ex with
    | .Call h [x] [] _ => isGl sc "range" h && noStar x && trE N nm a sc x
    | _ => false
  | .rng2 a b, sc, ex => match ex with
    | .Call h [x, y] [] _ => isGl sc "range" h && noStar x && noStar y && trE N nm a sc x && trE N nm b sc y
    | _ => false
  | .enu a, sc, ex => match ex with
    | .Call h [x] [] _ => isGl sc "enumerate" h && noStar x && trE N nm a sc x
    | _ => false
  | .zip a b, sc, ex => match ex with
    | .Call h [x, y] [] _ => isGl sc "zip" h && noStar x && noStar y && trE N nm a sc x && trE N nm b sc y
    | _ => false
  | .ditems a, sc, ex => match ex with
    | .Call (.Attribute x g ap) [] [] cp => decide (g = "items") && (ap.endLine == cp.line) && noCall0 x && trE N nm a sc x
    | _ => false
  | .dkeys a, sc, x => trE N nm a sc x
  | .src e, sc, x => trE N nm e sc x
  | _, _, _ => false
end
def notSD : Expr → Bool
  | .SetComp _ _ _ _ => false
  | .DictComp _ _ _ _ _ => false
  | .ListComp _ _ _ _ => false
  | _ => true
def bkF (sc : Scope) : Bool := (if sc.kind.isAnnotationScope then .function else sc.kind) == .function
/-- is the store of a comprehension's list made within it -/
def swC (sc : Scope) (x : Str) (px : Pos) : Expr → Bool
  | .ListComp _ _ s p => bkF sc && sc.names.lookup x == some .local && px.line == p.line && !(s.names.any fun (n, k) => n == x && (k == .local || k == .cell))
  | _ => false
def isLC : Expr → Bool
  | .ListComp _ _ _ _ => true
  | _ => false
/-- names that are stored from the right -/
def swR (sc : Scope) (ts vs : List Expr) : Option (Option (List Str)) :=
  if !(ts.length == 2 || ts.length == 3) || vs.length != ts.length || !bkF sc then some none
  else if vs.any (fun | .Starred .. => true | _ => false) then some none
  else
    let line := (ts.head?.map (·.pos.line)).getD 0
    let names := ts.filterMap fun
      | .Name id pos => if sc.names.lookup id == some .local && pos.line == line then some id else none
      | _ => none
    if names.length != ts.length || names.eraseDups.length != names.length then some none
    else if vs.all (foldedForSure 8) then some none
    else if vs.all (constantsAlone 8) then none
    else some (some names)
def swN (sc : Scope) : Expr → Expr → Bool
  | .Tuple ts _ _, .Tuple vs _ _ => match swR sc ts vs with
    | some none => true
    | _ => false
  | .Tuple _ _ _, _ => true
  | _, _ => false
def nmT : List Expr → List Str
  | .Name x _ :: r => x :: nmT r
  | _ => []
def par2 (N : List Str) (sc : Scope) : List Nat → List Expr → List Expr → Bool
  | [i, j], [.Name x _, .Name y _], vs => decide (N[i]? = some x) && decide (N[j]? = some y) && decide (i ≠ j) && sc.names.lookup x == some .local && sc.names.lookup y == some .local && decide (vs.length = 2)
  | [i, j, l], [.Name x _, .Name y _, .Name z _], vs => decide (N[i]? = some x) && decide (N[j]? = some y) && decide (N[l]? = some z) && decide (i ≠ j) && decide (i ≠ l) && decide (j ≠ l) && sc.names.lookup x == some .local && sc.names.lookup y == some .local && sc.names.lookup z == some .local && decide (vs.length = 3)
  | _, _, _ => false
def trS (N : List Str) (nm : Nms) (sc : Scope) : S → Stmt → Bool
  | .set i e, st => match st with
    | .Assign [.Name x px] ex _ => decide (N[i]? = some x) && locB sc x && (notSD ex || (isLC ex && !swC sc x px ex)) && trE N nm e sc ex
    | _ => false
  | .setc i e c t it own, st => match st with
    | .Assign [.Name x px] ex _ => decide (N[i]? = some x) && swC sc x px ex && trE N nm (.comp e c t it own) sc ex
    | _ => false
  | .par js es, st => match st with
    | .Assign [.Tuple ts _ _] (.Tuple vs _ _) _ => trA N nm es sc vs && par2 N sc js ts vs && decide (swR sc ts vs = some (some (nmT ts)))
    | _ => false
  | .unp t e, st => match st with
    | .Assign [tg] ex _ => isTupT tg && trT N (locB sc) t tg && trE N nm e sc ex && swN sc tg ex
    | _ => false
  | .six p k e, st => match st with
    | .Assign [.Subscript x y _] ex _ => noSlice y && trE N nm p sc x && trE N nm k sc y && trE N nm e sc ex
    | _ => false
  | .ex e, st => match st with
    | .Expr ex _ => notSD ex && trE N nm e sc ex
    | _ => false
  | .ife c a b, st => match st with
    | .If t x y _ => noIf t && trE N nm c sc t && trSs a x && trSs b y
    | _ => false
  | .for t i b, st => match st with
    | .For tg it x [] _ => trI N nm i sc it && (!i.pairs || isTupT tg) && trT N (locB sc) t tg && trSs b x && noSet it
    | _ => false
  | .fapp j i v, st => match st with
    | .For (.Name x _) (.Name z _) [.Expr (.Call (.Attribute (.Name y _) g ap) [.Constant (.int w) _ _] [] cp) _] [] _ => decide (N[j]? = some x) && locB sc x && visB sc x && plainB x && decide (y = x) && decide (g = "append") && decide (v = w) && (ap.endLine == cp.line) && decide (N[i]? = some z) && visB sc z && plainB z
    | _ => false
  | .ret e, st => match st with
    | .Return (some ex) _ => trE N nm e sc ex
    | _ => false
  | .ret0, st => match st with
    | .Return none _ => true
    | _ => false
  | .brk, st => match st with
    | .Break _ => true
    | _ => false
  | .cnt, st => match st with
    | .Continue _ => true
    | _ => false
  | .pas, st => match st with
    | .Pass _ => true
    | _ => false
  | .rai k x, st => match st with
    | .Raise (some (.Call h [.Constant (.str y) _ _] [] _)) none _ => nm.isc k && nm.ise k && isGl sc (nm.cnm k) h && decide (x = y)
    | _ => false
  | _, _ => false
where trSs : S → List Stmt → Bool
  | .nil, [] => true
  | .cons s r, x :: xs => trS N nm sc s x && trSs r xs
  | _, _ => false
end Bx

namespace Bx
open PySem PySem.Spec PyProof.Rows L2

/-! ### calls where it is known that no repr is under way -/
structure FnG (P : Program) (w : World) (K : PySem.W.Frag) (mg : Str → Option Value) (base : Heap) (k : Nat) (f : Addr) (fd : FuncData)
    (ps : List Str) (sp : Sp) : Prop where
  len : ∀ vs H Q E, sp vs H Q E → vs.length = ps.length
  run : ∀ (A : Around) (outer : List Env) (s : Shared) (H : Hp) (args : Args) (us : List Value) (vs : List V) (Q : VK) (E : XK),
    Room k A → A.guards = some [] → Env0 P w K mg base A outer s H → BindsTo s fd args (ps.zip us) → Vals vs us → sp vs H Q E →
      codeAny (model P w) A (.call (.ref f) args) (L2.CR (L2.CX P w) outer P w H s Q E) s
theorem guards_deeper {A : Around} {env : Env} (h : A.guards = some []) : (A.deeper env).guards = some [] := h
theorem guards_make {A : Around} {C : Addr} {us : List Value} (h : A.guards = some []) : (A.under (.builtin "type.__call__" ⟨.ref C :: us, []⟩)).guards = some [] := by
  unfold Around.under
  simp only [h]
  first | rfl | simp [pushGuards, Code.guards, Code.isGuard, guardIds]
section
variable {P : Program} {w : World} {K : PySem.W.Frag} {mg : Str → Option Value} {base : Heap}
theorem fn_ofG {k : Nat} {f : Addr} {name qual : Str} {params : Arguments} {body : List Stmt} {scope : Scope}
    {dV kV doc pm cdv ct oc : Value} {an od : Option Addr} {osl : Array (Option Value)} {N ps : List Str} {sp : Sp}
    (lk : K.lookup f = some ⟨oc, od, .func (PySem.W.fnOf name qual params body scope dV kV doc pm an cdv ct), osl⟩)
    (hcd : PySem.W.codeIn K cdv qual = true) (S : FnScope N ps scope) (len : ∀ vs H Q E, sp vs H Q E → vs.length = ps.length)
    (hbody : ∀ (A : Around) (outer : List Env) (s : Shared) (H : Hp) (vs : List V) (Q : VK) (E : XK),
      Room k (A.deeper (envOfC qual scope s.heap.objs.size f cdv)) → A.guards = some [] → sp vs H Q E →
        ∃ t, PSs (cxOf (L2.CX P w) P w K mg base N qual scope f cdv A outer s H E) body t ∧
          t { nx := fun _ H' => Q .non H', rt := Q } (start N vs) H) :
    FnG P w K mg base (k + 1) f (PySem.W.fnOf name qual params body scope dV kV doc pm an cdv ct) ps sp := by
  constructor
  · exact len
  intro A outer s H args us vs Q E room hgd e0 binds rel hsp
  have hl := len _ _ _ _ hsp
  have base_in : ∀ b o, base.get? b = some o → s.heap.get? b = some o := fun b o e => (e0.bs b o e).1
  have KX : K.In s.heap := e0.mod.kin.keeps base_in
  have lim : s.heap.NoLimit := e0.mod.nolimit.keeps base_in
  refine codeAny_call_function room.depth (KX _ _ lk) rfl S.co S.gen rfl (PySem.W.codeRec_of KX hcd) (binds _ _ _ _ ?_)
  refine wpAny_newFunctionEnv_cells S.kind ?_ fun env he s1 x => ?_
  · rintro ⟨n, v⟩ hy
    have hp : n ∈ ps := (List.of_mem_zip hy).1
    rcases S.par n hp with q | q
    · exact Or.inl q
    · exact Or.inr ⟨q, PySem.W.cellsFrom_some _ _ _ (Or.inl q)⟩
  · subst he
    refine ⟨lim.keeps x.toInCall.keep, codeAny_func ?_⟩
    obtain ⟨t, ht, hq⟩ := hbody A outer s H vs Q E (room.deeper _) hgd hsp
    have I0 := inv_start (CX := L2.CX P w) (qual := qual) (f := f) (cd := cdv) (E := E) S room.hd e0 hl rel x
    refine wpAny_mono (ht.run [] s1 (start N vs) H _ I0 hq) ?_ fun e s' hs => hs
    intro fl s' hs
    have fin : ∀ {σ' : L2.St} {H' : Hp} {v : V} {u : Value}, Inv (cxOf (L2.CX P w) P w K mg base N qual scope f cdv A outer s H E) [] σ' H' s' →
        RelV v u → Q v H' → CE outer P w H s Q u s' := by
      intro σ' H' v u J rv q
      exact ⟨v, H', J.os, J.bare, J.base, J.hok, rv, q⟩
    cases fl with
    | ret u => exact let ⟨v, σ', H', J, rv, q⟩ := hs; fin J rv q
    | next => exact let ⟨σ', H', J, q⟩ := hs; fin (v := V.non) (u := Value.none) J rfl q
    | brk => exact let ⟨_, _, _, q⟩ := hs; q.elim
    | cont => exact let ⟨_, _, _, q⟩ := hs; q.elim
end

section
variable {X : Cx} {W : WX} {k : Nat} {f C : Addr} {fd : FuncData} {ps : List Str} {sp : Sp} {x m : Str} {p pos apos : Pos} {e o : Expr}
  {es : List Expr} {ta : TE} {t : TA} {pins : List (Addr × Obj)} {σ : L2.St} {H : Hp} {s : Shared} {Q : VK} {us : List Value} {vs : List V}
theorem runG (F : FnG X.prog X.w X.K X.mg X.base k f fd ps sp) (hr : Room k X.A) (hgd : X.A.guards = some []) (hb : Binds X.K fd ps [])
    (tk : Takes X W) (I : Inv X pins σ H s) (r : Vals vs us) (h : sp vs H Q (WE W σ)) :
    wpAny (model X.prog X.w) X.A (call (.ref f) us) (EP X pins σ Q) X.xe s := by
  have hl : us.length = ps.length := r.length.symm.trans (F.len _ _ _ _ h)
  have b := hb s us I.kIn (by simpa using hl)
  rw [List.append_nil] at b
  refine wpAny_call (codeAny_mono (F.run X.A X.stack s H _ us vs Q _ hr hgd I.env0 b r h) ?_)
  intro res s' hq
  match res, hq with
  | .error e, hq => exact passAt tk σ pins H s e s' I hq
  | .ok (.ret u), hq => exact I.after hq
  | .ok .next, hq => exact False.elim hq
  | .ok .brk, hq => exact False.elim hq
  | .ok .cont, hq => exact False.elim hq

theorem star_cons (h : noStar e = true) : starEach (e :: es) X.env = (false, eval e X.env) :: starEach es X.env := by
  cases e <;> first | rfl | (simp [noStar] at h)
def noStars : List Expr → Bool
  | [] => true
  | e :: es => noStar e && noStars es
theorem stars_back (pos : Pos) : ∀ {es : List Expr}, noStars es = true → (backTo pos (starEach es X.env)).any (·.1) = false
  | [], _ => rfl
  | e :: es, h => by
    simp only [noStars, Bool.and_eq_true] at h
    rw [star_cons h.1]
    have ih := stars_back pos h.2
    unfold backTo at ih ⊢
    rw [List.map_cons, List.any_cons, ih]
    rfl
/-- f(..) -/
theorem pe_callG (F : FnG X.prog X.w X.K X.mg X.base k f fd ps sp) (hr : Room k X.A) (hgd : X.A.guards = some []) (hg : Gl X x) (hm : X.mg x = some (.ref f))
    (hk : PySem.W.keepIn X.K (.ref f) = true) (hb : Binds X.K fd ps []) (tk : Takes X W) (ha : PA X es t) (hdb : (x == ("__debug__" : Str)) = false) (hst : noStars es = true) :
    PE X (.Call (.Name x p) es [] pos) (fun σ H Q => t σ H fun vs H1 => sp vs H1 Q (WE W σ)) := by
  constructor
  intro pins s σ H Q I h
  refine wpAny_Call_Name_kw (ld_glob I hg hm ?_ hdb)
  cases es with
  | nil =>
    refine PySem.W.callWith_K0 I.kIn hk ?_
    have h1 := ha.run pos pins s σ H _ I h
    have h2 : wpAny (model X.prog X.w) X.A (spliced []) (AP X pins σ fun vs H1 => sp vs H1 Q (WE W σ)) X.xe s := h1
    have h3 : wpAny (model X.prog X.w) X.A (pure []) (AP X pins σ fun vs H1 => sp vs H1 Q (WE W σ)) X.xe s := h2
    have h4 : wpAny (model X.prog X.w) X.A (pure [] >>= fun us => call (.ref f) us) (EP X pins σ Q) X.xe s :=
      wpAny_bind (thn h3 fun us s1 ⟨vs, H1, I1, r, q⟩ => runG F hr hgd hb tk I1 r q)
    exact h4
  | cons e es =>
    simp only [noStars, Bool.and_eq_true] at hst
    refine PySem.W.callWith_K (h₀ := X.base) I.ok.mod.kin hk ?_ (star_cons hst.1) (stars_back pos hst.2)
    refine thn (ha.run pos pins s σ H _ I h) ?_
    rintro us s1 ⟨vs, H1, I1, r, q⟩
    exact ⟨I1.kIn, runG F hr hgd hb tk I1 r q⟩
theorem attr_base {o : Expr} {m : Str} {env : Env} {t : Sem Value} (h : noCall0 o = true) : attributeBase o m env t = t := by
  unfold attributeBase
  cases o with
  | Call f a k p =>
    cases f with
    | Name x q =>
      cases a with
      | nil =>
        cases k with
        | nil => simp [noCall0] at h
        | cons _ _ => rfl
      | cons _ _ => rfl
    | _ => rfl
  | _ => rfl
def plOf (o : Expr) (env : Env) : Sem Bool := do return (← importBound o env).getD true
theorem form_ok (hst : noStars es = true) (hl : es.length < 20) : methodCallForm (es.length + ([] : List Keyword).length) (backTo pos (starEach es X.env)) (backToKw pos (keywordEach [] X.env)) = true := by
  unfold methodCallForm
  have h1 : (backTo pos (starEach es X.env)).all (!·.1) = true := by
    have := stars_back (X := X) pos hst
    rw [List.all_eq_not_any_not]
    simpa using this
  rw [h1]
  have h2 : decide (es.length + 0 + 0 < 30) = true := decide_eq_true (by omega)
  exact h2
theorem meth_eval (hb : noCall0 o = true) (hst : noStars es = true) (hl : es.length < 20) (hline : (apos.endLine == pos.line) = true) :
    eval (.Call (.Attribute o m apos) es [] pos) X.env = (do
      let ov ← eval o X.env
      standAt apos.atName
      let (f, first) ← holding [ov] (getMethod ov m (plOf o X.env))
      callWith pos f first (backTo pos (starEach es X.env)) (backToKw pos (keywordEach [] X.env))) := by
  have e1 : eval (.Call (.Attribute o m apos) es [] pos) X.env = (do
      let ov ← attributeBase o m X.env (eval o X.env)
      standAt apos.atName
      methodCall o m apos pos X.env ov (es.length + ([] : List Keyword).length) (backTo pos (starEach es X.env)) (backToKw pos (keywordEach [] X.env))) := by
    with_unfolding_all rfl
  rw [e1, attr_base hb]
  unfold methodCall calleeOf methodCallPos
  rw [form_ok hst hl, hline]
  rfl
/-- the parts of a method's call -/
theorem pe_methG (he : PE X o ta) (ha : PA X es t) (hb : noCall0 o = true) (hst : noStars es = true) (hl : es.length < 20) (hline : (apos.endLine == pos.line) = true) (hgd : X.A.guards = some []) (tk : Takes X W) :
    PE X (.Call (.Attribute o m apos) es [] pos) (fun σ H Q => ta σ H fun x H1 => ∃ a C dx fs g k fd ps sp, x = .ref a ∧ H1 a = some (.ins C dx fs) ∧ Cls X.K C ∧ Meth X.K C m g ∧ fs.lookup m = none ∧
      FnG X.prog X.w X.K X.mg X.base k g fd ps sp ∧ Room k X.A ∧ Binds X.K fd ps [] ∧ t σ H1 fun vs H2 => sp (.ref a :: vs) H2 Q (WE W σ)) := by
  constructor
  intro pins s σ H Q I h
  refine PySem.W.methodCall_KW (pl := plOf o X.env) (thn (he.run pins s σ H _ I h) ?_) (meth_eval hb hst hl hline)
  rintro u s1 ⟨x, H1, I1, rx, a, C, dx, fs, g, k, fd, ps, sp, rfl, ea, c, hm, hlk, F, hr, hbd, q⟩
  obtain rfl : u = Value.ref a := rx
  refine getmeth_ok I1 ea c hm hlk ?_
  cases es with
  | nil =>
    have h1 : wpAny (model X.prog X.w) X.A (pure []) (AP X pins σ fun vs H2 => sp (.ref a :: vs) H2 Q (WE W σ)) X.xe s1 := ha.run pos pins s1 σ H1 _ I1 q
    have h2 : wpAny (model X.prog X.w) X.A (pure [] >>= fun us => call (.ref g) (.ref a :: us)) (EP X pins σ Q) X.xe s1 :=
      wpAny_bind (thn h1 fun us s2 ⟨vs, H2, I2, r, q2⟩ => runG (vs := .ref a :: vs) F hr hgd hbd tk I2 (.cons rfl r) q2)
    exact PySem.W.callWith_K0 (first := [.ref a]) I1.kIn hm.kp h2
  | cons e es =>
    simp only [noStars, Bool.and_eq_true] at hst
    refine PySem.W.callWith_K (first := [.ref a]) (h₀ := X.base) I.ok.mod.kin hm.kp ?_ (star_cons hst.1) (stars_back pos hst.2)
    refine thn (ha.run pos pins s1 σ H1 _ I1 q) ?_
    rintro us s2 ⟨vs, H2, I2, r, q2⟩
    exact ⟨I2.kIn, runG (vs := .ref a :: vs) F hr hgd hbd tk I2 (.cons rfl r) q2⟩
/-- C(..) -/
theorem pe_makeG (M : Mk X.K C f) (F : FnG X.prog X.w X.K X.mg X.base k f fd ps sp) (hr : Room (k + 1) X.A) (hgd : X.A.guards = some []) (hg : Gl X x) (hm : X.mg x = some (.ref C)) (hb : Binds X.K fd ps []) (tk : Takes X W)
    (ha : PA X es t) (hdb : (x == ("__debug__" : Str)) = false) (hst : noStars es = true) :
    PE X (.Call (.Name x p) es [] pos) (fun σ H Q => t σ H fun vs H1 => ∀ x dx, H1 x = none → H1 dx = none → dx ≠ x →
      sp (.ref x :: vs) (upd (upd H1 dx (.own x)) x (.ins C dx [])) (fun v H2 => v = .non ∧ Q (.ref x) H2) (WE W σ)) := by
  constructor
  intro pins s σ H Q I h
  have go : ∀ (us : List Value) (s : Shared) (H1 : Hp) (vs : List V), Inv X pins σ H1 s → Vals vs us → (∀ x dx, H1 x = none → H1 dx = none → dx ≠ x →
      sp (.ref x :: vs) (upd (upd H1 dx (.own x)) x (.ins C dx [])) (fun v H2 => v = .non ∧ Q (.ref x) H2) (WE W σ)) → wpAny (model X.prog X.w) X.A (call (.ref C) us) (EP X pins σ Q) X.xe s := by
    intro us s H1 vs I1 r h1
    have hq := h1 (s.heap.objs.size + 1) s.heap.objs.size (I1.hok.fresh (Nat.le_succ _)) (I1.hok.fresh (Nat.le_refl _)) (Nat.ne_of_lt (Nat.lt_succ_self _))
    have I2 := Inv.made (C := C) I1
    have r2 : Vals (V.ref (s.heap.objs.size + 1) :: vs) (Value.ref (s.heap.objs.size + 1) :: us) := .cons rfl r
    have hl : (Value.ref (s.heap.objs.size + 1) :: us).length = ps.length := r2.length.symm.trans (F.len _ _ _ _ hq)
    have bnd := hb _ (Value.ref (s.heap.objs.size + 1) :: us) I2.kIn (by simpa using hl)
    rw [List.append_nil] at bnd
    refine wpAny_call (make_map (f := f) I1.kIn M.makes M.init (beq_iff_eq.mp M.fn) (codeAny_mono (F.run _ X.stack _ _ ⟨Value.ref (s.heap.objs.size + 1) :: us, []⟩ _ _ _ _ (hr.make C us []) (guards_make hgd) (I2.env0.make C us []) bnd r2 hq) ?_))
    intro res s' hq'
    match res, hq' with
    | .error e, hq' => exact passAt tk σ pins _ _ e s' I2 hq'
    | .ok (.ret u), hq' =>
      obtain ⟨v, H', I3, rv, ev, q3⟩ := I2.after hq'
      subst ev
      exact ⟨rv, ⟨V.ref (s.heap.objs.size + 1), H', I3, rfl, q3⟩⟩
    | .ok .next, hq' => exact False.elim hq'
    | .ok .brk, hq' => exact False.elim hq'
    | .ok .cont, hq' => exact False.elim hq'
  refine wpAny_Call_Name_kw (ld_glob I hg hm ?_ hdb)
  cases es with
  | nil =>
    refine PySem.W.callWith_K0 I.kIn M.kp ?_
    have h3 : wpAny (model X.prog X.w) X.A (pure []) (AP X pins σ _) X.xe s := ha.run pos pins s σ H _ I h
    have h4 : wpAny (model X.prog X.w) X.A (pure [] >>= fun us => call (.ref C) us) (EP X pins σ Q) X.xe s :=
      wpAny_bind (thn h3 fun us s1 ⟨vs, H1, I1, r, q⟩ => go us s1 H1 vs I1 r q)
    exact h4
  | cons e es =>
    simp only [noStars, Bool.and_eq_true] at hst
    refine PySem.W.callWith_K (h₀ := X.base) I.ok.mod.kin M.kp ?_ (star_cons hst.1) (stars_back pos hst.2)
    refine thn (ha.run pos pins s σ H _ I h) ?_
    rintro us s1 ⟨vs, H1, I1, r, q⟩
    exact ⟨I1.kIn, go us s1 H1 vs I1 r q⟩
end
end Bx

namespace Bx
open PySem PySem.Spec PyProof.Rows L2

section
variable {c : Wc} {O O' : Ow} {H H' : Hp} {B : Bs} {ts as : List D} {ws vs us : List V} {Γ : List D} {σ : L2.St} {ft fs : List Addr} {d : D} {v : V}

/-! ### what a passing value is -/
theorem Wd.rep (w : Wd c B H (d :: ts) (v :: ws) Γ σ) (na : d ≠ .any) : ∃ O f, Rep c O H d v f := by
  obtain ⟨ft, fs, w⟩ := w
  have rt := w.rt
  rw [List.map_cons, RepS] at rt
  obtain ⟨o, r, f1, f2, e, _, h1, _⟩ := rt
  obtain ⟨rfl, rfl⟩ := List.cons.inj e
  rcases h1 with ⟨z, _⟩ | ⟨v', e', h1⟩
  · exact absurd z na
  · cases e'
    exact ⟨_, _, h1⟩
theorem Wd.int_inv {i : Int} (w : Wd c B H (.int i :: ts) (v :: ws) Γ σ) : v = .int i := by
  obtain ⟨O, f, h⟩ := w.rep (by simp)
  rw [Rep] at h
  exact h.1
theorem Wd.bl_inv {i : Bool} (w : Wd c B H (.bl i :: ts) (v :: ws) Γ σ) : v = .bl i := by
  obtain ⟨O, f, h⟩ := w.rep (by simp)
  rw [Rep] at h
  exact h.1
theorem Wd.str_inv {i : Str} (w : Wd c B H (.str i :: ts) (v :: ws) Γ σ) : v = .str i := by
  obtain ⟨O, f, h⟩ := w.rep (by simp)
  rw [Rep] at h
  exact h.1
theorem Wd.non_inv (w : Wd c B H (.non :: ts) (v :: ws) Γ σ) : v = .non := by
  obtain ⟨O, f, h⟩ := w.rep (by simp)
  rw [Rep] at h
  exact h.1
theorem Wd.scr_inv {ns : List Int} (w : Wd c B H (.scr ns :: ts) (v :: ws) Γ σ) : ∃ a, v = .ref a ∧ SqL c.K H a (ns.map V.int) := by
  obtain ⟨O, f, h⟩ := w.rep (by simp)
  rw [Rep] at h
  obtain ⟨⟨a, rfl, h⟩, _⟩ := h
  refine ⟨a, rfl, ?_⟩
  rcases h with ⟨o, h⟩ | h
  · exact .inl (.inr ⟨o, h⟩)
  · exact h H
theorem Rep.flat {u : V} {f : List Addr} (h : Rep c O H d v f) (e : d.flat = some u) : v = u ∧ flatV u = true := by
  cases d with
  | non => rw [Rep] at h; simp [D.flat] at e; subst e; exact ⟨h.1, rfl⟩
  | bl b => rw [Rep] at h; simp [D.flat] at e; subst e; exact ⟨h.1, rfl⟩
  | int b => rw [Rep] at h; simp [D.flat] at e; subst e; exact ⟨h.1, rfl⟩
  | str b => rw [Rep] at h; simp [D.flat] at e; subst e; exact ⟨h.1, rfl⟩
  | _ => simp [D.flat] at e
theorem RepS.flats : ∀ {ds : List D} {vs us : List V} {f : List Addr}, RepS c O H ds (vs.map some) f → D.flats ds = some us → vs = us ∧ us.all flatV = true
  | [], vs, us, f, h, e => by
    rw [RepS] at h
    simp [D.flats] at e
    subst e
    exact ⟨by simpa using h.1, rfl⟩
  | d :: ds, vs, us, f, h, e => by
    rw [RepS] at h
    obtain ⟨o, r, f1, f2, eo, _, h1, h2⟩ := h
    cases vs with
    | nil => simp at eo
    | cons v vs =>
      simp only [List.map_cons] at eo
      obtain ⟨rfl, rfl⟩ := List.cons.inj eo
      simp only [D.flats] at e
      cases ed : d.flat with
      | none => rw [ed] at e; simp at e
      | some u =>
        cases es : D.flats ds with
        | none => rw [ed, es] at e; simp at e
        | some us' =>
          rw [ed, es] at e
          simp at e
          subst e
          obtain ⟨e1, e2⟩ := RepS.flats h2 es
          rcases h1 with ⟨rfl, _⟩ | ⟨v', e', h1⟩
          · simp [D.flat] at ed
          · cases e'
            obtain ⟨e3, e4⟩ := h1.flat ed
            exact ⟨by rw [e1, e3], by rw [List.all_cons, e4, e2]; rfl⟩
theorem RepS.ints : ∀ {ds : List D} {vs : List V} {ns : List Int} {f : List Addr}, RepS c O H ds (vs.map some) f → D.ints ds = some ns → vs = ns.map V.int
  | [], vs, us, f, h, e => by
    rw [RepS] at h
    simp [D.ints] at e
    subst e
    simpa using h.1
  | d :: ds, vs, us, f, h, e => by
    rw [RepS] at h
    obtain ⟨o, r, f1, f2, eo, _, h1, h2⟩ := h
    cases vs with
    | nil => simp at eo
    | cons v vs =>
      simp only [List.map_cons] at eo
      obtain ⟨rfl, rfl⟩ := List.cons.inj eo
      cases d with
      | int i =>
        simp only [D.ints] at e
        cases es : D.ints ds with
        | none => rw [es] at e; simp at e
        | some us' =>
          rw [es] at e
          simp at e
          subst e
          rcases h1 with ⟨z, _⟩ | ⟨v', e', h1⟩
          · cases z
          · cases e'
            rw [Rep] at h1
            rw [RepS.ints h2 es, h1.1]
            rfl
      | _ => simp [D.ints] at e
theorem RepS.bools : ∀ {ds : List D} {vs : List V} {ns : List Bool} {f : List Addr}, RepS c O H ds (vs.map some) f → D.bools ds = some ns → vs = ns.map V.bl
  | [], vs, us, f, h, e => by
    rw [RepS] at h
    simp [D.bools] at e
    subst e
    simpa using h.1
  | d :: ds, vs, us, f, h, e => by
    rw [RepS] at h
    obtain ⟨o, r, f1, f2, eo, _, h1, h2⟩ := h
    cases vs with
    | nil => simp at eo
    | cons v vs =>
      simp only [List.map_cons] at eo
      obtain ⟨rfl, rfl⟩ := List.cons.inj eo
      cases d with
      | bl i =>
        simp only [D.bools] at e
        cases es : D.bools ds with
        | none => rw [es] at e; simp at e
        | some us' =>
          rw [es] at e
          simp at e
          subst e
          rcases h1 with ⟨z, _⟩ | ⟨v', e', h1⟩
          · cases z
          · cases e'
            rw [Rep] at h1
            rw [RepS.bools h2 es, h1.1]
            rfl
      | _ => simp [D.bools] at e
/-- a list's items, all known -/
theorem Wd.ints {f : Fl} {t : Tag} {ds : List D} {ns : List Int} {a : Addr} {us : List V} (w : Wd c B H (.nd f t ds :: ts) (.ref a :: ws) Γ σ) (ha : AtR c H a t us) (e : D.ints ds = some ns) : us = ns.map V.int := by
  obtain ⟨O, g, h⟩ := w.rep (by simp)
  rw [Rep] at h
  obtain ⟨a', us', fq, e1, h1, h2, _⟩ := h
  cases e1
  rw [AtR.det ha h1]
  exact h2.ints e
theorem Wd.bools {f : Fl} {t : Tag} {ds : List D} {ns : List Bool} {a : Addr} {us : List V} (w : Wd c B H (.nd f t ds :: ts) (.ref a :: ws) Γ σ) (ha : AtR c H a t us) (e : D.bools ds = some ns) : us = ns.map V.bl := by
  obtain ⟨O, g, h⟩ := w.rep (by simp)
  rw [Rep] at h
  obtain ⟨a', us', fq, e1, h1, h2, _⟩ := h
  cases e1
  rw [AtR.det ha h1]
  exact h2.bools e
theorem Wd.flats {f : Fl} {t : Tag} {ds : List D} {ns : List V} {a : Addr} {us : List V} (w : Wd c B H (.nd f t ds :: ts) (.ref a :: ws) Γ σ) (ha : AtR c H a t us) (e : D.flats ds = some ns) : us = ns ∧ ns.all flatV = true := by
  obtain ⟨O, g, h⟩ := w.rep (by simp)
  rw [Rep] at h
  obtain ⟨a', us', fq, e1, h1, h2, _⟩ := h
  cases e1
  rw [AtR.det ha h1]
  exact h2.flats e
theorem Wd.flatst {ds : List D} {ns : List V} {a : Addr} {us : List V} (w : Wd c B H (.tup ds :: ts) (.ref a :: ws) Γ σ) (ha : H a = some (.tup us)) (e : D.flats ds = some ns) : us = ns ∧ ns.all flatV = true := by
  obtain ⟨O, g, h⟩ := w.rep (by simp)
  rw [Rep] at h
  obtain ⟨a', us', e1, h1, h2⟩ := h
  cases e1
  rw [ha] at h1
  cases h1
  exact h2.flats e
theorem Wd.flat {u : V} (w : Wd c B H (d :: ts) (v :: ws) Γ σ) (e : d.flat = some u) : v = u ∧ flatV u = true := by
  have na : d ≠ .any := by rintro rfl; simp [D.flat] at e
  obtain ⟨O, f, h⟩ := w.rep na
  exact h.flat e

mutual
theorem Rep.dp : ∀ {d : D} {v : V} {f : List Addr}, Rep c O H d v f → d.pyb = true → Dp c.K H v d.py
  | .non, _, _, h, _ => by
    rw [Rep] at h
    rw [h.1]
    exact .non
  | .any, _, _, _, p => by simp [D.pyb] at p
  | .bl b, _, _, h, _ => by
    rw [Rep] at h
    rw [h.1]
    exact .bl b
  | .int b, _, _, h, _ => by
    rw [Rep] at h
    rw [h.1]
    exact .int b
  | .str b, _, _, h, _ => by
    rw [Rep] at h
    rw [h.1]
    exact .str b
  | .scr ns, _, _, h, _ => by
    rw [Rep] at h
    obtain ⟨⟨a, rfl, h⟩, _⟩ := h
    have hs : SqL c.K H a (ns.map V.int) := by
      rcases h with ⟨o, h⟩ | h
      · exact .inl (.inr ⟨o, h⟩)
      · exact h H
    have hd : ∀ ns : List Int, DpAll c.K H (ns.map V.int) (ns.map .int) := fun ns => by
      induction ns with
      | nil => exact .nil
      | cons n ns ih => exact .cons (.int n) ih
    show Dp c.K H _ (.list (ns.map .int))
    exact .lst hs (hd ns)
  | .tup ds, _, _, h, p => by
    rw [Rep] at h
    obtain ⟨a, vs, rfl, ha, hq⟩ := h
    rw [D.pyb] at p
    rw [D.py]
    exact .tup (SqT.of ha) (RepS.dp hq p)
  | .nd f t ds, _, _, h, p => by
    rw [Rep] at h
    obtain ⟨a, vs, fq, rfl, ha, hq, _⟩ := h
    rw [D.pyb, Bool.and_eq_true] at p
    have et : t = .lst := by simpa using p.1
    subst et
    rw [D.py]
    exact .lst (SqL.of ha) (RepS.dp hq p.2)
theorem RepS.dp : ∀ {ds : List D} {vs : List V} {f : List Addr}, RepS c O H ds (vs.map some) f → D.pybs ds = true → DpAll c.K H vs (D.pys ds)
  | [], vs, _, h, _ => by
    rw [RepS] at h
    have e : vs = [] := by simpa using h.1
    subst e
    exact .nil
  | d :: ds, vs, _, h, p => by
    rw [RepS] at h
    obtain ⟨o, r, f1, f2, eo, _, h1, h2⟩ := h
    rw [D.pybs, Bool.and_eq_true] at p
    cases vs with
    | nil => simp at eo
    | cons v vs =>
      simp only [List.map_cons] at eo
      obtain ⟨rfl, rfl⟩ := List.cons.inj eo
      rcases h1 with ⟨rfl, _⟩ | ⟨v', e', h1⟩
      · simp [D.pyb] at p
      · cases e'
        rw [D.pys]
        exact .cons (Rep.dp h1 p.1) (RepS.dp h2 p.2)
end
theorem Wd.dp (w : Wd c B H (d :: ts) (v :: ws) Γ σ) (p : d.cmpb = true) : Dp c.K H v d.py ∧ SeqAt.shaped d.py = true := by
  unfold D.cmpb at p
  rw [Bool.and_eq_true] at p
  have na : d ≠ .any := by rintro rfl; simp [D.pyb] at p
  obtain ⟨O, f, h⟩ := w.rep na
  exact ⟨h.dp p.1, p.2⟩

/-! ### outcomes -/
def PostR {α : Type} (c : Wc) (B : Bs) (ts : List D) (ws : List V) (σ : L2.St) (W : WX) (k : α → List D → Prop) : Rs α → Prop
  | .bad => False
  | .exc j g => ∀ H', Wd c B H' ts ws g σ → W (.ref (c.cl j)) none σ H'
  | .ok a g => k a g
variable {W : WX} {α β : Type} {k : α → List D → Prop}
theorem PostR.bind {f : β → List D → Rs α} {r : Rs β} (h : PostR c B ts ws σ W k (r.bind f)) : PostR c B ts ws σ W (fun a g => PostR c B ts ws σ W k (f a g)) r := by
  cases r <;> exact h
theorem PostR.on {k' : α → List D → Prop} {r : Rs α} {es : List D} {us : List V} (h : PostR c B ts ws σ W k r) (l : es.length = us.length) (f : ∀ a g, r = .ok a g → k a g → k' a g) : PostR c B (es ++ ts) (us ++ ws) σ W k' r := by
  cases r with
  | bad => exact h
  | exc j g => exact fun H' w => h H' (w.drops l)
  | ok a g => exact f a g rfl h
theorem PostR.of {o : Option α} {g : List D} (h : PostR c B ts ws σ W k (Rs.of o g)) : ∃ a, o = some a ∧ k a g := by
  cases o with
  | none => exact h.elim
  | some a => exact ⟨a, rfl, h⟩
theorem PostR.ens {b : Bool} {r : Rs α} (h : PostR c B ts ws σ W k (ensure b r)) : b = true ∧ PostR c B ts ws σ W k r := by
  cases b with
  | true => exact ⟨rfl, h⟩
  | false => exact h.elim
/-- what is wanted behind an expression -/
def okE (c : Wc) (B : Bs) (ts : List D) (ws : List V) (σ : L2.St) (im : Bool) (H : Hp) (Q : VK) (d : D) (g : List D) : Prop :=
  ∀ v H', (im = false → ∀ a o, H a = some o → H' a = some o) → Wd c B H' (d :: ts) (v :: ws) g σ → Q v H'
def okT (c : Wc) (B : Bs) (ts : List D) (ws : List V) (σ : L2.St) (im : Bool) (H : Hp) (Q : Bool → Hp → Prop) (d : D) (g : List D) : Prop :=
  ∃ b, d = .bl b ∧ ∀ H', (im = false → ∀ a o, H a = some o → H' a = some o) → Wd c B H' ts ws g σ → Q b H'
def okA (c : Wc) (B : Bs) (ts : List D) (ws : List V) (σ : L2.St) (im : Bool) (H : Hp) (Q : List V → Hp → Prop) (ds : List D) (g : List D) : Prop :=
  ∀ vs H', (im = false → ∀ a o, H a = some o → H' a = some o) → ds.length = vs.length → Wd c B H' (ds ++ ts) (vs ++ ws) g σ → Q vs H'
def tE (c : Wc) (C : Cxt) (nf : Nat) (W : WX) (e : E) : TE := fun σ H Q => ∃ B ts ws Γ, Wd c B H ts ws Γ σ ∧ B.fx.length ≤ nf ∧ (e.imp = true → D.nbs ts = true) ∧ (c.lk = [] ∨ e.plain = true) ∧
  PostR c B ts ws σ W (okE c B ts ws σ e.imp H Q) (evE C nf e Γ)
def tT (c : Wc) (C : Cxt) (nf : Nat) (W : WX) (e : E) : TT := fun σ H Q => ∃ B ts ws Γ, Wd c B H ts ws Γ σ ∧ B.fx.length ≤ nf ∧ (e.imp = true → D.nbs ts = true) ∧ (c.lk = [] ∨ e.plain = true) ∧
  PostR c B ts ws σ W (okT c B ts ws σ e.imp H Q) (evE C nf e Γ)
def tA (c : Wc) (C : Cxt) (nf : Nat) (W : WX) (e : E) : TA := fun σ H Q => ∃ B ts ws Γ, Wd c B H ts ws Γ σ ∧ B.fx.length ≤ nf ∧ (e.imp = true → D.nbs ts = true) ∧ c.lk = [] ∧
  PostR c B ts ws σ W (okA c B ts ws σ e.imp H Q) (evA C nf e Γ)
end

/-! ### what is known of the text that runs -/
def spF (c : Wc) (C : Cxt) (ar nf : Nat → Nat) (f : Nat) : Sp := fun vs H Q E => ∃ (B : Bs) (ds : List D), c.lk = [] ∧ ds.length = vs.length ∧ ds.length = ar f ∧ B.fx.length ≤ nf f ∧
  (∀ n, Wd c B H [] [] (ds ++ List.replicate n .any) (vs.map some ++ List.replicate n none)) ∧
  match C.fn f ds with
    | .bad => False
    | .exc j o => ∀ (H' : Hp) (Δ : List D) (τ : L2.St), Wd c B H' [] [] Δ τ → Δ.getD 0 .any = o → E (.ref (c.cl j)) none H'
    | .ok r o => r.nb = true → ∀ (v : V) (H' : Hp) (Δ : List D) (τ : L2.St), Wd c B H' [r] [v] Δ τ → Δ.getD 0 .any = o → Q v H'
def blts : List Str := ["len", "abs", "sorted", "list", "sum", "min", "max", "any", "all", "str", "isinstance", "set", "dict", "zip", "range", "enumerate", "int", "bool", "tuple"]
def tyNs : List String := ["NoneType", "bool", "int", "str", "list", "tuple", "dict"]
structure Ix where
  fa : Nat → Addr
  ar : Nat → Nat
  nf : Nat → Nat
structure XOk (X : Cx) (c : Wc) (C : Cxt) (nm : Nms) (ix : Ix) (N : List Str) (sc : Scope) (W : WX) (k : Nat) : Prop where
  calm : X.calm = true
  hN : X.N = N
  nd : N.Nodup
  sc : X.env.scope = sc
  hK : X.K = c.K
  room : Room (k + 1) X.A
  gd : X.A.guards = some []
  tk : Takes X W
  blt : ∀ x ∈ blts, X.mg x = none
  far : ∀ f ds, C.fn f ds ≠ .bad → ds.length = ix.ar f
  io : ∀ f, C.io f = true → 1 ≤ ix.nf f
  ioi : ∀ j f, C.init j = some f → C.io f = true
  fn : ∀ f, nm.isf f = true → ∃ fd ps, FnG X.prog X.w X.K X.mg X.base k (ix.fa f) fd ps (spF c C ix.ar ix.nf f) ∧ Binds X.K fd ps [] ∧ PySem.W.keepIn X.K (.ref (ix.fa f)) = true
  gl : ∀ f, nm.isf f = true → X.mg (nm.fnm f) = some (.ref (ix.fa f))
  cgl : ∀ j, nm.isc j = true → X.mg (nm.cnm j) = some (.ref (c.cl j))
  glo : ∀ x i, C.glo x = some i → ∃ t, X.mg x = some (.int i t)
  kc : ∀ j, C.isc j = true → Cls X.K (c.cl j) ∧ (PySem.W.findIn X.K (.ref (c.cl j)) "__class__" = some (some (.builtin "object.__class__")) ∧ PySem.W.specialIn X.K (.builtin "object.__class__") "__get__" = some (some (.builtin "getset_descriptor.__get__")) ∧ PySem.W.takesIn X.K (.builtin "object.__class__") = some true ∧ PySem.W.mroIn X.K (c.cl j) (.type "object") = some true) ∧
    (∀ n ∈ tyNs, PySem.W.kitOne X.K (.ref (c.cl j)) (.type n) = some false) ∧ ∀ i, nm.isk i = true → PySem.W.kitOne X.K (.ref (c.cl j)) (.ref (c.cl i)) = some ((C.sup j).contains i)
  kt : ∀ n ∈ tyNs, ∀ i, nm.isk i = true → PySem.W.kitOne X.K (.type n) (.ref (c.cl i)) = some false
  fo : ∀ j f, C.fo j f = true → Cls X.K (c.cl j) ∧ NoAttr X.K (c.cl j) f
  meth : ∀ j m f, C.meth j m = some f → Cls X.K (c.cl j) ∧ Meth X.K (c.cl j) m (ix.fa f) ∧ nm.isf f = true
  init : ∀ j f, C.init j = some f → nm.isf f = true ∧ Mk X.K (c.cl j) (ix.fa f)
section
variable {X : Cx} {e : Expr}
theorem peImp {t t' : TE} (h : PE X e t) (f : ∀ σ H Q, t' σ H Q → t σ H Q) : PE X e t' := ⟨fun pins s σ H Q I h' => h.run pins s σ H Q I (f _ _ _ h')⟩
theorem ptImp {t t' : TT} (h : PT X e t) (f : ∀ σ H Q, t' σ H Q → t σ H Q) : PT X e t' := ⟨fun pins s σ H Q I h' => h.run pins s σ H Q I (f _ _ _ h')⟩
theorem paImp {es : List Expr} {t t' : TA} (h : PA X es t) (f : ∀ σ H Q, t' σ H Q → t σ H Q) : PA X es t' := ⟨fun pos pins s σ H Q I h' => h.run pos pins s σ H Q I (f _ _ _ h')⟩
theorem peOr {t t' : TE} (h : PE X e t) (h' : PE X e t') : PE X e (fun σ H Q => t σ H Q ∨ t' σ H Q) := ⟨fun pins s σ H Q I z => z.elim (h.run pins s σ H Q I) (h'.run pins s σ H Q I)⟩
end
end Bx

namespace Bx
open PySem PySem.Spec PyProof.Rows L2

section
variable {X : Cx} {c : Wc} {C : Cxt} {nm : Nms} {ix : Ix} {N : List Str} {sc : Scope} {W : WX} {k nf : Nat} {x y z : Expr} {a b e : E} {pos p1 : Pos} {σ : L2.St} {H : Hp} {B : Bs} {ts : List D} {ws : List V} {Γ : List D}

theorem tT_E {Q : Bool → Hp → Prop} (h : tT c C nf W e σ H Q) : tE c C nf W e σ H (fun x H1 => ∃ k, x = .bl k ∧ Q k H1) := by
  obtain ⟨B, ts, ws, Γ, w, hf, hi, hl, h⟩ := h
  refine ⟨B, ts, ws, Γ, w, hf, hi, hl, PostR.on (es := []) (us := []) h rfl ?_⟩
  rintro d g _ ⟨b, rfl, q⟩ v H' ext w'
  exact ⟨b, w'.bl_inv, q H' ext w'.drop⟩
theorem peT (h : PE X x (tE c C nf W e)) (he : ∀ whole, isTrue x X.env whole = (do let v ← whole; standAt x.pos; holding [v] (truthy v))) : PT X x (tT c C nf W e) :=
  ptImp (pt_val h he) fun _ _ _ q => tT_E q
def plainT : Expr → Bool
  | .UnaryOp .Not _ _ => false
  | .BoolOp _ _ _ => false
  | .IfExp _ _ _ _ => false
  | .Compare _ _ _ _ => false
  | _ => true
theorem plainT_ok (h : plainT x = true) : ∀ whole, isTrue x X.env whole = (do let v ← whole; standAt x.pos; holding [v] (truthy v)) := by
  intro whole
  cases x with
  | UnaryOp op y p => cases op <;> first | rfl | (simp [plainT] at h)
  | BoolOp _ _ _ => simp [plainT] at h
  | IfExp _ _ _ _ => simp [plainT] at h
  | Compare _ _ _ _ => simp [plainT] at h
  | _ => rfl

/-- an outcome without change -/
theorem okE.same {im : Bool} {Q : VK} {d : D} {g : List D} {v : V} (h : okE c B ts ws σ im H Q d g) (w : Wd c B H (d :: ts) (v :: ws) g σ) : Q v H := h v H (fun _ _ _ e => e) w

theorem s_non {j : Nat} : PE X (.Constant .none j pos) (tE c C nf W .non) := peImp pe_non fun σ H Q h => by
  obtain ⟨B, ts, ws, Γ, w, hf, hi, hl, h⟩ := h
  rw [evE] at h
  exact okE.same h w.non
theorem s_bl {j : Nat} {v : Bool} : PE X (.Constant (.bool v) j pos) (tE c C nf W (.bl v)) := peImp pe_bl fun σ H Q h => by
  obtain ⟨B, ts, ws, Γ, w, hf, hi, hl, h⟩ := h
  rw [evE] at h
  exact okE.same h (w.bl v)
theorem s_int {j : Nat} {v : Int} : PE X (.Constant (.int v) j pos) (tE c C nf W (.int v)) := peImp pe_int fun σ H Q h => by
  obtain ⟨B, ts, ws, Γ, w, hf, hi, hl, h⟩ := h
  rw [evE] at h
  exact okE.same h (w.int v)
theorem s_str {j : Nat} {v : Str} : PE X (.Constant (.str v) j pos) (tE c C nf W (.str v)) := peImp pe_str fun σ H Q h => by
  obtain ⟨B, ts, ws, Γ, w, hf, hi, hl, h⟩ := h
  rw [evE] at h
  exact okE.same h (w.str v)
theorem isGl_ok {n : Str} (hx : XOk X c C nm ix N sc W k) (h : isGl sc n x = true) : ∃ p, x = .Name n p ∧ Gl X n ∧ (n == ("__debug__" : Str)) = false ∧ n ≠ "__name__" := by
  cases x with
  | Name y p =>
    simp only [isGl, Bool.and_eq_true, decide_eq_true_eq] at h
    obtain ⟨⟨rfl, h1⟩, h2⟩ := h
    refine ⟨p, rfl, ?_, ?_, ?_⟩
    · show X.env.scope.names.lookup n = _
      rw [hx.sc]
      unfold glB at h1
      split at h1
      · assumption
      · cases h1
    · unfold plainB at h2
      simp at h2
      simpa using h2.1.1
    · unfold plainB at h2
      simp at h2
      exact h2.2
  | _ => simp [isGl] at h
theorem s_glo {n : Str} (hx : XOk X c C nm ix N sc W k) (h : isGl sc n x = true) : PE X x (tE c C nf W (.glo n)) := by
  obtain ⟨p, rfl, g, hd, _⟩ := isGl_ok hx h
  by_cases hm : ∃ i, C.glo n = some i
  · obtain ⟨i, hi⟩ := hm
    obtain ⟨t, ht⟩ := hx.glo n i hi
    refine peImp (pe_glob (v := .int i) g ht ⟨t, rfl⟩ hd) fun σ H Q h => ?_
    obtain ⟨B, ts, ws, Γ, w, hf, _, hl, h⟩ := h
    rw [evE, hi] at h
    exact okE.same h (w.int i)
  · refine ⟨fun pins s σ H Q I h => ?_⟩
    obtain ⟨B, ts, ws, Γ, w, hf, _, hl, h⟩ := h
    rw [evE] at h
    cases e : C.glo n with
    | none => rw [e] at h; exact h.elim
    | some i => exact absurd ⟨i, e⟩ hm
theorem s_var {i : Nat} {m : Md} {n : Str} (hx : XOk X c C nm ix N sc W k) (h1 : N[i]? = some n) (h2 : visB sc n = true) (h3 : plainB n = true) : PE X (.Name n pos) (tE c C nf W (.var i m)) := by
  have hv : Vis X.env.scope n := by
    rw [hx.sc]
    unfold visB at h2
    split at h2
    · exact .inl ‹_›
    · exact .inr (.inl ‹_›)
    · exact .inr (.inr ‹_›)
    · cases h2
  unfold plainB at h3
  simp at h3
  refine peImp (pe_var (i := i) (by rw [hx.hN]; exact h1) hv (by simpa using h3.1.1) (by simpa using h3.1.2)) fun σ H Q h => ?_
  obtain ⟨B, ts, ws, Γ, w, hf, hi, hl, h⟩ := h
  rw [evE] at h
  cases e : Γ[i]? with
  | none => rw [e] at h; exact h.elim
  | some d =>
    rw [e] at h
    obtain ⟨hn, h'⟩ := h.ens
    have na : d ≠ .any := by rintro rfl; simp [D.isAny] at hn
    cases m with
    | b =>
      obtain ⟨v, hv, w'⟩ := w.lend e na
      exact ⟨v, hv, okE.same h' w'⟩
    | s =>
      obtain ⟨v, hv, w'⟩ := w.give e na
      exact ⟨v, hv, okE.same h' w'⟩
    | m =>
      obtain ⟨v, hv, w'⟩ := w.move (hi rfl) e na
      exact ⟨v, hv, okE.same h' w'⟩

/-! ### displays -/
theorem a_nil : PA X [] (tA c C nf W .nil) := paImp pa_nil fun σ H Q h => by
  obtain ⟨B, ts, ws, Γ, w, hf, hi, hl, h⟩ := h
  rw [evA] at h
  exact h [] H (fun _ _ _ e => e) rfl w
theorem a_cons {xs : List Expr} (hst : noStar x = true) (ha : PE X x (tE c C nf W a)) (hb : PA X xs (tA c C nf W b)) : PA X (x :: xs) (tA c C nf W (.cons a b)) :=
  paImp (pa_cons ha hb (star_cons hst)) fun σ H Q h => by
    obtain ⟨B, ts, ws, Γ, w, hf, hi, hl, h⟩ := h
    rw [evA] at h
    rw [E.imp] at h hi
    refine ⟨B, ts, ws, Γ, w, hf, fun z => hi (by rw [z]; rfl), .inl hl, PostR.on (es := []) (us := []) h.bind rfl ?_⟩
    intro d g _ h1 v H1 ext1 w1
    obtain ⟨hb1, h1⟩ := h1.ens
    refine ⟨B, d :: ts, v :: ws, g, w1, hf, fun z => ?_, hl, PostR.on (es := [d]) (us := [v]) h1.bind rfl ?_⟩
    · rw [z] at hb1
      have n1 : d.nb = true := by simpa using hb1
      rw [D.nbs, n1, hi (by rw [z, Bool.or_true])]
      rfl
    · intro ds g2 _ h2 vs H2 ext2 l2 w2
      refine h2 (v :: vs) H2 (fun z => ?_) (by simp [l2]) ?_
      · rw [Bool.or_eq_false_iff] at z
        exact fun a o e => ext2 z.2 a o (ext1 z.1 a o e)
      · have w3 : Wd c B H2 ((ds ++ [d]) ++ ts) ((vs ++ [v]) ++ ws) g2 σ := by simpa using w2
        exact w3.shuf (by simp [l2]) (Shuf.swap l2)
theorem noStars_of {xs : List Expr} : ∀ {es : E}, trA N nm es sc xs = true → noStars xs = true := by
  induction xs with
  | nil => intro _ _; rfl
  | cons x xs ih =>
    intro es h
    cases es with
    | cons e es =>
      rw [trA] at h
      simp only [Bool.and_eq_true] at h
      rw [noStars, h.1.1, ih h.2]
      rfl
    | _ => simp [trA] at h
theorem okn_ok {n : Nat} (h : okn n = true) : n < sizeLine := by
  unfold okn at h
  have := of_decide_eq_true h
  rw [sizeLine_eq]
  omega
theorem s_lst {xs : List Expr} {es : E} (ha : PA X xs (tA c C nf W es)) : PE X (.List xs pos) (tE c C nf W (.lst es)) := peImp (pe_lst ha) fun σ H Q h => by
  obtain ⟨B, ts, ws, Γ, w, hf, hi, hl, h⟩ := h
  rw [evE] at h
  rw [E.imp] at h hi
  refine ⟨B, ts, ws, Γ, w, hf, hi, hl.resolve_right (by simp [E.plain]), PostR.on (es := []) (us := []) h.bind rfl ?_⟩
  intro ds g _ h1 vs H1 ext l w1
  obtain ⟨hb, h1⟩ := h1.ens
  have hz := okn_ok hb
  rw [l] at hz
  refine ⟨Nat.le_of_lt hz, fun p hp => h1 (.ref p) _ (fun z a o e => upd_ext hp a o (ext z a o e)) (w1.alloc l hp upd_same)⟩
theorem s_tup {xs : List Expr} {es : E} {j : Nat} (ha : PA X xs (tA c C nf W es)) : PE X (.Tuple xs j pos) (tE c C nf W (.tup es)) := peImp (pe_tup ha) fun σ H Q h => by
  obtain ⟨B, ts, ws, Γ, w, hf, hi, hl, h⟩ := h
  rw [evE] at h
  rw [E.imp] at h hi
  refine ⟨B, ts, ws, Γ, w, hf, hi, hl.resolve_right (by simp [E.plain]), PostR.on (es := []) (us := []) h.bind rfl ?_⟩
  intro ds g _ h1 vs H1 ext l w1
  obtain ⟨hb, h1⟩ := h1.ens
  have hz := okn_ok hb
  rw [l] at hz
  refine ⟨Nat.le_of_lt hz, fun p hp => h1 (.ref p) _ (fun z a o e => upd_ext hp a o (ext z a o e)) (w1.alloct l hp)⟩
theorem s_dnew : PE X (.Dict [] [] pos) (tE c C nf W .dnew) := peImp pe_dnewK fun σ H Q h => by
  obtain ⟨B, ts, ws, Γ, w, hf, hi, hl, h⟩ := h
  rw [evE] at h
  have hl := hl.resolve_right (by simp [E.plain])
  intro p hp
  refine h (.ref p) _ (fun z a o e => upd_ext hp a o e) (w.alloc (ds := []) (us := []) rfl hp ⟨?_, rfl⟩)
  rw [if_neg (by simp [hl])]
  exact upd_same

/-! ### operators -/
theorem two {Q : VK} {R : V → V → Hp → VK → Prop} {f : D → D → List D → Rs D} {im : Bool} (w : Wd c B H ts ws Γ σ) (hf : B.fx.length ≤ nf) (hib : b.imp = false) (hi : a.imp = true → D.nbs ts = true) (hla : c.lk = [] ∨ a.plain = true) (hlb : c.lk = [] ∨ b.plain = true) (him : im = false → a.imp = false)
    (h : PostR c B ts ws σ W (okE c B ts ws σ im H Q) ((evE C nf a Γ).bind fun x g => (evE C nf b g).bind fun y g => f x y g))
    (r : ∀ d1 d2 g v1 v2 H2, (∃ g1, evE C nf a Γ = .ok d1 g1) → (im = false → ∀ a o, H a = some o → H2 a = some o) → Wd c B H2 (d2 :: d1 :: ts) (v2 :: v1 :: ws) g σ → PostR c B ts ws σ W (okE c B ts ws σ im H Q) (f d1 d2 g) → R v1 v2 H2 Q) :
    tOp R (tE c C nf W a) (tE c C nf W b) σ H Q := by
  refine ⟨B, ts, ws, Γ, w, hf, hi, hla, PostR.on (es := []) (us := []) h.bind rfl ?_⟩
  intro d1 g e1 h1 v1 H1 ext1 w1
  refine ⟨B, d1 :: ts, v1 :: ws, g, w1, hf, fun z => (by rw [hib] at z; cases z), hlb, PostR.on (es := [d1]) (us := [v1]) h1.bind rfl ?_⟩
  intro d2 g2 _ h2 v2 H2 ext2 w2
  exact r d1 d2 g2 v1 v2 H2 ⟨g, e1⟩ (fun z a o e => ext2 hib a o (ext1 (him z) a o e)) w2 h2
theorem imp2 {p q : Bool} (h : (p || q) = false) : p = false := (Bool.or_eq_false_iff.mp h).1
theorem opM_ok {o : Op} {p : Operator} (h : opB (opM o) p = true) : p = opM o := by
  cases o <;> cases p <;> first | rfl | (simp [opM, opB] at h)
theorem cmM_ok {o : Cm} {p : CmpOp} (h : cmB (cmM o) p = true) : p = cmM o := by
  cases o <;> cases p <;> first | rfl | (simp [cmM, cmB] at h)
theorem plain2 {e1 e2 : E} (h : c.lk = [] ∨ (e1.plain && e2.plain) = true) : (c.lk = [] ∨ e1.plain = true) ∧ (c.lk = [] ∨ e2.plain = true) := by
  rw [Bool.and_eq_true] at h
  exact ⟨h.imp (fun z => z) (·.1), h.imp (fun z => z) (·.2)⟩
def rOp : Op → R2
  | .add => fun x y H Q => (rI0 fun i j => .int (i + j)) x y H Q ∨ rCat x y H Q
  | .sub => rI0 fun i j => .int (i - j)
  | .mul => fun x y H Q => rI CMulW (fun i j => .int (i * j)) x y H Q ∨ rRep x y H Q
  | .mod => rI (fun _ j => 0 < j) fun i j => .int (i % j)
  | .fdiv => rI CDiv fun i j => .int (i / j)
  | .pow => rI CPow fun i j => .int (i ^ j.toNat)
theorem rOp_ok : ∀ o : Op, OpR X (binaryOp (opM o)) (rOp o)
  | .add => OpR.or op_add op_cat
  | .sub => op_sub
  | .mul => OpR.or op_mulW op_rep
  | .mod => op_mod
  | .fdiv => op_fdiv
  | .pow => op_pow
theorem uns_rep (ds : List D) : ∀ n : Nat, (List.replicate n (D.uns ds)).flatten = D.uns (List.replicate n ds).flatten
  | 0 => rfl
  | n + 1 => by
    rw [List.replicate_succ, List.flatten_cons, uns_rep ds n, List.replicate_succ, List.flatten_cons, uns_map, uns_map, uns_map, List.map_append]
theorem RepS.rep {O : Ow} {ds : List D} {vs : List V} (h : RepS c O H (D.uns ds) (vs.map some) []) : ∀ n : Nat, RepS c O H (List.replicate n (D.uns ds)).flatten ((List.replicate n vs).flatten.map some) []
  | 0 => by rw [List.replicate_zero, List.replicate_zero]; show RepS c O H [] [] []; rw [RepS]; exact ⟨rfl, rfl⟩
  | n + 1 => by
    rw [List.replicate_succ, List.replicate_succ, List.flatten_cons, List.flatten_cons, List.map_append]
    exact RepS.app (fp := []) (fq := []) h (RepS.rep h n)
theorem s_op {o : Op} (ha : PE X x (tE c C nf W a)) (hb : PE X y (tE c C nf W b)) : PE X (.BinOp x (opM o) y pos) (tE c C nf W (.op o a b)) :=
  peImp (pe_op (rOp_ok o) ha hb) fun σ H Q h => by
    obtain ⟨B, ts, ws, Γ, w, hf, hi, hl, h⟩ := h
    rw [evE] at h
    rw [E.imp] at h hi
    rw [E.plain] at hl
    obtain ⟨hib, h⟩ := h.ens
    have hib : b.imp = false := by simpa using hib
    refine two w hf hib (fun z => hi (by rw [z]; rfl)) (plain2 hl).1 (plain2 hl).2 imp2 h ?_
    intro d1 d2 g v1 v2 H2 _ ext w2 h2
    obtain ⟨d, ed, q⟩ := h2.of
    have w1 := w2.drop
    have fin : ∀ {u : V} {i : Int}, d = .int i → Q (.int i) H2 := fun {u i} e => by
      subst e
      exact q (.int i) H2 ext (w1.drop.int i)
    cases o with
    | add =>
      cases d1 with
      | int i =>
        cases d2 with
        | int j =>
          obtain rfl := w2.int_inv
          obtain rfl := w1.int_inv
          simp only [opD, Option.some.injEq] at ed
          exact .inl ⟨i, j, rfl, rfl, fin (u := .non) ed.symm⟩
        | _ => simp [opD] at ed
      | nd f1 t1 ds =>
        cases t1 with
        | lst =>
          cases d2 with
          | nd f2 t2 es =>
            cases t2 with
            | lst =>
              simp only [opD] at ed
              split at ed
              · rename_i hz
                simp only [Option.some.injEq] at ed
                subst ed
                obtain ⟨a2, us2, rfl, ha2, l2, w3⟩ := w2.opn
                have w4 : Wd c B H2 (.nd f1 .lst ds :: (es ++ ts)) (v1 :: (us2 ++ ws)) g σ := by
                  have w3' : Wd c B H2 ((es ++ [.nd f1 .lst ds]) ++ ts) ((us2 ++ [v1]) ++ ws) g σ := by simpa using w3
                  exact w3'.shuf (by simp [l2]) (Shuf.swap l2)
                obtain ⟨a1, us1, rfl, ha1, l1, w5⟩ := w4.opn
                have hz' := okn_ok hz
                rw [l1, l2] at hz'
                refine .inr ⟨a1, a2, us1, us2, rfl, rfl, ha1, ha2, Nat.le_of_lt hz', fun p hp => ?_⟩
                have w6 : Wd c B H2 ((ds ++ es) ++ ts) ((us1 ++ us2) ++ ws) g σ := by simpa using w5
                exact q (.ref p) _ (fun z a o e => upd_ext hp a o (ext z a o e)) (w6.alloc (by simp [l1, l2]) hp upd_same)
              · cases ed
            | _ => simp [opD] at ed
          | _ => simp [opD] at ed
        | _ => simp [opD] at ed
      | _ => simp [opD] at ed
    | sub =>
      cases d1 with
      | int i =>
        cases d2 with
        | int j =>
          obtain rfl := w2.int_inv
          obtain rfl := w1.int_inv
          simp only [opD, Option.some.injEq] at ed
          exact ⟨i, j, rfl, rfl, fin (u := .non) ed.symm⟩
        | _ => simp [opD] at ed
      | _ => simp [opD] at ed
    | mul =>
      cases d1 with
      | int i =>
        cases d2 with
        | int j =>
          obtain rfl := w2.int_inv
          obtain rfl := w1.int_inv
          simp only [opD] at ed
          split at ed
          · rename_i hm
            simp only [Option.some.injEq] at ed
            unfold mulOk at hm
            rw [Bool.and_eq_true] at hm
            exact .inl ⟨i, j, rfl, rfl, wide_mul (of_decide_eq_true hm.1) (of_decide_eq_true hm.2) (by decide) (by decide) (by decide), fin (u := .non) ed.symm⟩
          · cases ed
        | _ => simp [opD] at ed
      | nd f1 t1 ds =>
        cases t1 with
        | lst =>
          cases d2 with
          | int n =>
            obtain rfl := w2.int_inv
            simp only [opD] at ed
            split at ed
            · rename_i hz
              simp only [Option.some.injEq] at ed
              subst ed
              simp only [Bool.and_eq_true, decide_eq_true_eq] at hz
              obtain ⟨a1, us1, rfl, ha1, l1⟩ := w1.peek
              have hz' := okn_ok hz.1.1
              rw [l1] at hz'
              refine .inr ⟨a1, n, us1, rfl, rfl, ha1, by omega, by omega, Nat.le_of_lt hz', fun p hp => ?_⟩
              have w3 := w1.uncs
              -- the items once more and once more
              have w4 : Wd c B H2 ((List.replicate n.toNat (D.uns ds)).flatten ++ ts) ((List.replicate n.toNat us1).flatten ++ ws) g σ := by
                obtain ⟨a', us', e', ha', l', w5⟩ := w3.opn
                cases e'
                have e2 := AtR.det ha1 ha'
                subst e2
                refine w5.shuf l' ?_
                intro c O H f hr nd
                have en := RepS.unn hr
                subst en
                exact ⟨[], List.nodup_nil, fun _ z => z, hr.rep n.toNat⟩
              refine q (.ref p) _ (fun z a o e => upd_ext hp a o (ext z a o e)) (w4.alloc ?_ hp upd_same)
              simp [l1, uns_map]
            · cases ed
          | _ => simp [opD] at ed
        | _ => simp [opD] at ed
      | _ => simp [opD] at ed
    | mod =>
      cases d1 with
      | int i =>
        cases d2 with
        | int j =>
          obtain rfl := w2.int_inv
          obtain rfl := w1.int_inv
          simp only [opD] at ed
          split at ed
          · simp only [Option.some.injEq] at ed
            exact ⟨i, j, rfl, rfl, ‹_›, fin (u := .non) ed.symm⟩
          · cases ed
        | _ => simp [opD] at ed
      | _ => simp [opD] at ed
    | fdiv =>
      cases d1 with
      | int i =>
        cases d2 with
        | int j =>
          obtain rfl := w2.int_inv
          obtain rfl := w1.int_inv
          simp only [opD] at ed
          split at ed
          · rename_i hz
            simp only [Option.some.injEq] at ed
            exact ⟨i, j, rfl, rfl, ⟨hz.1, by omega⟩, fin (u := .non) ed.symm⟩
          · cases ed
        | _ => simp [opD] at ed
      | _ => simp [opD] at ed
    | pow =>
      cases d1 with
      | int i =>
        cases d2 with
        | int j =>
          obtain rfl := w2.int_inv
          obtain rfl := w1.int_inv
          simp only [opD] at ed
          split at ed
          · rename_i hz
            simp only [Option.some.injEq] at ed
            exact ⟨i, j, rfl, rfl, ⟨hz.1, by omega, by omega⟩, fin (u := .non) ed.symm⟩
          · cases ed
        | _ => simp [opD] at ed
      | _ => simp [opD] at ed
end
end Bx

namespace Bx
open PySem PySem.Spec PyProof.Rows L2

section
variable {X : Cx} {c : Wc} {C : Cxt} {nm : Nms} {ix : Ix} {N : List Str} {sc : Scope} {W : WX} {k nf : Nat} {x y z : Expr} {a b d e : E} {pos p1 : Pos} {σ : L2.St} {H : Hp} {B : Bs} {ts : List D} {ws : List V} {Γ : List D}

theorem s_neg (ha : PE X x (tE c C nf W a)) : PE X (.UnaryOp .USub x pos) (tE c C nf W (.neg a)) := peImp (pe_un un_neg ha) fun σ H Q h => by
  obtain ⟨B, ts, ws, Γ, w, hf, hi, hl, h⟩ := h
  rw [evE] at h
  rw [E.imp] at h hi
  refine ⟨B, ts, ws, Γ, w, hf, hi, .inl (hl.resolve_right (by simp [E.plain])), PostR.on (es := []) (us := []) h.bind rfl ?_⟩
  intro d g _ h1 v H1 ext w1
  cases d with
  | int i =>
    obtain rfl := w1.int_inv
    exact ⟨i, rfl, h1 _ H1 ext (w1.drop.int _)⟩
  | _ => exact h1.elim

/-! ### comparisons -/
def rCm (K : PySem.W.Frag) : Cm → R2
  | .eq => rEqD K
  | .ne => rNeD K
  | .lt => rI0 fun i j => .bl (decide (i < j))
  | .le => rI0 fun i j => .bl (decide (i ≤ j))
  | .gt => rI0 fun i j => .bl (decide (j < i))
  | .ge => rI0 fun i j => .bl (decide (j ≤ i))
  | .mem => rIn K false
  | .nmem => rIn K true
  | .iis => rIsB
  | .nis => rNotB
theorem rCm_ok (hu : X.A.units + 64 < cLine) : ∀ o : Cm, OpR X (compareOp (cmM o)) (rCm X.K o)
  | .eq => op_eqD hu
  | .ne => op_neD hu
  | .lt => op_lt
  | .le => op_le
  | .gt => op_gt
  | .ge => op_ge
  | .mem => op_in_seq
  | .nmem => op_notIn_seq
  | .iis => op_isBl
  | .nis => op_notBl
theorem noSet_mark {op : CmpOp} (h : noSet y = true) : behindInMarks op y = false := by
  cases y <;> first | rfl | (simp [noSet] at h)
/-- two values compared -/
theorem cmD_ok {o : Cm} {d1 d2 : D} {r : Bool} {v1 v2 : V} {Q : VK} (w : Wd c B H (d2 :: d1 :: ts) (v2 :: v1 :: ws) Γ σ) (h : cmpD o d1 d2 = some r) (q : Q (.bl r) H) : rCm c.K o v1 v2 H Q := by
  have w1 := w.drop
  have mm : ∀ {neg : Bool} {s : Bool}, memD d1 d2 = some s → Q (.bl (if neg then !s else s)) H → rIn c.K neg v1 v2 H Q := by
    intro neg s h q
    unfold memD at h
    cases e1 : d1.flat with
    | none => rw [e1] at h; simp at h
    | some u1 =>
      rw [e1] at h
      obtain ⟨rfl, f1⟩ := w1.flat e1
      cases d2 with
      | tup ds =>
        cases e2 : D.flats ds with
        | none => simp only [e2] at h; cases h
        | some us =>
          simp only [e2, Option.some.injEq] at h
          obtain ⟨O, f, hr⟩ := w.rep (by simp)
          rw [Rep] at hr
          obtain ⟨a, us', rfl, ha, _⟩ := hr
          obtain ⟨rfl, f2⟩ := w.flatst ha e2
          exact ⟨a, us', rfl, .inr (SqT.of ha), f1, f2, by rw [h]; exact q⟩
      | nd f t ds =>
        cases t with
        | lst =>
          cases e2 : D.flats ds with
          | none => simp only [e2] at h; cases h
          | some us =>
            simp only [e2, Option.some.injEq] at h
            obtain ⟨a, us', rfl, ha, l⟩ := w.peek
            obtain ⟨rfl, f2⟩ := w.flats ha e2
            exact ⟨a, us', rfl, .inl (SqL.of ha), f1, f2, by rw [h]; exact q⟩
        | _ => simp at h
      | _ => simp at h
  have ii : ∀ {g : Int → Int → Bool} {i j : Int}, d1 = .int i → d2 = .int j → r = g i j → (rI0 fun i j => .bl (g i j)) v1 v2 H Q := by
    intro g i j e1 e2 er
    subst e1 e2 er
    exact ⟨i, j, w1.int_inv, w.int_inv, q⟩
  cases o with
  | eq =>
    simp only [cmpD] at h
    split at h
    · rename_i hb
      rw [Bool.and_eq_true] at hb
      simp only [Option.some.injEq] at h
      subst h
      exact ⟨_, _, (w1.dp hb.1).1, (w.dp hb.2).1, (w1.dp hb.1).2, (w.dp hb.2).2, q⟩
    · cases h
  | ne =>
    simp only [cmpD] at h
    split at h
    · rename_i hb
      rw [Bool.and_eq_true] at hb
      simp only [Option.some.injEq] at h
      subst h
      exact ⟨_, _, (w1.dp hb.1).1, (w.dp hb.2).1, (w1.dp hb.1).2, (w.dp hb.2).2, q⟩
    · cases h
  | mem => exact mm (neg := false) h q
  | nmem =>
    simp only [cmpD] at h
    cases e : memD d1 d2 with
    | none => rw [e] at h; simp at h
    | some s =>
      rw [e] at h
      simp only [Option.map_some, Option.some.injEq] at h
      subst h
      exact mm (neg := true) e q
  | iis =>
    cases d1 with
    | bl i =>
      cases d2 with
      | bl j =>
        simp only [cmpD, Option.some.injEq] at h
        subst h
        exact ⟨i, j, w1.bl_inv, w.bl_inv, q⟩
      | _ => simp [cmpD] at h
    | _ => simp [cmpD] at h
  | nis =>
    cases d1 with
    | bl i =>
      cases d2 with
      | bl j =>
        simp only [cmpD, Option.some.injEq] at h
        subst h
        exact ⟨i, j, w1.bl_inv, w.bl_inv, q⟩
      | _ => simp [cmpD] at h
    | _ => simp [cmpD] at h
  | lt =>
    cases d1 with
    | int i =>
      cases d2 with
      | int j => simp only [cmpD, Option.some.injEq] at h; exact ii (g := fun i j => decide (i < j)) rfl rfl h.symm
      | _ => simp [cmpD] at h
    | _ => simp [cmpD] at h
  | le =>
    cases d1 with
    | int i =>
      cases d2 with
      | int j => simp only [cmpD, Option.some.injEq] at h; exact ii (g := fun i j => decide (i ≤ j)) rfl rfl h.symm
      | _ => simp [cmpD] at h
    | _ => simp [cmpD] at h
  | gt =>
    cases d1 with
    | int i =>
      cases d2 with
      | int j => simp only [cmpD, Option.some.injEq] at h; exact ii (g := fun i j => decide (j < i)) rfl rfl h.symm
      | _ => simp [cmpD] at h
    | _ => simp [cmpD] at h
  | ge =>
    cases d1 with
    | int i =>
      cases d2 with
      | int j => simp only [cmpD, Option.some.injEq] at h; exact ii (g := fun i j => decide (j ≤ i)) rfl rfl h.symm
      | _ => simp [cmpD] at h
    | _ => simp [cmpD] at h
theorem units_of (hx : XOk X c C nm ix N sc W k) : X.A.units + 64 < cLine := hx.room.units
theorem s_cmp0 {o : Cm} {Q : VK} (hx : XOk X c C nm ix N sc W k) (h : tE c C nf W (.cmp o a b) σ H Q) : tOp (rCm X.K o) (tE c C nf W a) (tE c C nf W b) σ H Q := by
  obtain ⟨B, ts, ws, Γ, w, hf, hi, hl, h⟩ := h
  rw [evE] at h
  rw [E.imp] at h hi
  rw [E.plain] at hl
  obtain ⟨hib, h⟩ := h.ens
  have hib : b.imp = false := by simpa using hib
  refine two w hf hib (fun z => hi (by rw [z]; rfl)) (plain2 hl).1 (plain2 hl).2 imp2 h ?_
  intro d1 d2 g v1 v2 H2 _ ext w2 h2
  obtain ⟨r, er, q⟩ := h2.of
  cases e : cmpD o d1 d2 with
  | none => rw [e] at er; cases er
  | some s =>
    rw [e] at er
    simp only [Option.map_some, Option.some.injEq] at er
    subst er
    rw [hx.hK]
    exact cmD_ok w2 e (q _ H2 ext (w2.drop.drop.bl s))
theorem s_cmp {o : Cm} (hx : XOk X c C nm ix N sc W k) (hs : noSet y = true) (ha : PE X x (tE c C nf W a)) (hb : PE X y (tE c C nf W b)) :
    PE X (.Compare x [cmM o] [y] pos) (tE c C nf W (.cmp o a b)) ∧ PT X (.Compare x [cmM o] [y] pos) (tT c C nf W (.cmp o a b)) :=
  ⟨peImp (pe_cmpR (rCm_ok (units_of hx) o) ha hb (noSet_mark hs)) fun _ _ _ h => s_cmp0 hx h,
    ptImp (pt_cmpR (rCm_ok (units_of hx) o) ha hb (noSet_mark hs)) fun _ _ _ h => s_cmp0 hx (tT_E h)⟩
theorem s_chn0 {o p : Cm} {Q : VK} (hx : XOk X c C nm ix N sc W k) (h : tE c C nf W (.chn o p a b d) σ H Q) : tChain (rCm X.K o) (rCm X.K p) (tE c C nf W a) (tE c C nf W b) (tE c C nf W d) σ H Q := by
  obtain ⟨B, ts, ws, Γ, w, hf, hi, hl, h⟩ := h
  rw [evE] at h
  rw [E.imp] at h hi
  have hl := hl.resolve_right (by simp [E.plain])
  obtain ⟨hib, h⟩ := h.ens
  simp only [Bool.and_eq_true, Bool.not_eq_true'] at hib
  refine ⟨B, ts, ws, Γ, w, hf, fun z => hi (by rw [z]; rfl), .inl hl, PostR.on (es := []) (us := []) h.bind rfl ?_⟩
  intro d1 g1 _ h1 v1 H1 ext1 w1
  refine ⟨B, d1 :: ts, v1 :: ws, g1, w1, hf, fun z => (by rw [hib.1] at z; cases z), .inl hl, PostR.on (es := [d1]) (us := [v1]) h1.bind rfl ?_⟩
  intro d2 g2 _ h2 v2 H2 ext2 w2
  cases d1 with
  | int i =>
    cases d2 with
    | int j =>
      rw [hx.hK]
      have h2' : PostR c B ts ws σ W (okE c B ts ws σ (a.imp || b.imp || d.imp) H Q) (match cmpD o (.int i) (.int j) with
        | some true => (evE C nf d g2).bind fun z g => match z with
          | .int k => Rs.of ((cmpD p (.int j) (.int k)).map .bl) g
          | _ => .bad
        | some false => .ok (.bl false) g2
        | none => .bad) := h2
      have im : (a.imp || b.imp || d.imp) = false → a.imp = false := fun z => imp2 (imp2 z)
      cases e : cmpD o (.int i) (.int j) with
      | none => rw [e] at h2'; exact h2'.elim
      | some s =>
        rw [e] at h2'
        refine cmD_ok w2 e ⟨s, rfl, ?_⟩
        cases s with
        | false =>
          rw [if_neg Bool.false_ne_true]
          exact h2' _ H2 (fun z a o e => ext2 hib.1 a o (ext1 (im z) a o e)) (w2.drop.drop.bl false)
        | true =>
          rw [if_pos rfl]
          refine ⟨B, .int j :: .int i :: ts, v2 :: v1 :: ws, g2, w2, hf, fun z => (by rw [hib.2] at z; cases z), .inl hl, PostR.on (es := [.int j, .int i]) (us := [v2, v1]) h2'.bind rfl ?_⟩
          intro d3 g3 _ h3 v3 H3 ext3 w3
          cases d3 with
          | int m =>
            obtain ⟨r, er, q⟩ := PostR.of h3
            cases e3 : cmpD p (.int j) (.int m) with
            | none => rw [e3] at er; cases er
            | some s =>
              rw [e3] at er
              simp only [Option.map_some, Option.some.injEq] at er
              subst er
              exact cmD_ok w3 e3 (q _ H3 (fun z a o e => ext3 hib.2 a o (ext2 hib.1 a o (ext1 (im z) a o e))) (w3.drop.drop.drop.bl s))
          | _ => exact h3.elim
    | _ => exact h2.elim
  | _ => cases d2 <;> exact h2.elim
theorem s_chn {o p : Cm} (hx : XOk X c C nm ix N sc W k) (hs : noSet y = true) (hs2 : noSet z = true) (ha : PE X x (tE c C nf W a)) (hb : PE X y (tE c C nf W b)) (hd : PE X z (tE c C nf W d)) :
    PE X (.Compare x [cmM o, cmM p] [y, z] pos) (tE c C nf W (.chn o p a b d)) ∧ PT X (.Compare x [cmM o, cmM p] [y, z] pos) (tT c C nf W (.chn o p a b d)) := by
  have hm : lastMarks [cmM o, cmM p] [y, z] = false := noSet_mark hs2
  exact ⟨peImp (pe_chain (rCm_ok (units_of hx) o) (rCm_ok (units_of hx) p) ha hb hd hm) fun _ _ _ h => s_chn0 hx h,
    ptImp (pt_chain (rCm_ok (units_of hx) o) (rCm_ok (units_of hx) p) ha hb hd hm) fun _ _ _ h => s_chn0 hx (tT_E h)⟩

/-! ### and, or, not, if -/
theorem and_t {Q : Bool → Hp → Prop} (h : tT c C nf W (.and a b) σ H Q) : tAnd (tT c C nf W a) (tT c C nf W b) σ H Q := by
  obtain ⟨B, ts, ws, Γ, w, hf, hi, hl, h⟩ := h
  rw [evE] at h
  rw [E.imp] at h hi
  rw [E.plain] at hl
  refine ⟨B, ts, ws, Γ, w, hf, fun z => hi (by rw [z]; rfl), (plain2 hl).1, PostR.on (es := []) (us := []) h.bind rfl ?_⟩
  intro d1 g _ h1
  cases d1 with
  | bl v =>
    refine ⟨v, rfl, fun H1 ext w1 => ?_⟩
    cases v with
    | true =>
      rw [if_pos rfl]
      refine ⟨B, ts, ws, g, w1, hf, fun z => hi (by rw [z, Bool.or_true]), (plain2 hl).2, PostR.on (es := []) (us := []) h1 rfl ?_⟩
      rintro d2 g2 _ ⟨v, rfl, q⟩
      exact ⟨v, rfl, fun H2 ext2 w2 => q H2 (fun z a o e => ext2 (Bool.or_eq_false_iff.mp z).2 a o (ext (imp2 z) a o e)) w2⟩
    | false =>
      rw [if_neg Bool.false_ne_true]
      obtain ⟨v, e, q⟩ := h1
      cases e
      exact q H1 (fun z => ext (imp2 z)) w1
  | _ => exact h1.elim
theorem or_t {Q : Bool → Hp → Prop} (h : tT c C nf W (.or a b) σ H Q) : tOr (tT c C nf W a) (tT c C nf W b) σ H Q := by
  obtain ⟨B, ts, ws, Γ, w, hf, hi, hl, h⟩ := h
  rw [evE] at h
  rw [E.imp] at h hi
  rw [E.plain] at hl
  refine ⟨B, ts, ws, Γ, w, hf, fun z => hi (by rw [z]; rfl), (plain2 hl).1, PostR.on (es := []) (us := []) h.bind rfl ?_⟩
  intro d1 g _ h1
  cases d1 with
  | bl v =>
    refine ⟨v, rfl, fun H1 ext w1 => ?_⟩
    cases v with
    | false =>
      rw [if_neg Bool.false_ne_true]
      refine ⟨B, ts, ws, g, w1, hf, fun z => hi (by rw [z, Bool.or_true]), (plain2 hl).2, PostR.on (es := []) (us := []) h1 rfl ?_⟩
      rintro d2 g2 _ ⟨v, rfl, q⟩
      exact ⟨v, rfl, fun H2 ext2 w2 => q H2 (fun z a o e => ext2 (Bool.or_eq_false_iff.mp z).2 a o (ext (imp2 z) a o e)) w2⟩
    | true =>
      rw [if_pos rfl]
      obtain ⟨v, e, q⟩ := h1
      cases e
      exact q H1 (fun z => ext (imp2 z)) w1
  | _ => exact h1.elim
/-- a bool's value, from a test's reading of the same outcome -/
theorem and_e {Q : VK} (h : tE c C nf W (.and a b) σ H Q) : tAndV (tE c C nf W a) (tE c C nf W b) σ H Q := by
  obtain ⟨B, ts, ws, Γ, w, hf, hi, hl, h⟩ := h
  rw [evE] at h
  rw [E.imp] at h hi
  rw [E.plain] at hl
  refine ⟨B, ts, ws, Γ, w, hf, fun z => hi (by rw [z]; rfl), (plain2 hl).1, PostR.on (es := []) (us := []) h.bind rfl ?_⟩
  intro d1 g _ h1 v1 H1 ext w1
  cases d1 with
  | bl v =>
    refine ⟨v, w1.bl_inv, ?_⟩
    cases v with
    | true =>
      rw [if_pos rfl]
      refine ⟨B, ts, ws, g, w1.drop, hf, fun z => hi (by rw [z, Bool.or_true]), (plain2 hl).2, PostR.on (es := []) (us := []) h1 rfl ?_⟩
      intro d2 g2 _ q v2 H2 ext2 w2
      exact q v2 H2 (fun z a o e => ext2 (Bool.or_eq_false_iff.mp z).2 a o (ext (imp2 z) a o e)) w2
    | false =>
      rw [if_neg Bool.false_ne_true]
      exact h1 _ H1 (fun z => ext (imp2 z)) (w1.drop.bl false)
  | _ => exact h1.elim
theorem or_e {Q : VK} (h : tE c C nf W (.or a b) σ H Q) : tOrV (tE c C nf W a) (tE c C nf W b) σ H Q := by
  obtain ⟨B, ts, ws, Γ, w, hf, hi, hl, h⟩ := h
  rw [evE] at h
  rw [E.imp] at h hi
  rw [E.plain] at hl
  refine ⟨B, ts, ws, Γ, w, hf, fun z => hi (by rw [z]; rfl), (plain2 hl).1, PostR.on (es := []) (us := []) h.bind rfl ?_⟩
  intro d1 g _ h1 v1 H1 ext w1
  cases d1 with
  | bl v =>
    refine ⟨v, w1.bl_inv, ?_⟩
    cases v with
    | false =>
      rw [if_neg Bool.false_ne_true]
      refine ⟨B, ts, ws, g, w1.drop, hf, fun z => hi (by rw [z, Bool.or_true]), (plain2 hl).2, PostR.on (es := []) (us := []) h1 rfl ?_⟩
      intro d2 g2 _ q v2 H2 ext2 w2
      exact q v2 H2 (fun z a o e => ext2 (Bool.or_eq_false_iff.mp z).2 a o (ext (imp2 z) a o e)) w2
    | true =>
      rw [if_pos rfl]
      exact h1 _ H1 (fun z => ext (imp2 z)) (w1.drop.bl true)
  | _ => exact h1.elim
theorem one_e {Q : VK} (h : tE c C nf W (.one a) σ H Q) : tE c C nf W a σ H Q := by
  obtain ⟨B, ts, ws, Γ, w, hf, hi, hl, h⟩ := h
  rw [evE] at h
  exact ⟨B, ts, ws, Γ, w, hf, hi, hl, h⟩
theorem one_t {Q : Bool → Hp → Prop} (h : tT c C nf W (.one a) σ H Q) : tT c C nf W a σ H Q := by
  obtain ⟨B, ts, ws, Γ, w, hf, hi, hl, h⟩ := h
  rw [evE] at h
  exact ⟨B, ts, ws, Γ, w, hf, hi, hl, h⟩
theorem Wd.shareAll (w : Wd c B H ts ws Γ σ) : Wd c B H ts ws (D.shs Γ) σ := by
  obtain ⟨ft, fs, w⟩ := w
  have nd := w.nd
  rw [List.nodup_append] at nd
  have ho : ∀ a o, H a = some o → ¬ (ow B ft fs).o a → ¬ (ow B ft []).o a := fun a o _ n z => n (z.imp (fun h => by
    rw [List.append_nil] at h
    exact List.mem_append_left _ h) fun z => z)
  refine ⟨ft, [], by rw [List.append_nil]; exact nd.1, fun a ha => w.nf a (by rw [List.append_nil] at ha; exact List.mem_append_left _ ha), w.fh, w.kp, fun a ha => w.gr a (by rw [List.append_nil] at ha; exact List.mem_append_left _ ha),
    w.rt.stay (.inr fun a o e n => ⟨e, n⟩) (fun _ _ e _ => e) ho, RepS.share w.rs (.inl w.nb) (fun a ha z => ?_) ho, shs_nb _, w.fx⟩
  rcases z with z | z
  · rw [List.append_nil] at z
    exact nd.2.2 a z a ha rfl
  · exact w.nf a (List.mem_append_right _ ha) z
theorem flat_back {d : D} {u : V} (w : Wd c B H ts ws Γ σ) (e : d.flat = some u) : Wd c B H (d :: ts) (u :: ws) Γ σ := by
  cases d <;> simp only [D.flat, Option.some.injEq, reduceCtorEq] at e <;> subst e
  · exact w.non
  · exact w.bl _
  · exact w.int _
  · exact w.str _
theorem frz_e {Q : VK} (h : tE c C nf W (.frz a) σ H Q) : tE c C nf W a σ H Q := by
  obtain ⟨B, ts, ws, Γ, w, hf, hi, hl, h⟩ := h
  rw [evE] at h
  obtain ⟨him, h⟩ := h.ens
  have him : a.imp = false := by simpa using him
  have hl : c.lk = [] := hl.resolve_right (by simp [E.plain])
  refine ⟨B, ts, ws, D.shs Γ, w.shareAll, hf, fun z => (by rw [him] at z; cases z), .inl hl, ?_⟩
  cases ev : evE C nf a (D.shs Γ) with
  | bad => rw [ev] at h; exact h.elim
  | exc _ _ => rw [ev] at h; exact h.elim
  | ok d g =>
    rw [ev] at h
    obtain ⟨hfl, h⟩ := PostR.ens h
    intro v H' ext w'
    obtain ⟨u, hu⟩ := Option.isSome_iff_exists.mp hfl
    have := (w'.flat hu).1
    subst this
    exact h _ H' (fun _ => ext him) (flat_back (w.ext (ext him)) hu)
theorem frz_t {Q : Bool → Hp → Prop} (h : tT c C nf W (.frz a) σ H Q) : tT c C nf W a σ H Q := by
  obtain ⟨B, ts, ws, Γ, w, hf, hi, hl, h⟩ := h
  rw [evE] at h
  obtain ⟨him, h⟩ := h.ens
  have him : a.imp = false := by simpa using him
  have hl : c.lk = [] := hl.resolve_right (by simp [E.plain])
  refine ⟨B, ts, ws, D.shs Γ, w.shareAll, hf, fun z => (by rw [him] at z; cases z), .inl hl, ?_⟩
  cases ev : evE C nf a (D.shs Γ) with
  | bad => rw [ev] at h; exact h.elim
  | exc _ _ => rw [ev] at h; exact h.elim
  | ok d g =>
    rw [ev] at h
    obtain ⟨hfl, h1⟩ := PostR.ens h
    obtain ⟨b, hb, h2⟩ := h1
    exact ⟨b, hb, fun H' ext w' => h2 H' (fun _ => ext him) (w.ext (ext him))⟩
theorem not_e {Q : VK} (h : tE c C nf W (.not a) σ H Q) : tNotV (tE c C nf W a) σ H Q := by
  obtain ⟨B, ts, ws, Γ, w, hf, hi, hl, h⟩ := h
  rw [evE] at h
  refine ⟨B, ts, ws, Γ, w, hf, hi, hl, PostR.on (es := []) (us := []) h.bind rfl ?_⟩
  intro d1 g _ h1 v1 H1 ext w1
  cases d1 with
  | bl v => exact ⟨v, w1.bl_inv, h1 _ H1 ext (w1.drop.bl _)⟩
  | _ => exact h1.elim
theorem not_t {Q : Bool → Hp → Prop} (h : tT c C nf W (.not a) σ H Q) : tNot (tT c C nf W a) σ H Q := by
  obtain ⟨B, ts, ws, Γ, w, hf, hi, hl, h⟩ := h
  rw [evE] at h
  refine ⟨B, ts, ws, Γ, w, hf, hi, hl, PostR.on (es := []) (us := []) h.bind rfl ?_⟩
  intro d1 g _ h1
  cases d1 with
  | bl v =>
    obtain ⟨v', e, q⟩ := h1
    cases e
    exact ⟨v, rfl, q⟩
  | _ => exact h1.elim
theorem ife_e {Q : VK} (h : tE c C nf W (.ife d a b) σ H Q) : tIf (tT c C nf W d) (tE c C nf W a) (tE c C nf W b) σ H Q := by
  obtain ⟨B, ts, ws, Γ, w, hf, hi, hl, h⟩ := h
  rw [evE] at h
  rw [E.imp] at h hi
  have hl := hl.resolve_right (by simp [E.plain])
  refine ⟨B, ts, ws, Γ, w, hf, fun z => hi (by rw [z]; rfl), .inl hl, PostR.on (es := []) (us := []) h.bind rfl ?_⟩
  intro d1 g _ h1
  cases d1 with
  | bl v =>
    refine ⟨v, rfl, fun H1 ext w1 => ?_⟩
    cases v with
    | true =>
      rw [if_pos rfl]
      refine ⟨B, ts, ws, g, w1, hf, fun z => hi (by rw [z, Bool.or_true]; rfl), .inl hl, PostR.on (es := []) (us := []) h1 rfl ?_⟩
      intro d2 g2 _ q v2 H2 ext2 w2
      exact q v2 H2 (fun z a o e => ext2 (Bool.or_eq_false_iff.mp (imp2 z)).2 a o (ext (imp2 (imp2 z)) a o e)) w2
    | false =>
      rw [if_neg Bool.false_ne_true]
      refine ⟨B, ts, ws, g, w1, hf, fun z => hi (by rw [z, Bool.or_true]), .inl hl, PostR.on (es := []) (us := []) h1 rfl ?_⟩
      intro d2 g2 _ q v2 H2 ext2 w2
      exact q v2 H2 (fun z a o e => ext2 (Bool.or_eq_false_iff.mp z).2 a o (ext (imp2 (imp2 z)) a o e)) w2
  | _ => exact h1.elim

/-! ### subscripts, slices -/
theorem plainIx (h : noSlice y = true) : PlainIx y := by
  intro o i
  cases y <;> first | rfl | (simp [noSlice] at h)
theorem ixD_at {i : Int} {j : Nat} {us : List V} {u : V} (h : ixD us.length i = some j) (e : us[j]? = some u) : atI us i = some u := by
  unfold atI
  unfold ixD at h
  rw [h]
  exact e
theorem atK_zip {κ : Type} [DecidableEq κ] {k : κ} : ∀ {ks : List κ} {us : List V} {j : Nat} {u : V}, atK ks k = some j → us[j]? = some u → valV (ks.zip us) k = some u
  | [], _, _, _, h, _ => by simp [atK] at h
  | i :: ks, [], j, u, _, e => by simp at e
  | i :: ks, u' :: us, j, u, h, e => by
    rw [atK] at h
    by_cases hi : i = k
    · rw [if_pos hi] at h
      simp at h
      subst h
      rw [List.zip_cons_cons, valV_pos hi]
      simpa using e
    · rw [if_neg hi] at h
      cases e2 : atK ks k with
      | none => rw [e2] at h; simp at h
      | some m =>
        rw [e2] at h
        simp at h
        subst h
        rw [List.zip_cons_cons, valV_neg hi]
        exact atK_zip e2 (by simpa using e)
theorem keyD_ok {d : D} {v : V} {kk : Key} (w : Wd c B H (d :: ts) (v :: ws) Γ σ) (h : keyD d = some kk) : v = kV kk := by
  cases d with
  | int i => simp [keyD] at h; subst h; exact w.int_inv
  | str i => simp [keyD] at h; subst h; exact w.str_inv
  | _ => simp [keyD] at h
/-- a child of the value under the top is handed out -/
theorem Wd.child {f : Fl} {t : Tag} {ds : List D} {d2 : D} {v1 v2 : V} {j : Nat} {r : D} (w : Wd c B H (d2 :: .nd f t ds :: ts) (v2 :: v1 :: ws) Γ σ) (e : ds[j]? = some r) :
    ∃ a us u, v1 = .ref a ∧ AtR c H a t us ∧ us[j]? = some u ∧ ds.length = us.length ∧ Wd c B H (r :: ts) (u :: ws) Γ σ := by
  obtain ⟨a, us, rfl, ha, l, w2⟩ := w.drop.opn
  have hj : j < us.length := by rw [← l]; exact (List.getElem?_eq_some_iff.mp e).1
  have eu : us[j]? = some us[j] := List.getElem?_eq_getElem hj
  exact ⟨a, us, us[j], rfl, ha, eu, l, w2.shuf (es := [r]) (xs := [us[j]]) l (Shuf.pick l e eu)⟩
theorem Wd.childt {ds : List D} {d2 : D} {v1 v2 : V} {j : Nat} {r : D} (w : Wd c B H (d2 :: .tup ds :: ts) (v2 :: v1 :: ws) Γ σ) (e : ds[j]? = some r) :
    ∃ a us u, v1 = .ref a ∧ H a = some (.tup us) ∧ us[j]? = some u ∧ ds.length = us.length ∧ Wd c B H (r :: ts) (u :: ws) Γ σ := by
  obtain ⟨a, us, rfl, ha, l, w2⟩ := w.drop.opnt
  have hj : j < us.length := by rw [← l]; exact (List.getElem?_eq_some_iff.mp e).1
  have eu : us[j]? = some us[j] := List.getElem?_eq_getElem hj
  exact ⟨a, us, us[j], rfl, ha, eu, l, w2.shuf (es := [r]) (xs := [us[j]]) l (Shuf.pick l e eu)⟩
theorem s_ix (hx : XOk X c C nm ix N sc W k) (hs : noSlice y = true) (ha : PE X x (tE c C nf W a)) (hb : PE X y (tE c C nf W b)) : PE X (.Subscript x y pos) (tE c C nf W (.ix a b)) := by
  have hu : X.A.units + 1 < cLine := by have := units_of hx; omega
  refine peImp (peOr (pe_ix ix_seq ha hb (plainIx hs)) (pe_dget hu ha hb (plainIx hs))) fun σ H Q h => ?_
  obtain ⟨B, ts, ws, Γ, w, hf, hi, hl, h⟩ := h
  rw [evE] at h
  rw [E.imp] at h hi
  rw [E.plain] at hl
  obtain ⟨hib, h⟩ := h.ens
  have hib : b.imp = false := by simpa using hib
  -- which kind it is
  by_cases hd : ∃ f ks ds g, evE C nf a Γ = .ok (.nd f (.dct ks) ds) g
  · obtain ⟨f, ks, ds, g, e⟩ := hd
    refine .inr ⟨B, ts, ws, Γ, w, hf, fun z => hi (by rw [z]; rfl), (plain2 hl).1, PostR.on (es := []) (us := []) h.bind rfl ?_⟩
    intro d1 g1 e1 h1 v1 H1 ext1 w1
    rw [e] at e1
    cases e1
    refine ⟨B, _ :: ts, v1 :: ws, g, w1, hf, fun z => (by rw [hib] at z; cases z), (plain2 hl).2, PostR.on (es := [_]) (us := [v1]) h1.bind rfl ?_⟩
    intro d2 g2 _ h2 v2 H2 ext2 w2
    obtain ⟨r, er, q⟩ := h2.of
    simp only [subD] at er
    cases ek : keyD d2 with
    | none => rw [ek] at er; simp at er
    | some kk =>
      rw [ek] at er
      simp only [Option.bind_some] at er
      cases ea : atK ks kk with
      | none => rw [ea] at er; simp at er
      | some j =>
        rw [ea] at er
        simp only [Option.bind_some] at er
        obtain ⟨p, us, u, rfl, hp, eu, l, w3⟩ := w2.child er
        refine ⟨p, u, rfl, ?_, q u H2 (fun z a o e => ext2 hib a o (ext1 (imp2 z) a o e)) w3⟩
        rw [keyD_ok w2 ek]
        obtain ⟨hp, _⟩ := hp
        have hv := (atK_zip ea eu).symm
        split at hp
        · obtain ⟨o, hp⟩ := hp
          exact .inl ⟨_, kk, .inr ⟨o, hp⟩, rfl, hv⟩
        · exact .inl ⟨_, kk, .inl hp, rfl, hv⟩
  · refine .inl (two w hf hib (fun z => hi (by rw [z]; rfl)) (plain2 hl).1 (plain2 hl).2 imp2 h ?_)
    rintro d1 d2 g v1 v2 H2 ⟨g1, e1⟩ ext w2 h2
    obtain ⟨r, er, q⟩ := h2.of
    have w1 := w2.drop
    rw [hx.hK]
    have other : ∀ {i : Int}, pickD d1 i = some r → d2 = .int i → rIx c.K v1 v2 H2 Q := by
      intro i ep e2
      subst e2
      obtain rfl := w2.int_inv
      cases d1 with
      | tup ds =>
        simp only [pickD] at ep
        cases ei : ixD ds.length i with
        | none => rw [ei] at ep; simp at ep
        | some j =>
          rw [ei] at ep
          simp only [Option.bind_some] at ep
          obtain ⟨p, us, u, rfl, hp, eu, l, w3⟩ := w2.childt ep
          rw [l] at ei
          exact .inr (.inl ⟨p, us, i, u, rfl, rfl, SqT.of hp, ixD_at ei eu, q u H2 ext w3⟩)
      | nd f t ds =>
        cases t with
        | lst =>
          simp only [pickD] at ep
          cases ei : ixD ds.length i with
          | none => rw [ei] at ep; simp at ep
          | some j =>
            rw [ei] at ep
            simp only [Option.bind_some] at ep
            obtain ⟨p, us, u, rfl, hp, eu, l, w3⟩ := w2.child ep
            rw [l] at ei
            exact .inl ⟨p, us, i, u, rfl, rfl, SqL.of hp, ixD_at ei eu, q u H2 ext w3⟩
        | _ => simp [pickD] at ep
      | scr ns =>
        simp only [pickD] at ep
        cases ei : ixD ns.length i with
        | none => rw [ei] at ep; simp at ep
        | some j =>
          rw [ei] at ep
          simp only [Option.bind_some] at ep
          cases en : ns[j]? with
          | none => rw [en] at ep; simp at ep
          | some n =>
            rw [en] at ep
            simp only [Option.map_some, Option.some.injEq] at ep
            subst ep
            obtain ⟨p, rfl, hp⟩ := w1.scr_inv
            refine .inl ⟨p, _, i, .int n, rfl, rfl, hp, ixD_at (by rw [List.length_map]; exact ei) ?_, q _ H2 ext (w1.drop.int n)⟩
            rw [List.getElem?_map, en]
            rfl
      | _ => simp [pickD] at ep
    cases d1 with
    | nd f t ds =>
      cases t with
      | dct ks => exact absurd ⟨f, ks, ds, g1, e1⟩ hd
      | lst =>
        cases d2 with
        | int i => exact other (by simpa [subD] using er) rfl
        | _ => simp [subD] at er
      | obj k2 n2 =>
        cases d2 with
        | int i => exact other (by simpa [subD] using er) rfl
        | _ => simp [subD] at er
    | _ =>
      cases d2 with
      | int i => exact other (by simpa [subD] using er) rfl
      | _ => simp [subD] at er
theorem poOf (he : PE X x (tE c C nf W e)) (hn : e.isNop = false) : PO X (some x) (tPart (tE c C nf W e)) := po_some he
theorem cut_map (f : Int → D) (ns : List Int) (lo hi : Option Int) : (cutD ns lo hi).map f = cutD (ns.map f) lo hi := by
  unfold cutD
  rw [List.map_take, List.map_drop, List.length_map]
theorem cutV_eq (us : List V) (lo hi : Option Int) : cutV us lo hi = cutD us lo hi := rfl
theorem cut_shuf {ds : List D} {us : List V} (l : ds.length = us.length) (lo hi : Option Int) : Shuf ds us (cutD ds lo hi) (cutD us lo hi) := by
  unfold cutD
  rw [l]
  exact (Shuf.drop l _).trans (Shuf.take (by simp [l]) _)
theorem cut_len {ds : List D} {us : List V} (l : ds.length = us.length) (lo hi : Option Int) : (cutD ds lo hi).length = (cutD us lo hi).length := by
  unfold cutD
  simp [l]
theorem RepS.oints {O : Ow} : ∀ ns : List Int, RepS c O H (ns.map .int) ((ns.map V.int).map some) []
  | [] => by rw [List.map_nil, List.map_nil, List.map_nil, RepS]; exact ⟨rfl, rfl⟩
  | n :: ns => RepS.cons (f := []) (fp := []) (by rw [Rep]; exact ⟨rfl, rfl⟩) (RepS.oints ns)
theorem Wd.oints {ns : List Int} (w : Wd c B H ts ws Γ σ) : Wd c B H (ns.map .int ++ ts) (ns.map V.int ++ ws) Γ σ := by
  obtain ⟨ft, fs, w⟩ := w
  refine ⟨ft, fs, w.nd, w.nf, w.fh, w.kp, w.gr, ?_, w.rs, w.nb, w.fx⟩
  rw [List.map_append]
  exact RepS.app (fp := []) (RepS.oints ns) w.rt
/-- the two bounds of a slice -/
theorem opt_part {lo : Option Expr} {l : E} (h : (match lo with | none => l.isNop | some _ => !l.isNop) = true) (he : ∀ x, lo = some x → PE X x (tE c C nf W l)) :
    ∃ t : TO, PO X lo t ∧ ∀ {σ H B ts ws Γ} {Q : Option Int → Hp → Prop} {K : Option Int → List D → Prop}, Wd c B H ts ws Γ σ → B.fx.length ≤ nf → l.imp = false → c.lk = [] → PostR c B ts ws σ W K (optI l.isNop (evE C nf l Γ) Γ) →
      (∀ o g H', (∀ a u, H a = some u → H' a = some u) → Wd c B H' ts ws g σ → K o g → Q o H') → t σ H Q := by
  cases lo with
  | none =>
    refine ⟨_, po_none, fun {σ H B ts ws Γ Q K} w hf hi hl hp f => ?_⟩
    have e : l.isNop = true := h
    rw [e] at hp
    exact f none Γ H (fun _ _ e => e) w hp
  | some x =>
    have e : l.isNop = false := by simpa using h
    refine ⟨_, poOf (he x rfl) e, fun {σ H B ts ws Γ Q K} w hf hi hl hp f => ?_⟩
    rw [e] at hp
    refine ⟨B, ts, ws, Γ, w, hf, fun z => (by rw [hi] at z; cases z), .inl hl, PostR.on (es := []) (us := []) hp.bind rfl ?_⟩
    intro d g _ h1 v H1 ext w1
    cases d with
    | int i => exact ⟨i, w1.int_inv, f (some i) g H1 (ext hi) w1.drop h1⟩
    | _ => exact h1.elim
theorem s_sl {lo hi : Option Expr} {l h : E} {p2 : Pos} (hx : XOk X c C nm ix N sc W k) (ha : PE X x (tE c C nf W a)) (h1 : (match lo with | none => l.isNop | some _ => !l.isNop) = true) (h2 : (match hi with | none => h.isNop | some _ => !h.isNop) = true)
    (hl : ∀ x, lo = some x → PE X x (tE c C nf W l)) (hh : ∀ x, hi = some x → PE X x (tE c C nf W h)) : PE X (.Subscript x (.Slice lo hi none p2) pos) (tE c C nf W (.sl a l h)) := by
  obtain ⟨t1, p1, f1⟩ := opt_part h1 hl
  obtain ⟨t2, p2, f2⟩ := opt_part h2 hh
  refine peImp (pe_slice sl_list ha p1 p2) fun σ H Q hq => ?_
  obtain ⟨B, ts, ws, Γ, w, hf, hi', hl', hq⟩ := hq
  rw [evE] at hq
  rw [E.imp] at hq hi'
  have hl' := hl'.resolve_right (by simp [E.plain])
  obtain ⟨hib, hq⟩ := hq.ens
  simp only [Bool.and_eq_true, Bool.not_eq_true'] at hib
  refine ⟨B, ts, ws, Γ, w, hf, fun z => hi' (by rw [z]; rfl), .inl hl', PostR.on (es := []) (us := []) hq.bind rfl ?_⟩
  intro d1 g1 _ q1 v1 H1 ext1 w1
  have q1' := PostR.on (es := [d1]) (us := [v1]) q1.bind rfl (fun _ _ _ z => z)
  refine f1 w1 hf hib.1 hl' q1' fun o1 g2 H2 ext2 w2 q2 => ?_
  have q2' := PostR.on (es := [d1]) (us := [v1]) q2.bind rfl (fun _ _ _ z => z)
  refine f2 w2 hf hib.2 hl' q2' fun o2 g3 H3 ext3 w3 q3 => ?_
  obtain ⟨d, ed, q⟩ := PostR.of q3
  have ext : (a.imp || l.imp || h.imp) = false → ∀ b o, H b = some o → H3 b = some o := fun z b o e => ext3 b o (ext2 b o (ext1 (imp2 (imp2 z)) b o e))
  rw [hx.hK]
  cases d1 with
  | nd f t ds =>
    cases t with
    | lst =>
      simp only [slD, Option.some.injEq] at ed
      subst ed
      obtain ⟨p, us, rfl, hp, len, w4⟩ := w3.opn
      refine ⟨p, us, rfl, SqL.of hp, fun r hr => q (.ref r) _ (fun z b o e => upd_ext hr b o (ext z b o e)) ?_⟩
      exact (w4.shuf len (cut_shuf len o1 o2)).alloc (cut_len len o1 o2) hr upd_same
    | _ => simp [slD] at ed
  | scr ns =>
    simp only [slD, Option.some.injEq] at ed
    subst ed
    obtain ⟨p, rfl, hp⟩ := w3.scr_inv
    refine ⟨p, _, rfl, hp, fun r hr => q (.ref r) _ (fun z b o e => upd_ext hr b o (ext z b o e)) ?_⟩
    have w4 := (w3.drop.oints (ns := ns)).shuf (by simp) (cut_shuf (by simp) o1 o2)
    rw [cut_map]
    exact w4.alloc (cut_len (by simp) o1 o2) hr upd_same
  | _ => simp [slD] at ed
theorem s_rev {j : Nat} {q1 q2 q3 : Pos} (hx : XOk X c C nm ix N sc W k) (ha : PE X x (tE c C nf W a)) : PE X (.Subscript x (.Slice none none (some (.UnaryOp .USub (.Constant (.int 1) j q1) q2)) q3) pos) (tE c C nf W (.rev a)) :=
  peImp (pe_revL ha) fun σ H Q h => by
    obtain ⟨B, ts, ws, Γ, w, hf, hi, hl, h⟩ := h
    rw [evE] at h
    rw [E.imp] at h hi
    refine ⟨B, ts, ws, Γ, w, hf, hi, .inl (hl.resolve_right (by simp [E.plain])), PostR.on (es := []) (us := []) h.bind rfl ?_⟩
    intro d g _ h1 v H1 ext w1
    rw [hx.hK]
    cases d with
    | nd f t ds =>
      cases t with
      | lst =>
        obtain ⟨p, us, rfl, hp, len, w2⟩ := w1.opn
        refine ⟨p, us, rfl, SqL.of hp, fun r hr => h1 (.ref r) _ (fun z b o e => upd_ext hr b o (ext z b o e)) ?_⟩
        exact (w2.shuf len (Shuf.rev len)).alloc (by simp [len]) hr upd_same
      | _ => exact h1.elim
    | _ => exact h1.elim
end
end Bx

namespace Bx
open PySem PySem.Spec PyProof.Rows L2

section
variable {X : Cx} {c : Wc} {C : Cxt} {nm : Nms} {ix : Ix} {N : List Str} {sc : Scope} {W : WX} {k nf : Nat} {x y z : Expr} {a b d e es p : E} {xs : List Expr} {pos p1 apos : Pos} {σ : L2.St} {H : Hp} {B : Bs} {ts : List D} {ws : List V} {Γ : List D}

/-! ### calls -/
theorem call_sp {f : Nat} {ds : List D} {vs : List V} {g : List D} {H1 : Hp} {im : Bool} {Q : VK} (hx : XOk X c C nm ix N sc W k) (hlk : c.lk = []) (w1 : Wd c B H1 (ds ++ ts) (vs ++ ws) g σ) (l : ds.length = vs.length)
    (ext : im = false → ∀ a o, H a = some o → H1 a = some o)
    (h : PostR c B ts ws σ W (okE c B ts ws σ im H Q) (match C.fn f (D.shs ds) with
        | .ok r _ => ensure r.nb (.ok (lentIf (D.nbs ds) r) g)
        | .exc k _ => .exc k g
        | .bad => .bad)) : spF c C ix.ar ix.nf f vs H1 Q (fun u pn H => W u pn σ H) := by
  obtain ⟨Bc, hfx, ⟨hb0, hb1⟩, wc, back⟩ := w1.call l
  have ls : (D.shs ds).length = ds.length := by rw [shs_map, List.length_map]
  have har : C.fn f (D.shs ds) ≠ .bad := fun z => by rw [z] at h; exact h
  refine ⟨Bc, D.shs ds, hlk, by rw [ls, l], hx.far f _ har, by rw [hfx]; exact Nat.zero_le _, wc, ?_⟩
  cases e : C.fn f (D.shs ds) with
  | bad => exact absurd e har
  | exc j o =>
    rw [e] at h
    intro H' Δ τ wc' _
    exact h H' (back (r := .non) rfl wc'.non).drop
  | ok r o =>
    rw [e] at h
    obtain ⟨hr, h⟩ := h.ens
    intro _ v H' Δ τ wc' _
    refine h v H' (fun z a o e => ?_) (back hr wc')
    obtain ⟨gt, gs, w0⟩ := wc'
    have := w0.kp a o (by rw [hb0]; exact ext z a o e) (.inl (by rw [hb1]; simp))
    exact this
theorem s_call {f : Nat} (hx : XOk X c C nm ix N sc W k) (hf : nm.isf f = true) (hg : isGl sc (nm.fnm f) x = true) (hst : noStars xs = true) (ha : PA X xs (tA c C nf W es)) : PE X (.Call x xs [] pos) (tE c C nf W (.call f es)) := by
  obtain ⟨p, rfl, g, hd, _⟩ := isGl_ok hx hg
  obtain ⟨fd, ps, F, hb, hk⟩ := hx.fn f hf
  refine peImp (pe_callG F (hx.room.mono (Nat.le_succ _)) hx.gd g (hx.gl f hf) hk hb hx.tk ha hd hst) fun σ H Q h => ?_
  obtain ⟨B, ts, ws, Γ, w, hf, hi, hl, h⟩ := h
  rw [evE] at h
  rw [E.imp] at h hi
  have hl := hl.resolve_right (by simp [E.plain])
  refine ⟨B, ts, ws, Γ, w, hf, hi, hl, PostR.on (es := []) (us := []) h.bind rfl ?_⟩
  intro ds g _ h1 vs H1 ext l w1
  exact call_sp hx hl w1 l ext h1
theorem s_mth {m : Str} (hx : XOk X c C nm ix N sc W k) (hb : noCall0 x = true) (hline : (apos.endLine == pos.line) = true) (hlen : xs.length < 20) (hst : noStars xs = true) (ha : PE X x (tE c C nf W a)) (hes : PA X xs (tA c C nf W es)) :
    PE X (.Call (.Attribute x m apos) xs [] pos) (tE c C nf W (.mth a m es)) :=
  peImp (pe_methG ha hes hb hst hlen hline hx.gd hx.tk) fun σ H Q h => by
    obtain ⟨B, ts, ws, Γ, w, hf, hi, hl, h⟩ := h
    rw [evE] at h
    rw [E.imp] at h hi
    have hl := hl.resolve_right (by simp [E.plain])
    obtain ⟨hib, h⟩ := h.ens
    have hib : es.imp = false := by simpa using hib
    refine ⟨B, ts, ws, Γ, w, hf, fun z => hi (by rw [z]; rfl), .inl hl, PostR.on (es := []) (us := []) h.bind rfl ?_⟩
    intro d1 g1 _ h1 v1 H1 ext1 w1
    cases d1 with
    | nd f t cs =>
      cases t with
      | obj j ns =>
        simp only at h1
        cases em : C.meth j m with
        | none => rw [em] at h1; exact h1.elim
        | some i =>
          cases en : atK ns m with
          | some _ => rw [em, en] at h1; exact h1.elim
          | none =>
            rw [em, en] at h1
            obtain ⟨cls, mt, hif⟩ := hx.meth j m i em
            obtain ⟨fd, ps, F, hbd, hk⟩ := hx.fn i hif
            obtain ⟨p, us, rfl, hp, len⟩ := w1.peek
            obtain ⟨dx, hp, len2⟩ := hp
            have hlk : ∀ {ns : List Str} {us : List V}, atK ns m = none → (ns.zip us).lookup m = none := by
              intro ns
              induction ns with
              | nil => intro us _; rfl
              | cons n ns ih =>
                intro us h
                rw [atK] at h
                by_cases hn : n = m
                · rw [if_pos hn] at h; cases h
                · rw [if_neg hn] at h
                  have h' : atK ns m = none := by
                    cases e : atK ns m with
                    | none => rfl
                    | some _ => rw [e] at h; cases h
                  cases us with
                  | nil => rfl
                  | cons u us =>
                    rw [List.zip_cons_cons, List.lookup_cons]
                    have e1 : (m == n) = false := by simpa using fun z : m = n => hn z.symm
                    rw [e1]
                    exact ih h'
            refine ⟨p, _, dx, _, _, k, fd, ps, _, rfl, hp, cls, mt, hlk en, F, hx.room.mono (Nat.le_succ _), hbd, ?_⟩
            refine ⟨B, _ :: ts, _ :: ws, g1, w1, hf, fun z => (by rw [hib] at z; cases z), hl, PostR.on (es := [_]) (us := [_]) h1.bind rfl ?_⟩
            intro ds g2 _ h2 vs H2 ext2 l2 w2
            have w3 : Wd c B H2 ((.nd f (.obj j ns) cs :: ds) ++ ts) ((.ref p :: vs) ++ ws) g2 σ := by
              have w2' : Wd c B H2 ((ds ++ [.nd f (.obj j ns) cs]) ++ ts) ((vs ++ [.ref p]) ++ ws) g2 σ := by simpa using w2
              exact w2'.shuf (by simp [l2]) (Shuf.swap l2)
            exact call_sp hx hl w3 (by simp [l2]) (fun z a o e => ext2 hib a o (ext1 (imp2 z) a o e)) h2
      | _ => exact h1.elim
    | _ => exact h1.elim

/-! ### fields -/
theorem atK_fld {m : Str} : ∀ {ns : List Str} {us : List V} {j : Nat} {u : V}, atK ns m = some j → us[j]? = some u → (ns.zip us).lookup m = some u
  | [], _, _, _, h, _ => by simp [atK] at h
  | i :: ks, [], j, u, _, e => by simp at e
  | i :: ks, u' :: us, j, u, h, e => by
    rw [atK] at h
    by_cases hi : i = m
    · rw [if_pos hi] at h
      simp at h
      subst h
      subst hi
      rw [List.zip_cons_cons, List.lookup_cons]
      simpa using e
    · rw [if_neg hi] at h
      cases e2 : atK ks m with
      | none => rw [e2] at h; simp at h
      | some n =>
        rw [e2] at h
        simp at h
        subst h
        have e1 : (m == i) = false := by simpa using fun z : m = i => hi z.symm
        rw [List.zip_cons_cons, List.lookup_cons, e1]
        exact atK_fld e2 (by simpa using e)
theorem s_fld {f : Str} (hx : XOk X c C nm ix N sc W k) (hb : noCall0 x = true) (ha : PE X x (tE c C nf W a)) : PE X (.Attribute x f pos) (tE c C nf W (.fld a f)) :=
  peImp (pe_fld ha (attr_base hb)) fun σ H Q h => by
    obtain ⟨B, ts, ws, Γ, w, hf, hi, hl, h⟩ := h
    rw [evE] at h
    rw [E.imp] at h hi
    refine ⟨B, ts, ws, Γ, w, hf, hi, .inl (hl.resolve_right (by simp [E.plain])), PostR.on (es := []) (us := []) h.bind rfl ?_⟩
    intro d1 g1 _ h1 v1 H1 ext1 w1
    obtain ⟨r, er, q⟩ := PostR.of h1
    cases d1 with
    | nd fl t cs =>
      cases t with
      | obj j ns =>
        simp only [fldD] at er
        split at er
        · rename_i ho
          cases ek : atK ns f with
          | none => rw [ek] at er; cases er
          | some i =>
            rw [ek] at er
            simp only [Option.bind_some] at er
            obtain ⟨cls, na⟩ := hx.fo j f ho
            obtain ⟨p, us, u, rfl, hp, eu, len, w3⟩ := (w1.non).child er
            obtain ⟨dx, hp, len2⟩ := hp
            exact ⟨p, _, dx, _, u, rfl, hp, cls, na, atK_fld ek eu, q u H1 ext1 w3⟩
        · cases er
      | _ => simp [fldD] at er
    | _ => simp [fldD] at er

/-! ### places -/
def okP (c : Wc) (B : Bs) (ts : List D) (ws : List V) (σ : L2.St) (H : Hp) (Q : VK) (q : Nat × List Nat) (g : List D) : Prop :=
  ∀ v v1 H', (∀ a o, H a = some o → H' a = some o) → σ[q.1]? = some (some v) → PV c H' v q.2 v1 → Wd c B H' ts ws g σ → Q v1 H'
def tP (c : Wc) (C : Cxt) (nf : Nat) (W : WX) (e : E) : TE := fun σ H Q => ∃ B ts ws Γ, Wd c B H ts ws Γ σ ∧ B.fx.length ≤ nf ∧ c.lk = [] ∧
  PostR c B ts ws σ W (okP c B ts ws σ H Q) (evP C nf e Γ)
theorem Wd.at {i : Nat} {r : List Nat} {f : Fl} {t : Tag} {d : D} {ds : List D} (w : Wd c B H ts ws Γ σ) (e : Γ[i]? = some d) (g : D.getp r d = some (.nd f t ds)) :
    ∃ v a us, σ[i]? = some (some v) ∧ PV c H v r (.ref a) ∧ AtR c H a t us ∧ ds.length = us.length := by
  obtain ⟨ft, fs, w⟩ := w
  obtain ⟨v, v1, p, f', q, hv, hp, _, m2, _⟩ := w.node e g (by simp)
  rw [Rep] at m2
  obtain ⟨a, us, fq, rfl, ha, hq, _⟩ := m2
  exact ⟨v, a, us, hv, hp, ha, by simpa using hq.len⟩
theorem bind_at {i : Nat} {r : List Nat} {x : D} (h : (Γ[i]?).bind (D.getp r) = some x) : ∃ d, Γ[i]? = some d ∧ D.getp r d = some x := by
  cases e : Γ[i]? with
  | none => rw [e] at h; cases h
  | some d => rw [e] at h; exact ⟨d, rfl, h⟩
/-- the object at a place that has been read -/
theorem Wd.there {i : Nat} {r : List Nat} {f : Fl} {t : Tag} {ds : List D} {v v1 : V} (w : Wd c B H ts ws Γ σ) (e : (Γ[i]?).bind (D.getp r) = some (.nd f t ds)) (hv : σ[i]? = some (some v)) (hp : PV c H v r v1) :
    ∃ a us, v1 = .ref a ∧ AtR c H a t us ∧ ds.length = us.length := by
  obtain ⟨d, e1, e2⟩ := bind_at e
  obtain ⟨v', a, us, hv', hp', ha, l⟩ := w.at e1 e2
  rw [hv] at hv'
  cases hv'
  exact ⟨a, us, hp.det hp', ha, l⟩
theorem s_pvar {i : Nat} {m : Md} {n : Str} (hx : XOk X c C nm ix N sc W k) (h1 : N[i]? = some n) (h2 : visB sc n = true) (h3 : plainB n = true) : PE X (.Name n pos) (tP c C nf W (.var i m)) := by
  have hv : Vis X.env.scope n := by
    rw [hx.sc]
    unfold visB at h2
    split at h2
    · exact .inl ‹_›
    · exact .inr (.inl ‹_›)
    · exact .inr (.inr ‹_›)
    · cases h2
  unfold plainB at h3
  simp at h3
  refine peImp (pe_var (i := i) (by rw [hx.hN]; exact h1) hv (by simpa using h3.1.1) (by simpa using h3.1.2)) fun σ H Q h => ?_
  obtain ⟨B, ts, ws, Γ, w, hf, hl, h⟩ := h
  rw [evP] at h
  cases e : Γ[i]? with
  | none => rw [e] at h; exact h.elim
  | some d =>
    rw [e] at h
    obtain ⟨hn, h'⟩ := h.ens
    have na : d ≠ .any := by rintro rfl; simp [D.isAny] at hn
    obtain ⟨v, hv, _⟩ := w.lend e na
    exact ⟨v, hv, h' v v H (fun _ _ e => e) hv rfl w⟩
theorem s_pfld {f : Str} (hx : XOk X c C nm ix N sc W k) (hb : noCall0 x = true) (ha : PE X x (tP c C nf W p)) : PE X (.Attribute x f pos) (tP c C nf W (.fld p f)) :=
  peImp (pe_fld ha (attr_base hb)) fun σ H Q h => by
    obtain ⟨B, ts, ws, Γ, w, hf, hl, h⟩ := h
    rw [evP] at h
    refine ⟨B, ts, ws, Γ, w, hf, hl, PostR.on (es := []) (us := []) h.bind rfl ?_⟩
    intro q g1 _ h1 v v1 H1 ext1 hv hp w1
    cases e : (g1[q.1]?).bind (D.getp q.2) with
    | none => simp only [e] at h1; exact h1.elim
    | some dd =>
      simp only [e] at h1
      cases dd with
      | nd fl t cs =>
        cases t with
        | obj j ns =>
          cases fl with
          | own =>
            simp only at h1
            obtain ⟨ho, h1⟩ := PostR.ens h1
            obtain ⟨r, er, qq⟩ := PostR.of h1
            cases ek : atK ns f with
            | none => rw [ek] at er; cases er
            | some i =>
              rw [ek] at er
              simp only [Option.map_some, Option.some.injEq] at er
              subst er
              obtain ⟨cls, na⟩ := hx.fo j f ho
              obtain ⟨a, us, rfl, hat, len⟩ := w1.there e hv hp
              have hat' := hat
              obtain ⟨dx, hat, len2⟩ := hat
              have hi : i < us.length := by
                have : ∀ {ns : List Str} {i : Nat}, atK ns f = some i → i < ns.length := by
                  intro ns
                  induction ns with
                  | nil => intro i h; simp [atK] at h
                  | cons n ns ih =>
                    intro i h
                    rw [atK] at h
                    by_cases hn : n = f
                    · rw [if_pos hn] at h; simp at h; subst h; simp
                    · rw [if_neg hn] at h
                      cases e : atK ns f with
                      | none => rw [e] at h; simp at h
                      | some m =>
                        rw [e] at h; simp at h; subst h
                        have := ih e
                        simp; omega
                rw [← len2]
                exact this ek
              have eu : us[i]? = some us[i] := List.getElem?_eq_getElem hi
              exact ⟨a, _, dx, _, us[i], rfl, hat, cls, na, atK_fld ek eu, qq v us[i] H1 ext1 hv (PV.snoc (w := .non) hp hat' eu) w1⟩
          | _ => exact h1.elim
        | _ => cases fl <;> exact h1.elim
      | _ => exact h1.elim
theorem s_pix (hx : XOk X c C nm ix N sc W k) (hs : noSlice y = true) (ha : PE X x (tP c C nf W p)) (hb : PE X y (tE c C nf W e)) : PE X (.Subscript x y pos) (tP c C nf W (.ix p e)) :=
  peImp (pe_ix ix_seq ha hb (plainIx hs)) fun σ H Q h => by
    obtain ⟨B, ts, ws, Γ, w, hf, hl, h⟩ := h
    rw [evP] at h
    obtain ⟨hie, h⟩ := h.ens
    have hie : e.imp = false := by simpa using hie
    refine ⟨B, ts, ws, Γ, w, hf, hl, PostR.on (es := []) (us := []) h.bind rfl ?_⟩
    intro q g1 _ h1 v v1 H1 ext1 hv hp w1
    refine ⟨B, ts, ws, g1, w1, hf, fun z => (by rw [hie] at z; cases z), .inl hl, PostR.on (es := []) (us := []) h1.bind rfl ?_⟩
    intro d2 g2 _ h2 v2 H2 ext2 w2
    rw [hx.hK]
    cases e2 : (g2[q.1]?).bind (D.getp q.2) with
    | none => simp only [e2] at h2; exact h2.elim
    | some dd =>
      simp only [e2] at h2
      cases dd with
      | nd fl t cs =>
        cases t with
        | lst =>
          cases fl with
          | own =>
            cases d2 with
            | int i =>
              obtain rfl := w2.int_inv
              obtain ⟨r, er, qq⟩ := PostR.of h2
              cases ei : ixD cs.length i with
              | none => rw [ei] at er; cases er
              | some j =>
                rw [ei] at er
                simp only [Option.map_some, Option.some.injEq] at er
                subst er
                obtain ⟨a, us, rfl, hat, len⟩ := w2.drop.there e2 hv (hp.ext (ext2 hie))
                have hj : j < us.length := by
                  have e3 := ei
                  rw [len] at e3
                  by_cases h : j < us.length
                  · exact h
                  · exfalso
                    unfold ixD at e3
                    exact h (ixN_seq e3).2.1
                have eu : us[j]? = some us[j] := List.getElem?_eq_getElem hj
                rw [len] at ei
                exact .inl ⟨a, us, i, us[j], rfl, rfl, SqL.of hat, ixD_at ei eu, qq v us[j] H2 (fun a o e => ext2 hie a o (ext1 a o e)) hv (PV.snoc (w := .non) (hp.ext (ext2 hie)) hat eu) w2.drop⟩
            | _ => exact h2.elim
          | _ => exact h2.elim
        | _ => cases fl <;> exact h2.elim
      | _ => exact h2.elim
end
end Bx

namespace Bx
open PySem PySem.Spec PyProof.Rows L2

section
variable {X : Cx} {c : Wc} {C : Cxt} {nm : Nms} {ix : Ix} {N : List Str} {sc : Scope} {W : WX} {k nf : Nat} {x y z : Expr} {a b d e es p : E} {xs : List Expr} {pos p1 apos : Pos} {σ : L2.St} {H : Hp} {B : Bs} {ts : List D} {ws : List V} {Γ : List D}

/-! ### a list's methods -/
def mmId : Mm → String
  | .append => "list.append"
  | .extend => "list.extend"
  | .insert => "list.insert"
  | .pop => "list.pop"
  | .reverse => "list.reverse"
def rIns : V → List V → Hp → VK → Prop := fun x vs H Q => ∃ (l : Addr) (xs : List V) (i : Int) (y : V), x = .ref l ∧ vs = [.int i, y] ∧ H l = some (.lst xs) ∧ xs.length < sizeLine ∧ 0 ≤ i ∧ i < 2 ^ 63 ∧
    Q .non (upd H l (.lst (xs.take i.toNat ++ [y] ++ xs.drop i.toNat)))
def rMm : Mm → V → List V → Hp → VK → Prop
  | .append => rAppend
  | .extend => rExtend
  | .insert => rIns
  | .pop => rPop
  | .reverse => rReverse
theorem mm_slot : ∀ m : Mm, Slot "list" (mmN m) (mmId m)
  | .append => PySem.F.slot_list_append
  | .extend => PySem.F.slot_list_extend
  | .insert => PySem.F.slot_list_insert
  | .pop => PySem.F.slot_list_pop
  | .reverse => PySem.F.slot_list_reverse
theorem mm_type : ∀ m : Mm, typeOf (.builtin (mmId m)) = pure (.type "method_descriptor")
  | .append => PySem.F.type_list_append
  | .extend => PySem.F.type_list_extend
  | .insert => PySem.F.type_list_insert
  | .pop => PySem.F.type_list_pop
  | .reverse => PySem.F.type_list_reverse
theorem mm_ok : ∀ m : Mm, MtR X (mmId m) (rMm m)
  | .append => mt_append
  | .extend => mt_extend
  | .insert => mt_insert
  | .pop => mt_pop
  | .reverse => mt_reverse
theorem few_ok {cpos : Pos} (hst : noStars xs = true) (hl : xs.length < 20) : ((backTo cpos (starEach xs X.env)).all (fun x => !x.1) && (backToKw cpos (keywordEach [] X.env)).all (fun x => x.1.isSome)
      && decide (xs.length + ([] : List Keyword).length + (if ([] : List Keyword).isEmpty then 0 else 1) < 30)) = true := form_ok hst hl

theorem tE_mono {Q Q' : VK} (f : ∀ v H, Q v H → Q' v H) (h : tE c C nf W e σ H Q) : tE c C nf W e σ H Q' := by
  obtain ⟨B, ts, ws, Γ, w, hf, hi, hl, h⟩ := h
  exact ⟨B, ts, ws, Γ, w, hf, hi, hl, PostR.on (es := []) (us := []) h rfl fun d g _ q v H' ext w' => f v H' (q v H' ext w')⟩
theorem tP_mono {Q Q' : VK} (f : ∀ v H, Q v H → Q' v H) (h : tP c C nf W e σ H Q) : tP c C nf W e σ H Q' := by
  obtain ⟨B, ts, ws, Γ, w, hf, hl, h⟩ := h
  exact ⟨B, ts, ws, Γ, w, hf, hl, PostR.on (es := []) (us := []) h rfl fun d g _ q v v1 H' ext hv hp w' => f v1 H' (q v v1 H' ext hv hp w')⟩
theorem tA_nil {Q : List V → Hp → Prop} (h : tA c C nf W .nil σ H Q) : Q [] H := by
  obtain ⟨B, ts, ws, Γ, w, hf, hi, hl, h⟩ := h
  rw [evA] at h
  exact h [] H (fun _ _ _ e => e) rfl w
/-- a built-in type's method, any number of values -/
theorem pe_bmN {T id : String} {name : Str} {r : V → List V → Hp → VK → Prop} {to : TE} (pa : PlainAttrs T) (slot : Slot T name id) (hty : typeOf (.builtin id) = pure (.type "method_descriptor")) (hm : MtR X id r) (ho : PE X x to) (ha : PA X xs (tA c C nf W es))
    (mono : ∀ (σ : L2.St) (H : Hp) (Q Q' : VK), (∀ v H, Q v H → Q' v H) → to σ H Q → to σ H Q') (h0 : xs = [] → es = .nil) (hb : noCall0 x = true) (hline : (apos.endLine == pos.line) = true) (hlen : xs.length < 20) (hst : noStars xs = true) :
    PE X (.Call (.Attribute x name apos) xs [] pos) (tBM X.K T r to (tA c C nf W es)) := by
  cases xs with
  | nil =>
    obtain rfl := h0 rfl
    exact peImp (pe_bm0 pa slot hty hm ho (attr_base hb) hline) fun σ H Q h => mono _ _ _ _ (fun v H1 q => ⟨q.1, tA_nil q.2⟩) h
  | cons e' es' =>
    have h1 := hst
    simp only [noStars, Bool.and_eq_true] at h1
    exact pe_bm pa slot hty hm ho ha (attr_base hb) (few_ok hst hlen) hline (star_cons h1.1) (stars_back pos h1.2)
theorem nil_of {xs : List Expr} (h : trA N nm es sc xs = true) : xs = [] → es = .nil := by
  rintro rfl
  cases es <;> first | rfl | (simp [trA] at h)
theorem getLast_at {α : Type} {l : List α} {x : α} (h : l.getLast? = some x) : l[l.length - 1]? = some x := by rw [← h, List.getLast?_eq_getElem?]
theorem Shuf.popd {ds : List D} {vs : List V} {x : D} {u : V} (l : ds.length = vs.length) (e : ds.getLast? = some x) (e' : vs[vs.length - 1]? = some u) : Shuf ds vs (x :: ds.dropLast) (u :: vs.dropLast) := by
  have h1 : ds = ds.dropLast ++ [x] := by
    obtain ⟨l', rfl⟩ := List.getLast?_eq_some_iff.mp e
    simp
  have h2 : vs = vs.dropLast ++ [u] := by
    have e3 : vs.getLast? = some u := by rw [List.getLast?_eq_getElem?]; exact e'
    obtain ⟨l', rfl⟩ := List.getLast?_eq_some_iff.mp e3
    simp
  have l' : ds.dropLast.length = vs.dropLast.length := by simp [l]
  have := Shuf.swap (ds := ds.dropLast) (es := [x]) (vs := vs.dropLast) (us := [u]) l'
  rw [← h1, ← h2] at this
  exact this
theorem Shuf.ins {ds : List D} {vs : List V} {x i : D} {u iv : V} (l : ds.length = vs.length) (n : Nat) : Shuf ([i, x] ++ ds) ([iv, u] ++ vs) (ds.take n ++ x :: ds.drop n) (vs.take n ++ [u] ++ vs.drop n) := by
  have s1 : Shuf ([i, x] ++ ds) ([iv, u] ++ vs) ([x] ++ ds) ([u] ++ vs) := Shuf.app (ds := [i, x]) (es := [x]) (vs := [iv, u]) (us := [u]) rfl (Shuf.drop (ds := [i, x]) (vs := [iv, u]) rfl 1) (Shuf.refl _ _)
  have s2 : Shuf ([x] ++ ds) ([u] ++ vs) (ds ++ [x]) (vs ++ [u]) := Shuf.swap rfl
  have s3 : Shuf (ds ++ [x]) (vs ++ [u]) (ds.take n ++ (ds.drop n ++ [x])) (vs.take n ++ (vs.drop n ++ [u])) := by
    rw [← List.append_assoc, ← List.append_assoc, List.take_append_drop, List.take_append_drop]
    exact Shuf.refl _ _
  have s4 : Shuf (ds.take n ++ (ds.drop n ++ [x])) (vs.take n ++ (vs.drop n ++ [u])) (ds.take n ++ ([x] ++ ds.drop n)) (vs.take n ++ ([u] ++ vs.drop n)) := Shuf.app (by simp [l]) (Shuf.refl _ _) (Shuf.swap (by simp [l]))
  have s := s1.trans (s2.trans (s3.trans s4))
  rw [List.append_assoc]
  exact s

theorem mm_append {cs ds cs' : List D} {r : D} (h : mmD .append cs ds = some (r, cs')) : ∃ x, ds = [x] ∧ okn cs.length = true ∧ r = .non ∧ cs' = cs ++ [x] := by
  cases ds with
  | nil => simp [mmD] at h
  | cons x ds =>
    cases ds with
    | cons _ _ => simp [mmD] at h
    | nil =>
      simp only [mmD] at h
      split at h
      · simp only [Option.some.injEq, Prod.mk.injEq] at h
        exact ⟨x, rfl, ‹_›, h.1.symm, h.2.symm⟩
      · cases h
theorem mm_extend {cs ds cs' : List D} {r : D} (h : mmD .extend cs ds = some (r, cs')) : ∃ f es, ds = [.nd f .lst es] ∧ okn (cs.length + es.length) = true ∧ r = .non ∧ cs' = cs ++ es := by
  cases ds with
  | nil => simp [mmD] at h
  | cons x ds =>
    cases ds with
    | cons _ _ => cases x <;> simp [mmD] at h
    | nil =>
      cases x with
      | nd f t es =>
        cases t with
        | lst =>
          simp only [mmD] at h
          split at h
          · simp only [Option.some.injEq, Prod.mk.injEq] at h
            exact ⟨f, es, rfl, ‹_›, h.1.symm, h.2.symm⟩
          · cases h
        | _ => simp [mmD] at h
      | _ => simp [mmD] at h
theorem mm_insert {cs ds cs' : List D} {r : D} (h : mmD .insert cs ds = some (r, cs')) : ∃ i x, ds = [.int i, x] ∧ okn cs.length = true ∧ 0 ≤ i ∧ i ≤ cs.length ∧ r = .non ∧ cs' = cs.take i.toNat ++ x :: cs.drop i.toNat := by
  cases ds with
  | nil => simp [mmD] at h
  | cons x ds =>
    cases x with
    | int i =>
      cases ds with
      | nil => simp [mmD] at h
      | cons x ds =>
        cases ds with
        | cons _ _ => simp [mmD] at h
        | nil =>
          simp only [mmD] at h
          split at h
          · rename_i hz
            simp only [Bool.and_eq_true, decide_eq_true_eq] at hz
            simp only [Option.some.injEq, Prod.mk.injEq] at h
            exact ⟨i, x, rfl, hz.1.1, hz.1.2, hz.2, h.1.symm, h.2.symm⟩
          · cases h
    | _ => simp [mmD] at h
theorem mm_pop {cs ds cs' : List D} {r : D} (h : mmD .pop cs ds = some (r, cs')) : ds = [] ∧ cs.getLast? = some r ∧ cs' = cs.dropLast := by
  cases ds with
  | cons _ _ => simp [mmD] at h
  | nil =>
    simp only [mmD] at h
    split at h
    · simp only [Option.some.injEq, Prod.mk.injEq] at h
      obtain ⟨rfl, rfl⟩ := h
      exact ⟨rfl, ‹_›, rfl⟩
    · cases h
theorem mm_reverse {cs ds cs' : List D} {r : D} (h : mmD .reverse cs ds = some (r, cs')) : ds = [] ∧ r = .non ∧ cs' = cs.reverse := by
  cases ds with
  | cons _ _ => simp [mmD] at h
  | nil =>
    simp only [mmD, Option.some.injEq, Prod.mk.injEq] at h
    exact ⟨rfl, h.1.symm, h.2.symm⟩
theorem s_mut {m : Mm} (hx : XOk X c C nm ix N sc W k) (hb : noCall0 x = true) (hline : (apos.endLine == pos.line) = true) (hlen : xs.length < 20) (hst : noStars xs = true) (h0 : xs = [] → es = .nil) (ho : PE X x (tP c C nf W p)) (ha : PA X xs (tA c C nf W es)) :
    PE X (.Call (.Attribute x (mmN m) apos) xs [] pos) (tE c C nf W (.mut p m es)) :=
  peImp (pe_bmN PySem.F.plainAttrs_list (mm_slot m) (mm_type m) (mm_ok m) ho ha (fun _ _ _ _ f => tP_mono f) h0 hb hline hlen hst) fun σ H Q h => by
    obtain ⟨B, ts, ws, Γ, w, hf, hi, hl, h⟩ := h
    rw [evE] at h
    rw [E.imp] at h hi
    have hlk : c.lk = [] := hl.resolve_right (by simp [E.plain])
    have nbt := hi rfl
    obtain ⟨hib, h⟩ := h.ens
    have hib : es.imp = false := by simpa using hib
    refine ⟨B, ts, ws, Γ, w, hf, hlk, PostR.on (es := []) (us := []) h.bind rfl ?_⟩
    intro q g1 _ h1 v v1 H1 ext1 hv hp w1
    cases e1 : (g1[q.1]?).bind (D.getp q.2) with
    | none => simp only [e1] at h1; exact h1.elim
    | some dd =>
      simp only [e1] at h1
      cases dd with
      | nd fl t cs1 =>
        cases t with
        | lst =>
          cases fl with
          | own =>
            obtain ⟨a, us1, rfl, hat1, len1⟩ := w1.there e1 hv hp
            have hsq : SqL X.K H1 a us1 := SqL.of hat1
            refine ⟨.inl ⟨rfl, us1, hsq⟩, B, ts, ws, g1, w1, hf, fun z => (by rw [hib] at z; cases z), hlk, PostR.on (es := []) (us := []) (PostR.bind h1) rfl ?_⟩
            intro ds g2 _ h2 vs H2 ext2 l2 w2
            cases e2 : g2[q.1]? with
            | none => rw [e2] at h2; exact h2.elim
            | some d =>
              rw [e2] at h2
              simp only at h2
              cases e3 : D.getp q.2 d with
              | none => rw [e3] at h2; exact h2.elim
              | some dd =>
                rw [e3] at h2
                cases dd with
                | nd fl t cs =>
                  cases t with
                  | lst =>
                    cases fl with
                    | own =>
                      simp only at h2
                      cases e4 : mmD m cs ds with
                      | none => rw [e4] at h2; exact h2.elim
                      | some rr =>
                        obtain ⟨r, cs'⟩ := rr
                        rw [e4] at h2
                        obtain ⟨nb, h2⟩ := PostR.ens h2
                        obtain ⟨v', a', us, hv', hp', hat, len, wr⟩ := w2.write hlk l2 nbt e2 e3
                        rw [hv] at hv'
                        cases hv'
                        have ea : V.ref a = V.ref a' := (hp.ext (ext2 hib)).det hp'
                        cases ea
                        have nb2 : r.nb = true ∧ D.nbs cs' = true := by
                          rw [D.nbs, Bool.and_eq_true] at nb
                          exact nb
                        have fin : ∀ {cs2 : List V}, r = .non → Shuf (ds ++ cs) (vs ++ us) cs' cs2 → Q .non (upd H2 a (.lst cs2)) := fun {cs2} er s => by
                          subst er
                          exact h2 .non _ (by simp) (Wd.non (wr (t' := .lst) (o' := .lst cs2) (rs := []) (xs := []) upd_same nb2.2 rfl s))
                        cases m with
                        | append =>
                          obtain ⟨x, rfl, hz, rfl, rfl⟩ := mm_append e4
                          obtain ⟨y, rfl⟩ : ∃ y, vs = [y] := List.length_eq_one_iff.mp l2.symm
                          have hz := okn_ok hz
                          rw [len] at hz
                          exact ⟨a, us, y, rfl, rfl, hat, hz, fin rfl (Shuf.swap rfl)⟩
                        | extend =>
                          obtain ⟨f, zs, rfl, hz, rfl, rfl⟩ := mm_extend e4
                          obtain ⟨y, rfl⟩ : ∃ y, vs = [y] := List.length_eq_one_iff.mp l2.symm
                          obtain ⟨b, us2, rfl, hb2, len2, w3⟩ := Wd.opn w2
                          obtain ⟨v', a', us', hv', hp', hat', len', wr'⟩ := w3.write hlk len2 nbt e2 e3
                          rw [hv] at hv'
                          cases hv'
                          have ea : V.ref a = V.ref a' := (hp.ext (ext2 hib)).det hp'
                          cases ea
                          have eu := AtR.det hat hat'
                          subst eu
                          have hz := okn_ok hz
                          rw [len, len2] at hz
                          exact ⟨a, b, us, us2, rfl, rfl, hat, hb2, Nat.le_of_lt hz, h2 .non _ (by simp) (Wd.non (wr' (t' := .lst) (o' := .lst (us ++ us2)) (rs := []) (xs := []) upd_same nb2.2 rfl (Shuf.swap len2)))⟩
                        | insert =>
                          obtain ⟨i, x, rfl, hz, hi0, hi1, rfl, rfl⟩ := mm_insert e4
                          obtain ⟨iv, y, rfl⟩ : ∃ iv y, vs = [iv, y] := by
                            match vs, l2 with
                            | [a, b], _ => exact ⟨a, b, rfl⟩
                          obtain rfl := Wd.int_inv w2
                          have hz := okn_ok hz
                          have hz2 : cs.length < 2 ^ 60 := by
                            have : sizeLine < 2 ^ 60 := by rw [sizeLine_eq]; decide
                            omega
                          rw [len] at hz
                          exact ⟨a, us, i, y, rfl, rfl, hat, hz, hi0, by omega, fin rfl (Shuf.ins len i.toNat)⟩
                        | pop =>
                          obtain ⟨rfl, hg, rfl⟩ := mm_pop e4
                          obtain rfl : vs = [] := List.length_eq_zero_iff.mp l2.symm
                          have hpos : us.length - 1 < us.length := by
                            have : cs ≠ [] := by rintro rfl; simp at hg
                            have := List.length_pos_iff.mpr this
                            omega
                          have eu : us[us.length - 1]? = some us[us.length - 1] := List.getElem?_eq_getElem hpos
                          refine ⟨a, us, _, rfl, rfl, hat, eu, h2 _ _ (by simp) ?_⟩
                          exact wr (t' := .lst) (o' := .lst us.dropLast) (rs := [r]) (xs := [us[us.length - 1]]) upd_same nb rfl (Shuf.popd len hg eu)
                        | reverse =>
                          obtain ⟨rfl, rfl, rfl⟩ := mm_reverse e4
                          obtain rfl : vs = [] := List.length_eq_zero_iff.mp l2.symm
                          exact ⟨a, us, rfl, rfl, hat, fin rfl (Shuf.rev len)⟩
                    | _ => exact h2.elim
                  | _ => cases fl <;> exact h2.elim
                | _ => exact h2.elim
          | _ => exact h1.elim
        | _ => cases fl <;> exact h1.elim
      | _ => exact h1.elim
end
end Bx

namespace Bx
open PySem PySem.Spec PyProof.Rows L2

section
variable {X : Cx} {pins : List (Addr × Obj)} {σ : L2.St} {H : Hp} {s : Shared}
/-- numbers and names as keys, as the dicts of this library want them -/
theorem keys_of : ∀ {ks : List Key} {us : List Value}, Vals (ks.map kV) us → ∀ {i : Nat} {u : Value}, us[i]? = some u → ∃ k, ks[i]? = some k ∧ (mixKind X.prog X.w).is k u = true
  | [], us, h, i, u, e => by
    cases h
    simp at e
  | k :: ks, us, h, i, u, e => by
    cases h with
    | cons r t =>
      cases i with
      | zero =>
        simp at e
        subst e
        exact ⟨k, rfl, kV_is (P := X.prog) (w := X.w) r⟩
      | succ i =>
        obtain ⟨k', e1, e2⟩ := keys_of t (i := i) (u := u) (by simpa using e)
        exact ⟨k', by simpa using e1, e2⟩
theorem kv_zip : ∀ {ks : List Key} {vs : List V} {us : List Value}, Vals vs us → KV (ks.zip vs) (ks.zip us)
  | [], _, _, _ => .nil
  | k :: ks, _, _, .nil => .nil
  | k :: ks, _, _, .cons r t => .cons ⟨rfl, r⟩ (kv_zip t)
def tDZip (K : PySem.W.Frag) (ta tb : TE) : TE := fun σ H Q => ta σ H fun x H1 => tb σ H1 fun y H2 => ∃ (l1 l2 : Addr) (ks : List Key) (vs : List V), x = .ref l1 ∧ y = .ref l2 ∧ SqL K H2 l1 (ks.map kV) ∧ SqL K H2 l2 vs ∧
  ∀ p, H2 p = none → Q (.ref p) (upd H2 p (.dK (mergeK [] (ks.zip vs))))
theorem pe_dzip {a b : Expr} {ta tb : TE} {p p2 q pos : Pos} (hc : X.calm = true) (hg : Gl X "dict") (hm : X.mg "dict" = none) (hg2 : Gl X "zip") (hm2 : X.mg "zip" = none) (ha : PE X a ta) (hb : PE X b tb) (na : noStars [a, b] = true) :
    PE X (.Call (.Name "dict" p) [.Call (.Name "zip" p2) [a, b] [] q] [] pos) (tDZip X.K ta tb) := by
  refine ⟨fun pins s σ H Q I h => ?_⟩
  simp only [noStars, Bool.and_eq_true] at na
  refine Call_ (ld_blt I hg hm boot_dict ?_)
  refine callWith_type1 (args_cons ?_ rfl) rfl rfl
  refine Call_ (ld_blt I hg2 hm2 boot_zip ?_)
  refine callWith_type1 (args_cons (thn (ha.run pins s σ H _ I h) fun v s1 ⟨x, H1, I1, r1, q1⟩ => args_cons (thn (hb.run pins s1 σ H1 _ I1 q1) fun v2 s2 ⟨y, H2, I2, r2, q2⟩ => args_nil ?_) (star_cons na.2.1)) (star_cons na.1)) (star_cons na.1) (stars_back q (by simp [noStars, na.2.1]))
  obtain ⟨l1, l2, ks, vs, rfl, rfl, hq1, hq2, qq⟩ := q2
  cases r1
  cases r2
  obtain ⟨its1, rv1, pl1, hz1⟩ := I2.list hq1
  obtain ⟨its2, rv2, pl2, hz2⟩ := I2.list hq2
  have la : l1 < s2.heap.objs.size := pl1.lt
  have lb : l2 < s2.heap.objs.size := pl2.lt
  refine call_zip_2 pl1.isList pl2.isList fun h' hz hTI hTO h1 h2 hsz hk => ?_
  refine args_nil ?_
  have e1 : its1.toArray.size = ks.length := by rw [List.size_toArray, ← rv1.length, List.length_map]
  have e2 : its2.toArray.size = vs.length := by rw [List.size_toArray, ← rv2.length]
  have hkl : ks.length ≤ sizeLine := by rw [List.length_map] at hz1; exact hz1
  have P := PairArg.zip (prog := X.prog) (w := X.w) (s2.heap.objs.size + 4) (s2.heap.objs.size + 2) (s2.heap.objs.size + 3) s2.heap.objs.size (s2.heap.objs.size + 1) l1 l2 (PySem.W.ktu_apart s2.heap.objs.size l1 l2 la lb) its1.toArray its2.toArray
  have I3 : Inv X pins σ H2 { s2 with heap := h' } := I2.kept (t' := s2.toks) hk
  refine PySem.call_dict_pairs (knd := mixKind X.prog X.w) (kvs := ks.zip its2) P (I2.ok.hd hc) ⟨hz, hTI, ⟨_, _, hTO⟩, h1, h2, pl1.isList.at fun o e => hk _ o e, pl2.isList.at fun o e => hk _ o e⟩ ⟨?_, ?_⟩ (by rw [e1]; exact Nat.le_trans (Nat.min_le_left _ _) hkl) fun h'' tk hd' hkk => ?_
  · rw [List.length_zip, e1, List.size_toArray]
  · rintro i key v ⟨ek, ev⟩
    obtain ⟨kk, e3, e4⟩ := keys_of (X := X) rv1 (i := i) (u := key) (by simpa using ek)
    refine ⟨kk, ?_, e4⟩
    rw [List.getElem?_zip_eq_some]
    exact ⟨e3, by simpa using ev⟩
  · have hm : (h'.objs.size == sysModules) = false := beq_eq_false_iff_ne.mpr (Nat.ne_of_gt I3.big)
    have hlen : (mergeK [] (ks.zip vs)).length ≤ sizeLine := by
      refine Nat.le_trans (length_mergeK _ []) ?_
      rw [List.length_nil, Nat.zero_add, List.length_zip]
      exact Nat.le_trans (Nat.min_le_left _ _) hkl
    have hkeep : ∀ b o, s2.heap.get? b = some o → h''.get? b = some o := fun b o e => by
      have hb := Heap.lt_size e
      refine hkk b o ?_ (hk b o e)
      simp only [List.mem_cons, List.not_mem_nil, or_false, not_or]
      exact ⟨Nat.ne_of_lt (Nat.lt_of_lt_of_le hb (Nat.le_add_right _ _)), Nat.ne_of_lt (Nat.lt_of_lt_of_le hb (Nat.le_add_right _ _)), Nat.ne_of_lt hb, Nat.ne_of_lt (Nat.lt_of_lt_of_le hb (Nat.le_add_right _ _))⟩
    have hge : s2.heap.objs.size ≤ h'.objs.size := by rw [hsz]; omega
    exact ⟨.ref h'.objs.size, upd H2 h'.objs.size (.dK (mergeK [] (ks.zip vs))), I2.laid (t' := tk) hkeep hge (show ObjOk X.prog X.w _ _ _ (.dK (mergeK [] (ks.zip vs))) from ⟨hlen, hm, merged [] (ks.zip its2), KV.merge (kv_zip rv2) .nil, hd'⟩), rfl, qq _ (I2.hok.fresh hge)⟩
end
end Bx

namespace Bx
open PySem PySem.Spec PyProof.Rows L2

section
variable {X : Cx} {c : Wc} {C : Cxt} {nm : Nms} {ix : Ix} {N : List Str} {sc : Scope} {W : WX} {k nf : Nat} {x y z : Expr} {a b d e es p : E} {xs : List Expr} {pos p1 p2 apos : Pos} {σ : L2.St} {H : Hp} {B : Bs} {ts : List D} {ws : List V} {Γ : List D}

theorem crOr {f : Value} {r r' : List V → Hp → VK → Prop} (h : CallR X f r) (h' : CallR X f r') : CallR X f (fun xs H Q => r xs H Q ∨ r' xs H Q) := fun pins s σ H xs us Q I rv z => z.elim (h pins s σ H xs us Q I rv) (h' pins s σ H xs us Q I rv)
def rStr (K : PySem.W.Frag) : List V → Hp → VK → Prop := fun xs H Q => ∃ a d, xs = [.ref a] ∧ Dp K H (.ref a) d ∧ d.showable = true ∧ d.hasDict = false ∧ d.depth ≤ 60 ∧ d.shown.length ≤ sizeLine ∧ Q (.str d.shown) H
theorem cr_strL (hu : X.A.units + 64 < cLine) (hg : X.A.guards = some []) : CallR X (.type "str") (rStr X.K) := by
  intro pins s σ H xs us Q I r h
  obtain ⟨a, d, rfl, hd, hs, hnd, hdp, hz, q⟩ := h
  obtain ⟨u, rfl, ru⟩ := vals1 r
  obtain ⟨as, r1⟩ := Dp.reads I d (.ref a) u hd ru
  cases ru
  refine PySem.str_of_reads r1 hs (PyData.noDict_hsm hnd) hg (by omega) (fun _ _ e => e) (fun h' u tk hk => ?_) hz
  exact ⟨.str d.shown, H, I.kept hk, ⟨_, rfl⟩, q⟩
def rBi (K : PySem.W.Frag) : Bi → List V → Hp → VK → Prop
  | .len => fun xs H Q => (∃ x n, xs = [x] ∧ LenV K x H n ∧ Q (.int n) H) ∨ (∃ a kvs, xs = [V.ref a] ∧ H a = some (.dK kvs) ∧ Q (.int kvs.length) H)
  | .abs => fun xs H Q => ∃ i, xs = [.int i] ∧ Q (.int (if i < 0 then -i else i)) H
  | .sorted => rSortedI K
  | .list => fun xs H Q => ∃ p ys, xs = [.ref p] ∧ (SqL K H p ys ∨ SqT K H p ys) ∧ ∀ l, H l = none → Q (.ref l) (upd H l (.lst ys))
  | .sum => rSum K
  | .min => rMin K
  | .max => rMax K
  | .any => rAny K
  | .all => rAll K
  | .str => rStr K
  | .min2 => fun xs H Q => ∃ i j, xs = [.int i, .int j] ∧ Q (.int (if j < i then j else i)) H
def biV : Bi → Value
  | .len => .builtin "len"
  | .abs => .builtin "abs"
  | .sorted => .builtin "sorted"
  | .list => .type "list"
  | .sum => .builtin "sum"
  | .min => .builtin "min"
  | .max => .builtin "max"
  | .any => .builtin "any"
  | .all => .builtin "all"
  | .str => .type "str"
  | .min2 => .builtin "min"
theorem bi_ok (hc : X.calm = true) (hu : X.A.units + 64 < cLine) (hg : X.A.guards = some []) : ∀ b : Bi, CallR X (biV b) (rBi X.K b)
  | .len => crOr call_len call_lenD
  | .abs => call_abs
  | .sorted => cr_sortedI
  | .list => call_list_of
  | .sum => cr_sum hc
  | .min => cr_min hc
  | .max => cr_max hc
  | .any => cr_any hc
  | .all => cr_all hc
  | .str => cr_strL hu hg
  | .min2 => call_min2 hc
theorem bi_boot : ∀ b : Bi, bootBuiltins (biN b) = some (biV b)
  | .len => PySem.boot_len
  | .abs => boot_abs
  | .sorted => boot_sorted
  | .list => PyProof.Rows.boot_list
  | .sum => boot_sum
  | .min => boot_min
  | .max => boot_max
  | .any => boot_any
  | .all => boot_all
  | .str => PyProof.Rows.boot_str
  | .min2 => boot_min
theorem bi_in : ∀ b : Bi, biN b ∈ blts := by
  intro b
  cases b <;> decide
theorem shn {d : D} (h : showB d = true) : d.pyb = true ∧ d.py.showable = true ∧ d.py.hasDict = false ∧ d.py.depth ≤ 60 ∧ d.py.shown.length ≤ sizeLine := by
  unfold showB at h
  simp only [Bool.and_eq_true, decide_eq_true_eq, Bool.not_eq_true'] at h
  exact ⟨h.1.1.1.1, h.1.1.1.2, h.1.1.2, h.1.2, Nat.le_of_lt (okn_ok h.2)⟩
theorem ins1_perm (x : Int) : ∀ l : List Int, (ins1 x l).Perm (x :: l)
  | [] => .refl _
  | y :: r => by
    rw [ins1]
    split
    · exact .refl _
    · exact ((ins1_perm x r).cons y).trans (.swap x y r)
theorem isort_perm : ∀ l : List Int, (isort l).Perm l
  | [] => .refl _
  | x :: r => (ins1_perm x (isort r)).trans ((isort_perm r).cons x)
theorem ins1_sorted (x : Int) : ∀ l : List Int, l.Pairwise (· ≤ ·) → (ins1 x l).Pairwise (· ≤ ·)
  | [], _ => List.pairwise_singleton _ _
  | y :: r, h => by
    rw [ins1]
    rw [List.pairwise_cons] at h
    split
    · rename_i hx
      refine List.pairwise_cons.mpr ⟨fun z hz => ?_, List.pairwise_cons.mpr h⟩
      rcases List.mem_cons.mp hz with rfl | hz
      · exact hx
      · exact Int.le_trans hx (h.1 z hz)
    · rename_i hx
      refine List.pairwise_cons.mpr ⟨fun z hz => ?_, ins1_sorted x r h.2⟩
      rcases List.mem_cons.mp ((ins1_perm x r).mem_iff.mp hz) with rfl | hz
      · omega
      · exact h.1 z hz
theorem isort_sorted : ∀ l : List Int, (isort l).Pairwise (· ≤ ·)
  | [] => List.Pairwise.nil
  | x :: r => ins1_sorted x _ (isort_sorted r)
theorem sorted_one : ∀ {a b : List Int}, a.Perm b → a.Pairwise (· ≤ ·) → b.Pairwise (· ≤ ·) → a = b
  | [], b, p, _, _ => (List.Perm.nil_eq p)
  | x :: a, [], p, _, _ => absurd p.length_eq (by simp)
  | x :: a, y :: b, p, ha, hb => by
    rw [List.pairwise_cons] at ha hb
    have h1 : x ≤ y := by
      rcases List.mem_cons.mp (p.mem_iff.mpr (List.mem_cons_self ..)) with h | h
      · exact Int.le_of_eq h.symm
      · exact ha.1 y h
    have h2 : y ≤ x := by
      rcases List.mem_cons.mp (p.mem_iff.mp (List.mem_cons_self ..)) with h | h
      · exact Int.le_of_eq h.symm
      · exact hb.1 x h
    have e : x = y := Int.le_antisymm h1 h2
    subst e
    rw [sorted_one p.cons_inv ha.2 hb.2]
theorem least_fold : ∀ (r : List Int) (x : Int), (r.foldl (fun a b => if b < a then b else a) x) ∈ x :: r ∧ ∀ y ∈ x :: r, (r.foldl (fun a b => if b < a then b else a) x) ≤ y
  | [], x => ⟨List.mem_cons_self .., fun y hy => by rw [List.mem_singleton.mp hy]; exact Int.le_refl _⟩
  | z :: r, x => by
    rw [List.foldl_cons]
    obtain ⟨a, b⟩ := least_fold r (if z < x then z else x)
    refine ⟨?_, fun y hy => ?_⟩
    · rcases List.mem_cons.mp a with h | h
      · rw [h]
        split
        · exact List.mem_cons_of_mem _ (List.mem_cons_self ..)
        · exact List.mem_cons_self ..
      · exact List.mem_cons_of_mem _ (List.mem_cons_of_mem _ h)
    · have hm := b _ (List.mem_cons_self ..)
      have hb : (if z < x then z else x) ≤ z ∧ (if z < x then z else x) ≤ x := by
        split <;> omega
      rcases List.mem_cons.mp hy with rfl | hy
      · exact Int.le_trans hm hb.2
      · rcases List.mem_cons.mp hy with rfl | hy
        · exact Int.le_trans hm hb.1
        · exact b y (List.mem_cons_of_mem _ hy)
theorem least_ok {ns : List Int} {m : Int} (h : least ns = some m) : m ∈ ns ∧ ∀ y ∈ ns, m ≤ y := by
  cases ns with
  | nil => cases h
  | cons x r =>
    simp only [least, Option.some.injEq] at h
    subst h
    exact least_fold r x
theorem Wd.pushInts {ts : List D} {ws : List V} {Γ : List D} {σ : L2.St} (w : Wd c B H ts ws Γ σ) : ∀ ns : List Int, Wd c B H (ns.map .int ++ ts) (ns.map V.int ++ ws) Γ σ
  | [] => w
  | n :: ns => (Wd.pushInts w ns).int n
/-- what a built-in answers -/
theorem bi_do {bi : Bi} {ds : List D} {vs : List V} {r : D} {g : List D} {Q : VK} (hlk : c.lk = []) (e : biD bi ds = some r) (l : ds.length = vs.length) (w : Wd c B H (ds ++ ts) (vs ++ ws) g σ)
    (q : ∀ v H', (∀ a o, H a = some o → H' a = some o) → Wd c B H' (r :: ts) (v :: ws) g σ → Q v H') : rBi c.K bi vs H Q := by
  have same : ∀ {v : V}, Wd c B H (r :: ts) (v :: ws) g σ → Q v H := fun w => q _ H (fun _ _ e => e) w
  have one : ∀ {d : D}, ds = [d] → ∃ v, vs = [v] ∧ Wd c B H (d :: ts) (v :: ws) g σ := fun {d} e => by
    subst e
    obtain ⟨v, rfl⟩ : ∃ v, vs = [v] := List.length_eq_one_iff.mp l.symm
    exact ⟨v, rfl, w⟩
  have w0 : Wd c B H ts ws g σ := w.drops l
  cases ds with
  | nil => cases bi <;> simp [biD] at e
  | cons d ds =>
    cases ds with
    | cons d2 ds =>
      cases ds with
      | cons d3 ds => cases bi <;> cases d <;> cases d2 <;> simp [biD] at e
      | nil =>
        cases bi <;> cases d <;> cases d2 <;> simp only [biD, reduceCtorEq, Option.some.injEq] at e
        subst e
        obtain ⟨v1, v2, rfl⟩ : ∃ a b, vs = [a, b] := by
          match vs, l with
          | [a, b], _ => exact ⟨a, b, rfl⟩
        have w : Wd c B H (.int _ :: (.int _ :: ts)) (v1 :: (v2 :: ws)) g σ := w
        obtain rfl := w.int_inv
        obtain rfl := w.drop.int_inv
        exact ⟨_, _, rfl, same (w0.int _)⟩
    | nil =>
      obtain ⟨v, rfl, w1⟩ := one rfl
      cases bi with
      | len =>
        cases d with
        | scr ns =>
          simp only [biD, Option.some.injEq] at e
          subst e
          obtain ⟨a, rfl, ha⟩ := w1.scr_inv
          exact .inl ⟨_, ns.length, rfl, .inl ⟨_, ha, by simp⟩, same (w0.int _)⟩
        | tup es =>
          simp only [biD, Option.some.injEq] at e
          subst e
          obtain ⟨a, us, rfl, ha, l, _⟩ := w1.opnt
          exact .inl ⟨_, es.length, rfl, .inr ⟨_, SqT.of ha, l⟩, same (w0.int _)⟩
        | nd f t es =>
          cases t with
          | obj _ _ => simp [biD] at e
          | lst =>
            simp only [biD, Option.some.injEq] at e
            subst e
            obtain ⟨a, us, rfl, ha, l⟩ := w1.peek
            exact .inl ⟨_, es.length, rfl, .inl ⟨_, SqL.of ha, l⟩, same (w0.int _)⟩
          | dct ks =>
            simp only [biD, Option.some.injEq] at e
            subst e
            obtain ⟨a, us, rfl, ha, l⟩ := w1.peek
            obtain ⟨ha, l2⟩ := ha
            rw [if_neg (by simp [hlk])] at ha
            refine .inr ⟨a, _, rfl, ha, ?_⟩
            rw [List.length_zip, l2, Nat.min_self, ← l]
            exact same (w0.int _)
        | _ => simp [biD] at e
      | abs =>
        cases d with
        | int i =>
          simp only [biD, Option.some.injEq] at e
          subst e
          obtain rfl := w1.int_inv
          exact ⟨i, rfl, same (w0.int _)⟩
        | _ => simp [biD] at e
      | sorted =>
        cases d with
        | nd f t es =>
          cases t with
          | lst =>
            simp only [biD] at e
            cases ei : D.ints es with
            | none => rw [ei] at e; cases e
            | some ns =>
              rw [ei] at e
              simp only [Option.map_some, Option.some.injEq] at e
              subst e
              obtain ⟨a, us, rfl, ha, l⟩ := w1.peek
              have eu := w1.ints ha ei
              subst eu
              refine ⟨a, ns, rfl, SqL.of ha, fun ns' p hp hs hn => q (.ref p) _ (fun b o e => upd_ext hn b o e) ?_⟩
              have en : ns' = isort ns := sorted_one (hp.trans (isort_perm ns).symm) hs (isort_sorted ns)
              subst en
              exact (w0.pushInts _).alloc (by simp) hn upd_same
          | _ => simp [biD] at e
        | _ => simp [biD] at e
      | min =>
        cases d with
        | nd f t es =>
          cases t with
          | lst =>
            simp only [biD] at e
            cases ei : D.ints es with
            | none => rw [ei] at e; cases e
            | some ns =>
              rw [ei] at e
              simp only [Option.bind_some] at e
              cases em : least ns with
              | none => rw [em] at e; cases e
              | some m =>
                rw [em] at e
                simp only [Option.map_some, Option.some.injEq] at e
                subst e
                obtain ⟨a, us, rfl, ha, l⟩ := w1.peek
                have eu := w1.ints ha ei
                subst eu
                obtain ⟨m1, m2⟩ := least_ok em
                refine ⟨a, ns, rfl, SqL.of ha, List.length_pos_of_mem m1, fun m' h1 h2 => ?_⟩
                have : m' = m := Int.le_antisymm (h2 m m1) (m2 m' h1)
                subst this
                exact same (w0.int _)
          | _ => simp [biD] at e
        | _ => simp [biD] at e
      | max => cases d <;> simp [biD] at e
      | min2 => cases d <;> simp [biD] at e
      | list =>
        cases d with
        | tup es =>
          simp only [biD, Option.some.injEq] at e
          subst e
          obtain ⟨a, us, rfl, ha, l, w2⟩ := w1.opnt
          exact ⟨a, us, rfl, .inr (SqT.of ha), fun p hp => q (.ref p) _ (fun b o e => upd_ext hp b o e) (w2.alloc l hp upd_same)⟩
        | nd f t es =>
          cases t with
          | lst =>
            simp only [biD, Option.some.injEq] at e
            subst e
            obtain ⟨a, us, rfl, ha, l, w2⟩ := w1.opn
            exact ⟨a, us, rfl, .inl (SqL.of ha), fun p hp => q (.ref p) _ (fun b o e => upd_ext hp b o e) (w2.alloc l hp upd_same)⟩
          | _ => simp [biD] at e
        | _ => simp [biD] at e
      | sum =>
        cases d with
        | nd f t es =>
          cases t with
          | lst =>
            simp only [biD] at e
            cases ei : D.ints es with
            | none => rw [ei] at e; cases e
            | some ns =>
              rw [ei] at e
              simp only [Option.map_some, Option.some.injEq] at e
              subst e
              obtain ⟨a, us, rfl, ha, l⟩ := w1.peek
              have eu := w1.ints ha ei
              subst eu
              exact ⟨a, ns, rfl, SqL.of ha, same (w0.int _)⟩
          | _ => simp [biD] at e
        | _ => simp [biD] at e
      | any =>
        cases d with
        | nd f t es =>
          cases t with
          | lst =>
            simp only [biD] at e
            cases ei : D.bools es with
            | none => rw [ei] at e; cases e
            | some ns =>
              rw [ei] at e
              simp only [Option.map_some, Option.some.injEq] at e
              subst e
              obtain ⟨a, us, rfl, ha, l⟩ := w1.peek
              have eu := w1.bools ha ei
              subst eu
              exact ⟨a, ns, rfl, SqL.of ha, same (w0.bl _)⟩
          | _ => simp [biD] at e
        | _ => simp [biD] at e
      | all =>
        cases d with
        | nd f t es =>
          cases t with
          | lst =>
            simp only [biD] at e
            cases ei : D.bools es with
            | none => rw [ei] at e; cases e
            | some ns =>
              rw [ei] at e
              simp only [Option.map_some, Option.some.injEq] at e
              subst e
              obtain ⟨a, us, rfl, ha, l⟩ := w1.peek
              have eu := w1.bools ha ei
              subst eu
              exact ⟨a, ns, rfl, SqL.of ha, same (w0.bl _)⟩
          | _ => simp [biD] at e
        | _ => simp [biD] at e
      | str =>
        cases d with
        | nd f t es =>
          cases t with
          | lst =>
            simp only [biD] at e
            split at e
            · rename_i hs
              simp only [Option.some.injEq] at e
              subst e
              obtain ⟨h1, h2, h3, h4, h5⟩ := shn hs
              obtain ⟨a, us, rfl, ha, l⟩ := w1.peek
              obtain ⟨O, fp, hr⟩ := w1.rep (by simp)
              have hp : (D.nd f .lst es).pyb = true := h1
              exact ⟨a, _, rfl, hr.dp hp, h2, h3, h4, h5, same (w0.str _)⟩
            · cases e
          | _ => simp [biD] at e
        | _ => simp [biD] at e
theorem peBad {t : TE} (h : ∀ σ H Q, ¬ t σ H Q) : PE X x t := ⟨fun pins s σ H Q I h' => (h σ H Q h').elim⟩
theorem s_bi {bi : Bi} (hx : XOk X c C nm ix N sc W k) (hg : isGl sc (biN bi) x = true) (hst : noStars xs = true) (h0 : xs = [] → es = .nil) (ha : PA X xs (tA c C nf W es)) : PE X (.Call x xs [] pos) (tE c C nf W (.bi bi es)) := by
  obtain ⟨p, rfl, g, hd, hn⟩ := isGl_ok hx hg
  cases xs with
  | nil =>
    obtain rfl := h0 rfl
    refine peBad fun σ H Q h => ?_
    obtain ⟨B, ts, ws, Γ, w, hf, hi, hl, h⟩ := h
    rw [evE, evA] at h
    obtain ⟨r, er, _⟩ := PostR.of (o := biD bi []) (g := Γ) h
    cases bi <;> simp [biD] at er
  | cons e' es' =>
    have h1 := hst
    simp only [noStars, Bool.and_eq_true] at h1
    have hm := hx.blt _ (bi_in bi)
    have fin : ∀ σ H Q, tE c C nf W (.bi bi es) σ H Q → tCB (rBi X.K bi) (tA c C nf W es) σ H Q := fun σ H Q h => by
      obtain ⟨B, ts, ws, Γ, w, hf, hi, hl, h⟩ := h
      rw [evE] at h
      rw [E.imp] at h hi
      have hlk : c.lk = [] := hl.resolve_right (by simp [E.plain])
      refine ⟨B, ts, ws, Γ, w, hf, hi, hlk, PostR.on (es := []) (us := []) h.bind rfl ?_⟩
      intro ds g _ h1 vs H1 ext l w1
      obtain ⟨r, er, qq⟩ := PostR.of h1
      rw [hx.hK]
      exact bi_do hlk er l w1 fun v H' ext' w' => qq v H' (fun z a o e => ext' a o (ext z a o e)) w'
    have hb := bi_boot bi
    have hok := bi_ok hx.calm (units_of hx) hx.gd bi
    have B1 : ∀ {id : String}, biV bi = .builtin id → PE X (.Call (.Name (biN bi) p) (e' :: es') [] pos) (tE c C nf W (.bi bi es)) := fun {id} e => by
      rw [e] at hb hok
      exact peImp (pe_callB hok g hm hb ha hn hd (star_cons h1.1) (stars_back pos h1.2)) fin
    have B2 : ∀ {T : String}, biV bi = .type T → PE X (.Call (.Name (biN bi) p) (e' :: es') [] pos) (tE c C nf W (.bi bi es)) := fun {T} e => by
      rw [e] at hb hok
      exact peImp (pe_callTy hok g hm hb ha hn hd (star_cons h1.1) (stars_back pos h1.2)) fin
    cases bi <;> first | exact B1 rfl | exact B2 rfl
theorem s_lset {xs2 : List Expr} {h1 h2 : Expr} (hx : XOk X c C nm ix N sc W k) (hg1 : isGl sc "len" h1 = true) (hg2 : isGl sc "set" h2 = true) (hs : noStar x = true) (ha : PE X x (tE c C nf W a)) : PE X (.Call h1 [.Call h2 [x] [] p1] [] pos) (tE c C nf W (.lset a)) := by
  obtain ⟨p, rfl, g, _, _⟩ := isGl_ok hx hg1
  obtain ⟨p', rfl, g', _, _⟩ := isGl_ok hx hg2
  refine peImp (RZ.pe_lenSetI g (hx.blt _ (by decide)) g' (hx.blt _ (by decide)) ha hx.calm (star_cons hs)) fun σ H Q h => ?_
  obtain ⟨B, ts, ws, Γ, w, hf, hi, hl, h⟩ := h
  rw [evE] at h
  rw [E.imp] at h hi
  refine ⟨B, ts, ws, Γ, w, hf, hi, .inl (hl.resolve_right (by simp [E.plain])), PostR.on (es := []) (us := []) h.bind rfl ?_⟩
  intro d g _ h1 v H1 ext w1
  cases d with
  | nd f t ds =>
    cases t with
    | lst =>
      obtain ⟨r, er, q⟩ := PostR.of h1
      cases ei : D.ints ds with
      | none => rw [ei] at er; cases er
      | some ns =>
        rw [ei] at er
        simp only [Option.bind_some] at er
        split at er
        · rename_i hz
          simp only [Option.some.injEq] at er
          subst er
          obtain ⟨p, us, rfl, hp, l⟩ := w1.peek
          have eu := w1.ints hp ei
          subst eu
          rw [hx.hK]
          exact ⟨p, ns, rfl, SqL.of hp, hz.1, hz.2.2, q _ H1 ext (w1.drop.int _)⟩
        · cases er
    | _ => exact h1.elim
  | _ => exact h1.elim
end
end Bx

namespace Bx
open PySem PySem.Spec PyProof.Rows L2

section
variable {X : Cx} {c : Wc} {C : Cxt} {nm : Nms} {ix : Ix} {N : List Str} {sc : Scope} {W : WX} {k nf : Nat} {x y z : Expr} {a b d e es p : E} {xs : List Expr} {pos p1 p2 apos : Pos} {σ : L2.St} {H : Hp} {B : Bs} {ts : List D} {ws : List V} {Γ : List D}

/-! ### isinstance -/
theorem kb_all : ∀ m ∈ tyNs, ∀ n ∈ (["int", "bool", "str", "list", "tuple"] : List String), kitB m n = some (isTab m n) := by decide +kernel
theorem tyS_in {t : Ty} {n : String} (h : tyS t = some n) : n ∈ (["int", "bool", "str", "list", "tuple"] : List String) := by
  cases t <;> simp [tyS] at h <;> subst h <;> decide
theorem tyN_in {d : D} {n : String} (h : d.tyN = some n) : n ∈ tyNs := by
  cases d with
  | nd f t ds => cases t <;> simp [D.tyN] at h <;> subst h <;> decide
  | any => simp [D.tyN] at h
  | _ => simp [D.tyN] at h; subst h; decide
theorem tyx_of {d : D} {v : V} {n : String} (w : Wd c B H (d :: ts) (v :: ws) Γ σ) (h : d.tyN = some n) : TyX c.K H v (.type n) := by
  cases d with
  | non => simp [D.tyN] at h; subst h; rw [w.non_inv]; exact .base .non
  | any => simp [D.tyN] at h
  | bl b => simp [D.tyN] at h; subst h; rw [w.bl_inv]; exact .base (.bl b)
  | int b => simp [D.tyN] at h; subst h; rw [w.int_inv]; exact .base (.int b)
  | str b => simp [D.tyN] at h; subst h; rw [w.str_inv]; exact .base (.str b)
  | scr ns =>
    simp [D.tyN] at h
    subst h
    obtain ⟨O, f, hr⟩ := w.rep (by simp)
    rw [Rep] at hr
    obtain ⟨⟨p, rfl, hs⟩, _⟩ := hr
    rcases hs with ⟨o, hs⟩ | hs
    · exact .base (.frz hs)
    · rcases hs (fun _ => none) with (z | ⟨o, z⟩) | ⟨o, its, n, e, hc, _⟩
      · cases z
      · cases z
      · exact .kList e hc
  | tup ds =>
    simp [D.tyN] at h
    subst h
    obtain ⟨p, us, rfl, hp, _⟩ := w.opnt
    exact .base (.tup hp)
  | nd f t ds =>
    obtain ⟨p, us, rfl, hp, l⟩ := w.peek
    cases t with
    | lst => simp [D.tyN] at h; subst h; exact .base (.lst hp)
    | dct ks =>
      simp [D.tyN] at h
      subst h
      obtain ⟨hp, _⟩ := hp
      split at hp
      · obtain ⟨o, hp⟩ := hp
        exact .fDict hp
      · exact .base (.dK hp)
    | obj _ _ => simp [D.tyN] at h
def tyV1 (c : Wc) : Ty → V
  | .cls k => .ref (c.cl k)
  | t => .ty ((tyS t).getD "")
def tyV2 (c : Wc) : Ty → Value
  | .cls k => .ref (c.cl k)
  | t => .type ((tyS t).getD "")
theorem tyV_cls (t : Ty) : ClsV (tyV1 c t) (tyV2 c t) := by
  cases t <;> first | exact .own _ | exact .ty _
/-- the class that is asked for -/
theorem ty_pe {t : Ty} (hx : XOk X c C nm ix N sc W k) (h : tyM sc nm t y = true) (ht : t ≠ .lt) (hi : t ≠ .is) : PE X y (tC (tyV1 c t)) := by
  have blt : ∀ {n : Str} {T : String}, n ∈ blts → bootBuiltins n = some (.type T) → isGl sc n y = true → PE X y (tC (.ty T)) := fun {n T} hn hb hg => by
    obtain ⟨p, rfl, g, hd, hne⟩ := isGl_ok hx hg
    exact pe_bltn g (hx.blt _ hn) hb rfl hne hd
  cases t with
  | int => exact blt (n := "int") (by decide) (by decide +kernel) h
  | bool => exact blt (n := "bool") (by decide) (by decide +kernel) h
  | str => exact blt (n := "str") (by decide) (by decide +kernel) h
  | lst => exact blt (n := "list") (by decide) (by decide +kernel) h
  | tup => exact blt (n := "tuple") (by decide) (by decide +kernel) h
  | cls j =>
    simp only [tyM, Bool.and_eq_true] at h
    obtain ⟨p, rfl, g, hd, hne⟩ := isGl_ok hx h.2
    exact pe_glob g (hx.cgl j h.1.1) rfl hd
  | lt => exact absurd rfl ht
  | is => exact absurd rfl hi
theorem isi_ok {t : Ty} {d : D} {v : V} {r : Bool} {Q : VK} (hx : XOk X c C nm ix N sc W k) (hm : ∀ j, t = .cls j → nm.isk j = true) (w : Wd c B H (d :: ts) (v :: ws) Γ σ) (h : isD C t d = some r) (ht : t ≠ .lt) (hi : t ≠ .is) (q : Q (.bl r) H) :
    rIsi X.K [v, tyV1 c t] H Q := by
  have own : ∀ {f : Fl} {j : Nat} {ns : List Str} {ds : List D}, d = .nd f (.obj j ns) ds → C.isc j = true → TyX X.K H v (.ref (c.cl j)) := fun {f j ns ds} e hj => by
    subst e
    obtain ⟨p, us, rfl, hp, l⟩ := w.peek
    obtain ⟨dx, hp, _⟩ := hp
    obtain ⟨h1, ⟨h2, h3, h4, h5⟩, _⟩ := hx.kc j hj
    exact .base (.ins hp h1 h2 h3 h4 h5)
  unfold isD at h
  cases e1 : tyS t with
  | some n =>
    have ev : tyV2 c t = .type n := by cases t <;> simp [tyS] at e1 <;> subst e1 <;> rfl
    cases e2 : d.tyN with
    | some m =>
      rw [e1, e2] at h
      simp only [Option.some.injEq] at h
      subst h
      have hT := tyx_of w e2
      rw [← hx.hK] at hT
      exact ⟨v, _, _, _, _, rfl, tyV_cls t, hT, by rw [ev]; exact kit_ty (kb_all m (tyN_in e2) n (tyS_in e1)), q⟩
    | none =>
      rw [e1, e2] at h
      cases d with
      | nd f tg ds =>
        cases tg with
        | obj j ns =>
          simp only at h
          split at h
          · rename_i hj
            simp only [Option.some.injEq] at h
            subst h
            have hn : n ∈ tyNs := (by decide : ∀ n ∈ (["int", "bool", "str", "list", "tuple"] : List String), n ∈ tyNs) n (tyS_in e1)
            exact ⟨v, _, _, _, _, rfl, tyV_cls t, own rfl hj, by rw [ev]; exact (hx.kc j hj).2.2.1 n hn, q⟩
          · cases h
        | _ => simp at h
      | _ => simp at h
  | none =>
    cases t with
    | cls i =>
      have hci := hm i rfl
      cases e2 : d.tyN with
      | some m =>
        rw [e1, e2] at h
        simp only [Option.some.injEq] at h
        subst h
        have hT := tyx_of w e2
        rw [← hx.hK] at hT
        exact ⟨v, _, _, _, _, rfl, tyV_cls _, hT, hx.kt m (tyN_in e2) i hci, q⟩
      | none =>
        rw [e1, e2] at h
        cases d with
        | nd f tg ds =>
          cases tg with
          | obj j ns =>
            simp only at h
            split at h
            · rename_i hj
              simp only [Option.some.injEq] at h
              subst h
              exact ⟨v, _, _, _, _, rfl, tyV_cls _, own rfl hj, (hx.kc j hj).2.2.2 i hci, q⟩
            · cases h
          | _ => simp at h
        | _ => simp at h
    | lt => exact absurd rfl ht
    | is => exact absurd rfl hi
    | _ => simp [tyS] at e1
theorem s_isi {t : Ty} {h1 : Expr} (hx : XOk X c C nm ix N sc W k) (hg : isGl sc "isinstance" h1 = true) (hs : noStar x = true) (ht : tyM sc nm t y = true) (ha : PE X x (tE c C nf W a)) : PE X (.Call h1 [x, y] [] pos) (tE c C nf W (.isi a t)) := by
  obtain ⟨p, rfl, g, hd, hne⟩ := isGl_ok hx hg
  by_cases hl : t = .lt ∨ t = .is
  · rcases hl with rfl | rfl <;> simp [tyM] at ht
  · have hl1 : t ≠ .lt := fun z => hl (.inl z)
    have hl2 : t ≠ .is := fun z => hl (.inr z)
    have hsy : noStar y = true := by
      cases y <;> first | rfl | (cases t <;> simp [tyM, isGl] at ht)
    refine peImp (pe_callB call_isi g (hx.blt _ (by decide)) boot_isinstance (pa_cons ha (pa_cons (ty_pe hx ht hl1 hl2) pa_nil (star_cons hsy)) (star_cons hs)) hne hd (star_cons hs) (stars_back pos (by simp [noStars, hsy]))) fun σ H Q h => ?_
    obtain ⟨B, ts, ws, Γ, w, hf, hi, hlk, h⟩ := h
    rw [evE] at h
    rw [E.imp] at h hi
    refine ⟨B, ts, ws, Γ, w, hf, hi, .inl (hlk.resolve_right (by simp [E.plain])), PostR.on (es := []) (us := []) h.bind rfl ?_⟩
    intro d g _ h1 v H1 ext w1
    obtain ⟨r, er, q⟩ := PostR.of h1
    cases e : isD C t d with
    | none => rw [e] at er; cases er
    | some s =>
      rw [e] at er
      simp only [Option.map_some, Option.some.injEq] at er
      subst er
      refine isi_ok hx (fun j e => ?_) w1 e hl1 hl2 (q _ H1 ext (w1.drop.bl s))
      subst e
      simp only [tyM, Bool.and_eq_true] at ht
      exact ht.1.2
end
end Bx

namespace Bx
open PySem PySem.Spec PyProof.Rows L2

section
variable {X : Cx} {c : Wc} {C : Cxt} {nm : Nms} {ix : Ix} {N : List Str} {sc : Scope} {W : WX} {k nf : Nat} {x y z : Expr} {a b d e es p : E} {xs : List Expr} {pos p1 p2 apos : Pos} {σ : L2.St} {H : Hp} {B : Bs} {ts : List D} {ws : List V} {Γ : List D}

/-! ### dict(..) -/
theorem RepS.keys {O : Ow} : ∀ {ds : List D} {vs : List V} {ks : List Key} {f : List Addr}, RepS c O H ds (vs.map some) f → keysD ds = some ks → vs = ks.map kV
  | [], vs, us, f, h, e => by
    rw [RepS] at h
    simp [keysD] at e
    subst e
    simpa using h.1
  | d :: ds, vs, us, f, h, e => by
    rw [RepS] at h
    obtain ⟨o, r, f1, f2, eo, _, h1, h2⟩ := h
    cases vs with
    | nil => simp at eo
    | cons v vs =>
      simp only [List.map_cons] at eo
      obtain ⟨rfl, rfl⟩ := List.cons.inj eo
      simp only [keysD] at e
      cases e1 : keyD d with
      | none => rw [e1] at e; simp at e
      | some k =>
        cases e2 : keysD ds with
        | none => rw [e1, e2] at e; simp at e
        | some ks =>
          rw [e1, e2] at e
          simp at e
          subst e
          rw [RepS.keys h2 e2, List.map_cons]
          congr 1
          rcases h1 with ⟨rfl, _⟩ | ⟨v', e', h1⟩
          · simp [keyD] at e1
          · cases e'
            cases d with
            | int i => rw [Rep] at h1; simp [keyD] at e1; subst e1; exact h1.1
            | str i => rw [Rep] at h1; simp [keyD] at e1; subst e1; exact h1.1
            | _ => simp [keyD] at e1
theorem put_new {kvs : List (Key × V)} {k : Key} {v : V} (h : k ∉ kvs.map (·.1)) : putK kvs k v = kvs ++ [(k, v)] := by
  unfold putK
  rw [if_neg]
  rw [List.any_eq_true]
  rintro ⟨p, hp, e⟩
  exact h (List.mem_map.mpr ⟨p, hp, by simpa using e⟩)
theorem merge_new : ∀ {kvs acc : List (Key × V)}, ((acc ++ kvs).map (·.1)).Nodup → mergeK acc kvs = acc ++ kvs
  | [], acc, _ => by simp [mergeK]
  | p :: r, acc, h => by
    have h1 : p.1 ∉ acc.map (·.1) := by
      rw [List.map_append, List.map_cons, List.nodup_append] at h
      exact fun z => h.2.2 p.1 z p.1 (by simp) rfl
    have e : mergeK acc (p :: r) = mergeK (putK acc p.1 p.2) r := rfl
    rw [e, put_new h1, merge_new (by simpa using h)]
    simp
theorem zip_fst {α β γ : Type} : ∀ {ks : List α} {xs : List β} {ys : List γ}, xs.length = ys.length → (ks.zip xs).map (·.1) = (ks.zip ys).map (·.1)
  | [], _, _, _ => rfl
  | _ :: _, [], [], _ => rfl
  | k :: ks, x :: xs, y :: ys, h => by
    rw [List.zip_cons_cons, List.zip_cons_cons, List.map_cons, List.map_cons, zip_fst (by simpa using h)]
theorem zip_snd {α β : Type} : ∀ {ks : List α} {xs : List β}, (ks.zip xs).map (·.2) = xs.take ks.length
  | [], xs => by simp
  | _ :: _, [] => by simp
  | k :: ks, x :: xs => by
    rw [List.zip_cons_cons, List.map_cons, zip_snd]
    simp
theorem zip_un {α β : Type} : ∀ (ps : List (α × β)), (ps.map (·.1)).zip (ps.map (·.2)) = ps
  | [] => rfl
  | p :: ps => by rw [List.map_cons, List.map_cons, List.zip_cons_cons, zip_un ps]
/-- a new dict from its keys and the values on the top -/
theorem Wd.dict {kds : List (Key × D)} {kvs : List (Key × V)} {r : D} {q : Addr} (hlk : c.lk = []) (w : Wd c B H (kds.map (·.2) ++ ts) (kvs.map (·.2) ++ ws) Γ σ) (ek : kds.map (·.1) = kvs.map (·.1)) (e : dictD kds = some r) (hq : H q = none) :
    Wd c B (upd H q (.dK (mergeK [] kvs))) (r :: ts) (.ref q :: ws) Γ σ := by
  unfold dictD at e
  split at e
  · rename_i nd
    simp only [Option.some.injEq] at e
    subst e
    rw [ek] at nd
    rw [merge_new (by simpa using nd), List.nil_append]
    have l : (kds.map (·.1)).length = (kvs.map (·.1)).length := by rw [ek]
    simp only [List.length_map] at l
    refine w.alloc (by simpa using l) hq ⟨?_, by simp [l]⟩
    rw [if_neg (by simp [hlk]), ek, zip_un]
    exact upd_same
  · cases e
theorem s_dzip {h1 h2 : Expr} (hx : XOk X c C nm ix N sc W k) (hg1 : isGl sc "dict" h1 = true) (hg2 : isGl sc "zip" h2 = true) (hs1 : noStar x = true) (hs2 : noStar y = true) (ha : PE X x (tE c C nf W a)) (hb : PE X y (tE c C nf W b)) :
    PE X (.Call h1 [.Call h2 [x, y] [] p1] [] pos) (tE c C nf W (.dzip a b)) := by
  obtain ⟨p, rfl, g, _, _⟩ := isGl_ok hx hg1
  obtain ⟨p', rfl, g', _, _⟩ := isGl_ok hx hg2
  refine peImp (pe_dzip hx.calm g (hx.blt _ (by decide)) g' (hx.blt _ (by decide)) ha hb (by simp [noStars, hs1, hs2])) fun σ H Q h => ?_
  obtain ⟨B, ts, ws, Γ, w, hf, hi, hl, h⟩ := h
  rw [evE] at h
  rw [E.imp] at h hi
  have hlk : c.lk = [] := hl.resolve_right (by simp [E.plain])
  obtain ⟨hib, h⟩ := h.ens
  have hib : b.imp = false := by simpa using hib
  refine ⟨B, ts, ws, Γ, w, hf, fun z => hi (by rw [z]; rfl), .inl hlk, PostR.on (es := []) (us := []) h.bind rfl ?_⟩
  intro d1 g1 _ q1 v1 H1 ext1 w1
  refine ⟨B, d1 :: ts, v1 :: ws, g1, w1, hf, fun z => (by rw [hib] at z; cases z), .inl hlk, PostR.on (es := [d1]) (us := [v1]) q1.bind rfl ?_⟩
  intro d2 g2 _ q2 v2 H2 ext2 w2
  rw [hx.hK]
  cases d1 with
  | nd f1 t1 ds =>
    cases t1 with
    | lst =>
      cases d2 with
      | nd f2 t2 es =>
        cases t2 with
        | lst =>
          obtain ⟨r, er, qq⟩ := PostR.of q2
          cases ek : keysD ds with
          | none => rw [ek] at er; cases er
          | some ks =>
            rw [ek] at er
            simp only [Option.bind_some] at er
            obtain ⟨a1, us1, rfl, hp1, l1⟩ := w2.drop.peek
            obtain ⟨O, fp, hr⟩ := w2.drop.rep (by simp)
            rw [Rep] at hr
            obtain ⟨a', us', fq, e', hp', hr, _⟩ := hr
            cases e'
            have eu := AtR.det hp1 hp'
            subst eu
            have eu := hr.keys ek
            subst eu
            obtain ⟨a2, us2, rfl, hp2, l2, w3⟩ := w2.uncs.opn
            refine ⟨a1, a2, ks, us2, rfl, rfl, SqL.of hp1, SqL.of hp2, fun p hp => qq (.ref p) _ (fun z a o e => upd_ext hp a o (ext2 hib a o (ext1 (imp2 z) a o e))) ?_⟩
            have w4 : Wd c B H2 (D.uns es ++ ts) (us2 ++ ws) g2 σ := by
              have w3' : Wd c B H2 ((D.uns es ++ [.nd f1 .lst ds]) ++ ts) ((us2 ++ [.ref a1]) ++ ws) g2 σ := by simpa using w3
              exact w3'.shuf (by simp [l2]) (Shuf.left l2)
            have w5 := w4.shuf l2 (Shuf.take l2 ks.length)
            refine Wd.dict hlk ?_ (zip_fst l2) er hp
            rw [zip_snd, zip_snd]
            exact w5
        | _ => exact q2.elim
      | _ => exact q2.elim
    | _ => exact q2.elim
  | _ => exact q2.elim
theorem RepS.pairs {O : Ow} : ∀ {ds : List D} {vs : List V} {kds : List (Key × D)} {f : List Addr}, RepS c O H (D.uns ds) (vs.map some) f → pairsD (D.uns ds) = some kds →
    ∃ (ps : List Addr) (kvs : List (Key × V)), vs = ps.map V.ref ∧ Paired (fun p kv => SqT c.K H p [kV kv.1, kv.2]) ps kvs ∧ kds.map (·.1) = kvs.map (·.1) ∧ RepS c O H (kds.map (·.2)) ((kvs.map (·.2)).map some) []
  | [], vs, us, f, h, e => by
    rw [D.uns, RepS] at h
    simp [D.uns, pairsD] at e
    subst e
    exact ⟨[], [], by simpa using h.1, .nil, rfl, by rw [List.map_nil, List.map_nil, List.map_nil, RepS]; exact ⟨rfl, rfl⟩⟩
  | d :: ds, vs, us, f, h, e => by
    have hu := RepS.unn h
    rw [D.uns, RepS] at h
    obtain ⟨o, r, f1, f2, eo, ef, h1, h2⟩ := h
    subst hu
    have ef1 : f1 = [] ∧ f2 = [] := by simpa using ef.symm
    obtain ⟨rfl, rfl⟩ := ef1
    cases vs with
    | nil => simp at eo
    | cons v vs =>
      simp only [List.map_cons] at eo
      obtain ⟨rfl, rfl⟩ := List.cons.inj eo
      rw [D.uns] at e
      cases d with
      | tup es =>
        rw [D.un] at e h1
        rcases h1 with ⟨z, _⟩ | ⟨v', e', h1⟩
        · cases z
        cases e'
        rw [Rep] at h1
        obtain ⟨p, us, rfl, hp, hr⟩ := h1
        cases es with
        | nil => simp [D.uns, pairsD] at e
        | cons k0 es =>
          cases es with
          | nil => simp [D.uns, pairsD] at e
          | cons d0 es =>
            cases es with
            | cons _ _ => simp [D.uns, pairsD] at e
            | nil =>
              simp only [D.uns, pairsD] at e hr
              cases e1 : keyD k0.un with
              | none => rw [e1] at e; simp at e
              | some kk =>
                cases e2 : pairsD (D.uns ds) with
                | none => rw [e1, e2] at e; simp at e
                | some kds =>
                  rw [e1, e2] at e
                  simp at e
                  subst e
                  obtain ⟨ps, kvs, rfl, hpp, hk, hv⟩ := RepS.pairs h2 e2
                  have hlen := hr.len
                  simp at hlen
                  obtain ⟨uk, ud, rfl⟩ : ∃ a b, us = [a, b] := by
                    match us, hlen with
                    | [a, b], _ => exact ⟨a, b, rfl⟩
                  have ekk : uk = kV kk := by
                    rw [List.map_cons, RepS] at hr
                    obtain ⟨o, r, g1, g2, e3, _, h3, _⟩ := hr
                    obtain ⟨rfl, rfl⟩ := List.cons.inj e3
                    rcases h3 with ⟨z, _⟩ | ⟨v', e', h3⟩
                    · rw [z] at e1; simp [keyD] at e1
                    · cases e'
                      cases ez : k0.un with
                      | int i => rw [ez] at h3 e1; rw [Rep] at h3; simp [keyD] at e1; subst e1; exact h3.1
                      | str i => rw [ez] at h3 e1; rw [Rep] at h3; simp [keyD] at e1; subst e1; exact h3.1
                      | _ => rw [ez] at e1; simp [keyD] at e1
                  subst ekk
                  refine ⟨p :: ps, (kk, ud) :: kvs, rfl, .cons (SqT.of hp) hpp, by rw [List.map_cons, List.map_cons, hk], ?_⟩
                  rw [List.map_cons, RepS] at hr
                  obtain ⟨o, r, g1, g2, e3, eg, _, h4⟩ := hr
                  obtain ⟨rfl, rfl⟩ := List.cons.inj e3
                  have eg' : g1 = [] ∧ g2 = [] := by simpa using eg.symm
                  obtain ⟨rfl, rfl⟩ := eg'
                  rw [List.map_cons, List.map_nil, RepS] at h4
                  obtain ⟨o, r, g1, g2, e3, eg, h5, h6⟩ := h4
                  obtain ⟨rfl, rfl⟩ := List.cons.inj e3
                  have eg' : g1 = [] ∧ g2 = [] := by simpa using eg.symm
                  obtain ⟨rfl, rfl⟩ := eg'
                  rw [List.map_cons, List.map_cons, List.map_cons, RepS]
                  exact ⟨_, _, [], [], rfl, rfl, h5, hv⟩
      | nd f t ds => simp [D.un, pairsD] at e
      | _ => simp [D.un, pairsD] at e
theorem s_dprs {h1 : Expr} (hx : XOk X c C nm ix N sc W k) (hg1 : isGl sc "dict" h1 = true) (hs1 : noStar x = true) (ha : PE X x (tE c C nf W a)) : PE X (.Call h1 [x] [] pos) (tE c C nf W (.dprs a)) := by
  obtain ⟨p, rfl, g, hd, hne⟩ := isGl_ok hx hg1
  refine peImp (pe_callTy (call_dictP hx.calm) g (hx.blt _ (by decide)) PyProof.Rows.boot_dict (pa_cons ha pa_nil (star_cons hs1)) hne hd (star_cons hs1) (stars_back pos (by rfl))) fun σ H Q h => ?_
  obtain ⟨B, ts, ws, Γ, w, hf, hi, hl, h⟩ := h
  rw [evE] at h
  rw [E.imp] at h hi
  have hlk : c.lk = [] := hl.resolve_right (by simp [E.plain])
  refine ⟨B, ts, ws, Γ, w, hf, hi, .inl hlk, PostR.on (es := []) (us := []) h.bind rfl ?_⟩
  intro d1 g1 _ q1 v1 H1 ext1 w1
  rw [hx.hK]
  cases d1 with
  | nd f1 t1 ds =>
    cases t1 with
    | lst =>
      obtain ⟨r, er, qq⟩ := PostR.of q1
      cases ek : pairsD (D.uns ds) with
      | none => rw [ek] at er; cases er
      | some kds =>
        rw [ek] at er
        simp only [Option.bind_some] at er
        obtain ⟨a1, us1, rfl, hp1, l1, w2⟩ := w1.uncs.opn
        obtain ⟨ft, fs, w2⟩ := w2
        have rt := w2.rt
        rw [List.map_append] at rt
        obtain ⟨o1, o2, f1, f2, eo, rfl, l3, r1, r2⟩ := rt.split
        obtain ⟨rfl, rfl⟩ := List.append_inj eo (by simp [l3, l1])
        have hu := RepS.unn r1
        subst hu
        obtain ⟨ps, kvs, rfl, hpp, hk, hv⟩ := r1.pairs ek
        have w3 : Wd c B H1 (kds.map (·.2) ++ ts) (kvs.map (·.2) ++ ws) g1 σ :=
          w2.less (gt := [] ++ f2) (gs := fs) w2.nd (fun _ z => z) (fun a z => .inl z) (by rw [List.map_append]; exact hv.app r2) w2.rs w2.nb w2.fx
        exact ⟨a1, ps, kvs, rfl, SqL.of hp1, hpp, fun p hp => qq (.ref p) _ (fun z a o e => upd_ext hp a o (ext1 z a o e)) (Wd.dict hlk w3 hk er hp)⟩
    | _ => exact q1.elim
  | _ => exact q1.elim
end
end Bx

namespace Bx
open PySem PySem.Spec PyProof.Rows L2

section
variable {X : Cx} {c : Wc} {C : Cxt} {nm : Nms} {ix : Ix} {N : List Str} {sc : Scope} {W : WX} {k nf : Nat} {x y z : Expr} {a b d e es p : E} {xs : List Expr} {pos p1 p2 apos : Pos} {σ : L2.St} {H : Hp} {B : Bs} {ts : List D} {ws : List V} {Γ : List D}

/-! ### targets -/
def SameBut (is : List Nat) (σ σ' : L2.St) : Prop := σ'.length = σ.length ∧ ∀ j, j ∉ is → σ'[j]? = σ[j]?
def tG (c : Wc) (nf : Nat) (t : Tg) : TG := fun v σ H Q => ∃ B ts ws Γ d g, Wd c B H (d :: ts) (v :: ws) Γ σ ∧ B.fx.length ≤ nf ∧ asgT nf t d Γ = some g ∧ ∀ σ', SameBut t.ixs σ σ' → Wd c B H ts ws g σ' → Q σ' H
def tGs (c : Wc) (nf : Nat) (t : Tg) : TGs := fun vs σ H Q => ∃ B ts ws Γ ds g, Wd c B H (ds ++ ts) (vs ++ ws) Γ σ ∧ ds.length = vs.length ∧ B.fx.length ≤ nf ∧ asgT.asgTs nf t ds Γ = some g ∧ ∀ σ', SameBut t.ixs σ σ' → Wd c B H ts ws g σ' → Q σ' H
def LocOk (X : Cx) (L : Str → Bool) : Prop := ∀ x, L x = true → Loc X.env.scope x ∧ (X.fn x = true ∨ X.env.scope.names.lookup x = some .local)
theorem asg_cons {e : Expr} {es : List Expr} {env : Env} (h : noStar e = true) : assignEach (e :: es) env = (false, assign e env) :: assignEach es env := by
  cases e <;> first | rfl | (simp [noStar] at h)
theorem trTs_star {L : Str → Bool} : ∀ {t : Tg} {es : List Expr}, trT.trTs N L t es = true → noStars es = true
  | .nil, [], _ => rfl
  | .cons a b, e :: es, h => by
    simp only [trT.trTs, Bool.and_eq_true] at h
    rw [noStars, h.1.1, trTs_star h.2]
    rfl
  | .nm _, [], h => rfl
  | .nm _, _ :: _, h => by simp [trT.trTs] at h
  | .tp _, [], h => rfl
  | .tp _, _ :: _, h => by simp [trT.trTs] at h
  | .nil, _ :: _, h => by simp [trT.trTs] at h
  | .cons _ _, [], h => rfl
theorem asg_len {env : Env} : ∀ {es : List Expr}, noStars es = true → (assignEach es env).length = es.length ∧ (assignEach es env).findIdx? (·.1) = none
  | [], _ => ⟨rfl, rfl⟩
  | e :: es, h => by
    simp only [noStars, Bool.and_eq_true] at h
    rw [asg_cons h.1]
    obtain ⟨h1, h2⟩ := asg_len (env := env) h.2
    refine ⟨by rw [List.length_cons, List.length_cons, h1], ?_⟩
    rw [List.findIdx?_cons]
    simp [h2]
theorem asgTs_len {nf : Nat} {L : Str → Bool} : ∀ {t : Tg} {es : List Expr} {ds g g' : List D}, trT.trTs N L t es = true → asgT.asgTs nf t ds g = some g' → ds.length = es.length
  | .nil, [], ds, g, g', _, h => by cases ds <;> simp [asgT.asgTs] at h ⊢
  | .cons a b, e :: es, ds, g, g', h1, h => by
    simp only [trT.trTs, Bool.and_eq_true] at h1
    cases ds with
    | nil => simp [asgT.asgTs] at h
    | cons d ds =>
      simp only [asgT.asgTs] at h
      cases e1 : asgT nf a d g with
      | none => rw [e1] at h; cases h
      | some g1 =>
        rw [e1] at h
        rw [List.length_cons, List.length_cons, asgTs_len h1.2 h]
  | .nm _, _, ds, g, g', h1, h => by simp [asgT.asgTs] at h
  | .tp _, _, ds, g, g', h1, h => by simp [asgT.asgTs] at h
  | .nil, _ :: _, _, _, _, h, _ => by simp [trT.trTs] at h
  | .cons _ _, [], _, _, _, h, _ => by simp [trT.trTs] at h
theorem pg_both {L : Str → Bool} (hc : X.calm = true) (hnd : X.N.Nodup) (hN : X.N = N) (hL : LocOk X L) : ∀ t : Tg, (∀ e, trT N L t e = true → PG X e (tG c nf t)) ∧ (∀ es, trT.trTs N L t es = true → PGs X es (tGs c nf t)) := by
  intro t
  induction t with
  | nm i =>
    refine ⟨fun e h => ?_, fun es h => ?_⟩
    · cases e with
      | Name x p =>
        simp only [trT, Bool.and_eq_true, decide_eq_true_eq] at h
        obtain ⟨hl, hf⟩ := hL x h.2
        refine ⟨fun pins s σ H v u Q I r hq => (pg_name (pos := p) (i := i) hnd (by rw [hN]; exact h.1) hl hf).run pins s σ H v u Q I r ?_⟩
        obtain ⟨B, ts, ws, Γ, d, g, w, hfx, ha, q⟩ := hq
        simp only [asgT] at ha
        split at ha
        · rename_i hb
          simp only [Bool.and_eq_true, decide_eq_true_eq] at hb
          simp only [Option.some.injEq] at ha
          subst ha
          refine q _ ⟨List.length_set, fun j hj => ?_⟩ (w.asg hb.1.1 hb.1.2 (Nat.le_trans hfx hb.2))
          rw [List.getElem?_set_ne]
          intro z
          exact hj (by simp [Tg.ixs, z])
        · cases ha
      | _ => simp [trT] at h
    · cases es with
      | nil =>
        refine ⟨fun pins s σ H vs us Q I r hq => ?_⟩
        obtain ⟨B, ts, ws, Γ, ds, g, w, hl, hfx, ha, q⟩ := hq
        simp [asgT.asgTs] at ha
      | cons _ _ => simp [trT.trTs] at h
  | tp l ih =>
    refine ⟨fun e h => ?_, fun es h => ?_⟩
    · cases e with
      | Tuple es kk p =>
        have h' : trT.trTs N L l es = true := h
        obtain ⟨h1, h2⟩ := asg_len (env := X.env) (trTs_star h')
        refine ⟨fun pins s σ H v u Q I r hq => (pg_tup (pos := p) (k := kk) hc (ih.2 es h') h1 h2).run pins s σ H v u Q I r ?_⟩
        obtain ⟨B, ts, ws, Γ, d, g, w, hfx, ha, q⟩ := hq
        cases d with
        | tup ds =>
          have ha : asgT.asgTs nf l ds Γ = some g := ha
          obtain ⟨a, us, rfl, hp, len, w2⟩ := w.opnt
          exact ⟨a, us, rfl, SqT.of hp, by rw [← len]; exact asgTs_len h' ha, B, ts, ws, Γ, ds, g, w2, len, hfx, ha, q⟩
        | _ => simp [asgT] at ha
      | _ => simp [trT] at h
    · cases es with
      | nil =>
        refine ⟨fun pins s σ H vs us Q I r hq => ?_⟩
        obtain ⟨B, ts, ws, Γ, ds, g, w, hl, hfx, ha, q⟩ := hq
        simp [asgT.asgTs] at ha
      | cons _ _ => simp [trT.trTs] at h
  | nil =>
    refine ⟨fun e h => by simp [trT] at h, fun es h => ?_⟩
    cases es with
    | nil =>
      refine ⟨fun pins s σ H vs us Q I r hq => pgs_nil.run pins s σ H vs us Q I r ?_⟩
      obtain ⟨B, ts, ws, Γ, ds, g, w, hl, hfx, ha, q⟩ := hq
      cases ds with
      | nil =>
        simp [asgT.asgTs] at ha
        subst ha
        have ev : vs = [] := List.length_eq_zero_iff.mp hl.symm
        subst ev
        exact ⟨rfl, q σ ⟨rfl, fun _ _ => rfl⟩ w⟩
      | cons _ _ => simp [asgT.asgTs] at ha
    | cons _ _ => simp [trT.trTs] at h
  | cons a b iha ihb =>
    refine ⟨fun e h => by simp [trT] at h, fun es h => ?_⟩
    cases es with
    | nil => simp [trT.trTs] at h
    | cons e es =>
      simp only [trT.trTs, Bool.and_eq_true] at h
      refine ⟨fun pins s σ H vs us Q I r hq => (pgs_cons (iha.1 e h.1.2) (ihb.2 es h.2) (by rw [asg_cons h.1.1]; rfl)).run pins s σ H vs us Q I r ?_⟩
      obtain ⟨B, ts, ws, Γ, ds, g, w, hl, hfx, ha, q⟩ := hq
      cases ds with
      | nil => simp [asgT.asgTs] at ha
      | cons d ds =>
        cases vs with
        | nil => simp at hl
        | cons v vs =>
          simp only [asgT.asgTs] at ha
          cases e1 : asgT nf a d Γ with
          | none => rw [e1] at ha; cases ha
          | some g1 =>
            rw [e1] at ha
            refine ⟨v, vs, rfl, B, ds ++ ts, vs ++ ws, Γ, d, g1, w, hfx, e1, fun σ' hs w' => ?_⟩
            refine ⟨B, ts, ws, g1, ds, g, w', by simpa using hl, hfx, ha, fun σ2 hs2 w2 => q σ2 ⟨by rw [hs2.1, hs.1], fun j hj => ?_⟩ w2⟩
            simp only [Tg.ixs, List.mem_append, not_or] at hj
            rw [hs2.2 j hj.2, hs.2 j hj.1]
theorem s_tg {L : Str → Bool} {t : Tg} (hx : XOk X c C nm ix N sc W k) (hL : LocOk X L) (h : trT N L t x = true) : PG X x (tG c nf t) := (pg_both hx.calm (by rw [hx.hN]; exact hx.nd) hx.hN hL t).1 x h

/-! ### what a for walks over -/
structure ItOk (c : Wc) (ks : List D) (us : List V) (items : List D) (J : It) : Prop where
  ex : ∃ G Y, Walk J items.length G Y ∧ (∀ B H ts ws g σ, Wd c B H (ks ++ ts) (us ++ ws) g σ → G H) ∧
    ∀ i B H x H' ts ws g σ, i < items.length → Wd c B H (ks ++ ts) (us ++ ws) g σ → Y i H x H' → (∀ a o, H a = some o → H' a = some o) ∧ ∃ d, items[i]? = some d ∧ Wd c B H' (d :: (ks ++ ts)) (x :: (us ++ ws)) g σ
def okI (c : Wc) (B : Bs) (ts : List D) (ws : List V) (σ : L2.St) (im : Bool) (H : Hp) (R : It → Hp → Prop) (q : List D × List D) (g : List D) : Prop :=
  ∀ J us H', (im = false → ∀ a o, H a = some o → H' a = some o) → ItOk c q.2 us q.1 J → q.2.length = us.length → Wd c B H' (q.2 ++ ts) (us ++ ws) g σ → R J H'
def tI (c : Wc) (C : Cxt) (nf : Nat) (W : WX) (e : E) : TI := fun σ H R => ∃ B ts ws Γ, Wd c B H ts ws Γ σ ∧ B.fx.length ≤ nf ∧ (e.imp = true → D.nbs ts = true) ∧ c.lk = [] ∧
  PostR c B ts ws σ W (okI c B ts ws σ e.imp H R) (evI C nf e Γ)
theorem piImp {t t' : TI} {tg : Expr} (h : PI X tg x t) (f : ∀ σ H Q, t' σ H Q → t σ H Q) : PI X tg x t' := ⟨fun pins s σ H Q I h' => h.run pins s σ H Q I (f _ _ _ h')⟩
theorem piOr {t t' : TI} {tg : Expr} (h : PI X tg x t) (h' : PI X tg x t') : PI X tg x (fun σ H Q => t σ H Q ∨ t' σ H Q) := ⟨fun pins s σ H Q I z => z.elim (h.run pins s σ H Q I) (h'.run pins s σ H Q I)⟩
theorem walkL {K : PySem.W.Frag} {a : Addr} {n : Nat} : Walk (Itl K a) n (fun H => ∃ xs, SqL K H a xs ∧ xs.length = n) (fun i H x H' => H' = H ∧ ∀ xs, SqL K H a xs → xs[i]? = some x) :=
  ⟨fun i _ hi ⟨xs, q, l⟩ => ⟨xs, xs[i]'(by omega), q, by simp [l, hi]⟩, fun _ ⟨xs, q, l⟩ => ⟨xs, q, Nat.le_of_eq l⟩, fun _ _ _ _ _ _ y => y⟩
theorem walkT {K : PySem.W.Frag} {a : Addr} {n : Nat} : Walk (Itt K a) n (fun H => ∃ xs, SqT K H a xs ∧ xs.length = n) (fun i H x H' => H' = H ∧ ∀ xs, SqT K H a xs → xs[i]? = some x) :=
  ⟨fun i _ hi ⟨xs, q, l⟩ => ⟨xs, xs[i]'(by omega), q, by simp [l, hi]⟩, fun _ ⟨xs, q, l⟩ => ⟨xs, q, Nat.le_of_eq l⟩, fun _ _ _ _ _ _ y => y⟩
theorem walkE {K : PySem.W.Frag} {a : Addr} {n : Nat} : Walk (Ite K a) n (fun H => ∃ xs, SqL K H a xs ∧ xs.length = n) (fun i H v H' => ∃ T x, v = .ref T ∧ H T = none ∧ H' = upd H T (.tup [.int (i : Nat), x]) ∧ ∀ xs, SqL K H a xs → xs[i]? = some x) :=
  ⟨fun i _ hi ⟨xs, q, l⟩ => ⟨xs, xs[i]'(by omega), q, by simp [l, hi]⟩, fun _ ⟨xs, q, l⟩ => ⟨xs, q, Nat.le_of_eq l⟩, fun _ _ _ _ _ _ y => y⟩
end
end Bx

namespace Bx
open PySem PySem.Spec PyProof.Rows L2

section
variable {X : Cx} {c : Wc} {C : Cxt} {nm : Nms} {ix : Ix} {N : List Str} {sc : Scope} {W : WX} {k nf : Nat} {x y z : Expr} {a b d e es p : E} {xs : List Expr} {pos p1 p2 apos : Pos} {σ : L2.St} {H : Hp} {B : Bs} {ts : List D} {ws : List V} {Γ : List D}

theorem walkZ {K : PySem.W.Frag} {a b : Addr} {m n : Nat} : Walk (Itz K a b) (min m n) (fun H => (∃ xs, SqL K H a xs ∧ xs.length = m) ∧ ∃ ys, SqL K H b ys ∧ ys.length = n)
    (fun i H v H' => ∃ T x y, v = .ref T ∧ H T = none ∧ H' = upd H T (.tup [x, y]) ∧ (∀ xs, SqL K H a xs → xs[i]? = some x) ∧ ∀ ys, SqL K H b ys → ys[i]? = some y) :=
  ⟨fun i _ hi ⟨⟨xs, q, l⟩, ys, q2, l2⟩ => ⟨xs, ys, xs[i]'(by omega), ys[i]'(by omega), q, q2, by simp, by simp⟩, fun _ ⟨⟨xs, q, l⟩, ys, q2, l2⟩ => ⟨xs, ys, q, q2, by omega⟩, fun _ _ _ _ _ _ y => y⟩
theorem upTo_at : ∀ (n : Nat) (lo : Int) (i : Nat), i < n → (upTo lo n)[i]? = some (.int (lo + i))
  | 0, _, _, h => absurd h (Nat.not_lt_zero _)
  | n + 1, lo, 0, _ => by simp [upTo]
  | n + 1, lo, i + 1, h => by
    rw [upTo, List.getElem?_cons_succ, upTo_at n (lo + 1) i (by omega)]
    congr 2
    omega
theorem upTo_len : ∀ (n : Nat) (lo : Int), (upTo lo n).length = n
  | 0, _ => rfl
  | n + 1, lo => by rw [upTo, List.length_cons, upTo_len]
theorem enumD_at : ∀ (ds : List D) (k i : Nat) (d : D), ds[i]? = some d → (enumD k ds)[i]? = some (.tup [.int ((k + i : Nat) : Int), d])
  | [], _, _, _, h => by simp at h
  | d :: ds, k, 0, x, h => by
    simp at h
    subst h
    simp [enumD]
  | d :: ds, k, i + 1, x, h => by
    rw [enumD, List.getElem?_cons_succ, enumD_at ds (k + 1) i x (by simpa using h)]
    congr 5
    omega
theorem enumD_len : ∀ (ds : List D) (k : Nat), (enumD k ds).length = ds.length
  | [], _ => rfl
  | d :: ds, k => by rw [enumD, List.length_cons, List.length_cons, enumD_len]
theorem zipD_at : ∀ (ds es : List D) (i : Nat) (d e : D), ds[i]? = some d → es[i]? = some e → (zipD ds es)[i]? = some (.tup [d, e])
  | [], _, _, _, _, h, _ => by simp at h
  | _ :: _, [], _, _, _, _, h => by simp at h
  | d :: ds, e :: es, 0, x, y, h, h' => by
    simp at h h'
    subst h h'
    simp [zipD]
  | d :: ds, e :: es, i + 1, x, y, h, h' => by
    rw [zipD, List.getElem?_cons_succ]
    exact zipD_at ds es i x y (by simpa using h) (by simpa using h')
theorem zipD_len : ∀ (ds es : List D), (zipD ds es).length = min ds.length es.length
  | [], _ => by simp [zipD]
  | _ :: _, [] => by simp [zipD]
  | d :: ds, e :: es => by rw [zipD, List.length_cons, List.length_cons, List.length_cons, zipD_len]; omega
theorem uns_len (ds : List D) : (D.uns ds).length = ds.length := by rw [uns_map, List.length_map]
theorem it_list {f : Fl} {ds : List D} {a : Addr} : ItOk c [.nd f .lst (D.uns ds)] [.ref a] (D.uns ds) (Itl c.K a) := by
  refine ⟨_, _, walkL, fun B H ts ws g σ w => ?_, fun i B H x H' ts ws g σ hi w y => ?_⟩
  · obtain ⟨a', us, e, ha, l⟩ := Wd.peek w
    cases e
    exact ⟨us, SqL.of ha, l.symm⟩
  · obtain ⟨rfl, y⟩ := y
    obtain ⟨a', us, e, ha, l⟩ := Wd.peek w
    cases e
    have ed : (D.uns ds)[i]? = some (D.uns ds)[i] := List.getElem?_eq_getElem hi
    exact ⟨fun _ _ e => e, _, ed, Wd.item w ha ed (y us (SqL.of ha))⟩
theorem it_tup {ds : List D} {a : Addr} : ItOk c [.tup (D.uns ds)] [.ref a] (D.uns ds) (Itt c.K a) := by
  refine ⟨_, _, walkT, fun B H ts ws g σ w => ?_, fun i B H x H' ts ws g σ hi w y => ?_⟩
  · obtain ⟨a', us, e, ha, l, _⟩ := Wd.opnt w
    cases e
    exact ⟨us, SqT.of ha, l.symm⟩
  · obtain ⟨rfl, y⟩ := y
    obtain ⟨a', us, e, ha, l, _⟩ := Wd.opnt w
    cases e
    have ed : (D.uns ds)[i]? = some (D.uns ds)[i] := List.getElem?_eq_getElem hi
    exact ⟨fun _ _ e => e, _, ed, Wd.itemt w ha ed (y us (SqT.of ha))⟩
theorem it_scr {ns : List Int} {a : Addr} : ItOk c [.scr ns] [.ref a] (ns.map .int) (Itl c.K a) := by
  refine ⟨_, _, walkL, fun B H ts ws g σ w => ?_, fun i B H x H' ts ws g σ hi w y => ?_⟩
  · obtain ⟨a', e, ha⟩ := Wd.scr_inv w
    cases e
    exact ⟨_, ha, by simp⟩
  · obtain ⟨rfl, y⟩ := y
    obtain ⟨a', e, ha⟩ := Wd.scr_inv w
    cases e
    have hi' : i < ns.length := by simpa using hi
    have y' := y _ ha
    rw [List.getElem?_map, List.getElem?_eq_getElem hi'] at y'
    simp only [Option.map_some, Option.some.injEq] at y'
    subst y'
    refine ⟨fun _ _ e => e, .int ns[i], ?_, w.int _⟩
    rw [List.getElem?_map, List.getElem?_eq_getElem hi']
    rfl
theorem it_range {lo : Int} {n : Nat} : ItOk c [] [] (upTo lo n) (Itr lo n) := by
  refine ⟨fun _ => True, YFn fun i => .int (lo + i), ?_, fun _ _ _ _ _ _ _ => True.intro, fun i B H x H' ts ws g σ hi w y => ?_⟩
  · rw [upTo_len]
    exact walk_range
  · obtain ⟨rfl, rfl⟩ := y
    rw [upTo_len] at hi
    exact ⟨fun _ _ e => e, _, upTo_at n lo i hi, w.int _⟩
theorem it_enum {f : Fl} {ds : List D} {a : Addr} : ItOk c [.nd f .lst (D.uns ds)] [.ref a] (enumD 0 (D.uns ds)) (Ite c.K a) := by
  refine ⟨_, _, walkE, fun B H ts ws g σ w => ?_, fun i B H x H' ts ws g σ hi w y => ?_⟩
  · obtain ⟨a', us, e, ha, l⟩ := Wd.peek w
    cases e
    exact ⟨us, SqL.of ha, by rw [enumD_len]; exact l.symm⟩
  · obtain ⟨T, u, rfl, hT, rfl, y⟩ := y
    obtain ⟨a', us, e, ha, l⟩ := Wd.peek w
    cases e
    rw [enumD_len] at hi
    have ed : (D.uns ds)[i]? = some (D.uns ds)[i] := List.getElem?_eq_getElem hi
    have w1 := (Wd.item w ha ed (y us (SqL.of ha))).int ((i : Nat) : Int)
    refine ⟨fun b o e => upd_ext hT b o e, _, enumD_at _ 0 i _ ed, ?_⟩
    rw [Nat.zero_add]
    exact Wd.alloct (ds := [.int ((i : Nat) : Int), (D.uns ds)[i]]) (us := [.int ((i : Nat) : Int), u]) w1 rfl hT
theorem it_zip {f h : Fl} {ds es : List D} {a b : Addr} : ItOk c [.nd f .lst (D.uns ds), .nd h .lst (D.uns es)] [.ref a, .ref b] (zipD (D.uns ds) (D.uns es)) (Itz c.K a b) := by
  refine ⟨_, _, by rw [zipD_len]; exact walkZ, fun B H ts ws g σ w => ?_, fun i B H x H' ts ws g σ hi w y => ?_⟩
  · obtain ⟨a', us, e, ha, l⟩ := Wd.peek w
    cases e
    obtain ⟨a', us', e, ha', l'⟩ := Wd.peek (Wd.drop w)
    cases e
    exact ⟨⟨us, SqL.of ha, l.symm⟩, us', SqL.of ha', l'.symm⟩
  · obtain ⟨T, u, u', rfl, hT, rfl, y, y'⟩ := y
    obtain ⟨a', us, e, ha, l⟩ := Wd.peek w
    cases e
    obtain ⟨a', us', e, ha', l'⟩ := Wd.peek (Wd.drop w)
    cases e
    rw [zipD_len] at hi
    have ed : (D.uns ds)[i]? = some ((D.uns ds)[i]'(by omega)) := List.getElem?_eq_getElem (by omega)
    have ee : (D.uns es)[i]? = some ((D.uns es)[i]'(by omega)) := List.getElem?_eq_getElem (by omega)
    generalize hd : (D.uns ds)[i]'(by omega) = d at ed
    generalize he : (D.uns es)[i]'(by omega) = e at ee
    have w1 := Wd.item w ha ed (y us (SqL.of ha))
    have w2 : Wd c B H ([.nd h .lst (D.uns es), d, .nd f .lst (D.uns ds)] ++ ts) ([.ref b, u, .ref a] ++ ws) g σ :=
      Wd.shuf (ds := [d, .nd f .lst (D.uns ds), .nd h .lst (D.uns es)]) (us := [u, .ref a, .ref b]) w1 rfl (Shuf.swap (ds := [d, .nd f .lst (D.uns ds)]) (es := [.nd h .lst (D.uns es)]) (vs := [u, .ref a]) (us := [.ref b]) rfl)
    have w3 := Wd.item w2 ha' ee (y' us' (SqL.of ha'))
    have s1 : Shuf [e, .nd h .lst (D.uns es), d, .nd f .lst (D.uns ds)] [u', .ref b, u, .ref a] [d, .nd f .lst (D.uns ds), e, .nd h .lst (D.uns es)] [u, .ref a, u', .ref b] :=
      Shuf.swap (ds := [e, .nd h .lst (D.uns es)]) (es := [d, .nd f .lst (D.uns ds)]) (vs := [u', .ref b]) (us := [u, .ref a]) rfl
    have s2 : Shuf [d, .nd f .lst (D.uns ds), e, .nd h .lst (D.uns es)] [u, .ref a, u', .ref b] [d, e, .nd f .lst (D.uns ds), .nd h .lst (D.uns es)] [u, u', .ref a, .ref b] :=
      Shuf.app (ds := [d]) (es := [d]) (xs := [.nd f .lst (D.uns ds), e, .nd h .lst (D.uns es)]) (ys := [e, .nd f .lst (D.uns ds), .nd h .lst (D.uns es)]) (vs := [u]) (us := [u]) (ps := [.ref a, u', .ref b]) (qs := [u', .ref a, .ref b]) rfl (Shuf.refl _ _)
        (Shuf.app (ds := [.nd f .lst (D.uns ds), e]) (es := [e, .nd f .lst (D.uns ds)]) (xs := [.nd h .lst (D.uns es)]) (ys := [.nd h .lst (D.uns es)]) (vs := [.ref a, u']) (us := [u', .ref a]) (ps := [.ref b]) (qs := [.ref b]) rfl (Shuf.swap (ds := [.nd f .lst (D.uns ds)]) (es := [e]) (vs := [.ref a]) (us := [u']) rfl) (Shuf.refl _ _))
    have w4 : Wd c B H ([d, e, .nd f .lst (D.uns ds), .nd h .lst (D.uns es)] ++ ts) ([u, u', .ref a, .ref b] ++ ws) g σ :=
      Wd.shuf (ds := [e, .nd h .lst (D.uns es), d, .nd f .lst (D.uns ds)]) (us := [u', .ref b, u, .ref a]) w3 rfl (s1.trans s2)
    exact ⟨fun b o e => upd_ext hT b o e, _, zipD_at _ _ i _ _ ed ee, Wd.alloct (ds := [d, e]) (us := [u, u']) w4 rfl hT⟩
end
end Bx

namespace Bx
open PySem PySem.Spec PyProof.Rows L2

section
variable {X : Cx} {c : Wc} {C : Cxt} {nm : Nms} {ix : Ix} {N : List Str} {sc : Scope} {W : WX} {k nf : Nat} {x y z : Expr} {a b d e es p : E} {xs : List Expr} {pos p1 p2 apos : Pos} {σ : L2.St} {H : Hp} {B : Bs} {ts : List D} {ws : List V} {Γ : List D}

theorem s_src {tg : Expr} (hx : XOk X c C nm ix N sc W k) (ha : PE X x (tE c C nf W a)) : PI X tg x (tI c C nf W (.src a)) := by
  refine piImp (piOr (pi_list ha) (pi_tup ha)) fun σ H R h => ?_
  obtain ⟨B, ts, ws, Γ, w, hf, hi, hl, h⟩ := h
  rw [evI] at h
  rw [E.imp] at h hi
  by_cases hd : ∃ ds g, evE C nf a Γ = .ok (.tup ds) g
  · obtain ⟨ds, g, e⟩ := hd
    refine .inr ⟨B, ts, ws, Γ, w, hf, hi, .inl hl, PostR.on (es := []) (us := []) h.bind rfl ?_⟩
    intro d1 g1 e1 h1 v1 H1 ext1 w1
    rw [e] at e1
    cases e1
    obtain ⟨r, er, q⟩ := PostR.of h1
    simp only [listI, Option.some.injEq] at er
    subst er
    have w2 := w1.uncst
    obtain ⟨a, us, rfl, hp, l, _⟩ := w2.opnt
    rw [hx.hK]
    exact ⟨a, rfl, ⟨us, SqT.of hp⟩, q (Itt c.K a) [.ref a] H1 ext1 it_tup rfl w2⟩
  · refine .inl ⟨B, ts, ws, Γ, w, hf, hi, .inl hl, PostR.on (es := []) (us := []) h.bind rfl ?_⟩
    intro d1 g1 e1 h1 v1 H1 ext1 w1
    obtain ⟨r, er, q⟩ := PostR.of h1
    rw [hx.hK]
    cases d1 with
    | tup ds => exact absurd ⟨ds, g1, e1⟩ hd
    | nd f t ds =>
      cases t with
      | lst =>
        simp only [listI, Option.some.injEq] at er
        subst er
        have w2 := w1.uncs
        obtain ⟨a, us, rfl, hp, l⟩ := w2.peek
        exact ⟨a, rfl, ⟨us, SqL.of hp⟩, q (Itl c.K a) [.ref a] H1 ext1 it_list rfl w2⟩
      | _ => simp [listI] at er
    | scr ns =>
      simp only [listI, Option.some.injEq] at er
      subst er
      obtain ⟨a, rfl, hp⟩ := w1.scr_inv
      exact ⟨a, rfl, ⟨_, hp⟩, q (Itl c.K a) [.ref a] H1 ext1 it_scr rfl w1⟩
    | _ => simp [listI] at er
theorem s_rng {tg h1 : Expr} (hx : XOk X c C nm ix N sc W k) (hg : isGl sc "range" h1 = true) (hs : noStar x = true) (ha : PE X x (tE c C nf W a)) : PI X tg (.Call h1 [x] [] pos) (tI c C nf W (.rng a)) := by
  obtain ⟨p, rfl, g, hd, hne⟩ := isGl_ok hx hg
  refine piImp (pi_range1 g (hx.blt _ (by decide)) (pa_cons ha pa_nil (star_cons hs)) (star_cons hs)) fun σ H R h => ?_
  obtain ⟨B, ts, ws, Γ, w, hf, hi, hl, h⟩ := h
  rw [evI] at h
  rw [E.imp] at h hi
  refine ⟨B, ts, ws, Γ, w, hf, hi, .inl hl, PostR.on (es := []) (us := []) h.bind rfl ?_⟩
  intro d1 g1 e1 h1 v1 H1 ext1 w1
  cases d1 with
  | int n =>
    obtain ⟨hb, h1⟩ := PostR.ens h1
    simp only [Bool.and_eq_true, decide_eq_true_eq] at hb
    obtain rfl := w1.int_inv
    exact ⟨n, rfl, by omega, by omega, h1 (Itr 0 n.toNat) [] H1 ext1 it_range rfl w1.drop⟩
  | _ => exact h1.elim
theorem s_rng2 {tg h1 : Expr} (hx : XOk X c C nm ix N sc W k) (hg : isGl sc "range" h1 = true) (hs : noStar x = true) (hs2 : noStar y = true) (ha : PE X x (tE c C nf W a)) (hb : PE X y (tE c C nf W b)) : PI X tg (.Call h1 [x, y] [] pos) (tI c C nf W (.rng2 a b)) := by
  obtain ⟨p, rfl, g, hd, hne⟩ := isGl_ok hx hg
  have e2 : starEach [y] X.env = [(false, eval y X.env)] := star_cons hs2
  refine piImp (pi_range2 g (hx.blt _ (by decide)) (pa_cons ha (pa_cons hb pa_nil (star_cons hs2)) (star_cons hs)) ((star_cons hs).trans (by rw [e2])) e2) fun σ H R h => ?_
  obtain ⟨B, ts, ws, Γ, w, hf, hi, hl, h⟩ := h
  rw [evI] at h
  rw [E.imp] at h hi
  obtain ⟨hib, h⟩ := h.ens
  have hib : b.imp = false := by simpa using hib
  refine ⟨B, ts, ws, Γ, w, hf, fun z => hi (by rw [z]; rfl), .inl hl, PostR.on (es := []) (us := []) h.bind rfl ?_⟩
  intro d1 g1 e1 h1 v1 H1 ext1 w1
  refine ⟨B, d1 :: ts, v1 :: ws, g1, w1, hf, fun z => (by rw [hib] at z; cases z), .inl hl, PostR.on (es := [d1]) (us := [v1]) h1.bind rfl ?_⟩
  intro d2 g2 e2 h2 v2 H2 ext2 w2
  cases d1 with
  | int m =>
    cases d2 with
    | int n =>
      obtain ⟨hb, h2⟩ := PostR.ens h2
      simp only [Bool.and_eq_true, decide_eq_true_eq] at hb
      obtain rfl := w2.int_inv
      obtain rfl := w2.drop.int_inv
      exact ⟨m, n, rfl, ⟨by omega, by omega, by omega, by omega⟩, h2 (Itr m (n - m).toNat) [] H2 (fun z a o e => ext2 hib a o (ext1 (imp2 z) a o e)) it_range rfl w2.drop.drop⟩
    | _ => exact h2.elim
  | _ => cases d2 <;> exact h2.elim
theorem s_enu {h1 : Expr} {elts : List Expr} {kk : Nat} {tpos : Pos} (hx : XOk X c C nm ix N sc W k) (hg : isGl sc "enumerate" h1 = true) (hs : noStar x = true) (ha : PE X x (tE c C nf W a)) : PI X (.Tuple elts kk tpos) (.Call h1 [x] [] pos) (tI c C nf W (.enu a)) := by
  obtain ⟨p, rfl, g, hd, hne⟩ := isGl_ok hx hg
  refine piImp (pi_enum g (hx.blt _ (by decide)) (pa_cons ha pa_nil (star_cons hs)) (star_cons hs)) fun σ H R h => ?_
  obtain ⟨B, ts, ws, Γ, w, hf, hi, hl, h⟩ := h
  rw [evI] at h
  rw [E.imp] at h hi
  refine ⟨B, ts, ws, Γ, w, hf, hi, .inl hl, PostR.on (es := []) (us := []) h.bind rfl ?_⟩
  intro d1 g1 e1 h1 v1 H1 ext1 w1
  cases d1 with
  | nd f t ds =>
    cases t with
    | lst =>
      have w2 := w1.uncs
      obtain ⟨a, us, rfl, hp, l⟩ := w2.peek
      rw [hx.hK]
      exact ⟨a, us, rfl, SqL.of hp, h1 (Ite c.K a) [.ref a] H1 ext1 it_enum rfl w2⟩
    | _ => exact h1.elim
  | _ => exact h1.elim
theorem s_zip {h1 : Expr} {elts : List Expr} {kk : Nat} {tpos : Pos} (hx : XOk X c C nm ix N sc W k) (hg : isGl sc "zip" h1 = true) (hs : noStar x = true) (hs2 : noStar y = true) (ha : PE X x (tE c C nf W a)) (hb : PE X y (tE c C nf W b)) : PI X (.Tuple elts kk tpos) (.Call h1 [x, y] [] pos) (tI c C nf W (.zip a b)) := by
  obtain ⟨p, rfl, g, hd, hne⟩ := isGl_ok hx hg
  refine piImp (pi_zip g (hx.blt _ (by decide)) (pa_cons ha (pa_cons hb pa_nil (star_cons hs2)) (star_cons hs)) (star_cons hs) (stars_back pos (by simp [noStars, hs2]))) fun σ H R h => ?_
  obtain ⟨B, ts, ws, Γ, w, hf, hi, hl, h⟩ := h
  rw [evI] at h
  rw [E.imp] at h hi
  obtain ⟨hib, h⟩ := h.ens
  have hib : b.imp = false := by simpa using hib
  refine ⟨B, ts, ws, Γ, w, hf, fun z => hi (by rw [z]; rfl), .inl hl, PostR.on (es := []) (us := []) h.bind rfl ?_⟩
  intro d1 g1 e1 h1 v1 H1 ext1 w1
  refine ⟨B, d1 :: ts, v1 :: ws, g1, w1, hf, fun z => (by rw [hib] at z; cases z), .inl hl, PostR.on (es := [d1]) (us := [v1]) h1.bind rfl ?_⟩
  intro d2 g2 e2 h2 v2 H2 ext2 w2
  rw [hx.hK]
  cases d1 with
  | nd f t ds =>
    cases t with
    | lst =>
      cases d2 with
      | nd f2 t2 es =>
        cases t2 with
        | lst =>
          have w3 : Wd c B H2 ([.nd f .lst ds, .nd f2 .lst (D.uns es)] ++ ts) ([v1, v2] ++ ws) g2 σ :=
            Wd.shuf (ds := [.nd f2 .lst (D.uns es), .nd f .lst ds]) (us := [v2, v1]) w2.uncs rfl (Shuf.swap (ds := [.nd f2 .lst (D.uns es)]) (es := [.nd f .lst ds]) (vs := [v2]) (us := [v1]) rfl)
          have w4 := Wd.uncs w3
          obtain ⟨a, us, rfl, hp, l⟩ := Wd.peek w4
          obtain ⟨a', us', rfl, hp', l'⟩ := Wd.peek (Wd.drop w4)
          exact ⟨a, a', us, us', rfl, SqL.of hp, SqL.of hp', h2 (Itz c.K a a') [.ref a, .ref a'] H2 (fun z a o e => ext2 hib a o (ext1 (imp2 z) a o e)) it_zip rfl w4⟩
        | _ => exact h2.elim
      | _ => exact h2.elim
    | _ => cases d2 <;> exact h2.elim
  | _ => cases d2 <;> exact h2.elim
end
end Bx

namespace Bx
open PySem PySem.Spec PyProof.Rows L2

section
variable {X : Cx} {c : Wc} {C : Cxt} {nm : Nms} {ix : Ix} {N : List Str} {sc : Scope} {W : WX} {k nf : Nat} {x y z : Expr} {a b d e es p : E} {xs : List Expr} {pos p1 p2 apos : Pos} {σ : L2.St} {H : Hp} {B : Bs} {ts : List D} {ws : List V} {Γ : List D}

/-! ### list comprehensions -/
/-- an item is put behind a list that is on its way -/
theorem Wd.push1 {d : D} {acc : List D} {v v1 : V} (w : Wd c B H (d :: .nd .own .lst acc :: ts) (v :: v1 :: ws) Γ σ) :
    ∃ q us, v1 = .ref q ∧ H q = some (.lst us) ∧ acc.length = us.length ∧ Wd c B (upd H q (.lst (us ++ [v]))) (.nd .own .lst (acc ++ [d]) :: ts) (.ref q :: ws) Γ σ := by
  obtain ⟨ft, fs, w⟩ := w
  have rt := w.rt
  rw [List.map_cons, List.map_cons, RepS] at rt
  obtain ⟨o, r, f1, fr, e0, rfl, h1, h2⟩ := rt
  obtain ⟨rfl, rfl⟩ := List.cons.inj e0
  rw [RepS] at h2
  obtain ⟨o, r, f2, f3, e9, rfl, h2, h3⟩ := h2
  obtain ⟨rfl, rfl⟩ := List.cons.inj e9
  clear e0 e9
  rcases h2 with ⟨z, _⟩ | ⟨v', e', h2⟩
  · cases z
  cases e'
  rw [Rep] at h2
  obtain ⟨q, us, fq, rfl, hq, h2, hf⟩ := h2
  have hf : f2 = q :: fq := hf
  subst hf
  have hq : H q = some (.lst us) := hq
  have nd := w.nd
  have mem : ∀ a, a ∈ ((q :: (fq ++ f1)) ++ f3) ↔ a ∈ f1 ++ ((q :: fq) ++ f3) := fun a => by
    simp only [List.mem_append, List.mem_cons]
    constructor
    · rintro ((h | h | h) | h)
      · exact .inr (.inl (.inl h))
      · exact .inr (.inl (.inr h))
      · exact .inl h
      · exact .inr (.inr h)
    · rintro (h | (h | h) | h)
      · exact .inl (.inr (.inr h))
      · exact .inl (.inl h)
      · exact .inl (.inr (.inl h))
      · exact .inr h
  have mem2 : ∀ a, a ∈ ((q :: (fq ++ f1)) ++ f3) ++ fs ↔ a ∈ (f1 ++ ((q :: fq) ++ f3)) ++ fs := fun a => by
    rw [List.mem_append, List.mem_append (s := f1 ++ _), mem a]
  have qin : q ∈ f1 ++ ((q :: fq) ++ f3) := by simp
  have ho : ∀ a o, H a = some o → ¬ (ow B (f1 ++ ((q :: fq) ++ f3)) fs).o a → ¬ (ow B ((q :: (fq ++ f1)) ++ f3) fs).o a := fun a o _ n z => n (z.imp (mem2 a).mp fun z => z)
  have neq : ∀ {a : Addr}, a ≠ q → ∀ o, H a = some o → upd H q (.lst (us ++ [v])) a = some o := fun {a} n o e => by
    rw [upd_ne n]
    exact e
  have ht : ∀ a o, H a = some o → ¬ (ow B (f1 ++ ((q :: fq) ++ f3)) fs).t a → upd H q (.lst (us ++ [v])) a = some o ∧ ¬ (ow B ((q :: (fq ++ f1)) ++ f3) fs).t a := fun a o e n =>
    ⟨neq (fun z => n (by subst z; exact qin)) o e, fun z => n ((mem a).mp z)⟩
  have kp : ∀ {fp : List Addr}, q ∉ fp → ∀ a o, H a = some o → (a ∈ fp ∨ ¬ (ow B (f1 ++ ((q :: fq) ++ f3)) fs).o a ∨ Imm o) → upd H q (.lst (us ++ [v])) a = some o := fun {fp} n a o e z => by
    refine neq (fun y => ?_) o e
    subst y
    rcases z with z | z | z
    · exact n z
    · exact z (.inl (List.mem_append_left _ qin))
    · rw [hq] at e
      cases e
      exact z
  have nd' : q ∉ f1 ∧ q ∉ fq ∧ q ∉ f3 ∧ q ∉ fs := by
    simp only [List.nodup_append, List.mem_append, List.mem_cons, List.nodup_cons] at nd
    refine ⟨fun z => nd.1.2.2 q z q (.inl (.inl rfl)) rfl, nd.1.2.1.1.1, fun z => nd.1.2.1.2.2 q (.inl rfl) q z rfl, fun z => nd.2.2 q (.inr (.inl (.inl rfl))) q z rfl⟩
  have len : acc.length = us.length := by simpa using h2.len
  refine ⟨q, us, rfl, hq, len, (q :: (fq ++ f1)) ++ f3, fs, ?_, fun a ha => w.nf a ((mem2 a).mp ha), fun a ha => ?_, fun a o e z => ?_, fun a ha => w.gr a ((mem2 a).mp ha), RepS.cons ?_ (h3.stay (.inr ht) (kp nd'.2.2.1) ho), w.rs.stay (.inl w.nb) (kp nd'.2.2.2) ho, w.nb, w.fx⟩
  · have := nd
    simp only [List.nodup_append, List.mem_append, List.mem_cons, List.nodup_cons] at nd ⊢
    refine ⟨⟨⟨?_, nd.1.2.1.1.2, nd.1.1, fun a ha b hb e => nd.1.2.2 b hb a (.inl (.inr ha)) e.symm⟩, nd.1.2.1.2.1, fun a ha b hb e => ?_⟩, nd.2.1, fun a ha b hb e => ?_⟩
    · rintro (z | z)
      · exact nd'.2.1 z
      · exact nd'.1 z
    · rcases ha with ha | ha | ha
      · exact nd.1.2.1.2.2 a (.inl ha) b hb e
      · exact nd.1.2.1.2.2 a (.inr ha) b hb e
      · exact nd.1.2.2 a ha b (.inr hb) e
    · refine nd.2.2 a ?_ b hb e
      rcases ha with (ha | ha | ha) | ha
      · exact .inr (.inl (.inl ha))
      · exact .inr (.inl (.inr ha))
      · exact .inl ha
      · exact .inr (.inr ha)
  · obtain ⟨o, e⟩ := w.fh a ha
    refine ⟨o, neq (fun z => ?_) o e⟩
    subst z
    exact w.nf a (List.mem_append_left _ qin) ha
  · have e1 := w.kp a o e z
    refine neq (fun y => ?_) o e1
    subst y
    rcases w.gr a (List.mem_append_left _ qin) with y | y
    · rcases z with z | z
      · exact z y
      · rw [hq] at e1
        cases e1
        exact z
    · rw [y] at e; cases e
  · rw [Rep]
    refine ⟨q, us ++ [v], fq ++ f1, rfl, upd_same, ?_, rfl⟩
    rw [List.map_append]
    refine RepS.app (h2.stay (.inr ht) (kp nd'.2.1) ho) ?_
    rw [List.map_cons, List.map_nil, RepS]
    refine ⟨_, _, f1, [], rfl, (List.append_nil f1).symm, ?_, by rw [RepS]; exact ⟨rfl, rfl⟩⟩
    rcases h1 with h1 | ⟨v', e', h1⟩
    · exact .inl h1
    · exact .inr ⟨v', e', h1.stay (.inr ht) (kp nd'.1) ho⟩
theorem Wd.forget {i : Nat} (u : Option V) (w : Wd c B H ts ws Γ σ) (hfx : B.fx.length ≤ i) : Wd c B H ts ws (Γ.set i .any) (σ.set i u) := by
  by_cases hi : i < Γ.length
  · obtain ⟨ft, fs, w⟩ := w
    obtain ⟨o1, o, o2, p, f, q, rfl, l, rfl, k1, k2⟩ := RepS.at' w.rs hi
    have nd := w.nd
    have es : (o1 ++ o :: o2).set i u = o1 ++ u :: o2 := by
      rw [List.set_append_right _ _ (by omega), l, Nat.sub_self]
      rfl
    have rs : RepS c (ow B ft (p ++ (f ++ q))) H (Γ.set i .any) (o1 ++ u :: o2) (p ++ q) := by
      rw [set_len hi]
      exact RepS.app k1 (RepS.hole k2)
    rw [es]
    refine w.less (gt := ft) (gs := p ++ q) ?_ (fun a ha => ?_) (fun a ha => .inl ha) w.rt rs (nbs_set w.nb rfl i) fun j u' ej => ?_
    · simp only [List.nodup_append, List.mem_append] at nd ⊢
      exact ⟨nd.1, ⟨nd.2.1.1, nd.2.1.2.1.2.1, fun a ha b hb => nd.2.1.2.2 a ha b (.inr hb)⟩, fun a ha b hb => nd.2.2 a ha b (hb.imp (fun z => z) .inr)⟩
    · simp only [List.mem_append] at ha ⊢
      exact ha.imp (fun z => z) fun z => z.imp (fun z => z) .inr
    · have hj : j < B.fx.length := (List.getElem?_eq_some_iff.mp ej).1
      have e1 := w.fx j u' ej
      rw [List.getElem?_append_left (by omega)] at e1 ⊢
      exact e1
  · have l := w.lenS
    rw [List.set_eq_of_length_le (by omega), List.set_eq_of_length_le (by omega)]
    exact w
theorem Wd.blank {i : Nat} (w : Wd c B H ts ws Γ σ) (hfx : B.fx.length ≤ i) : Wd c B H ts ws (Γ.set i .any) (σ.set i none) := w.forget none hfx
theorem Wd.wipe : ∀ {own : List Nat}, Wd c B H ts ws Γ σ → (∀ i ∈ own, B.fx.length ≤ i) → Wd c B H ts ws (setAny Γ own) (wipe σ own)
  | [], w, _ => w
  | i :: r, w, h => Wd.blank (Wd.wipe w fun j hj => h j (List.mem_cons_of_mem _ hj)) (h i (List.mem_cons_self ..))
theorem setAny_len : ∀ own : List Nat, (setAny Γ own).length = Γ.length
  | [] => rfl
  | i :: r => by rw [setAny, List.length_set, setAny_len r]
theorem setAny_at {j : Nat} : ∀ {own : List Nat}, j ∈ own → j < Γ.length → (setAny Γ own)[j]? = some D.any
  | i :: r, h, hj => by
    rw [setAny]
    by_cases e : i = j
    · subst e
      rw [List.getElem?_set_self (by rw [setAny_len]; exact hj)]
    · rw [List.getElem?_set_ne e]
      exact setAny_at ((List.mem_cons.mp h).resolve_left fun z => e z.symm) hj
theorem wipe_at {j : Nat} : ∀ {own : List Nat}, j ∈ own → j < σ.length → (L2.wipe σ own)[j]? = some none
  | i :: r, h, hj => by
    rw [L2.wipe]
    by_cases e : i = j
    · subst e
      rw [List.getElem?_set_self (by rw [wipe_length]; exact hj)]
    · rw [List.getElem?_set_ne e]
      exact wipe_at ((List.mem_cons.mp h).resolve_left fun z => e z.symm) hj
theorem wipe_off {j : Nat} : ∀ {own : List Nat}, j ∉ own → (L2.wipe σ own)[j]? = σ[j]?
  | [], _ => rfl
  | i :: r, h => by
    simp only [List.mem_cons, not_or] at h
    rw [L2.wipe, List.getElem?_set_ne (fun z => h.1 z.symm), wipe_off h.2]
theorem wipe_eq {own is : List Nat} {σ' : L2.St} (h : SameBut is (L2.wipe σ own) σ') (hi : ∀ i ∈ is, i ∈ own) : L2.wipe σ' own = L2.wipe σ own := by
  apply List.ext_getElem?
  intro j
  by_cases hj : j ∈ own
  · by_cases hl : j < σ.length
    · rw [wipe_at hj hl, wipe_at hj (by rw [h.1, wipe_length]; exact hl)]
    · rw [List.getElem?_eq_none (by rw [wipe_length, h.1, wipe_length]; omega), List.getElem?_eq_none (by rw [wipe_length]; omega)]
  · rw [wipe_off hj, h.2 j fun z => hj (hi j z)]
theorem Wd.unwipe {own : List Nat} (w : Wd c B H ts ws Γ (L2.wipe σ own)) (h : ∀ i ∈ own, i < Γ.length → Γ[i]? = some D.any) : Wd c B H ts ws Γ σ := by
  have hl := w.lenS
  rw [wipe_length] at hl
  obtain ⟨ft, fs, w⟩ := w
  have gen : ∀ {O : Ow} {ds : List D} {os ps : List (Option V)} {f : List Addr}, RepS c O H ds os f → os.length = ps.length → (∀ i : Nat, ds[i]? ≠ some D.any → os[i]? = ps[i]?) → RepS c O H ds ps f := by
    intro O ds
    induction ds with
    | nil =>
      intro os ps f h l _
      rw [RepS] at h ⊢
      obtain ⟨rfl, rfl⟩ := h
      exact ⟨List.length_eq_zero_iff.mp l.symm, rfl⟩
    | cons d ds ih =>
      intro os ps f h l hh
      rw [RepS] at h ⊢
      obtain ⟨o, r, f1, f2, rfl, rfl, h1, h2⟩ := h
      cases ps with
      | nil => simp at l
      | cons p ps =>
        refine ⟨p, ps, f1, f2, rfl, rfl, ?_, ih h2 (by simpa using l) fun i hi => by have := hh (i + 1) (by simpa using hi); simpa using this⟩
        rcases h1 with h1 | ⟨v, rfl, h1⟩
        · exact .inl h1
        · by_cases e : d = .any
          · subst e
            rw [Rep] at h1
            exact .inl ⟨rfl, h1⟩
          · have := hh 0 (by simpa using e)
            simp at this
            exact .inr ⟨v, this.symm, h1⟩
  refine ⟨ft, fs, w.nd, w.nf, w.fh, w.kp, w.gr, w.rt, gen w.rs (by rw [wipe_length]) (fun i hi => ?_), w.nb, fun i v e => (wipe_some (w.fx i v e)).1⟩
  by_cases hm : i ∈ own
  · by_cases hl' : i < Γ.length
    · exact absurd (h i hm hl') hi
    · rw [List.getElem?_eq_none (by rw [wipe_length]; omega), List.getElem?_eq_none (by omega)]
  · exact wipe_off hm
end
end Bx

namespace Bx
open PySem PySem.Spec PyProof.Rows L2

section
variable {X : Cx} {c : Wc} {C : Cxt} {nm : Nms} {ix : Ix} {N : List Str} {sc : Scope} {W : WX} {k nf : Nat} {x y z : Expr} {a b d e es p : E} {xs : List Expr} {pos p1 p2 apos : Pos} {σ : L2.St} {H : Hp} {B : Bs} {ts : List D} {ws : List V} {Γ : List D}

def WF : WX := fun _ _ _ _ => False
def tCnd (c : Wc) (C : Cxt) (nf : Nat) (e : E) : TT := match e.isNop with
  | true => tYes
  | false => tT c C nf WF e
def turnC (C : Cxt) (nf : Nat) (e d : E) (t : Tg) (own : List Nat) (x : D) (g : List D) : Rs (Option D) := match asgT nf t x g with
  | none => .bad
  | some g => (optB d.isNop (evE C nf d g) g).bind fun b g => match b with
    | true => (evE C nf e g).bind fun d g => .ok (some d) (setAny g own)
    | false => .ok none (setAny g own)
theorem comp_ev {t : Tg} {own : List Nat} {g : List D} : evE C nf (.comp e d t a own) g = ensure (!e.imp && !d.imp && !a.imp && !a.lockd && t.ixs.all (own.contains ·) && own.all (fun j => decide (nf ≤ j))) ((evI C nf a g).bind fun q g => ensure (okn q.1.length)
      ((compL (turnC C nf e d t own) q.1 (setAny g own)).bind fun ds g => .ok (.nd .own .lst ds) g)) := by
  rw [evE]
  rfl
theorem okA_len {C : Cxt} : True := trivial
theorem comp_lc {t : Tg} {own : List Nat} {Q : VK} (h : tE c C nf W (.comp e d t a own) σ H Q) : tLc (tI c C nf W a) (tG c nf t) (tCnd c C nf d) (tE c C nf WF e) own σ H Q := by
  obtain ⟨B, ts, ws, Γ, w, hf, hi, hl, h⟩ := h
  rw [comp_ev] at h
  rw [E.imp] at h hi
  have hlk : c.lk = [] := hl.resolve_right (by simp [E.plain])
  obtain ⟨hb, h⟩ := h.ens
  simp only [Bool.and_eq_true, Bool.not_eq_true', List.all_eq_true, decide_eq_true_eq, List.contains_iff_mem] at hb
  obtain ⟨⟨⟨⟨⟨he, hd⟩, ha⟩, hlo⟩, hix⟩, hown⟩ := hb
  have him : (e.imp || d.imp || a.imp) = false := by rw [he, hd, ha]; rfl
  have hfo : ∀ i ∈ own, B.fx.length ≤ i := fun i hi => Nat.le_trans hf (hown i hi)
  refine ⟨B, ts, ws, Γ, w, hf, fun z => (by rw [ha] at z; cases z), hlk, PostR.on (es := []) (us := []) h.bind rfl ?_⟩
  rintro ⟨items, ks⟩ g1 _ h1 J us H1 ext1 hit lk w1 D0 hD
  obtain ⟨hn, h1⟩ := h1.ens
  have ext1 := ext1 ha
  have hit : ItOk c ks us items J := hit
  have lk : ks.length = us.length := lk
  have w1 : Wd c B H1 (ks ++ ts) (us ++ ws) g1 σ := w1
  obtain ⟨G, Y, wk, hG, hY⟩ := hit.ex
  have hlen : items.length < sizeLine := okn_ok hn
  -- what holds between two turns
  let Pv : Nat → Hp → Prop := fun i H2 => ∃ (acc g : List D), acc.length ≤ i ∧ (∀ a o, H a = some o → H2 a = some o) ∧ (∀ j ∈ own, j < g.length → g[j]? = some D.any) ∧
    Wd c B H2 (ks ++ (.nd .own .lst acc :: ts)) (us ++ (.ref D0 :: ws)) g (L2.wipe σ own) ∧
    PostR c B ts ws σ W (fun ds g => okE c B ts ws σ false H Q (.nd .own .lst (acc ++ ds)) g) (compL (turnC C nf e d t own) (items.drop i) g)
  refine lc_it wk (Pv := Pv) ?_ ?_ ?_ ?_
  · refine ⟨[], setAny g1 own, Nat.le_refl _, fun b o e => upd_ext hD b o (ext1 b o e), fun j hj hjl => setAny_at hj (by rw [setAny_len] at hjl; exact hjl), Wd.wipe ?_ hfo, ?_⟩
    · have w2 : Wd c B (upd H1 D0 (.lst [])) (.nd .own .lst [] :: (ks ++ ts)) (.ref D0 :: (us ++ ws)) g1 σ := Wd.alloc (ds := []) (us := []) w1 rfl hD upd_same
      have w3 : Wd c B (upd H1 D0 (.lst [])) ((ks ++ [.nd .own .lst []]) ++ ts) ((us ++ [.ref D0]) ++ ws) g1 σ := Wd.shuf (ds := [.nd .own .lst []] ++ ks) (us := [.ref D0] ++ us) (by simpa using w2) (by simp [lk]) (Shuf.swap rfl)
      simpa using w3
    · have h2 := h1.bind
      exact PostR.on (es := []) (us := []) h2 rfl fun ds g _ q => by
        rw [him] at q
        exact q
  · rintro i H2 hi ⟨acc, g, _, _, _, w2, _⟩
    exact hG _ _ _ _ _ _ w2
  · rintro i x H2 H3 hi ⟨acc, g, hacc, ext2, hany, w2, hp⟩ hy
    obtain ⟨ext3, dx, hdx, w3⟩ := hY i B H2 x H3 _ _ g _ hi w2 hy
    have ed : items.drop i = dx :: items.drop (i + 1) := by
      rw [List.drop_eq_getElem_cons hi]
      rw [List.getElem?_eq_getElem hi] at hdx
      cases hdx
      rfl
    rw [ed] at hp
    simp only [compL, turnC] at hp
    cases e1 : asgT nf t dx g with
    | none => rw [e1] at hp; exact hp.elim
    | some g2 =>
      rw [e1] at hp
      simp only at hp
      refine ⟨B, _, _, g, dx, g2, w3, hf, e1, fun σ2 hs w4 => ?_⟩
      have hw : L2.wipe σ2 own = L2.wipe σ own := wipe_eq hs hix
      refine ⟨hw, ?_⟩
      -- the turn's end without an item, with one
      have done0 : ∀ {H4 : Hp} {g4 : List D}, (∀ a o, H3 a = some o → H4 a = some o) → Wd c B H4 (ks ++ (.nd .own .lst acc :: ts)) (us ++ (.ref D0 :: ws)) g4 σ2 →
          PostR c B ts ws σ W (fun ds g => okE c B ts ws σ false H Q (.nd .own .lst (acc ++ ds)) g) (compL (turnC C nf e d t own) (items.drop (i + 1)) (setAny g4 own)) → Pv (i + 1) H4 := fun {H4 g4} ext4 w5 hp => by
        refine ⟨acc, setAny g4 own, Nat.le_succ_of_le hacc, fun b o e => ext4 b o (ext3 b o (ext2 b o e)), fun j hj hjl => setAny_at hj (by rw [setAny_len] at hjl; exact hjl), ?_, hp⟩
        rw [← hw]
        exact w5.wipe hfo
      have done1 : ∀ {H4 : Hp} {g4 : List D} {y : V} {dy : D}, (∀ a o, H3 a = some o → H4 a = some o) → Wd c B H4 (dy :: (ks ++ (.nd .own .lst acc :: ts))) (y :: (us ++ (.ref D0 :: ws))) g4 σ2 →
          PostR c B ts ws σ W (fun ds g => okE c B ts ws σ false H Q (.nd .own .lst (acc ++ ds)) g) ((compL (turnC C nf e d t own) (items.drop (i + 1)) (setAny g4 own)).bind fun ds g => .ok (dy :: ds) g) →
          ∃ acc, H4 D0 = some (.lst acc) ∧ acc.length < sizeLine ∧ Pv (i + 1) (upd H4 D0 (.lst (acc ++ [y]))) := fun {H4 g4 y dy} ext4 w5 hp => by
        have w6 : Wd c B H4 ([dy, .nd .own .lst acc] ++ (ks ++ ts)) ([y, .ref D0] ++ (us ++ ws)) g4 σ2 := by
          have w5' : Wd c B H4 (([dy] ++ (ks ++ [.nd .own .lst acc])) ++ ts) (([y] ++ (us ++ [.ref D0])) ++ ws) g4 σ2 := by simpa using w5
          have := w5'.shuf (es := [dy] ++ ([.nd .own .lst acc] ++ ks)) (xs := [y] ++ ([.ref D0] ++ us)) (by simp [lk]) (Shuf.app rfl (Shuf.refl _ _) (Shuf.swap lk))
          simpa using this
        obtain ⟨q, zs, eq, hq, lz, w7⟩ := Wd.push1 w6
        cases eq
        refine ⟨zs, hq, by omega, acc ++ [dy], setAny g4 own, by simp; omega, fun b o e => ?_, fun j hj hjl => setAny_at hj (by rw [setAny_len] at hjl; exact hjl), ?_, ?_⟩
        · have hne : b ≠ D0 := by
            rintro rfl
            have := ext1 b o e
            rw [hD] at this
            cases this
          rw [upd_ne hne]
          exact ext4 b o (ext3 b o (ext2 b o e))
        · rw [← hw]
          refine Wd.wipe ?_ hfo
          have w8 : Wd c B (upd H4 D0 (.lst (zs ++ [y]))) (([.nd .own .lst (acc ++ [dy])] ++ ks) ++ ts) (([.ref D0] ++ us) ++ ws) g4 σ2 := by simpa using w7
          have := w8.shuf (by simp [lk]) (Shuf.swap (ds := [.nd .own .lst (acc ++ [dy])]) (es := ks) (vs := [.ref D0]) (us := us) rfl)
          simpa using this
        · exact PostR.on (es := []) (us := []) hp.bind rfl fun ds g _ q => by
            have q' : okE c B ts ws σ false H Q (.nd .own .lst (acc ++ (dy :: ds))) g := q
            rw [List.append_assoc]
            exact q'
      -- behind the test
      have stepE : ∀ {H4 : Hp} {g4 : List D}, (∀ a o, H3 a = some o → H4 a = some o) → Wd c B H4 (ks ++ (.nd .own .lst acc :: ts)) (us ++ (.ref D0 :: ws)) g4 σ2 →
          PostR c B ts ws σ W (fun ds g => okE c B ts ws σ false H Q (.nd .own .lst (acc ++ ds)) g) (compK ((evE C nf e g4).bind fun d' g => .ok (some d') (setAny g own)) fun g => compL (turnC C nf e d t own) (items.drop (i + 1)) g) →
          tE c C nf WF e σ2 H4 fun y H5 => ∃ acc, H5 D0 = some (.lst acc) ∧ acc.length < sizeLine ∧ Pv (i + 1) (upd H5 D0 (.lst (acc ++ [y]))) := fun {H4 g4} ext4 w5 hp => by
        refine ⟨B, _, _, g4, w5, hf, fun z => (by rw [he] at z; cases z), .inl hlk, ?_⟩
        cases ev : evE C nf e g4 with
        | bad => rw [ev] at hp; exact hp.elim
        | exc _ _ => rw [ev] at hp; exact hp.elim
        | ok d5 g5 =>
          rw [ev] at hp
          intro y H5 ext5 w6
          exact done1 (fun a o z => ext5 he a o (ext4 a o z)) w6 hp
      cases hnop : d.isNop with
      | true =>
        rw [hnop] at hp
        unfold tCnd
        rw [hnop]
        have key := stepE (fun _ _ z => z) w4 hp
        simp only [tYes, if_true]
        exact key
      | false =>
        rw [hnop] at hp
        unfold tCnd
        rw [hnop]
        refine ⟨B, _, _, g2, w4, hf, fun z => (by rw [hd] at z; cases z), .inl hlk, ?_⟩
        cases ev : evE C nf d g2 with
        | bad => rw [ev] at hp; exact hp.elim
        | exc _ _ => rw [ev] at hp; exact hp.elim
        | ok d5 g5 =>
          rw [ev] at hp
          cases d5 with
          | bl b =>
            refine ⟨b, rfl, fun H5 ext5 w6 => ?_⟩
            cases b with
            | true =>
              rw [if_pos rfl]
              exact stepE (ext5 hd) w6 hp
            | false =>
              rw [if_neg Bool.false_ne_true]
              exact done0 (ext5 hd) w6 hp
          | _ => exact hp.elim
  · rintro H2 ⟨acc, g, _, ext2, hany, w2, hp⟩
    rw [List.drop_length] at hp
    simp only [compL] at hp
    have q : okE c B ts ws σ false H Q (.nd .own .lst (acc ++ [])) g := hp
    rw [List.append_nil] at q
    refine q (.ref D0) H2 (fun _ => ext2) ?_
    exact Wd.unwipe (own := own) ((w2.drops lk)) hany
theorem XOk.blk (hx : XOk X c C nm ix N sc W k) (s : Shared) (H : Hp) (scope : Scope) (cl : List (Str × Addr)) (A : Addr) (fp : List Addr) : XOk (X.blk s H scope (compEnvC scope cl A X.env) fp) c C nm ix N (relS scope sc) WF k where
  calm := hx.calm
  hN := hx.hN
  nd := hx.nd
  sc := by rw [← hx.sc]; rfl
  hK := hx.hK
  room := hx.room
  gd := hx.gd
  tk := fun u s' ⟨_, _, _, _, _, _, _, _, _, _, _, _, _, _, _, _, w⟩ => w.elim
  blt := hx.blt
  far := hx.far
  io := hx.io
  ioi := hx.ioi
  fn := hx.fn
  gl := hx.gl
  cgl := hx.cgl
  glo := hx.glo
  kc := hx.kc
  kt := hx.kt
  fo := hx.fo
  meth := hx.meth
  init := hx.init
theorem LocOk.blk (s : Shared) (H : Hp) (scope : Scope) (cl : List (Str × Addr)) (A : Addr) (fp : List Addr) : LocOk (X.blk s H scope (compEnvC scope cl A X.env) fp) (locB scope) := by
  intro x h
  unfold locB at h
  split at h
  · rename_i e
    have e2 : (relS scope X.env.scope).names.lookup x = some .local := lookup_relS_keep (by decide) e
    exact ⟨.inl e2, .inr e2⟩
  · rename_i e
    have e2 : (relS scope X.env.scope).names.lookup x = some .cell := lookup_relS_keep (by decide) e
    refine ⟨.inr e2, .inl ?_⟩
    show (scope.names.lookup x == some .cell) = true
    rw [e]
    rfl
  · cases h
theorem noSet_fold {env : Env} (h : noSet x = true) : ∀ v, foldedSetIterable x env v = pure v := by
  intro v
  cases x <;> first | rfl | (simp [noSet] at h)
theorem own_map (own : List Nat) : (own.map fun i => (N.getD i "", i)).map (·.2) = own := by
  rw [List.map_map]
  exact List.map_id own
section
variable {tg : Expr} {t : Tg} {own : List Nat} {scope : Scope} {ifs : List Expr}
theorem comp_parts (hx : XOk X c C nm ix N sc W k) (hc : blkC N sc scope (own.map fun i => (N.getD i "", i)) = true) (ht : trT N (locB scope) t tg = true)
    (hd : match ifs with | [] => d.isNop = true | [z] => d.isNop = false ∧ ∀ (X' : Cx), XOk X' c C nm ix N (relS scope sc) WF k → PT X' z (tT c C nf WF d) | _ => False)
    (he : ∀ (X' : Cx), XOk X' c C nm ix N (relS scope sc) WF k → PE X' x (tE c C nf WF e)) :
    BlkOk X.N X.env.scope scope (own.map fun i => (N.getD i "", i)) ∧
    (∀ (s : Shared) (H : Hp) (A : Addr) (cl : List (Str × Addr)) (fp : List Addr), PG (X.blk s H scope (compEnvC scope cl A X.env) fp) tg (tG c nf t)) ∧
    (∀ (s : Shared) (H : Hp) (A : Addr) (cl : List (Str × Addr)) (fp : List Addr), PTs (X.blk s H scope (compEnvC scope cl A X.env) fp) ifs (tCnd c C nf d)) ∧
    (∀ (s : Shared) (H : Hp) (A : Addr) (cl : List (Str × Addr)) (fp : List Addr), PE (X.blk s H scope (compEnvC scope cl A X.env) fp) x (tE c C nf WF e)) := by
  refine ⟨by rw [hx.hN, hx.sc]; exact blkOk_by hc, fun s H A cl fp => s_tg (hx.blk s H scope cl A fp) (LocOk.blk s H scope cl A fp) ht, fun s H A cl fp => ?_, fun s H A cl fp => he _ (hx.blk s H scope cl A fp)⟩
  match ifs, hd with
  | [], hd =>
    have e1 : tCnd c C nf d = tYes := by unfold tCnd; rw [hd]
    rw [e1]
    exact pts_nil
  | [z], ⟨h1, h2⟩ =>
    have e1 : tCnd c C nf d = tT c C nf WF d := by unfold tCnd; rw [h1]
    rw [e1]
    exact pts_one (h2 _ (hx.blk s H scope cl A fp))
theorem s_comp {y : Expr} (hx : XOk X c C nm ix N sc W k) (hc : blkC N sc scope (own.map fun i => (N.getD i "", i)) = true) (hi : PI X tg y (tI c C nf W a)) (ht : trT N (locB scope) t tg = true) (hs : noSet y = true)
    (hd : match ifs with | [] => d.isNop = true | [z] => d.isNop = false ∧ ∀ (X' : Cx), XOk X' c C nm ix N (relS scope sc) WF k → PT X' z (tT c C nf WF d) | _ => False)
    (he : ∀ (X' : Cx), XOk X' c C nm ix N (relS scope sc) WF k → PE X' x (tE c C nf WF e)) :
    PE X (.ListComp x [⟨tg, y, ifs, 0⟩] scope pos) (tE c C nf W (.comp e d t a own)) := by
  obtain ⟨h1, h2, h3, h4⟩ := comp_parts hx hc ht hd he
  refine peImp (pe_lc hx.calm (by rw [hx.hN]; exact hx.nd) hi h1 h2 h3 h4 (noSet_fold hs)) fun σ H Q h => ?_
  rw [own_map]
  exact comp_lc h
end
end
end Bx

namespace Bx
open PySem PySem.Spec PyProof.Rows L2

section
variable {X : Cx} {c : Wc} {C : Cxt} {nm : Nms} {ix : Ix} {N : List Str} {sc : Scope} {W : WX} {k nf : Nat} {x y z : Expr} {a b d e es p : E} {xs : List Expr} {pos p1 p2 p3 p4 apos : Pos} {σ : L2.St} {H : Hp} {B : Bs} {ts : List D} {ws : List V} {Γ : List D}

/-! ### list.index -/
theorem find_at {α : Type} {p : α → Bool} {xs : List α} {i : Nat} (h : xs.findIdx? p = some i) : ∃ y, xs[i]? = some y ∧ p y = true ∧ ∀ (m : Nat) (z : α), m < i → xs[m]? = some z → p z = false := by
  rw [List.findIdx?_eq_some_iff_getElem] at h
  obtain ⟨hi, hp, hn⟩ := h
  refine ⟨xs[i], List.getElem?_eq_getElem hi, hp, fun m z hm hz => ?_⟩
  obtain ⟨hml, rfl⟩ := List.getElem?_eq_some_iff.mp hz
  simpa using hn m hm
theorem bm_index {bm : Bm} {cs ds : List D} {r : D} (h : bmD bm cs ds = some r) : bm = .index ∧ ∃ x v vs i, ds = [x] ∧ x.flat = some v ∧ D.flats cs = some vs ∧ (vs.findIdx? fun y => eqV y v) = some i ∧ r = .int (i : Nat) := by
  match bm, ds, h with
  | .index, [x], h =>
    simp only [bmD] at h
    cases e1 : x.flat with
    | none => rw [e1] at h; simp at h
    | some v =>
      cases e2 : D.flats cs with
      | none => rw [e1, e2] at h; simp at h
      | some vs =>
        rw [e1, e2] at h
        simp only [Option.map_eq_some_iff] at h
        obtain ⟨i, hi, rfl⟩ := h
        exact ⟨rfl, x, v, vs, i, rfl, e1, rfl, hi, rfl⟩
  | .index, [], h => simp [bmD] at h
  | .index, _ :: _ :: _, h => simp [bmD] at h
  | .count, _, h => simp [bmD] at h
theorem s_bm {m : Bm} (hx : XOk X c C nm ix N sc W k) (hb : noCall0 x = true) (hline : (apos.endLine == pos.line) = true) (hlen : xs.length < 20) (hst : noStars xs = true) (h0 : xs = [] → es = .nil) (ho : PE X x (tE c C nf W a)) (ha : PA X xs (tA c C nf W es)) :
    PE X (.Call (.Attribute x (bmN m) apos) xs [] pos) (tE c C nf W (.bm m a es)) := by
  by_cases em : m = .index
  · subst em
    refine peImp (pe_bmN PySem.F.plainAttrs_list PySem.F.slot_list_index PySem.F.type_list_index mt_index ho ha (fun _ _ _ _ f => tE_mono f) h0 hb hline hlen hst) fun σ H Q h => ?_
    obtain ⟨B, ts, ws, Γ, w, hf, hi, hl, h⟩ := h
    rw [evE] at h
    rw [E.imp] at h hi
    have hlk : c.lk = [] := hl.resolve_right (by simp [E.plain])
    obtain ⟨hib, h⟩ := h.ens
    have hib : es.imp = false := by simpa using hib
    refine ⟨B, ts, ws, Γ, w, hf, fun z => hi (by rw [z]; rfl), .inl hlk, PostR.on (es := []) (us := []) h.bind rfl ?_⟩
    intro d g1 _ h1 v H1 ext1 w1
    cases d with
    | nd f t cs =>
      cases t with
      | lst =>
        simp only at h1
        obtain ⟨ad, us, rfl, hat, l1⟩ := w1.peek
        have hsq : SqL X.K H1 ad us := SqL.of hat
        refine ⟨.inl ⟨rfl, us, hsq⟩, B, _, _, g1, w1, hf, fun z => (by rw [hib] at z; cases z), hlk, PostR.on (es := [.nd f .lst cs]) (us := [.ref ad]) (PostR.bind h1) rfl ?_⟩
        intro ds g2 _ h2 vs H2 ext2 l2 w2
        obtain ⟨r, er, q⟩ := PostR.of h2
        obtain ⟨_, x, u, fl, i, rfl, hu, hfl, hfind, rfl⟩ := bm_index er
        obtain ⟨xv, rfl⟩ : ∃ xv, vs = [xv] := List.length_eq_one_iff.mp l2.symm
        have w2 : Wd c B H2 (x :: (.nd f .lst cs :: ts)) (xv :: (.ref ad :: ws)) g2 σ := w2
        obtain ⟨rfl, fx⟩ := w2.flat hu
        have w3 := w2.drop
        obtain ⟨ad', us2, e, hat2, _⟩ := w3.peek
        cases e
        obtain ⟨rfl, ffl⟩ := w3.flats hat2 hfl
        obtain ⟨y, hy, hp, hn⟩ := find_at hfind
        exact ⟨ad, us2, xv, i, y, rfl, rfl, SqL.of hat2, fx, ffl, hy, hp, hn, q _ H2 (fun z b o e => ext2 hib b o (ext1 (by cases ha' : a.imp with | false => rfl | true => rw [ha'] at z; cases z) b o e)) (w3.drop.int _)⟩
      | _ => exact h1.elim
    | _ => exact h1.elim
  · exact peBad fun σ H Q h => by
      obtain ⟨B, ts, ws, Γ, w, hf, hi, hl, h⟩ := h
      rw [evE] at h
      obtain ⟨hib, _⟩ := h.ens
      simp only [Bool.and_eq_true, decide_eq_true_eq] at hib
      exact em hib.1
/-! ### list(range(n)) -/
theorem rg_upTo (n : Int) : (upTo 0 n.toNat) = ((List.range n.toNat).map fun i => ((i : Nat) : Int)).map D.int ∧ rgV 0 n = ((List.range n.toNat).map fun i => ((i : Nat) : Int)).map V.int := by
  constructor
  · refine List.ext_getElem? fun i => ?_
    by_cases h : i < n.toNat
    · rw [upTo_at _ _ _ h]
      simp [h]
    · rw [List.getElem?_eq_none (by rw [upTo_len]; omega), List.getElem?_eq_none (by simp; omega)]
  · unfold rgV
    rw [List.map_map]
    simp
theorem s_lrng {h1 h2 : Expr} (hx : XOk X c C nm ix N sc W k) (hg1 : isGl sc "list" h1 = true) (hg2 : isGl sc "range" h2 = true) (hs : noStar x = true) (ha : PE X x (tE c C nf W a)) : PE X (.Call h1 [.Call h2 [x] [] p1] [] pos) (tE c C nf W (.lrng a)) := by
  obtain ⟨p, rfl, g, _, _⟩ := isGl_ok hx hg1
  obtain ⟨p', rfl, g', _, _⟩ := isGl_ok hx hg2
  refine peImp (pe_listRg hx.calm g (hx.blt _ (by decide)) (prg_1 g' (hx.blt _ (by decide)) ha (star_cons hs))) fun σ H Q h => ?_
  obtain ⟨B, ts, ws, Γ, w, hf, hi, hl, h⟩ := h
  rw [evE] at h
  rw [E.imp] at h hi
  refine ⟨B, ts, ws, Γ, w, hf, hi, .inl (hl.resolve_right (by simp [E.plain])), PostR.on (es := []) (us := []) h.bind rfl ?_⟩
  intro d g1 _ h1 v H1 ext w1
  cases d with
  | int n =>
    simp only at h1
    obtain ⟨hb, h1⟩ := PostR.ens h1
    simp only [Bool.and_eq_true, decide_eq_true_eq] at hb
    obtain rfl := w1.int_inv
    obtain ⟨e1, e2⟩ := rg_upTo n
    refine ⟨n, rfl, ⟨by decide, by decide, by omega, by omega, by omega⟩, fun q hq => h1 (.ref q) _ (fun z b o e => upd_ext hq b o (ext z b o e)) ?_⟩
    rw [e1, e2]
    exact (w1.drop.pushInts _).alloc (by simp) hq upd_same
  | _ => exact h1.elim
end
end Bx

namespace Bx
open PySem PySem.Spec PyProof.Rows L2

section
variable {X : Cx} {c : Wc} {C : Cxt} {nm : Nms} {ix : Ix} {N : List Str} {sc : Scope} {W : WX} {k nf : Nat} {x y z : Expr} {a b d e es p : E} {xs : List Expr} {pos p1 p2 p3 p4 apos : Pos} {σ : L2.St} {H : Hp} {B : Bs} {ts : List D} {ws : List V} {Γ : List D}

/-! ### [x for x, y in pairs], the pairs let go -/
theorem Wd.unzip : ∀ {ds fs : List D} {us : List V} {ad : List D} {av : List V}, firsts ds = some fs → ds.length = us.length → ad.length = av.length → Wd c B H (ad ++ (ds ++ ts)) (av ++ (us ++ ws)) Γ σ →
    ∃ ps : List V, ps.length = us.length ∧ Wd c B H ((ad ++ fs) ++ ts) ((av ++ ps) ++ ws) Γ σ ∧ ∀ (i : Nat) (v : V), us[i]? = some v → ∃ T p q, v = .ref T ∧ H T = some (.tup [p, q]) ∧ ps[i]? = some p
  | [], fs, us, ad, av, h, l, la, w => by
    simp only [firsts, Option.some.injEq] at h
    subst h
    obtain rfl : us = [] := List.length_eq_zero_iff.mp l.symm
    exact ⟨[], rfl, by simpa using w, fun i v e => by simp at e⟩
  | d :: ds, fs, us, ad, av, h, l, la, w => by
    match us, l with
    | u :: us, l =>
      match d, h with
      | .tup [d1, d2], h =>
        simp only [firsts, Option.map_eq_some_iff] at h
        obtain ⟨fs', h', rfl⟩ := h
        have w1 : Wd c B H ((ad ++ [.tup [d1, d2]]) ++ (ds ++ ts)) ((av ++ [u]) ++ (us ++ ws)) Γ σ := by simpa using w
        have w2 : Wd c B H (([.tup [d1, d2]] ++ ad) ++ (ds ++ ts)) (([u] ++ av) ++ (us ++ ws)) Γ σ := w1.shuf (by simp [la]) (Shuf.swap la)
        have w3 : Wd c B H (.tup [d1, d2] :: (ad ++ (ds ++ ts))) (u :: (av ++ (us ++ ws))) Γ σ := by simpa using w2
        obtain ⟨T, vs, rfl, hT, l2, w4⟩ := w3.opnt
        obtain ⟨p, q, rfl⟩ : ∃ p q, vs = [p, q] := by
          match vs, l2 with
          | [p, q], _ => exact ⟨p, q, rfl⟩
        have w5 : Wd c B H ((([d1] ++ [d2]) ++ ad) ++ (ds ++ ts)) ((([p] ++ [q]) ++ av) ++ (us ++ ws)) Γ σ := by simpa using w4
        have s1 : Shuf (([d1] ++ [d2]) ++ ad) (([p] ++ [q]) ++ av) ([d1] ++ ad) ([p] ++ av) := Shuf.app rfl (Shuf.left rfl) (Shuf.refl _ _)
        have w6 : Wd c B H ((ad ++ [d1]) ++ (ds ++ ts)) ((av ++ [p]) ++ (us ++ ws)) Γ σ := w5.shuf (by simp [la]) (s1.trans (Shuf.swap rfl))
        obtain ⟨ps, lp, w7, hv⟩ := Wd.unzip (ad := ad ++ [d1]) (av := av ++ [p]) h' (by simpa using l) (by simp [la]) w6
        refine ⟨p :: ps, by simp [lp], by simpa using w7, fun i v e => ?_⟩
        cases i with
        | zero =>
          simp only [List.getElem?_cons_zero, Option.some.injEq] at e
          subst e
          exact ⟨T, p, q, rfl, hT, rfl⟩
        | succ i =>
          simp only [List.getElem?_cons_succ] at e ⊢
          exact hv i v e
      | .tup [], h => simp [firsts] at h
      | .tup [_], h => simp [firsts] at h
      | .tup (_ :: _ :: _ :: _), h => simp [firsts] at h
      | .non, h => simp [firsts] at h
      | .any, h => simp [firsts] at h
      | .bl _, h => simp [firsts] at h
      | .int _, h => simp [firsts] at h
      | .str _, h => simp [firsts] at h
      | .scr _, h => simp [firsts] at h
      | .nd _ _ _, h => simp [firsts] at h
/-- both names set -/
def gU (i j : Nat) : TG := fun v σ H Q => ∃ T p q, v = .ref T ∧ H T = some (.tup [p, q]) ∧ Q ((σ.set i (some p)).set j (some q)) H
theorem pg_u {i j : Nat} {n m : Str} {kk : Nat} {L : Str → Bool} (hc : X.calm = true) (hnd : X.N.Nodup) (hN : X.N = N) (hL : LocOk X L) (h1 : N[i]? = some n) (h2 : N[j]? = some m) (l1 : L n = true) (l2 : L m = true) :
    PG X (.Tuple [.Name n p1, .Name m p2] kk p3) (gU i j) := by
  have g1 : PG X (.Name n p1) (gName i) := pg_name hnd (by rw [hN]; exact h1) (hL n l1).1 (hL n l1).2
  have g2 : PG X (.Name m p2) (gName j) := pg_name hnd (by rw [hN]; exact h2) (hL m l2).1 (hL m l2).2
  have g3 := pg_tup (pos := p3) (k := kk) (n := 2) hc (pgs_cons g1 (pgs_cons g2 pgs_nil))
  refine ⟨fun pins s σ H v u Q I r hq => g3.run pins s σ H v u Q I r ?_⟩
  obtain ⟨T, p, q, rfl, hT, hq⟩ := hq
  exact ⟨T, [p, q], rfl, SqT.of hT, rfl, p, [q], rfl, q, [], rfl, rfl, hq⟩
theorem var_pe {i : Nat} {n : Str} {W : WX} {sc : Scope} (hx : XOk X c C nm ix N sc W k) (h1 : N[i]? = some n) (h2 : visB sc n = true) (h3 : plainB n = true) : PE X (.Name n pos) (tVar i) := by
  have hv : Vis X.env.scope n := by
    rw [hx.sc]
    unfold visB at h2
    split at h2
    · exact .inl ‹_›
    · exact .inr (.inl ‹_›)
    · exact .inr (.inr ‹_›)
    · cases h2
  unfold plainB at h3
  simp at h3
  exact pe_var (i := i) (by rw [hx.hN]; exact h1) hv (by simpa using h3.1.1) (by simpa using h3.1.2)
theorem wipe_length : ∀ own : List Nat, (L2.wipe σ own).length = σ.length
  | [] => rfl
  | i :: r => by
    show ((L2.wipe σ r).set i none).length = _
    rw [List.length_set, wipe_length r]
theorem unz_lc {i j : Nat} {own : List Nat} {Q : VK} (h : tE c C nf W (.unz a i j own) σ H Q) : tLc (iList c.K (tE c C nf W a)) (gU i j) tYes (tVar i) own σ H Q := by
  obtain ⟨B, ts, ws, Γ, w, hf, hi, hl, h⟩ := h
  rw [evE] at h
  rw [E.imp] at h hi
  have hlk : c.lk = [] := hl.resolve_right (by simp [E.plain])
  obtain ⟨hb, h⟩ := h.ens
  simp only [Bool.and_eq_true, Bool.not_eq_true', decide_eq_true_eq] at hb
  obtain ⟨⟨⟨⟨⟨⟨ho, hij⟩, hni⟩, hnj⟩, hli⟩, hlj⟩, ha⟩ := hb
  refine ⟨B, ts, ws, Γ, w, hf, fun z => (by rw [ha] at z; cases z), .inl hlk, PostR.on (es := []) (us := []) h.bind rfl ?_⟩
  intro d1 g1 _ h1 v1 H1 ext1 w1
  cases d1 with
  | nd f t ds =>
    cases t with
    | lst =>
      cases f with
      | own =>
        simp only at h1
        cases ef : firsts ds with
        | none => rw [ef] at h1; exact h1.elim
        | some fs =>
          rw [ef] at h1
          obtain ⟨hn, h1⟩ := PostR.ens h1
          have hlen : ds.length < sizeLine := okn_ok hn
          obtain ⟨ad, us, rfl, hat, l, w2⟩ := w1.opn
          obtain ⟨ps, lp, w3, hv⟩ := Wd.unzip (ad := []) (av := []) ef l rfl w2
          have w3 : Wd c B H1 (fs ++ ts) (ps ++ ws) g1 σ := w3
          have lf : fs.length = ps.length := by
            have e1 := w3.lenT
            have e2 := w2.drops l |>.lenT
            rw [List.length_append, List.length_append] at e1
            omega
          refine ⟨ad, rfl, ⟨us, SqL.of hat⟩, fun D0 hD => ?_⟩
          let Pv : Nat → Hp → Prop := fun m H2 => (∀ b o, H1 b = some o → H2 b = some o) ∧ H2 D0 = some (.lst (ps.take m))
          refine lc_it (walkL (n := us.length)) (Pv := Pv) ⟨fun b o e => upd_ext hD b o e, upd_same⟩ ?_ ?_ ?_
          · rintro m H2 _ ⟨e, _⟩
            exact ⟨us, SqL.of (e _ _ hat), rfl⟩
          · rintro m v H2 H3 hm ⟨e, hd⟩ ⟨rfl, hy⟩
            have hum := hy us (SqL.of (e _ _ hat))
            obtain ⟨T, p, q, rfl, hT, hp⟩ := hv m v hum
            have hii : i < (L2.wipe σ own).length := by rw [wipe_length, ← w.lenS]; exact hli
            have hsb : SameBut [i, j] (L2.wipe σ own) (((L2.wipe σ own).set i (some p)).set j (some q)) := ⟨by simp, fun m hm => by
              simp only [List.mem_cons, List.not_mem_nil, or_false, not_or] at hm
              rw [List.getElem?_set_ne (fun z => hm.2 z.symm), List.getElem?_set_ne (fun z => hm.1 z.symm)]⟩
            have hmo : ∀ m ∈ [i, j], m ∈ own := fun m hm => by
              rcases ho with rfl | rfl
              · exact hm
              · simp only [List.mem_cons, List.not_mem_nil, or_false] at hm ⊢
                exact hm.symm
            refine ⟨T, p, q, rfl, e _ _ hT, wipe_eq hsb hmo, ?_⟩
            simp only [tYes, if_true]
            refine ⟨p, ?_, ps.take m, hd, by rw [List.length_take]; omega, fun b o z => ?_, ?_⟩
            · rw [List.getElem?_set_ne (fun z => hij z.symm)]
              simp [hii]
            · have hne : b ≠ D0 := by
                rintro rfl
                rw [hD] at z
                cases z
              rw [upd_ne hne]
              exact e _ _ z
            · rw [upd_same, List.take_add_one, hp]
              rfl
          · rintro H2 ⟨e, hd⟩
            rw [← lp, List.take_length] at hd
            refine h1 (.ref D0) H2 (fun z b o q => e _ _ (ext1 ha b o q)) ?_
            have w4 : Wd c B (upd H1 D0 (.lst ps)) (.nd .own .lst fs :: ts) (.ref D0 :: ws) g1 σ := w3.alloc lf hD upd_same
            refine w4.ext fun b o z => ?_
            by_cases hb : b = D0
            · subst hb
              rw [upd_same] at z
              rw [hd]
              exact z
            · rw [upd_ne hb] at z
              exact e _ _ z
      | _ => exact h1.elim
    | _ => cases f <;> exact h1.elim
  | _ => exact h1.elim
theorem s_unz {it : Expr} {i j : Nat} {own : List Nat} {n m : Str} {kk : Nat} {scope : Scope} (hx : XOk X c C nm ix N sc W k) (hc : blkC N sc scope (own.map fun i => (N.getD i "", i)) = true) (hi : PE X it (tE c C nf W a)) (hs : noSet it = true)
    (h1 : N[i]? = some n) (h2 : N[j]? = some m) (v1 : visB (relS scope sc) n = true) (v2 : plainB n = true) (l1 : locB scope n = true) (l2 : locB scope m = true) :
    PE X (.ListComp (.Name n p1) [⟨.Tuple [.Name n p2, .Name m p3] kk p4, it, [], 0⟩] scope pos) (tE c C nf W (.unz a i j own)) := by
  have hb : BlkOk X.N X.env.scope scope (own.map fun i => (N.getD i "", i)) := by rw [hx.hN, hx.sc]; exact blkOk_by hc
  have hg : ∀ (s : Shared) (H : Hp) (A : Addr) (cl : List (Str × Addr)) (fp : List Addr), PG (X.blk s H scope (compEnvC scope cl A X.env) fp) (.Tuple [.Name n p2, .Name m p3] kk p4) (gU i j) := fun s H A cl fp => by
    have hx' := hx.blk s H scope cl A fp
    exact pg_u hx'.calm (by rw [hx'.hN]; exact hx'.nd) hx'.hN (LocOk.blk s H scope cl A fp) h1 h2 l1 l2
  have he : ∀ (s : Shared) (H : Hp) (A : Addr) (cl : List (Str × Addr)) (fp : List Addr), PE (X.blk s H scope (compEnvC scope cl A X.env) fp) (.Name n p1) (tVar i) := fun s H A cl fp => by
    have hx' := hx.blk s H scope cl A fp
    exact var_pe hx' h1 v1 v2
  refine peImp (pe_lc hx.calm (by rw [hx.hN]; exact hx.nd) (pi_list hi) hb hg (fun _ _ _ _ _ => pts_nil) he (noSet_fold hs)) fun σ H Q h => ?_
  rw [own_map, hx.hK]
  exact unz_lc h
end
end Bx

namespace Bx
open PySem PySem.Spec PyProof.Rows L2
/-- the object that set() lays -/
abbrev nso (w : World) : Obj := { cls := .type "set", dict := none, data := .set #[] 0 (.fresh 0 0 (!w.params.followText "set-order")) }
section
variable {P : Program} {w : World} {A : Around} {E : Value → Shared → Prop} {s : Shared}
set_option maxHeartbeats 3200000 in
/-- set(xs) of a list of whole numbers: what is in it, a walk over it can be told -/
theorem set_ints {l : Addr} {vs : Array Value} (ks : List Int) {Q : Value → Shared → Prop} (nh : A.handled = none) (isl : s.heap.IsList l vs) (int : IntsAre vs.toList ks) (room : ks.length + 1 < scanBound)
    (fin : ∀ (h1 : Heap) (tk n : Nat), SetR w h1 s.heap.objs.size (fun j => decide (j ∈ ks)) n → n ≤ ks.length → (∀ b o, s.heap.get? b = some o → h1.get? b = some o) → Q (.ref s.heap.objs.size) { s with heap := h1, toks := tk }) :
    wpAny (model P w) A (call (.type "set") [.ref l]) Q E s := by
  have vsz : vs.size = ks.length := by have e := IntsAre.length int; rwa [Array.length_toList] at e
  have ⟨c, tl, mro⟩ := F.called_set.mro; have made := F.called_set.made; have sub := F.called_set.sub; have nt := F.called_set.notType; have cc := F.called_set.canCreate; have tc := F.typeCall_set_1 (.ref l)
  refine wpAny_call (codeAny_of_tree ?_); show wpAny _ _ (callAny (.type "set") _) _ _ _; refine wpAny_pure ⟨Code.quiet_builtin _ (by decide +kernel), codeAny_builtin F.entry_type_call ?_⟩; rw [Around.under_plain (weight_type_call_type "set" [.ref l] []) rfl]
  repeat (any_goals (first | assumption | wp_step))
  refine codeAny_mono (code_set_led1 (.ref l) (E := E) (Q₁ := fun v s1 => v = .ref s.heap.objs.size ∧ s1 = { s with heap := s.heap.push (nso w) }) ⟨rfl, rfl⟩) fun r s1 hr => ?_
  match r, hr with
  | .error e, hr => exact hr
  | .ok (.ret v), hr =>
    obtain ⟨rfl, rfl⟩ := hr
    have at0 : (s.heap.push (nso w)).get? s.heap.objs.size = some (nso w) := Heap.get?_push_size _ rfl
    have ty0 : Shared.TypeIs { s with heap := s.heap.push (nso w) } (.ref s.heap.objs.size) "set" := ⟨_, at0, rfl⟩
    have il := F.called_set.init.lookup; have ib := F.called_set.init.bind (.ref s.heap.objs.size)
    repeat (any_goals (first | assumption | wp_step))
    refine codeAny_mono (codeAny_call_builtin (R := wants (fun r s2 => r = .none ∧ ∃ h1 tk n, s2 = { s with heap := h1, toks := tk } ∧ SetR w h1 s.heap.objs.size (fun j => decide (j ∈ ks)) n ∧ n ≤ ks.length ∧ (∀ b o, s.heap.get? b = some o → h1.get? b = some o)) E) F.called_set.init.plain F.entry_set_init (check_set_init_1 ty0 ?_)) fun r2 s2 hr2 => ?_
    · obtain ⟨⟨lc, ld, lx, lsl⟩, lat, lcl, ln, ldt⟩ := isl
      simp only at lcl ldt
      subst lcl ldt
      have lat1 : (s.heap.push (nso w)).get? l = some { cls := .type "list", dict := ld, data := .seq vs ln, slots := lsl } := Heap.get?_push_of_some _ lat
      have s1 := F.sub_list_set; have s2 := F.sub_list_frozenset; have ne1 : (Value.type "list" == Value.type "dict") = false := by decide
      have il1 : (s.heap.push (nso w)).IsList l vs := ⟨_, lat1, rfl, ln, rfl⟩
      unfold Builtin.«set.__init__» noKeywords Builtin.Frozenset.updateFrom
      generalize e : pyIter = pit; wp_walk; subst e
      refine wpAny_pyIter_list il1 (wpAny_bind (wpAny_runValue ?_))
      have l0 : l < s.heap.objs.size := Heap.lt_size lat
      have nh3 : A.in1.in1.in1.handled = none := by simp [nh]
      have z1 : (s.heap.push (nso w)).objs.size = s.heap.objs.size + 1 := Heap.size_push ..
      have out : s.heap.objs.size ∉ [(s.heap.push (nso w)).objs.size, l] := fun h => (List.mem_cons.mp h).elim (fun e => Nat.ne_of_lt (Nat.lt_succ_self _) (e.trans z1)) fun h => Nat.ne_of_gt l0 (List.mem_singleton.mp h)
      have val : ∀ (i : Nat) (v : Value), vs[i]? = some v → ∃ k t, ks[i]? = some k ∧ v = .int k t := fun i v hv => by
        have hi : i < ks.length := vsz ▸ (Array.getElem?_eq_some_iff.mp hv).1
        obtain ⟨t, et⟩ := PyProof.Rows.IntsAre.int_at int i v (by rwa [Array.getElem?_toList])
        exact ⟨ks[i], t, List.getElem?_eq_getElem hi, by rw [et, List.getD_eq_getElem?_getD, List.getElem?_eq_getElem hi]; rfl⟩
      refine set_update_ints ((Walks.list nh3 _ l (fun e => Nat.ne_of_lt (Nat.lt_succ_of_lt l0) (e.trans z1)) vs).toS) s.heap.objs.size out ks vsz room val (vs.size - 0) 0 _ (by omega) (Nat.zero_le _) ⟨⟨_, Heap.get?_push_size _ rfl, rfl, rfl⟩, (il1.push _)⟩ ⟨0, Nat.le_refl 0, setR_new_at (Heap.get?_push_of_some _ at0)⟩ fun s3 n mv hn R3 => ?_
      obtain ⟨h3, g3, d3, t3, o3⟩ := s3
      obtain rfl : g3 = s.gens := mv.gens
      obtain rfl : d3 = s.drawn := mv.drawn
      obtain rfl : o3 = s.os := mv.os
      show wpAny _ _ _ _ _ _
      refine wpAny_pure ?_
      show wpAny _ _ (ret Value.none) _ _ _
      refine wpAny_pure ⟨rfl, h3, t3, n, rfl, R3, vsz ▸ hn, fun b o eb => mv.heap b o ?_ (Heap.get?_push_of_some _ (Heap.get?_push_of_some _ eb))⟩
      have lb := Heap.lt_size eb
      exact fun h => (List.mem_cons.mp h).elim (fun e => Nat.ne_of_lt lb e) fun h => Nat.ne_of_lt (Nat.lt_succ_of_lt lb) ((List.mem_singleton.mp h).trans z1)
    · match r2, hr2 with
      | .error e, hr2 => exact hr2
      | .ok (.ret v2), hr2 =>
        obtain ⟨rfl, h1, tk, n, rfl, R2, hn, hk⟩ := hr2
        repeat (any_goals (first | assumption | wp_step))
        exact fin _ _ _ R2 hn hk
      | .ok .next, hr2 => exact hr2.elim
end
end Bx

namespace Bx
open PySem PySem.Spec PyProof.Rows L2
section
variable {X : Cx} {c : Wc} {C : Cxt} {nm : Nms} {ix : Ix} {N : List Str} {sc : Scope} {W : WX} {k nf : Nat} {x y z : Expr} {a b d e es p : E} {xs : List Expr} {pos p1 p2 p3 p4 apos : Pos} {σ : L2.St} {H : Hp} {B : Bs} {ts : List D} {ws : List V} {Γ : List D}
/-- set(xs), xs a list of whole numbers -/
def rSetI (K : PySem.W.Frag) (w : World) : List V → Hp → VK → Prop := fun vs H Q => ∃ (l : Addr) (ns : List Int), vs = [.ref l] ∧ SqL K H l (ns.map V.int) ∧ ns.length < 64 ∧
  ∀ a n, H a = none → n ≤ ns.length → Q (.ref a) (upd H a (SetO w a (fun j => decide (j ∈ ns)) n))
theorem cr_setI (hc : X.calm = true) : CallR X (.type "set") (rSetI X.K X.w) := by
  intro pins s σ H vs us Q I r h
  obtain ⟨l, ns, rfl, hl, hf, q⟩ := h
  rw [Vals.ref1 r]
  obtain ⟨its, rv, pl, hz⟩ := I.list hl
  exact set_ints (P := X.prog) (w := X.w) ns (I.ok.hd hc) pl.isList (by simpa using RZ.intsAre_vals rv) (by unfold scanBound; omega) fun h1 tk n R hn k =>
    ⟨.ref s.heap.objs.size, upd H s.heap.objs.size (SetO X.w s.heap.objs.size (fun j => decide (j ∈ ns)) n), I.laid (t' := tk) k (Nat.le_refl _) (setO_new R), rfl, q _ n (I.hok.fresh (Nat.le_refl _)) hn⟩
theorem mem_dedup (x : Int) : ∀ l : List Int, x ∈ dedup l ↔ x ∈ l
  | [] => Iff.rfl
  | y :: r => by
    rw [dedup]
    by_cases h : y ∈ r
    · rw [if_pos h, mem_dedup x r, List.mem_cons]
      exact ⟨.inr, fun z => z.elim (fun z => z ▸ h) fun z => z⟩
    · rw [if_neg h, List.mem_cons, List.mem_cons, mem_dedup x r]
theorem nodup_dedup : ∀ l : List Int, (dedup l).Nodup
  | [] => List.nodup_nil
  | y :: r => by
    rw [dedup]
    by_cases h : y ∈ r
    · rw [if_pos h]
      exact nodup_dedup r
    · rw [if_neg h, List.nodup_cons, mem_dedup]
      exact ⟨h, nodup_dedup r⟩
theorem set_sorted {ms ns : List Int} (hp : ms.Pairwise (· < ·)) (hm : ∀ k, k ∈ ms ↔ k ∈ ns) : ms = isort (dedup ns) := by
  have n1 : ms.Nodup := List.nodup_iff_pairwise_ne.mpr (hp.imp fun h => Int.ne_of_lt h)
  have pm : ms.Perm (dedup ns) := (List.perm_ext_iff_of_nodup n1 (nodup_dedup ns)).mpr fun k => (hm k).trans (mem_dedup k ns).symm
  exact sorted_one (pm.trans (isort_perm _).symm) (hp.imp fun h => Int.le_of_lt h) (isort_sorted _)
theorem s_sset {h1 h2 : Expr} (hx : XOk X c C nm ix N sc W k) (hg1 : isGl sc "sorted" h1 = true) (hg2 : isGl sc "set" h2 = true) (hs : noStar x = true) (ha : PE X x (tE c C nf W a)) : PE X (.Call h1 [.Call h2 [x] [] p1] [] pos) (tE c C nf W (.sset a)) := by
  obtain ⟨p, rfl, g, d1, n1⟩ := isGl_ok hx hg1
  obtain ⟨p', rfl, g', d2, n2⟩ := isGl_ok hx hg2
  have in1 := pe_callTy (p := p') (pos := p1) (cr_setI hx.calm) g' (hx.blt _ (by decide)) PyProof.Rows.boot_set (pa_cons ha pa_nil (star_cons hs)) n2 d2 (star_cons hs) rfl
  have out1 := pe_callB (p := p) (pos := pos) (cr_sortedSet hx.calm) g (hx.blt _ (by decide)) boot_sorted (pa_cons in1 pa_nil (star_cons rfl)) n1 d1 (star_cons rfl) rfl
  refine peImp out1 fun σ H Q h => ?_
  obtain ⟨B, ts, ws, Γ, w, hf, hi, hl, h⟩ := h
  rw [evE] at h
  rw [E.imp] at h hi
  refine ⟨B, ts, ws, Γ, w, hf, hi, .inl (hl.resolve_right (by simp [E.plain])), PostR.on (es := []) (us := []) h.bind rfl ?_⟩
  intro d g1 _ h1 v H1 ext w1
  cases d with
  | nd f t ds =>
    cases t with
    | lst =>
      obtain ⟨r, er, q⟩ := PostR.of h1
      cases ei : D.ints ds with
      | none => rw [ei] at er; cases er
      | some ns =>
        rw [ei] at er
        simp only [Option.bind_some] at er
        split at er
        · rename_i h64
          simp only [Option.some.injEq] at er
          subst er
          obtain ⟨l, us, rfl, hp, _⟩ := w1.peek
          have eu := w1.ints hp ei
          subst eu
          rw [hx.hK]
          refine ⟨l, ns, rfl, SqL.of hp, h64, fun sa n hsa hn => ⟨sa, _, n, rfl, upd_same, by omega, fun ms p' hpw hm hlen hp' => ?_⟩⟩
          have em := set_sorted (ns := ns) hpw fun k => ⟨fun z => of_decide_eq_true ((hm k).mp z), fun z => (hm k).mpr (decide_eq_true z)⟩
          subst em
          have w2 : Wd c B (upd H1 sa (SetO X.w sa (fun j => decide (j ∈ ns)) n)) ts ws g1 σ := w1.drop.ext fun b o e => upd_ext hsa b o e
          exact q _ _ (fun z b o e => upd_ext hp' b o (upd_ext hsa b o (ext z b o e))) ((w2.pushInts _).alloc (by simp) hp' upd_same)
        · cases er
    | _ => exact h1.elim
  | _ => exact h1.elim
end
end Bx

namespace Bx
open PySem PySem.Spec PyProof.Rows L2

section
variable {X : Cx} {c : Wc} {C : Cxt} {nm : Nms} {ix : Ix} {N : List Str} {sc : Scope} {W : WX} {k nf : Nat} {x y z : Expr} {a b d e es p : E} {xs : List Expr} {pos p1 p2 apos : Pos} {σ : L2.St} {H : Hp} {B : Bs} {ts : List D} {ws : List V} {Γ : List D}

def isBop : Expr → Bool
  | .BoolOp _ _ _ => true
  | _ => false
structure Snd (c : Wc) (C : Cxt) (nm : Nms) (ix : Ix) (N : List Str) (nf k : Nat) (e : E) : Prop where
  pe : ∀ {X : Cx} {W : WX} {sc : Scope} {x : Expr}, XOk X c C nm ix N sc W k → trE N nm e sc x = true → PE X x (tE c C nf W e)
  pt : ∀ {X : Cx} {W : WX} {sc : Scope} {x : Expr}, XOk X c C nm ix N sc W k → trE N nm e sc x = true → noIf x = true → PT X x (tT c C nf W e)
  pw : ∀ {X : Cx} {W : WX} {sc : Scope} {x : Expr}, XOk X c C nm ix N sc W k → trE N nm e sc x = true → isBop x = true → PW X x (tT c C nf W e)
  pp : ∀ {X : Cx} {W : WX} {sc : Scope} {x : Expr}, XOk X c C nm ix N sc W k → trE N nm e sc x = true → PE X x (tP c C nf W e)
  pa : ∀ {X : Cx} {W : WX} {sc : Scope} {xs : List Expr}, XOk X c C nm ix N sc W k → trA N nm e sc xs = true → PA X xs (tA c C nf W e)
  pi : ∀ {X : Cx} {W : WX} {sc : Scope} {x tg : Expr}, XOk X c C nm ix N sc W k → trI N nm e sc x = true → (e.pairs = true → isTupT tg = true) → PI X tg x (tI c C nf W e)
theorem tP_bad (h : ∀ g, evP C nf e g = .bad) : ∀ σ H Q, ¬ tP c C nf W e σ H Q := fun σ H Q ⟨B, ts, ws, Γ, w, hf, hl, z⟩ => by
  rw [h] at z
  exact z
theorem tE_bad (h : ∀ g, evE C nf e g = .bad) : ∀ σ H Q, ¬ tE c C nf W e σ H Q := fun σ H Q ⟨B, ts, ws, Γ, w, hf, hi, hl, z⟩ => by
  rw [h] at z
  exact z
theorem tI_bad (h : ∀ g, evI C nf e g = .bad) : ∀ σ H Q, ¬ tI c C nf W e σ H Q := fun σ H Q ⟨B, ts, ws, Γ, w, hf, hi, hl, z⟩ => by
  rw [h] at z
  exact z
/-- an expression that is no place, no list of expressions, nothing walked over -/
theorem mkS (pe : ∀ {X : Cx} {W : WX} {sc : Scope} {x : Expr}, XOk X c C nm ix N sc W k → trE N nm e sc x = true → PE X x (tE c C nf W e))
    (hp : ∀ sc x, trE N nm e sc x = true → plainT x = true) (hP : ∀ g, evP C nf e g = .bad) (hA : ∀ sc xs, trA N nm e sc xs = false) (hI : ∀ sc x, trI N nm e sc x = false) : Snd c C nm ix N nf k e where
  pe := pe
  pt := fun hx h _ => peT (pe hx h) (plainT_ok (hp _ _ h))
  pw := fun {X W sc x} hx h hb => by
    have := hp _ _ h
    cases x <;> first | (simp [plainT] at this; done) | (simp [isBop] at hb; done)
  pp := fun _ _ => peBad (tP_bad hP)
  pa := fun hx h => by rw [hA] at h; cases h
  pi := fun hx h _ => by rw [hI] at h; cases h
/-- a place -/
theorem mkSP (pe : ∀ {X : Cx} {W : WX} {sc : Scope} {x : Expr}, XOk X c C nm ix N sc W k → trE N nm e sc x = true → PE X x (tE c C nf W e))
    (pp : ∀ {X : Cx} {W : WX} {sc : Scope} {x : Expr}, XOk X c C nm ix N sc W k → trE N nm e sc x = true → PE X x (tP c C nf W e))
    (hp : ∀ sc x, trE N nm e sc x = true → plainT x = true) (hA : ∀ sc xs, trA N nm e sc xs = false) (hI : ∀ sc x, trI N nm e sc x = false) : Snd c C nm ix N nf k e where
  pe := pe
  pt := fun hx h _ => peT (pe hx h) (plainT_ok (hp _ _ h))
  pw := fun {X W sc x} hx h hb => by
    have := hp _ _ h
    cases x <;> first | (simp [plainT] at this; done) | (simp [isBop] at hb; done)
  pp := pp
  pa := fun hx h => by rw [hA] at h; cases h
  pi := fun hx h _ => by rw [hI] at h; cases h
/-- a test -/
theorem mkST (pe : ∀ {X : Cx} {W : WX} {sc : Scope} {x : Expr}, XOk X c C nm ix N sc W k → trE N nm e sc x = true → PE X x (tE c C nf W e))
    (pt : ∀ {X : Cx} {W : WX} {sc : Scope} {x : Expr}, XOk X c C nm ix N sc W k → trE N nm e sc x = true → noIf x = true → PT X x (tT c C nf W e))
    (pw : ∀ {X : Cx} {W : WX} {sc : Scope} {x : Expr}, XOk X c C nm ix N sc W k → trE N nm e sc x = true → isBop x = true → PW X x (tT c C nf W e))
    (hP : ∀ g, evP C nf e g = .bad) (hA : ∀ sc xs, trA N nm e sc xs = false) (hI : ∀ sc x, trI N nm e sc x = false) : Snd c C nm ix N nf k e where
  pe := pe
  pt := pt
  pw := pw
  pp := fun _ _ => peBad (tP_bad hP)
  pa := fun hx h => by rw [hA] at h; cases h
  pi := fun hx h _ => by rw [hI] at h; cases h
/-- not an expression -/
theorem mkSN (hE : ∀ sc x, trE N nm e sc x = false) (pa : ∀ {X : Cx} {W : WX} {sc : Scope} {xs : List Expr}, XOk X c C nm ix N sc W k → trA N nm e sc xs = true → PA X xs (tA c C nf W e))
    (pi : ∀ {X : Cx} {W : WX} {sc : Scope} {x tg : Expr}, XOk X c C nm ix N sc W k → trI N nm e sc x = true → (e.pairs = true → isTupT tg = true) → PI X tg x (tI c C nf W e)) : Snd c C nm ix N nf k e where
  pe := fun hx h => by rw [hE] at h; cases h
  pt := fun hx h => by rw [hE] at h; cases h
  pw := fun hx h => by rw [hE] at h; cases h
  pp := fun hx h => by rw [hE] at h; cases h
  pa := pa
  pi := pi
theorem ptw {t : TT} (h : PW X x t) : PT X x t := ⟨fun pins s σ H Q I hq => h.run _ pins s σ H Q I hq⟩
theorem pwImp {t t' : TT} (h : PW X x t) (f : ∀ σ H Q, t' σ H Q → t σ H Q) : PW X x t' := ⟨fun wh pins s σ H Q I h' => h.run wh pins s σ H Q I (f _ _ _ h')⟩
end
end Bx

namespace Bx
open PySem PySem.Spec PyProof.Rows L2

section
variable {X : Cx} {c : Wc} {C : Cxt} {nm : Nms} {ix : Ix} {N : List Str} {sc : Scope} {W : WX} {k nf : Nat} {x y z : Expr} {a b d e es p : E} {xs : List Expr} {pos p1 p2 apos : Pos} {σ : L2.St} {H : Hp} {B : Bs} {ts : List D} {ws : List V} {Γ : List D}

theorem snd_a (i : Int) : Snd c C nm ix N nf k (.int i) :=
  mkS (fun hx h => by unfold trE at h; split at h <;> first | (cases h; done) | (simp only [decide_eq_true_eq] at h; subst h; exact s_int)) (fun sc x h => by unfold trE at h; split at h <;> first | rfl | cases h) (fun g => by simp [evP]) (fun _ _ => by simp [trA]) (fun _ _ => by simp [trI])
theorem sndE : ∀ e : E, Snd c C nm ix N nf k e := by
  intro e
  induction e with
  | int i => exact snd_a i
  | non =>
    exact mkS (fun hx h => by unfold trE at h; split at h <;> first | (cases h; done) | exact s_non) (fun sc x h => by unfold trE at h; split at h <;> first | rfl | cases h) (fun g => by simp [evP]) (fun _ _ => by simp [trA]) (fun _ _ => by simp [trI])
  | bl i =>
    exact mkS (fun hx h => by unfold trE at h; split at h <;> first | (cases h; done) | (simp only [decide_eq_true_eq] at h; subst h; exact s_bl)) (fun sc x h => by unfold trE at h; split at h <;> first | rfl | cases h) (fun g => by simp [evP]) (fun _ _ => by simp [trA]) (fun _ _ => by simp [trI])
  | str i =>
    exact mkS (fun hx h => by unfold trE at h; split at h <;> first | (cases h; done) | (simp only [decide_eq_true_eq] at h; subst h; exact s_str)) (fun sc x h => by unfold trE at h; split at h <;> first | rfl | cases h) (fun g => by simp [evP]) (fun _ _ => by simp [trA]) (fun _ _ => by simp [trI])
  | glo i =>
    exact mkS (fun hx h => by unfold trE at h; exact s_glo hx h) (fun sc x h => by unfold trE at h; cases x <;> first | rfl | (simp [isGl] at h)) (fun g => by simp [evP]) (fun _ _ => by simp [trA]) (fun _ _ => by simp [trI])
  | var i m =>
    exact mkSP (fun hx h => by
      unfold trE at h
      split at h
      · simp only [Bool.and_eq_true, decide_eq_true_eq] at h
        exact s_var hx h.1.1 h.1.2 h.2
      · cases h) (fun hx h => by
      unfold trE at h
      split at h
      · simp only [Bool.and_eq_true, decide_eq_true_eq] at h
        exact s_pvar hx h.1.1 h.1.2 h.2
      · cases h) (fun sc x h => by unfold trE at h; split at h <;> first | rfl | cases h) (fun _ _ => by simp [trA]) (fun _ _ => by simp [trI])
  | nil =>
    exact mkSN (fun _ _ => by simp [trE]) (fun hx h => by
      unfold trA at h
      split at h
      · exact a_nil
      · cases h) (fun hx h => by simp [trI] at h)
  | cons e es ihe ihs =>
    exact mkSN (fun _ _ => by simp [trE]) (fun hx h => by
      unfold trA at h
      split at h
      · simp only [Bool.and_eq_true] at h
        exact a_cons h.1.1 (ihe.pe hx h.1.2) (ihs.pa hx h.2)
      · cases h) (fun hx h => by simp [trI] at h)
  | lst es ih =>
    exact mkS (fun hx h => by unfold trE at h; split at h <;> first | (cases h; done) | exact s_lst (ih.pa hx h)) (fun sc x h => by unfold trE at h; split at h <;> first | rfl | cases h) (fun g => by simp [evP]) (fun _ _ => by simp [trA]) (fun _ _ => by simp [trI])
  | tup es ih =>
    exact mkS (fun hx h => by unfold trE at h; split at h <;> first | (cases h; done) | exact s_tup (ih.pa hx h)) (fun sc x h => by unfold trE at h; split at h <;> first | rfl | cases h) (fun g => by simp [evP]) (fun _ _ => by simp [trA]) (fun _ _ => by simp [trI])
  | dnew =>
    exact mkS (fun hx h => by unfold trE at h; split at h <;> first | (cases h; done) | exact s_dnew) (fun sc x h => by unfold trE at h; split at h <;> first | rfl | cases h) (fun g => by simp [evP]) (fun _ _ => by simp [trA]) (fun _ _ => by simp [trI])
  | op o a b iha ihb =>
    exact mkS (fun hx h => by
      unfold trE at h
      split at h
      · simp only [Bool.and_eq_true] at h
        rw [opM_ok h.1.1]
        exact s_op (iha.pe hx h.1.2) (ihb.pe hx h.2)
      · cases h) (fun sc x h => by unfold trE at h; split at h <;> first | rfl | cases h) (fun g => by simp [evP]) (fun _ _ => by simp [trA]) (fun _ _ => by simp [trI])
  | neg a ih =>
    exact mkS (fun hx h => by unfold trE at h; split at h <;> first | (cases h; done) | exact s_neg (ih.pe hx h)) (fun sc x h => by unfold trE at h; split at h <;> first | rfl | cases h) (fun g => by simp [evP]) (fun _ _ => by simp [trA]) (fun _ _ => by simp [trI])
  | cmp o a b iha ihb =>
    exact mkST (fun hx h => by
      unfold trE at h
      split at h
      · simp only [Bool.and_eq_true] at h
        rw [cmM_ok h.1.1.1]
        exact (s_cmp hx h.1.1.2 (iha.pe hx h.1.2) (ihb.pe hx h.2)).1
      · cases h) (fun hx h _ => by
      unfold trE at h
      split at h
      · simp only [Bool.and_eq_true] at h
        rw [cmM_ok h.1.1.1]
        exact (s_cmp hx h.1.1.2 (iha.pe hx h.1.2) (ihb.pe hx h.2)).2
      · cases h) (fun hx h hb => by
      unfold trE at h
      split at h
      · cases hb
      · cases h) (fun g => by simp [evP]) (fun _ _ => by simp [trA]) (fun _ _ => by simp [trI])
  | chn o p a b d iha ihb ihd =>
    exact mkST (fun hx h => by
      unfold trE at h
      split at h
      · simp only [Bool.and_eq_true] at h
        rw [cmM_ok h.1.1.1.1.1.1, cmM_ok h.1.1.1.1.1.2]
        exact (s_chn hx h.1.1.1.1.2 h.1.1.1.2 (iha.pe hx h.1.1.2) (ihb.pe hx h.1.2) (ihd.pe hx h.2)).1
      · cases h) (fun hx h _ => by
      unfold trE at h
      split at h
      · simp only [Bool.and_eq_true] at h
        rw [cmM_ok h.1.1.1.1.1.1, cmM_ok h.1.1.1.1.1.2]
        exact (s_chn hx h.1.1.1.1.2 h.1.1.1.2 (iha.pe hx h.1.1.2) (ihb.pe hx h.1.2) (ihd.pe hx h.2)).2
      · cases h) (fun hx h hb => by
      unfold trE at h
      split at h
      · cases hb
      · cases h) (fun g => by simp [evP]) (fun _ _ => by simp [trA]) (fun _ _ => by simp [trI])
  | and a b iha ihb =>
    have pw : ∀ {X : Cx} {W : WX} {sc : Scope} {x : Expr}, XOk X c C nm ix N sc W k → trE N nm (.and a b) sc x = true → PW X x (tT c C nf W (.and a b)) := fun hx h => by
      unfold trE at h
      split at h
      · simp only [Bool.and_eq_true] at h
        exact pwImp (pw_and (iha.pt hx h.1.2 h.1.1) (ihb.pw hx h.2 rfl)) fun _ _ _ => and_t
      · cases h
    exact mkST (fun hx h => by
      unfold trE at h
      split at h
      · simp only [Bool.and_eq_true] at h
        exact peImp (pe_and (iha.pe hx h.1.2) (ihb.pe hx h.2)) fun _ _ _ => and_e
      · cases h) (fun hx h _ => ptw (pw hx h)) (fun hx h _ => pw hx h) (fun g => by simp [evP]) (fun _ _ => by simp [trA]) (fun _ _ => by simp [trI])
  | or a b iha ihb =>
    have pw : ∀ {X : Cx} {W : WX} {sc : Scope} {x : Expr}, XOk X c C nm ix N sc W k → trE N nm (.or a b) sc x = true → PW X x (tT c C nf W (.or a b)) := fun hx h => by
      unfold trE at h
      split at h
      · simp only [Bool.and_eq_true] at h
        exact pwImp (pw_or (iha.pt hx h.1.2 h.1.1) (ihb.pw hx h.2 rfl)) fun _ _ _ => or_t
      · cases h
    exact mkST (fun hx h => by
      unfold trE at h
      split at h
      · simp only [Bool.and_eq_true] at h
        exact peImp (pe_or (iha.pe hx h.1.2) (ihb.pe hx h.2)) fun _ _ _ => or_e
      · cases h) (fun hx h _ => ptw (pw hx h)) (fun hx h _ => pw hx h) (fun g => by simp [evP]) (fun _ _ => by simp [trA]) (fun _ _ => by simp [trI])
  | one a ih =>
    have pw : ∀ {X : Cx} {W : WX} {sc : Scope} {x : Expr}, XOk X c C nm ix N sc W k → trE N nm (.one a) sc x = true → PW X x (tT c C nf W (.one a)) := fun {X W sc x} hx h => by
      unfold trE at h
      split at h
      · rename_i op y p
        simp only [Bool.and_eq_true] at h
        cases op with
        | And => exact pwImp (pw_and1 (ih.pt hx h.2 h.1)) fun _ _ _ => one_t
        | Or => exact pwImp (pw_or1 (ih.pt hx h.2 h.1)) fun _ _ _ => one_t
      · cases h
    exact mkST (fun hx h => by
      unfold trE at h
      split at h
      · simp only [Bool.and_eq_true] at h
        exact peImp (pe_one (ih.pe hx h.2)) fun _ _ _ => one_e
      · cases h) (fun hx h _ => ptw (pw hx h)) (fun hx h _ => pw hx h) (fun g => by simp [evP]) (fun _ _ => by simp [trA]) (fun _ _ => by simp [trI])
  | frz a ih =>
    exact mkST (fun hx h => peImp (ih.pe hx (by rw [trE] at h; exact h)) fun _ _ _ => frz_e) (fun hx h hn => ptImp (ih.pt hx (by rw [trE] at h; exact h) hn) fun _ _ _ => frz_t) (fun hx h hb => pwImp (ih.pw hx (by rw [trE] at h; exact h) hb) fun _ _ _ => frz_t)
      (fun g => by simp [evP]) (fun _ _ => by simp [trA]) (fun _ _ => by simp [trI])
  | not a ih =>
    exact mkST (fun hx h => by
      unfold trE at h
      split at h
      · simp only [Bool.and_eq_true] at h
        exact peImp (pe_not (ih.pe hx h.2)) fun _ _ _ => not_e
      · cases h) (fun hx h _ => by
      unfold trE at h
      split at h
      · simp only [Bool.and_eq_true] at h
        exact ptImp (pt_not (ih.pt hx h.2 h.1)) fun _ _ _ => not_t
      · cases h) (fun hx h hb => by
      unfold trE at h
      split at h
      · cases hb
      · cases h) (fun g => by simp [evP]) (fun _ _ => by simp [trA]) (fun _ _ => by simp [trI])
  | ife d a b ihd iha ihb =>
    exact mkST (fun hx h => by
      unfold trE at h
      split at h
      · simp only [Bool.and_eq_true] at h
        exact peImp (pe_ifExp (ihd.pt hx h.1.1.2 h.1.1.1) (iha.pe hx h.1.2) (ihb.pe hx h.2)) fun _ _ _ => ife_e
      · cases h) (fun hx h hn => by
      unfold trE at h
      split at h
      · cases hn
      · cases h) (fun hx h hb => by
      unfold trE at h
      split at h
      · cases hb
      · cases h) (fun g => by simp [evP]) (fun _ _ => by simp [trA]) (fun _ _ => by simp [trI])
  | ix a b iha ihb =>
    exact mkSP (fun hx h => by
      unfold trE at h
      split at h
      · simp only [Bool.and_eq_true] at h
        exact s_ix hx h.1.1 (iha.pe hx h.1.2) (ihb.pe hx h.2)
      · cases h) (fun hx h => by
      unfold trE at h
      split at h
      · simp only [Bool.and_eq_true] at h
        exact s_pix hx h.1.1 (iha.pp hx h.1.2) (ihb.pe hx h.2)
      · cases h) (fun sc x h => by unfold trE at h; split at h <;> first | rfl | cases h) (fun _ _ => by simp [trA]) (fun _ _ => by simp [trI])
  | sl a l h iha ihl ihh =>
    exact mkS (fun {X W sc x} hx z => by
      unfold trE at z
      split at z
      · rename_i y lo hi p2 p
        simp only [Bool.and_eq_true] at z
        refine s_sl hx (iha.pe hx z.1.1) ?_ ?_ (fun w e => ?_) (fun w e => ?_)
        · cases lo with
          | none => exact z.1.2
          | some _ => have := z.1.2; simp only [Bool.and_eq_true] at this; exact this.1
        · cases hi with
          | none => exact z.2
          | some _ => have := z.2; simp only [Bool.and_eq_true] at this; exact this.1
        · subst e
          have := z.1.2
          simp only [Bool.and_eq_true] at this
          exact ihl.pe hx this.2
        · subst e
          have := z.2
          simp only [Bool.and_eq_true] at this
          exact ihh.pe hx this.2
      · cases z) (fun sc x h => by unfold trE at h; split at h <;> first | rfl | cases h) (fun g => by simp [evP]) (fun _ _ => by simp [trA]) (fun _ _ => by simp [trI])
  | nop =>
    exact mkSN (fun _ _ => by simp [trE]) (fun hx h => by simp [trA] at h) (fun hx h => by simp [trI] at h)
  | rev a ih =>
    exact mkS (fun hx h => by
      unfold trE at h
      split at h
      · simp only [Bool.and_eq_true, decide_eq_true_eq] at h
        rw [h.1]
        exact s_rev hx (ih.pe hx h.2)
      · cases h) (fun sc x h => by unfold trE at h; split at h <;> first | rfl | cases h) (fun g => by simp [evP]) (fun _ _ => by simp [trA]) (fun _ _ => by simp [trI])
  | fld a f ih =>
    exact mkSP (fun hx h => by
      unfold trE at h
      split at h
      · simp only [Bool.and_eq_true, decide_eq_true_eq] at h
        obtain ⟨⟨rfl, h1⟩, h2⟩ := h
        exact s_fld hx h1 (ih.pe hx h2)
      · cases h) (fun hx h => by
      unfold trE at h
      split at h
      · simp only [Bool.and_eq_true, decide_eq_true_eq] at h
        obtain ⟨⟨rfl, h1⟩, h2⟩ := h
        exact s_pfld hx h1 (ih.pp hx h2)
      · cases h) (fun sc x h => by unfold trE at h; split at h <;> first | rfl | cases h) (fun _ _ => by simp [trA]) (fun _ _ => by simp [trI])
  | call f es ih =>
    exact mkS (fun hx h => by
      unfold trE at h
      split at h
      · simp only [Bool.and_eq_true] at h
        exact s_call hx h.1.1 h.1.2 (noStars_of h.2) (ih.pa hx h.2)
      · cases h) (fun sc x h => by unfold trE at h; split at h <;> first | rfl | cases h) (fun g => by simp [evP]) (fun _ _ => by simp [trA]) (fun _ _ => by simp [trI])
  | mth a m es iha ih =>
    exact mkS (fun hx h => by
      unfold trE at h
      split at h
      · simp only [Bool.and_eq_true, decide_eq_true_eq] at h
        obtain ⟨⟨⟨⟨⟨h1, h2⟩, rfl⟩, h4⟩, h5⟩, h6⟩ := h
        exact s_mth hx h4 h1 h2 (noStars_of h6) (iha.pe hx h5) (ih.pa hx h6)
      · cases h) (fun sc x h => by unfold trE at h; split at h <;> first | rfl | cases h) (fun g => by simp [evP]) (fun _ _ => by simp [trA]) (fun _ _ => by simp [trI])
  | bi b es ih =>
    exact mkS (fun hx h => by
      unfold trE at h
      split at h
      · simp only [Bool.and_eq_true] at h
        exact s_bi hx h.1 (noStars_of h.2) (nil_of h.2) (ih.pa hx h.2)
      · cases h) (fun sc x h => by unfold trE at h; split at h <;> first | rfl | cases h) (fun g => by simp [evP]) (fun _ _ => by simp [trA]) (fun _ _ => by simp [trI])
  | isi a t ih =>
    exact mkS (fun hx h => by
      unfold trE at h
      split at h
      · simp only [Bool.and_eq_true] at h
        exact s_isi hx h.1.1.1 h.1.1.2 h.2 (ih.pe hx h.1.2)
      · cases h) (fun sc x h => by unfold trE at h; split at h <;> first | rfl | cases h) (fun g => by simp [evP]) (fun _ _ => by simp [trA]) (fun _ _ => by simp [trI])
  | lset a ih =>
    exact mkS (fun hx h => by
      unfold trE at h
      split at h
      · simp only [Bool.and_eq_true] at h
        exact s_lset (xs2 := []) hx h.1.1.1 h.1.1.2 h.1.2 (ih.pe hx h.2)
      · cases h) (fun sc x h => by unfold trE at h; split at h <;> first | rfl | cases h) (fun g => by simp [evP]) (fun _ _ => by simp [trA]) (fun _ _ => by simp [trI])
  | dzip a b iha ihb =>
    exact mkS (fun hx h => by
      unfold trE at h
      split at h
      · simp only [Bool.and_eq_true] at h
        exact s_dzip hx h.1.1.1.1.1 h.1.1.1.1.2 h.1.1.1.2 h.1.1.2 (iha.pe hx h.1.2) (ihb.pe hx h.2)
      · cases h) (fun sc x h => by unfold trE at h; split at h <;> first | rfl | cases h) (fun g => by simp [evP]) (fun _ _ => by simp [trA]) (fun _ _ => by simp [trI])
  | dprs a ih =>
    exact mkS (fun hx h => by
      unfold trE at h
      split at h
      · simp only [Bool.and_eq_true] at h
        exact s_dprs hx h.1.1 h.1.2 (ih.pe hx h.2)
      · cases h) (fun sc x h => by unfold trE at h; split at h <;> first | rfl | cases h) (fun g => by simp [evP]) (fun _ _ => by simp [trA]) (fun _ _ => by simp [trI])
  | «mut» p m es ihp ih =>
    exact mkS (fun hx h => by
      unfold trE at h
      split at h
      · simp only [Bool.and_eq_true, decide_eq_true_eq] at h
        obtain ⟨⟨⟨⟨⟨h1, h2⟩, rfl⟩, h4⟩, h5⟩, h6⟩ := h
        exact s_mut hx h4 h1 h2 (noStars_of h6) (nil_of h6) (ihp.pp hx h5) (ih.pa hx h6)
      · cases h) (fun sc x h => by unfold trE at h; split at h <;> first | rfl | cases h) (fun g => by simp [evP]) (fun _ _ => by simp [trA]) (fun _ _ => by simp [trI])
  | comp e d t a own ihe ihd iha =>
    exact mkS (fun {X W sc x} hx h => by
      unfold trE at h
      split at h
      · rename_i elt tg it ifs scope p
        simp only [Bool.and_eq_true] at h
        obtain ⟨⟨⟨⟨⟨⟨h1, h2⟩, h3⟩, h4⟩, h5⟩, h6⟩, h7⟩ := h
        refine s_comp hx h6 (iha.pi hx h1 (fun z => by rw [z] at h2; simpa using h2)) h3 h7 ?_ (fun X' hx' => ihe.pe hx' h5)
        match ifs, h4 with
        | [], h4 => exact h4
        | [z], h4 =>
          simp only [Bool.and_eq_true, Bool.not_eq_true'] at h4
          exact ⟨h4.1.1, fun X' hx' => ihd.pt hx' h4.2 h4.1.2⟩
        | _ :: _ :: _, h4 => cases h4
      · cases h) (fun sc x h => by unfold trE at h; split at h <;> first | rfl | cases h) (fun g => by simp [evP]) (fun _ _ => by simp [trA]) (fun _ _ => by simp [trI])
  | src a ih =>
    exact mkSN (fun _ _ => by simp [trE]) (fun hx h => by simp [trA] at h) (fun hx h _ => by
      unfold trI at h
      exact s_src hx (ih.pe hx h))
  | rng a ih =>
    exact mkSN (fun _ _ => by simp [trE]) (fun hx h => by simp [trA] at h) (fun hx h _ => by
      unfold trI at h
      split at h
      · simp only [Bool.and_eq_true] at h
        exact s_rng hx h.1.1 h.1.2 (ih.pe hx h.2)
      · cases h)
  | rng2 a b iha ihb =>
    exact mkSN (fun _ _ => by simp [trE]) (fun hx h => by simp [trA] at h) (fun hx h _ => by
      unfold trI at h
      split at h
      · simp only [Bool.and_eq_true] at h
        exact s_rng2 hx h.1.1.1.1 h.1.1.1.2 h.1.1.2 (iha.pe hx h.1.2) (ihb.pe hx h.2)
      · cases h)
  | enu a ih =>
    exact mkSN (fun _ _ => by simp [trE]) (fun hx h => by simp [trA] at h) (fun {X W sc x tg} hx h ht => by
      unfold trI at h
      split at h
      · simp only [Bool.and_eq_true] at h
        have ht := ht rfl
        cases tg <;> simp [isTupT] at ht
        exact s_enu hx h.1.1 h.1.2 (ih.pe hx h.2)
      · cases h)
  | zip a b iha ihb =>
    exact mkSN (fun _ _ => by simp [trE]) (fun hx h => by simp [trA] at h) (fun {X W sc x tg} hx h ht => by
      unfold trI at h
      split at h
      · simp only [Bool.and_eq_true] at h
        have ht := ht rfl
        cases tg <;> simp [isTupT] at ht
        exact s_zip hx h.1.1.1.1 h.1.1.1.2 h.1.1.2 (iha.pe hx h.1.2) (ihb.pe hx h.2)
      · cases h)
  | dkeys a ih =>
    exact mkSN (fun _ _ => by simp [trE]) (fun hx h => by simp [trA] at h) (fun hx h _ => ⟨fun pins s σ H R I h' => (tI_bad (by intro g; simp [evI]) σ H R h').elim⟩)
  | ditems a ih =>
    exact mkSN (fun _ _ => by simp [trE]) (fun hx h => by simp [trA] at h) (fun hx h _ => ⟨fun pins s σ H R I h' => (tI_bad (by intro g; simp [evI]) σ H R h').elim⟩)
  | mk j es ih =>
    exact mkS (fun hx h => peBad (tE_bad (by intro g; simp [evE]))) (fun sc x h => by unfold trE at h; split at h <;> first | rfl | cases h) (fun g => by simp [evP]) (fun _ _ => by simp [trA]) (fun _ _ => by simp [trI])
  | io p m es _ _ =>
    exact mkS (fun hx h => peBad (tE_bad (by intro g; simp [evE]))) (fun sc x h => by unfold trE at h; split at h <;> first | rfl | cases h) (fun g => by simp [evP]) (fun _ _ => by simp [trA]) (fun _ _ => by simp [trI])
  | iof f p es _ _ =>
    exact mkS (fun hx h => peBad (tE_bad (by intro g; simp [evE]))) (fun sc x h => by unfold trE at h; split at h <;> first | rfl | cases h) (fun g => by simp [evP]) (fun _ _ => by simp [trA]) (fun _ _ => by simp [trI])
  | sset a ih =>
    exact mkS (fun hx h => by
      unfold trE at h
      split at h
      · simp only [Bool.and_eq_true] at h
        exact s_sset hx h.1.1.1 h.1.1.2 h.1.2 (ih.pe hx h.2)
      · cases h) (fun sc x h => by unfold trE at h; split at h <;> first | rfl | cases h) (fun g => by simp [evP]) (fun _ _ => by simp [trA]) (fun _ _ => by simp [trI])
  | lrng a ih =>
    exact mkS (fun hx h => by
      unfold trE at h
      split at h
      · simp only [Bool.and_eq_true] at h
        exact s_lrng hx h.1.1.1 h.1.1.2 h.1.2 (ih.pe hx h.2)
      · cases h) (fun sc x h => by unfold trE at h; split at h <;> first | rfl | cases h) (fun g => by simp [evP]) (fun _ _ => by simp [trA]) (fun _ _ => by simp [trI])
  | lrng3 a b d _ _ _ =>
    exact mkS (fun hx h => peBad (tE_bad (by intro g; simp [evE]))) (fun sc x h => by simp [trE] at h) (fun g => by simp [evP]) (fun _ _ => by simp [trA]) (fun _ _ => by simp [trI])
  | ldct a _ =>
    exact mkS (fun hx h => peBad (tE_bad (by intro g; simp [evE]))) (fun sc x h => by unfold trE at h; split at h <;> first | rfl | cases h) (fun g => by simp [evP]) (fun _ _ => by simp [trA]) (fun _ _ => by simp [trI])
  | svals a _ =>
    exact mkS (fun hx h => peBad (tE_bad (by intro g; simp [evE]))) (fun sc x h => by unfold trE at h; split at h <;> first | rfl | cases h) (fun g => by simp [evP]) (fun _ _ => by simp [trA]) (fun _ _ => by simp [trI])
  | bm b a es iha ih =>
    exact mkS (fun hx h => by
      unfold trE at h
      split at h
      · simp only [Bool.and_eq_true, decide_eq_true_eq] at h
        obtain ⟨⟨⟨⟨⟨h1, h2⟩, rfl⟩, h4⟩, h5⟩, h6⟩ := h
        exact s_bm hx h4 h1 h2 (noStars_of h6) (nil_of h6) (iha.pe hx h5) (ih.pa hx h6)
      · cases h) (fun sc x h => by unfold trE at h; split at h <;> first | rfl | cases h) (fun g => by simp [evP]) (fun _ _ => by simp [trA]) (fun _ _ => by simp [trI])
  | unz a i j own ih =>
    exact mkS (fun hx h => by
      unfold trE at h
      split at h
      · simp only [Bool.and_eq_true, decide_eq_true_eq] at h
        obtain ⟨⟨⟨⟨⟨⟨⟨⟨⟨h1, h2⟩, h3⟩, h4⟩, h5⟩, h6⟩, h7⟩, h8⟩, h9⟩, h10⟩ := h
        rw [h2] at h3
        cases h3
        exact s_unz hx h9 (ih.pe hx h1) h10 h2 h4 h5 h6 h7 h8
      · cases h) (fun sc x h => by unfold trE at h; split at h <;> first | rfl | cases h) (fun g => by simp [evP]) (fun _ _ => by simp [trA]) (fun _ _ => by simp [trI])
end
end Bx

namespace Bx
open PySem PySem.Spec PyProof.Rows L2

section
variable {X : Cx} {c : Wc} {C : Cxt} {nm : Nms} {ix : Ix} {N : List Str} {sc : Scope} {W : WX} {k nf : Nat} {x y z : Expr} {a b d e es p : E} {xs : List Expr} {pos p1 p2 apos : Pos} {σ : L2.St} {H : Hp} {B : Bs} {ts : List D} {ws : List V} {Γ : List D}
theorem sw_ok {env : Env} {ts vs : List Expr} {k k2 : Nat} {p p2 : Pos} {r : Option (List Str)} (h : swR env.scope ts vs = some r) : swappedStores [.Tuple ts k p] (.Tuple vs k2 p2) env = pure r := by
  unfold swR at h
  unfold swappedStores
  split at h
  · rename_i h1
    cases h
    refine Eq.trans (if_pos h1) rfl
  · rename_i h1
    refine Eq.trans (if_neg h1) ?_
    split at h
    · rename_i h2
      cases h
      exact Eq.trans (if_pos h2) rfl
    · rename_i h2
      refine Eq.trans (if_neg h2) ?_
      dsimp only at h
      split at h
      · rename_i h3
        cases h
        exact Eq.trans (if_pos h3) rfl
      · rename_i h3
        refine Eq.trans (if_neg h3) ?_
        split at h
        · rename_i h4
          cases h
          exact Eq.trans (if_pos h4) rfl
        · rename_i h4
          refine Eq.trans (if_neg h4) ?_
          split at h
          · cases h
          · rename_i h5
            cases h
            exact Eq.trans (if_neg h5) rfl

theorem sw_none {env : Env} {tg ex : Expr} (h : swN env.scope tg ex = true) : swappedStores [tg] ex env = pure none ∧ ∀ l, swapsWithSole [tg] ex l env = pure false := by
  cases tg with
  | Tuple ts k p =>
    refine ⟨?_, fun l => by cases ex <;> rfl⟩
    cases ex with
    | Tuple vs k2 p2 =>
      have h : (match swR env.scope ts vs with | some none => true | _ => false) = true := h
      split at h
      · rename_i e1
        exact sw_ok e1
      · cases h
    | _ => rfl
  | _ => simp [swN] at h
structure SOk (X : Cx) (c : Wc) (nm : Nms) (sc : Scope) : Prop where
  own : PassesOwn (model X.prog X.w) X.A X.env X.xe
  loc : LocOk X (locB sc)
  rai : ∀ j, nm.ise j = true → ∃ Bb n i bm, ExcBaseFacts Bb n i bm ∧ PySem.W.excIn X.K (c.cl j) bm n = true ∧ PySem.W.keepIn X.K (.ref (c.cl j)) = true ∧ Raises X (.ref (c.cl j))
def PostS (c : Wc) (B : Bs) (ts : List D) (ws : List V) (W : WX) (D : Ends) : So → Prop
  | .bad => False
  | .exc j g => ∀ σ H, Wd c B H ts ws g σ → W (.ref (c.cl j)) none σ H
  | .nx g => ∀ σ H, Wd c B H ts ws g σ → D.nx σ H
  | .ret d g => ∀ v σ H, Wd c B H (d :: ts) (v :: ws) g σ → D.rt v H
  | .brk g => ∀ σ H, Wd c B H ts ws g σ → D.bk σ H
  | .cnt g => ∀ σ H, Wd c B H ts ws g σ → D.ct σ H
def tS (c : Wc) (C : Cxt) (nf : Nat) (W : WX) (b : S) : TS := fun D σ H => ∃ B ts ws Γ, Wd c B H ts ws Γ σ ∧ B.fx.length ≤ nf ∧ c.lk = [] ∧ (b.imp = true → Bx.D.nbs ts = true) ∧ PostS c B ts ws W D (evS C nf b Γ)
variable {st : Stmt} {sts : List Stmt} {s r : S} {D0 : Ends}
theorem psImp {t t' : TS} (h : PS X st t) (f : ∀ D σ H, t' D σ H → t D σ H) : PS X st t' := ⟨fun pins s σ H D I h' => h.run pins s σ H D I (f _ _ _ h')⟩
theorem pssImp {t t' : TS} (h : PSs X sts t) (f : ∀ D σ H, t' D σ H → t D σ H) : PSs X sts t' := ⟨fun pins s σ H D I h' => h.run pins s σ H D I (f _ _ _ h')⟩
theorem psBad {t : TS} (h : ∀ D σ H, ¬ t D σ H) : PS X st t := ⟨fun pins s σ H D I h' => (h D σ H h').elim⟩
/-- a statement's outcome read by its expression's -/
theorem PostS.so {α : Type} {R : Rs α} {f : α → List D → So} {k : α → List D → Prop} (h : PostS c B ts ws W D0 (R.so f)) (q : ∀ a g, R = .ok a g → PostS c B ts ws W D0 (f a g) → k a g) : PostR c B ts ws σ W k R := by
  cases R with
  | bad => exact h.elim
  | exc j g => exact fun H' w => h σ H' w
  | ok a g => exact q a g rfl h
theorem PostS.so1 {α : Type} {R : Rs α} {f : α → List D → So} {k : α → List D → Prop} {es : List D} {us : List V} (h : PostS c B ts ws W D0 (R.so f)) (l : es.length = us.length) (q : ∀ a g, R = .ok a g → PostS c B ts ws W D0 (f a g) → k a g) : PostR c B (es ++ ts) (us ++ ws) σ W k R := by
  cases R with
  | bad => exact h.elim
  | exc j g => exact fun H' w => h σ H' (w.drops l)
  | ok a g => exact q a g rfl h
theorem PostS.ens {b : Bool} {R : So} (h : PostS c B ts ws W D0 (So.ens b R)) : b = true ∧ PostS c B ts ws W D0 R := by
  cases b with
  | true => exact ⟨rfl, h⟩
  | false => exact h.elim
theorem asgN {i : Nat} {d : D} {g g' : List D} (h : asgT nf (.nm i) d g = some g') : d.nb = true ∧ i < g.length ∧ nf ≤ i ∧ g' = g.set i d := by
  simp only [asgT] at h
  split at h
  · rename_i hb
    simp only [Bool.and_eq_true, decide_eq_true_eq] at hb
    simp only [Option.some.injEq] at h
    exact ⟨hb.1.1, hb.1.2, hb.2, h.symm⟩
  · cases h
theorem set_q {i : Nat} {D1 : Ends} (h : PostS c B ts ws W D1 ((evE C nf e Γ).so fun d g => So.of (asgT nf (.nm i) d g))) (w : Wd c B H ts ws Γ σ) (hf : B.fx.length ≤ nf) (hl : c.lk = []) (hi : e.imp = true → D.nbs ts = true) :
    tE c C nf W e σ H fun x H1 => D1.nx (σ.set i (some x)) H1 := by
  refine ⟨B, ts, ws, Γ, w, hf, hi, .inl hl, h.so fun d g _ q => ?_⟩
  cases e1 : asgT nf (.nm i) d g with
  | none => rw [e1] at q; exact q.elim
  | some g' =>
    rw [e1] at q
    intro v H' _ w'
    obtain ⟨n, hlt, hge, rfl⟩ := asgN e1
    exact q _ H' (w'.asg n hlt (Nat.le_trans hf hge))
theorem swaps_no {px : Pos} {n : Str} {ln : Nat} (hx : XOk X c C nm ix N sc W k) (h : (notSD x || (isLC x && !swC sc n px x)) = true) : swapsWith x (some (.Name n px)) ln X.env = pure false := by
  cases x with
  | ListComp a b s p =>
    have h : (!swC sc n px (.ListComp a b s p)) = true := by simpa [notSD, isLC] using h
    have e : swapsWith (.ListComp a b s p) (some (.Name n px)) ln X.env = pure (swC X.env.scope n px (.ListComp a b s p)) := rfl
    rw [e, hx.sc]
    simp only [Bool.not_eq_true'] at h
    rw [h]
  | SetComp a b s p => simp [notSD, isLC] at h
  | DictComp a b s p q => simp [notSD, isLC] at h
  | _ => rfl
theorem s_set {i : Nat} {n : Str} {px pos : Pos} (hx : XOk X c C nm ix N sc W k) (ho : SOk X c nm sc) (hn : N[i]? = some n) (hl : locB sc n = true) (hs : (notSD x || (isLC x && !swC sc n px x)) = true) (he : PE X x (tE c C nf W e)) :
    PS X (.Assign [.Name n px] x pos) (tS c C nf W (.set i e)) := by
  obtain ⟨h1, h2⟩ := ho.loc n hl
  refine psImp (ps_set (i := i) (by rw [hx.hN]; exact hx.nd) (by rw [hx.hN]; exact hn) h1 he (swaps_no hx hs) h2) fun D σ H h => ?_
  obtain ⟨B, ts, ws, Γ, w, hf, hlk, hi, h⟩ := h
  rw [evS] at h
  exact set_q h w hf hlk hi
theorem s_setc {i : Nat} {n : Str} {px pos lp : Pos} {t : Tg} {own : List Nat} {ifs : List Expr} {tg : Expr} {scope : Scope} (hx : XOk X c C nm ix N sc W k) (hn : N[i]? = some n)
    (hc : blkC N sc scope (own.map fun i => (N.getD i "", i)) = true) (hi : PI X tg y (tI c C nf W a)) (ht : trT N (locB scope) t tg = true) (hns : noSet y = true)
    (hd : match ifs with | [] => d.isNop = true | [z] => d.isNop = false ∧ ∀ (X' : Cx), XOk X' c C nm ix N (relS scope sc) WF k → PT X' z (tT c C nf WF d) | _ => False)
    (he : ∀ (X' : Cx), XOk X' c C nm ix N (relS scope sc) WF k → PE X' x (tE c C nf WF e)) (hs : swC sc n px (.ListComp x [⟨tg, y, ifs, 0⟩] scope lp) = true) :
    PS X (.Assign [.Name n px] (.ListComp x [⟨tg, y, ifs, 0⟩] scope lp) pos) (tS c C nf W (.setc i e d t a own)) := by
  obtain ⟨h1, h2, h3, h4⟩ := comp_parts hx hc ht hd he
  have hs' := hs
  simp only [swC, Bool.and_eq_true] at hs
  have hlo : X.env.scope.names.lookup n = some .local := by
    rw [hx.sc]
    have := hs.1.1.2
    simpa using this
  have esw : swapsWith (.ListComp x [⟨tg, y, ifs, 0⟩] scope lp) (some (.Name n px)) pos.line X.env = pure (swC X.env.scope n px (.ListComp x [⟨tg, y, ifs, 0⟩] scope lp)) := rfl
  rw [hx.sc, hs'] at esw
  refine psImp (ps_setLc (i := i) hx.calm (by rw [hx.hN]; exact hx.nd) (by rw [hx.hN]; exact hn) hlo esw hi h1 h2 h3 h4 (noSet_fold hns)) fun D σ H h => ?_
  obtain ⟨B, ts, ws, Γ, w, hf, hlk, _, h⟩ := h
  rw [evS] at h
  rw [own_map]
  refine comp_lc ?_
  refine ⟨B, ts, ws, Γ, w, hf, fun z => ?_, .inl hlk, h.so fun d' g _ q => ?_⟩
  · rw [E.imp] at z
    rw [comp_ev] at h
    exfalso
    cases hb : (!e.imp && !d.imp && !a.imp && !a.lockd && t.ixs.all (own.contains ·) && own.all (fun j => decide (nf ≤ j))) with
    | false => rw [hb] at h; exact h.elim
    | true =>
      simp only [Bool.and_eq_true, Bool.not_eq_true'] at hb
      rw [hb.1.1.1.1.1, hb.1.1.1.1.2, hb.1.1.1.2] at z
      cases z
  · cases e1 : asgT nf (.nm i) d' g with
    | none => rw [e1] at q; exact q.elim
    | some g' =>
      rw [e1] at q
      intro v H' _ w'
      obtain ⟨n, hlt, hge, rfl⟩ := asgN e1
      exact q _ H' (w'.asg n hlt (Nat.le_trans hf hge))
theorem s_unp {t : Tg} {tg : Expr} {pos : Pos} (hx : XOk X c C nm ix N sc W k) (ho : SOk X c nm sc) (ht : isTupT tg = true) (h1 : trT N (locB sc) t tg = true) (hs : swN sc tg x = true) (he : PE X x (tE c C nf W e)) : PS X (.Assign [tg] x pos) (tS c C nf W (.unp t e)) := by
  rw [← hx.sc] at hs
  obtain ⟨h2, h3⟩ := sw_none hs
  have h4 : (assignEach [tg] X.env).map (·.2) = [assign tg X.env] := by cases tg <;> first | rfl | (simp [isTupT] at ht)
  refine psImp (ps_asg he (s_tg (nf := nf) hx ho.loc h1) (h3 _) h2 h4) fun D σ H h => ?_
  obtain ⟨B, ts, ws, Γ, w, hf, hlk, hi, h⟩ := h
  rw [evS] at h
  refine ⟨B, ts, ws, Γ, w, hf, hi, .inl hlk, h.so fun d g _ q => ?_⟩
  cases e1 : asgT nf t d g with
  | none => rw [e1] at q; exact q.elim
  | some g' =>
    rw [e1] at q
    intro v H' _ w'
    exact ⟨B, ts, ws, g, d, g', w', hf, e1, fun σ' _ w2 => q σ' H' w2⟩
theorem s_par {js : List Nat} {tts vs : List Expr} {k1 k2 : Nat} {p1 p2 pos : Pos} (hx : XOk X c C nm ix N sc W k) (h1 : par2 N sc js tts vs = true) (h2 : swR sc tts vs = some (some (nmT tts))) (he : PA X vs (tA c C nf W es)) : PS X (.Assign [.Tuple tts k1 p1] (.Tuple vs k2 p2) pos) (tS c C nf W (.par js es)) := by
  rw [← hx.sc] at h2 h1
  have hw := sw_ok (k := k1) (k2 := k2) (p := p1) (p2 := p2) h2
  have nd : X.N.Nodup := by rw [hx.hN]; exact hx.nd
  unfold par2 at h1
  split at h1
  · rename_i i j x px y py
    simp only [Bool.and_eq_true, decide_eq_true_eq, beq_iff_eq] at h1
    obtain ⟨⟨⟨⟨⟨a1, a2⟩, a3⟩, a4⟩, a5⟩, a6⟩ := h1
    obtain ⟨v1, v2, rfl⟩ : ∃ a b, vs = [a, b] := by
      match vs, a6 with
      | [a, b], _ => exact ⟨a, b, rfl⟩
    refine psImp (ps_par (i := i) (j := j) hx.calm nd (by rw [hx.hN]; exact a1) (by rw [hx.hN]; exact a2) a3 a4 a5 he hw rfl) fun D σ H h => ?_
    obtain ⟨B, ts, ws, Γ, w, hf, hlk, hi, h⟩ := h
    rw [evS] at h
    refine ⟨B, ts, ws, Γ, w, hf, hi, hlk, h.so fun ds g _ q => ?_⟩
    intro us H' _ l w'
    cases ds with
    | nil => exact q.elim
    | cons d1 ds =>
      cases ds with
      | nil => simp only [setAll] at q; split at q <;> exact q.elim
      | cons d2 ds =>
        cases ds with
        | cons _ _ => simp only [setAll] at q; split at q <;> (try split at q) <;> exact q.elim
        | nil =>
          obtain ⟨u1, u2, rfl⟩ : ∃ a b, us = [a, b] := by
            match us, l with
            | [a, b], _ => exact ⟨a, b, rfl⟩
          simp only [setAll] at q
          split at q
          · rename_i b1
            split at q
            · rename_i b2
              simp only [Bool.and_eq_true, decide_eq_true_eq] at b1 b2
              refine ⟨u1, u2, rfl, q _ H' ?_⟩
              exact Wd.asg (Wd.asg w' b1.1.1 b1.1.2 (Nat.le_trans hf b1.2)) b2.1.1 b2.1.2 (Nat.le_trans hf b2.2)
            · exact q.elim
          · exact q.elim
  · rename_i i j m x px y py z pz
    simp only [Bool.and_eq_true, decide_eq_true_eq, beq_iff_eq] at h1
    obtain ⟨⟨⟨⟨⟨⟨⟨⟨⟨a1, a2⟩, a3⟩, a4⟩, a5⟩, a6⟩, a7⟩, a8⟩, a9⟩, a10⟩ := h1
    obtain ⟨v1, v2, v3, rfl⟩ : ∃ a b c, vs = [a, b, c] := by
      match vs, a10 with
      | [a, b, c], _ => exact ⟨a, b, c, rfl⟩
    refine psImp (ps_par3 (i := i) (j := j) (l := m) hx.calm nd (by rw [hx.hN]; exact a1) (by rw [hx.hN]; exact a2) (by rw [hx.hN]; exact a3) a4 a5 a6 a7 a8 a9 he hw rfl) fun D σ H h => ?_
    obtain ⟨B, ts, ws, Γ, w, hf, hlk, hi, h⟩ := h
    rw [evS] at h
    refine ⟨B, ts, ws, Γ, w, hf, hi, hlk, h.so fun ds g _ q => ?_⟩
    intro us H' _ l w'
    match ds, q with
    | [d1, d2, d3], q =>
      obtain ⟨u1, u2, u3, rfl⟩ : ∃ a b c, us = [a, b, c] := by
        match us, l with
        | [a, b, c], _ => exact ⟨a, b, c, rfl⟩
      simp only [setAll] at q
      split at q
      · rename_i b1
        split at q
        · rename_i b2
          split at q
          · rename_i b3
            simp only [Bool.and_eq_true, decide_eq_true_eq] at b1 b2 b3
            refine ⟨u1, u2, u3, rfl, q _ H' ?_⟩
            exact Wd.asg (Wd.asg (Wd.asg w' b1.1.1 b1.1.2 (Nat.le_trans hf b1.2)) b2.1.1 b2.1.2 (Nat.le_trans hf b2.2)) b3.1.1 b3.1.2 (Nat.le_trans hf b3.2)
          · exact q.elim
        · exact q.elim
      · exact q.elim
    | [], q => exact q.elim
    | [d1], q => simp only [setAll] at q; split at q <;> exact q.elim
    | [d1, d2], q => simp only [setAll] at q; split at q <;> (try split at q) <;> exact q.elim
    | d1 :: d2 :: d3 :: d4 :: ds, q => simp only [setAll] at q; split at q <;> (try split at q) <;> (try split at q) <;> exact q.elim
  · cases h1
theorem s_ex {pos : Pos} (hs : notSD x = true) (he : PE X x (tE c C nf W e)) : PS X (.Expr x pos) (tS c C nf W (.ex e)) := by
  refine psImp (ps_expr he (by cases x <;> first | rfl | (simp [notSD] at hs))) fun D σ H h => ?_
  obtain ⟨B, ts, ws, Γ, w, hf, hlk, hi, h⟩ := h
  rw [evS] at h
  exact ⟨B, ts, ws, Γ, w, hf, hi, .inl hlk, h.so fun d g _ q v H' _ w' => q σ H' w'.drop⟩
theorem s_ret {pos : Pos} (he : PE X x (tE c C nf W e)) : PS X (.Return (some x) pos) (tS c C nf W (.ret e)) := by
  refine psImp (ps_ret he) fun D σ H h => ?_
  obtain ⟨B, ts, ws, Γ, w, hf, hlk, hi, h⟩ := h
  rw [evS] at h
  exact ⟨B, ts, ws, Γ, w, hf, hi, .inl hlk, h.so fun d g _ q v H' _ w' => (PostS.ens q).2 v σ H' w'⟩
theorem s_ife {pos : Pos} {A A' : List Stmt} {s r : S} (hd : PT X x (tT c C nf W d)) (ha : PSs X A (tS c C nf W s)) (hb : PSs X A' (tS c C nf W r)) : PS X (.If x A A' pos) (tS c C nf W (.ife d s r)) := by
  refine psImp (ps_if hd ha hb) fun D σ H h => ?_
  obtain ⟨B, ts, ws, Γ, w, hf, hlk, hi, h⟩ := h
  rw [evS] at h
  rw [S.imp] at hi
  refine ⟨B, ts, ws, Γ, w, hf, fun z => hi (by rw [z]; rfl), .inl hlk, h.so fun d' g _ q => ?_⟩
  cases d' with
  | bl v =>
    refine ⟨v, rfl, fun H1 _ w1 => ?_⟩
    cases v with
    | true => rw [if_pos rfl]; exact ⟨B, ts, ws, g, w1, hf, hlk, fun z => hi (by rw [z, Bool.or_true]; rfl), q⟩
    | false => rw [if_neg Bool.false_ne_true]; exact ⟨B, ts, ws, g, w1, hf, hlk, fun z => hi (by rw [z, Bool.or_true]), q⟩
  | _ => exact q.elim
theorem s_seq {s r : S} (h1 : PS X st (tS c C nf W s)) (h2 : PSs X sts (tS c C nf W r)) : PSs X (st :: sts) (tS c C nf W (.cons s r)) := by
  refine pssImp (pss_cons h1 h2) fun D σ H h => ?_
  obtain ⟨B, ts, ws, Γ, w, hf, hlk, hi, h⟩ := h
  rw [evS] at h
  rw [S.imp] at hi
  refine ⟨B, ts, ws, Γ, w, hf, hlk, fun z => hi (by rw [z]; rfl), ?_⟩
  cases e1 : evS C nf s Γ with
  | nx g =>
    rw [e1] at h
    intro σ' H' w'
    exact ⟨B, ts, ws, g, w', hf, hlk, fun z => hi (by rw [z, Bool.or_true]), h⟩
  | bad => rw [e1] at h; exact h
  | exc j g => rw [e1] at h; exact h
  | ret d g => rw [e1] at h; exact h
  | brk g => rw [e1] at h; exact h
  | cnt g => rw [e1] at h; exact h
theorem s_rai {j : Nat} {m : Str} {h1 : Expr} {kk : Nat} {p1 p2 pos : Pos} (hx : XOk X c C nm ix N sc W k) (ho : SOk X c nm sc) (hj : nm.isc j = true) (he : nm.ise j = true) (hg : isGl sc (nm.cnm j) h1 = true) :
    PS X (.Raise (some (.Call h1 [.Constant (.str m) kk p1] [] p2)) none pos) (tS c C nf W (.rai j m)) := by
  obtain ⟨p, rfl, g, hd, _⟩ := isGl_ok hx hg
  obtain ⟨Bb, n, i, bm, F, q, kC, r⟩ := ho.rai j he
  refine psImp (L2.ps_raise hx.calm hx.tk (pmk_own F q (hx.cgl j hj) kC r g hd)) fun D σ H h => ?_
  obtain ⟨B, ts, ws, Γ, w, hf, hlk, hi, h⟩ := h
  rw [evS] at h
  exact h σ H w
end
end Bx

namespace Bx
open PySem PySem.Spec PyProof.Rows L2

section
variable {X : Cx} {c : Wc} {C : Cxt} {nm : Nms} {ix : Ix} {N : List Str} {sc : Scope} {W : WX} {k nf : Nat} {x y z : Expr} {a b d e es p : E} {xs : List Expr} {pos p1 p2 apos : Pos} {σ : L2.St} {H : Hp} {B : Bs} {ts : List D} {ws : List V} {Γ : List D}
variable {st : Stmt} {sts : List Stmt} {s r : S} {D0 : Ends}
theorem s_for {t : Tg} {tg : Expr} {body : List Stmt} (hx : XOk X c C nm ix N sc W k) (ho : SOk X c nm sc) (ht : trT N (locB sc) t tg = true) (hs : noSet x = true) (hi : PI X tg x (tI c C nf W a)) (hb : PSs X body (tS c C nf W s)) :
    PS X (.For tg x body [] pos) (tS c C nf W (.for t a s)) := by
  refine psImp (ps_for ho.own hx.calm hi (s_tg (nf := nf) hx ho.loc ht) hb (noSet_fold hs)) fun D σ H h => ?_
  obtain ⟨B, ts, ws, Γ, w, hf, hlk, hi, h⟩ := h
  rw [evS] at h
  rw [S.imp] at hi
  refine ⟨B, ts, ws, Γ, w, hf, fun z => hi (by rw [z]; rfl), hlk, h.so fun q g1 _ h1 => ?_⟩
  obtain ⟨items, ks⟩ := q
  intro J us H1 _ hit lk w1
  have hit : ItOk c ks us items J := hit
  have lk : ks.length = us.length := lk
  have w1 : Wd c B H1 (ks ++ ts) (us ++ ws) g1 σ := w1
  obtain ⟨hb1, h1⟩ := h1.ens
  simp only [Bool.and_eq_true, Bool.or_eq_true, Bool.not_eq_true'] at hb1
  obtain ⟨G, Y, wk, hG, hY⟩ := hit.ex
  refine for_it wk (Pv := fun i σ' H' => ∃ g, Wd c B H' (ks ++ ts) (us ++ ws) g σ' ∧ PostS c B ts ws W D (loopL (fun x g => match asgT nf t x g with
      | none => .bad
      | some g => evS C nf s g) (items.drop i) g)) ⟨g1, w1, h1⟩ ?_ ?_ ?_
  · rintro i σ' H' _ ⟨g, w2, _⟩
    exact hG _ _ _ _ _ _ w2
  · rintro i v σ' H' H2 hlt ⟨g, w2, hp⟩ hy
    obtain ⟨_, dx, hdx, w3⟩ := hY i B H' v H2 _ _ g _ hlt w2 hy
    have ed : items.drop i = dx :: items.drop (i + 1) := by
      rw [List.drop_eq_getElem_cons hlt]
      rw [List.getElem?_eq_getElem hlt] at hdx
      cases hdx
      rfl
    rw [ed] at hp
    simp only [loopL] at hp
    cases e1 : asgT nf t dx g with
    | none => rw [e1] at hp; exact hp.elim
    | some g2 =>
      rw [e1] at hp
      simp only at hp
      refine ⟨B, _, _, g, dx, g2, w3, hf, e1, fun σ2 _ w4 => ?_⟩
      refine ⟨B, _, _, g2, w4, hf, hlk, fun z => ?_, ?_⟩
      · rw [nbs_app, Bool.and_eq_true]
        exact ⟨hb1.2.resolve_right (by rw [z]; simp), hi (by rw [z, Bool.or_true])⟩
      · cases e2 : evS C nf s g2 with
        | bad => rw [e2] at hp; exact hp
        | exc j g3 => rw [e2] at hp; exact fun σ3 H3 w5 => hp σ3 H3 (w5.drops lk)
        | nx g3 => rw [e2] at hp; exact fun σ3 H3 w5 => ⟨g3, w5, hp⟩
        | cnt g3 => rw [e2] at hp; exact fun σ3 H3 w5 => ⟨g3, w5, hp⟩
        | brk g3 => rw [e2] at hp; exact fun σ3 H3 w5 => hp σ3 H3 (w5.drops lk)
        | ret d g3 =>
          rw [e2] at hp
          intro v3 σ3 H3 w5
          refine hp v3 σ3 H3 ?_
          have w6 : Wd c B H3 (([d] ++ ks) ++ ts) (([v3] ++ us) ++ ws) g3 σ3 := w5
          exact w6.shuf (es := [d]) (xs := [v3]) (by simp [lk]) (Shuf.left rfl)
  · rintro σ' H' ⟨g, w2, hp⟩
    rw [List.drop_length] at hp
    exact hp σ' H' (w2.drops lk)
theorem Shuf.put {ds : List D} {vs : List V} {x : D} {u : V} {j : Nat} (l : ds.length = vs.length) (hj : j < ds.length) : Shuf ([x] ++ ds) ([u] ++ vs) (ds.set j x) (vs.set j u) := by
  rw [set_len hj, set_len (by omega : j < vs.length)]
  have s2 : Shuf ([x] ++ ds) ([u] ++ vs) (ds ++ [x]) (vs ++ [u]) := Shuf.swap rfl
  have s3 : Shuf (ds ++ [x]) (vs ++ [u]) (ds.take j ++ (ds.drop j ++ [x])) (vs.take j ++ (vs.drop j ++ [u])) := by
    rw [← List.append_assoc, ← List.append_assoc, List.take_append_drop, List.take_append_drop]
    exact Shuf.refl _ _
  have s4 : Shuf (ds.drop j ++ [x]) (vs.drop j ++ [u]) ([x] ++ ds.drop (j + 1)) ([u] ++ vs.drop (j + 1)) := by
    refine (Shuf.swap (by simp [l])).trans (Shuf.app rfl (Shuf.refl _ _) ?_)
    have := Shuf.drop (ds := ds.drop j) (vs := vs.drop j) (by simp [l]) 1
    simpa [List.drop_drop, Nat.add_comm] using this
  exact s2.trans (s3.trans (Shuf.app (by simp [l]) (Shuf.refl _ _) s4))
theorem getp_nbs : ∀ {r : List Nat} {d : D} {f : Fl} {t : Tag} {cs : List D}, d.nb = true → D.getp r d = some (.nd f t cs) → D.nbs cs = true
  | [], d, f, t, cs, h, e => by
    simp [D.getp] at e
    subst e
    rw [D.nb, Bool.and_eq_true] at h
    exact h.2
  | i :: r, .nd .own t' ds, f, t, cs, h, e => by
    rw [D.getp] at e
    cases e1 : ds[i]? with
    | none => rw [e1] at e; cases e
    | some x =>
      rw [e1] at e
      rw [D.nb, Bool.and_eq_true] at h
      exact getp_nbs (nbs_mem h.2 (List.mem_of_getElem? e1)) e
  | _ :: _, .nd .shr _ _, _, _, _, _, e => by simp [D.getp] at e
  | _ :: _, .nd .bor _ _, _, _, _, _, e => by simp [D.getp] at e
  | _ :: _, .non, _, _, _, _, e => by simp [D.getp] at e
  | _ :: _, .any, _, _, _, _, e => by simp [D.getp] at e
  | _ :: _, .bl _, _, _, _, _, e => by simp [D.getp] at e
  | _ :: _, .int _, _, _, _, _, e => by simp [D.getp] at e
  | _ :: _, .str _, _, _, _, _, e => by simp [D.getp] at e
  | _ :: _, .scr _, _, _, _, _, e => by simp [D.getp] at e
  | _ :: _, .tup _, _, _, _, _, e => by simp [D.getp] at e
theorem s_six {y1 : Expr} {tpos pos : Pos} (hx : XOk X c C nm ix N sc W k) (hy : noSlice y = true) (hp : PE X x (tP c C nf W p)) (hk : PE X y (tE c C nf W a)) (he : PE X z (tE c C nf W e)) : PS X (.Assign [.Subscript x y tpos] z pos) (tS c C nf W (.six p a e)) := by
  have hsub : ∀ v, assign (.Subscript x y tpos) X.env v = (do
      let ov ← holding [v] (eval x X.env)
      let iv ← holding [v, ov] (eval y X.env)
      standAt tpos
      holding [v, ov, iv] (setItem ov iv v)
      release [v, ov, iv] []) := by
    intro v
    cases y <;> first | rfl | (simp [noSlice] at hy)
  refine psImp (ps_asg he (pg_sub hp hk set_list hsub) (by cases z <;> rfl) rfl rfl) fun D1 σ H h => ?_
  obtain ⟨B, ts, ws, Γ, w, hf, hlk, hi, h⟩ := h
  rw [evS] at h
  rw [S.imp] at hi
  have nbt := hi rfl
  refine ⟨B, ts, ws, Γ, w, hf, fun _ => nbt, .inl hlk, h.so fun d g1 _ h1 => ?_⟩
  intro v1 H1 _ w1
  obtain ⟨hb, h1⟩ := h1.ens
  simp only [Bool.and_eq_true, Bool.not_eq_true'] at hb
  refine ⟨B, d :: ts, v1 :: ws, g1, w1, hf, hlk, PostS.so1 (es := [d]) (us := [v1]) h1 rfl fun q g2 _ h2 => ?_⟩
  intro vr vo H2 ext2 hv hpv w2
  refine ⟨B, d :: ts, v1 :: ws, g2, w2, hf, fun z => (by rw [hb.1] at z; cases z), .inl hlk, PostS.so1 (es := [d]) (us := [v1]) h2 rfl fun dk g3 _ h3 => ?_⟩
  intro vk H3 ext3 w3
  cases e1 : g3[q.1]? with
  | none => rw [e1] at h3; exact h3.elim
  | some dd =>
    rw [e1] at h3
    simp only at h3
    cases e2 : D.getp q.2 dd with
    | none => rw [e2] at h3; exact h3.elim
    | some dn =>
      rw [e2] at h3
      cases dn with
      | nd fl t cs =>
        cases t with
        | lst =>
          cases fl with
          | own =>
            simp only at h3
            cases dk with
            | int i =>
              simp only at h3
              obtain rfl := w3.int_inv
              cases e3 : ixD cs.length i with
              | none => rw [e3] at h3; exact h3.elim
              | some j =>
                rw [e3] at h3
                have w4 : Wd c B H3 ([d] ++ ts) ([v1] ++ ws) g3 σ := w3.drop
                obtain ⟨v', a', us, hv', hp', hat, len, wr⟩ := w4.write hlk rfl nbt e1 e2
                rw [hv] at hv'
                cases hv'
                have ea := (hpv.ext (ext3 hb.1)).det hp'
                subst ea
                have hj : j < cs.length := by
                  have e4 := e3
                  unfold ixD at e4
                  exact (ixN_seq e4).2.1
                rw [len] at e3
                have nbd : D.nbs ([] ++ cs.set j d) = true := by
                  refine nbs_set ?_ hb.2 j
                  have nbg : D.nbs g3 = true := let ⟨_, _, w0⟩ := w4; w0.nb
                  have := nbs_mem nbg (List.mem_of_getElem? e1)
                  exact getp_nbs this e2
                exact ⟨a', us, i, j, rfl, rfl, hat, e3, h3 σ _ (wr (t' := .lst) (o' := .lst (us.set j v1)) (rs := []) (xs := []) upd_same nbd rfl (Shuf.put len hj))⟩
            | _ => exact h3.elim
          | _ => exact h3.elim
        | _ => cases fl <;> exact h3.elim
      | _ => exact h3.elim
end
end Bx

namespace Bx
open PySem PySem.Spec PyProof.Rows L2

section
variable {X : Cx} {c : Wc} {C : Cxt} {nm : Nms} {ix : Ix} {N : List Str} {sc : Scope} {W : WX} {k nf : Nat} {x y z : Expr} {a b d e es p : E} {xs : List Expr} {pos p1 p2 apos : Pos} {σ : L2.St} {H : Hp} {B : Bs} {ts : List D} {ws : List V} {Γ : List D}
variable {st : Stmt} {sts : List Stmt} {s r : S} {D0 : Ends}
theorem appAll_at {v : Int} : ∀ {ds es : List D}, appAll v ds = some es → es.length = ds.length ∧ ∀ k, k < ds.length → ∃ cs, ds[k]? = some (.nd .own .lst cs) ∧ okn cs.length = true ∧ es[k]? = some (.nd .own .lst (cs ++ [.int v]))
  | [], es, h => by
    simp [appAll] at h
    subst h
    exact ⟨rfl, fun k hk => absurd hk (Nat.not_lt_zero _)⟩
  | d :: ds, es, h => by
    cases d with
    | nd f t cs =>
      cases f with
      | own =>
        cases t with
        | lst =>
          simp only [appAll] at h
          split at h
          · rename_i hz
            cases e : appAll v ds with
            | none => rw [e] at h; cases h
            | some es' =>
              rw [e] at h
              simp only [Option.map_some, Option.some.injEq] at h
              subst h
              obtain ⟨h1, h2⟩ := appAll_at e
              refine ⟨by rw [List.length_cons, List.length_cons, h1], fun k hk => ?_⟩
              cases k with
              | zero => exact ⟨cs, rfl, hz, rfl⟩
              | succ k =>
                obtain ⟨cs', a1, a2, a3⟩ := h2 k (by simpa using hk)
                exact ⟨cs', by simpa using a1, a2, by simpa using a3⟩
          · cases h
        | _ => simp [appAll] at h
      | _ => cases t <;> simp [appAll] at h
    | _ => simp [appAll] at h
theorem s_fapp {j i : Nat} {v : Int} {n z : Str} {px pz py kp cp ep ap pos : Pos} {kk : Nat} (hx : XOk X c C nm ix N sc W k) (ho : SOk X c nm sc) (h1 : N[j]? = some n) (h2 : locB sc n = true) (h3 : visB sc n = true) (h4 : plainB n = true)
    (hl : (ap.endLine == cp.line) = true) (h5 : N[i]? = some z) (h6 : visB sc z = true) (h7 : plainB z = true) :
    PS X (.For (.Name n px) (.Name z pz) [.Expr (.Call (.Attribute (.Name n py) "append" ap) [.Constant (.int v) kk kp] [] cp) ep] [] pos) (tS c C nf W (.fapp j i v)) := by
  have vis : ∀ {y : Str}, visB sc y = true → Vis X.env.scope y := fun {y} h => by
    rw [hx.sc]
    unfold visB at h
    split at h
    · exact .inl ‹_›
    · exact .inr (.inl ‹_›)
    · exact .inr (.inr ‹_›)
    · cases h
  obtain ⟨l1, l2⟩ := ho.loc n h2
  unfold plainB at h4 h7
  simp at h4 h7
  have nd : X.N.Nodup := by rw [hx.hN]; exact hx.nd
  have pz : PE X (.Name z pz) (tVar i) := pe_var (i := i) (by rw [hx.hN]; exact h5) (vis h6) (by simpa using h7.1.1) (by simpa using h7.1.2)
  have pn : PE X (.Name n py) (tVar j) := pe_var (i := j) (by rw [hx.hN]; exact h1) (vis h3) (by simpa using h4.1.1) (by simpa using h4.1.2)
  have pa : PA X [.Constant (.int v) kk kp] (tCons (tC (.int v)) tNil) := pa_cons pe_int pa_nil
  have pb := ps_expr (pos := ep) (pe_bm (cpos := cp) (apos := ap) PySem.F.plainAttrs_list PySem.F.slot_list_append PySem.F.type_list_append (X := X) mt_append pn pa rfl rfl hl rfl rfl) rfl
  refine psImp (ps_for ho.own hx.calm (pi_list pz) (pg_name (pos := px) (i := j) nd (by rw [hx.hN]; exact h1) l1 l2) (pss_one pb) (fun _ => rfl)) fun D1 σ H h => ?_
  obtain ⟨B, ts, ws, Γ, w, hf, hlk, hi, h⟩ := h
  rw [evS] at h
  have nbt := hi rfl
  cases e1 : Γ[i]? with
  | none => rw [e1] at h; exact h.elim
  | some d =>
    rw [e1] at h
    cases d with
    | nd fl t ds =>
      cases fl with
      | own =>
        cases t with
        | lst =>
          simp only at h
          cases e2 : appAll v ds with
          | none => rw [e2] at h; exact h.elim
          | some es =>
            rw [e2] at h
            obtain ⟨hb, h⟩ := PostS.ens h
            simp only [Bool.and_eq_true, decide_eq_true_eq] at hb
            obtain ⟨⟨hnf, hjl⟩, hij⟩ := hb
            obtain ⟨len, hat⟩ := appAll_at e2
            obtain ⟨v0, a, us, hv, hp, ha, hl0⟩ := w.at (r := []) e1 rfl
            have hp : v0 = .ref a := hp
            subst hp
            have hil : i < Γ.length := (List.getElem?_eq_some_iff.mp e1).1
            have hfj : B.fx.length ≤ j := Nat.le_trans hf hnf
            refine ⟨.ref a, hv, a, rfl, ⟨us, SqL.of ha⟩, ?_⟩
            refine for_it (walkL (n := ds.length)) (Pv := fun m σ' H' => Wd c B H' ts ws ((Γ.set i (.nd .own .lst (es.take m ++ ds.drop m))).set j .any) σ' ∧ σ'[i]? = some (some (.ref a))) ?_ ?_ ?_ ?_
            · refine ⟨?_, hv⟩
              have e3 : Γ.set i (.nd .own .lst (es.take 0 ++ ds.drop 0)) = Γ := by
                rw [List.take_zero, List.nil_append, List.drop_zero]
                apply List.ext_getElem?
                intro m
                by_cases e : i = m
                · subst e
                  rw [List.getElem?_set_self hil, e1]
                · rw [List.getElem?_set_ne e]
              rw [e3]
              have hls := w.lenS
              have hjs : j < σ.length := by omega
              have w' := w.forget (i := j) σ[j] hfj
              rw [List.set_getElem_self] at w'
              exact w'
            · rintro m σ' H' hm ⟨w2, hv2⟩
              obtain ⟨v1, a1, us1, hv1, hp1, ha1, hl1⟩ := w2.at (i := i) (r := []) (d := .nd .own .lst (es.take m ++ ds.drop m)) (by rw [List.getElem?_set_ne (Ne.symm hij), List.getElem?_set_self hil]) rfl
              rw [hv2] at hv1
              cases hv1
              have hp1 : V.ref a = V.ref a1 := hp1
              cases hp1
              refine ⟨us1, SqL.of ha1, ?_⟩
              rw [← hl1, List.length_append, List.length_take, List.length_drop, len]
              omega
            · rintro m x σ' H' H2 hm ⟨w2, hv2⟩ ⟨rfl, hx2⟩
              obtain ⟨cs, d1, d2, d3⟩ := hat m hm
              have gi : ((Γ.set i (.nd .own .lst (es.take m ++ ds.drop m))).set j .any)[i]? = some (.nd .own .lst (es.take m ++ ds.drop m)) := by rw [List.getElem?_set_ne (Ne.symm hij), List.getElem?_set_self hil]
              have w3 := w2.forget (i := j) (some x) hfj
              rw [List.set_set] at w3
              have w4 : Wd c B H2 ([.int v] ++ ts) ([.int v] ++ ws) _ _ := w3.int v
              have hlt : (es.take m).length = m := by rw [List.length_take]; omega
              have gm : (es.take m ++ ds.drop m)[m]? = some (.nd .own .lst cs) := by
                rw [List.getElem?_append_right (by omega), hlt, Nat.sub_self, List.getElem?_drop, Nat.add_zero]
                exact d1
              have gp : D.getp [m] (.nd .own .lst (es.take m ++ ds.drop m)) = some (.nd .own .lst cs) := by
                rw [D.getp, gm]
                rfl
              obtain ⟨v1, a1, us1, hv1, hp1, ha1, hl1, wr⟩ := w4.write hlk rfl nbt gi gp
              have hv3 : (σ'.set j (some x))[i]? = some (some (.ref a)) := by rw [List.getElem?_set_ne (Ne.symm hij)]; exact hv2
              rw [hv3] at hv1
              cases hv1
              obtain ⟨b1, t1, vs1, u1, eb, hb1, hu1, eu1⟩ := hp1
              cases eb
              have eu1 : u1 = .ref a1 := eu1
              subst eu1
              obtain ⟨v2, a2, us2, hv2', hp2, ha2, hl2⟩ := w2.at (i := i) (r := []) gi rfl
              rw [hv2] at hv2'
              cases hv2'
              have hp2 : V.ref a = V.ref a2 := hp2
              cases hp2
              have ev := AtR.det hb1 ha2
              subst ev
              have ex := hx2 vs1 (SqL.of ha2)
              rw [hu1] at ex
              cases ex
              have hjs : j < σ'.length := by
                have hls := w2.lenS
                rw [List.length_set, List.length_set] at hls
                omega
              refine ⟨.ref a1, List.getElem?_set_self hjs, .inl ⟨rfl, us1, SqL.of ha1⟩, a1, us1, .int v, rfl, rfl, ha1, ?_, ?_, hv3⟩
              · have := okn_ok d2
                rw [← hl1]
                exact this
              · have nbg : D.nbs ((Γ.set i (.nd .own .lst (es.take m ++ ds.drop m))).set j .any) = true := let ⟨_, _, w0⟩ := w2; w0.nb
                have nbc : D.nbs cs = true := getp_nbs (nbs_mem nbg (List.mem_of_getElem? gi)) gp
                have w5 := wr (t' := .lst) (o' := .lst (us1 ++ [.int v])) (ds' := cs ++ [.int v]) (rs := []) (xs := []) upd_same (by rw [List.nil_append, nbs_app, nbc]; rfl) rfl (Shuf.swap rfl)
                have es1 : D.setp [m] (.nd .own .lst (es.take m ++ ds.drop m)) (.nd .own .lst (cs ++ [.int v])) = .nd .own .lst (es.take (m + 1) ++ ds.drop (m + 1)) := by
                  rw [D.setp, D.setp]
                  congr 1
                  apply List.ext_getElem?
                  intro q
                  have hlt2 : (es.take (m + 1)).length = m + 1 := by rw [List.length_take]; omega
                  by_cases e : m = q
                  · subst e
                    rw [List.getElem?_set_self (by rw [List.length_append, List.length_take, List.length_drop]; omega), List.getElem?_append_left (by omega), List.getElem?_take, if_pos (by omega), d3]
                  · rw [List.getElem?_set_ne e]
                    by_cases hq : q < m
                    · rw [List.getElem?_append_left (by omega), List.getElem?_append_left (by omega), List.getElem?_take, List.getElem?_take, if_pos hq, if_pos (by omega)]
                    · rw [List.getElem?_append_right (by omega), List.getElem?_append_right (by omega), List.getElem?_drop, List.getElem?_drop, hlt, hlt2]
                      congr 1
                      omega
                rw [es1, List.set_comm _ _ (Ne.symm hij), List.set_set] at w5
                exact w5
            · rintro σ' H' ⟨w2, _⟩
              rw [List.drop_length, List.append_nil, List.take_of_length_le (by omega)] at w2
              exact h σ' H' w2
        | _ => exact h.elim
      | _ => cases t <;> exact h.elim
    | _ => exact h.elim
end
end Bx

namespace Bx
open PySem PySem.Spec PyProof.Rows L2

section
variable {X : Cx} {c : Wc} {C : Cxt} {nm : Nms} {ix : Ix} {N : List Str} {sc : Scope} {W : WX} {k nf : Nat} {x y z : Expr} {a b d e es p : E} {xs : List Expr} {pos p1 p2 apos : Pos} {σ : L2.St} {H : Hp} {B : Bs} {ts : List D} {ws : List V} {Γ : List D}
variable {st : Stmt} {sts : List Stmt} {s r : S} {D0 : Ends}
structure SndS (c : Wc) (C : Cxt) (nm : Nms) (ix : Ix) (N : List Str) (nf k : Nat) (s : S) : Prop where
  ps : ∀ {X : Cx} {W : WX} {sc : Scope} {st : Stmt}, XOk X c C nm ix N sc W k → SOk X c nm sc → trS N nm sc s st = true → PS X st (tS c C nf W s)
  pss : ∀ {X : Cx} {W : WX} {sc : Scope} {sts : List Stmt}, XOk X c C nm ix N sc W k → SOk X c nm sc → trS.trSs N nm sc s sts = true → PSs X sts (tS c C nf W s)
theorem trSs_off (h : ∀ a b, s ≠ .cons a b) (hn : s ≠ .nil) : trS.trSs N nm sc s sts = false := by
  unfold trS.trSs
  split
  · exact absurd rfl hn
  · exact absurd rfl (h _ _)
  · rfl
theorem mkSS (h : ∀ a b, s ≠ .cons a b) (hn : s ≠ .nil) (ps : ∀ {X : Cx} {W : WX} {sc : Scope} {st : Stmt}, XOk X c C nm ix N sc W k → SOk X c nm sc → trS N nm sc s st = true → PS X st (tS c C nf W s)) : SndS c C nm ix N nf k s :=
  ⟨ps, fun hx ho z => by rw [trSs_off h hn] at z; cases z⟩
theorem sndS : ∀ s : S, SndS c C nm ix N nf k s := by
  intro s
  induction s with
  | nil =>
    refine ⟨fun hx ho h => by simp [trS] at h, fun {X W sc sts} hx ho h => ?_⟩
    cases sts with
    | nil =>
      exact pssImp pss_nil fun D σ H ⟨B, ts, ws, Γ, w, hf, hlk, hi, h⟩ => by
        rw [evS] at h
        exact h σ H w
    | cons _ _ => simp [trS.trSs] at h
  | cons s r ihs ihr =>
    refine ⟨fun hx ho h => by simp [trS] at h, fun {X W sc sts} hx ho h => ?_⟩
    cases sts with
    | nil => simp [trS.trSs] at h
    | cons st sts =>
      unfold trS.trSs at h
      rw [Bool.and_eq_true] at h
      exact s_seq (ihs.ps hx ho h.1) (ihr.pss hx ho h.2)
  | set i e =>
    refine mkSS (by simp) (by simp) fun {X W sc st} hx ho h => ?_
    unfold trS at h
    split at h
    · simp only [Bool.and_eq_true, decide_eq_true_eq] at h
      exact s_set hx ho h.1.1.1 h.1.1.2 h.1.2 ((sndE e).pe hx h.2)
    · cases h
  | setc i e d t a own =>
    refine mkSS (by simp) (by simp) fun {X W sc st} hx ho h => ?_
    unfold trS at h
    split at h
    · rename_i n px ex p
      simp only [Bool.and_eq_true, decide_eq_true_eq] at h
      obtain ⟨⟨h1, h2⟩, h3⟩ := h
      unfold trE at h3
      split at h3
      · rename_i elt tg it ifs scope lp
        simp only [Bool.and_eq_true] at h3
        obtain ⟨⟨⟨⟨⟨⟨g1, g2⟩, g3⟩, g4⟩, g5⟩, g6⟩, g7⟩ := h3
        refine s_setc hx h1 g6 ((sndE a).pi hx g1 (fun z => by rw [z] at g2; simpa using g2)) g3 g7 ?_ (fun X' hx' => (sndE e).pe hx' g5) h2
        match ifs, g4 with
        | [], h4 => exact h4
        | [z], h4 =>
          simp only [Bool.and_eq_true, Bool.not_eq_true'] at h4
          exact ⟨h4.1.1, fun X' hx' => (sndE d).pt hx' h4.2 h4.1.2⟩
        | _ :: _ :: _, h4 => cases h4
      · cases h3
    · cases h
  | par js es =>
    refine mkSS (by simp) (by simp) fun {X W sc st} hx ho h => ?_
    unfold trS at h
    split at h
    · simp only [Bool.and_eq_true, decide_eq_true_eq] at h
      exact s_par hx h.1.2 h.2 ((sndE es).pa hx h.1.1)
    · cases h
  | unp t e =>
    refine mkSS (by simp) (by simp) fun {X W sc st} hx ho h => ?_
    unfold trS at h
    split at h
    · simp only [Bool.and_eq_true] at h
      exact s_unp hx ho h.1.1.1 h.1.1.2 h.2 ((sndE e).pe hx h.1.2)
    · cases h
  | six p a e =>
    refine mkSS (by simp) (by simp) fun {X W sc st} hx ho h => ?_
    unfold trS at h
    split at h
    · simp only [Bool.and_eq_true] at h
      exact s_six (y1 := .Name "" default) hx h.1.1.1 ((sndE p).pp hx h.1.1.2) ((sndE a).pe hx h.1.2) ((sndE e).pe hx h.2)
    · cases h
  | ex e =>
    refine mkSS (by simp) (by simp) fun {X W sc st} hx ho h => ?_
    unfold trS at h
    split at h
    · simp only [Bool.and_eq_true] at h
      exact s_ex h.1 ((sndE e).pe hx h.2)
    · cases h
  | ife d s r ihs ihr =>
    refine mkSS (by simp) (by simp) fun {X W sc st} hx ho h => ?_
    unfold trS at h
    split at h
    · simp only [Bool.and_eq_true] at h
      exact s_ife ((sndE d).pt hx h.1.1.2 h.1.1.1) (ihs.pss hx ho h.1.2) (ihr.pss hx ho h.2)
    · cases h
  | «for» t a s ih =>
    refine mkSS (by simp) (by simp) fun {X W sc st} hx ho h => ?_
    unfold trS at h
    split at h
    · simp only [Bool.and_eq_true] at h
      exact s_for hx ho h.1.1.2 h.2 ((sndE a).pi hx h.1.1.1.1 (fun z => by have := h.1.1.1.2; rw [z] at this; simpa using this)) (ih.pss hx ho h.1.2)
    · cases h
  | fapp j i v =>
    refine mkSS (by simp) (by simp) fun {X W sc st} hx ho h => ?_
    unfold trS at h
    split at h
    · simp only [Bool.and_eq_true, decide_eq_true_eq] at h
      obtain ⟨⟨⟨⟨⟨⟨⟨⟨⟨⟨h1, h2⟩, h3⟩, h4⟩, rfl⟩, rfl⟩, rfl⟩, h8⟩, h9⟩, h10⟩, h11⟩ := h
      exact s_fapp hx ho h1 h2 h3 h4 h8 h9 h10 h11
    · cases h
  | ret e =>
    refine mkSS (by simp) (by simp) fun {X W sc st} hx ho h => ?_
    unfold trS at h
    split at h
    · exact s_ret ((sndE e).pe hx h)
    · cases h
  | ret0 =>
    refine mkSS (by simp) (by simp) fun {X W sc st} hx ho h => ?_
    unfold trS at h
    split at h
    · exact psImp ps_retN fun D σ H ⟨B, ts, ws, Γ, w, hf, hlk, hi, h⟩ => by
        rw [evS] at h
        exact h .non σ H w.non
    · cases h
  | brk =>
    refine mkSS (by simp) (by simp) fun {X W sc st} hx ho h => ?_
    unfold trS at h
    split at h
    · exact psImp ps_break fun D σ H ⟨B, ts, ws, Γ, w, hf, hlk, hi, h⟩ => by
        rw [evS] at h
        exact h σ H w
    · cases h
  | cnt =>
    refine mkSS (by simp) (by simp) fun {X W sc st} hx ho h => ?_
    unfold trS at h
    split at h
    · exact psImp ps_continue fun D σ H ⟨B, ts, ws, Γ, w, hf, hlk, hi, h⟩ => by
        rw [evS] at h
        exact h σ H w
    · cases h
  | pas =>
    refine mkSS (by simp) (by simp) fun {X W sc st} hx ho h => ?_
    unfold trS at h
    split at h
    · exact psImp ps_pass fun D σ H ⟨B, ts, ws, Γ, w, hf, hlk, hi, h⟩ => by
        rw [evS] at h
        exact h σ H w
    · cases h
  | rai j m =>
    refine mkSS (by simp) (by simp) fun {X W sc st} hx ho h => ?_
    unfold trS at h
    split at h
    · simp only [Bool.and_eq_true, decide_eq_true_eq] at h
      exact s_rai hx ho h.1.1.1 h.1.1.2 h.1.2
    · cases h
  | sfl p f e => exact mkSS (by simp) (by simp) fun {X W sc st} hx ho h => by simp [trS] at h
  | aug i o e => exact mkSS (by simp) (by simp) fun {X W sc st} hx ho h => by simp [trS] at h
  | agf p f o e => exact mkSS (by simp) (by simp) fun {X W sc st} hx ho h => by simp [trS] at h
  | fom i j b _ => exact mkSS (by simp) (by simp) fun {X W sc st} hx ho h => by simp [trS] at h

/-! ### functions -/
def DefOk (K : PySem.W.Frag) (nm : Nms) (f : Addr) (fd : FnD) : Prop := ∃ (name qual : Str) (params : Arguments) (body : List Stmt) (scope : Scope) (dV kV doc pm cdv ct oc : Value) (an od : Option Addr) (osl : Array (Option Value)) (N ps : List Str),
  K.lookup f = some ⟨oc, od, .func (PySem.W.fnOf name qual params body scope dV kV doc pm an cdv ct), osl⟩ ∧ PySem.W.codeIn K cdv qual = true ∧ FnScope N ps scope ∧ Binds K (PySem.W.fnOf name qual params body scope dV kV doc pm an cdv ct) ps [] ∧
  PySem.W.keepIn K (.ref f) = true ∧ trS.trSs N nm scope fd.body body = true ∧ N.length = fd.len ∧ ps.length = fd.ar
structure TabOk (P : Program) (w : World) (K : PySem.W.Frag) (mg : Str → Option Value) (c : Wc) (T : Tab) (nm : Nms) (ix : Ix) : Prop where
  hK : K = c.K
  blt : ∀ x ∈ blts, mg x = none
  fn : ∀ f, nm.isf f = true → ∃ fd, T.fn f = some fd ∧ DefOk K nm (ix.fa f) fd
  ar : ∀ f fd, T.fn f = some fd → ix.ar f = fd.ar ∧ ix.nf f = fd.nf
  gl : ∀ f, nm.isf f = true → mg (nm.fnm f) = some (.ref (ix.fa f))
  cgl : ∀ j, nm.isc j = true → mg (nm.cnm j) = some (.ref (c.cl j))
  glo : ∀ x i, T.glo x = some i → ∃ t, mg x = some (.int i t)
  kc : ∀ j, T.isc j = true → Cls K (c.cl j) ∧ (PySem.W.findIn K (.ref (c.cl j)) "__class__" = some (some (.builtin "object.__class__")) ∧ PySem.W.specialIn K (.builtin "object.__class__") "__get__" = some (some (.builtin "getset_descriptor.__get__")) ∧ PySem.W.takesIn K (.builtin "object.__class__") = some true ∧ PySem.W.mroIn K (c.cl j) (.type "object") = some true) ∧
    (∀ n ∈ tyNs, PySem.W.kitOne K (.ref (c.cl j)) (.type n) = some false) ∧ ∀ i, nm.isk i = true → PySem.W.kitOne K (.ref (c.cl j)) (.ref (c.cl i)) = some ((T.sup j).contains i)
  kt : ∀ n ∈ tyNs, ∀ i, nm.isk i = true → PySem.W.kitOne K (.type n) (.ref (c.cl i)) = some false
  fo : ∀ j f, T.fo j f = true → Cls K (c.cl j) ∧ NoAttr K (c.cl j) f
  meth : ∀ j m f, T.meth j m = some f → Cls K (c.cl j) ∧ Meth K (c.cl j) m (ix.fa f) ∧ nm.isf f = true
  init : ∀ j f, T.init j = some f → nm.isf f = true ∧ Mk K (c.cl j) (ix.fa f)
  ioi : ∀ j f, T.init j = some f → ∃ fd, T.fn f = some fd ∧ 1 ≤ fd.nf
  rai : ∀ j, nm.ise j = true → ∃ Bb n i bm, ExcBaseFacts Bb n i bm ∧ PySem.W.excIn K (c.cl j) bm n = true ∧ PySem.W.keepIn K (.ref (c.cl j)) = true ∧
    PySem.W.subIn K (.ref (c.cl j)) (.type "BaseException") = some true ∧ PySem.W.typeIn K (.ref (c.cl j)) = some (.type "type")
theorem callD_ar {T : Tab} {fd : FnD} : ∀ {n f : Nat} {ds : List D}, T.fn f = some fd → callD T n f ds ≠ .bad → ds.length = fd.ar
  | 0, f, ds, e, h => absurd rfl h
  | n + 1, f, ds, e, h => by
    unfold callD at h
    rw [e] at h
    simp only [runF] at h
    by_cases hl : ds.length = fd.ar
    · exact hl
    · rw [if_neg hl] at h
      exact absurd rfl h
theorem callD_some {T : Tab} : ∀ {n f : Nat} {ds : List D}, callD T n f ds ≠ .bad → ∃ fd, T.fn f = some fd
  | 0, f, ds, h => absurd rfl h
  | n + 1, f, ds, h => by
    unfold callD at h
    cases e : T.fn f with
    | none => rw [e] at h; exact absurd rfl h
    | some fd => exact ⟨fd, rfl⟩
variable {P : Program} {w : World} {K : PySem.W.Frag} {mg : Str → Option Value} {T : Tab}
theorem fns_ok (TO : TabOk P w K mg c T nm ix) : ∀ n f, nm.isf f = true → ∃ fd ps, (∀ base : Heap, FnG P w K mg base (2 * n) (ix.fa f) fd ps (spF c (T.cx (callD T n)) ix.ar ix.nf f)) ∧ Binds K fd ps [] ∧ PySem.W.keepIn K (.ref (ix.fa f)) = true := by
  intro n
  induction n with
  | zero =>
    intro f hf
    obtain ⟨fd, e, name, qual, params, body, scope, dV, kV, doc, pm, cdv, ct, oc, an, od, osl, N, ps, lk, hcd, S, hb, kp, htr, hN, hps⟩ := TO.fn f hf
    refine ⟨_, ps, fun base => ⟨?_, ?_⟩, hb, kp⟩
    · rintro vs H Q E ⟨B, ds, _, _, _, _, _, z⟩
      exact z.elim
    · rintro A outer s H args us vs Q E _ _ _ _ _ ⟨B, ds, _, _, _, _, _, z⟩
      exact z.elim
  | succ n ih =>
    intro f hf
    obtain ⟨fd, e, name, qual, params, body, scope, dV, kV, doc, pm, cdv, ct, oc, an, od, osl, N, ps, lk, hcd, S, hb, kp, htr, hN, hps⟩ := TO.fn f hf
    obtain ⟨ea, en⟩ := TO.ar f fd e
    refine ⟨_, ps, fun base => fn_ofG (k := 2 * n + 1) lk hcd S ?_ ?_, hb, kp⟩
    · rintro vs H Q E ⟨B, ds, _, l1, l2, _, _, _⟩
      omega
    · rintro A outer s H vs Q E room hgd ⟨B, ds, hlk, l1, l2, hfx, hw, hm⟩
      have hx : XOk (cxOf (L2.CX P w) P w K mg base N qual scope (ix.fa f) cdv A outer s H E) c (T.cx (callD T n)) nm ix N scope (fun cls d _ H => E cls d H) (2 * n) := {
        calm := rfl
        hN := rfl
        nd := S.nd
        sc := rfl
        hK := TO.hK
        room := room
        gd := hgd
        tk := takes_of (X := cxOf (L2.CX P w) P w K mg base N qual scope (ix.fa f) cdv A outer s H E) rfl rfl rfl rfl
        blt := TO.blt
        far := fun f' ds' h => by
          obtain ⟨fd', e'⟩ := callD_some h
          rw [(TO.ar f' fd' e').1]
          exact callD_ar e' h
        io := fun f' h => by
          have h : (match T.fn f' with | some fd => decide (1 ≤ fd.nf) | none => false) = true := h
          cases e' : T.fn f' with
          | none => rw [e'] at h; cases h
          | some fd' => rw [e'] at h; rw [(TO.ar f' fd' e').2]; exact of_decide_eq_true h
        ioi := fun j f' h => by
          obtain ⟨fd', e', h1⟩ := TO.ioi j f' h
          show (match T.fn f' with | some fd => decide (1 ≤ fd.nf) | none => false) = true
          rw [e']
          exact decide_eq_true h1
        fn := fun f' hf' => let ⟨fd, ps, h1, h2⟩ := ih f' hf'; ⟨fd, ps, h1 base, h2⟩
        gl := TO.gl
        cgl := TO.cgl
        glo := TO.glo
        kc := TO.kc
        kt := TO.kt
        fo := TO.fo
        meth := TO.meth
        init := TO.init }
      have ho : SOk (cxOf (L2.CX P w) P w K mg base N qual scope (ix.fa f) cdv A outer s H E) c nm scope := {
        own := passes_of (X := cxOf (L2.CX P w) P w K mg base N qual scope (ix.fa f) cdv A outer s H E) rfl
        loc := fun x h => by
          refine ⟨?_, .inl rfl⟩
          unfold locB at h
          split at h
          · exact .inl ‹_›
          · exact .inr ‹_›
          · cases h
        rai := fun j hj => by
          obtain ⟨Bb, m, i, bm, h1, h2, h3, h4, h5⟩ := TO.rai j hj
          exact ⟨Bb, m, i, bm, h1, h2, h3, raises_own h4 h5⟩ }
      refine ⟨_, (sndS (nf := fd.nf) fd.body).pss hx ho htr, ?_⟩
      have hl : N.length - vs.length = fd.len - fd.ar := by rw [hN]; omega
      refine ⟨B, [], [], ds ++ List.replicate (fd.len - fd.ar) .any, by unfold L2.start; rw [hl]; exact hw _, by rw [← en]; exact hfx, hlk, fun _ => rfl, ?_⟩
      have hm' : (match runF T (callD T n) fd ds with
        | .bad => False
        | .exc j o => ∀ (H' : Hp) (Δ : List D) (τ : L2.St), Wd c B H' [] [] Δ τ → Δ.getD 0 .any = o → E (.ref (c.cl j)) none H'
        | .ok r o => r.nb = true → ∀ (v : V) (H' : Hp) (Δ : List D) (τ : L2.St), Wd c B H' [r] [v] Δ τ → Δ.getD 0 .any = o → Q v H') := by
        have e2 : callD T (n + 1) f ds = runF T (callD T n) fd ds := by
          rw [callD, e]
        rw [← e2]
        exact hm
      unfold runF at hm'
      rw [if_pos (by omega)] at hm'
      cases ev : evS (T.cx (callD T n)) fd.nf fd.body (ds ++ List.replicate (fd.len - fd.ar) .any) with
      | bad => rw [ev] at hm'; exact hm'.elim
      | brk g => rw [ev] at hm'; exact hm'.elim
      | cnt g => rw [ev] at hm'; exact hm'.elim
      | exc j g => rw [ev] at hm'; exact fun σ H' w' => hm' H' g σ w' rfl
      | nx g => rw [ev] at hm'; exact fun σ H' w' => hm' rfl .non H' g σ w'.non rfl
      | ret d g =>
        rw [ev] at hm'
        simp only at hm'
        cases hd : d.nb with
        | false => rw [hd] at hm'; exact hm'.elim
        | true => rw [hd] at hm'; exact fun v σ H' w' => hm' hd v H' g σ w' rfl
end
end Bx

namespace Bx
open PySem PySem.Spec PyProof.Rows L2

section
variable {X : Cx} {c : Wc} {C : Cxt} {nm : Nms} {ix : Ix} {N : List Str} {sc : Scope} {W : WX} {k nf : Nat} {x y z : Expr} {a b d e es p : E} {xs : List Expr} {pos p1 p2 apos : Pos} {σ : L2.St} {H : Hp} {B : Bs} {ts : List D} {ws : List V} {Γ : List D}
/-- the law's call from the machine, where the law's promise is that of FnG -/
theorem end_call {P : Program} {w : World} {K : PySem.W.Frag} {mg mb : Str → Option Value} {n : Nat} {fa q : Addr} {fd : FuncData} {arg : Str} {sp : Sp} {t : Shared} {vals : List Value} {ns : List Int}
    (hk : K.In t.heap) (hn : t.heap.Ns mainGlobals mg) (hbn : t.heap.Ns builtinsNs mb) (hbb : ∀ y : Str, y ≠ "__name__" → mb y = bootBuiltins y) (hnl : t.heap.NoLimit) (hgen : t.gens = #[])
    (hq : t.heap.get? q = some { cls := .type "list", data := .seq vals.toArray }) (hv : IntsAre vals ns) (hz : ns.length ≤ sizeLine) (room : Room n callerA)
    (prom : ∀ base : Heap, K.In base → base.Ns mainGlobals mg → FnG P w K mg base n fa fd [arg] sp) (bnd : ∀ u : Value, BindsTo t fd ⟨[u], []⟩ [(arg, u)])
    (given : ∀ H : Hp, ((∃ o, H q = some (.frz o (.lst (ns.map V.int)))) ∨ ∀ H', SqL K H' q (ns.map V.int)) → sp [.ref q] H (fun v _ => v = .bl true) fun _ _ _ => False) :
    codeAny (model P w) callerA (.call (.ref fa) ⟨[.ref q], []⟩) (fun r u => r = .ok (.ret (.bool true)) ∧ OldK t.heap u.heap ∧ u.os = t.os ∧ AllBare u.gens) t := by
  have rel := vals_ints hv
  have gd0 : callerA.guards = some [] := rfl
  -- one heap of ours, of which at most the script is told
  have walk : ∀ H : Hp, (∀ b u, H b = some u → b = q ∧ K.lookup q = none ∧ u = .frz { cls := .type "list", data := .seq vals.toArray } (.lst (ns.map V.int))) →
      sp [.ref q] H (fun v _ => v = .bl true) (fun _ _ _ => False) → codeAny (model P w) callerA (.call (.ref fa) ⟨[.ref q], []⟩) (fun r u => r = .ok (.ret (.bool true)) ∧ OldK t.heap u.heap ∧ u.os = t.os ∧ AllBare u.gens) t := by
    intro H told hsp
    have off : ∀ {b : Addr}, (∀ u, ¬ H b = some u) → H b = none := fun {b} h => by
      cases e : H b with
      | none => rfl
      | some u => exact absurd e (h u)
    have dct : ∀ {b : Addr} {m : Str → Option Value}, t.heap.Ns b m → (hidT t.heap H).Ns b m := by
      rintro b m ⟨o, es, ep, e, ed, rest⟩
      refine ⟨o, es, ep, hidT_get e (off fun u eu => ?_), ed, rest⟩
      obtain ⟨rfl, _, _⟩ := told b u eu
      rw [hq, Option.some.injEq] at e
      rw [← e] at ed
      cases ed
    have kin : K.In (hidT t.heap H) := fun b o e => hidT_get (hk b o e) (off fun u eu => by
      obtain ⟨rfl, kn, _⟩ := told b u eu
      rw [kn] at e
      cases e)
    have nl : (hidT t.heap H).NoLimit := by
      obtain ⟨m, h1, h2⟩ := hnl
      exact ⟨m, dct h1, h2⟩
    have hok : HOk P w H t.heap := fun b u eu => by
      obtain ⟨rfl, _, rfl⟩ := told b u eu
      exact ⟨hq, by rw [List.length_map]; exact hz, vals, _, rel, hq⟩
    have env : Env0 P w K mg (hidT t.heap H) callerA [] t H := {
      frames := rfl
      mod := ⟨kin, dct hn, ⟨mb, dct hbn, hbb⟩, nl⟩
      bs := fun b o e => of_hidT e
      bsz := Nat.le_of_eq (hidT_size _ _)
      funs := trivial
      frf := fun b hb => (nomatch hb)
      hok := hok
      bare := .of_eq hgen }
    refine codeAny_mono ((prom _ kin (dct hn)).run callerA [] t H ⟨[.ref q], []⟩ [.ref q] [.ref q] _ _ room gd0 env (bnd (.ref q)) (.cons rfl .nil) hsp) ?_
    rintro (e | fl) u hu
    · exact absurd hu (by rintro ⟨_, _, _, _, _, _, _, _, _, _, _, _, z⟩; exact z)
    · cases fl with
      | ret z =>
        obtain ⟨v, H2, o1, o2, un, ok2, rv, rfl⟩ := hu
        have ez : z = Value.bool true := rv
        subst ez
        refine ⟨rfl, OldK.of_keep fun b o eb => ?_, o1, o2⟩
        by_cases hb : ∃ x, H b = some x
        · obtain ⟨x, ex⟩ := hb
          obtain ⟨rfl, _, rfl⟩ := told b x ex
          have e2 := (ok2 b _ (un.frzs b _ _ ex)).1
          rw [hq] at eb
          rw [← eb]
          exact e2
        · exact un.keep b o eb (off fun x ex => hb ⟨x, ex⟩) (fun z => nomatch z) (fun z => nomatch z)
      | _ => exact False.elim hu
  cases hl : K.lookup q with
  | none =>
    refine walk (fun b => if b = q then some (.frz { cls := .type "list", data := .seq vals.toArray } (.lst (ns.map V.int))) else none) (fun b u eu => ?_) (given _ (.inl ⟨_, if_pos rfl⟩))
    by_cases hb : b = q
    · rw [if_pos hb, Option.some.injEq] at eu
      exact ⟨hb, hl, eu.symm⟩
    · rw [if_neg hb] at eu
      cases eu
  | some o =>
    have eo := hk q o hl
    rw [hq, Option.some.injEq] at eo
    subst eo
    have known : ∀ H', SqL K H' q (ns.map V.int) := fun H' => .inr ⟨_, vals.toArray, _, hl, rfl, rfl, rfl, by rw [List.size_toArray, hv.length]; exact hz, by simpa using rel⟩
    exact walk (fun _ => none) (fun b u eu => by cases eu) (given _ (.inr known))
theorem Wd.script {ns : List Int} {q : Addr} (h : (∃ o, H q = some (.frz o (.lst (ns.map V.int)))) ∨ ∀ H', SqL c.K H' q (ns.map V.int)) (n : Nat) : Wd c ⟨fun _ => False, H, [], []⟩ H [] [] ([.scr ns] ++ List.replicate n .any) ([some (.ref q)] ++ List.replicate n none) := by
  have r0 : ∀ O : Ow, RepS c O H [] (([] : List V).map some) [] := fun O => by rw [RepS]; exact ⟨rfl, rfl⟩
  refine ⟨[], [], ⟨List.nodup_nil, fun a z => (nomatch z), fun a z => False.elim z, fun a o e _ => e, fun a z => (nomatch z), r0 _, ?_, nbs_any n, fun i v e => by simp at e⟩⟩
  refine RepS.cons (f := []) (fp := []) ?_ (reps_any n)
  rw [Rep]
  exact ⟨⟨q, rfl, h⟩, rfl⟩
/-- THE END of a law: its tables, and that its evaluation tells True -/
theorem walk_end {l : PySem.W.OpenLaw} {m n f : Nat} {p : Program} {loose : List Str} {XP : (Str → Option Value) → Heap → Prop} {YP : World → Heap → Prop} {d : DefRec} {KF : Params → PySem.W.Frag} {T : Tab} {nm : Nms} {fd0 : FnD}
    (hm : l.most = some m) (hz : m ≤ sizeLine) (hdf : d.params.defaults = []) (room : Room (2 * n) callerA) (hY : ∀ (w : World) (h : Heap), YP w h → (KF w.params).In h) (hf : nm.isf f = true) (h1 : T.fn f = some fd0) (h2 : fd0.ar = 1)
    (tabs : ∀ (w : World) (mg : Str → Option Value) (fa : Addr) (h : Heap), (KF w.params).In h → h.Ns mainGlobals mg → mg d.name = some (.ref fa) → ∃ c ix, TabOk l.prog w (KF w.params) mg c T nm ix ∧ c.lk = [] ∧ ix.fa f = fa)
    (law : ∀ ns : List Int, ns.length ≤ m → (∀ z ∈ ns, Builtin.Int.intBits z ≤ 1048576) → ∃ o, callD T n f [.scr ns] = .ok (.bl true) o) :
    PySem.W.WalkO p loose XP YP l.row.toRowW d [] (fun f vs => PySem.call f vs) := by
  refine Att.attach_callB hm hdf fun w s0 s1 mg mb fa o pm cd doc a vs ns G Y ho hd hcd hmg hobj hints hlen hbits hg => ?_
  have kin := hY w _ Y
  obtain ⟨c, ix, TO, hlk, rfl⟩ := tabs w mg fa _ kin G.T.g hmg
  obtain ⟨fd, ps, F, hb, _⟩ := fns_ok TO n f hf
  have har : ix.ar f = 1 := by rw [(TO.ar f fd0 h1).1, h2]
  have given : ∀ H : Hp, ((∃ o, H a = some (.frz o (.lst (ns.map V.int)))) ∨ ∀ H', SqL (KF w.params) H' a (ns.map V.int)) → spF c (T.cx (callD T n)) ix.ar ix.nf f [.ref a] H (fun v _ => v = .bl true) fun _ _ _ => False := fun H hs => by
    obtain ⟨r, er⟩ := law ns hlen hbits
    refine ⟨⟨fun _ => False, H, [], []⟩, [.scr ns], hlk, rfl, by rw [har]; rfl, Nat.zero_le _, fun i => Wd.script (by rw [← TO.hK]; exact hs) i, ?_⟩
    have e : (T.cx (callD T n)).fn f [.scr ns] = .ok (.bl true) r := er
    rw [e]
    intro _ v H' Δ τ w' _
    exact w'.bl_inv
  have hl : ps.length = 1 := by
    have := (F default).len _ _ _ _ (given (fun _ => some (.frz default (.lst (ns.map V.int)))) (.inl ⟨_, rfl⟩))
    simpa using this.symm
  obtain ⟨arg, rfl⟩ := List.length_eq_one_iff.mp hl
  refine end_call kin G.T.g G.T.b G.T.builtins G.T.nolimit hg hobj hints (Nat.le_trans hlen hz) room (fun base _ _ => F base) (fun u => ?_) given
  have := hb s1 [u] kin rfl
  simpa using this
end
end Bx

namespace Ku
open PySem PySem.Spec PyProof.Rows L2 Bx
/-- gathered -/
def b0_0 : S := (.cons (.ex (.mut (.var 2 .b) .extend (.cons (.ife (.cmp .eq (.var 3 .s) (.str "line")) (.var 4 .s) (.rev (.var 4 .s))) .nil))) .nil)
def b0 : S := (.cons (.set 2 (.lst .nil)) (.cons (.for (.tp (.cons (.nm 3) (.cons (.nm 4) .nil))) (.zip (.var 0 .s) (.var 1 .s)) b0_0) (.cons (.ret (.var 2 .m)) .nil)))
def f0 : FnD := ⟨2, 5, 0, b0⟩
/-- passed -/
def b1_0 : S := (.cons (.ex (.mut (.ix (.var 3 .b) (.ix (.var 2 .s) (.var 4 .s))) .append (.cons (.var 4 .s) .nil))) .nil)
def b1 : S := (.cons (.setc 3 (.lst .nil) .nop (.nm 5) (.src (.var 1 .s)) [5]) (.cons (.for (.nm 4) (.src (.var 0 .s)) b1_0) (.cons (.ret (.call 0 (.cons (.var 1 .s) (.cons (.var 3 .m) .nil)))) .nil)))
def f1 : FnD := ⟨3, 6, 0, b1⟩
/-- gone_through -/
def b2_0 : S := (.cons (.set 4 (.call 1 (.cons (.var 4 .s) (.cons (.var 5 .s) (.cons (.dzip (.var 0 .s) (.var 6 .s)) .nil))))) (.cons (.ex (.mut (.var 3 .b) .append (.cons (.var 4 .s) .nil))) .nil))
def b2 : S := (.cons (.par [3, 4] (.cons (.lst .nil) (.cons (.var 0 .s) .nil))) (.cons (.for (.tp (.cons (.nm 5) (.cons (.nm 6) .nil))) (.zip (.var 1 .s) (.var 2 .s)) b2_0) (.cons (.ret (.var 3 .m)) .nil)))
def f2 : FnD := ⟨3, 7, 0, b2⟩
/-- is_whole -/
def b3 : S := (.cons (.ret (.and (.isi (.var 0 .s) .int) (.one (.not (.isi (.var 0 .s) .bool))))) .nil)
def f3 : FnD := ⟨1, 1, 0, b3⟩
/-- is_between -/
def b4 : S := (.cons (.ret (.and (.call 3 (.cons (.var 0 .s) .nil)) (.one (.chn .le .le (.var 1 .s) (.var 0 .s) (.var 2 .s))))) .nil)
def f4 : FnD := ⟨3, 3, 0, b4⟩
/-- check_letters -/
def b5 : S := (.cons (.ife (.or (.not (.isi (.var 0 .s) .lst)) (.one (.not (.chn .le .le (.int 1) (.bi .len (.cons (.var 0 .s) .nil)) (.glo "MOST_LETTERS"))))) (.cons (.rai 1 "one to twenty-four letters are due") .nil) .nil) (.cons (.ife (.or (.not (.bi .all (.cons (.comp (.call 4 (.cons (.var 1 .s) (.cons (.int 0) (.cons (.glo "MOST_LETTER") .nil)))) .nop (.nm 1) (.src (.var 0 .s)) [1]) .nil))) (.one (.cmp .lt (.lset (.var 0 .s)) (.bi .len (.cons (.var 0 .s) .nil))))) (.cons (.rai 1 "unlike numbers to 99 are due") .nil) .nil) .nil))
def f5 : FnD := ⟨1, 2, 0, b5⟩
/-- are_boxes -/
def b6 : S := (.cons (.ife (.or (.not (.isi (.var 0 .s) .lst)) (.one (.not (.chn .le .le (.int 1) (.bi .len (.cons (.var 0 .s) .nil)) (.glo "MOST_BOXES"))))) (.cons (.ret (.bl false)) .nil) .nil) (.cons (.ret (.bi .all (.cons (.comp (.and (.isi (.var 1 .s) .str) (.one (.cmp .mem (.var 1 .s) (.tup (.cons (.str "line") (.cons (.str "pile") .nil)))))) .nop (.nm 1) (.src (.var 0 .s)) [1]) .nil))) .nil))
def f6 : FnD := ⟨1, 2, 0, b6⟩
/-- check_passes -/
def b7 : S := (.cons (.ife (.or (.not (.isi (.var 0 .s) .lst)) (.or (.cmp .gt (.bi .len (.cons (.var 0 .s) .nil)) (.glo "MOST_PASSES")) (.one (.not (.bi .all (.cons (.comp (.call 6 (.cons (.var 1 .s) .nil)) .nop (.nm 1) (.src (.var 0 .s)) [1]) .nil)))))) (.cons (.rai 2 "at most four passes are due") .nil) .nil) .nil)
def f7 : FnD := ⟨1, 2, 0, b7⟩
/-- are_choices -/
def b8 : S := (.cons (.ret (.and (.isi (.var 2 .s) .lst) (.and (.cmp .le (.bi .len (.cons (.var 2 .s) .nil)) (.var 0 .s)) (.one (.bi .all (.cons (.comp (.call 4 (.cons (.var 3 .s) (.cons (.int 0) (.cons (.op .sub (.bi .len (.cons (.var 1 .s) .nil)) (.int 1)) .nil)))) .nop (.nm 3) (.src (.var 2 .s)) [3]) .nil)))))) .nil)
def f8 : FnD := ⟨3, 4, 0, b8⟩
/-- is_plan -/
def b9_0 : S := (.cons (.ife (.or (.not (.call 8 (.cons (.bi .len (.cons (.var 0 .s) .nil)) (.cons (.var 3 .s) (.cons (.var 4 .s) .nil))))) (.one (.cmp .ne (.bi .len (.cons (.var 4 .s) .nil)) (.bi .len (.cons (.var 0 .s) .nil))))) (.cons (.ret (.bl false)) .nil) .nil) .nil)
def b9 : S := (.cons (.ife (.or (.not (.isi (.var 2 .s) .lst)) (.one (.cmp .ne (.bi .len (.cons (.var 2 .s) .nil)) (.bi .len (.cons (.var 1 .s) .nil))))) (.cons (.ret (.bl false)) .nil) .nil) (.cons (.for (.tp (.cons (.nm 3) (.cons (.nm 4) .nil))) (.zip (.var 1 .s) (.var 2 .s)) b9_0) (.cons (.ret (.bl true)) .nil)))
def f9 : FnD := ⟨3, 5, 0, b9⟩
/-- orders -/
def b10 : S := (.cons (.ex (.call 5 (.cons (.var 0 .s) .nil))) (.cons (.ex (.call 7 (.cons (.var 1 .s) .nil))) (.cons (.ife (.not (.call 9 (.cons (.var 0 .s) (.cons (.var 1 .s) (.cons (.var 2 .s) .nil))))) (.cons (.rai 3 "for each pass a box for each letter is due") .nil) .nil) (.cons (.ret (.comp (.bi .list (.cons (.var 3 .s) .nil)) .nop (.nm 3) (.src (.call 2 (.cons (.var 0 .s) (.cons (.var 1 .s) (.cons (.var 2 .s) .nil))))) [3])) .nil))))
def f10 : FnD := ⟨3, 4, 0, b10⟩
/-- _law_cell_at -/
def b11 : S := (.cons (.ife (.cmp .lt (.var 1 .s) (.bi .len (.cons (.var 0 .s) .nil))) (.cons (.ret (.ix (.var 0 .s) (.var 1 .s))) .nil) .nil) (.cons (.ret (.int 0)) .nil))
def f11 : FnD := ⟨2, 2, 0, b11⟩
/-- _law_draw -/
def b12 : S := (.cons (.set 3 (.tup (.cons (.int 1000003) (.cons (.int 1000033) (.cons (.int 1000037) (.cons (.int 1000039) (.cons (.int 1000081) (.cons (.int 1000099) (.cons (.int 1000117) (.cons (.int 1000121) (.cons (.int 1000133) (.cons (.int 1000151) (.cons (.int 1000159) (.cons (.int 1000171) (.cons (.int 1000183) (.cons (.int 1000187) (.cons (.int 1000193) (.cons (.int 1000199) .nil)))))))))))))))))) (.cons (.ret (.op .mod (.op .mod (.op .add (.op .mul (.var 0 .s) (.int 48271)) (.op .mul (.var 1 .s) (.int 69621))) (.ix (.var 3 .s) (.op .mod (.var 1 .s) (.int 16)))) (.var 2 .s))) .nil))
def f12 : FnD := ⟨3, 4, 0, b12⟩
/-- _law_number -/
def b13 : S := (.cons (.ife (.cmp .ge (.var 0 .s) (.op .pow (.int 10) (.int 18))) (.cons (.set 3 (.ix (.tup (.cons (.int 1) (.cons (.int 7) (.cons (.int 49) (.cons (.int 343) (.cons (.int 2401) .nil)))))) (.op .mod (.var 1 .s) (.int 5)))) (.cons (.ret (.op .fdiv (.op .mod (.op .sub (.var 0 .s) (.op .pow (.int 10) (.int 18))) (.op .mul (.var 3 .s) (.var 2 .s))) (.var 3 .s))) .nil)) .nil) (.cons (.ife (.cmp .lt (.var 0 .s) (.neg (.op .pow (.int 10) (.int 18)))) (.cons (.set 0 (.op .mod (.var 0 .s) (.int 1000811284336359577647248616306026718125307353262274591))) .nil) .nil) (.cons (.ret (.op .mod (.call 12 (.cons (.op .mul (.op .add (.var 0 .s) (.op .mul (.int 977) (.var 1 .s))) (.op .add (.op .add (.var 0 .s) (.op .mul (.int 31) (.var 1 .s))) (.int 5))) (.cons (.op .add (.op .mod (.var 1 .s) (.int 9)) (.int 1)) (.cons (.int 999983) .nil)))) (.var 2 .s))) .nil)))
def f13 : FnD := ⟨3, 4, 0, b13⟩
/-- _law_letters -/
def b14_0 : S := (.cons (.set 9 (.op .add (.call 11 (.cons (.var 0 .s) (.cons (.op .add (.var 1 .s) (.op .mod (.var 8 .s) (.int 7))) .nil))) (.op .mul (.int 17) (.var 8 .s)))) (.cons (.set 5 (.op .add (.op .add (.var 5 .s) (.int 1)) (.call 13 (.cons (.var 9 .s) (.cons (.op .add (.var 8 .s) (.int 1)) (.cons (.int 4) .nil)))))) (.cons (.set 10 (.ix (.tup (.cons (.call 13 (.cons (.var 9 .s) (.cons (.op .add (.var 8 .s) (.int 3)) (.cons (.op .add (.var 8 .s) (.int 1)) .nil)))) (.cons (.var 8 .s) (.cons (.int 0) (.cons (.var 8 .s) (.cons (.op .sub (.var 8 .s) (.op .mod (.var 8 .s) (.int 4))) .nil)))))) (.var 6 .s))) (.cons (.ife (.and (.cmp .eq (.var 6 .s) (.int 3)) (.one (.cmp .eq (.call 13 (.cons (.var 9 .s) (.cons (.op .add (.var 8 .s) (.int 4)) (.cons (.int 5) .nil)))) (.int 0)))) (.cons (.set 10 (.call 13 (.cons (.var 9 .s) (.cons (.op .add (.var 8 .s) (.int 2)) (.cons (.op .add (.var 8 .s) (.int 1)) .nil))))) .nil) .nil) (.cons (.ex (.mut (.var 4 .b) .insert (.cons (.var 10 .s) (.cons (.var 5 .s) .nil)))) .nil)))))
def b14 : S := (.cons (.par [3, 4, 5] (.cons (.call 11 (.cons (.var 0 .s) (.cons (.var 1 .s) .nil))) (.cons (.lst .nil) (.cons (.neg (.int 1)) .nil)))) (.cons (.par [6, 7] (.cons (.call 13 (.cons (.var 3 .s) (.cons (.op .add (.var 1 .s) (.int 1)) (.cons (.int 5) .nil)))) (.cons (.op .add (.int 1) (.call 13 (.cons (.var 3 .s) (.cons (.op .add (.var 1 .s) (.int 2)) (.cons (.var 2 .s) .nil))))) .nil))) (.cons (.for (.nm 8) (.rng (.var 7 .s)) b14_0) (.cons (.ret (.var 4 .m)) .nil))))
def f14 : FnD := ⟨3, 11, 0, b14⟩
/-- _law_boxes -/
def b15_0 : S := (.cons (.ex (.mut (.var 3 .b) .append (.cons (.ix (.tup (.cons (.str "line") (.cons (.str "pile") .nil))) (.call 13 (.cons (.var 0 .s) (.cons (.op .add (.op .add (.var 1 .s) (.var 4 .s)) (.int 1)) (.cons (.int 2) .nil))))) .nil))) .nil)
def b15 : S := (.cons (.set 3 (.lst .nil)) (.cons (.for (.nm 4) (.rng (.op .add (.int 1) (.call 13 (.cons (.var 0 .s) (.cons (.var 1 .s) (.cons (.var 2 .s) .nil)))))) b15_0) (.cons (.ret (.var 3 .m)) .nil)))
def f15 : FnD := ⟨3, 5, 0, b15⟩
/-- _law_passes -/
def b16_0 : S := (.cons (.ex (.mut (.var 5 .b) .append (.cons (.call 15 (.cons (.op .add (.call 11 (.cons (.var 0 .s) (.cons (.op .add (.op .add (.var 1 .s) (.var 6 .s)) (.int 1)) .nil))) (.op .mul (.int 29) (.var 6 .s))) (.cons (.op .add (.var 6 .s) (.int 2)) (.cons (.var 3 .s) .nil)))) .nil))) .nil)
def b16 : S := (.cons (.par [4, 5] (.cons (.call 11 (.cons (.var 0 .s) (.cons (.var 1 .s) .nil))) (.cons (.lst .nil) .nil))) (.cons (.for (.nm 6) (.rng (.call 13 (.cons (.var 4 .s) (.cons (.op .add (.var 1 .s) (.int 3)) (.cons (.op .add (.var 2 .s) (.int 1)) .nil))))) b16_0) (.cons (.ret (.var 5 .m)) .nil)))
def f16 : FnD := ⟨4, 7, 0, b16⟩
/-- _law_plan -/
def b17_0 : S := (.cons (.set 9 (.op .add (.op .add (.call 11 (.cons (.var 0 .s) (.cons (.op .add (.var 1 .s) (.op .mod (.op .add (.var 8 .s) (.var 5 .s)) (.int 7))) .nil))) (.op .mul (.int 31) (.var 8 .s))) (.op .mul (.int 7) (.var 5 .s)))) (.cons (.ex (.mut (.var 7 .b) .append (.cons (.call 13 (.cons (.var 9 .s) (.cons (.op .add (.var 8 .s) (.var 5 .s)) (.cons (.bi .len (.cons (.var 6 .s) .nil)) .nil)))) .nil))) .nil))
def b17_1 : S := (.cons (.set 7 (.lst .nil)) (.cons (.for (.nm 8) (.rng (.bi .len (.cons (.var 2 .s) .nil))) b17_0) (.cons (.ex (.mut (.var 4 .b) .append (.cons (.var 7 .s) .nil))) .nil)))
def b17 : S := (.cons (.set 4 (.lst .nil)) (.cons (.for (.tp (.cons (.nm 5) (.cons (.nm 6) .nil))) (.enu (.var 3 .s)) b17_1) (.cons (.ret (.var 4 .m)) .nil)))
def f17 : FnD := ⟨4, 10, 0, b17⟩
/-- _law_after -/
def b18_0 : S := (.cons (.setc 11 (.var 12 .s) (.cmp .eq (.ix (.var 8 .s) (.var 12 .s)) (.var 9 .s)) (.nm 12) (.src (.var 4 .s)) [12]) (.cons (.set 7 (.op .add (.var 7 .s) (.ife (.cmp .eq (.var 10 .s) (.str "line")) (.var 11 .s) (.rev (.var 11 .s))))) .nil))
def b18_1 : S := (.cons (.unp (.tp (.cons (.nm 7) (.cons (.nm 8) .nil))) (.tup (.cons (.lst .nil) (.cons (.dprs (.comp (.tup (.cons (.var 12 .s) (.cons (.ix (.var 6 .s) (.var 13 .s)) .nil))) .nop (.tp (.cons (.nm 13) (.cons (.nm 12) .nil))) (.enu (.var 0 .s)) [12, 13])) .nil)))) (.cons (.for (.tp (.cons (.nm 9) (.cons (.nm 10) .nil))) (.enu (.var 5 .s)) b18_0) (.cons (.set 4 (.var 7 .s)) (.cons (.ex (.mut (.var 3 .b) .append (.cons (.var 4 .s) .nil))) .nil))))
def b18 : S := (.cons (.par [3, 4] (.cons (.lst .nil) (.cons (.bi .list (.cons (.var 0 .s) .nil)) .nil))) (.cons (.for (.tp (.cons (.nm 5) (.cons (.nm 6) .nil))) (.zip (.var 1 .s) (.var 2 .s)) b18_1) (.cons (.ret (.var 3 .m)) .nil)))
def f18 : FnD := ⟨3, 14, 0, b18⟩
/-- _law_copied -/
def b19 : S := (.cons (.ret (.comp (.bi .list (.cons (.var 1 .s) .nil)) .nop (.nm 1) (.src (.var 0 .s)) [1])) .nil)
def f19 : FnD := ⟨1, 2, 0, b19⟩
/-- law -/
def b20_0 : S := (.cons (.set 9 (.call 10 (.cons (.var 5 .s) (.cons (.var 6 .b) (.cons (.var 7 .b) .nil))))) (.cons (.ife (.frz (.or (.not (.isi (.var 9 .b) .lst)) (.one (.cmp .ne (.bi .str (.cons (.var 9 .b) .nil)) (.bi .str (.cons (.call 18 (.cons (.var 2 .s) (.cons (.var 3 .s) (.cons (.var 4 .s) .nil)))) .nil)))))) (.cons (.ret (.bl false)) .nil) .nil) (.cons (.ife (.frz (.cmp .ne (.lst (.cons (.var 5 .s) (.cons (.var 6 .b) (.cons (.var 7 .b) .nil)))) (.lst (.cons (.var 2 .s) (.cons (.var 3 .s) (.cons (.var 4 .s) .nil)))))) (.cons (.ret (.bl false)) .nil) .nil) (.cons (.ife (.frz (.not (.bi .all (.cons (.comp (.isi (.var 10 .b) .lst) .nop (.nm 10) (.src (.var 9 .b)) [10]) .nil)))) (.cons (.ret (.bl false)) .nil) .nil) (.cons (.fapp 10 9 99) (.cons (.ex (.mut (.var 9 .b) .append (.cons (.lst .nil) .nil))) .nil))))))
def b20_1 : S := (.cons (.six (.var 6 .b) (.neg (.int 1)) (.lst (.cons (.str "pile") .nil))) (.cons (.six (.var 7 .b) (.neg (.int 1)) (.op .mul (.lst (.cons (.int 0) .nil)) (.bi .len (.cons (.var 2 .s) .nil)))) (.cons (.set 9 (.call 10 (.cons (.var 5 .s) (.cons (.var 6 .b) (.cons (.var 7 .b) .nil))))) (.cons (.ife (.frz (.cmp .ne (.rev (.ix (.var 9 .b) (.neg (.int 1)))) (.ix (.op .add (.lst (.cons (.var 2 .s) .nil)) (.var 9 .b)) (.neg (.int 2))))) (.cons (.ret (.bl false)) .nil) .nil) (.cons (.six (.var 6 .b) (.int 0) (.lst (.cons (.str "line") .nil))) (.cons (.six (.var 7 .b) (.int 0) (.op .mul (.lst (.cons (.int 0) .nil)) (.bi .len (.cons (.var 2 .s) .nil)))) (.cons (.ife (.frz (.cmp .ne (.ix (.call 10 (.cons (.var 5 .s) (.cons (.var 6 .b) (.cons (.var 7 .b) .nil)))) (.int 0)) (.var 2 .s))) (.cons (.ret (.bl false)) .nil) .nil) .nil)))))))
def b20_2 : S := (.cons (.par [2, 3] (.cons (.call 14 (.cons (.var 0 .s) (.cons (.var 1 .s) (.cons (.int 24) .nil)))) (.cons (.call 16 (.cons (.var 0 .s) (.cons (.var 1 .s) (.cons (.int 4) (.cons (.int 3) .nil))))) .nil))) (.cons (.set 4 (.call 17 (.cons (.var 0 .s) (.cons (.var 1 .s) (.cons (.var 2 .s) (.cons (.var 3 .s) .nil)))))) (.cons (.par [5, 6] (.cons (.bi .list (.cons (.var 2 .s) .nil)) (.cons (.call 19 (.cons (.var 3 .s) .nil)) .nil))) (.cons (.set 7 (.call 19 (.cons (.var 4 .s) .nil))) (.cons (.for (.nm 8) (.rng (.int 2)) b20_0) (.cons (.ife (.cmp .ne (.var 3 .s) (.lst .nil)) b20_1 .nil) (.cons (.ife (.cmp .ne (.call 10 (.cons (.var 2 .s) (.cons (.lst (.cons (.lst (.cons (.str "pile") .nil)) (.cons (.lst (.cons (.str "pile") .nil)) .nil))) (.cons (.op .mul (.lst (.cons (.op .mul (.lst (.cons (.int 0) .nil)) (.bi .len (.cons (.var 2 .s) .nil))) .nil)) (.int 2)) .nil)))) (.lst (.cons (.rev (.var 2 .s)) (.cons (.var 2 .s) .nil)))) (.cons (.ret (.bl false)) .nil) .nil) .nil)))))))
def b20 : S := (.cons (.for (.nm 1) (.rng (.int 3)) b20_2) (.cons (.set 9 (.call 10 (.cons (.lst (.cons (.int 4) (.cons (.int 9) (.cons (.int 2) .nil)))) (.cons (.lst (.cons (.lst (.cons (.str "line") (.cons (.str "pile") .nil))) (.cons (.lst (.cons (.str "pile") .nil)) .nil))) (.cons (.lst (.cons (.lst (.cons (.int 1) (.cons (.int 0) (.cons (.int 1) .nil)))) (.cons (.lst (.cons (.int 0) (.cons (.int 0) (.cons (.int 0) .nil)))) .nil))) .nil))))) (.cons (.ret (.and (.cmp .eq (.var 9 .b) (.lst (.cons (.lst (.cons (.int 9) (.cons (.int 2) (.cons (.int 4) .nil)))) (.cons (.lst (.cons (.int 4) (.cons (.int 2) (.cons (.int 9) .nil)))) .nil)))) (.one (.cmp .eq (.call 10 (.cons (.lst (.cons (.int 7) .nil)) (.cons (.lst .nil) (.cons (.lst .nil) .nil)))) (.lst .nil))))) .nil)))
def f20 : FnD := ⟨1, 11, 0, b20⟩
/-- paths_of -/
def b21_0 : S := (.cons (.set 6 (.ife (.cmp .eq (.var 5 .s) (.str "line")) (.var 1 .s) (.rev (.var 1 .s)))) (.cons (.ex (.mut (.var 3 .b) .extend (.cons (.comp (.tup (.cons (.op .add (.var 7 .s) (.lst (.cons (.var 4 .s) .nil))) (.cons (.cmp .ne (.var 8 .s) (.cmp .eq (.var 5 .s) (.str "pile"))) .nil))) .nop (.tp (.cons (.nm 7) (.cons (.nm 8) .nil))) (.src (.var 6 .s)) [7, 8]) .nil))) .nil))
def b21_1 : S := (.cons (.set 3 (.lst .nil)) (.cons (.for (.tp (.cons (.nm 4) (.cons (.nm 5) .nil))) (.enu (.var 2 .s)) b21_0) (.cons (.set 1 (.var 3 .m)) .nil)))
def b21 : S := (.cons (.set 1 (.lst (.cons (.tup (.cons (.lst .nil) (.cons (.bl false) .nil))) .nil))) (.cons (.for (.nm 2) (.src (.var 0 .s)) b21_1) (.cons (.ret (.var 1 .m)) .nil)))
def f21 : FnD := ⟨1, 9, 0, b21⟩
/-- paths -/
def b22 : S := (.cons (.ex (.call 7 (.cons (.var 0 .s) .nil))) (.cons (.ret (.unz (.call 21 (.cons (.var 0 .s) .nil)) 1 2 [1, 2])) .nil))
def f22 : FnD := ⟨1, 3, 0, b22⟩
/-- _law_all_paths -/
def b23_0 : S := (.cons (.ex (.mut (.var 3 .b) .extend (.cons (.comp (.op .add (.var 4 .s) (.lst (.cons (.var 9 .s) .nil))) .nop (.nm 9) (.rng (.bi .len (.cons (.var 2 .s) .nil))) [9]) .nil))) .nil)
def b23_1 : S := (.cons (.set 3 (.lst .nil)) (.cons (.for (.nm 4) (.src (.var 1 .s)) b23_0) (.cons (.set 1 (.var 3 .m)) .nil)))
def b23 : S := (.cons (.set 1 (.lst (.cons (.lst .nil) .nil))) (.cons (.for (.nm 2) (.src (.var 0 .s)) b23_1) (.cons (.set 5 (.lrng (.bi .len (.cons (.var 1 .s) .nil)))) (.cons (.setc 6 (.comp (.ix (.var 4 .s) (.var 7 .s)) .nop (.nm 4) (.src (.var 1 .s)) [4]) .nop (.nm 7) (.rng (.bi .len (.cons (.var 0 .s) .nil))) [7]) (.cons (.ret (.comp (.ix (.var 1 .s) (.var 8 .s)) .nop (.nm 8) (.src (.ix (.op .add (.lst (.cons (.var 5 .s) .nil)) (.call 18 (.cons (.var 5 .s) (.cons (.var 0 .s) (.cons (.var 6 .s) .nil))))) (.neg (.int 1)))) [8])) .nil)))))
def f23 : FnD := ⟨1, 10, 0, b23⟩
/-- _law_about -/
def b24 : S := (.cons (.setc 2 (.lst (.cons (.var 3 .s) (.cons (.var 3 .s) .nil))) .nop (.nm 3) (.src (.var 1 .s)) [3]) (.cons (.ret (.cmp .eq (.ix (.op .add (.lst (.cons (.lst (.cons (.int 0) (.cons (.int 1) .nil))) .nil)) (.call 18 (.cons (.lst (.cons (.int 0) (.cons (.int 1) .nil))) (.cons (.var 0 .s) (.cons (.var 2 .s) .nil))))) (.neg (.int 1))) (.lst (.cons (.int 1) (.cons (.int 0) .nil))))) .nil))
def f24 : FnD := ⟨2, 4, 0, b24⟩
/-- law -/
def b25_0 : S := (.cons (.set 5 (.op .mul (.var 5 .s) (.bi .len (.cons (.var 6 .s) .nil)))) .nil)
def b25_1 : S := (.cons (.set 8 (.call 22 (.cons (.var 3 .b) .nil))) (.cons (.ife (.frz (.or (.not (.isi (.var 8 .b) .lst)) (.or (.cmp .ne (.bi .str (.cons (.var 8 .b) .nil)) (.bi .str (.cons (.var 4 .s) .nil))) (.or (.cmp .ne (.bi .len (.cons (.var 8 .b) .nil)) (.var 5 .s)) (.one (.cmp .ne (.var 3 .b) (.var 2 .s))))))) (.cons (.ret (.bl false)) .nil) .nil) (.cons (.fapp 9 8 9) .nil)))
def b25_2 : S := (.cons (.ex (.mut (.ix (.var 11 .b) (.var 16 .s)) .append (.cons (.var 17 .s) .nil))) .nil)
def b25_3 : S := (.cons (.set 14 (.op .add (.call 11 (.cons (.var 0 .s) (.cons (.op .add (.var 1 .s) (.op .mod (.var 13 .s) (.int 5))) .nil))) (.op .mul (.int 41) (.var 13 .s)))) (.cons (.setc 15 (.var 19 .s) (.cmp .nmem (.var 19 .s) (.var 12 .b)) (.nm 19) (.rng (.var 5 .s)) [19]) (.cons (.ex (.mut (.var 12 .b) .append (.cons (.ix (.var 15 .s) (.call 13 (.cons (.var 14 .s) (.cons (.op .add (.var 13 .s) (.int 2)) (.cons (.bi .len (.cons (.var 15 .s) .nil)) .nil))))) .nil))) (.cons (.for (.tp (.cons (.nm 16) (.cons (.nm 17) .nil))) (.enu (.ix (.var 4 .s) (.ix (.var 12 .b) (.neg (.int 1))))) b25_2) .nil))))
def b25_4 : S := (.cons (.set 18 (.ix (.call 10 (.cons (.var 10 .s) (.cons (.var 2 .s) (.cons (.var 11 .b) .nil)))) (.neg (.int 1)))) (.cons (.ife (.frz (.cmp .ne (.var 18 .s) (.comp (.ix (.var 10 .s) (.bm .index (.var 12 .b) (.cons (.var 19 .s) .nil))) .nop (.nm 19) (.src (.bi .sorted (.cons (.var 12 .b) .nil))) [19]))) (.cons (.ret (.bl false)) .nil) .nil) .nil))
def b25_5 : S := (.cons (.set 9 (.ix (.op .add (.lst (.cons (.lst (.cons (.int 3) (.cons (.int 5) .nil))) .nil)) (.call 10 (.cons (.lst (.cons (.int 3) (.cons (.int 5) .nil))) (.cons (.var 2 .s) (.cons (.comp (.lst (.cons (.var 17 .s) (.cons (.var 17 .s) .nil))) .nop (.nm 17) (.src (.ix (.var 4 .s) (.var 19 .s))) [17]) .nil))))) (.neg (.int 1)))) (.cons (.ife (.frz (.cmp .ne (.var 9 .b) (.ife (.call 24 (.cons (.var 2 .s) (.cons (.ix (.var 4 .s) (.var 19 .s)) .nil))) (.lst (.cons (.int 5) (.cons (.int 3) .nil))) (.lst (.cons (.int 3) (.cons (.int 5) .nil)))))) (.cons (.ret (.bl false)) .nil) .nil) .nil))
def b25_6 : S := (.cons (.ex (.mut (.var 3 .b) .pop .nil)) (.cons (.ife (.frz (.cmp .ne (.call 22 (.cons (.var 3 .b) .nil)) (.call 23 (.cons (.sl (.var 2 .s) .nop (.neg (.int 1))) .nil)))) (.cons (.ret (.bl false)) .nil) .nil) .nil))
def b25_7 : S := (.cons (.set 2 (.call 16 (.cons (.var 0 .s) (.cons (.var 1 .s) (.cons (.int 4) (.cons (.int 3) .nil)))))) (.cons (.par [3, 4, 5] (.cons (.call 19 (.cons (.var 2 .s) .nil)) (.cons (.call 23 (.cons (.var 2 .s) .nil)) (.cons (.int 1) .nil)))) (.cons (.for (.nm 6) (.src (.var 2 .s)) b25_0) (.cons (.for (.nm 7) (.rng (.int 2)) b25_1) (.cons (.set 10 (.call 14 (.cons (.var 0 .s) (.cons (.var 1 .s) (.cons (.bi .min2 (.cons (.int 24) (.cons (.var 5 .s) .nil))) .nil))))) (.cons (.unp (.tp (.cons (.nm 11) (.cons (.nm 12) .nil))) (.tup (.cons (.comp (.lst .nil) .nop (.nm 6) (.src (.var 2 .s)) [6]) (.cons (.lst .nil) .nil)))) (.cons (.for (.nm 13) (.rng (.bi .len (.cons (.var 10 .s) .nil))) b25_3) (.cons (.ife (.cmp .ne (.var 2 .s) (.lst .nil)) b25_4 .nil) (.cons (.for (.nm 19) (.src (.sl (.sset (.var 12 .b)) .nop (.int 6))) b25_5) (.cons (.ife (.cmp .ne (.var 2 .s) (.lst .nil)) b25_6 .nil) .nil))))))))))
def b25 : S := (.cons (.for (.nm 1) (.rng (.int 3)) b25_7) (.cons (.set 20 (.call 22 (.cons (.lst (.cons (.lst (.cons (.str "line") (.cons (.str "line") .nil))) .nil)) .nil))) (.cons (.ife (.or (.cmp .ne (.call 22 (.cons (.lst (.cons (.lst (.cons (.str "pile") .nil)) .nil)) .nil)) (.lst (.cons (.lst (.cons (.int 0) .nil)) .nil))) (.one (.cmp .ne (.var 20 .s) (.lst (.cons (.lst (.cons (.int 0) .nil)) (.cons (.lst (.cons (.int 1) .nil)) .nil)))))) (.cons (.ret (.bl false)) .nil) .nil) (.cons (.ife (.cmp .ne (.call 22 (.cons (.lst (.cons (.lst (.cons (.str "line") (.cons (.str "line") .nil))) (.cons (.lst (.cons (.str "pile") (.cons (.str "line") .nil))) .nil))) .nil)) (.lst (.cons (.lst (.cons (.int 1) (.cons (.int 0) .nil))) (.cons (.lst (.cons (.int 0) (.cons (.int 0) .nil))) (.cons (.lst (.cons (.int 0) (.cons (.int 1) .nil))) (.cons (.lst (.cons (.int 1) (.cons (.int 1) .nil))) .nil)))))) (.cons (.ret (.bl false)) .nil) .nil) (.cons (.ret (.and (.cmp .eq (.call 22 (.cons (.lst .nil) .nil)) (.lst (.cons (.lst .nil) .nil))) (.one (.cmp .eq (.call 22 (.cons (.lst (.cons (.lst (.cons (.str "pile") (.cons (.str "line") (.cons (.str "pile") .nil)))) .nil)) .nil)) (.lst (.cons (.lst (.cons (.int 0) .nil)) (.cons (.lst (.cons (.int 1) .nil)) (.cons (.lst (.cons (.int 2) .nil)) .nil)))))))) .nil)))))
def f25 : FnD := ⟨1, 21, 0, b25⟩
def us : List FnD := [f0, f1, f2, f3, f4, f5, f6, f7, f8, f9, f10, f11, f12, f13, f14, f15, f16, f17, f18, f19, f20, f21, f22, f23, f24, f25]
def usN : List Str := ["gathered", "passed", "gone_through", "is_whole", "is_between", "check_letters", "are_boxes", "check_passes", "are_choices", "is_plan", "orders", "_law_cell_at", "_law_draw", "_law_number", "_law_letters", "_law_boxes", "_law_passes", "_law_plan", "_law_after", "_law_copied", "law", "paths_of", "paths", "_law_all_paths", "_law_about", "law"]
def clN : List Str := ["BoxError", "BadLetters", "BadPasses", "BadPlan", "BadChosen", "BadBoxes", "BadNumber", "BadBox", "BadTale", "NotAll", "Over", "Answer", "Plan", "Stuck", "Fewest", "NoFew", "Course", "Right", "Wrong", "Sorter"]
def U (i : Nat) : Option FnD := us[i]?
end Ku

namespace Ku
open PySem PySem.Spec PyProof.Rows L2 Bx
def Hs (T : Tab) (l : List Nat) : Prop := ∀ i ∈ l, T.fn i = U i
theorem Hs.sub {T : Tab} {l l' : List Nat} (B : Hs T l) (h : l'.all (fun i => l.contains i) = true) : Hs T l' := fun i hi => B i (List.contains_iff_mem.mp (List.all_eq_true.mp h i hi))
theorem Hs.at {T : Tab} {l : List Nat} (B : Hs T l) {i : Nat} {fd : FnD} (h : l.contains i = true) (e : U i = some fd) : T.fn i = some fd := (B i (List.contains_iff_mem.mp h)).trans e
theorem call_fn {T : Tab} {n i : Nat} {fd : FnD} {ds : List D} (h : T.fn i = some fd) : callD T (n + 1) i ds = runF T (callD T n) fd ds := by
  rw [callD, h]
theorem e11 {T : Tab} (B : Hs T [11]) (n : Nat) (ns : List Int) (k : Nat) : ∃ o, callD T (n + 1) 11 [.scr ns, .int k] = .ok (.int (ns.getD k 0)) o := by
  rw [call_fn (fd := f11) (B.at (i := 11) rfl rfl)]
  by_cases h : k < ns.length
  · refine ⟨.scr ns, ?_⟩
    simp [runF, f11, b11, evS, evE, evA, Rs.so, Rs.bind, ensure, E.imp, readV, D.isAny, D.sh, biD, cmpD, Rs.of, h, subD, pickD, ixD, ixN, So.ens, D.nb]
  · refine ⟨.scr ns, ?_⟩
    simp [runF, f11, b11, evS, evE, evA, Rs.so, Rs.bind, ensure, E.imp, readV, D.isAny, D.sh, biD, cmpD, Rs.of, h, subD, pickD, ixD, ixN, So.ens, D.nb]
theorem pick16 {i : Int} (h0 : 0 ≤ i) (h1 : i < 16) {xs : List Int} (hl : xs.length = 16) (hp : ∀ p ∈ xs, 0 < p) : ∃ p, 0 < p ∧ subD (.tup (xs.map .int)) (.int i) = some (.int p) := by
  have hj : i.toNat < xs.length := by omega
  refine ⟨xs[i.toNat], hp _ (List.getElem_mem _), ?_⟩
  have e : ixD (xs.map D.int).length i = some i.toNat := by
    unfold ixD ixN
    rw [if_pos h0, if_pos (by rw [List.length_map]; omega)]
  show (ixD (xs.map D.int).length i).bind (fun j => (xs.map D.int)[j]?) = _
  rw [e]
  simp [hj]
def primes : List Int := [1000003, 1000033, 1000037, 1000039, 1000081, 1000099, 1000117, 1000121, 1000133, 1000151, 1000159, 1000171, 1000183, 1000187, 1000193, 1000199]
theorem mul_ok {i j : Int} (h1 : i.natAbs < 2 ^ 4000) (h2 : j.natAbs < 2 ^ 4000) : mulOk i j = true := by
  unfold mulOk
  rw [Bool.and_eq_true]
  exact ⟨decide_eq_true h1, decide_eq_true h2⟩
theorem e12 {T : Tab} (B : Hs T [12]) (n : Nat) {c k m : Int} (hc : c.natAbs < 2 ^ 4000) (hk0 : 0 ≤ k) (hk : k.natAbs < 2 ^ 4000) (hm : 0 < m) : ∃ r o, 0 ≤ r ∧ r < m ∧ callD T (n + 1) 12 [.int c, .int k, .int m] = .ok (.int r) o := by
  rw [call_fn (fd := f12) (B.at (i := 12) rfl rfl)]
  obtain ⟨p, hp, hs⟩ := pick16 (i := k % 16) (by omega) (by omega) (xs := primes) rfl (by decide)
  have h1 := mul_ok hc (j := 48271) (by decide)
  have h2 := mul_ok hk (j := 69621) (by decide)
  refine ⟨(c * 48271 + k * 69621) % p % m, .int c, Int.emod_nonneg _ (by omega), Int.emod_lt_of_pos _ hm, ?_⟩
  simp only [primes, List.map_cons, List.map_nil] at hs
  simp [runF, f12, b12, evS, evE, evA, Rs.so, Rs.bind, ensure, E.imp, readV, D.isAny, D.sh, D.shs, D.nb, D.nbs, opD, h1, h2, hs, Rs.of, So.of, asgT, okn, So.ens, hm, hp]
theorem far {i : Int} (h : i.natAbs < 2 ^ 200) : i.natAbs < 2 ^ 4000 := Nat.lt_of_lt_of_le h (Nat.pow_le_pow_right (by decide) (by decide))
theorem far2 {i j : Int} (h : i.natAbs < 2 ^ 200) (h' : j.natAbs < 2 ^ 200) : (i * j).natAbs < 2 ^ 4000 := by
  rw [Int.natAbs_mul]
  exact Nat.lt_of_lt_of_le (Nat.mul_lt_mul'' h h') (by decide)
theorem pick5 {i : Int} (h0 : 0 ≤ i) (h1 : i < 5) : ∃ d, 0 < d ∧ d ≤ 2401 ∧ subD (.tup [.int 1, .int 7, .int 49, .int 343, .int 2401]) (.int i) = some (.int d) := by
  have : i = 0 ∨ i = 1 ∨ i = 2 ∨ i = 3 ∨ i = 4 := by omega
  rcases this with rfl | rfl | rfl | rfl | rfl
  · exact ⟨1, by decide, by decide, rfl⟩
  · exact ⟨7, by decide, by decide, rfl⟩
  · exact ⟨49, by decide, by decide, rfl⟩
  · exact ⟨343, by decide, by decide, rfl⟩
  · exact ⟨2401, by decide, by decide, rfl⟩
theorem e13 {T : Tab} (B : Hs T [12,13]) (n : Nat) {c k m : Int} (hk0 : 0 ≤ k) (hk : k < 2 ^ 60) (hm : 0 < m) (hm2 : m < 2 ^ 60) : ∃ r o, 0 ≤ r ∧ r < m ∧ callD T (n + 2) 13 [.int c, .int k, .int m] = .ok (.int r) o := by
  rw [call_fn (fd := f13) (B.at (i := 13) rfl rfl)]
  have key : ∀ d : Int, d.natAbs < 2 ^ 190 → ∃ r o, 0 ≤ r ∧ r < 999983 ∧ mulOk 977 k = true ∧ mulOk 31 k = true ∧ mulOk (d + 977 * k) (d + 31 * k + 5) = true ∧
      callD T (n + 1) 12 [.int ((d + 977 * k) * (d + 31 * k + 5)), .int (k % 9 + 1), .int 999983] = .ok (.int r) o := fun d hd => by
    have b1 : (d + 977 * k).natAbs < 2 ^ 200 := by omega
    have b2 : (d + 31 * k + 5).natAbs < 2 ^ 200 := by omega
    obtain ⟨r, o, h0, h1, he⟩ := e12 (B.sub rfl) n (c := (d + 977 * k) * (d + 31 * k + 5)) (k := k % 9 + 1) (m := 999983) (far2 b1 b2) (by omega) (far (by omega)) (by decide)
    exact ⟨r, o, h0, h1, mul_ok (far (by decide)) (far (by omega)), mul_ok (far (by decide)) (far (by omega)), mul_ok (far b1) (far b2), he⟩
  by_cases h1 : (1000000000000000000 : Int) ≤ c
  · obtain ⟨d, hd0, hd1, hd⟩ := pick5 (i := k % 5) (by omega) (by omega)
    have hmo : mulOk d m = true := mul_ok (far (by omega)) (far (by omega))
    have hpos : 0 < d * m := Int.mul_pos hd0 hm
    refine ⟨(c - 1000000000000000000) % (d * m) / d, .int c, Int.ediv_nonneg (Int.emod_nonneg _ (by omega)) (by omega), ?_, ?_⟩
    · refine Int.ediv_lt_of_lt_mul hd0 ?_
      rw [Int.mul_comm m d]
      exact Int.emod_lt_of_pos _ hpos
    · have h9 : d < 1000000000 := by omega
      simp [runF, f13, b13, evS, evE, evA, Rs.so, Rs.bind, ensure, E.imp, readV, D.isAny, D.sh, D.shs, D.nb, D.nbs, opD, cmpD, h1, hd, hmo, hpos, hd0, h9, Rs.of, So.of, asgT, okn, So.ens, Tab.cx]
  · by_cases h2 : c < -1000000000000000000
    · obtain ⟨r, o, r0, r1, m1, m2, m3, he⟩ := key (c % 1000811284336359577647248616306026718125307353262274591) (by omega)
      refine ⟨r % m, .int (c % 1000811284336359577647248616306026718125307353262274591), Int.emod_nonneg _ (by omega), Int.emod_lt_of_pos _ hm, ?_⟩
      simp [runF, f13, b13, evS, evE, evA, Rs.so, Rs.bind, ensure, E.imp, readV, D.isAny, D.sh, D.shs, D.nb, D.nbs, opD, cmpD, h1, h2, m1, m2, m3, he, hm, lentIf, Rs.of, So.of, asgT, okn, So.ens, Tab.cx]
    · obtain ⟨r, o, r0, r1, m1, m2, m3, he⟩ := key c (by omega)
      refine ⟨r % m, .int c, Int.emod_nonneg _ (by omega), Int.emod_lt_of_pos _ hm, ?_⟩
      simp [runF, f13, b13, evS, evE, evA, Rs.so, Rs.bind, ensure, E.imp, readV, D.isAny, D.sh, D.shs, D.nb, D.nbs, opD, cmpD, h1, h2, m1, m2, m3, he, hm, lentIf, Rs.of, So.of, asgT, okn, So.ens, Tab.cx]
end Ku

namespace Ku
open PySem PySem.Spec PyProof.Rows L2 Bx
theorem loop_list {turn : D → List D → So} {xs : List D} (P : Nat → List D → Prop) (h : ∀ i x g, xs[i]? = some x → P i g → ∃ g', turn x g = .nx g' ∧ P (i + 1) g') : ∀ g, P 0 g → ∃ g', loopL turn xs g = .nx g' ∧ P xs.length g' := by
  have gen : ∀ (m i : Nat) (g : List D), i + m = xs.length → P i g → ∃ g', loopL turn (xs.drop i) g = .nx g' ∧ P xs.length g' := by
    intro m
    induction m with
    | zero =>
      intro i g e p
      have e' : i = xs.length := by omega
      subst e'
      rw [List.drop_length]
      exact ⟨g, rfl, p⟩
    | succ m ih =>
      intro i g e p
      have hi : i < xs.length := by omega
      rw [List.drop_eq_getElem_cons hi]
      obtain ⟨g1, h1, p1⟩ := h i xs[i] g (List.getElem?_eq_getElem hi) p
      obtain ⟨g2, h2, p2⟩ := ih (i + 1) g1 (by omega) p1
      refine ⟨g2, ?_, p2⟩
      rw [loopL, h1]
      exact h2
  intro g p
  have := gen xs.length 0 g (by omega) p
  simpa using this
theorem loop_upTo {turn : D → List D → So} {n : Nat} (P : Nat → List D → Prop) (h : ∀ (i : Nat) g, i < n → P i g → ∃ g', turn (.int (i : Nat)) g = .nx g' ∧ P (i + 1) g') : ∀ g, P 0 g → ∃ g', loopL turn (upTo 0 n) g = .nx g' ∧ P n g' := by
  intro g p
  have := loop_list (turn := turn) (xs := upTo 0 n) P (fun i x g e p => ?_) g p
  · rwa [upTo_len] at this
  · have hi : i < n := by
      have := (List.getElem?_eq_some_iff.mp e).1
      rwa [upTo_len] at this
    rw [upTo_at n 0 i hi] at e
    simp only [Int.zero_add, Option.some.injEq] at e
    subst e
    exact h i g hi p
def kindOk (s : Str) : Prop := s = "line" ∨ s = "pile"
theorem pick2 {i : Int} (h0 : 0 ≤ i) (h1 : i < 2) : ∃ s, kindOk s ∧ subD (.tup [.str "line", .str "pile"]) (.int i) = some (.str s) := by
  have : i = 0 ∨ i = 1 := by omega
  rcases this with rfl | rfl
  · exact ⟨_, .inl rfl, rfl⟩
  · exact ⟨_, .inr rfl, rfl⟩
theorem nbs_strs (ks : List Str) : D.nbs (ks.map .str) = true := by
  induction ks with
  | nil => rfl
  | cons k ks ih => exact ih
theorem nbs_ints (ks : List Int) : D.nbs (ks.map .int) = true := by
  induction ks with
  | nil => rfl
  | cons k ks ih => exact ih
theorem seq_nx {C : Cxt} {nf : Nat} {s r : S} {g g1 : List D} (h : evS C nf s g = .nx g1) : evS C nf (.cons s r) g = evS C nf r g1 := by rw [evS, h]
theorem for_nx {C : Cxt} {nf : Nat} {t : Tg} {i : E} {b : S} {g g1 g2 : List D} {q : List D × List D} (h1 : evI C nf i g = .ok q g1) (h2 : (!i.lockd && (D.nbs q.2 || !b.imp)) = true)
    (h3 : loopL (fun x g => match asgT nf t x g with | none => .bad | some g => evS C nf b g) q.1 g1 = .nx g2) : evS C nf (.for t i b) g = .nx g2 := by
  rw [evS, h1]
  show So.ens (!i.lockd && (D.nbs q.2 || !b.imp)) _ = _
  rw [h2]
  exact h3
theorem run_ok {T : Tab} {call : Nat → List D → CR} {fd : FnD} {ds : List D} {d : D} {g : List D} (hl : ds.length = fd.ar) (h : evS (T.cx call) fd.nf fd.body (ds ++ List.replicate (fd.len - fd.ar) .any) = .ret d g) (hd : d.nb = true) : runF T call fd ds = .ok d (g.getD 0 .any) := by
  unfold runF
  rw [if_pos hl, h]
  simp only [hd]
theorem e15 {T : Tab} (B : Hs T [12,13,15]) (n : Nat) {c a m : Int} (ha0 : 0 ≤ a) (ha : a < 2 ^ 50) (hm : 0 < m) (hm2 : m ≤ 3) : ∃ (ks : List Str) (o : D), 1 ≤ ks.length ∧ (ks.length : Int) ≤ m ∧ (∀ s ∈ ks, kindOk s) ∧ callD T (n + 3) 15 [.int c, .int a, .int m] = .ok (.nd .own .lst (ks.map .str)) o := by
  rw [call_fn (fd := f15) (B.at (i := 15) rfl rfl)]
  obtain ⟨r, o, r0, r1, hr⟩ := e13 (B.sub rfl) n (c := c) (k := a) (m := m) ha0 (by omega) hm (by omega)
  let P : Nat → List D → Prop := fun i g => ∃ (ks : List Str) (x : D), ks.length = i ∧ (∀ s ∈ ks, kindOk s) ∧ g = [.int c, .int a, .int m, .nd .own .lst (ks.map .str), x]
  have lp : ∃ g', loopL (fun x g => match asgT 0 (.nm 4) x g with
      | none => .bad
      | some g => evS (T.cx (callD T (n + 2))) 0 (.cons (.ex (.mut (.var 3 .b) .append (.cons (.ix (.tup (.cons (.str "line") (.cons (.str "pile") .nil))) (.call 13 (.cons (.var 0 .s) (.cons (.op .add (.op .add (.var 1 .s) (.var 4 .s)) (.int 1)) (.cons (.int 2) .nil))))) .nil))) .nil) g) (upTo 0 (1 + r).toNat)
      [.int c, .int a, .int m, .nd .own .lst [], .any] = .nx g' ∧ P (1 + r).toNat g' := by
    refine loop_upTo P (fun i g hi hp => ?_) _ ⟨[], .any, rfl, fun s z => (nomatch z), rfl⟩
    obtain ⟨ks, x, hk1, hk2, rfl⟩ := hp
    obtain ⟨q, o', q0, q1, hq⟩ := e13 (B.sub rfl) n (c := c) (k := a + i + 1) (m := 2) (by omega) (by omega) (by decide) (by decide)
    obtain ⟨s, hs1, hs2⟩ := pick2 q0 q1
    refine ⟨[.int c, .int a, .int m, .nd .own .lst ((ks ++ [s]).map .str), .int i], ?_, ks ++ [s], .int i, by simp [hk1], fun t ht => ?_, rfl⟩
    · have hz : ks.length < 1000000 := by omega
      simp [asgT, evS, evE, evA, evP, Rs.so, Rs.bind, ensure, E.imp, readV, D.isAny, D.sh, D.shs, D.nb, D.nbs, D.getp, D.setp, mmD, opD, hq, hs2, lentIf, Rs.of, So.of, So.ens, Tab.cx, okn, hz, nbs_app, nbs_strs]
    · rcases List.mem_append.mp ht with z | z
      · exact hk2 t z
      · rw [List.mem_singleton.mp z]
        exact hs1
  obtain ⟨g, hg, ks, x, hk1, hk2, rfl⟩ := lp
  refine ⟨ks, _, by omega, by omega, hk2, run_ok (g := [.int c, .int a, .int m, .any, x]) rfl ?_ ?_⟩
  · refine (seq_nx (g1 := [.int c, .int a, .int m, .nd .own .lst [], .any]) ?_).trans ?_
    · simp [f15, evS, evE, evA, Rs.so, Rs.bind, ensure, So.of, asgT, okn, D.nb, D.nbs]
    · refine (seq_nx (for_nx (q := (upTo 0 (1 + r).toNat, [])) ?_ rfl hg)).trans ?_
      · have b1 : (-1152921504606846976 : Int) < 1 + r := by omega
        have b2 : (1 + r : Int) < 1152921504606846976 := by omega
        simp [f15, evI, evE, evA, Rs.so, Rs.bind, ensure, E.imp, readV, D.isAny, D.sh, D.shs, D.nb, D.nbs, opD, hr, lentIf, Rs.of, Tab.cx, b1, b2]
      · simp [f15, evS, evE, Rs.so, Rs.bind, ensure, readV, D.isAny, So.ens, D.nb, nbs_strs]
  · simp [D.nb, nbs_strs]
def boxD (f : Fl) (b : List Str) : D := .nd f .lst (b.map .str)
def rowD (f : Fl) (r : List Int) : D := .nd f .lst (r.map .int)
theorem nbs_box (f : Fl) (hf : f ≠ .bor) (ps : List (List Str)) : D.nbs (ps.map (boxD f)) = true := by
  induction ps with
  | nil => rfl
  | cons p ps ih =>
    show ((D.nd f .lst (p.map .str)).nb && _) = true
    rw [D.nb, nbs_strs, ih]
    simp [hf]
theorem nbs_row (f : Fl) (hf : f ≠ .bor) (ps : List (List Int)) : D.nbs (ps.map (rowD f)) = true := by
  induction ps with
  | nil => rfl
  | cons p ps ih =>
    show ((D.nd f .lst (p.map .int)).nb && _) = true
    rw [D.nb, nbs_ints, ih]
    simp [hf]
theorem e11' {T : Tab} (B : Hs T [11]) (n : Nat) (ns : List Int) (k : Nat) : ∃ v o, callD T (n + 1) 11 [.scr ns, .int k] = .ok (.int v) o := let ⟨o, h⟩ := e11 (B.sub rfl) n ns k; ⟨_, o, h⟩
theorem e16 {T : Tab} (B : Hs T [11,12,13,15,16]) (n : Nat) (ns : List Int) (b : Nat) (hb : b < 2 ^ 30) {m h : Int} (hm : 0 ≤ m) (hm2 : m ≤ 4) (hh : 0 < h) (hh2 : h ≤ 3) : ∃ (ps : List (List Str)) (o : D), (ps.length : Int) ≤ m ∧ (∀ p ∈ ps, 1 ≤ p.length ∧ p.length ≤ 3 ∧ ∀ s ∈ p, kindOk s) ∧
    callD T (n + 4) 16 [.scr ns, .int (b : Nat), .int m, .int h] = .ok (.nd .own .lst (ps.map (boxD .own))) o := by
  rw [call_fn (fd := f16) (B.at (i := 16) rfl rfl)]
  obtain ⟨c0, o1, h11⟩ := e11' (B.sub rfl) (n + 2) ns b
  obtain ⟨r, o, r0, r1, hr⟩ := e13 (B.sub rfl) (n + 1) (c := c0) (k := (b : Int) + 3) (m := m + 1) (by omega) (by omega) (by omega) (by omega)
  let P : Nat → List D → Prop := fun i g => ∃ (ps : List (List Str)) (x : D), ps.length = i ∧ (∀ p ∈ ps, 1 ≤ p.length ∧ p.length ≤ 3 ∧ ∀ s ∈ p, kindOk s) ∧ g = [.scr ns, .int (b : Nat), .int m, .int h, .int (c0), .nd .own .lst (ps.map (boxD .own)), x]
  have lp : ∃ g', loopL (fun x g => match asgT 0 (.nm 6) x g with
      | none => .bad
      | some g => evS (T.cx (callD T (n + 3))) 0 (.cons (.ex (.mut (.var 5 .b) .append (.cons (.call 15 (.cons (.op .add (.call 11 (.cons (.var 0 .s) (.cons (.op .add (.op .add (.var 1 .s) (.var 6 .s)) (.int 1)) .nil))) (.op .mul (.int 29) (.var 6 .s))) (.cons (.op .add (.var 6 .s) (.int 2)) (.cons (.var 3 .s) .nil)))) .nil))) .nil) g) (upTo 0 r.toNat)
      [.scr ns, .int (b : Nat), .int m, .int h, .int (c0), .nd .own .lst [], .any] = .nx g' ∧ P r.toNat g' := by
    refine loop_upTo P (fun i g hi hp => ?_) _ ⟨[], .any, rfl, fun s z => (nomatch z), rfl⟩
    obtain ⟨ps, x, hk1, hk2, rfl⟩ := hp
    obtain ⟨c2, o2, h2⟩ := e11' (B.sub rfl) (n + 2) ns (b + i + 1)
    rw [show ((b + i + 1 : Nat) : Int) = (b : Int) + i + 1 by omega] at h2
    obtain ⟨ks, o3, k1, k2, k3, h3⟩ := e15 (B.sub rfl) n (c := c2 + 29 * (i : Int)) (a := (i : Int) + 2) (m := h) (by omega) (by omega) hh hh2
    refine ⟨[.scr ns, .int (b : Nat), .int m, .int h, .int (c0), .nd .own .lst ((ps ++ [ks]).map (boxD .own)), .int i], ?_, ps ++ [ks], .int i, by simp [hk1], fun p hp => ?_, rfl⟩
    · have hz : ps.length < 1000000 := by omega
      have hmo : mulOk 29 (i : Int) = true := mul_ok (far (by decide)) (far (by omega))
      have hn1 := nbs_box .own (by decide) ps
      simp [asgT, evS, evE, evA, evP, Rs.so, Rs.bind, ensure, E.imp, readV, D.isAny, D.sh, D.shs, D.nb, D.nbs, D.getp, D.setp, mmD, opD, h2, h3, hmo, lentIf, Rs.of, So.of, So.ens, Tab.cx, okn, hz, nbs_app, nbs_strs, hn1, boxD]
    · rcases List.mem_append.mp hp with z | z
      · exact hk2 p z
      · rw [List.mem_singleton.mp z]
        exact ⟨k1, by omega, k3⟩
  obtain ⟨g, hg, ps, x, hk1, hk2, rfl⟩ := lp
  refine ⟨ps, _, by omega, hk2, run_ok (g := [.scr ns, .int (b : Nat), .int m, .int h, .int (c0), .any, x]) rfl ?_ ?_⟩
  · refine (seq_nx (g1 := [.scr ns, .int (b : Nat), .int m, .int h, .int (c0), .nd .own .lst [], .any]) ?_).trans ?_
    · simp [f16, evS, evE, evA, Rs.so, Rs.bind, ensure, So.of, setAll, okn, D.nb, D.nbs, readV, D.isAny, D.sh, D.shs, E.imp, Tab.cx, h11, lentIf]
    · refine (seq_nx (for_nx (q := (upTo 0 r.toNat, [])) ?_ rfl hg)).trans ?_
      · have b1 : (-1152921504606846976 : Int) < r := by omega
        have b2 : (r : Int) < 1152921504606846976 := by omega
        simp [f16, evI, evE, evA, Rs.so, Rs.bind, ensure, E.imp, readV, D.isAny, D.sh, D.shs, D.nb, D.nbs, opD, hr, lentIf, Rs.of, Tab.cx, b1, b2]
      · simp [f16, evS, evE, Rs.so, Rs.bind, ensure, readV, D.isAny, So.ens, D.nb, nbs_box]
  · simp [D.nb, nbs_box]
end Ku

namespace Ku
open PySem PySem.Spec PyProof.Rows L2 Bx
theorem pickS {k a r : Int} (h0 : 0 ≤ k) (h1 : k < 5) (ha : 0 ≤ a) (r0 : 0 ≤ r) (r1 : r ≤ a) : ∃ s, 0 ≤ s ∧ s ≤ a ∧ subD (.tup [.int r, .int a, .int 0, .int a, .int (a - a % 4)]) (.int k) = some (.int s) := by
  have : k = 0 ∨ k = 1 ∨ k = 2 ∨ k = 3 ∨ k = 4 := by omega
  rcases this with rfl | rfl | rfl | rfl | rfl
  · exact ⟨r, r0, r1, rfl⟩
  · exact ⟨a, ha, by omega, rfl⟩
  · exact ⟨0, by omega, ha, rfl⟩
  · exact ⟨a, ha, by omega, rfl⟩
  · exact ⟨a - a % 4, by omega, by omega, rfl⟩
theorem map_ins (ls : List Int) (v : Int) (s : Nat) : (ls.map D.int).take s ++ D.int v :: (ls.map D.int).drop s = (ls.take s ++ v :: ls.drop s).map D.int := by
  simp
def bd14 : S := (.cons (.set 9 (.op .add (.call 11 (.cons (.var 0 .s) (.cons (.op .add (.var 1 .s) (.op .mod (.var 8 .s) (.int 7))) .nil))) (.op .mul (.int 17) (.var 8 .s))))
  (.cons (.set 5 (.op .add (.op .add (.var 5 .s) (.int 1)) (.call 13 (.cons (.var 9 .s) (.cons (.op .add (.var 8 .s) (.int 1)) (.cons (.int 4) .nil))))))
  (.cons (.set 10 (.ix (.tup (.cons (.call 13 (.cons (.var 9 .s) (.cons (.op .add (.var 8 .s) (.int 3)) (.cons (.op .add (.var 8 .s) (.int 1)) .nil)))) (.cons (.var 8 .s) (.cons (.int 0) (.cons (.var 8 .s) (.cons (.op .sub (.var 8 .s) (.op .mod (.var 8 .s) (.int 4))) .nil)))))) (.var 6 .s)))
  (.cons (.ife (.and (.cmp .eq (.var 6 .s) (.int 3)) (.one (.cmp .eq (.call 13 (.cons (.var 9 .s) (.cons (.op .add (.var 8 .s) (.int 4)) (.cons (.int 5) .nil)))) (.int 0))))
  (.cons (.set 10 (.call 13 (.cons (.var 9 .s) (.cons (.op .add (.var 8 .s) (.int 2)) (.cons (.op .add (.var 8 .s) (.int 1)) .nil)))))
  .nil)
  .nil)
  (.cons (.ex (.mut (.var 4 .b) .insert (.cons (.var 10 .s) (.cons (.var 5 .s) .nil))))
  .nil)))))
theorem cmp_int (i j : Int) : cmpD .eq (.int i) (.int j) = some (decide (i = j)) := by
  simp [cmpD, D.cmpb, D.pyb, D.py, SeqAt.shaped, PyData.canLay0, PyData.depth, PyData.eqv]
  rfl
theorem e14 {T : Tab} (B : Hs T [11,12,13,14]) (n : Nat) (ns : List Int) (b : Nat) (hb : b < 2 ^ 30) (m : Nat) (hm0 : 0 < m) (hm : m ≤ 24) : ∃ (ls : List Int) (o : D), 1 ≤ ls.length ∧ ls.length ≤ m ∧ ls.Nodup ∧ (∀ x ∈ ls, 0 ≤ x ∧ x ≤ 99) ∧
    callD T (n + 3) 14 [.scr ns, .int (b : Nat), .int (m : Nat)] = .ok (rowD .own ls) o := by
  rw [call_fn (fd := f14) (B.at (i := 14) rfl rfl)]
  obtain ⟨c0, o1, h11⟩ := e11' (B.sub rfl) (n + 1) ns b
  obtain ⟨kd, o2, d0, d1, hd⟩ := e13 (B.sub rfl) n (c := c0) (k := (b : Int) + 1) (m := 5) (by omega) (by omega) (by omega) (by omega)
  obtain ⟨r, o3, r0, r1, hr⟩ := e13 (B.sub rfl) n (c := c0) (k := (b : Int) + 2) (m := (m : Int)) (by omega) (by omega) (by omega) (by omega)
  let P : Nat → List D → Prop := fun i g => ∃ (ls : List Int) (lt : Int) (x8 x9 x10 : D), ls.length = i ∧ ls.Nodup ∧ (∀ x ∈ ls, 0 ≤ x ∧ x ≤ lt) ∧ -1 ≤ lt ∧ lt < 4 * i ∧
    g = [.scr ns, .int (b : Nat), .int (m : Nat), .int c0, .nd .own .lst (ls.map .int), .int lt, .int kd, .int (1 + r), x8, x9, x10]
  have lp : ∃ g', loopL (fun x g => match asgT 0 (.nm 8) x g with
      | none => .bad
      | some g => evS (T.cx (callD T (n + 2))) 0 bd14 g) (upTo 0 (1 + r).toNat)
      [.scr ns, .int (b : Nat), .int (m : Nat), .int c0, .nd .own .lst [], .int (-1), .int kd, .int (1 + r), .any, .any, .any] = .nx g' ∧ P (1 + r).toNat g' := by
    refine loop_upTo P (fun i g hi hp => ?_) _ ⟨[], -1, .any, .any, .any, rfl, List.nodup_nil, fun s z => (nomatch z), by omega, by omega, rfl⟩
    obtain ⟨ls, lt, x8, x9, x10, hk1, hk2, hk3, hk4, hk5, rfl⟩ := hp
    obtain ⟨c2, o2, h2⟩ := e11' (B.sub rfl) (n + 1) ns (b + i % 7)
    rw [show ((b + i % 7 : Nat) : Int) = (b : Int) + (i : Int) % 7 by omega] at h2
    generalize hcell : c2 + 17 * (i : Int) = cell
    obtain ⟨q1, p1, a1, b1, g1⟩ := e13 (B.sub rfl) n (c := cell) (k := (i : Int) + 1) (m := 4) (by omega) (by omega) (by omega) (by omega)
    obtain ⟨q2, p2, a2, b2, g2⟩ := e13 (B.sub rfl) n (c := cell) (k := (i : Int) + 3) (m := (i : Int) + 1) (by omega) (by omega) (by omega) (by omega)
    obtain ⟨q3, p3, a3, b3, g3⟩ := e13 (B.sub rfl) n (c := cell) (k := (i : Int) + 4) (m := 5) (by omega) (by omega) (by omega) (by omega)
    obtain ⟨q4, p4, a4, b4, g4⟩ := e13 (B.sub rfl) n (c := cell) (k := (i : Int) + 2) (m := (i : Int) + 1) (by omega) (by omega) (by omega) (by omega)
    obtain ⟨s, s0, s1, hs⟩ := pickS d0 d1 (a := (i : Int)) (by omega) a2 (by omega)
    have hz : ls.length < 1000000 := by omega
    have hmo : mulOk 17 (i : Int) = true := mul_ok (far (by decide)) (far (by omega))
    have fin : ∀ s : Int, 0 ≤ s → s ≤ i → ∃ g', evS (T.cx (callD T (n + 2))) 0 (.cons (.ex (.mut (.var 4 .b) .insert (.cons (.var 10 .s) (.cons (.var 5 .s) .nil)))) .nil) [.scr ns, .int (b : Nat), .int (m : Nat), .int c0, .nd .own .lst (ls.map .int), .int (lt + 1 + q1), .int kd, .int (1 + r), .int i, .int cell, .int s] = .nx g' ∧ P (i + 1) g' := fun s s0 s1 => by
      refine ⟨[.scr ns, .int (b : Nat), .int (m : Nat), .int c0, .nd .own .lst ((ls.take s.toNat ++ (lt + 1 + q1) :: ls.drop s.toNat).map .int), .int (lt + 1 + q1), .int kd, .int (1 + r), .int i, .int cell, .int s], ?_, _, _, _, _, _, ?_, ?_, ?_, ?_, ?_, rfl⟩
      · have hle : s ≤ (ls.length : Int) := by omega
        have hnb := nbs_ints (ls.take s.toNat ++ (lt + 1 + q1) :: ls.drop s.toNat)
        rw [← map_ins] at hnb ⊢
        simp [asgT, evS, evE, evA, evP, Rs.so, Rs.bind, ensure, E.imp, readV, D.isAny, D.sh, D.shs, D.nb, D.nbs, D.getp, D.setp, mmD, okn, hz, s0, hle, hnb]
      · simp
        omega
      · have hp : (ls.take s.toNat ++ (lt + 1 + q1) :: ls.drop s.toNat).Perm ((lt + 1 + q1) :: ls) := by
          refine List.perm_middle.trans ?_
          rw [List.take_append_drop]
        rw [hp.nodup_iff, List.nodup_cons]
        exact ⟨fun z => by have := (hk3 _ z).2; omega, hk2⟩
      · intro x hx
        have hx : x ∈ (lt + 1 + q1) :: ls := by
          simp only [List.mem_append, List.mem_cons] at hx ⊢
          rcases hx with z | z | z
          · exact .inr (List.mem_of_mem_take z)
          · exact .inl z
          · exact .inr (List.mem_of_mem_drop z)
        rcases List.mem_cons.mp hx with rfl | z
        · omega
        · have := hk3 x z
          omega
      · omega
      · omega
    by_cases hc : kd = 3 ∧ q3 = 0
    · obtain ⟨hc1, hc2⟩ := hc
      obtain ⟨g', e1, e2⟩ := fin q4 a4 (by omega)
      refine ⟨g', ?_, e2⟩
      rw [← e1]
      subst hc1 hc2
      simp [bd14, asgT, evS, evE, evA, Rs.so, Rs.bind, ensure, E.imp, readV, D.isAny, D.sh, D.shs, D.nb, D.nbs, opD, h2, hcell, g1, g2, g3, g4, hs, cmp_int, hmo, lentIf, Rs.of, So.of, Tab.cx, okn]
    · obtain ⟨g', e1, e2⟩ := fin s s0 s1
      refine ⟨g', ?_, e2⟩
      rw [← e1]
      by_cases h3 : kd = 3
      · have h4 : ¬ q3 = 0 := fun z => hc ⟨h3, z⟩
        subst h3
        simp [bd14, asgT, evS, evE, evA, Rs.so, Rs.bind, ensure, E.imp, readV, D.isAny, D.sh, D.shs, D.nb, D.nbs, opD, h2, hcell, g1, g2, g3, g4, hs, cmp_int, h4, hmo, lentIf, Rs.of, So.of, Tab.cx, okn]
      · simp [bd14, asgT, evS, evE, evA, Rs.so, Rs.bind, ensure, E.imp, readV, D.isAny, D.sh, D.shs, D.nb, D.nbs, opD, h2, hcell, g1, g2, g3, g4, hs, cmp_int, h3, hmo, lentIf, Rs.of, So.of, Tab.cx, okn]
  obtain ⟨g, hg, ls, lt, x8, x9, x10, hk1, hk2, hk3, hk4, hk5, rfl⟩ := lp
  refine ⟨ls, _, by omega, by omega, hk2, fun x hx => ?_, run_ok (g := [.scr ns, .int (b : Nat), .int (m : Nat), .int c0, .any, .int lt, .int kd, .int (1 + r), x8, x9, x10]) rfl ?_ ?_⟩
  · have := hk3 x hx
    omega
  · refine (seq_nx (g1 := [.scr ns, .int (b : Nat), .int (m : Nat), .int c0, .nd .own .lst [], .int (-1), .any, .any, .any, .any, .any]) ?_).trans ?_
    · simp [f14, evS, evE, evA, Rs.so, Rs.bind, ensure, So.of, setAll, okn, D.nb, D.nbs, readV, D.isAny, D.sh, D.shs, E.imp, Tab.cx, h11, lentIf]
    · refine (seq_nx (g1 := [.scr ns, .int (b : Nat), .int (m : Nat), .int c0, .nd .own .lst [], .int (-1), .int kd, .int (1 + r), .any, .any, .any]) ?_).trans ?_
      · simp [f14, evS, evE, evA, Rs.so, Rs.bind, ensure, So.of, setAll, okn, D.nb, D.nbs, readV, D.isAny, D.sh, D.shs, E.imp, Tab.cx, hd, hr, opD, Rs.of, lentIf]
      · refine (seq_nx (for_nx (q := (upTo 0 (1 + r).toNat, [])) ?_ rfl hg)).trans ?_
        · have b1 : (-1152921504606846976 : Int) < 1 + r := by omega
          have b2 : (1 + r : Int) < 1152921504606846976 := by omega
          simp [evI, evE, Rs.bind, ensure, readV, D.isAny, D.sh, b1, b2]
        · simp [evS, evE, Rs.so, ensure, readV, D.isAny, So.ens, D.nb, nbs_ints, rowD]
  · simp [rowD, D.nb, nbs_ints]
end Ku

namespace Ku
open PySem PySem.Spec PyProof.Rows L2 Bx
theorem uns_strs (ks : List Str) : D.uns (ks.map .str) = ks.map .str := by
  rw [uns_map, List.map_map]
  rfl
theorem uns_ints (ks : List Int) : D.uns (ks.map .int) = ks.map .int := by
  rw [uns_map, List.map_map]
  rfl
theorem shs_ints (ks : List Int) : D.shs (ks.map .int) = ks.map .int := by
  rw [shs_map, List.map_map]
  rfl
theorem shs_strs (ks : List Str) : D.shs (ks.map .str) = ks.map .str := by
  rw [shs_map, List.map_map]
  rfl
theorem un_box (p : List Str) : (boxD .shr p).un = boxD .shr p := by
  unfold boxD
  rw [D.un, uns_strs]
  rfl
theorem uns_box (ps : List (List Str)) : D.uns (ps.map (boxD .shr)) = ps.map (boxD .shr) := by
  rw [uns_map, List.map_map]
  exact List.map_congr_left fun p _ => un_box p
theorem un_row (p : List Int) : (rowD .shr p).un = rowD .shr p := by
  unfold rowD
  rw [D.un, uns_ints]
  rfl
theorem uns_row (ps : List (List Int)) : D.uns (ps.map (rowD .shr)) = ps.map (rowD .shr) := by
  rw [uns_map, List.map_map]
  exact List.map_congr_left fun p _ => un_row p
theorem sh_box (f : Fl) (p : List Str) : (boxD f p).sh = boxD .shr p := by
  unfold boxD
  rw [D.sh, shs_strs]
theorem sh_row (f : Fl) (p : List Int) : (rowD f p).sh = rowD .shr p := by
  unfold rowD
  rw [D.sh, shs_ints]
theorem shs_box (f : Fl) (ps : List (List Str)) : D.shs (ps.map (boxD f)) = ps.map (boxD .shr) := by
  rw [shs_map, List.map_map]
  exact List.map_congr_left fun p _ => sh_box f p
theorem shs_row (f : Fl) (ps : List (List Int)) : D.shs (ps.map (rowD f)) = ps.map (rowD .shr) := by
  rw [shs_map, List.map_map]
  exact List.map_congr_left fun p _ => sh_row f p
def passD (f : Fl) (ps : List (List Str)) : D := .nd f .lst (ps.map (boxD f))
def planD (f : Fl) (ps : List (List Int)) : D := .nd f .lst (ps.map (rowD f))
/-- a row fits letters and boxes -/
def fits (m : Nat) (p : List Str) (row : List Int) : Prop := row.length = m ∧ ∀ v ∈ row, 0 ≤ v ∧ v < p.length
def Plan (m : Nat) : List (List Str) → List (List Int) → Prop
  | [], [] => True
  | p :: ps, r :: rs => fits m p r ∧ Plan m ps rs
  | _, _ => False
theorem Plan.snoc {m : Nat} {p : List Str} {r : List Int} : ∀ {ps : List (List Str)} {rs : List (List Int)}, Plan m ps rs → fits m p r → Plan m (ps ++ [p]) (rs ++ [r])
  | [], [], _, h => ⟨h, trivial⟩
  | p' :: ps, r' :: rs, h, h' => ⟨h.1, Plan.snoc h.2 h'⟩
  | [], _ :: _, h, _ => h.elim
  | _ :: _, [], h, _ => h.elim
theorem evI_rngI {C : Cxt} {nf : Nat} {r : Int} {a : E} {g g1 : List D} (h : evE C nf a g = .ok (.int r) g1) (b1 : (-1152921504606846976 : Int) < r) (b2 : r < 1152921504606846976) : evI C nf (.rng a) g = .ok (upTo 0 r.toNat, []) g1 := by
  simp [evI, h, Rs.bind, ensure, b1, b2]
theorem evI_rng {C : Cxt} {nf n : Nat} {a : E} {g g1 : List D} (h : evE C nf a g = .ok (.int (n : Nat)) g1) (hn : n < 1000000) : evI C nf (.rng a) g = .ok (upTo 0 n, []) g1 :=
  evI_rngI (r := (n : Int)) h (by omega) (by omega)
theorem e17 {T : Tab} (B : Hs T [11,12,13,17]) (n : Nat) (ns : List Int) (b : Nat) (hb : b < 2 ^ 30) (ls : List Int) (hl : ls.length ≤ 24) (ps : List (List Str)) (hp : ps.length ≤ 4) (hps : ∀ p ∈ ps, 1 ≤ p.length ∧ p.length ≤ 3 ∧ ∀ s ∈ p, kindOk s) :
    ∃ (rs : List (List Int)) (o : D), Plan ls.length ps rs ∧ callD T (n + 3) 17 [.scr ns, .int (b : Nat), rowD .shr ls, passD .shr ps] = .ok (.nd .own .lst (rs.map (rowD .shr))) o := by
  rw [call_fn (fd := f17) (B.at (i := 17) rfl rfl)]
  let P : Nat → List D → Prop := fun i g => ∃ (rs : List (List Int)) (x5 x6 x7 x8 x9 : D), Plan ls.length (ps.take i) rs ∧ rs.length = i ∧ g = [.scr ns, .int (b : Nat), rowD .shr ls, passD .shr ps, .nd .own .lst (rs.map (rowD .shr)), x5, x6, x7, x8, x9]
  have lp : ∃ g', loopL (fun x g => match asgT 0 (.tp (.cons (.nm 5) (.cons (.nm 6) .nil))) x g with
      | none => .bad
      | some g => evS (T.cx (callD T (n + 2))) 0 (.cons (.set 7 (.lst .nil))
  (.cons (.for (.nm 8) (.rng (.bi .len (.cons (.var 2 .s) .nil)))
  (.cons (.set 9 (.op .add (.op .add (.call 11 (.cons (.var 0 .s) (.cons (.op .add (.var 1 .s) (.op .mod (.op .add (.var 8 .s) (.var 5 .s)) (.int 7))) .nil))) (.op .mul (.int 31) (.var 8 .s))) (.op .mul (.int 7) (.var 5 .s))))
  (.cons (.ex (.mut (.var 7 .b) .append (.cons (.call 13 (.cons (.var 9 .s) (.cons (.op .add (.var 8 .s) (.var 5 .s)) (.cons (.bi .len (.cons (.var 6 .s) .nil)) .nil)))) .nil)))
  .nil)))
  (.cons (.ex (.mut (.var 4 .b) .append (.cons (.var 7 .s) .nil)))
  .nil))) g) (enumD 0 (ps.map (boxD .shr)))
      [.scr ns, .int (b : Nat), rowD .shr ls, passD .shr ps, .nd .own .lst [], .any, .any, .any, .any, .any] = .nx g' ∧ P (enumD 0 (ps.map (boxD .shr))).length g' := by
    refine loop_list P (fun i x g hx hq => ?_) _ ⟨[], .any, .any, .any, .any, .any, by simp [Plan], rfl, rfl⟩
    have hi : i < ps.length := by
      have := (List.getElem?_eq_some_iff.mp hx).1
      rw [enumD_len, List.length_map] at this
      exact this
    have ep : ps[i]? = some ps[i] := List.getElem?_eq_getElem hi
    generalize ps[i] = p at ep
    rw [enumD_at _ 0 i (boxD .shr p) (by rw [List.getElem?_map, ep]; rfl), Nat.zero_add] at hx
    cases hx
    have hpp := hps p (List.mem_of_getElem? ep)
    obtain ⟨rs, x5, x6, x7, x8, x9, hr1, hr2, rfl⟩ := hq
    let Q : Nat → List D → Prop := fun j g => ∃ (row : List Int) (x8 x9 : D), row.length = j ∧ (∀ v ∈ row, 0 ≤ v ∧ v < p.length) ∧ g = [.scr ns, .int (b : Nat), rowD .shr ls, passD .shr ps, .nd .own .lst (rs.map (rowD .shr)), .int i, boxD .shr p, .nd .own .lst (row.map .int), x8, x9]
    have lq : ∃ g', loopL (fun x g => match asgT 0 (.nm 8) x g with
      | none => .bad
      | some g => evS (T.cx (callD T (n + 2))) 0 (.cons (.set 9 (.op .add (.op .add (.call 11 (.cons (.var 0 .s) (.cons (.op .add (.var 1 .s) (.op .mod (.op .add (.var 8 .s) (.var 5 .s)) (.int 7))) .nil))) (.op .mul (.int 31) (.var 8 .s))) (.op .mul (.int 7) (.var 5 .s))))
  (.cons (.ex (.mut (.var 7 .b) .append (.cons (.call 13 (.cons (.var 9 .s) (.cons (.op .add (.var 8 .s) (.var 5 .s)) (.cons (.bi .len (.cons (.var 6 .s) .nil)) .nil)))) .nil)))
  .nil)) g) (upTo 0 ls.length)
      [.scr ns, .int (b : Nat), rowD .shr ls, passD .shr ps, .nd .own .lst (rs.map (rowD .shr)), .int i, boxD .shr p, .nd .own .lst [], x8, x9] = .nx g' ∧ Q ls.length g' := by
      refine loop_upTo Q (fun j g hj hq => ?_) _ ⟨[], x8, x9, rfl, fun s z => (nomatch z), rfl⟩
      obtain ⟨row, y8, y9, k1, k2, rfl⟩ := hq
      obtain ⟨c2, o2, h2⟩ := e11' (B.sub rfl) (n + 1) ns (b + (j + i) % 7)
      rw [show ((b + (j + i) % 7 : Nat) : Int) = (b : Int) + ((j : Int) + (i : Int)) % 7 by omega] at h2
      obtain ⟨v, o3, v0, v1, hv⟩ := e13 (B.sub rfl) n (c := c2 + 31 * (j : Int) + 7 * (i : Int)) (k := (j : Int) + (i : Int)) (m := (p.length : Int)) (by omega) (by omega) (by omega) (by omega)
      have m1 : mulOk 31 (j : Int) = true := mul_ok (far (by decide)) (far (by omega))
      have m2 : mulOk 7 (i : Int) = true := mul_ok (far (by decide)) (far (by omega))
      have hz : row.length < 1000000 := by omega
      refine ⟨[.scr ns, .int (b : Nat), rowD .shr ls, passD .shr ps, .nd .own .lst (rs.map (rowD .shr)), .int i, boxD .shr p, .nd .own .lst ((row ++ [v]).map .int), .int j, .int (c2 + 31 * (j : Int) + 7 * (i : Int))], ?_, row ++ [v], _, _, by simp [k1], fun u hu => ?_, rfl⟩
      · have hs := sh_box .shr p
        have hb1 : ∃ t ds, boxD .shr p = .nd .shr t ds ∧ t = .lst ∧ ds.length = p.length := ⟨_, _, rfl, rfl, by simp⟩
        simp [asgT, evS, evE, evA, evP, Rs.so, Rs.bind, ensure, E.imp, readV, D.isAny, D.sh, D.shs, D.nb, D.nbs, D.getp, D.setp, mmD, opD, biD, h2, hv, m1, m2, lentIf, Rs.of, So.of, So.ens, Tab.cx, okn, hz, nbs_app, nbs_ints, boxD, shs_strs]
      · rcases List.mem_append.mp hu with z | z
        · exact k2 u z
        · rw [List.mem_singleton.mp z]
          exact ⟨v0, v1⟩
    obtain ⟨g, hg, row, y8, y9, k1, k2, rfl⟩ := lq
    refine ⟨[.scr ns, .int (b : Nat), rowD .shr ls, passD .shr ps, .nd .own .lst ((rs ++ [row]).map (rowD .shr)), .int i, boxD .shr p, rowD .shr row, y8, y9], ?_, rs ++ [row], _, _, _, _, _, ?_, by simp [hr2], rfl⟩
    · have ha : asgT 0 (.tp (.cons (.nm 5) (.cons (.nm 6) .nil))) (.tup [.int (i : Nat), boxD .shr p]) [.scr ns, .int (b : Nat), rowD .shr ls, passD .shr ps, .nd .own .lst (rs.map (rowD .shr)), x5, x6, x7, x8, x9] = some [.scr ns, .int (b : Nat), rowD .shr ls, passD .shr ps, .nd .own .lst (rs.map (rowD .shr)), .int i, boxD .shr p, x7, x8, x9] := by
        simp [asgT, asgT.asgTs, boxD, D.nb, nbs_strs]
      simp only [ha]
      refine (seq_nx (g1 := [.scr ns, .int (b : Nat), rowD .shr ls, passD .shr ps, .nd .own .lst (rs.map (rowD .shr)), .int i, boxD .shr p, .nd .own .lst [], x8, x9]) ?_).trans ?_
      · simp [evS, evE, evA, Rs.so, Rs.bind, ensure, So.of, asgT, okn, D.nb, D.nbs]
      · refine (seq_nx (for_nx (q := (upTo 0 ls.length, [])) ?_ rfl hg)).trans ?_
        · refine evI_rng ?_ (by omega)
          simp [evE, evA, Rs.bind, ensure, readV, D.isAny, D.sh, shs_ints, rowD, E.imp, biD, Rs.of]
        · have hz : rs.length < 1000000 := by omega
          have hn1 := nbs_row .shr (by decide) rs
          simp [evS, evE, evA, evP, Rs.so, Rs.bind, ensure, E.imp, readV, D.isAny, D.sh, D.shs, shs_ints, D.nb, D.nbs, D.getp, D.setp, mmD, okn, hz, nbs_app, nbs_ints, hn1, rowD]
    · rw [List.take_add_one, ep]
      exact hr1.snoc ⟨k1, k2⟩
  obtain ⟨g, hg, rs, x5, x6, x7, x8, x9, hr1, hr2, rfl⟩ := lp
  rw [enumD_len, List.length_map, List.take_length] at hr1
  refine ⟨rs, _, hr1, run_ok (g := [.scr ns, .int (b : Nat), rowD .shr ls, passD .shr ps, .any, x5, x6, x7, x8, x9]) rfl ?_ ?_⟩
  · refine (seq_nx (g1 := [.scr ns, .int (b : Nat), rowD .shr ls, passD .shr ps, .nd .own .lst [], .any, .any, .any, .any, .any]) ?_).trans ?_
    · simp [f17, evS, evE, evA, Rs.so, Rs.bind, ensure, So.of, asgT, okn, D.nb, D.nbs]
    · refine (seq_nx (for_nx (q := (enumD 0 (ps.map (boxD .shr)), [passD .shr ps])) ?_ ?_ hg)).trans ?_
      · simp [evI, evE, Rs.bind, ensure, readV, D.isAny, D.sh, shs_box, uns_box, passD]
      · simp [E.lockd, passD, D.nbs, D.nb, nbs_box]
      · simp [evS, evE, Rs.so, Rs.bind, ensure, readV, D.isAny, So.ens, D.nb, nbs_row]
  · simp [D.nb, nbs_row]
end Ku

namespace Ku
open PySem PySem.Spec PyProof.Rows L2 Bx
theorem e3 {T : Tab} (B : Hs T [3]) (n : Nat) (i : Int) : callD T (n + 1) 3 [.int i] = .ok (.bl true) (.int i) := by
  rw [call_fn (fd := f3) (B.at (i := 3) rfl rfl)]
  simp [runF, f3, b3, evS, evE, Rs.so, Rs.bind, ensure, readV, D.isAny, D.sh, isD, tyS, D.tyN, isTab, Rs.of, So.ens, D.nb]
theorem e4 {T : Tab} (B : Hs T [3,4]) (n : Nat) {i a b : Int} (h1 : a ≤ i) (h2 : i ≤ b) : ∃ o, callD T (n + 2) 4 [.int i, .int a, .int b] = .ok (.bl true) o := by
  rw [call_fn (fd := f4) (B.at (i := 4) rfl rfl)]
  refine ⟨.int i, ?_⟩
  simp [runF, f4, b4, evS, evE, evA, Rs.so, Rs.bind, ensure, E.imp, readV, D.isAny, D.sh, D.shs, D.nb, D.nbs, e3 (B.sub rfl : Hs T [3]), lentIf, cmpD, h1, h2, Rs.of, So.ens, Tab.cx]
theorem compL_map {turn : D → List D → Rs (Option D)} {f : D → D} {g : List D} : ∀ {xs : List D}, (∀ x ∈ xs, turn x g = .ok (some (f x)) g) → compL turn xs g = .ok (xs.map f) g
  | [], _ => rfl
  | x :: xs, h => by
    rw [compL, h x (List.mem_cons_self ..)]
    show (compL turn xs g).bind _ = _
    rw [compL_map fun y hy => h y (List.mem_cons_of_mem _ hy)]
    rfl
theorem comp_ok {C : Cxt} {nf : Nat} {e a : E} {t : Tg} {own : List Nat} {g g1 : List D} {q : List D × List D} {f : D → D}
    (hb : (!e.imp && !E.nop.imp && !a.imp && !a.lockd && t.ixs.all (own.contains ·) && own.all (fun j => decide (nf ≤ j))) = true) (h1 : evI C nf a g = .ok q g1) (hl : okn q.1.length = true)
    (h : ∀ x ∈ q.1, turnC C nf e .nop t own x (setAny g1 own) = .ok (some (f x)) (setAny g1 own)) : evE C nf (.comp e .nop t a own) g = .ok (.nd .own .lst (q.1.map f)) (setAny g1 own) := by
  rw [comp_ev, hb, h1]
  show ensure (okn q.1.length) _ = _
  rw [hl]
  show (compL _ q.1 (setAny g1 own)).bind _ = _
  rw [compL_map h]
  rfl
theorem nbs1 {f : Fl} (hf : f ≠ .bor) {ds : List D} (h : D.nbs ds = true) : (D.nd f .lst ds).nb = true := by
  rw [D.nb, h]
  simp [hf]
theorem e19p {T : Tab} (B : Hs T [19]) (n : Nat) (ps : List (List Str)) (hl : ps.length < 1000000) : ∃ o, callD T (n + 1) 19 [passD .shr ps] = .ok (passD .own ps) o := by
  rw [call_fn (fd := f19) (B.at (i := 19) rfl rfl)]
  refine ⟨_, run_ok (g := [passD .shr ps, .any]) rfl ?_ (nbs1 (by decide) (nbs_box .own (by decide) ps))⟩
  have hc : evE (T.cx (callD T n)) 0 (.comp (.bi .list (.cons (.var 1 .s) .nil)) .nop (.nm 1) (.src (.var 0 .s)) [1]) [passD .shr ps, .any] = .ok (.nd .own .lst ((ps.map (boxD .shr)).map fun d => match d with | .nd _ t xs => .nd .own t xs | d => d)) [passD .shr ps, .any] := by
    refine comp_ok (q := (ps.map (boxD .shr), [passD .shr ps])) (g1 := [passD .shr ps, .any]) rfl ?_ (by simp [okn, hl]) fun x hx => ?_
    · simp [evI, evE, Rs.bind, ensure, readV, D.isAny, D.sh, shs_box, uns_box, passD, Rs.of, listI]
    · obtain ⟨p, _, rfl⟩ := List.mem_map.mp hx
      simp [turnC, asgT, setAny, optB, E.isNop, boxD, D.nb, nbs_strs, evE, evA, Rs.bind, ensure, readV, D.isAny, D.sh, shs_strs, E.imp, biD, Rs.of]
  have e : (ps.map (boxD .shr)).map (fun d => match d with | .nd _ t xs => .nd .own t xs | d => d) = ps.map (boxD .own) := by
    rw [List.map_map]
    rfl
  rw [e] at hc
  show evS _ 0 (.cons (.ret (.comp (.bi .list (.cons (.var 1 .s) .nil)) .nop (.nm 1) (.src (.var 0 .s)) [1])) .nil) [passD .shr ps, .any] = _
  have hn : (D.nd .own .lst (ps.map (boxD .own))).nb = true := nbs1 (by decide) (nbs_box .own (by decide) ps)
  simp only [evS, hc, Rs.so, So.ens, hn]
  rfl
theorem e19r {T : Tab} (B : Hs T [19]) (n : Nat) (ps : List (List Int)) (hl : ps.length < 1000000) : ∃ o, callD T (n + 1) 19 [planD .shr ps] = .ok (planD .own ps) o := by
  rw [call_fn (fd := f19) (B.at (i := 19) rfl rfl)]
  refine ⟨_, run_ok (g := [planD .shr ps, .any]) rfl ?_ (nbs1 (by decide) (nbs_row .own (by decide) ps))⟩
  have hc : evE (T.cx (callD T n)) 0 (.comp (.bi .list (.cons (.var 1 .s) .nil)) .nop (.nm 1) (.src (.var 0 .s)) [1]) [planD .shr ps, .any] = .ok (.nd .own .lst ((ps.map (rowD .shr)).map fun d => match d with | .nd _ t xs => .nd .own t xs | d => d)) [planD .shr ps, .any] := by
    refine comp_ok (q := (ps.map (rowD .shr), [planD .shr ps])) (g1 := [planD .shr ps, .any]) rfl ?_ (by simp [okn, hl]) fun x hx => ?_
    · simp [evI, evE, Rs.bind, ensure, readV, D.isAny, D.sh, shs_row, uns_row, planD, Rs.of, listI]
    · obtain ⟨p, _, rfl⟩ := List.mem_map.mp hx
      simp [turnC, asgT, setAny, optB, E.isNop, rowD, D.nb, nbs_ints, evE, evA, Rs.bind, ensure, readV, D.isAny, D.sh, shs_ints, E.imp, biD, Rs.of]
  have e : (ps.map (rowD .shr)).map (fun d => match d with | .nd _ t xs => .nd .own t xs | d => d) = ps.map (rowD .own) := by
    rw [List.map_map]
    rfl
  rw [e] at hc
  show evS _ 0 (.cons (.ret (.comp (.bi .list (.cons (.var 1 .s) .nil)) .nop (.nm 1) (.src (.var 0 .s)) [1])) .nil) [planD .shr ps, .any] = _
  have hn : (D.nd .own .lst (ps.map (rowD .own))).nb = true := nbs1 (by decide) (nbs_row .own (by decide) ps)
  simp only [evS, hc, Rs.so, So.ens, hn]
  rfl
end Ku

namespace Ku
open PySem PySem.Spec PyProof.Rows L2 Bx
theorem loop_pre {α : Type} {turn : D → List D → So} {enc : α → D} {xs : List α} (P : List α → List D → Prop) (h : ∀ done x rest g, xs = done ++ x :: rest → P done g → ∃ g', turn (enc x) g = .nx g' ∧ P (done ++ [x]) g') : ∀ g, P [] g → ∃ g', loopL turn (xs.map enc) g = .nx g' ∧ P xs g' := by
  have gen : ∀ (rest done : List α) (g : List D), xs = done ++ rest → P done g → ∃ g', loopL turn (rest.map enc) g = .nx g' ∧ P xs g' := by
    intro rest
    induction rest with
    | nil => intro done g e p; rw [List.append_nil] at e; subst e; exact ⟨g, rfl, p⟩
    | cons x rest ih =>
      intro done g e p
      obtain ⟨g1, h1, p1⟩ := h done x rest g e p
      obtain ⟨g2, h2, p2⟩ := ih (done ++ [x]) g1 (by rw [e, List.append_assoc]; rfl) p1
      refine ⟨g2, ?_, p2⟩
      rw [List.map_cons, loopL, h1]
      exact h2
  intro g p
  exact gen xs [] g rfl p
theorem zipD_map {α β : Type} (f : α → D) (h : β → D) : ∀ (xs : List α) (ys : List β), zipD (xs.map f) (ys.map h) = (xs.zip ys).map fun x => .tup [f x.1, h x.2]
  | [], _ => by simp [zipD]
  | x :: xs, [] => by simp [zipD]
  | x :: xs, y :: ys => by simp [zipD, zipD_map f h xs ys]
theorem enumD_map {α : Type} (f : α → D) : ∀ (xs : List α) (k : Nat), enumD k (xs.map f) = (xs.zipIdx k).map fun x => .tup [.int (x.2 : Nat), f x.1]
  | [], _ => rfl
  | x :: xs, k => by simp [enumD, enumD_map f xs (k + 1)]
theorem upTo_map : ∀ (n k : Nat), upTo (k : Nat) n = (List.range' k n).map fun i => .int (i : Nat)
  | 0, _ => rfl
  | n + 1, k => by
    rw [Bx.upTo, List.range'_succ, List.map_cons, ← upTo_map n (k + 1)]
    rfl
theorem run_non {T : Tab} {call : Nat → List D → CR} {fd : FnD} {ds : List D} {g : List D} (hl : ds.length = fd.ar) (h : evS (T.cx call) fd.nf fd.body (ds ++ List.replicate (fd.len - fd.ar) .any) = .nx g) : runF T call fd ds = .ok .non (g.getD 0 .any) := by
  unfold runF
  rw [if_pos hl, h]
theorem run_exc {T : Tab} {call : Nat → List D → CR} {fd : FnD} {ds : List D} {k : Nat} {g : List D} (hl : ds.length = fd.ar) (h : evS (T.cx call) fd.nf fd.body (ds ++ List.replicate (fd.len - fd.ar) .any) = .exc k g) : runF T call fd ds = .exc k (g.getD 0 .any) := by
  unfold runF
  rw [if_pos hl, h]
theorem bools_map {α : Type} (f : α → D) (b : α → Bool) (xs : List α) (h : ∀ x ∈ xs, f x = .bl (b x)) : D.bools (xs.map f) = some (xs.map b) := by
  induction xs with
  | nil => rfl
  | cons x xs ih =>
    rw [List.map_cons, h x (List.mem_cons_self ..), D.bools, ih fun y hy => h y (List.mem_cons_of_mem _ hy)]
    rfl
theorem ints_map (ls : List Int) : D.ints (ls.map .int) = some ls := by
  induction ls with
  | nil => rfl
  | cons x xs ih => rw [List.map_cons, D.ints, ih]; rfl
theorem comp_inv {α : Type} {C : Cxt} {nf : Nat} {e c a : E} {t : Tg} {own : List Nat} {g g1 : List D} {ks : List D} {enc f : α → D} {b : α → Bool} {xs : List α} (P : List D → Prop)
    (hb : (!e.imp && !c.imp && !a.imp && !a.lockd && t.ixs.all (own.contains ·) && own.all (fun j => decide (nf ≤ j))) = true) (h1 : evI C nf a g = .ok (xs.map enc, ks) g1) (hl : xs.length < 1000000) (h0 : P (setAny g1 own))
    (h : ∀ x ∈ xs, ∀ g, P g → ∃ g', turnC C nf e c t own (enc x) g = .ok (if b x = true then some (f x) else none) g' ∧ P g') :
    ∃ g', evE C nf (.comp e c t a own) g = .ok (.nd .own .lst ((xs.filter b).map f)) g' ∧ P g' := by
  rw [comp_ev, hb, h1]
  show ∃ g', ensure (okn (xs.map enc).length) _ = _ ∧ _
  rw [show okn (xs.map enc).length = true by simp [okn, hl]]
  have hm : ∀ ys : List α, (∀ y ∈ ys, y ∈ xs) → ∀ g, P g → ∃ g', compL (turnC C nf e c t own) (ys.map enc) g = .ok ((ys.filter b).map f) g' ∧ P g' := by
    intro ys
    induction ys with
    | nil => intro _ g p; exact ⟨g, rfl, p⟩
    | cons y ys ih =>
      intro hy g p
      obtain ⟨g2, h2, p2⟩ := h y (hy y (List.mem_cons_self ..)) g p
      obtain ⟨g3, h3, p3⟩ := ih (fun z hz => hy z (List.mem_cons_of_mem _ hz)) g2 p2
      refine ⟨g3, ?_, p3⟩
      rw [List.map_cons, compL, h2, List.filter_cons]
      by_cases hby : b y = true
      · rw [if_pos hby, if_pos hby]
        show (compL _ (ys.map enc) g2).bind _ = _
        rw [h3]
        rfl
      · rw [if_neg hby, if_neg hby]
        exact h3
  obtain ⟨g', h2, p⟩ := hm xs (fun _ h => h) _ h0
  refine ⟨g', ?_, p⟩
  show (compL (turnC C nf e c t own) (xs.map enc) (setAny g1 own)).bind _ = _
  rw [h2]
  rfl
theorem comp_map {α : Type} {C : Cxt} {nf : Nat} {e a : E} {t : Tg} {own : List Nat} {g g1 : List D} {ks : List D} {enc f : α → D} {xs : List α}
    (hb : (!e.imp && !E.nop.imp && !a.imp && !a.lockd && t.ixs.all (own.contains ·) && own.all (fun j => decide (nf ≤ j))) = true) (h1 : evI C nf a g = .ok (xs.map enc, ks) g1) (hl : xs.length < 1000000)
    (h : ∀ x ∈ xs, turnC C nf e .nop t own (enc x) (setAny g1 own) = .ok (some (f x)) (setAny g1 own)) : evE C nf (.comp e .nop t a own) g = .ok (.nd .own .lst (xs.map f)) (setAny g1 own) := by
  obtain ⟨g', h2, rfl⟩ := comp_inv (f := f) (b := fun _ => true) (fun g => g = setAny g1 own) hb h1 hl rfl (fun x hx g e => ⟨_, by rw [e, if_pos rfl]; exact h x hx, rfl⟩)
  rw [h2, List.filter_eq_self.mpr (fun _ _ => rfl)]
/-- all of a comprehension without a condition, each turn telling a truth -/
theorem all_ok {α : Type} {C : Cxt} {nf : Nat} {e a : E} {t : Tg} {own : List Nat} {g g1 : List D} {ks : List D} {enc : α → D} {b : α → Bool} {xs : List α}
    (hb : (!e.imp && !E.nop.imp && !a.imp && !a.lockd && t.ixs.all (own.contains ·) && own.all (fun j => decide (nf ≤ j))) = true) (h1 : evI C nf a g = .ok (xs.map enc, ks) g1) (hl : xs.length < 1000000)
    (h : ∀ x ∈ xs, turnC C nf e .nop t own (enc x) (setAny g1 own) = .ok (some (.bl (b x))) (setAny g1 own)) :
    evE C nf (.bi .all (.cons (.comp e .nop t a own) .nil)) g = .ok (.bl (xs.all b)) (setAny g1 own) := by
  have hi : ((E.comp e .nop t a own).imp) = false := by
    simp only [Bool.and_eq_true, Bool.not_eq_true'] at hb
    obtain ⟨⟨⟨⟨⟨a1, a2⟩, a3⟩, _⟩, _⟩, _⟩ := hb
    show (e.imp || E.nop.imp || a.imp) = false
    rw [a1, a2, a3]
    rfl
  have hc : evE C nf (.comp e .nop t a own) g = .ok (.nd .own .lst (xs.map fun x => D.bl (b x))) (setAny g1 own) := comp_map hb h1 hl h
  have hb' : D.bools (xs.map fun x => D.bl (b x)) = some (xs.map b) := bools_map _ b xs fun _ _ => rfl
  generalize E.comp e .nop t a own = A at hc ⊢
  simp [evE, evA, hc, Rs.bind, ensure, biD, Rs.of, hb', E.imp]
theorem all_true {α : Type} {C : Cxt} {nf : Nat} {e a : E} {t : Tg} {own : List Nat} {g g1 : List D} {ks : List D} {enc : α → D} {xs : List α}
    (hb : (!e.imp && !E.nop.imp && !a.imp && !a.lockd && t.ixs.all (own.contains ·) && own.all (fun j => decide (nf ≤ j))) = true) (h1 : evI C nf a g = .ok (xs.map enc, ks) g1) (hl : xs.length < 1000000)
    (h : ∀ x ∈ xs, turnC C nf e .nop t own (enc x) (setAny g1 own) = .ok (some (.bl true)) (setAny g1 own)) :
    evE C nf (.bi .all (.cons (.comp e .nop t a own) .nil)) g = .ok (.bl true) (setAny g1 own) := (all_ok (b := fun _ => true) hb h1 hl h).trans (by rw [List.all_eq_true.mpr fun _ _ => rfl])
theorem cmp_ne (i j : Int) : cmpD .ne (.int i) (.int j) = some (!decide (i = j)) := by
  simp [cmpD, D.cmpb, D.pyb, D.py, SeqAt.shaped, PyData.canLay0, PyData.depth, PyData.eqv]
  rfl
theorem cmp_kind {s : Str} (h : kindOk s) : cmpD .eq (.str s) (.str "line") = some (decide (s = "line")) := by
  rcases h with rfl | rfl <;> decide +kernel
theorem e5 {T : Tab} (B : Hs T [3,4,5]) (ga : T.glo "MOST_LETTERS" = some 24) (gb : T.glo "MOST_LETTER" = some 99) (n : Nat) (ls : List Int) (h1 : 1 ≤ ls.length) (h2 : ls.length ≤ 24) (hn : ls.Nodup) (hr : ∀ x ∈ ls, 0 ≤ x ∧ x ≤ 99) : ∃ o, callD T (n + 3) 5 [rowD .shr ls] = .ok .non o := by
  rw [call_fn (fd := f5) (B.at (i := 5) rfl rfl)]
  have hc : evE (T.cx (callD T (n + 2))) 0 (.bi .all (.cons (.comp (.call 4 (.cons (.var 1 .s) (.cons (.int 0) (.cons (.glo "MOST_LETTER") .nil)))) .nop (.nm 1) (.src (.var 0 .s)) [1]) .nil)) [rowD .shr ls, .any] = .ok (.bl true) [rowD .shr ls, .any] := by
    refine all_true (xs := ls) (enc := D.int) (g1 := [rowD .shr ls, .any]) (ks := [rowD .shr ls]) rfl ?_ (by omega) fun x hx => ?_
    · simp [evI, evE, Rs.bind, ensure, readV, D.isAny, D.sh, shs_ints, uns_ints, rowD, Rs.of, listI]
    · obtain ⟨o, h4⟩ := e4 (B.sub rfl) n (hr x hx).1 (hr x hx).2
      simp [turnC, asgT, setAny, optB, E.isNop, D.nb, evE, evA, Rs.bind, ensure, readV, D.isAny, D.sh, D.shs, D.nbs, E.imp, Rs.of, Tab.cx, gb, h4, lentIf]
  refine ⟨_, run_non (g := [rowD .shr ls, .any]) rfl ?_⟩
  refine (seq_nx (g1 := [rowD .shr ls, .any]) ?_).trans ((seq_nx (g1 := [rowD .shr ls, .any]) ?_).trans rfl)
  · have q1 : (1 : Int) ≤ (ls.length : Int) := by omega
    have q2 : (ls.length : Int) ≤ 24 := by omega
    simp [f5, evS, evE, evA, Rs.so, Rs.bind, ensure, E.imp, readV, D.isAny, D.sh, shs_ints, rowD, isD, tyS, D.tyN, isTab, Rs.of, biD, Tab.cx, ga, cmpD, q1, q2]
  · have q3 : ls.length < 1000000 := by omega
    have q4 : ls.length ≤ 4000 := by omega
    generalize hE : E.bi .all (.cons (.comp (.call 4 (.cons (.var 1 .s) (.cons (.int 0) (.cons (.glo "MOST_LETTER") .nil)))) .nop (.nm 1) (.src (.var 0 .s)) [1]) .nil) = A at hc ⊢
    simp [rowD] at hc
    simp [f5, evS, evE, evA, Rs.so, Rs.bind, ensure, E.imp, readV, D.isAny, D.sh, shs_ints, rowD, Rs.of, biD, cmpD, hc, ints_map, hn, okn, q3, q4]
end Ku

namespace Ku
open PySem PySem.Spec PyProof.Rows L2 Bx
@[simp] theorem cx_fn {T : Tab} {f : Nat → List D → CR} : (T.cx f).fn = f := rfl
@[simp] theorem cx_glo {T : Tab} {f : Nat → List D → CR} : (T.cx f).glo = T.glo := rfl
@[simp] theorem cx_isc {T : Tab} {f : Nat → List D → CR} : (T.cx f).isc = T.isc := rfl
@[simp] theorem cx_sup {T : Tab} {f : Nat → List D → CR} : (T.cx f).sup = T.sup := rfl
@[simp] theorem cx_fo {T : Tab} {f : Nat → List D → CR} : (T.cx f).fo = T.fo := rfl
@[simp] theorem cx_meth {T : Tab} {f : Nat → List D → CR} : (T.cx f).meth = T.meth := rfl
@[simp] theorem cx_init {T : Tab} {f : Nat → List D → CR} : (T.cx f).init = T.init := rfl
@[simp] theorem ia_non : (D.non).isAny = false := rfl
@[simp] theorem ia_any : (D.any).isAny = true := rfl
@[simp] theorem ia_bl (b : Bool) : (D.bl b).isAny = false := rfl
@[simp] theorem ia_int (i : Int) : (D.int i).isAny = false := rfl
@[simp] theorem ia_str (s : Str) : (D.str s).isAny = false := rfl
@[simp] theorem ia_scr (ns : List Int) : (D.scr ns).isAny = false := rfl
@[simp] theorem ia_tup (ds : List D) : (D.tup ds).isAny = false := rfl
@[simp] theorem ia_nd (f : Fl) (t : Tag) (ds : List D) : (D.nd f t ds).isAny = false := rfl
@[simp] theorem ia_row (f : Fl) (r : List Int) : (rowD f r).isAny = false := rfl
@[simp] theorem ia_box (f : Fl) (r : List Str) : (boxD f r).isAny = false := rfl
@[simp] theorem ia_pass (f : Fl) (r : List (List Str)) : (passD f r).isAny = false := rfl
@[simp] theorem ia_plan (f : Fl) (r : List (List Int)) : (planD f r).isAny = false := rfl
/-- rows, lent or shared within -/
def rowsD (f h : Fl) (ps : List (List Int)) : D := .nd f .lst (ps.map (rowD h))
@[simp] theorem ia_rows (f h : Fl) (r : List (List Int)) : (rowsD f h r).isAny = false := rfl
def dctD (f : Fl) (ls row : List Int) : D := .nd f (.dct (ls.map .inl)) (row.map .int)
@[simp] theorem ia_dct (f : Fl) (r s : List Int) : (dctD f r s).isAny = false := rfl
@[simp] theorem shR (f : Fl) (r : List Int) : (rowD f r).sh = rowD .shr r := sh_row f r
@[simp] theorem shB (f : Fl) (r : List Str) : (boxD f r).sh = boxD .shr r := sh_box f r
@[simp] theorem shP (f : Fl) (ps : List (List Str)) : (passD f ps).sh = passD .shr ps := by rw [passD, D.sh, shs_box]; rfl
@[simp] theorem shL (f : Fl) (rs : List (List Int)) : (planD f rs).sh = planD .shr rs := by rw [planD, D.sh, shs_row]; rfl
@[simp] theorem shRs (f h : Fl) (rs : List (List Int)) : (rowsD f h rs).sh = planD .shr rs := by rw [rowsD, D.sh, shs_row]; rfl
@[simp] theorem shD (f : Fl) (ls row : List Int) : (dctD f ls row).sh = dctD .shr ls row := by rw [dctD, D.sh, shs_ints]; rfl
@[simp] theorem nbR1 (r : List Int) : (rowD .shr r).nb = true := by simp [rowD, D.nb, nbs_ints]
@[simp] theorem nbR2 (r : List Int) : (rowD .own r).nb = true := by simp [rowD, D.nb, nbs_ints]
@[simp] theorem nbB1 (r : List Str) : (boxD .shr r).nb = true := by simp [boxD, D.nb, nbs_strs]
@[simp] theorem nbB2 (r : List Str) : (boxD .own r).nb = true := by simp [boxD, D.nb, nbs_strs]
@[simp] theorem nbP1 (r : List (List Str)) : (passD .shr r).nb = true := by simp [passD, D.nb, nbs_box]
@[simp] theorem nbP2 (r : List (List Str)) : (passD .own r).nb = true := by simp [passD, D.nb, nbs_box]
@[simp] theorem nbL1 (r : List (List Int)) : (planD .shr r).nb = true := by simp [planD, D.nb, nbs_row]
@[simp] theorem nbL2 (r : List (List Int)) : (planD .own r).nb = true := by simp [planD, D.nb, nbs_row]
@[simp] theorem nbRs (r : List (List Int)) : (rowsD .own .shr r).nb = true := by simp [rowsD, D.nb, nbs_row]
@[simp] theorem nbD1 (ls row : List Int) : (dctD .shr ls row).nb = true := by simp [dctD, D.nb, nbs_ints]
@[simp] theorem nbD2 (ls row : List Int) : (dctD .own ls row).nb = true := by simp [dctD, D.nb, nbs_ints]
@[simp] theorem nbsI (r : List Int) : D.nbs (r.map .int) = true := nbs_ints r
@[simp] theorem nbsS (r : List Str) : D.nbs (r.map .str) = true := nbs_strs r
@[simp] theorem nbsR1 (r : List (List Int)) : D.nbs (r.map (rowD .shr)) = true := nbs_row .shr (by decide) r
@[simp] theorem nbsR2 (r : List (List Int)) : D.nbs (r.map (rowD .own)) = true := nbs_row .own (by decide) r
@[simp] theorem nbsB1 (r : List (List Str)) : D.nbs (r.map (boxD .shr)) = true := nbs_box .shr (by decide) r
@[simp] theorem nbsB2 (r : List (List Str)) : D.nbs (r.map (boxD .own)) = true := nbs_box .own (by decide) r
@[simp] theorem lenR (f : Fl) (r : List Int) : biD .len [rowD f r] = some (.int r.length) := by simp [rowD, biD]
@[simp] theorem lenB (f : Fl) (r : List Str) : biD .len [boxD f r] = some (.int r.length) := by simp [boxD, biD]
@[simp] theorem lenP (f : Fl) (r : List (List Str)) : biD .len [passD f r] = some (.int r.length) := by simp [passD, biD]
@[simp] theorem lenL (f : Fl) (r : List (List Int)) : biD .len [planD f r] = some (.int r.length) := by simp [planD, biD]
@[simp] theorem lenRs (f h : Fl) (r : List (List Int)) : biD .len [rowsD f h r] = some (.int r.length) := by simp [rowsD, biD]
@[simp] theorem tyR (f : Fl) (r : List Int) : (rowD f r).tyN = some "list" := rfl
@[simp] theorem tyB (f : Fl) (r : List Str) : (boxD f r).tyN = some "list" := rfl
@[simp] theorem tyP (f : Fl) (r : List (List Str)) : (passD f r).tyN = some "list" := rfl
@[simp] theorem tyL (f : Fl) (r : List (List Int)) : (planD f r).tyN = some "list" := rfl
@[simp] theorem tyRs (f h : Fl) (r : List (List Int)) : (rowsD f h r).tyN = some "list" := rfl
@[simp] theorem liR (r : List Int) : listI (rowD .shr r) = some (r.map .int, [rowD .shr r]) := by simp [listI, rowD, uns_ints]
@[simp] theorem liB (r : List Str) : listI (boxD .shr r) = some (r.map .str, [boxD .shr r]) := by simp [listI, boxD, uns_strs]
@[simp] theorem liP (r : List (List Str)) : listI (passD .shr r) = some (r.map (boxD .shr), [passD .shr r]) := by simp [listI, passD, uns_box]
@[simp] theorem liL (r : List (List Int)) : listI (planD .shr r) = some (r.map (rowD .shr), [planD .shr r]) := by simp [listI, planD, uns_row]
@[simp] theorem liRs (r : List (List Int)) : listI (rowsD .own .shr r) = some (r.map (rowD .shr), [rowsD .own .shr r]) := by simp [listI, rowsD, uns_row]
@[simp] theorem len_nd (f : Fl) (ds : List D) : biD .len [.nd f .lst ds] = some (.int ds.length) := rfl
@[simp] theorem len_dct (f : Fl) (ks : List Key) (ds : List D) : biD .len [.nd f (.dct ks) ds] = some (.int ds.length) := rfl
@[simp] theorem len_tup (ds : List D) : biD .len [.tup ds] = some (.int ds.length) := rfl
@[simp] theorem len_scr (ds : List Int) : biD .len [.scr ds] = some (.int ds.length) := rfl
@[simp] theorem list_nd (f : Fl) (ds : List D) : biD .list [.nd f .lst ds] = some (.nd .own .lst ds) := rfl
@[simp] theorem list_row (f : Fl) (ds : List Int) : biD .list [rowD f ds] = some (rowD .own ds) := rfl
@[simp] theorem list_box (f : Fl) (ds : List Str) : biD .list [boxD f ds] = some (boxD .own ds) := rfl
@[simp] theorem list_tup (ds : List D) : biD .list [.tup ds] = some (.nd .own .lst ds) := rfl
@[simp] theorem ty_non : D.non.tyN = some "NoneType" := rfl
@[simp] theorem ty_bl (b : Bool) : (D.bl b).tyN = some "bool" := rfl
@[simp] theorem ty_int (i : Int) : (D.int i).tyN = some "int" := rfl
@[simp] theorem ty_str (s : Str) : (D.str s).tyN = some "str" := rfl
@[simp] theorem ty_scr (s : List Int) : (D.scr s).tyN = some "list" := rfl
@[simp] theorem ty_tup (s : List D) : (D.tup s).tyN = some "tuple" := rfl
@[simp] theorem ty_lst (f : Fl) (s : List D) : (D.nd f .lst s).tyN = some "list" := rfl
@[simp] theorem li_nd (f : Fl) (ds : List D) : listI (.nd f .lst ds) = some (D.uns ds, [.nd f .lst (D.uns ds)]) := rfl
@[simp] theorem li_tup (ds : List D) : listI (.tup ds) = some (D.uns ds, [.tup (D.uns ds)]) := rfl
@[simp] theorem li_scr (ds : List Int) : listI (.scr ds) = some (ds.map .int, [.scr ds]) := rfl
theorem mem_kind {s : Str} (h : kindOk s) : memD (.str s) (.tup [.str "line", .str "pile"]) = some true := by
  rcases h with rfl | rfl <;> rfl
def Box (p : List Str) : Prop := 1 ≤ p.length ∧ p.length ≤ 3 ∧ ∀ s ∈ p, kindOk s
theorem e6 {T : Tab} (B : Hs T [6]) (gd : T.glo "MOST_BOXES" = some 3) (n : Nat) (p : List Str) (hp : Box p) : ∃ o, callD T (n + 1) 6 [boxD .shr p] = .ok (.bl true) o := by
  rw [call_fn (fd := f6) (B.at (i := 6) rfl rfl)]
  obtain ⟨h1, h2, h3⟩ := hp
  have hc : evE (T.cx (callD T n)) 0 (.bi .all (.cons (.comp (.and (.isi (.var 1 .s) .str) (.one (.cmp .mem (.var 1 .s) (.tup (.cons (.str "line") (.cons (.str "pile") .nil)))))) .nop (.nm 1) (.src (.var 0 .s)) [1]) .nil)) [boxD .shr p, .any] = .ok (.bl true) [boxD .shr p, .any] := by
    refine all_true (xs := p) (enc := D.str) (g1 := [boxD .shr p, .any]) (ks := [boxD .shr p]) rfl ?_ (by omega) fun x hx => ?_
    · simp [f6, evI, evE, Rs.bind, ensure, readV, D.isAny, D.sh, shs_strs, uns_strs, boxD, Rs.of, listI]
    · have hm := mem_kind (h3 x hx)
      simp [turnC, asgT, setAny, optB, E.isNop, D.nb, evE, evA, Rs.bind, ensure, readV, D.isAny, D.sh, E.imp, Rs.of, isD, tyS, D.tyN, isTab, cmpD, hm, okn, D.nbs]
  refine ⟨_, run_ok (d := .bl true) (g := [boxD .shr p, .any]) rfl ?_ rfl⟩
  refine (seq_nx (g1 := [boxD .shr p, .any]) ?_).trans ?_
  · have q1 : (1 : Int) ≤ (p.length : Int) := by omega
    have q2 : (p.length : Int) ≤ 3 := by omega
    simp [f6, evS, evE, evA, Rs.so, Rs.bind, ensure, E.imp, readV, D.isAny, D.sh, shs_strs, boxD, isD, tyS, D.tyN, isTab, Rs.of, biD, cx_fn, cx_glo, gd, cmpD, q1, q2]
  · simp [f6, evS, hc, Rs.so, So.ens, D.nb]
theorem e7 {T : Tab} (B : Hs T [6, 7]) (gc : T.glo "MOST_PASSES" = some 4) (gd : T.glo "MOST_BOXES" = some 3) (n : Nat) (ps : List (List Str)) (hl : ps.length ≤ 4) (hp : ∀ p ∈ ps, Box p) : ∃ o, callD T (n + 2) 7 [passD .shr ps] = .ok .non o := by
  rw [call_fn (fd := f7) (B.at (i := 7) rfl rfl)]
  have hc : evE (T.cx (callD T (n + 1))) 0 (.bi .all (.cons (.comp (.call 6 (.cons (.var 1 .s) .nil)) .nop (.nm 1) (.src (.var 0 .s)) [1]) .nil)) [passD .shr ps, .any] = .ok (.bl true) [passD .shr ps, .any] := by
    refine all_true (xs := ps) (enc := boxD .shr) (g1 := [passD .shr ps, .any]) (ks := [passD .shr ps]) rfl ?_ (by omega) fun x hx => ?_
    · simp [f7, evI, evE, Rs.bind, ensure, readV, D.isAny, D.sh, shs_box, uns_box, passD, Rs.of, listI]
    · obtain ⟨o, h6⟩ := e6 (B.sub rfl) gd n x (hp x hx)
      have hb : (boxD .shr x).nb = true := by simp [boxD, D.nb, nbs_strs]
      have ha : (boxD .shr x).isAny = false := rfl
      simp [turnC, asgT, setAny, optB, E.isNop, hb, ha, D.nb, evE, evA, Rs.bind, ensure, readV, D.shs, sh_box, D.nbs, E.imp, Rs.of, cx_fn, cx_glo, h6, lentIf]
  refine ⟨_, run_non (g := [passD .shr ps, .any]) rfl ?_⟩
  refine (seq_nx (g1 := [passD .shr ps, .any]) ?_).trans rfl
  have q2 : ¬ (4 : Int) < (ps.length : Int) := by omega
  have q : evE (T.cx (callD T (n + 1))) 0 (.or (.not (.isi (.var 0 .s) .lst)) (.or (.cmp .gt (.bi .len (.cons (.var 0 .s) .nil)) (.glo "MOST_PASSES")) (.one (.not (.bi .all (.cons (.comp (.call 6 (.cons (.var 1 .s) .nil)) .nop (.nm 1) (.src (.var 0 .s)) [1]) .nil)))))) [passD .shr ps, .any] = .ok (.bl false) [passD .shr ps, .any] := by
    generalize hE : E.bi .all (.cons (.comp (.call 6 (.cons (.var 1 .s) .nil)) .nop (.nm 1) (.src (.var 0 .s)) [1]) .nil) = A at hc ⊢
    simp [passD] at hc
    simp [evE, evA, Rs.bind, ensure, E.imp, readV, D.isAny, D.sh, shs_box, passD, isD, tyS, D.tyN, isTab, Rs.of, biD, cx_fn, cx_glo, gc, cmpD, q2, hc]
  show evS (T.cx (callD T (n + 1))) 0 (.ife _ _ _) [passD .shr ps, .any] = _
  simp only [evS, q, Rs.so]
theorem e8 {T : Tab} (B : Hs T [3, 4, 8]) (n : Nat) (m : Nat) (p : List Str) (row : List Int) (hl : row.length ≤ m) (hm : m < 1000000) (hr : ∀ v ∈ row, 0 ≤ v ∧ v < p.length) : ∃ o, callD T (n + 3) 8 [.int (m : Nat), boxD .shr p, rowD .shr row] = .ok (.bl true) o := by
  rw [call_fn (fd := f8) (B.at (i := 8) rfl rfl)]
  have hc : evE (T.cx (callD T (n + 2))) 0 (.bi .all (.cons (.comp (.call 4 (.cons (.var 3 .s) (.cons (.int 0) (.cons (.op .sub (.bi .len (.cons (.var 1 .s) .nil)) (.int 1)) .nil)))) .nop (.nm 3) (.src (.var 2 .s)) [3]) .nil)) [.int (m : Nat), boxD .shr p, rowD .shr row, .any] = .ok (.bl true) [.int (m : Nat), boxD .shr p, rowD .shr row, .any] := by
    refine all_true (xs := row) (enc := D.int) (g1 := [.int (m : Nat), boxD .shr p, rowD .shr row, .any]) (ks := [rowD .shr row]) rfl ?_ (by omega) fun x hx => ?_
    · simp [f8, evI, evE, Rs.bind, ensure, readV, D.isAny, D.sh, shs_ints, uns_ints, rowD, Rs.of, listI]
    · obtain ⟨o, h4⟩ := e4 (B.sub rfl) n (i := x) (a := 0) (b := (p.length : Int) - 1) (hr x hx).1 (by have := (hr x hx).2; omega)
      simp [turnC, asgT, setAny, optB, E.isNop, D.nb, evE, evA, Rs.bind, ensure, readV, D.isAny, D.sh, D.shs, D.nbs, E.imp, Rs.of, cx_fn, cx_glo, h4, lentIf, boxD, shs_strs, biD, opD]
  refine ⟨_, run_ok (d := .bl true) (g := [.int (m : Nat), boxD .shr p, rowD .shr row, .any]) rfl ?_ rfl⟩
  have q : evE (T.cx (callD T (n + 2))) 0 (.and (.isi (.var 2 .s) .lst) (.and (.cmp .le (.bi .len (.cons (.var 2 .s) .nil)) (.var 0 .s)) (.one (.bi .all (.cons (.comp (.call 4 (.cons (.var 3 .s) (.cons (.int 0) (.cons (.op .sub (.bi .len (.cons (.var 1 .s) .nil)) (.int 1)) .nil)))) .nop (.nm 3) (.src (.var 2 .s)) [3]) .nil))))) [.int (m : Nat), boxD .shr p, rowD .shr row, .any] = .ok (.bl true) [.int (m : Nat), boxD .shr p, rowD .shr row, .any] := by
    generalize hE : E.bi .all (.cons (.comp (.call 4 (.cons (.var 3 .s) (.cons (.int 0) (.cons (.op .sub (.bi .len (.cons (.var 1 .s) .nil)) (.int 1)) .nil)))) .nop (.nm 3) (.src (.var 2 .s)) [3]) .nil) = A at hc ⊢
    simp [rowD] at hc
    simp [evE, evA, Rs.bind, ensure, E.imp, readV, D.isAny, D.sh, shs_ints, rowD, isD, tyS, D.tyN, isTab, Rs.of, biD, cx_fn, cx_glo, cmpD, hl, hc]
  show evS _ 0 (.cons (.ret _) .nil) [.int (m : Nat), boxD .shr p, rowD .shr row, .any] = _
  simp only [evS, q, Rs.so, So.ens, D.nb]
theorem Plan.zip {m : Nat} : ∀ {ps : List (List Str)} {rs : List (List Int)}, Plan m ps rs → rs.length = ps.length ∧ ∀ x ∈ ps.zip rs, fits m x.1 x.2
  | [], [], _ => ⟨rfl, fun _ h => nomatch h⟩
  | p :: ps, r :: rs, h => by
    obtain ⟨a, b⟩ := Plan.zip h.2
    refine ⟨by simp [a], fun x hx => ?_⟩
    rcases List.mem_cons.mp hx with rfl | hx
    · exact h.1
    · exact b x hx
  | [], _ :: _, h => h.elim
  | _ :: _, [], h => h.elim
theorem asg2 {nf i j : Nat} {d e : D} {g : List D} (h1 : d.nb = true) (h2 : e.nb = true) (hi : nf ≤ i) (hj : nf ≤ j) (li : i < g.length) (lj : j < g.length) : asgT nf (.tp (.cons (.nm i) (.cons (.nm j) .nil))) (.tup [d, e]) g = some ((g.set i d).set j e) := by
  simp [asgT, asgT.asgTs, h1, h2, hi, hj, li, lj]
theorem nb_box (p : List Str) : (boxD .shr p).nb = true := by simp [boxD, D.nb, nbs_strs]
theorem nb_row (p : List Int) : (rowD .shr p).nb = true := by simp [rowD, D.nb, nbs_ints]
theorem e9 {T : Tab} (B : Hs T [3, 4, 8, 9]) (n : Nat) (ls : List Int) (ps : List (List Str)) (rs : List (List Int)) (hl : ls.length < 1000000) (hp : Plan ls.length ps rs) : ∃ o, callD T (n + 4) 9 [rowD .shr ls, passD .shr ps, planD .shr rs] = .ok (.bl true) o := by
  rw [call_fn (fd := f9) (B.at (i := 9) rfl rfl)]
  obtain ⟨hz, hf⟩ := hp.zip
  let P : List (List Str × List Int) → List D → Prop := fun _ g => ∃ x3 x4, g = [rowD .shr ls, passD .shr ps, planD .shr rs, x3, x4]
  have lp : ∃ g', loopL (fun x g => match asgT 0 (.tp (.cons (.nm 3) (.cons (.nm 4) .nil))) x g with
      | none => .bad
      | some g => evS (T.cx (callD T (n + 3))) 0 (.cons (.ife (.or (.not (.call 8 (.cons (.bi .len (.cons (.var 0 .s) .nil)) (.cons (.var 3 .s) (.cons (.var 4 .s) .nil))))) (.one (.cmp .ne (.bi .len (.cons (.var 4 .s) .nil)) (.bi .len (.cons (.var 0 .s) .nil)))))
  (.cons (.ret (.bl false))
  .nil)
  .nil)
  .nil) g) ((ps.zip rs).map fun x => .tup [boxD .shr x.1, rowD .shr x.2])
      [rowD .shr ls, passD .shr ps, planD .shr rs, .any, .any] = .nx g' ∧ P (ps.zip rs) g' := by
    refine loop_pre P (fun done x rest g e hq => ?_) _ ⟨_, _, rfl⟩
    obtain ⟨x3, x4, rfl⟩ := hq
    have hx : x ∈ ps.zip rs := by rw [e]; simp
    obtain ⟨hx1, hx2⟩ := hf x hx
    obtain ⟨o, h8⟩ := e8 (B.sub rfl) n ls.length x.1 x.2 (by omega) hl hx2
    refine ⟨[rowD .shr ls, passD .shr ps, planD .shr rs, boxD .shr x.1, rowD .shr x.2], ?_, _, _, rfl⟩
    rw [asg2 (nb_box _) (nb_row _) (by omega) (by omega) (by simp) (by simp)]
    simp [evS, evE, evA, evI, evP, Rs.so, Rs.bind, ensure, E.imp, readV, D.sh, D.shs, D.nb, D.nbs, lentIf, Rs.of, So.of, So.ens, asgT, setAny, okn, optB, E.isNop, opD, isD, tyS, isTab, D.getp, D.setp, mmD, nbs_app, cmp_ne, h8, hx1]
  obtain ⟨g, hg, x3, x4, rfl⟩ := lp
  refine ⟨_, run_ok (d := .bl true) (g := [rowD .shr ls, passD .shr ps, planD .shr rs, x3, x4]) rfl ?_ rfl⟩
  refine (seq_nx (g1 := [rowD .shr ls, passD .shr ps, planD .shr rs, .any, .any]) ?_).trans ((seq_nx (for_nx (q := (zipD (ps.map (boxD .shr)) (rs.map (rowD .shr)), [passD .shr ps, planD .shr rs])) (g1 := [rowD .shr ls, passD .shr ps, planD .shr rs, .any, .any]) ?_ ?_ (by rw [zipD_map]; exact hg))).trans ?_)
  · simp [f9, evS, evE, evA, Rs.so, Rs.bind, ensure, E.imp, readV, isD, tyS, isTab, Rs.of, hz, cmp_ne]
  · simp [f9, evI, evE, Rs.bind, ensure, E.imp, readV, D.isAny, D.sh, shs_box, shs_row, uns_box, uns_row, passD, planD]
  · simp [f9, E.lockd, passD, planD, D.nbs, D.nb, nbs_box, nbs_row]
  · simp [f9, evS, evE, Rs.so, So.ens, D.nb]
end Ku

namespace Ku
open PySem PySem.Spec PyProof.Rows L2 Bx
/-! ### passes gone through, in plain lists -/
def turnk (k : Str) (f : List Int) : List Int := if k = "line" then f else f.reverse
def gath (p : List Str) (fs : List (List Int)) : List Int := (p.zip fs).flatMap fun x => turnk x.1 x.2
def behind (p : List Str) (f : Int → Nat) (now : List Int) : List Int := p.zipIdx.flatMap fun x => turnk x.1 (now.filter fun l => f l = x.2)
def bo (ls row : List Int) (l : Int) : Nat := (row.getD (ls.idxOf l) 0).toNat
def thruS (ls : List Int) (s : List (List Int) × List Int) (x : List Str × List Int) : List (List Int) × List Int := (s.1 ++ [behind x.1 (bo ls x.2) s.2], behind x.1 (bo ls x.2) s.2)
def thru (ls : List Int) (xs : List (List Str × List Int)) : List (List Int) × List Int := xs.foldl (thruS ls) ([], ls)
theorem turnk_perm (k : Str) (f : List Int) : (turnk k f).Perm f := by
  unfold turnk
  split
  · exact .refl _
  · exact List.reverse_perm f
theorem zip_range {α : Type} (F : Nat → List Int) : ∀ (p : List α) (k : Nat), p.zip ((List.range' k p.length).map F) = (p.zipIdx k).map fun x => (x.1, F x.2)
  | [], _ => rfl
  | a :: p, k => by
    simp only [List.length_cons, List.range'_succ, List.map_cons, List.zip_cons_cons, List.zipIdx_cons]
    rw [zip_range F p (k + 1)]
theorem gath_behind (p : List Str) (f : Int → Nat) (now : List Int) : gath p ((List.range p.length).map fun b => now.filter fun l => f l = b) = behind p f now := by
  unfold gath behind
  rw [List.range_eq_range', zip_range (fun b => now.filter fun l => f l = b) p 0, List.flatMap_map]
theorem filters_perm (f : Int → Nat) (now : List Int) : ∀ n : Nat, ((List.range n).flatMap fun b => now.filter fun l => f l = b).Perm (now.filter fun l => f l < n)
  | 0 => by simp
  | n + 1 => by
    rw [List.range_succ, List.flatMap_append]
    have h := filters_perm f now n
    have e1 : (now.filter fun l => f l < n + 1).filter (fun l => f l < n) = now.filter fun l => f l < n := by
      rw [List.filter_filter]
      refine List.filter_congr fun x _ => ?_
      by_cases z : f x < n
      · have : f x < n + 1 := by omega
        simp [z, this]
      · simp [z]
    have e2 : (now.filter fun l => f l < n + 1).filter (fun l => !decide (f l < n)) = now.filter fun l => f l = n := by
      rw [List.filter_filter]
      refine List.filter_congr fun x _ => ?_
      by_cases z : f x = n
      · simp [z]
      · have : ¬ (n ≤ f x ∧ f x < n + 1) := by omega
        by_cases z1 : f x < n
        · simp [z, z1]
        · have : ¬ f x < n + 1 := by omega
          simp [z, this]
    have e3 := List.filter_append_perm (fun l => decide (f l < n)) (now.filter fun l => f l < n + 1)
    rw [e1, e2] at e3
    refine List.Perm.trans ?_ e3
    simp only [List.flatMap_cons, List.flatMap_nil, List.append_nil]
    exact h.append_right _
theorem flat_perm {α : Type} {F G : α → List Int} : ∀ xs : List α, (∀ x ∈ xs, (F x).Perm (G x)) → (xs.flatMap F).Perm (xs.flatMap G)
  | [], _ => by simp
  | x :: xs, h => by
    rw [List.flatMap_cons, List.flatMap_cons]
    exact (h x (List.mem_cons_self ..)).append (flat_perm xs fun y hy => h y (List.mem_cons_of_mem _ hy))
theorem idx_range {α : Type} (F : Nat → List Int) : ∀ (p : List α) (k : Nat), (p.zipIdx k).flatMap (fun x => F x.2) = (List.range' k p.length).flatMap F
  | [], _ => rfl
  | a :: p, k => by simp only [List.zipIdx_cons, List.flatMap_cons, List.length_cons, List.range'_succ, idx_range F p (k + 1)]
theorem behind_perm (p : List Str) (f : Int → Nat) (now : List Int) (h : ∀ l ∈ now, f l < p.length) : (behind p f now).Perm now := by
  unfold behind
  refine (flat_perm _ fun x _ => turnk_perm x.1 _).trans ?_
  rw [idx_range (fun b => now.filter fun l => f l = b) p 0, ← List.range_eq_range']
  refine (filters_perm f now p.length).trans ?_
  rw [List.filter_eq_self.mpr fun l hl => by simpa using h l hl]
theorem bo_lt {m : Nat} {p : List Str} {row ls : List Int} (h : fits m p row) (hm : ls.length = m) (hp : 1 ≤ p.length) (l : Int) (hl : l ∈ ls) : bo ls row l < p.length := by
  unfold bo
  have hi : ls.idxOf l < row.length := by
    rw [h.1, ← hm]
    exact List.idxOf_lt_length_of_mem hl
  rw [List.getD_eq_getElem?_getD, List.getElem?_eq_getElem hi, Option.getD_some]
  have := h.2 _ (List.getElem_mem hi)
  omega
theorem atK_inl (l : Int) : ∀ ls : List Int, l ∈ ls → atK (ls.map (Sum.inl (β := Str))) (.inl l) = some (ls.idxOf l)
  | [], h => nomatch h
  | x :: xs, h => by
    rw [List.map_cons, atK, List.idxOf_cons]
    by_cases e : x = l
    · simp [e]
    · have h' : l ∈ xs := by
        rcases List.mem_cons.mp h with z | z
        · exact absurd z.symm e
        · exact z
      have e' : ¬ (Sum.inl (β := Str) x = Sum.inl l) := fun z => e (Sum.inl.inj z)
      rw [if_neg e', atK_inl l xs h']
      have e2 : (x == l) = false := by simpa using e
      simp [e2]
theorem sub_dct {m : Nat} {f : Fl} {p : List Str} {ls row : List Int} (h : fits m p row) (hm : ls.length = m) (l : Int) (hl : l ∈ ls) : subD (dctD f ls row) (.int l) = some (.int (bo ls row l : Nat)) := by
  have hi : ls.idxOf l < row.length := by
    rw [h.1, ← hm]
    exact List.idxOf_lt_length_of_mem hl
  have e : subD (dctD f ls row) (.int l) = (atK (ls.map (Sum.inl (β := Str))) (.inl l)).bind fun j => (row.map D.int)[j]? := rfl
  rw [e, atK_inl l ls hl]
  show (row.map D.int)[ls.idxOf l]? = _
  rw [List.getElem?_map, List.getElem?_eq_getElem hi]
  unfold bo
  rw [List.getD_eq_getElem?_getD, List.getElem?_eq_getElem hi, Option.getD_some]
  have := h.2 _ (List.getElem_mem hi)
  simp only [Option.map_some, Option.some.injEq, D.int.injEq]
  omega
theorem set_map_range {n k : Nat} (F : Nat → D) (v : D) : ((List.range n).map F).set k v = (List.range n).map fun b => if b = k then v else F b := by
  refine List.ext_getElem (by simp) fun i h1 h2 => ?_
  simp only [List.length_set, List.length_map, List.length_range] at h1
  rw [List.getElem_set]
  by_cases e : k = i
  · simp [e]
  · have e' : ¬ i = k := fun z => e z.symm
    simp [e, e']
theorem filter_snoc (f : Int → Nat) (done : List Int) (x : Int) (b : Nat) : (done ++ [x]).filter (fun l => f l = b) = if b = f x then done.filter (fun l => f l = b) ++ [x] else done.filter fun l => f l = b := by
  rw [List.filter_append]
  by_cases e : b = f x
  · simp [e]
  · have : ¬ f x = b := fun z => e z.symm
    simp [e, this]
end Ku

namespace Ku
open PySem PySem.Spec PyProof.Rows L2 Bx
theorem gath_app {done rest : List (Str × List Int)} : ((done ++ rest).flatMap fun x => turnk x.1 x.2) = (done.flatMap fun x => turnk x.1 x.2) ++ (rest.flatMap fun x => turnk x.1 x.2) := List.flatMap_append ..
theorem turnk_len (k : Str) (f : List Int) : (turnk k f).length = f.length := (turnk_perm k f).length_eq
def bd0 : S := (.cons (.ex (.mut (.var 2 .b) .extend (.cons (.ife (.cmp .eq (.var 3 .s) (.str "line")) (.var 4 .s) (.rev (.var 4 .s))) .nil))) .nil)
theorem e0 {T : Tab} (B : Hs T [0]) (n : Nat) (p : List Str) (hp : ∀ s ∈ p, kindOk s) (fs : List (List Int)) (hz : (gath p fs).length < 1000000) : ∃ o, callD T (n + 1) 0 [boxD .shr p, planD .shr fs] = .ok (rowD .own (gath p fs)) o := by
  rw [call_fn (fd := f0) (B.at (i := 0) rfl rfl)]
  let P : List (Str × List Int) → List D → Prop := fun done g => ∃ x3 x4, g = [boxD .shr p, planD .shr fs, rowD .own (done.flatMap fun x => turnk x.1 x.2), x3, x4]
  have lp : ∃ g', loopL (fun x g => match asgT 0 (.tp (.cons (.nm 3) (.cons (.nm 4) .nil))) x g with
      | none => .bad
      | some g => evS (T.cx (callD T n)) 0 bd0 g) ((p.zip fs).map fun x => .tup [.str x.1, rowD .shr x.2])
      [boxD .shr p, planD .shr fs, rowD .own [], .any, .any] = .nx g' ∧ P (p.zip fs) g' := by
    refine loop_pre P (fun done x rest g e hq => ?_) _ ⟨_, _, rfl⟩
    obtain ⟨x3, x4, rfl⟩ := hq
    have hk : kindOk x.1 := hp _ (List.of_mem_zip (show (x.1, x.2) ∈ p.zip fs by rw [e]; simp)).1
    have hl : (done.flatMap fun x => turnk x.1 x.2).length + x.2.length < 1000000 := by
      have : gath p fs = (done ++ x :: rest).flatMap fun x => turnk x.1 x.2 := by rw [← e]; rfl
      rw [this, gath_app, List.flatMap_cons, List.length_append, List.length_append, turnk_len] at hz
      omega
    rw [asg2 (show (D.str x.1).nb = true from rfl) (nb_row _) (by omega) (by omega) (by simp) (by simp)]
    refine ⟨[boxD .shr p, planD .shr fs, rowD .own ((done ++ [x]).flatMap fun x => turnk x.1 x.2), .str x.1, rowD .shr x.2], ?_, _, _, rfl⟩
    rw [gath_app]
    generalize (done.flatMap fun x => turnk x.1 x.2) = acc at hl ⊢
    have ck := cmp_kind hk
    simp only [List.flatMap_cons, List.flatMap_nil, List.append_nil, turnk]
    by_cases h1 : x.1 = "line"
    · rw [h1] at ck
      simp [bd0, h1, evS, evE, evA, evP, Rs.so, Rs.bind, ensure, E.imp, readV, D.sh, shs_ints, rowD, D.nb, D.nbs, D.getp, D.setp, mmD, okn, ck, Rs.of, hl, nbs_app, nbs_ints]
    · have hn1 := nbs_ints x.2.reverse
      rw [List.map_reverse] at hn1
      simp [bd0, h1, evS, evE, evA, evP, Rs.so, Rs.bind, ensure, E.imp, readV, D.sh, shs_ints, rowD, D.nb, D.nbs, D.getp, D.setp, mmD, okn, ck, Rs.of, hl, nbs_app, nbs_ints, hn1]
  obtain ⟨g, hg, x3, x4, rfl⟩ := lp
  refine ⟨_, run_ok (g := [boxD .shr p, planD .shr fs, .any, x3, x4]) rfl ?_ (by simp [rowD, D.nb, nbs_ints])⟩
  refine (seq_nx (g1 := [boxD .shr p, planD .shr fs, rowD .own [], .any, .any]) ?_).trans ((seq_nx (for_nx (q := (zipD (p.map .str) (fs.map (rowD .shr)), [boxD .shr p, planD .shr fs])) (g1 := [boxD .shr p, planD .shr fs, rowD .own [], .any, .any]) ?_ ?_ (by rw [zipD_map]; exact hg))).trans ?_)
  · simp [f0, evS, evE, evA, Rs.so, Rs.bind, ensure, So.of, asgT, okn, D.nb, D.nbs, rowD]
  · simp [f0, evI, evE, Rs.bind, ensure, E.imp, readV, D.sh, shs_strs, shs_row, uns_strs, uns_row, boxD, planD]
  · simp [f0, E.lockd, boxD, planD, D.nbs, D.nb, nbs_strs, nbs_row]
  · simp [f0, evS, evE, Rs.so, Rs.bind, ensure, readV, So.ens, rowD, D.nb, nbs_ints, gath]
theorem ixD_nat {n k : Nat} (h : k < n) : ixD n (k : Nat) = some k := by
  unfold ixD ixN
  rw [if_pos (by omega), if_pos (by omega), Int.toNat_natCast]
def bd1 : S := (.cons (.ex (.mut (.ix (.var 3 .b) (.ix (.var 2 .s) (.var 4 .s))) .append (.cons (.var 4 .s) .nil))) .nil)
theorem e1 {T : Tab} (B : Hs T [0, 1]) (n : Nat) (p : List Str) (hp : ∀ s ∈ p, kindOk s) (hp3 : p.length < 1000000) (now ls row : List Int) (hn : now.length < 1000000) (f : Int → Nat)
    (hs : ∀ l ∈ now, subD (dctD .shr ls row) (.int l) = some (.int (f l : Nat)) ∧ f l < p.length) :
    ∃ o, callD T (n + 2) 1 [rowD .shr now, boxD .shr p, dctD .shr ls row] = .ok (rowD .own (behind p f now)) o := by
  rw [call_fn (fd := f1) (B.at (i := 1) rfl rfl)]
  have hsd : (dctD .shr ls row).sh = dctD .shr ls row := by simp [dctD, D.sh, shs_ints]
  have hia : (dctD .shr ls row).isAny = false := rfl
  let F (done : List Int) (b : Nat) : D := rowD .own (done.filter fun l => f l = b)
  let P : List Int → List D → Prop := fun done g => ∃ x4 x5, g = [rowD .shr now, boxD .shr p, dctD .shr ls row, .nd .own .lst ((List.range p.length).map (F done)), x4, x5]
  have lp : ∃ g', loopL (fun x g => match asgT 0 (.nm 4) x g with
      | none => .bad
      | some g => evS (T.cx (callD T (n + 1))) 0 bd1 g) (now.map .int)
      [rowD .shr now, boxD .shr p, dctD .shr ls row, .nd .own .lst ((List.range p.length).map (F [])), .any, .any] = .nx g' ∧ P now g' := by
    refine loop_pre P (fun done x rest g e hq => ?_) _ ⟨_, _, rfl⟩
    obtain ⟨x4, x5, rfl⟩ := hq
    obtain ⟨h1, h2⟩ := hs x (by rw [e]; simp)
    have hd : done.length < 1000000 := by rw [e, List.length_append] at hn; omega
    have hd2 : (done.filter fun l => f l = f x).length < 1000000 := Nat.lt_of_le_of_lt (List.length_filter_le ..) hd
    refine ⟨[rowD .shr now, boxD .shr p, dctD .shr ls row, .nd .own .lst ((List.range p.length).map (F (done ++ [x]))), .int x, x5], ?_, _, _, rfl⟩
    have e2 : (List.range p.length).map (F (done ++ [x])) = ((List.range p.length).map (F done)).set (f x) (rowD .own ((done.filter fun l => f l = f x) ++ [x])) := by
      rw [set_map_range]
      refine List.map_congr_left fun b _ => ?_
      show rowD .own _ = _
      rw [filter_snoc]
      by_cases eb : b = f x
      · subst eb; simp
      · rw [if_neg eb, if_neg eb]
    rw [e2]
    have g1 : ((List.range p.length).map (F done))[f x]? = some (rowD .own (done.filter fun l => f l = f x)) := by
      rw [List.getElem?_map, List.getElem?_range h2]
      rfl
    have hlen : ((List.range p.length).map (F done)).length = p.length := by simp
    generalize (List.range p.length).map (F done) = fs at g1 hlen ⊢
    have hix : ixD fs.length ((f x : Nat) : Int) = some (f x) := ixD_nat (by omega)
    generalize (done.filter fun l => f l = f x) = acc at hd2 g1 ⊢
    have hn1 : D.nbs (acc.map D.int ++ [D.int x]) = true := by rw [nbs_app]; simp [nbs_ints, D.nbs, D.nb]
    unfold rowD at g1
    simp [bd1, asgT, evS, evE, evA, evP, Rs.so, Rs.bind, ensure, E.imp, readV, D.sh, hsd, hia, h1, hix, Rs.of, D.nb, D.nbs, D.getp, D.setp, g1, mmD, okn, hd2, nbs_app, nbs_ints, hn1, rowD]
  obtain ⟨g, hg, x4, x5, rfl⟩ := lp
  have eg : (List.range p.length).map (F now) = ((List.range p.length).map fun b => now.filter fun l => f l = b).map (rowD .own) := by rw [List.map_map]; rfl
  have hperm := behind_perm p f now fun l hl => (hs l hl).2
  obtain ⟨o, h0⟩ := e0 (B.sub rfl) n p hp ((List.range p.length).map fun b => now.filter fun l => f l = b) (by rw [gath_behind, hperm.length_eq]; exact hn)
  rw [gath_behind] at h0
  have hnr := nbs_row .own (by decide) ((List.range p.length).map fun b => now.filter fun l => f l = b)
  have hsr := shs_row .own ((List.range p.length).map fun b => now.filter fun l => f l = b)
  rw [← eg] at hnr hsr
  refine ⟨_, run_ok (g := [rowD .shr now, boxD .shr p, dctD .shr ls row, .any, x4, x5]) rfl ?_ (by simp [rowD, D.nb, nbs_ints])⟩
  refine (seq_nx (g1 := [rowD .shr now, boxD .shr p, dctD .shr ls row, .nd .own .lst ((List.range p.length).map (F [])), .any, .any]) ?_).trans ((seq_nx (for_nx (q := (now.map .int, [rowD .shr now])) (g1 := [rowD .shr now, boxD .shr p, dctD .shr ls row, .nd .own .lst ((List.range p.length).map (F [])), .any, .any]) ?_ ?_ hg)).trans ?_)
  · have hc : evE (T.cx (callD T (n + 1))) 0 (.comp (.lst .nil) .nop (.nm 5) (.src (.var 1 .s)) [5]) [rowD .shr now, boxD .shr p, dctD .shr ls row, .any, .any, .any] = .ok (.nd .own .lst (p.map fun _ => .nd .own .lst [])) [rowD .shr now, boxD .shr p, dctD .shr ls row, .any, .any, .any] := by
      refine comp_map (enc := D.str) (ks := [boxD .shr p]) (g1 := [rowD .shr now, boxD .shr p, dctD .shr ls row, .any, .any, .any]) rfl ?_ hp3 fun x hx => ?_
      · simp [f1, evI, evE, Rs.bind, ensure, readV, D.sh, shs_strs, uns_strs, boxD, Rs.of]
      · simp [turnC, asgT, setAny, optB, E.isNop, D.nb, evE, evA, Rs.bind, ensure, okn]
    have ef : (p.map fun _ => D.nd .own .lst []) = (List.range p.length).map (F []) := by
      refine List.ext_getElem (by simp) fun i _ _ => ?_
      simp [F, rowD]
    rw [ef] at hc
    have hnb : D.nbs ((List.range p.length).map (F [])) = true := by
      rw [show (List.range p.length).map (F []) = ((List.range p.length).map fun b => ([] : List Int).filter fun l => f l = b).map (rowD .own) by rw [List.map_map]; rfl]
      exact nbs_row .own (by decide) _
    show evS _ 0 (.setc 3 (.lst .nil) .nop (.nm 5) (.src (.var 1 .s)) [5]) [rowD .shr now, boxD .shr p, dctD .shr ls row, .any, .any, .any] = _
    simp only [evS, hc, Rs.so]
    simp [So.of, asgT, D.nb, hnb]
  · simp [f1, evI, evE, Rs.bind, ensure, readV, D.sh, shs_ints, uns_ints, rowD, Rs.of]
  · simp [f1, E.lockd, rowD, D.nbs, D.nb, nbs_ints]
  · simp only [planD] at h0
    generalize ((List.range p.length).map fun b => now.filter fun l => f l = b).map (rowD .shr) = fr at hsr h0
    simp [f1, evS, evE, evA, evI, evP, Rs.so, Rs.bind, ensure, E.imp, readV, D.sh, D.shs, D.nb, D.nbs, lentIf, Rs.of, So.of, So.ens, asgT, setAny, okn, optB, E.isNop, opD, isD, tyS, isTab, D.getp, D.setp, mmD, nbs_app, hnr, hsr, h0]
end Ku

namespace Ku
open PySem PySem.Spec PyProof.Rows L2 Bx
theorem keys_ints (ls : List Int) : keysD (ls.map .int) = some (ls.map .inl) := by
  induction ls with
  | nil => rfl
  | cons x xs ih =>
    rw [List.map_cons, keysD, ih]
    rfl
theorem nodup_inl {ls : List Int} (h : ls.Nodup) : (ls.map (Sum.inl (β := Str))).Nodup := by
  rw [List.nodup_iff_pairwise_ne] at h ⊢
  rw [List.pairwise_map]
  exact h.imp fun hn z => hn (Sum.inl.inj z)
theorem dict_zip {ls row : List Int} (h : ls.Nodup) (hl : row.length = ls.length) : dictD ((ls.map (Sum.inl (β := Str))).zip (row.map .int)) = some (dctD .own ls row) := by
  unfold dictD
  have e1 : ((ls.map (Sum.inl (β := Str))).zip (row.map D.int)).map (·.1) = ls.map Sum.inl := List.map_fst_zip (by simp [hl])
  have e2 : ((ls.map (Sum.inl (β := Str))).zip (row.map D.int)).map (·.2) = row.map D.int := List.map_snd_zip (by simp [hl])
  have e1' : ((ls.map (Sum.inl (β := Str))).zip (row.map D.int)).map Prod.fst = ls.map Sum.inl := e1
  rw [e1, e2, if_pos (nodup_inl h)]
  rfl
/-- what stands behind done passes -/
theorem thru_snoc (ls : List Int) (done : List (List Str × List Int)) (x : List Str × List Int) : thru ls (done ++ [x]) = thruS ls (thru ls done) x := by
  unfold thru
  rw [List.foldl_append]
  rfl
theorem thru_perm {m : Nat} {ls : List Int} (hm : ls.length = m) : ∀ (n : Nat) (xs : List (List Str × List Int)), xs.length = n → (∀ x ∈ xs, fits m x.1 x.2 ∧ 1 ≤ x.1.length) → (thru ls xs).2.Perm ls ∧ (thru ls xs).1.length = xs.length ∧ (∀ r ∈ (thru ls xs).1, r.Perm ls)
  | 0, [], _, _ => ⟨.refl _, rfl, fun _ h => nomatch h⟩
  | n + 1, xs, hx, h => by
    have hne : xs ≠ [] := fun z => by rw [z] at hx; cases hx
    obtain ⟨ys, y, rfl⟩ : ∃ ys y, xs = ys ++ [y] := ⟨xs.dropLast, xs.getLast hne, (List.dropLast_concat_getLast hne).symm⟩
    rw [List.length_append] at hx
    obtain ⟨a, b, c⟩ := thru_perm hm n ys (by simpa using hx) fun x hx => h x (List.mem_append_left _ hx)
    obtain ⟨d1, d2⟩ := h y (by simp)
    rw [thru_snoc]
    have hp : (behind y.1 (bo ls y.2) (thru ls ys).2).Perm ls := (behind_perm _ _ _ fun l hl => bo_lt d1 hm d2 l (a.mem_iff.mp hl)).trans a
    refine ⟨hp, by simp [thruS, b], fun r hr => ?_⟩
    rcases List.mem_append.mp hr with z | z
    · exact c r z
    · rw [List.mem_singleton.mp z]
      exact hp
def bd2 : S := (.cons (.set 4 (.call 1 (.cons (.var 4 .s) (.cons (.var 5 .s) (.cons (.dzip (.var 0 .s) (.var 6 .s)) .nil)))))
  (.cons (.ex (.mut (.var 3 .b) .append (.cons (.var 4 .s) .nil)))
  .nil))
theorem e2 {T : Tab} (B : Hs T [0, 1, 2]) (n : Nat) (ls : List Int) (hn : ls.Nodup) (hl : ls.length < 1000000) (ps : List (List Str)) (rs : List (List Int)) (hp4 : ps.length < 1000000) (hp : ∀ p ∈ ps, Box p) (hpl : Plan ls.length ps rs) :
    ∃ o, callD T (n + 3) 2 [rowD .shr ls, passD .shr ps, planD .shr rs] = .ok (.nd .own .lst ((thru ls (ps.zip rs)).1.map (rowD .shr))) o := by
  rw [call_fn (fd := f2) (B.at (i := 2) rfl rfl)]
  obtain ⟨hz, hf⟩ := hpl.zip
  have hbx : ∀ x ∈ ps.zip rs, Box x.1 := fun x hx => hp _ (List.of_mem_zip (show (x.1, x.2) ∈ ps.zip rs from hx)).1
  let P : List (List Str × List Int) → List D → Prop := fun done g => ∃ x5 x6, g = [rowD .shr ls, passD .shr ps, planD .shr rs, .nd .own .lst ((thru ls done).1.map (rowD .shr)), rowD .shr (thru ls done).2, x5, x6]
  have lp : ∃ g', loopL (fun x g => match asgT 0 (.tp (.cons (.nm 5) (.cons (.nm 6) .nil))) x g with
      | none => .bad
      | some g => evS (T.cx (callD T (n + 2))) 0 bd2 g) ((ps.zip rs).map fun x => .tup [boxD .shr x.1, rowD .shr x.2])
      [rowD .shr ls, passD .shr ps, planD .shr rs, .nd .own .lst [], rowD .shr ls, .any, .any] = .nx g' ∧ P (ps.zip rs) g' := by
    refine loop_pre P (fun done x rest g e hq => ?_) _ ⟨_, _, rfl⟩
    obtain ⟨x5, x6, rfl⟩ := hq
    have hx : x ∈ ps.zip rs := by rw [e]; simp
    have hdone : ∀ y ∈ done, fits ls.length y.1 y.2 ∧ 1 ≤ y.1.length := fun y hy => have hy' : y ∈ ps.zip rs := (by rw [e]; simp [hy]); ⟨hf y hy', (hbx y hy').1⟩
    obtain ⟨t1, t2, t3⟩ := thru_perm rfl _ done rfl hdone
    have hfx := hf x hx
    have hb := hbx x hx
    have hdl : done.length < 1000000 := by
      have : (ps.zip rs).length = done.length + (rest.length + 1) := by rw [e]; simp
      rw [List.length_zip] at this
      omega
    rw [asg2 (nb_box _) (nb_row _) (by omega) (by omega) (by simp) (by simp)]
    show ∃ g', _ = So.nx g' ∧ ∃ x5 x6, g' = [rowD .shr ls, passD .shr ps, planD .shr rs, .nd .own .lst ((thru ls (done ++ [x])).1.map (rowD .shr)), rowD .shr (thru ls (done ++ [x])).2, x5, x6]
    rw [thru_snoc]
    obtain ⟨o, h1⟩ := e1 (B.sub rfl) n x.1 hb.2.2 (by have := hb.2.1; omega) (thru ls done).2 ls x.2 (by rw [t1.length_eq]; exact hl) (bo ls x.2) fun l hl => ⟨sub_dct hfx rfl l (t1.mem_iff.mp hl), bo_lt hfx rfl hb.1 l (t1.mem_iff.mp hl)⟩
    unfold thruS
    generalize (thru ls done).2 = now at h1 ⊢
    rw [← t2] at hdl
    generalize (thru ls done).1 = found at hdl ⊢
    generalize behind x.1 (bo ls x.2) now = nw at h1 ⊢
    refine ⟨[rowD .shr ls, passD .shr ps, planD .shr rs, .nd .own .lst ((found ++ [nw]).map (rowD .shr)), rowD .shr nw, boxD .shr x.1, rowD .shr x.2], ?_, _, _, rfl⟩
    have hdz : ((keysD (ls.map D.int)).bind fun ks => dictD (ks.zip (D.uns (x.2.map D.int)))) = some (dctD .own ls x.2) := by rw [keys_ints, uns_ints]; exact dict_zip hn hfx.1
    have hsh : (dctD .own ls x.2).sh = dctD .shr ls x.2 := by simp [dctD, D.sh, shs_ints]
    have hnb : (dctD .own ls x.2).nb = true := by simp [dctD, D.nb, nbs_ints]
    have k1 : (boxD .shr x.1).isAny = false := rfl
    have hnr := nbs_row .shr (by decide) found
    have hrw : ∀ r, (rowD .shr r).isAny = false := fun r => rfl
    have q1 : evS (T.cx (callD T (n + 2))) 0 (.set 4 (.call 1 (.cons (.var 4 .s) (.cons (.var 5 .s) (.cons (.dzip (.var 0 .s) (.var 6 .s)) .nil))))) [rowD .shr ls, passD .shr ps, planD .shr rs, .nd .own .lst (found.map (rowD .shr)), rowD .shr now, boxD .shr x.1, rowD .shr x.2] = .nx [rowD .shr ls, passD .shr ps, planD .shr rs, .nd .own .lst (found.map (rowD .shr)), rowD .own nw, boxD .shr x.1, rowD .shr x.2] := by
      simp [rowD] at h1
      simp [f2, evS, evE, evA, Rs.so, Rs.bind, ensure, E.imp, readV, k1, D.sh, D.shs, shs_ints, sh_box, nb_box, rowD, D.nb, D.nbs, nbs_ints, Rs.of, hdz, hsh, hnb, cx_fn, cx_glo, h1, lentIf, So.of, asgT]
    refine (seq_nx q1).trans ?_
    simp [f2, evS, evE, evA, evP, Rs.so, Rs.bind, ensure, E.imp, readV, D.sh, D.shs, shs_ints, rowD, D.nb, D.nbs, D.getp, D.setp, mmD, okn, hdl, nbs_app, nbs_ints]
  obtain ⟨g, hg, x5, x6, rfl⟩ := lp
  have hnr := nbs_row .shr (by decide) (thru ls (ps.zip rs)).1
  refine ⟨_, run_ok (g := [rowD .shr ls, passD .shr ps, planD .shr rs, .any, rowD .shr (thru ls (ps.zip rs)).2, x5, x6]) rfl ?_ (nbs1 (by decide) hnr)⟩
  refine (seq_nx (g1 := [rowD .shr ls, passD .shr ps, planD .shr rs, .nd .own .lst [], rowD .shr ls, .any, .any]) ?_).trans ((seq_nx (for_nx (q := (zipD (ps.map (boxD .shr)) (rs.map (rowD .shr)), [passD .shr ps, planD .shr rs])) (g1 := [rowD .shr ls, passD .shr ps, planD .shr rs, .nd .own .lst [], rowD .shr ls, .any, .any]) ?_ ?_ (by rw [zipD_map]; exact hg))).trans ?_)
  · simp [f2, evS, evE, evA, Rs.so, Rs.bind, ensure, So.of, setAll, okn, D.nb, D.nbs, readV, D.sh, shs_ints, rowD, E.imp, nbs_ints]
  · simp [f2, evI, evE, Rs.bind, ensure, E.imp, readV, D.sh, shs_box, shs_row, uns_box, uns_row, passD, planD]
  · simp [f2, E.lockd, passD, planD, D.nbs, D.nb, nbs_box, nbs_row]
  · simp [f2, evS, evE, Rs.so, Rs.bind, ensure, readV, So.ens, D.nb, hnr]
/-- what is asked of letters -/
def Letters (ls : List Int) : Prop := 1 ≤ ls.length ∧ ls.length ≤ 24 ∧ ls.Nodup ∧ ∀ x ∈ ls, 0 ≤ x ∧ x ≤ 99
structure Glo (T : Tab) : Prop where
  a : T.glo "MOST_LETTERS" = some 24
  b : T.glo "MOST_LETTER" = some 99
  c : T.glo "MOST_PASSES" = some 4
  d : T.glo "MOST_BOXES" = some 3
theorem e10 {T : Tab} (B : Hs T [0, 1, 2, 3, 4, 5, 6, 7, 8, 9, 10]) (G : Glo T) (n : Nat) (ls : List Int) (hls : Letters ls) (ps : List (List Str)) (rs : List (List Int)) (hp4 : ps.length ≤ 4) (hp : ∀ p ∈ ps, Box p) (hpl : Plan ls.length ps rs) :
    ∃ o, callD T (n + 5) 10 [rowD .shr ls, passD .shr ps, planD .shr rs] = .ok (planD .own (thru ls (ps.zip rs)).1) o := by
  rw [call_fn (fd := f10) (B.at (i := 10) rfl rfl)]
  obtain ⟨l1, l2, l3, l4⟩ := hls
  obtain ⟨hz, hf⟩ := hpl.zip
  obtain ⟨o5, h5⟩ := e5 (B.sub rfl) G.a G.b (n + 1) ls l1 l2 l3 l4
  obtain ⟨o7, h7⟩ := e7 (B.sub rfl) G.c G.d (n + 2) ps hp4 hp
  obtain ⟨o9, h9⟩ := e9 (B.sub rfl) n ls ps rs (by omega) hpl
  obtain ⟨o2, h2⟩ := e2 (B.sub rfl) (n + 1) ls l3 (by omega) ps rs (by omega) hp hpl
  obtain ⟨t1, t2, t3⟩ := thru_perm rfl _ (ps.zip rs) rfl fun x hx => ⟨hf x hx, (hp _ (List.of_mem_zip (show (x.1, x.2) ∈ ps.zip rs from hx)).1).1⟩
  have tl : (thru ls (ps.zip rs)).1.length < 1000000 := by
    rw [t2, List.length_zip]
    omega
  generalize (thru ls (ps.zip rs)).1 = rows at h2 tl ⊢
  have hnr := nbs_row .shr (by decide) rows
  have hno := nbs_row .own (by decide) rows
  have sp : (passD .shr ps).sh = passD .shr ps := by simp [passD, D.sh, shs_box]
  have sr : (planD .shr rs).sh = planD .shr rs := by simp [planD, D.sh, shs_row]
  have ap : (passD .shr ps).isAny = false := rfl
  have ar : (planD .shr rs).isAny = false := rfl
  have al : (rowD .shr ls).isAny = false := rfl
  have np : (passD .shr ps).nb = true := nbs1 (by decide) (nbs_box .shr (by decide) ps)
  have nr : (planD .shr rs).nb = true := nbs1 (by decide) (nbs_row .shr (by decide) rs)
  refine ⟨_, run_ok (g := [rowD .shr ls, passD .shr ps, planD .shr rs, .any]) rfl ?_ (nbs1 (by decide) hno)⟩
  refine (seq_nx (g1 := [rowD .shr ls, passD .shr ps, planD .shr rs, .any]) ?_).trans ((seq_nx (g1 := [rowD .shr ls, passD .shr ps, planD .shr rs, .any]) ?_).trans ((seq_nx (g1 := [rowD .shr ls, passD .shr ps, planD .shr rs, .any]) ?_).trans ?_))
  · simp [f10, evS, evE, evA, Rs.so, Rs.bind, ensure, E.imp, readV, al, sh_row, nb_row, D.shs, D.nbs, cx_fn, cx_glo, h5, lentIf, D.nb]
  · simp [f10, evS, evE, evA, Rs.so, Rs.bind, ensure, E.imp, readV, ap, sp, np, D.shs, D.nbs, cx_fn, cx_glo, h7, lentIf, D.nb]
  · simp [f10, evS, evE, evA, Rs.so, Rs.bind, ensure, E.imp, readV, al, ap, ar, sp, sr, np, nr, sh_row, nb_row, D.shs, D.nbs, cx_fn, cx_glo, h9, lentIf, D.nb]
  · have hc : evE (T.cx (callD T (n + 4))) 0 (.comp (.bi .list (.cons (.var 3 .s) .nil)) .nop (.nm 3) (.src (.call 2 (.cons (.var 0 .s) (.cons (.var 1 .s) (.cons (.var 2 .s) .nil))))) [3]) [rowD .shr ls, passD .shr ps, planD .shr rs, .any] = .ok (.nd .own .lst (rows.map (rowD .own))) [rowD .shr ls, passD .shr ps, planD .shr rs, .any] := by
      refine comp_map (enc := rowD .shr) (ks := [.nd .own .lst (rows.map (rowD .shr))]) (g1 := [rowD .shr ls, passD .shr ps, planD .shr rs, .any]) rfl ?_ tl fun x hx => ?_
      · simp [f10, evI, evE, evA, Rs.bind, ensure, E.imp, readV, al, ap, ar, sp, sr, np, nr, sh_row, nb_row, D.shs, D.nbs, cx_fn, cx_glo, h2, lentIf, D.nb, hnr, Rs.of, uns_row]
      · simp [turnC, asgT, setAny, optB, E.isNop, rowD, D.nb, nbs_ints, evE, evA, Rs.bind, ensure, readV, D.sh, shs_ints, E.imp, Rs.of]
    show evS _ 0 (.cons (.ret (.comp (.bi .list (.cons (.var 3 .s) .nil)) .nop (.nm 3) (.src (.call 2 (.cons (.var 0 .s) (.cons (.var 1 .s) (.cons (.var 2 .s) .nil))))) [3])) .nil) [rowD .shr ls, passD .shr ps, planD .shr rs, .any] = _
    have hn : (D.nd .own .lst (rows.map (rowD .own))).nb = true := nbs1 (by decide) hno
    simp only [evS, hc, Rs.so, So.ens, hn]
    rfl
end Ku

namespace Ku
open PySem PySem.Spec PyProof.Rows L2 Bx
theorem pairs_ints (xs : List (Int × Int)) : pairsD (xs.map fun x => .tup [.int x.1, .int x.2]) = some (xs.map fun x => (Sum.inl x.1, D.int x.2)) := by
  induction xs with
  | nil => rfl
  | cons x xs ih =>
    rw [List.map_cons, pairsD, ih]
    rfl
theorem zipIdx_get (ls row : List Int) (hl : row.length = ls.length) : ∀ x ∈ ls.zipIdx, row[x.2]? = some (row.getD x.2 0) := fun x hx => by
  have h : x.2 < ls.length := by
    have := List.mem_zipIdx (show (x.1, x.2) ∈ ls.zipIdx from hx)
    omega
  rw [List.getD_eq_getElem?_getD, List.getElem?_eq_getElem (by omega)]
  rfl
theorem dict_prs {ls row : List Int} (h : ls.Nodup) (hl : row.length = ls.length) : dictD (ls.zipIdx.map fun x => (Sum.inl x.1, D.int (row.getD x.2 0))) = some (dctD .own ls row) := by
  have e : (ls.zipIdx.map fun x => ((Sum.inl x.1 : Key), D.int (row.getD x.2 0))) = (ls.map Sum.inl).zip (row.map D.int) := by
    refine List.ext_getElem (by simp [hl]) fun i h1 h2 => ?_
    simp only [List.length_map, List.length_zipIdx] at h1
    have h3 : i < row.length := by omega
    simp [List.getD_eq_getElem?_getD, h3]
  rw [e]
  exact dict_zip h hl
theorem cmp_nat (i j : Nat) : cmpD .eq (.int (i : Nat)) (.int (j : Nat)) = some (decide (i = j)) := by
  rw [cmp_int]
  congr 1
  by_cases h : i = j
  · simp [h]
  · have : ¬ ((i : Int) = (j : Int)) := by omega
    simp [h, this]
def bd18i : S := (.cons (.setc 11 (.var 12 .s) (.cmp .eq (.ix (.var 8 .s) (.var 12 .s)) (.var 9 .s)) (.nm 12) (.src (.var 4 .s)) [12])
  (.cons (.set 7 (.op .add (.var 7 .s) (.ife (.cmp .eq (.var 10 .s) (.str "line")) (.var 11 .s) (.rev (.var 11 .s)))))
  .nil))
/-- one box looked for -/
theorem l18 {C : Cxt} {v0 v1 v2 v3 v5 v6 v11 v12 v13 : D} {now ls row beh : List Int} {f4 f7 f8 : Fl} {k : Str} {b : Nat} (hk : kindOk k) (f : Int → Nat) (hs : ∀ l ∈ now, subD (dctD .shr ls row) (.int l) = some (.int (f l : Nat))) (hn : now.length < 500000) (hb : beh.length < 500000) :
    ∃ f8' w11 w12, evS C 0 bd18i [v0, v1, v2, v3, rowD f4 now, v5, v6, rowD f7 beh, dctD f8 ls row, .int (b : Nat), .str k, v11, v12, v13] =
      .nx [v0, v1, v2, v3, rowD .shr now, v5, v6, rowD .own (beh ++ turnk k (now.filter fun l => f l = b)), dctD f8' ls row, .int (b : Nat), .str k, w11, w12, v13] := by
  have hsd : ∀ h, (dctD h ls row).sh = dctD .shr ls row := fun h => by simp [dctD, D.sh, shs_ints]
  have hia : ∀ h, (dctD h ls row).isAny = false := fun h => rfl
  let P : List D → Prop := fun g => ∃ h, g = [v0, v1, v2, v3, rowD .shr now, v5, v6, rowD f7 beh, dctD h ls row, .int (b : Nat), .str k, v11, .any, v13]
  obtain ⟨g', hc, f8', rfl⟩ : ∃ g', evE C 0 (.comp (.var 12 .s) (.cmp .eq (.ix (.var 8 .s) (.var 12 .s)) (.var 9 .s)) (.nm 12) (.src (.var 4 .s)) [12]) [v0, v1, v2, v3, rowD f4 now, v5, v6, rowD f7 beh, dctD f8 ls row, .int (b : Nat), .str k, v11, v12, v13] = .ok (.nd .own .lst ((now.filter fun l => f l = b).map .int)) g' ∧ P g' := by
    refine comp_inv (enc := D.int) (ks := [rowD .shr now]) (g1 := [v0, v1, v2, v3, rowD .shr now, v5, v6, rowD f7 beh, dctD f8 ls row, .int (b : Nat), .str k, v11, v12, v13]) P rfl ?_ (by omega) ⟨f8, rfl⟩ fun x hx g hg => ?_
    · simp [evI, evE, Rs.bind, ensure, readV, D.sh, shs_ints, uns_ints, rowD, Rs.of]
    · obtain ⟨h, rfl⟩ := hg
      refine ⟨[v0, v1, v2, v3, rowD .shr now, v5, v6, rowD f7 beh, dctD .shr ls row, .int (b : Nat), .str k, v11, .any, v13], ?_, .shr, rfl⟩
      have h1 := hs x hx
      by_cases hfb : f x = b
      · simp [turnC, asgT, setAny, optB, E.isNop, D.nb, evE, Rs.bind, ensure, readV, hia, hsd, D.sh, E.imp, h1, cmp_nat, hfb, Rs.of]
      · simp [turnC, asgT, setAny, optB, E.isNop, D.nb, evE, Rs.bind, ensure, readV, hia, hsd, D.sh, E.imp, h1, cmp_nat, hfb, Rs.of]
  refine ⟨f8', rowD .shr (now.filter fun l => f l = b), .any, ?_⟩
  have hl : (now.filter fun l => f l = b).length < 500000 := Nat.lt_of_le_of_lt (List.length_filter_le ..) hn
  generalize (now.filter fun l => f l = b) = some1 at hc hl ⊢
  refine (seq_nx (g1 := [v0, v1, v2, v3, rowD .shr now, v5, v6, rowD f7 beh, dctD f8' ls row, .int (b : Nat), .str k, rowD .own some1, .any, v13]) ?_).trans ?_
  · simp only [evS, hc, Rs.so]
    simp [So.of, asgT, D.nb, nbs_ints, rowD]
  · have hlt : beh.length + some1.length < 1000000 := by omega
    have ck := cmp_kind hk
    have hr1 := nbs_ints some1.reverse
    rw [List.map_reverse] at hr1
    by_cases h1 : k = "line"
    · rw [h1] at ck
      simp [h1, evS, evE, Rs.so, Rs.bind, ensure, E.imp, readV, D.sh, shs_ints, rowD, D.nb, nbs_app, nbs_ints, okn, opD, hlt, ck, Rs.of, So.of, asgT, turnk]
    · simp [h1, evS, evE, Rs.so, Rs.bind, ensure, E.imp, readV, D.sh, shs_ints, rowD, D.nb, nbs_app, nbs_ints, okn, opD, hlt, ck, Rs.of, So.of, asgT, turnk, hr1]
def bd18 : S := (.cons (.unp (.tp (.cons (.nm 7) (.cons (.nm 8) .nil))) (.tup (.cons (.lst .nil) (.cons (.dprs (.comp (.tup (.cons (.var 12 .s) (.cons (.ix (.var 6 .s) (.var 13 .s)) .nil))) .nop (.tp (.cons (.nm 13) (.cons (.nm 12) .nil))) (.enu (.var 0 .s)) [12, 13])) .nil))))
  (.cons (.for (.tp (.cons (.nm 9) (.cons (.nm 10) .nil))) (.enu (.var 5 .s)) bd18i)
  (.cons (.set 4 (.var 7 .s))
  (.cons (.ex (.mut (.var 3 .b) .append (.cons (.var 4 .s) .nil)))
  .nil))))
theorem idx_fst {α : Type} : ∀ (p : List α) (k : Nat) (x : α × Nat), x ∈ p.zipIdx k → x.1 ∈ p
  | [], _, _, h => nomatch h
  | a :: p, k, x, h => by
    rw [List.zipIdx_cons] at h
    rcases List.mem_cons.mp h with rfl | h
    · exact List.mem_cons_self ..
    · exact List.mem_cons_of_mem _ (idx_fst p (k + 1) x h)
/-- the letters behind one pass, looked for box by box -/
theorem p18 {C : Cxt} {v1 v2 v7 v8 v9 v10 v11 v12 v13 : D} {found : List (List Int)} {now ls row : List Int} {f4 : Fl} {p : List Str} (hn : ls.Nodup) (hf : fits ls.length p row) (hp : Box p) (hperm : now.Perm ls) (hl : ls.length < 500000) (hd : found.length < 1000000) :
    ∃ w8 w9 w10 w11 w12 w13, evS C 0 bd18 [rowD .shr ls, v1, v2, .nd .own .lst (found.map (rowD .shr)), rowD f4 now, boxD .shr p, rowD .shr row, v7, v8, v9, v10, v11, v12, v13] =
      .nx [rowD .shr ls, v1, v2, .nd .own .lst ((found ++ [behind p (bo ls row) now]).map (rowD .shr)), rowD .shr (behind p (bo ls row) now), boxD .shr p, rowD .shr row, rowD .shr (behind p (bo ls row) now), w8, w9, w10, w11, w12, w13] := by
  have hnl : now.length < 500000 := by rw [hperm.length_eq]; exact hl
  have hbl : ∀ l ∈ now, bo ls row l < p.length := fun l h => bo_lt hf rfl hp.1 l (hperm.mem_iff.mp h)
  have hbp := behind_perm p (bo ls row) now hbl
  have hs : ∀ l ∈ now, subD (dctD .shr ls row) (.int l) = some (.int (bo ls row l : Nat)) := fun l h => sub_dct hf rfl l (hperm.mem_iff.mp h)
  have k1 : (boxD .shr p).isAny = false := rfl
  let pre (done : List (Str × Nat)) : List Int := done.flatMap fun x => turnk x.1 (now.filter fun l => bo ls row l = x.2)
  have hpre : ∀ done rest, p.zipIdx = done ++ rest → (pre done).length < 500000 := fun done rest e => by
    have : behind p (bo ls row) now = pre done ++ pre rest := by
      show p.zipIdx.flatMap _ = _
      rw [e, List.flatMap_append]
    have h2 := hbp.length_eq
    rw [this, List.length_append] at h2
    omega
  let P : List (Str × Nat) → List D → Prop := fun done g => ∃ f4 f7 f8 v9 v10 v11 v12 v13, g = [rowD .shr ls, v1, v2, .nd .own .lst (found.map (rowD .shr)), rowD f4 now, boxD .shr p, rowD .shr row, rowD f7 (pre done), dctD f8 ls row, v9, v10, v11, v12, v13]
  have lp : ∃ g', loopL (fun x g => match asgT 0 (.tp (.cons (.nm 9) (.cons (.nm 10) .nil))) x g with
      | none => .bad
      | some g => evS C 0 bd18i g) (p.zipIdx.map fun x => .tup [.int (x.2 : Nat), .str x.1])
      [rowD .shr ls, v1, v2, .nd .own .lst (found.map (rowD .shr)), rowD f4 now, boxD .shr p, rowD .shr row, rowD .own [], dctD .own ls row, v9, v10, v11, .any, .any] = .nx g' ∧ P p.zipIdx g' := by
    refine loop_pre P (fun done x rest g e hq => ?_) _ ⟨_, _, _, _, _, _, _, _, rfl⟩
    obtain ⟨g4, g7, g8, u9, u10, u11, u12, u13, rfl⟩ := hq
    have hk : kindOk x.1 := hp.2.2 _ (idx_fst p 0 x (by rw [e]; simp))
    rw [asg2 (show (D.int (x.2 : Nat)).nb = true from rfl) (show (D.str x.1).nb = true from rfl) (by omega) (by omega) (by simp) (by simp)]
    obtain ⟨g8', u11', u12', h⟩ := l18 (C := C) (v0 := rowD .shr ls) (v1 := v1) (v2 := v2) (v3 := .nd .own .lst (found.map (rowD .shr))) (v5 := boxD .shr p) (v6 := rowD .shr row) (v11 := u11) (v12 := u12) (v13 := u13) (f4 := g4) (f7 := g7) (f8 := g8) (b := x.2) hk (bo ls row) hs hnl (hpre done (x :: rest) e)
    refine ⟨_, h, ?_⟩
    have e2 : pre (done ++ [x]) = pre done ++ turnk x.1 (now.filter fun l => bo ls row l = x.2) := by
      show (done ++ [x]).flatMap _ = _
      rw [List.flatMap_append]
      simp [pre]
    rw [← e2]
    exact ⟨_, _, _, _, _, _, _, _, rfl⟩
  obtain ⟨g, hg, g4, g7, g8, u9, u10, u11, u12, u13, rfl⟩ := lp
  have epre : pre p.zipIdx = behind p (bo ls row) now := rfl
  rw [epre] at hg
  generalize hbeh : behind p (bo ls row) now = beh at hg ⊢
  refine ⟨dctD g8 ls row, u9, u10, u11, u12, u13, ?_⟩
  refine (seq_nx (g1 := [rowD .shr ls, v1, v2, .nd .own .lst (found.map (rowD .shr)), rowD f4 now, boxD .shr p, rowD .shr row, rowD .own [], dctD .own ls row, v9, v10, v11, .any, .any]) ?_).trans ((seq_nx (for_nx (q := (enumD 0 (p.map .str), [boxD .shr p])) (g1 := [rowD .shr ls, v1, v2, .nd .own .lst (found.map (rowD .shr)), rowD f4 now, boxD .shr p, rowD .shr row, rowD .own [], dctD .own ls row, v9, v10, v11, .any, .any]) ?_ ?_ (by rw [enumD_map]; exact hg))).trans ?_)
  · have hc : evE C 0 (.comp (.tup (.cons (.var 12 .s) (.cons (.ix (.var 6 .s) (.var 13 .s)) .nil))) .nop (.tp (.cons (.nm 13) (.cons (.nm 12) .nil))) (.enu (.var 0 .s)) [12, 13]) [rowD .shr ls, v1, v2, .nd .own .lst (found.map (rowD .shr)), rowD f4 now, boxD .shr p, rowD .shr row, v7, v8, v9, v10, v11, v12, v13] =
        .ok (.nd .own .lst (ls.zipIdx.map fun x => .tup [.int x.1, .int (row.getD x.2 0)])) [rowD .shr ls, v1, v2, .nd .own .lst (found.map (rowD .shr)), rowD f4 now, boxD .shr p, rowD .shr row, v7, v8, v9, v10, v11, .any, .any] := by
      refine comp_map (enc := fun x : Int × Nat => .tup [.int (x.2 : Nat), .int x.1]) (ks := [rowD .shr ls]) (g1 := [rowD .shr ls, v1, v2, .nd .own .lst (found.map (rowD .shr)), rowD f4 now, boxD .shr p, rowD .shr row, v7, v8, v9, v10, v11, v12, v13]) rfl ?_ (by simp; omega) fun x hx => ?_
      · simp [evI, evE, Rs.bind, ensure, readV, D.sh, shs_ints, uns_ints, rowD, enumD_map]
      · have h1 := zipIdx_get ls row hf.1 x hx
        have h2 : subD (rowD .shr row) (.int (x.2 : Nat)) = some (.int (row.getD x.2 0)) := by
          have h3 : x.2 < row.length := (List.getElem?_eq_some_iff.mp h1).1
          show (ixD (row.map D.int).length (x.2 : Nat)).bind (fun j => (row.map D.int)[j]?) = _
          rw [ixD_nat (by simpa using h3)]
          show (row.map D.int)[x.2]? = _
          rw [List.getElem?_map, h1]
          rfl
        simp only [rowD] at h2
        simp [turnC, asgT, asgT.asgTs, setAny, optB, E.isNop, D.nb, D.nbs, evE, evA, Rs.bind, ensure, readV, D.sh, shs_ints, E.imp, rowD, h2, Rs.of, okn]
    have hu : D.uns (ls.zipIdx.map fun x => D.tup [.int x.1, .int (row.getD x.2 0)]) = ls.zipIdx.map fun x => D.tup [.int x.1, .int (row.getD x.2 0)] := by
      rw [uns_map, List.map_map]
      refine List.map_congr_left fun x _ => ?_
      simp [D.un, D.uns]
    have hpd : (pairsD (ls.zipIdx.map fun x => D.tup [.int x.1, .int (row.getD x.2 0)])).bind dictD = some (dctD .own ls row) := by
      have e1 : (ls.zipIdx.map fun x => D.tup [.int x.1, .int (row.getD x.2 0)]) = (ls.zipIdx.map fun x => (x.1, row.getD x.2 0)).map fun x => .tup [.int x.1, .int x.2] := by rw [List.map_map]; rfl
      rw [e1, pairs_ints, List.map_map]
      exact dict_prs hn hf.1
    have hnb : (dctD .own ls row).nb = true := by simp [dctD, D.nb, nbs_ints]
    have hd : evE C 0 (.dprs (.comp (.tup (.cons (.var 12 .s) (.cons (.ix (.var 6 .s) (.var 13 .s)) .nil))) .nop (.tp (.cons (.nm 13) (.cons (.nm 12) .nil))) (.enu (.var 0 .s)) [12, 13])) [rowD .shr ls, v1, v2, .nd .own .lst (found.map (rowD .shr)), rowD f4 now, boxD .shr p, rowD .shr row, v7, v8, v9, v10, v11, v12, v13] =
        .ok (dctD .own ls row) [rowD .shr ls, v1, v2, .nd .own .lst (found.map (rowD .shr)), rowD f4 now, boxD .shr p, rowD .shr row, v7, v8, v9, v10, v11, .any, .any] := by
      rw [evE, hc]
      show Rs.of ((pairsD (D.uns _)).bind dictD) _ = _
      rw [hu, hpd]
      rfl
    generalize hA : E.dprs (.comp (.tup (.cons (.var 12 .s) (.cons (.ix (.var 6 .s) (.var 13 .s)) .nil))) .nop (.tp (.cons (.nm 13) (.cons (.nm 12) .nil))) (.enu (.var 0 .s)) [12, 13]) = A at hd ⊢
    have hr0 : rowD .own [] = D.nd .own .lst [] := rfl
    simp [evS, evE, evA, Rs.so, Rs.bind, ensure, E.imp, okn, D.nb, D.nbs, hd, So.of, asg2, hr0]
  · simp [evI, evE, Rs.bind, ensure, readV, D.sh, shs_strs, uns_strs, boxD]
  · simp [E.lockd, boxD, D.nbs, D.nb, nbs_strs]
  · have hnr := nbs_row .shr (by decide) found
    simp [evS, evE, evA, evP, Rs.so, Rs.bind, ensure, E.imp, readV, D.sh, D.shs, shs_ints, rowD, D.nb, D.nbs, D.getp, D.setp, mmD, okn, hd, nbs_app, nbs_ints, So.of, asgT]
end Ku

namespace Ku
open PySem PySem.Spec PyProof.Rows L2 Bx
theorem e18 {T : Tab} (B : Hs T [18]) (n : Nat) (ls : List Int) (hn : ls.Nodup) (hl : ls.length < 500000) (ps : List (List Str)) (rs : List (List Int)) (hp4 : ps.length < 1000000) (hp : ∀ p ∈ ps, Box p) (hpl : Plan ls.length ps rs) :
    ∃ o, callD T (n + 1) 18 [rowD .shr ls, passD .shr ps, planD .shr rs] = .ok (.nd .own .lst ((thru ls (ps.zip rs)).1.map (rowD .shr))) o := by
  rw [call_fn (fd := f18) (B.at (i := 18) rfl rfl)]
  obtain ⟨hz, hf⟩ := hpl.zip
  have hbx : ∀ x ∈ ps.zip rs, Box x.1 := fun x hx => hp _ (List.of_mem_zip (show (x.1, x.2) ∈ ps.zip rs from hx)).1
  let P : List (List Str × List Int) → List D → Prop := fun done g => ∃ f4 x5 x6 x7 x8 x9 x10 x11 x12 x13, g = [rowD .shr ls, passD .shr ps, planD .shr rs, .nd .own .lst ((thru ls done).1.map (rowD .shr)), rowD f4 (thru ls done).2, x5, x6, x7, x8, x9, x10, x11, x12, x13]
  have lp : ∃ g', loopL (fun x g => match asgT 0 (.tp (.cons (.nm 5) (.cons (.nm 6) .nil))) x g with
      | none => .bad
      | some g => evS (T.cx (callD T n)) 0 bd18 g) ((ps.zip rs).map fun x => .tup [boxD .shr x.1, rowD .shr x.2])
      [rowD .shr ls, passD .shr ps, planD .shr rs, .nd .own .lst [], rowD .own ls, .any, .any, .any, .any, .any, .any, .any, .any, .any] = .nx g' ∧ P (ps.zip rs) g' := by
    refine loop_pre P (fun done x rest g e hq => ?_) _ ⟨_, _, _, _, _, _, _, _, _, _, rfl⟩
    obtain ⟨f4, x5, x6, x7, x8, x9, x10, x11, x12, x13, rfl⟩ := hq
    have hx : x ∈ ps.zip rs := by rw [e]; simp
    have hdone : ∀ y ∈ done, fits ls.length y.1 y.2 ∧ 1 ≤ y.1.length := fun y hy => have hy' : y ∈ ps.zip rs := (by rw [e]; simp [hy]); ⟨hf y hy', (hbx y hy').1⟩
    obtain ⟨t1, t2, t3⟩ := thru_perm rfl _ done rfl hdone
    have hdl : done.length < 1000000 := by
      have : (ps.zip rs).length = done.length + (rest.length + 1) := by rw [e]; simp
      rw [List.length_zip] at this
      omega
    rw [asg2 (nb_box _) (nb_row _) (by omega) (by omega) (by simp) (by simp)]
    show ∃ g', _ = So.nx g' ∧ ∃ f4 x5 x6 x7 x8 x9 x10 x11 x12 x13, g' = [rowD .shr ls, passD .shr ps, planD .shr rs, .nd .own .lst ((thru ls (done ++ [x])).1.map (rowD .shr)), rowD f4 (thru ls (done ++ [x])).2, x5, x6, x7, x8, x9, x10, x11, x12, x13]
    rw [thru_snoc]
    obtain ⟨w8, w9, w10, w11, w12, w13, h⟩ := p18 (C := T.cx (callD T n)) (v1 := passD .shr ps) (v2 := planD .shr rs) (v7 := x7) (v8 := x8) (v9 := x9) (v10 := x10) (v11 := x11) (v12 := x12) (v13 := x13) (f4 := f4) hn (hf x hx) (hbx x hx) t1 hl (by rw [t2]; exact hdl)
    exact ⟨_, h, .shr, boxD .shr x.1, rowD .shr x.2, _, w8, w9, w10, w11, w12, w13, rfl⟩
  obtain ⟨g, hg, f4, x5, x6, x7, x8, x9, x10, x11, x12, x13, rfl⟩ := lp
  refine ⟨_, run_ok (g := [rowD .shr ls, passD .shr ps, planD .shr rs, .any, rowD f4 (thru ls (ps.zip rs)).2, x5, x6, x7, x8, x9, x10, x11, x12, x13]) rfl ?_ (nbs1 (by decide) (nbsR1 _))⟩
  refine (seq_nx (g1 := [rowD .shr ls, passD .shr ps, planD .shr rs, .nd .own .lst [], rowD .own ls, .any, .any, .any, .any, .any, .any, .any, .any, .any]) ?_).trans ((seq_nx (for_nx (q := (zipD (ps.map (boxD .shr)) (rs.map (rowD .shr)), [passD .shr ps, planD .shr rs])) (g1 := [rowD .shr ls, passD .shr ps, planD .shr rs, .nd .own .lst [], rowD .own ls, .any, .any, .any, .any, .any, .any, .any, .any, .any]) ?_ ?_ (by rw [zipD_map]; exact hg))).trans ?_)
  · simp [f18, evS, evE, evA, evI, evP, Rs.so, Rs.bind, ensure, E.imp, readV, D.sh, D.shs, D.nb, D.nbs, lentIf, Rs.of, So.of, So.ens, asgT, setAny, okn, optB, E.isNop, opD, isD, tyS, isTab, D.getp, D.setp, mmD, nbs_app, setAll]
  · simp [f18, evS, evE, evA, evI, evP, Rs.so, Rs.bind, ensure, E.imp, readV, D.sh, D.shs, D.nb, D.nbs, lentIf, Rs.of, So.of, So.ens, asgT, setAny, okn, optB, E.isNop, opD, isD, tyS, isTab, D.getp, D.setp, mmD, nbs_app, shs_box, shs_row, uns_box, uns_row, passD, planD]
  · simp [f18, E.lockd, D.nbs]
  · simp [f18, evS, evE, evA, evI, evP, Rs.so, Rs.bind, ensure, E.imp, readV, D.sh, D.shs, D.nb, D.nbs, lentIf, Rs.of, So.of, So.ens, asgT, setAny, okn, optB, E.isNop, opD, isD, tyS, isTab, D.getp, D.setp, mmD, nbs_app]
end Ku

namespace Ku
open PySem PySem.Spec PyProof.Rows L2 Bx
/-! ### what == and str tell of plain data -/
mutual
/-- whole numbers, texts, lists and tuples of them -/
def nob : PyData → Bool
  | .int _ => true
  | .str _ => true
  | .list xs => nobs xs
  | .tuple xs => nobs xs
  | _ => false
def nobs : List PyData → Bool
  | [] => true
  | x :: xs => nob x && nobs xs
end
mutual
theorem eqv_iff : ∀ a b : PyData, nob a = true → nob b = true → (PyData.eqv a b = true ↔ a = b)
  | .int i, .int j, _, _ => by simp [PyData.eqv]
  | .str x, .str y, _, _ => by simp [PyData.eqv]
  | .list xs, .list ys, h, h' => by
    simp only [PyData.eqv, PyData.list.injEq]
    exact eqvs_iff xs ys (by simpa only [nob] using h) (by simpa only [nob] using h')
  | .tuple xs, .tuple ys, h, h' => by
    simp only [PyData.eqv, PyData.tuple.injEq]
    exact eqvs_iff xs ys (by simpa only [nob] using h) (by simpa only [nob] using h')
  | .int i, .str y, _, _ => by simp [PyData.eqv]
  | .int i, .list y, _, _ => by simp [PyData.eqv]
  | .int i, .tuple y, _, _ => by simp [PyData.eqv]
  | .str i, .int y, _, _ => by simp [PyData.eqv]
  | .str i, .list y, _, _ => by simp [PyData.eqv]
  | .str i, .tuple y, _, _ => by simp [PyData.eqv]
  | .list i, .int y, _, _ => by simp [PyData.eqv]
  | .list i, .str y, _, _ => by simp [PyData.eqv]
  | .list i, .tuple y, _, _ => by simp [PyData.eqv]
  | .tuple i, .int y, _, _ => by simp [PyData.eqv]
  | .tuple i, .str y, _, _ => by simp [PyData.eqv]
  | .tuple i, .list y, _, _ => by simp [PyData.eqv]
  | .none, _, h, _ => by simp [nob] at h
  | .bool _, _, h, _ => by simp [nob] at h
  | .dict _, _, h, _ => by simp [nob] at h
  | .int _, .none, _, h => by simp [nob] at h
  | .int _, .bool _, _, h => by simp [nob] at h
  | .int _, .dict _, _, h => by simp [nob] at h
  | .str _, .none, _, h => by simp [nob] at h
  | .str _, .bool _, _, h => by simp [nob] at h
  | .str _, .dict _, _, h => by simp [nob] at h
  | .list _, .none, _, h => by simp [nob] at h
  | .list _, .bool _, _, h => by simp [nob] at h
  | .list _, .dict _, _, h => by simp [nob] at h
  | .tuple _, .none, _, h => by simp [nob] at h
  | .tuple _, .bool _, _, h => by simp [nob] at h
  | .tuple _, .dict _, _, h => by simp [nob] at h
theorem eqvs_iff : ∀ a b : List PyData, nobs a = true → nobs b = true → (PyData.eqvAll a b = true ↔ a = b)
  | [], [], _, _ => by simp [PyData.eqvAll]
  | [], _ :: _, _, _ => by simp [PyData.eqvAll]
  | _ :: _, [], _, _ => by simp [PyData.eqvAll]
  | x :: xs, y :: ys, h, h' => by
    simp only [nobs, Bool.and_eq_true] at h h'
    simp only [PyData.eqvAll, Bool.and_eq_true, List.cons.injEq, eqv_iff x y h.1 h'.1, eqvs_iff xs ys h.2 h'.2]
end
/-- a tree that can be compared and shown -/
def Nice (k : Nat) (d : D) : Prop := d.pyb = true ∧ d.py.canLay0 = true ∧ d.py.depth ≤ k ∧ nob d.py = true
def NiceS (k : Nat) (ds : List D) : Prop := ∀ d ∈ ds, Nice k d
theorem niceI (i : Int) : Nice 0 (.int i) := ⟨rfl, rfl, Nat.le_refl _, rfl⟩
theorem niceS {s : Str} (h : PyData.strOk s = true) : Nice 0 (.str s) := ⟨rfl, h, Nat.le_refl _, rfl⟩
theorem niceUp {j k : Nat} {d : D} (h : Nice j d) (l : j ≤ k) : Nice k d := ⟨h.1, h.2.1, Nat.le_trans h.2.2.1 l, h.2.2.2⟩
theorem niceL {k : Nat} {ds : List D} (h : NiceS k ds) : D.pybs ds = true ∧ PyData.canLayAll0 (D.pys ds) = true ∧ PyData.depthAll (D.pys ds) ≤ k ∧ nobs (D.pys ds) = true := by
  induction ds with
  | nil => exact ⟨rfl, rfl, Nat.zero_le _, rfl⟩
  | cons d ds ih =>
    obtain ⟨a, b, c, e⟩ := ih fun x hx => h x (List.mem_cons_of_mem _ hx)
    obtain ⟨a', b', c', e'⟩ := h d (List.mem_cons_self ..)
    refine ⟨by rw [D.pybs, a', a]; rfl, by rw [D.pys, PyData.canLayAll0, b', b]; rfl, ?_, by rw [D.pys, nobs, e', e]; rfl⟩
    rw [D.pys, PyData.depthAll]
    exact Nat.max_le.mpr ⟨c', c⟩
theorem niceN {k : Nat} {f : Fl} {ds : List D} (h : NiceS k ds) : Nice (k + 1) (.nd f .lst ds) := by
  obtain ⟨a, b, c, e⟩ := niceL h
  exact ⟨by rw [D.pyb, a]; rfl, b, Nat.succ_le_succ c, e⟩
theorem niceRow (f : Fl) (r : List Int) : Nice 1 (rowD f r) := niceN fun d hd => by
  obtain ⟨i, _, rfl⟩ := List.mem_map.mp hd
  exact niceI i
theorem kind_ok {s : Str} (h : kindOk s) : PyData.strOk s = true := by
  rcases h with rfl | rfl <;> decide +kernel
theorem niceBox (f : Fl) (r : List Str) (h : ∀ s ∈ r, kindOk s) : Nice 1 (boxD f r) := niceN fun d hd => by
  obtain ⟨i, hi, rfl⟩ := List.mem_map.mp hd
  exact niceS (kind_ok (h i hi))
theorem niceRows (f h : Fl) (rs : List (List Int)) : Nice 2 (.nd f .lst (rs.map (rowD h))) := niceN fun d hd => by
  obtain ⟨i, _, rfl⟩ := List.mem_map.mp hd
  exact niceRow h i
theorem nicePlan (f : Fl) (rs : List (List Int)) : Nice 2 (planD f rs) := niceRows f f rs
theorem nicePass (f : Fl) (ps : List (List Str)) (h : ∀ p ∈ ps, Box p) : Nice 2 (passD f ps) := niceN fun d hd => by
  obtain ⟨i, hi, rfl⟩ := List.mem_map.mp hd
  exact niceBox f i (h i hi).2.2
theorem nice_cmpb {k : Nat} {d : D} (h : Nice k d) (hk : k ≤ 64) : d.cmpb = true := by
  unfold D.cmpb SeqAt.shaped
  rw [h.1, h.2.1, decide_eq_true (Nat.le_trans h.2.2.1 hk)]
  rfl
theorem cmp_same {k l : Nat} {x y : D} (hx : Nice k x) (hy : Nice l y) (e : x.py = y.py) (hk : k ≤ 64 := by decide) (hl : l ≤ 64 := by decide) : cmpD .eq x y = some true ∧ cmpD .ne x y = some false := by
  have := (eqv_iff _ _ hx.2.2.2 hy.2.2.2).mpr e
  unfold cmpD
  simp only [nice_cmpb hx hk, nice_cmpb hy hl, this, Bool.and_self, if_true, Bool.not_true, and_self]
theorem cmp_other {k l : Nat} {x y : D} (hx : Nice k x) (hy : Nice l y) (e : x.py ≠ y.py) (hk : k ≤ 64 := by decide) (hl : l ≤ 64 := by decide) : cmpD .eq x y = some false ∧ cmpD .ne x y = some true := by
  have : PyData.eqv x.py y.py = false := Bool.eq_false_iff.mpr fun z => e ((eqv_iff _ _ hx.2.2.2 hy.2.2.2).mp z)
  unfold cmpD
  simp only [nice_cmpb hx hk, nice_cmpb hy hl, this, Bool.and_self, if_true, Bool.not_false, and_self]
theorem pys_map {α : Type} (f : α → D) (xs : List α) : D.pys (xs.map f) = xs.map fun x => (f x).py := by
  induction xs with
  | nil => rfl
  | cons x xs ih => rw [List.map_cons, D.pys, ih]; rfl
theorem py_row (f : Fl) (r : List Int) : (rowD f r).py = .list (r.map .int) := by
  rw [rowD, D.py, pys_map]
  rfl
theorem py_rows (f h : Fl) (rs : List (List Int)) : (D.nd f .lst (rs.map (rowD h))).py = .list (rs.map fun r => .list (r.map .int)) := by
  rw [D.py, pys_map]
  congr 1
  exact List.map_congr_left fun r _ => py_row h r
theorem cmp_row (f h : Fl) (r s : List Int) : cmpD .eq (rowD f r) (rowD h s) = some (decide (r = s)) ∧ cmpD .ne (rowD f r) (rowD h s) = some (!decide (r = s)) := by
  by_cases e : r = s
  · subst e
    have := cmp_same (niceRow f r) (niceRow h r) (by rw [py_row, py_row])
    simpa using this
  · have := cmp_other (niceRow f r) (niceRow h s) (fun z => e ?_)
    · simpa [e] using this
    · rw [py_row, py_row] at z
      injection z with z
      exact (List.map_inj_right fun _ _ w => by injection w).mp z
theorem rows_inj {r s : List (List Int)} (z : (r.map fun r => PyData.list (r.map .int)) = s.map fun r => PyData.list (r.map .int)) : r = s :=
  (List.map_inj_right fun _ _ w => by
    injection w with w
    exact (List.map_inj_right fun _ _ w => by injection w).mp w).mp z
theorem cmp_rows (f h f' h' : Fl) (r s : List (List Int)) : cmpD .eq (.nd f .lst (r.map (rowD h))) (.nd f' .lst (s.map (rowD h'))) = some (decide (r = s)) ∧ cmpD .ne (.nd f .lst (r.map (rowD h))) (.nd f' .lst (s.map (rowD h'))) = some (!decide (r = s)) := by
  by_cases e : r = s
  · subst e
    have := cmp_same (niceRows f h r) (niceRows f' h' r) (by rw [py_rows, py_rows])
    simpa using this
  · have := cmp_other (niceRows f h r) (niceRows f' h' s) (fun z => e ?_)
    · simpa [e] using this
    · rw [py_rows, py_rows] at z
      injection z with z
      exact rows_inj z
theorem strOk_app {a b : Str} (ha : PyData.strOk a = true) (hb : PyData.strOk b = true) : PyData.strOk (a ++ b) = true := by
  unfold PyData.strOk at *
  show (a.cps ++ b.cps).all _ = true
  rw [Array.all_append, ha, hb]
  rfl
theorem strOk_of (s : String) : PyData.strOk (Str.ofString s) = true := by
  unfold PyData.strOk
  rw [Str.ofString_eq_toList]
  simp only [List.all_toArray, List.all_map, List.all_eq_true, Function.comp_apply, decide_eq_true_eq]
  intro c _
  have h := c.valid
  have : c.toNat = c.val.toNat := rfl
  rcases h with h | ⟨_, h⟩
  · rw [this]; omega
  · rw [this]; exact h
theorem strOk_from : ∀ (ts : List Str) (k : Nat) (acc : Str), PyData.strOk acc = true → (∀ t ∈ ts, PyData.strOk t = true) → PyData.strOk (textFrom k acc ts) = true
  | [], _, _, h, _ => h
  | t :: ts, k, acc, h, h' => by
    rw [textFrom]
    refine strOk_from ts (k + 1) _ ?_ fun x hx => h' x (List.mem_cons_of_mem _ hx)
    exact strOk_app (strOk_app h (strOk_of _)) (h' t (List.mem_cons_self ..))
theorem strOk_list {ts : List Str} (h : ∀ t ∈ ts, PyData.strOk t = true) : PyData.strOk (listText ts) = true := by
  unfold listText
  exact strOk_app (strOk_from ts 0 _ (strOk_of _) h) (strOk_of _)
theorem shownAll_map (xs : List PyData) : PyData.shownAll xs = xs.map PyData.shown := by
  induction xs with
  | nil => rfl
  | cons x xs ih => rw [PyData.shownAll, ih]; rfl
theorem strOk_rows (rs : List (List Int)) : PyData.strOk (PyData.list (rs.map fun r => .list (r.map .int))).shown = true := by
  rw [PyData.shown, shownAll_map]
  refine strOk_list fun t ht => ?_
  rw [List.map_map] at ht
  obtain ⟨r, _, rfl⟩ := List.mem_map.mp ht
  show PyData.strOk (PyData.list (r.map .int)).shown = true
  rw [PyData.shown, shownAll_map]
  refine strOk_list fun t ht => ?_
  rw [List.map_map] at ht
  obtain ⟨i, _, rfl⟩ := List.mem_map.mp ht
  show PyData.strOk (PyData.int i).shown = true
  rw [PyData.shown]
  exact strOk_of _
end Ku

namespace Ku
open PySem PySem.Spec PyProof.Rows L2 Bx
mutual
theorem hasDict_nob : ∀ d : PyData, nob d = true → d.hasDict = false
  | .int _, _ => rfl
  | .str _, _ => rfl
  | .list xs, h => hasDict_nobs xs (by simpa only [nob] using h)
  | .tuple xs, h => hasDict_nobs xs (by simpa only [nob] using h)
  | .none, h => by simp [nob] at h
  | .bool _, h => by simp [nob] at h
  | .dict _, h => by simp [nob] at h
theorem hasDict_nobs : ∀ d : List PyData, nobs d = true → PyData.hasDictAll d = false
  | [], _ => rfl
  | x :: xs, h => by
    simp only [nobs, Bool.and_eq_true] at h
    rw [PyData.hasDictAll, hasDict_nob x h.1, hasDict_nobs xs h.2]
    rfl
end
theorem log2_small {n : Nat} (h : n < 10 ^ 12) : n.log2 < 1920 := by
  by_cases z : n = 0
  · subst z; decide
  · rw [Nat.log2_lt z]
    exact Nat.lt_of_lt_of_le h (Nat.le_trans (by decide : 10 ^ 12 ≤ 2 ^ 40) (Nat.pow_le_pow_right (by decide) (by decide)))
theorem short_ints (r : List Int) (h : ∀ x ∈ r, x.natAbs < 10 ^ 12) : PyData.leavesShortAll 13 (r.map .int) = true ∧ PyData.showableAll (r.map .int) = true ∧ PyData.bulkAll (r.map .int) = r.length := by
  induction r with
  | nil => exact ⟨rfl, rfl, rfl⟩
  | cons x xs ih =>
    obtain ⟨a, b, c⟩ := ih fun y hy => h y (List.mem_cons_of_mem _ hy)
    have hx := h x (List.mem_cons_self ..)
    refine ⟨?_, ?_, ?_⟩
    · rw [List.map_cons, PyData.leavesShortAll, a, PyData.leavesShort, decide_eq_true (PyData.shown_int_le hx)]
      rfl
    · rw [List.map_cons, PyData.showableAll, b, PyData.showable, decide_eq_true (log2_small hx)]
      rfl
    · rw [List.map_cons, PyData.bulkAll, c, PyData.bulk, List.length_cons]
      omega
theorem short_rows (rs : List (List Int)) (h : ∀ r ∈ rs, ∀ x ∈ r, x.natAbs < 10 ^ 12) : PyData.leavesShortAll 13 (rs.map fun r => .list (r.map .int)) = true ∧ PyData.showableAll (rs.map fun r => .list (r.map .int)) = true ∧
    PyData.bulkAll (rs.map fun r => .list (r.map .int)) = (rs.map fun r => r.length + 1).sum := by
  induction rs with
  | nil => exact ⟨rfl, rfl, rfl⟩
  | cons r rs ih =>
    obtain ⟨a, b, c⟩ := ih fun y hy => h y (List.mem_cons_of_mem _ hy)
    obtain ⟨a', b', c'⟩ := short_ints r (h r (List.mem_cons_self ..))
    refine ⟨?_, ?_, ?_⟩
    · rw [List.map_cons, PyData.leavesShortAll, a, PyData.leavesShort, a']
      rfl
    · rw [List.map_cons, PyData.showableAll, b, PyData.showable, b']
      rfl
    · rw [List.map_cons, PyData.bulkAll, c, PyData.bulk, c', List.map_cons, List.sum_cons]
theorem str_rows (f h : Fl) (rs : List (List Int)) (hx : ∀ r ∈ rs, ∀ x ∈ r, x.natAbs < 10 ^ 12) (hb : (rs.map fun r => r.length + 1).sum ≤ 60000) :
    biD .str [.nd f .lst (rs.map (rowD h))] = some (.str (PyData.list (rs.map fun r => .list (r.map .int))).shown) := by
  obtain ⟨a, b, c⟩ := short_rows rs hx
  obtain ⟨n1, n2, n3, n4⟩ := niceRows .own h rs
  have hs : showB (.nd .own .lst (rs.map (rowD h))) = true := by
    unfold showB
    rw [n1, hasDict_nob _ n4, decide_eq_true (Nat.le_trans n3 (by decide)), py_rows]
    have e1 : (PyData.list (rs.map fun r => .list (r.map .int))).showable = true := b
    have e2 := PyData.shown_le_bulk 13 (by decide) (PyData.list (rs.map fun r => .list (r.map .int))) (by rw [PyData.leavesShort]; exact a)
    have e3 : (PyData.list (rs.map fun r => .list (r.map .int))).bulk = (rs.map fun r => r.length + 1).sum := c
    rw [e3] at e2
    rw [e1]
    show (true && true && !false && true && okn _) = true
    unfold okn
    rw [decide_eq_true (by omega)]
    rfl
  show (if showB (.nd .own .lst (rs.map (rowD h))) = true then some (D.str (D.nd .own .lst (rs.map (rowD h))).py.shown) else none) = _
  rw [if_pos hs, py_rows]
theorem cmp_strs {a : Str} (h : PyData.strOk a = true) : cmpD .eq (.str a) (.str a) = some true ∧ cmpD .ne (.str a) (.str a) = some false := cmp_same (niceS h) (niceS h) rfl
/-! ### what stands behind passes, more of it -/
theorem thru_from (ls : List Int) : ∀ (xs : List (List Str × List Int)) (acc : List (List Int)) (now : List Int), xs.foldl (thruS ls) (acc, now) = (acc ++ (xs.foldl (thruS ls) ([], now)).1, (xs.foldl (thruS ls) ([], now)).2)
  | [], acc, now => by simp
  | x :: xs, acc, now => by
    rw [List.foldl_cons, List.foldl_cons]
    show xs.foldl (thruS ls) (acc ++ [_], _) = (acc ++ (xs.foldl (thruS ls) ([] ++ [_], _)).1, _)
    rw [thru_from ls xs (acc ++ _), thru_from ls xs ([] ++ _)]
    simp [thruS]
    exact (congrArg Prod.snd (thru_from ls xs [behind x.1 (bo ls x.2) now] (behind x.1 (bo ls x.2) now))).symm
theorem thru_cons (ls : List Int) (x : List Str × List Int) (xs : List (List Str × List Int)) : (thru ls (x :: xs)).1 = behind x.1 (bo ls x.2) ls :: (xs.foldl (thruS ls) ([], behind x.1 (bo ls x.2) ls)).1 := by
  unfold thru
  rw [List.foldl_cons]
  show (xs.foldl (thruS ls) ([] ++ [_], _)).1 = _
  rw [thru_from]
  rfl
theorem thru_last (ls : List Int) : ∀ (n : Nat) (xs : List (List Str × List Int)), xs.length = n → (ls :: (thru ls xs).1).getLast? = some (thru ls xs).2
  | 0, [], _ => rfl
  | n + 1, xs, hx => by
    have hne : xs ≠ [] := fun z => by rw [z] at hx; cases hx
    obtain ⟨ys, y, rfl⟩ : ∃ ys y, xs = ys ++ [y] := ⟨xs.dropLast, xs.getLast hne, (List.dropLast_concat_getLast hne).symm⟩
    rw [thru_snoc]
    show (ls :: ((thru ls ys).1 ++ [_])).getLast? = _
    rw [← List.cons_append, List.getLast?_concat]
    rfl
theorem bo_zero (ls : List Int) (n : Nat) (l : Int) : bo ls (List.replicate n 0) l = 0 := by
  unfold bo
  by_cases h : ls.idxOf l < n
  · simp [List.getD_eq_getElem?_getD, h]
  · have : ¬ ls.idxOf l < (List.replicate n (0 : Int)).length := by simpa using h
    simp [List.getD_eq_getElem?_getD, List.getElem?_eq_none (Nat.le_of_not_lt this)]
theorem behind_one (k : Str) (f : Int → Nat) (now : List Int) (h : ∀ l, f l = 0) : behind [k] f now = turnk k now := by
  unfold behind
  have : (now.filter fun l => f l = 0) = now := List.filter_eq_self.mpr fun l _ => by simp [h l]
  simp [this]
theorem fits_zero {m : Nat} (k : Str) : fits m [k] (List.replicate m 0) := ⟨by simp, fun v hv => by
  rw [List.eq_of_mem_replicate hv]
  simp⟩
theorem Plan.len {m : Nat} {ps : List (List Str)} {rs : List (List Int)} (h : Plan m ps rs) : rs.length = ps.length := h.zip.1
theorem Plan.put {m : Nat} {p : List Str} {r : List Int} : ∀ {ps : List (List Str)} {rs : List (List Int)} (i : Nat), Plan m ps rs → fits m p r → Plan m (ps.set i p) (rs.set i r)
  | [], [], _, _, _ => trivial
  | q :: ps, s :: rs, 0, h, h' => ⟨h', h.2⟩
  | q :: ps, s :: rs, i + 1, h, h' => ⟨h.1, Plan.put i h.2 h'⟩
  | [], _ :: _, _, h, _ => h.elim
  | _ :: _, [], _, h, _ => h.elim
end Ku

namespace Ku
open PySem PySem.Spec PyProof.Rows L2 Bx
mutual
theorem bo_sh : ∀ d : D, d.bo.sh = d.sh
  | .non => rfl
  | .any => rfl
  | .bl _ => rfl
  | .int _ => rfl
  | .str _ => rfl
  | .scr _ => rfl
  | .tup ds => by rw [D.bo, D.sh, D.sh, bos_shs ds]
  | .nd f t ds => by rw [D.bo, D.sh, D.sh, bos_shs ds]
theorem bos_shs : ∀ ds : List D, D.shs (D.bos ds) = D.shs ds
  | [] => rfl
  | d :: ds => by rw [D.bos, D.shs, D.shs, bo_sh d, bos_shs ds]
end
@[simp] theorem boSh (d : D) : d.bo.sh = d.sh := bo_sh d
mutual
theorem sh_bo : ∀ d : D, d.sh.bo = d.sh
  | .non => rfl
  | .any => rfl
  | .bl _ => rfl
  | .int _ => rfl
  | .str _ => rfl
  | .scr _ => rfl
  | .tup ds => by rw [D.sh, D.bo, shs_bos ds]
  | .nd f t ds => by rw [D.sh, D.bo, shs_bos ds]; rfl
theorem shs_bos : ∀ ds : List D, D.bos (D.shs ds) = D.shs ds
  | [] => rfl
  | d :: ds => by rw [D.shs, D.bos, sh_bo d, shs_bos ds]
end
@[simp] theorem shBo (d : D) : d.sh.bo = d.sh := sh_bo d
@[simp] theorem boR (r : List Int) : (rowD .shr r).bo = rowD .shr r := by have := sh_bo (rowD .shr r); rwa [shR] at this
@[simp] theorem boB (r : List Str) : (boxD .shr r).bo = boxD .shr r := by have := sh_bo (boxD .shr r); rwa [shB] at this
@[simp] theorem boP (r : List (List Str)) : (passD .shr r).bo = passD .shr r := by have := sh_bo (passD .shr r); rwa [shP] at this
@[simp] theorem boL (r : List (List Int)) : (planD .shr r).bo = planD .shr r := by have := sh_bo (planD .shr r); rwa [shL] at this
@[simp] theorem boD (r s : List Int) : (dctD .shr r s).bo = dctD .shr r s := by have := sh_bo (dctD .shr r s); rwa [shD] at this
@[simp] theorem tyBo (d : D) : d.bo.tyN = d.tyN := by
  cases d with
  | nd f t ds => cases t <;> rfl
  | _ => rfl
@[simp] theorem iaBo (d : D) : d.bo.isAny = d.isAny := by cases d <;> rfl
@[simp] theorem tySh (d : D) : d.sh.tyN = d.tyN := by
  cases d with
  | nd f t ds => cases t <;> rfl
  | _ => rfl
@[simp] theorem iaSh (d : D) : d.sh.isAny = d.isAny := by cases d <;> rfl
@[simp] theorem sbR (r : List Int) : (rowD .own r).sb = rowD .own r := by
  have : D.sbs (r.map D.int) = r.map D.int := by
    rw [sbs_map, List.map_map]
    rfl
  rw [rowD, D.sb, this]
  rfl
@[simp] theorem sbL (r : List (List Int)) : (planD .own r).sb = planD .own r := by
  have : D.sbs (r.map (rowD .own)) = r.map (rowD .own) := by
    rw [sbs_map, List.map_map]
    exact List.map_congr_left fun x _ => sbR x
  rw [planD, D.sb, this]
  rfl
theorem app_all (v : Int) (rows : List (List Int)) (h : ∀ r ∈ rows, r.length < 1000000) : appAll v (rows.map (rowD .own)) = some ((rows.map fun r => r ++ [v]).map (rowD .own)) := by
  induction rows with
  | nil => rfl
  | cons r rows ih =>
    have e : appAll v ((r :: rows).map (rowD .own)) = if okn (r.map D.int).length = true then (appAll v (rows.map (rowD .own))).map (.nd .own .lst (r.map D.int ++ [.int v]) :: ·) else none := rfl
    rw [e, ih fun x hx => h x (List.mem_cons_of_mem _ hx), if_pos (by simp [okn, h r (List.mem_cons_self ..)])]
    simp [rowD]
/-- rows that letters give: how they are shown -/
theorem str_perm {ls : List Int} (hls : Letters ls) (f h : Fl) (rows : List (List Int)) (hr : ∀ r ∈ rows, r.Perm ls) (hl : rows.length ≤ 2000) : biD .str [.nd f .lst (rows.map (rowD h))] = some (.str (PyData.list (rows.map fun r => .list (r.map .int))).shown) := by
  refine str_rows f h rows (fun r hr' x hx => ?_) ?_
  · have := hls.2.2.2 x ((hr r hr').mem_iff.mp hx)
    omega
  · have : ∀ (rows : List (List Int)), (∀ r ∈ rows, r.Perm ls) → (rows.map fun r => r.length + 1).sum ≤ rows.length * 25 := by
      intro rows
      induction rows with
      | nil => intro _; simp
      | cons r rows ih =>
        intro h
        have a := ih fun x hx => h x (List.mem_cons_of_mem _ hx)
        have b := (h r (List.mem_cons_self ..)).length_eq
        have c := hls.2.1
        simp only [List.map_cons, List.sum_cons, List.length_cons]
        omega
    have := this rows hr
    omega
abbrev S1 : List Nat := [0, 1, 2, 3, 4, 5, 6, 7, 8, 9, 10]
theorem set_ord {T : Tab} (B : Hs T S1) (G : Glo T) (n : Nat) {f : Fl} {v0 v1 v2 v3 v4 v8 v9 v10 : D} (ls : List Int) (hls : Letters ls) (ps : List (List Str)) (rs : List (List Int)) (hp4 : ps.length ≤ 4) (hp : ∀ p ∈ ps, Box p) (hpl : Plan ls.length ps rs) :
    evS (T.cx (callD T (n + 5))) 0 (.set 9 (.call 10 (.cons (.var 5 .s) (.cons (.var 6 .b) (.cons (.var 7 .b) .nil))))) [v0, v1, v2, v3, v4, rowD f ls, passD .own ps, planD .own rs, v8, v9, v10] =
      .nx [v0, v1, v2, v3, v4, rowD .shr ls, passD .own ps, planD .own rs, v8, planD .own (thru ls (ps.zip rs)).1, v10] := by
  obtain ⟨o, h⟩ := e10 B G n ls hls ps rs hp4 hp hpl
  simp [evS, evE, evA, evI, evP, Rs.so, Rs.bind, ensure, E.imp, readV, D.sh, D.shs, D.nb, D.nbs, lentIf, Rs.of, So.of, So.ens, asgT, setAny, okn, optB, E.isNop, opD, isD, tyS, isTab, D.getp, D.setp, mmD, nbs_app, h]
theorem t20 {T : Tab} (B : Hs T [0, 1, 2, 3, 4, 5, 6, 7, 8, 9, 10, 18]) (G : Glo T) (n : Nat) {f : Fl} {v0 v1 v8 v9 v10 : D} (ls : List Int) (hls : Letters ls) (ps : List (List Str)) (rs : List (List Int)) (hp4 : ps.length ≤ 4) (hp : ∀ p ∈ ps, Box p) (hpl : Plan ls.length ps rs) :
    ∃ w9 w10, evS (T.cx (callD T (n + 5))) 0 b20_0 [v0, v1, rowD .shr ls, passD .shr ps, planD .shr rs, rowD f ls, passD .own ps, planD .own rs, v8, v9, v10] =
      .nx [v0, v1, rowD .shr ls, passD .shr ps, planD .shr rs, rowD .shr ls, passD .own ps, planD .own rs, v8, w9, w10] := by
  obtain ⟨hz, hf⟩ := hpl.zip
  obtain ⟨t1, t2, t3⟩ := thru_perm rfl _ (ps.zip rs) rfl fun x hx => ⟨hf x hx, (hp _ (List.of_mem_zip (show (x.1, x.2) ∈ ps.zip rs from hx)).1).1⟩
  obtain ⟨o18, h18⟩ := e18 (T := T) (B.sub rfl) (n + 4) ls hls.2.2.1 (by have := hls.2.1; omega) ps rs (by omega) hp hpl
  have hrl : (thru ls (ps.zip rs)).1.length ≤ 4 := by
    rw [t2, List.length_zip]
    omega
  have h1 := set_ord (B.sub rfl) G n (f := f) (v0 := v0) (v1 := v1) (v2 := rowD .shr ls) (v3 := passD .shr ps) (v4 := planD .shr rs) (v8 := v8) (v9 := v9) (v10 := v10) ls hls ps rs hp4 hp hpl
  generalize (thru ls (ps.zip rs)).1 = rows at h1 h18 hrl t3
  have hs1 := str_perm hls .shr .shr rows t3 (by omega)
  have hs2 := str_perm hls .own .shr rows t3 (by omega)
  have hs1' : biD .str [planD .shr rows] = _ := hs1
  have hne := (cmp_strs (strOk_rows rows)).2
  have hc3 : cmpD .ne (.nd .own .lst [rowD .shr ls, passD .shr ps, planD .shr rs]) (.nd .own .lst [rowD .shr ls, passD .shr ps, planD .shr rs]) = some false := by
    have hn : Nice 3 (.nd .own .lst [rowD .shr ls, passD .shr ps, planD .shr rs]) := niceN fun d hd => by
      simp only [List.mem_cons, List.not_mem_nil, or_false] at hd
      rcases hd with rfl | rfl | rfl
      · exact niceUp (niceRow .shr ls) (by decide)
      · exact nicePass .shr ps hp
      · exact nicePlan .shr rs
    exact (cmp_same hn hn rfl).2
  refine ⟨.nd .own .lst ((rows.map fun r => r ++ [99]).map (rowD .own) ++ [.nd .own .lst []]), .any, (seq_nx h1).trans ((seq_nx (g1 := [v0, v1, rowD .shr ls, passD .shr ps, planD .shr rs, rowD .shr ls, passD .own ps, planD .own rs, v8, planD .own rows, v10]) ?_).trans ((seq_nx (g1 := [v0, v1, rowD .shr ls, passD .shr ps, planD .shr rs, rowD .shr ls, passD .own ps, planD .own rs, v8, planD .own rows, v10]) ?_).trans ((seq_nx (g1 := [v0, v1, rowD .shr ls, passD .shr ps, planD .shr rs, rowD .shr ls, passD .own ps, planD .own rs, v8, planD .own rows, v10]) ?_).trans ((seq_nx (g1 := [v0, v1, rowD .shr ls, passD .shr ps, planD .shr rs, rowD .shr ls, passD .own ps, planD .own rs, v8, planD .own (rows.map fun r => r ++ [99]), .any]) ?_).trans ?_))))⟩
  · simp [evS, evE, evA, evI, evP, Rs.so, Rs.bind, ensure, E.imp, readV, D.sh, D.shs, D.nb, D.nbs, lentIf, Rs.of, So.of, So.ens, asgT, setAny, okn, optB, E.isNop, opD, isD, tyS, isTab, D.getp, D.setp, mmD, nbs_app, D.flat, hs1', hs2, h18, hne]
  · simp [evS, evE, evA, evI, evP, Rs.so, Rs.bind, ensure, E.imp, readV, D.sh, D.shs, D.nb, D.nbs, lentIf, Rs.of, So.of, So.ens, asgT, setAny, okn, optB, E.isNop, opD, isD, tyS, isTab, D.getp, D.setp, mmD, nbs_app, D.flat, hc3]
  · have hc : evE (T.cx (callD T (n + 5))) 0 (.bi .all (.cons (.comp (.isi (.var 10 .b) .lst) .nop (.nm 10) (.src (.var 9 .b)) [10]) .nil)) [v0.sh, v1.sh, rowD .shr ls, passD .shr ps, planD .shr rs, rowD .shr ls, passD .shr ps, planD .shr rs, v8.sh, planD .shr rows, v10.sh] =
        .ok (.bl true) [v0.sh, v1.sh, rowD .shr ls, passD .shr ps, planD .shr rs, rowD .shr ls, passD .shr ps, planD .shr rs, v8.sh, planD .shr rows, .any] := by
      refine all_true (xs := rows) (enc := rowD .shr) (g1 := [v0.sh, v1.sh, rowD .shr ls, passD .shr ps, planD .shr rs, rowD .shr ls, passD .shr ps, planD .shr rs, v8.sh, planD .shr rows, v10.sh]) (ks := [planD .shr rows]) rfl ?_ (by omega) fun x hx => ?_
      · simp [evI, evE, Rs.bind, ensure, readV, Rs.of]
      · have hty : (rowD .shr x).bo.tyN = some "list" := rfl
        simp [turnC, evS, evE, evA, evI, evP, Rs.so, Rs.bind, ensure, E.imp, readV, D.sh, D.shs, D.nb, D.nbs, lentIf, Rs.of, So.of, So.ens, asgT, setAny, okn, optB, E.isNop, opD, isD, tyS, isTab, D.getp, D.setp, mmD, nbs_app, hty]
    generalize hE : E.bi .all (.cons (.comp (.isi (.var 10 .b) .lst) .nop (.nm 10) (.src (.var 9 .b)) [10]) .nil) = A at hc
    have hA : A.imp = false := by rw [← hE]; rfl
    simp [evS, evE, evA, evI, evP, Rs.so, Rs.bind, ensure, E.imp, readV, D.sh, D.shs, D.nb, D.nbs, lentIf, Rs.of, So.of, So.ens, asgT, setAny, okn, optB, E.isNop, opD, isD, tyS, isTab, D.getp, D.setp, mmD, nbs_app, D.flat, hE, hc, hA]
  · have ha := app_all 99 rows fun r hr => by
      rw [(t3 r hr).length_eq]
      have := hls.2.1
      omega
    have hg : evS (T.cx (callD T (n + 5))) 0 (.fapp 10 9 99) [v0, v1, rowD .shr ls, passD .shr ps, planD .shr rs, rowD .shr ls, passD .own ps, planD .own rs, v8, .nd .own .lst (rows.map (rowD .own)), v10] = .nx [v0, v1, rowD .shr ls, passD .shr ps, planD .shr rs, rowD .shr ls, passD .own ps, planD .own rs, v8, .nd .own .lst ((rows.map fun r => r ++ [99]).map (rowD .own)), .any] := by
      simp only [evS]
      show (match appAll 99 (rows.map (rowD .own)) with
        | some es => _
        | none => _) = _
      rw [ha]
      rfl
    exact hg
  · have hz : rows.length < 1000000 := by omega
    show evS (T.cx (callD T (n + 5))) 0 (.cons (.ex (.mut (.var 9 .b) .append (.cons (.lst .nil) .nil))) .nil) [v0, v1, rowD .shr ls, passD .shr ps, planD .shr rs, rowD .shr ls, passD .own ps, planD .own rs, v8, .nd .own .lst ((rows.map fun r => r ++ [99]).map (rowD .own)), .any] = _
    generalize hq : (rows.map fun r => r ++ [99]) = rows'
    have hz' : rows'.length < 1000000 := by rw [← hq]; simpa using hz
    simp [evS, evE, evA, evI, evP, Rs.so, Rs.bind, ensure, E.imp, readV, D.sh, D.shs, D.nb, D.nbs, lentIf, Rs.of, So.of, So.ens, asgT, setAny, okn, optB, E.isNop, opD, isD, tyS, isTab, D.getp, D.setp, mmD, nbs_app, hz']
end Ku

namespace Ku
open PySem PySem.Spec PyProof.Rows L2 Bx
theorem ixD_neg {n k : Nat} (h : k < n) : ixD n (-((k : Int) + 1)) = some (n - 1 - k) := by
  unfold ixD ixN
  rw [if_neg (by omega)]
  have e : (-((k : Int) + 1) + n).toNat = n - 1 - k := by omega
  first
    | (rw [if_pos (by omega)]; congr 1; omega)
    | (simp; omega)
theorem sub_neg1 {f : Fl} {x : D} {xs : List D} : subD (.nd f .lst (xs ++ [x])) (.int (-1)) = some x := by
  show (ixD (xs ++ [x]).length (-1)).bind (fun j => (xs ++ [x])[j]?) = _
  rw [show (-1 : Int) = -(((0 : Nat) : Int) + 1) by rfl, ixD_neg (by simp)]
  simp
theorem sub_neg2 {f : Fl} {x y : D} {xs : List D} : subD (.nd f .lst (xs ++ [y, x])) (.int (-2)) = some y := by
  show (ixD (xs ++ [y, x]).length (-2)).bind (fun j => (xs ++ [y, x])[j]?) = _
  rw [show (-2 : Int) = -(((1 : Nat) : Int) + 1) by rfl, ixD_neg (by simp)]
  simp
theorem sub_zero {f : Fl} {x : D} {xs : List D} : subD (.nd f .lst (x :: xs)) (.int 0) = some x := by
  show (ixD (x :: xs).length 0).bind (fun j => (x :: xs)[j]?) = _
  rw [show (0 : Int) = ((0 : Nat) : Int) by rfl, ixD_nat (by simp)]
  rfl
/-- the last pass one pile, the first one line -/
theorem thru_pile {ls : List Int} {ps : List (List Str)} {rs : List (List Int)} (hz : rs.length = ps.length) (hne : ps ≠ []) {m : Nat} : ∃ A B now, (thru ls ((ps.set (ps.length - 1) ["pile"]).zip (rs.set (ps.length - 1) (List.replicate m 0)))).1 = A ++ [now.reverse] ∧
    ls :: (thru ls ((ps.set (ps.length - 1) ["pile"]).zip (rs.set (ps.length - 1) (List.replicate m 0)))).1 = B ++ [now, now.reverse] := by
  have hl : 0 < ps.length := List.length_pos_iff.mpr hne
  generalize hxs : (ps.set (ps.length - 1) ["pile"]).zip (rs.set (ps.length - 1) (List.replicate m 0)) = xs
  have hlen : xs.length = ps.length := by rw [← hxs]; simp [hz]
  have hne2 : xs ≠ [] := fun z => by rw [z] at hlen; simp at hlen; omega
  have hlast : xs.getLast hne2 = ((["pile"] : List Str), List.replicate m (0 : Int)) := by
    rw [List.getLast_eq_getElem]
    subst hxs
    simp [hz]
  obtain ⟨ys, rfl⟩ : ∃ ys, xs = ys ++ [((["pile"] : List Str), List.replicate m (0 : Int))] := ⟨xs.dropLast, by rw [← hlast]; exact (List.dropLast_concat_getLast hne2).symm⟩
  rw [thru_snoc]
  have h1 := thru_last ls _ ys rfl
  obtain ⟨B, hB⟩ := List.getLast?_eq_some_iff.mp h1
  have e : behind ["pile"] (bo ls (List.replicate m 0)) (thru ls ys).2 = (thru ls ys).2.reverse := by
    rw [behind_one _ _ _ (bo_zero ls m)]
    rfl
  refine ⟨(thru ls ys).1, B, (thru ls ys).2, ?_, ?_⟩
  · show (thru ls ys).1 ++ [behind ["pile"] (bo ls (List.replicate m 0)) (thru ls ys).2] = _
    rw [e]
  · show ls :: ((thru ls ys).1 ++ [behind ["pile"] (bo ls (List.replicate m 0)) (thru ls ys).2]) = _
    rw [e, ← List.cons_append, hB]
    simp
theorem thru_line {ls : List Int} {ps : List (List Str)} {rs : List (List Int)} (hz : rs.length = ps.length) (hne : ps ≠ []) {m : Nat} : ∃ A, (thru ls ((ps.set 0 ["line"]).zip (rs.set 0 (List.replicate m 0)))).1 = ls :: A := by
  cases ps with
  | nil => exact absurd rfl hne
  | cons p ps =>
    cases rs with
    | nil => simp at hz
    | cons r rs =>
      have e := thru_cons ls ((["line"] : List Str), List.replicate m (0 : Int)) (ps.zip rs)
      rw [show behind (([("line" : Str)] : List Str), List.replicate m (0 : Int)).1 (bo ls (([("line" : Str)] : List Str), List.replicate m (0 : Int)).2) ls = ls from behind_one _ _ _ (bo_zero ls m)] at e
      exact ⟨_, e⟩
theorem box_one {k : Str} (h : kindOk k) : Box [k] := ⟨by simp, by simp, fun s hs => by rw [List.mem_singleton.mp hs]; exact h⟩
theorem set_all {p : List Str} {ps : List (List Str)} {i : Nat} (h : ∀ q ∈ ps, Box q) (hp : Box p) : ∀ q ∈ ps.set i p, Box q := fun q hq => by
  rcases List.mem_or_eq_of_mem_set hq with z | z
  · exact h q z
  · exact z ▸ hp
theorem zeros {C : Cxt} {nf : Nat} {v0 v1 : D} {ls : List Int} {r : List D} (hl : ls.length ≤ 24) : evE C nf (.op .mul (.lst (.cons (.int 0) .nil)) (.bi .len (.cons (.var 2 .s) .nil))) (v0 :: v1 :: rowD .shr ls :: r) = .ok (rowD .own (List.replicate ls.length 0)) (v0 :: v1 :: rowD .shr ls :: r) := by
  have h1 : (ls.length : Nat) < 1000000 := by omega
  have h2 : (-1152921504606846976 : Int) < (ls.length : Nat) := by omega
  have h3 : ((ls.length : Nat) : Int) < 1152921504606846976 := by omega
  simp [evS, evE, evA, evI, evP, Rs.so, Rs.bind, ensure, E.imp, readV, D.sh, D.shs, D.nb, D.nbs, lentIf, Rs.of, So.of, So.ens, asgT, setAny, okn, optB, E.isNop, opD, isD, tyS, isTab, D.getp, D.setp, mmD, nbs_app, h1, h2, h3, D.uns, D.un, rowD, shs_ints]
theorem six_pass {C : Cxt} {v0 v1 v2 v3 v4 v5 v7 v8 v9 v10 : D} {ps : List (List Str)} {i : Int} {j : Nat} {k : E} {s : Str} (hk : k.imp = false) (he : ∀ g, evE C 0 k g = .ok (.int i) g) (hj : ixD ps.length i = some j) :
    evS C 0 (.six (.var 6 .b) k (.lst (.cons (.str s) .nil))) [v0, v1, v2, v3, v4, v5, passD .own ps, v7, v8, v9, v10] = .nx [v0, v1, v2, v3, v4, v5, passD .own (ps.set j [s]), v7, v8, v9, v10] := by
  have h6 : D.nd .own .lst [.str s] = boxD .own [s] := rfl
  simp [evS, evE, evA, evI, evP, Rs.so, Rs.bind, ensure, E.imp, readV, D.sh, D.shs, D.nb, D.nbs, lentIf, Rs.of, So.of, So.ens, asgT, setAny, okn, optB, E.isNop, opD, isD, tyS, isTab, D.getp, D.setp, mmD, nbs_app, hk, he, hj, passD, List.map_set, h6]
theorem six_plan {C : Cxt} {v0 v1 v3 v4 v5 v6 v8 v9 v10 : D} {rs : List (List Int)} {ls : List Int} {i : Int} {j : Nat} {k : E} (hl : ls.length ≤ 24) (hk : k.imp = false) (he : ∀ g, evE C 0 k g = .ok (.int i) g) (hj : ixD rs.length i = some j) :
    evS C 0 (.six (.var 7 .b) k (.op .mul (.lst (.cons (.int 0) .nil)) (.bi .len (.cons (.var 2 .s) .nil)))) [v0, v1, rowD .shr ls, v3, v4, v5, v6, planD .own rs, v8, v9, v10] = .nx [v0, v1, rowD .shr ls, v3, v4, v5, v6, planD .own (rs.set j (List.replicate ls.length 0)), v8, v9, v10] := by
  have h0 := zeros (C := C) (nf := 0) (v0 := v0) (v1 := v1) (r := [v3, v4, v5, v6, planD .own rs, v8, v9, v10]) hl
  simp only [evS, h0, Rs.so]
  simp [evE, evP, Rs.so, ensure, So.ens, hk, he, hj, planD, List.map_set, D.getp, D.setp]
theorem t20p {T : Tab} (B : Hs T S1) (G : Glo T) (n : Nat) {f : Fl} {v0 v1 v3 v4 v8 v9 v10 : D} (ls : List Int) (hls : Letters ls) (ps : List (List Str)) (rs : List (List Int)) (hp4 : ps.length ≤ 4) (hp : ∀ p ∈ ps, Box p) (hpl : Plan ls.length ps rs) (hne : ps ≠ []) :
    ∃ w5 w6 w7 w9, evS (T.cx (callD T (n + 5))) 0 b20_1 [v0, v1, rowD .shr ls, v3, v4, rowD f ls, passD .own ps, planD .own rs, v8, v9, v10] =
      .nx [v0, v1, rowD .shr ls, v3, v4, w5, w6, w7, v8, w9, v10] := by
  have hz := hpl.len
  have hl : 0 < ps.length := List.length_pos_iff.mpr hne
  have j1 : ixD ps.length (-1) = some (ps.length - 1) := by
    have := ixD_neg (n := ps.length) (k := 0) hl
    simpa using this
  have hn1 : ∀ g, evE (T.cx (callD T (n + 5))) 0 (.neg (.int 1)) g = .ok (.int (-1)) g := fun g => by simp [evE, Rs.bind]
  have hn0 : ∀ g, evE (T.cx (callD T (n + 5))) 0 (.int 0) g = .ok (.int 0) g := fun g => by simp [evE]
  have pl1 : Plan ls.length (ps.set (ps.length - 1) ["pile"]) (rs.set (ps.length - 1) (List.replicate ls.length 0)) := hpl.put _ (fits_zero _)
  have bp1 := set_all (i := ps.length - 1) hp (box_one (.inr rfl))
  have pl2 : Plan ls.length ((ps.set (ps.length - 1) ["pile"]).set 0 ["line"]) ((rs.set (ps.length - 1) (List.replicate ls.length 0)).set 0 (List.replicate ls.length 0)) := pl1.put _ (fits_zero _)
  have bp2 := set_all (i := 0) bp1 (box_one (.inl rfl))
  obtain ⟨A, A', now, r1, r2⟩ := thru_pile (ls := ls) hz hne (m := ls.length)
  obtain ⟨A2, r3⟩ := thru_line (ls := ls) (ps := ps.set (ps.length - 1) ["pile"]) (rs := rs.set (ps.length - 1) (List.replicate ls.length 0)) (by simp [hz]) (by intro z; apply hne; simpa using z) (m := ls.length)
  have s1 := six_pass (C := T.cx (callD T (n + 5))) (v0 := v0) (v1 := v1) (v2 := rowD .shr ls) (v3 := v3) (v4 := v4) (v5 := rowD f ls) (v7 := planD .own rs) (v8 := v8) (v9 := v9) (v10 := v10) (k := .neg (.int 1)) (s := "pile") rfl hn1 j1
  have s2 := six_plan (C := T.cx (callD T (n + 5))) (v0 := v0) (v1 := v1) (v3 := v3) (v4 := v4) (v5 := rowD f ls) (v6 := passD .own (ps.set (ps.length - 1) ["pile"])) (v8 := v8) (v9 := v9) (v10 := v10) (k := .neg (.int 1)) (rs := rs) hls.2.1 rfl hn1 (by rw [hz]; exact j1)
  have s3 := set_ord B G n (f := f) (v0 := v0) (v1 := v1) (v2 := rowD .shr ls) (v3 := v3) (v4 := v4) (v8 := v8) (v9 := v9) (v10 := v10) ls hls _ _ (by simpa using hp4) bp1 pl1
  obtain ⟨o, h10⟩ := e10 B G n ls hls _ _ (by simpa using hp4) bp2 pl2
  rw [r3] at h10
  have t3 : ((thru ls ((ps.set (ps.length - 1) ["pile"]).zip (rs.set (ps.length - 1) (List.replicate ls.length 0)))).1).length < 1000 := by
    obtain ⟨_, q, _⟩ := thru_perm rfl _ _ rfl fun x hx => ⟨pl1.zip.2 x hx, (bp1 _ (List.of_mem_zip (show (x.1, x.2) ∈ (ps.set (ps.length - 1) ["pile"]).zip (rs.set (ps.length - 1) (List.replicate ls.length 0)) from hx)).1).1⟩
    rw [q, List.length_zip]
    simp
    omega
  generalize (thru ls ((ps.set (ps.length - 1) ["pile"]).zip (rs.set (ps.length - 1) (List.replicate ls.length 0)))).1 = rows at s3 r1 r2 t3
  rw [← hz] at s2
  rw [hz] at s2
  have lp1 : (ps.set (ps.length - 1) ["pile"]).length = ps.length := by simp
  have lp2 : (rs.set (ps.length - 1) (List.replicate ls.length 0)).length = ps.length := by simp [hz]
  generalize ps.set (ps.length - 1) ["pile"] = ps1 at *
  generalize rs.set (ps.length - 1) (List.replicate ls.length 0) = rs1 at *
  have s5 := six_pass (C := T.cx (callD T (n + 5))) (v0 := v0) (v1 := v1) (v2 := rowD .shr ls) (v3 := v3) (v4 := v4) (v5 := rowD .shr ls) (v7 := planD .own rs1) (v8 := v8) (v9 := planD .own rows) (v10 := v10) (k := .int 0) (s := "line") (ps := ps1) (j := 0) rfl hn0 (ixD_nat (k := 0) (by omega))
  have s6 := six_plan (C := T.cx (callD T (n + 5))) (v0 := v0) (v1 := v1) (v3 := v3) (v4 := v4) (v5 := rowD .shr ls) (v6 := passD .own (ps1.set 0 ["line"])) (v8 := v8) (v9 := planD .own rows) (v10 := v10) (k := .int 0) (rs := rs1) (j := 0) hls.2.1 rfl hn0 (ixD_nat (k := 0) (by omega))
  refine ⟨rowD .shr ls, passD .own (ps1.set 0 ["line"]), planD .own (rs1.set 0 (List.replicate ls.length 0)), planD .own rows, (seq_nx s1).trans ((seq_nx s2).trans ((seq_nx s3).trans ((seq_nx (g1 := [v0, v1, rowD .shr ls, v3, v4, rowD .shr ls, passD .own ps1, planD .own rs1, v8, planD .own rows, v10]) ?_).trans ((seq_nx s5).trans ((seq_nx s6).trans ((seq_nx (g1 := [v0, v1, rowD .shr ls, v3, v4, rowD .shr ls, passD .own (ps1.set 0 ["line"]), planD .own (rs1.set 0 (List.replicate ls.length 0)), v8, planD .own rows, v10]) ?_).trans rfl))))))⟩
  · have q1 : subD (planD .shr rows) (.int (-1)) = some (rowD .shr now.reverse) := by
      rw [r1, planD, List.map_append]
      exact sub_neg1
    have q2 : opD .add (.nd .own .lst [rowD .shr ls]) (planD .shr rows) = some (.nd .own .lst ((A' ++ [now, now.reverse]).map (rowD .shr))) := by
      rw [← r2]
      show (if okn ([rowD .shr ls].length + (rows.map (rowD .shr)).length) = true then _ else none) = _
      rw [if_pos (by simp [okn]; omega)]
      rfl
    have q3 : subD (.nd .own .lst ((A' ++ [now, now.reverse]).map (rowD .shr))) (.int (-2)) = some (rowD .shr now) := by
      rw [List.map_append]
      exact sub_neg2
    have q4 : (D.nd .own .lst ((now.reverse).map D.int).reverse) = rowD .own now := by rw [← List.map_reverse, List.reverse_reverse]; rfl
    have q5 := (cmp_row .own .shr now now).2
    have q6 : evE (T.cx (callD T (n + 5))) 0 (.rev (.ix (.var 9 .b) (.neg (.int 1)))) [v0.sh, v1.sh, rowD .shr ls, v3.sh, v4.sh, rowD .shr ls, passD .shr ps1, planD .shr rs1, v8.sh, planD .shr rows, v10.sh] = .ok (rowD .own now) [v0.sh, v1.sh, rowD .shr ls, v3.sh, v4.sh, rowD .shr ls, passD .shr ps1, planD .shr rs1, v8.sh, planD .shr rows, v10.sh] := by
      rw [← q4]
      have : rowD .shr now.reverse = .nd .shr .lst (now.reverse.map D.int) := rfl
      rw [this] at q1
      simp [evE, Rs.bind, ensure, E.imp, readV, Rs.of, q1]
    have q7 : evE (T.cx (callD T (n + 5))) 0 (.ix (.op .add (.lst (.cons (.var 2 .s) .nil)) (.var 9 .b)) (.neg (.int 2))) [v0.sh, v1.sh, rowD .shr ls, v3.sh, v4.sh, rowD .shr ls, passD .shr ps1, planD .shr rs1, v8.sh, planD .shr rows, v10.sh] = .ok (rowD .shr now) [v0.sh, v1.sh, rowD .shr ls, v3.sh, v4.sh, rowD .shr ls, passD .shr ps1, planD .shr rs1, v8.sh, planD .shr rows, v10.sh] := by
      simp only [List.map_append, List.map_cons, List.map_nil] at q2 q3
      simp [evE, evA, Rs.bind, ensure, E.imp, readV, Rs.of, okn, q2, q3]
    generalize hE1 : E.rev (.ix (.var 9 .b) (.neg (.int 1))) = A1 at q6
    generalize hE2 : E.ix (.op .add (.lst (.cons (.var 2 .s) .nil)) (.var 9 .b)) (.neg (.int 2)) = A2' at q7
    have i1 : A1.imp = false := by rw [← hE1]; rfl
    have i2 : A2'.imp = false := by rw [← hE2]; rfl
    simp [evS, evE, evA, evI, evP, Rs.so, Rs.bind, ensure, E.imp, readV, D.sh, D.shs, D.nb, D.nbs, lentIf, Rs.of, So.of, So.ens, asgT, setAny, okn, optB, E.isNop, opD, isD, tyS, isTab, D.getp, D.setp, mmD, nbs_app, D.flat, hE1, hE2, q6, q7, i1, i2, q5]
  · have q1 : subD (planD .own (ls :: A2)) (.int 0) = some (rowD .own ls) := sub_zero
    have q5 := (cmp_row .own .shr ls ls).2
    simp [evS, evE, evA, evI, evP, Rs.so, Rs.bind, ensure, E.imp, readV, D.sh, D.shs, D.nb, D.nbs, lentIf, Rs.of, So.of, So.ens, asgT, setAny, okn, optB, E.isNop, opD, isD, tyS, isTab, D.getp, D.setp, mmD, nbs_app, D.flat, h10, q1, q5]
end Ku

namespace Ku
open PySem PySem.Spec PyProof.Rows L2 Bx
theorem cmp_nil {ps : List (List Str)} (h : ∀ p ∈ ps, Box p) : cmpD .ne (passD .shr ps) (.nd .own .lst []) = some (decide (ps ≠ [])) := by
  have hn : Nice 2 (.nd .own .lst []) := niceN fun _ h => nomatch h
  by_cases e : ps = []
  · subst e
    rw [(cmp_same (nicePass .shr [] h) hn rfl).2]
    simp
  · rw [(cmp_other (nicePass .shr ps h) hn fun z => e ?_).2]
    · simp [e]
    · have : PyData.list (D.pys (ps.map (boxD .shr))) = .list [] := z
      injection this with this
      rw [pys_map] at this
      simpa using this
theorem turned {T : Tab} (B : Hs T S1) (G : Glo T) (n : Nat) (ls : List Int) (hls : Letters ls) : ∃ o, callD T (n + 5) 10 [rowD .shr ls, passD .shr [["pile"], ["pile"]], planD .shr [List.replicate ls.length 0, List.replicate ls.length 0]] = .ok (planD .own [ls.reverse, ls]) o := by
  have hp : ∀ p ∈ ([["pile"], ["pile"]] : List (List Str)), Box p := fun p hp => by
    simp only [List.mem_cons, List.not_mem_nil, or_false, or_self] at hp
    subst hp
    exact box_one (.inr rfl)
  obtain ⟨o, h⟩ := e10 B G n ls hls [["pile"], ["pile"]] [List.replicate ls.length 0, List.replicate ls.length 0] (by decide) hp ⟨fits_zero _, fits_zero _, trivial⟩
  have e : (thru ls (([["pile"], ["pile"]] : List (List Str)).zip [List.replicate ls.length 0, List.replicate ls.length 0])).1 = [ls.reverse, ls] := by
    have z : ∀ now, behind ["pile"] (bo ls (List.replicate ls.length 0)) now = now.reverse := fun now => behind_one _ _ _ (bo_zero ls _)
    simp only [thru, List.zip_cons_cons, List.zip_nil_right, List.foldl_cons, List.foldl_nil, thruS, z, List.reverse_reverse, List.nil_append, List.cons_append]
  rw [e] at h
  exact ⟨o, h⟩
theorem last20 {T : Tab} (B : Hs T S1) (G : Glo T) (n : Nat) {v0 v1 v3 v4 v5 v6 v7 v8 v9 v10 : D} (ls : List Int) (hls : Letters ls) :
    evS (T.cx (callD T (n + 5))) 0 (.ife (.cmp .ne (.call 10 (.cons (.var 2 .s) (.cons (.lst (.cons (.lst (.cons (.str "pile") .nil)) (.cons (.lst (.cons (.str "pile") .nil)) .nil))) (.cons (.op .mul (.lst (.cons (.op .mul (.lst (.cons (.int 0) .nil)) (.bi .len (.cons (.var 2 .s) .nil))) .nil)) (.int 2)) .nil)))) (.lst (.cons (.rev (.var 2 .s)) (.cons (.var 2 .s) .nil)))) (.cons (.ret (.bl false)) .nil) .nil) [v0, v1, rowD .shr ls, v3, v4, v5, v6, v7, v8, v9, v10] =
      .nx [v0, v1, rowD .shr ls, v3, v4, v5, v6, v7, v8, v9, v10] := by
  obtain ⟨o, h⟩ := turned B G n ls hls
  have hz := zeros (C := T.cx (callD T (n + 5))) (nf := 0) (v0 := v0) (v1 := v1) (r := [v3, v4, v5, v6, v7, v8, v9, v10]) hls.2.1
  generalize hzz : List.replicate ls.length (0 : Int) = z at h hz
  have hu : (rowD .own z).un = rowD .shr z := by
    unfold rowD
    rw [D.un, uns_ints]
    rfl
  have h' : callD T (n + 5) 10 [rowD .shr ls, .nd .shr .lst [.nd .shr .lst [.str "pile"], .nd .shr .lst [.str "pile"]], .nd .shr .lst [rowD .shr z, rowD .shr z]] = .ok (planD .own [ls.reverse, ls]) o := h
  have hc : cmpD .ne (planD .own [ls.reverse, ls]) (.nd .own .lst [rowD .own ls.reverse, rowD .shr ls]) = some false := by
    have hn : Nice 2 (.nd .own .lst [rowD .own ls.reverse, rowD .shr ls]) := niceN fun d hd => by
      simp only [List.mem_cons, List.not_mem_nil, or_false] at hd
      rcases hd with rfl | rfl
      · exact niceRow .own _
      · exact niceRow .shr _
    refine (cmp_same (nicePlan .own _) hn ?_).2
    show PyData.list [(rowD .own ls.reverse).py, (rowD .own ls).py] = .list [(rowD .own ls.reverse).py, (rowD .shr ls).py]
    rw [py_row .own ls, py_row .shr ls]
  have hr : D.nd .own .lst (ls.map D.int).reverse = rowD .own ls.reverse := by
    rw [← List.map_reverse]
    rfl
  generalize hE : E.op .mul (.lst (.cons (.int 0) .nil)) (.bi .len (.cons (.var 2 .s) .nil)) = A at hz
  have hA : A.imp = false := by rw [← hE]; rfl
  have hrv : ∀ r : List D, evE (T.cx (callD T (n + 5))) 0 (.rev (.var 2 .s)) (v0 :: v1 :: rowD .shr ls :: r) = .ok (rowD .own ls.reverse) (v0 :: v1 :: rowD .shr ls :: r) := fun r => by
    rw [← hr]
    simp [evE, Rs.bind, ensure, readV]
    simp [rowD]
  generalize hE2 : E.rev (.var 2 .s) = A2 at hrv
  have hA2 : A2.imp = false := by rw [← hE2]; rfl
  simp [evS, evE, evA, evI, evP, Rs.so, Rs.bind, ensure, E.imp, readV, D.sh, D.shs, D.nb, D.nbs, lentIf, Rs.of, So.of, So.ens, asgT, setAny, okn, optB, E.isNop, opD, isD, tyS, isTab, D.getp, D.setp, mmD, nbs_app, hE, hE2, hA, hA2, hz, hu, D.uns, hrv, h', hc]
/-- one of three turns of the law -/
theorem o20 {T : Tab} (B : Hs T [0, 1, 2, 3, 4, 5, 6, 7, 8, 9, 10, 11, 12, 13, 14, 15, 16, 17, 18, 19]) (G : Glo T) (n : Nat) (ns : List Int) (b : Nat) (hb : b < 3) {v2 v3 v4 v5 v6 v7 v8 v9 v10 : D} :
    ∃ w2 w3 w4 w5 w6 w7 w8 w9 w10, evS (T.cx (callD T (n + 5))) 0 b20_2 [.scr ns, .int b, v2, v3, v4, v5, v6, v7, v8, v9, v10] = .nx [.scr ns, .int b, w2, w3, w4, w5, w6, w7, w8, w9, w10] := by
  obtain ⟨ls, o14, l1, l2, l3, l4, h14⟩ := e14 (T := T) (B.sub rfl) (n + 2) ns b (by omega) 24 (by decide) (by decide)
  obtain ⟨ps, o16, p1, p2, h16⟩ := e16 (T := T) (B.sub rfl) (n + 1) ns b (by omega) (m := 4) (h := 3) (by decide) (by decide) (by decide) (by decide)
  have hps : ps.length ≤ 4 := by omega
  obtain ⟨rs, o17, r1, h17⟩ := e17 (T := T) (B.sub rfl) (n + 2) ns b (by omega) ls l2 ps hps p2
  obtain ⟨oa, hca⟩ := e19p (T := T) (B.sub rfl) (n + 4) ps (by omega)
  obtain ⟨ob, hcb⟩ := e19r (T := T) (B.sub rfl) (n + 4) rs (by rw [r1.len]; omega)
  have hls : Letters ls := ⟨l1, l2, l3, l4⟩
  have h14 : callD T (n + 5) 14 [.scr ns, .int b, .int 24] = .ok (rowD .own ls) o14 := h14
  have h16 : callD T (n + 5) 16 [.scr ns, .int b, .int 4, .int 3] = .ok (passD .own ps) o16 := h16
  have h17 : callD T (n + 5) 17 [.scr ns, .int b, rowD .shr ls, passD .shr ps] = .ok (rowsD .own .shr rs) o17 := h17
  let P : Nat → List D → Prop := fun _ g => ∃ f x8 x9 x10, g = [.scr ns, .int b, rowD .shr ls, passD .shr ps, planD .shr rs, rowD f ls, passD .own ps, planD .own rs, x8, x9, x10]
  have lp : ∃ g', loopL (fun x g => match asgT 0 (.nm 8) x g with
      | none => .bad
      | some g => evS (T.cx (callD T (n + 5))) 0 b20_0 g) (upTo 0 2)
      [.scr ns, .int b, rowD .shr ls, passD .shr ps, planD .shr rs, rowD .own ls, passD .own ps, planD .own rs, v8, v9, v10] = .nx g' ∧ P 2 g' := by
    refine loop_upTo P (fun i g hi hq => ?_) _ ⟨_, _, _, _, rfl⟩
    obtain ⟨f, x8, x9, x10, rfl⟩ := hq
    obtain ⟨w9, w10, h⟩ := t20 (T := T) (B.sub rfl) G n (f := f) (v0 := .scr ns) (v1 := .int b) (v8 := .int i) (v9 := x9) (v10 := x10) ls hls ps rs hps p2 r1
    exact ⟨[.scr ns, .int b, rowD .shr ls, passD .shr ps, planD .shr rs, rowD .shr ls, passD .own ps, planD .own rs, .int i, w9, w10], h, .shr, .int i, w9, w10, rfl⟩
  obtain ⟨g, hg, f, x8, x9, x10, rfl⟩ := lp
  have s1 : evS (T.cx (callD T (n + 5))) 0 (.par [2, 3] (.cons (.call 14 (.cons (.var 0 .s) (.cons (.var 1 .s) (.cons (.int 24) .nil)))) (.cons (.call 16 (.cons (.var 0 .s) (.cons (.var 1 .s) (.cons (.int 4) (.cons (.int 3) .nil))))) .nil))) [.scr ns, .int b, v2, v3, v4, v5, v6, v7, v8, v9, v10] = .nx [.scr ns, .int b, rowD .own ls, passD .own ps, v4, v5, v6, v7, v8, v9, v10] := by
    simp [evS, evE, evA, evI, evP, Rs.so, Rs.bind, ensure, E.imp, readV, D.sh, D.shs, D.nb, D.nbs, lentIf, Rs.of, So.of, So.ens, asgT, setAny, okn, optB, E.isNop, opD, isD, tyS, isTab, D.getp, D.setp, mmD, nbs_app, setAll, h14, h16]
  have s2 : evS (T.cx (callD T (n + 5))) 0 (.set 4 (.call 17 (.cons (.var 0 .s) (.cons (.var 1 .s) (.cons (.var 2 .s) (.cons (.var 3 .s) .nil)))))) [.scr ns, .int b, rowD .own ls, passD .own ps, v4, v5, v6, v7, v8, v9, v10] = .nx [.scr ns, .int b, rowD .shr ls, passD .shr ps, rowsD .own .shr rs, v5, v6, v7, v8, v9, v10] := by
    simp [evS, evE, evA, evI, evP, Rs.so, Rs.bind, ensure, E.imp, readV, D.sh, D.shs, D.nb, D.nbs, lentIf, Rs.of, So.of, So.ens, asgT, setAny, okn, optB, E.isNop, opD, isD, tyS, isTab, D.getp, D.setp, mmD, nbs_app, h17]
  have s3 : evS (T.cx (callD T (n + 5))) 0 (.par [5, 6] (.cons (.bi .list (.cons (.var 2 .s) .nil)) (.cons (.call 19 (.cons (.var 3 .s) .nil)) .nil))) [.scr ns, .int b, rowD .shr ls, passD .shr ps, rowsD .own .shr rs, v5, v6, v7, v8, v9, v10] = .nx [.scr ns, .int b, rowD .shr ls, passD .shr ps, rowsD .own .shr rs, rowD .own ls, passD .own ps, v7, v8, v9, v10] := by
    simp [evS, evE, evA, evI, evP, Rs.so, Rs.bind, ensure, E.imp, readV, D.sh, D.shs, D.nb, D.nbs, lentIf, Rs.of, So.of, So.ens, asgT, setAny, okn, optB, E.isNop, opD, isD, tyS, isTab, D.getp, D.setp, mmD, nbs_app, setAll, hca]
  have s4 : evS (T.cx (callD T (n + 5))) 0 (.set 7 (.call 19 (.cons (.var 4 .s) .nil))) [.scr ns, .int b, rowD .shr ls, passD .shr ps, rowsD .own .shr rs, rowD .own ls, passD .own ps, v7, v8, v9, v10] = .nx [.scr ns, .int b, rowD .shr ls, passD .shr ps, planD .shr rs, rowD .own ls, passD .own ps, planD .own rs, v8, v9, v10] := by
    simp [evS, evE, evA, evI, evP, Rs.so, Rs.bind, ensure, E.imp, readV, D.sh, D.shs, D.nb, D.nbs, lentIf, Rs.of, So.of, So.ens, asgT, setAny, okn, optB, E.isNop, opD, isD, tyS, isTab, D.getp, D.setp, mmD, nbs_app, hcb]
  have s5 : evS (T.cx (callD T (n + 5))) 0 (.for (.nm 8) (.rng (.int 2)) b20_0) [.scr ns, .int b, rowD .shr ls, passD .shr ps, planD .shr rs, rowD .own ls, passD .own ps, planD .own rs, v8, v9, v10] = .nx [.scr ns, .int b, rowD .shr ls, passD .shr ps, planD .shr rs, rowD f ls, passD .own ps, planD .own rs, x8, x9, x10] :=
    for_nx (q := (upTo 0 2, [])) (evI_rng (n := 2) (by rw [evE]; rfl) (by decide)) rfl hg
  have s6 : ∃ w5 w6 w7 w9, evS (T.cx (callD T (n + 5))) 0 (.ife (.cmp .ne (.var 3 .s) (.lst .nil)) b20_1 .nil) [.scr ns, .int b, rowD .shr ls, passD .shr ps, planD .shr rs, rowD f ls, passD .own ps, planD .own rs, x8, x9, x10] = .nx [.scr ns, .int b, rowD .shr ls, passD .shr ps, planD .shr rs, w5, w6, w7, x8, w9, x10] := by
    have hc := cmp_nil p2
    by_cases e : ps = []
    · refine ⟨rowD f ls, passD .own ps, planD .own rs, x9, ?_⟩
      simp only [e, ne_eq, not_true_eq_false, decide_false] at hc
      simp [evS, evE, evA, evI, evP, Rs.so, Rs.bind, ensure, E.imp, readV, D.sh, D.shs, D.nb, D.nbs, lentIf, Rs.of, So.of, So.ens, asgT, setAny, okn, optB, E.isNop, opD, isD, tyS, isTab, D.getp, D.setp, mmD, nbs_app, hc, e]
    · obtain ⟨w5, w6, w7, w9, h⟩ := t20p (T := T) (B.sub rfl) G n (f := f) (v0 := .scr ns) (v1 := .int b) (v3 := passD .shr ps) (v4 := planD .shr rs) (v8 := x8) (v9 := x9) (v10 := x10) ls hls ps rs hps p2 r1 e
      refine ⟨w5, w6, w7, w9, ?_⟩
      rw [← h]
      generalize b20_1 = Z
      simp [evS, evE, evA, evI, evP, Rs.so, Rs.bind, ensure, E.imp, readV, D.sh, D.shs, D.nb, D.nbs, lentIf, Rs.of, So.of, So.ens, asgT, setAny, okn, optB, E.isNop, opD, isD, tyS, isTab, D.getp, D.setp, mmD, nbs_app, hc, e]
  obtain ⟨w5, w6, w7, w9, s6⟩ := s6
  have s7 := last20 (T := T) (B.sub rfl) G n (v0 := .scr ns) (v1 := .int b) (v3 := passD .shr ps) (v4 := planD .shr rs) (v5 := w5) (v6 := w6) (v7 := w7) (v8 := x8) (v9 := w9) (v10 := x10) ls hls
  exact ⟨_, _, _, _, _, _, _, _, _, (seq_nx s1).trans ((seq_nx s2).trans ((seq_nx s3).trans ((seq_nx s4).trans ((seq_nx s5).trans ((seq_nx s6).trans ((seq_nx s7).trans rfl))))))⟩
end Ku

namespace Ku
open PySem PySem.Spec PyProof.Rows L2 Bx
theorem hand1 {T : Tab} (B : Hs T S1) (G : Glo T) (n : Nat) : ∃ o, callD T (n + 5) 10 [rowD .shr [4, 9, 2], passD .shr [["line", "pile"], ["pile"]], planD .shr [[1, 0, 1], [0, 0, 0]]] = .ok (planD .own [[9, 2, 4], [4, 2, 9]]) o := by
  have hls : Letters [4, 9, 2] := ⟨by decide, by decide, by decide, by decide⟩
  have b1 : Box ["line", "pile"] := ⟨by decide, by decide, fun s hs => by
    simp only [List.mem_cons, List.not_mem_nil, or_false] at hs
    exact hs⟩
  have hp : ∀ p ∈ ([["line", "pile"], ["pile"]] : List (List Str)), Box p := fun p hp => by
    simp only [List.mem_cons, List.not_mem_nil, or_false] at hp
    rcases hp with rfl | rfl
    · exact b1
    · exact box_one (.inr rfl)
  obtain ⟨o, h⟩ := e10 B G n [4, 9, 2] hls [["line", "pile"], ["pile"]] [[1, 0, 1], [0, 0, 0]] (by decide) hp ⟨⟨rfl, by decide⟩, ⟨rfl, by decide⟩, trivial⟩
  have e : (thru [4, 9, 2] (([["line", "pile"], ["pile"]] : List (List Str)).zip [[1, 0, 1], [0, 0, 0]])).1 = [[9, 2, 4], [4, 2, 9]] := by decide +kernel
  rw [e] at h
  exact ⟨o, h⟩
theorem hand2 {T : Tab} (B : Hs T S1) (G : Glo T) (n : Nat) : ∃ o, callD T (n + 5) 10 [rowD .shr [7], passD .shr [], planD .shr []] = .ok (planD .own []) o :=
  e10 B G n [7] ⟨by decide, by decide, by decide, by decide⟩ [] [] (by decide) (fun _ h => nomatch h) trivial
theorem e20 {T : Tab} (B : Hs T [0, 1, 2, 3, 4, 5, 6, 7, 8, 9, 10, 11, 12, 13, 14, 15, 16, 17, 18, 19, 20]) (G : Glo T) (n : Nat) (ns : List Int) : ∃ o, callD T (n + 6) 20 [.scr ns] = .ok (.bl true) o := by
  rw [call_fn (fd := f20) (B.at (i := 20) rfl rfl)]
  let P : Nat → List D → Prop := fun _ g => ∃ x1 x2 x3 x4 x5 x6 x7 x8 x9 x10, g = [.scr ns, x1, x2, x3, x4, x5, x6, x7, x8, x9, x10]
  have lp : ∃ g', loopL (fun x g => match asgT 0 (.nm 1) x g with
      | none => .bad
      | some g => evS (T.cx (callD T (n + 5))) 0 b20_2 g) (upTo 0 3)
      [.scr ns, .any, .any, .any, .any, .any, .any, .any, .any, .any, .any] = .nx g' ∧ P 3 g' := by
    refine loop_upTo P (fun i g hi hq => ?_) _ ⟨_, _, _, _, _, _, _, _, _, _, rfl⟩
    obtain ⟨x1, x2, x3, x4, x5, x6, x7, x8, x9, x10, rfl⟩ := hq
    obtain ⟨w2, w3, w4, w5, w6, w7, w8, w9, w10, h⟩ := o20 (T := T) (B.sub rfl) G n ns i hi (v2 := x2) (v3 := x3) (v4 := x4) (v5 := x5) (v6 := x6) (v7 := x7) (v8 := x8) (v9 := x9) (v10 := x10)
    exact ⟨_, h, _, _, _, _, _, _, _, _, _, _, rfl⟩
  obtain ⟨g, hg, x1, x2, x3, x4, x5, x6, x7, x8, x9, x10, rfl⟩ := lp
  obtain ⟨o1, h1⟩ := hand1 (T := T) (B.sub rfl) G n
  obtain ⟨o2, h2⟩ := hand2 (T := T) (B.sub rfl) G n
  have h1 : callD T (n + 5) 10 [.nd .shr .lst [.int 4, .int 9, .int 2], .nd .shr .lst [.nd .shr .lst [.str "line", .str "pile"], .nd .shr .lst [.str "pile"]], .nd .shr .lst [.nd .shr .lst [.int 1, .int 0, .int 1], .nd .shr .lst [.int 0, .int 0, .int 0]]] = .ok (planD .own [[9, 2, 4], [4, 2, 9]]) o1 := h1
  have h2 : callD T (n + 5) 10 [.nd .shr .lst [.int 7], .nd .shr .lst [], .nd .shr .lst []] = .ok (planD .own []) o2 := h2
  have c1 : cmpD .eq (planD .own [[9, 2, 4], [4, 2, 9]]).bo (.nd .own .lst [.nd .own .lst [.int 9, .int 2, .int 4], .nd .own .lst [.int 4, .int 2, .int 9]]) = some true := by decide +kernel
  have c2 : cmpD .eq (planD .own []) (.nd .own .lst []) = some true := by decide +kernel
  refine ⟨_, run_ok (g := [.scr ns, x1, x2, x3, x4, x5, x6, x7, x8, planD .own [[9, 2, 4], [4, 2, 9]], x10]) rfl ((seq_nx (g1 := [.scr ns, x1, x2, x3, x4, x5, x6, x7, x8, x9, x10]) ?_).trans ((seq_nx (g1 := [.scr ns, x1, x2, x3, x4, x5, x6, x7, x8, planD .own [[9, 2, 4], [4, 2, 9]], x10]) ?_).trans ?_)) rfl⟩
  · exact for_nx (q := (upTo 0 3, [])) (evI_rng (n := 3) (by rw [evE]; rfl) (by decide)) rfl hg
  · simp [f20, evS, evE, evA, evI, evP, Rs.so, Rs.bind, ensure, E.imp, readV, D.sh, D.shs, D.nb, D.nbs, lentIf, Rs.of, So.of, So.ens, asgT, setAny, okn, optB, E.isNop, opD, isD, tyS, isTab, D.getp, D.setp, mmD, nbs_app, h1]
  · simp [f20, evS, evE, evA, evI, evP, Rs.so, Rs.bind, ensure, E.imp, readV, D.sh, D.shs, D.nb, D.nbs, lentIf, Rs.of, So.of, So.ens, asgT, setAny, okn, optB, E.isNop, opD, isD, tyS, isTab, D.getp, D.setp, mmD, nbs_app, c1, c2, h2]
end Ku

namespace Ku
open PySem PySem.Spec PyProof.Rows L2 Bx
/-! ### paths in their order, in plain lists -/
def isPile (s : Str) : Bool := decide (s = "pile")
def isLine (s : Str) : Bool := decide (s = "line")
def stepP (acc : List (List Int × Bool)) (p : List Str) : List (List Int × Bool) := p.zipIdx.flatMap fun x => (if isLine x.1 = true then acc else acc.reverse).map fun r => (r.1 ++ [((x.2 : Nat) : Int)], r.2 != isPile x.1)
def pathsP (ps : List (List Str)) : List (List Int × Bool) := ps.foldl stepP [([], false)]
def turnIf (t : Bool) (f : List Int) : List Int := if t = true then f.reverse else f
theorem pathsP_snoc (ps : List (List Str)) (p : List Str) : pathsP (ps ++ [p]) = stepP (pathsP ps) p := by
  unfold pathsP
  rw [List.foldl_append]
  rfl
theorem turn_filter (t : Bool) (f : List Int) (q : Int → Bool) : (turnIf t f).filter q = turnIf t (f.filter q) := by
  cases t
  · rfl
  · show f.reverse.filter q = (f.filter q).reverse
    rw [List.filter_reverse]
theorem turn_turn {k : Str} (hk : kindOk k) (t : Bool) (f : List Int) : turnk k (turnIf t f) = turnIf (t != isPile k) f := by
  rcases hk with rfl | rfl
  · have h1 : (("line" : Str) = "pile") ↔ False := by decide
    cases t <;> simp [turnk, turnIf, isPile, h1]
  · have h1 : (("pile" : Str) = "line") ↔ False := by decide
    cases t <;> simp [turnk, turnIf, isPile, h1]
theorem turnk_flat {α : Type} (k : Str) (L : List α) (G : α → List Int) : turnk k (L.flatMap G) = (if isLine k = true then L else L.reverse).flatMap fun x => turnk k (G x) := by
  unfold turnk
  unfold isLine
  by_cases h : k = "line"
  · simp [h]
  · simp only [h, if_false]
    rw [List.reverse_flatMap]
    rfl
theorem flatMap_congr' {α β : Type} {f g : α → List β} : ∀ {xs : List α}, (∀ x ∈ xs, f x = g x) → xs.flatMap f = xs.flatMap g
  | [], _ => rfl
  | x :: xs, h => by
    rw [List.flatMap_cons, List.flatMap_cons, h x (List.mem_cons_self ..), flatMap_congr' fun y hy => h y (List.mem_cons_of_mem _ hy)]
theorem take_snoc {r : List Int} {k : Nat} {q : List Int} {b : Nat} (hk : k < r.length) (h0 : 0 ≤ r.getD k 0) : (r.take k = q ∧ (r.getD k 0).toNat = b) ↔ r.take (k + 1) = q ++ [((b : Nat) : Int)] := by
  have e : r.take (k + 1) = r.take k ++ [r.getD k 0] := by
    rw [List.take_add_one, List.getD_eq_getElem?_getD, List.getElem?_eq_getElem hk]
    rfl
  rw [e]
  constructor
  · rintro ⟨rfl, rfl⟩
    rw [Int.toNat_of_nonneg h0]
  · intro h
    have := List.append_inj' h rfl
    refine ⟨this.1, ?_⟩
    have e2 : r.getD k 0 = (b : Int) := by simpa using this.2
    omega
/-- one pass behind groups by their paths so far -/
theorem behind_groups {ls : List Int} {f : Int → List Int} {k : Nat} {acc : List (List Int × Bool)} {p : List Str} (hp : ∀ s ∈ p, kindOk s) (hf : ∀ l ∈ ls, k < (f l).length ∧ 0 ≤ (f l).getD k 0) :
    behind p (fun l => ((f l).getD k 0).toNat) (acc.flatMap fun x => turnIf x.2 (ls.filter fun l => (f l).take k = x.1)) = (stepP acc p).flatMap fun x => turnIf x.2 (ls.filter fun l => (f l).take (k + 1) = x.1) := by
  unfold behind stepP
  rw [List.flatMap_assoc]
  refine flatMap_congr' fun x hx => ?_
  have hk := hp _ (idx_fst p 0 x hx)
  rw [List.filter_flatMap, turnk_flat, List.flatMap_map]
  refine flatMap_congr' fun y _ => ?_
  rw [turn_filter, turn_turn hk, List.filter_filter]
  congr 1
  refine List.filter_congr fun l hl => ?_
  obtain ⟨h1, h2⟩ := hf l hl
  have := take_snoc (q := y.1) (b := x.2) h1 h2
  by_cases z : (f l).take (k + 1) = y.1 ++ [((x.2 : Nat) : Int)]
  · obtain ⟨z1, z2⟩ := this.mpr z
    simp only [z, z1, z2, decide_true, Bool.and_self]
  · have z' : ¬ ((f l).take k = y.1 ∧ ((f l).getD k 0).toNat = x.2) := fun h => z (this.mp h)
    simp only [z, decide_false, Bool.and_eq_false_iff, decide_eq_false_iff_not]
    by_cases z1 : (f l).take k = y.1
    · exact .inl fun z2 => z' ⟨z1, z2⟩
    · exact .inr z1
end Ku

namespace Ku
open PySem PySem.Spec PyProof.Rows L2 Bx
/-- a row of boxes, one for each pass -/
def Road : List (List Str) → List Int → Prop
  | [], [] => True
  | p :: ps, b :: r => (0 ≤ b ∧ b < p.length) ∧ Road ps r
  | _, _ => False
theorem Road.len : ∀ {ps : List (List Str)} {r : List Int}, Road ps r → r.length = ps.length
  | [], [], _ => rfl
  | p :: ps, b :: r, h => by rw [List.length_cons, List.length_cons, Road.len h.2]
  | [], _ :: _, h => h.elim
  | _ :: _, [], h => h.elim
theorem Road.at : ∀ {ps : List (List Str)} {r : List Int} (t : Nat) {p : List Str}, Road ps r → ps[t]? = some p → 0 ≤ r.getD t 0 ∧ r.getD t 0 < p.length
  | [], _, _, _, _, e => by simp at e
  | q :: ps, b :: r, 0, p, h, e => by
    simp only [List.getElem?_cons_zero, Option.some.injEq] at e
    subst e
    exact h.1
  | q :: ps, b :: r, t + 1, p, h, e => by
    simp only [List.getElem?_cons_succ] at e
    exact Road.at t h.2 e
  | _ :: _, [], _, _, h, _ => h.elim
theorem Road.snoc : ∀ {ps : List (List Str)} {r : List Int} {p : List Str} {b : Int}, Road ps r → 0 ≤ b → b < p.length → Road (ps ++ [p]) (r ++ [b])
  | [], [], _, _, _, h0, h1 => ⟨⟨h0, h1⟩, trivial⟩
  | p :: ps, c :: r, _, _, h, h0, h1 => ⟨h.1, Road.snoc h.2 h0 h1⟩
  | [], _ :: _, _, _, h, _, _ => h.elim
  | _ :: _, [], _, _, h, _, _ => h.elim
theorem Road.unsnoc : ∀ {ps : List (List Str)} {r : List Int} {p : List Str}, Road (ps ++ [p]) r → ∃ (q : List Int) (b : Int), r = q ++ [b] ∧ Road ps q ∧ 0 ≤ b ∧ b < p.length
  | [], [b], _, h => ⟨[], b, rfl, trivial, h.1⟩
  | [], [], _, h => h.elim
  | [], _ :: _ :: _, _, h => h.2.elim
  | p :: ps, [], _, h => h.elim
  | p :: ps, c :: r, _, h => by
    obtain ⟨q, b, rfl, h1, h2⟩ := Road.unsnoc h.2
    exact ⟨c :: q, b, rfl, ⟨h.1, h1⟩, h2⟩
theorem zipIdx_mem {α : Type} : ∀ (p : List α) (k : Nat) (x : α × Nat), x ∈ p.zipIdx k → k ≤ x.2 ∧ x.2 < k + p.length ∧ p[x.2 - k]? = some x.1
  | [], _, _, h => nomatch h
  | a :: p, k, x, h => by
    rw [List.zipIdx_cons] at h
    rcases List.mem_cons.mp h with rfl | h
    · simp
    · obtain ⟨h1, h2, h3⟩ := zipIdx_mem p (k + 1) x h
      refine ⟨by omega, by rw [List.length_cons]; omega, ?_⟩
      rw [show x.2 - k = (x.2 - (k + 1)) + 1 by omega, List.getElem?_cons_succ]
      exact h3
theorem mem_zipIdx {α : Type} : ∀ (p : List α) (k b : Nat) (a : α), p[b]? = some a → (a, k + b) ∈ p.zipIdx k
  | [], _, _, _, h => by simp at h
  | c :: p, k, 0, a, h => by
    simp only [List.getElem?_cons_zero, Option.some.injEq] at h
    subst h
    rw [List.zipIdx_cons]
    exact List.mem_cons_self ..
  | c :: p, k, b + 1, a, h => by
    rw [List.zipIdx_cons]
    refine List.mem_cons_of_mem _ ?_
    have := mem_zipIdx p (k + 1) b a (by simpa using h)
    rwa [show k + 1 + b = k + (b + 1) by omega] at this
theorem mem_ite {α : Type} {c : Bool} {l : List α} {x : α} : (x ∈ if c = true then l else l.reverse) ↔ x ∈ l := by
  cases c <;> simp
theorem mem_step {acc : List (List Int × Bool)} {p : List Str} {r : List Int} : (∃ t, (r, t) ∈ stepP acc p) ↔ ∃ q t b, (q, t) ∈ acc ∧ b < p.length ∧ r = q ++ [((b : Nat) : Int)] := by
  unfold stepP
  constructor
  · rintro ⟨t, h⟩
    obtain ⟨x, hx, h⟩ := List.mem_flatMap.mp h
    obtain ⟨y, hy, e⟩ := List.mem_map.mp h
    rw [mem_ite] at hy
    obtain ⟨_, h2, _⟩ := zipIdx_mem p 0 x hx
    cases e
    exact ⟨y.1, y.2, x.2, hy, by omega, rfl⟩
  · rintro ⟨q, t, b, h, hb, rfl⟩
    refine ⟨t != isPile p[b], List.mem_flatMap.mpr ⟨(p[b], b), ?_, List.mem_map.mpr ⟨(q, t), mem_ite.mpr h, rfl⟩⟩⟩
    have := mem_zipIdx p 0 b p[b] (List.getElem?_eq_getElem hb)
    rwa [Nat.zero_add] at this
/-- all roads are told -/
theorem mem_paths : ∀ (n : Nat) (ps : List (List Str)) (r : List Int), ps.length = n → ((∃ t, (r, t) ∈ pathsP ps) ↔ Road ps r)
  | 0, [], r, _ => by
    show (∃ t, (r, t) ∈ [(([] : List Int), false)]) ↔ _
    cases r with
    | nil => simp [Road]
    | cons a r => simp [Road]
  | n + 1, ps, r, hn => by
    have hne : ps ≠ [] := fun z => by rw [z] at hn; cases hn
    obtain ⟨qs, p, rfl⟩ : ∃ qs p, ps = qs ++ [p] := ⟨ps.dropLast, ps.getLast hne, (List.dropLast_concat_getLast hne).symm⟩
    rw [pathsP_snoc, mem_step]
    have ih := mem_paths n qs
    constructor
    · rintro ⟨q, t, b, h, hb, rfl⟩
      exact ((ih q (by simpa using hn)).mp ⟨t, h⟩).snoc (by omega) (by omega)
    · intro h
      obtain ⟨q, b, rfl, h1, h2, h3⟩ := h.unsnoc
      obtain ⟨t, h4⟩ := (ih q (by simpa using hn)).mpr h1
      exact ⟨q, t, b.toNat, h4, by omega, by rw [Int.toNat_of_nonneg h2]⟩
theorem step_len (acc : List (List Int × Bool)) : ∀ (p : List Str) (k : Nat), ((p.zipIdx k).flatMap fun x => (if isLine x.1 = true then acc else acc.reverse).map fun r => (r.1 ++ [((x.2 : Nat) : Int)], r.2 != isPile x.1)).length = p.length * acc.length
  | [], _ => by simp
  | a :: p, k => by
    rw [List.zipIdx_cons, List.flatMap_cons, List.length_append, step_len acc p (k + 1), List.length_map, List.length_cons, Nat.succ_mul]
    have : (if isLine a = true then acc else acc.reverse).length = acc.length := by split <;> simp
    rw [this, Nat.add_comm]
theorem paths_len (ps : List (List Str)) : (pathsP ps).length = ps.foldl (fun n p => n * p.length) 1 := by
  have : ∀ (ps : List (List Str)) (acc : List (List Int × Bool)), (ps.foldl stepP acc).length = ps.foldl (fun n p => n * p.length) acc.length := by
    intro ps
    induction ps with
    | nil => intro acc; rfl
    | cons p ps ih =>
      intro acc
      rw [List.foldl_cons, List.foldl_cons, ih]
      congr 1
      show ((p.zipIdx).flatMap _).length = _
      rw [step_len acc p 0, Nat.mul_comm]
  exact this ps [([], false)]
/-- the rows are unlike -/
theorem step_nodup {acc : List (List Int × Bool)} (h : (acc.map (·.1)).Nodup) (p : List Str) : ((stepP acc p).map (·.1)).Nodup := by
  unfold stepP
  have : ∀ (p : List Str) (k : Nat), (((p.zipIdx k).flatMap fun x => (if isLine x.1 = true then acc else acc.reverse).map fun r => (r.1 ++ [((x.2 : Nat) : Int)], r.2 != isPile x.1)).map (·.1)).Nodup ∧
      ∀ r ∈ (((p.zipIdx k).flatMap fun x => (if isLine x.1 = true then acc else acc.reverse).map fun r => (r.1 ++ [((x.2 : Nat) : Int)], r.2 != isPile x.1)).map (·.1)), ∃ q b, r = q ++ [((b : Nat) : Int)] ∧ k ≤ b := by
    intro p
    induction p with
    | nil => intro k; exact ⟨List.nodup_nil, fun _ h => nomatch h⟩
    | cons a p ih =>
      intro k
      obtain ⟨h1, h2⟩ := ih (k + 1)
      rw [List.zipIdx_cons, List.flatMap_cons, List.map_append]
      have hm : ∀ r ∈ (((if isLine a = true then acc else acc.reverse).map fun r => (r.1 ++ [((k : Nat) : Int)], r.2 != isPile a)).map (·.1)), ∃ q, r = q ++ [((k : Nat) : Int)] := fun r hr => by
        obtain ⟨x, hx, rfl⟩ := List.mem_map.mp hr
        obtain ⟨y, _, rfl⟩ := List.mem_map.mp hx
        exact ⟨y.1, rfl⟩
      refine ⟨List.nodup_append.mpr ⟨?_, h1, fun r hr s hs e => ?_⟩, fun r hr => ?_⟩
      · rw [List.map_map]
        have hn : ((if isLine a = true then acc else acc.reverse).map (·.1)).Nodup := by
          split
          · exact h
          · rw [List.map_reverse, (List.reverse_perm _).nodup_iff]
            exact h
        rw [List.nodup_iff_pairwise_ne, List.pairwise_map] at hn ⊢
        exact hn.imp fun hne e => hne (List.append_cancel_right e)
      · obtain ⟨q, rfl⟩ := hm r hr
        obtain ⟨q', b, rfl, hb⟩ := h2 s hs
        have := List.append_inj' e rfl
        have e2 : (k : Int) = (b : Int) := by simpa using this.2
        omega
      · rcases List.mem_append.mp hr with z | z
        · obtain ⟨q, rfl⟩ := hm r z
          exact ⟨q, k, rfl, Nat.le_refl _⟩
        · obtain ⟨q, b, rfl, hb⟩ := h2 r z
          exact ⟨q, b, rfl, by omega⟩
  exact (this p 0).1
theorem paths_nodup (ps : List (List Str)) : ((pathsP ps).map (·.1)).Nodup := by
  have : ∀ (ps : List (List Str)) (acc : List (List Int × Bool)), (acc.map (·.1)).Nodup → ((ps.foldl stepP acc).map (·.1)).Nodup := by
    intro ps
    induction ps with
    | nil => intro acc h; exact h
    | cons p ps ih => intro acc h; exact ih _ (step_nodup h p)
  exact this ps _ (by simp)
end Ku

namespace Ku
open PySem PySem.Spec PyProof.Rows L2 Bx
theorem behind_congr {p : List Str} {f g : Int → Nat} {now : List Int} (h : ∀ l ∈ now, f l = g l) : behind p f now = behind p g now := by
  unfold behind
  refine flatMap_congr' fun x _ => ?_
  congr 1
  refine List.filter_congr fun l hl => ?_
  rw [h l hl]
theorem bo_plan {ls : List Int} {f : Int → List Int} {t : Nat} {l : Int} (hl : l ∈ ls) : bo ls (ls.map fun l => (f l).getD t 0) l = ((f l).getD t 0).toNat := by
  unfold bo
  have h := List.idxOf_lt_length_of_mem hl
  rw [List.getD_eq_getElem?_getD, List.getElem?_map, List.getElem?_eq_getElem h, Option.map_some, Option.getD_some, List.getElem_idxOf h]
/-- letters sent along roads come out by the roads' turn -/
theorem send {ls : List Int} {ps : List (List Str)} {f : Int → List Int} (hp : ∀ p ∈ ps, Box p) (hf : ∀ l ∈ ls, Road ps (f l)) :
    (thru ls (ps.zip ((List.range ps.length).map fun t => ls.map fun l => (f l).getD t 0))).2 = (pathsP ps).flatMap fun x => turnIf x.2 (ls.filter fun l => f l = x.1) := by
  generalize hrs : ((List.range ps.length).map fun t => ls.map fun l => (f l).getD t 0) = rs
  have hrl : rs.length = ps.length := by rw [← hrs]; simp
  have key : ∀ k, k ≤ ps.length → (thru ls ((ps.zip rs).take k)).2 = (pathsP (ps.take k)).flatMap fun x => turnIf x.2 (ls.filter fun l => (f l).take k = x.1) := by
    intro k
    induction k with
    | zero =>
      intro _
      show ls = [(([] : List Int), false)].flatMap _
      simp [turnIf]
      exact (List.filter_eq_self.mpr fun _ _ => rfl).symm
    | succ k ih =>
      intro hk
      have hk' : k < ps.length := by omega
      have e1 : ps.take (k + 1) = ps.take k ++ [ps[k]] := by rw [List.take_add_one, List.getElem?_eq_getElem hk']; rfl
      have hr : rs[k]? = some (ls.map fun l => (f l).getD k 0) := by
        rw [← hrs, List.getElem?_map, List.getElem?_range hk']
        rfl
      have e2 : (ps.zip rs).take (k + 1) = (ps.zip rs).take k ++ [(ps[k], ls.map fun l => (f l).getD k 0)] := by
        have : (ps.zip rs)[k]? = some (ps[k], ls.map fun l => (f l).getD k 0) := by
          rw [List.getElem?_zip_eq_some]
          exact ⟨List.getElem?_eq_getElem hk', hr⟩
        rw [List.take_add_one, this]
        rfl
      rw [e1, e2, thru_snoc, pathsP_snoc]
      show behind ps[k] (bo ls (ls.map fun l => (f l).getD k 0)) (thru ls ((ps.zip rs).take k)).2 = _
      rw [ih (by omega)]
      have hb : ∀ l ∈ ls, k < (f l).length ∧ 0 ≤ (f l).getD k 0 := fun l hl => ⟨by rw [(hf l hl).len]; exact hk', ((hf l hl).at k (List.getElem?_eq_getElem hk')).1⟩
      rw [← behind_groups (hp _ (List.getElem_mem hk')).2.2 hb]
      refine behind_congr fun l hl => bo_plan ?_
      obtain ⟨x, _, hx⟩ := List.mem_flatMap.mp hl
      unfold turnIf at hx
      split at hx
      · exact (List.mem_filter.mp (List.mem_reverse.mp hx)).1
      · exact (List.mem_filter.mp hx).1
  have h := key ps.length (Nat.le_refl _)
  rw [List.take_of_length_le (by rw [List.length_zip]; omega), List.take_length] at h
  rw [h]
  refine flatMap_congr' fun x _ => ?_
  congr 1
  refine List.filter_congr fun l hl => ?_
  rw [List.take_of_length_le (by rw [(hf l hl).len]; exact Nat.le_refl _)]
/-! ### pairs of rows and truths -/
def prD (h : Fl) (x : List Int × Bool) : D := .tup [rowD h x.1, .bl x.2]
def prsD (f h : Fl) (xs : List (List Int × Bool)) : D := .nd f .lst (xs.map (prD h))
@[simp] theorem ia_prs (f h : Fl) (r : List (List Int × Bool)) : (prsD f h r).isAny = false := rfl
theorem shs_prs (h : Fl) (xs : List (List Int × Bool)) : D.shs (xs.map (prD h)) = xs.map (prD .shr) := by
  rw [shs_map, List.map_map]
  refine List.map_congr_left fun x _ => ?_
  simp [prD, D.sh, D.shs]
theorem uns_prs (xs : List (List Int × Bool)) : D.uns (xs.map (prD .shr)) = xs.map (prD .shr) := by
  rw [uns_map, List.map_map]
  refine List.map_congr_left fun x _ => ?_
  simp [prD, D.un, D.uns, un_row]
@[simp] theorem shPr (f h : Fl) (xs : List (List Int × Bool)) : (prsD f h xs).sh = prsD .shr .shr xs := by rw [prsD, D.sh, shs_prs]; rfl
theorem nbs_prs (h : Fl) (hh : h ≠ .bor) (xs : List (List Int × Bool)) : D.nbs (xs.map (prD h)) = true := by
  induction xs with
  | nil => rfl
  | cons x xs ih =>
    rw [List.map_cons, D.nbs, ih]
    cases h <;> simp_all [prD, D.nb, D.nbs]
@[simp] theorem nbPr1 (xs : List (List Int × Bool)) : D.nbs (xs.map (prD .own)) = true := nbs_prs _ (by decide) xs
@[simp] theorem nbPr2 (xs : List (List Int × Bool)) : D.nbs (xs.map (prD .shr)) = true := nbs_prs _ (by decide) xs
@[simp] theorem nbPrs1 (xs : List (List Int × Bool)) : (prsD .own .own xs).nb = true := by simp [prsD, D.nb]
@[simp] theorem nbPrs2 (xs : List (List Int × Bool)) : (prsD .shr .shr xs).nb = true := by simp [prsD, D.nb]
@[simp] theorem nbPrs3 (xs : List (List Int × Bool)) : (prsD .own .shr xs).nb = true := by simp [prsD, D.nb]
@[simp] theorem liPrs (xs : List (List Int × Bool)) : listI (prsD .shr .shr xs) = some (xs.map (prD .shr), [prsD .shr .shr xs]) := by simp [prsD, uns_prs]
theorem cmp_pile {s : Str} (h : kindOk s) : cmpD .eq (.str s) (.str "pile") = some (isPile s) := by
  rcases h with rfl | rfl <;> decide +kernel
theorem cmp_line {s : Str} (h : kindOk s) : cmpD .eq (.str s) (.str "line") = some (isLine s) := by
  rcases h with rfl | rfl <;> decide +kernel
theorem cmp_bl (a b : Bool) : cmpD .ne (.bl a) (.bl b) = some (a != b) ∧ cmpD .eq (.bl a) (.bl b) = some (a == b) := by
  cases a <;> cases b <;> exact ⟨rfl, rfl⟩
def stepB (acc : List (List Int × Bool)) (x : Str × Nat) : List (List Int × Bool) := (if isLine x.1 = true then acc else acc.reverse).map fun r => (r.1 ++ [((x.2 : Nat) : Int)], r.2 != isPile x.1)
theorem stepP_eq (acc : List (List Int × Bool)) (p : List Str) : stepP acc p = p.zipIdx.flatMap (stepB acc) := rfl
theorem stepB_len (acc : List (List Int × Bool)) (x : Str × Nat) : (stepB acc x).length = acc.length := by
  unfold stepB
  rw [List.length_map]
  split <;> simp
/-- one box of a pass -/
theorem t21 {C : Cxt} {v0 v2 v6 v7 v8 : D} {f h : Fl} {acc lg : List (List Int × Bool)} {k : Str} {b : Nat} (hk : kindOk k) (hr : ∀ r ∈ acc, r.1.length < 1000) (ha : acc.length < 400000) (hl : lg.length < 400000) :
    ∃ w6, evS C 0 b21_0 [v0, prsD f h acc, v2, prsD .own .own lg, .int (b : Nat), .str k, v6, v7, v8] = .nx [v0, prsD .shr .shr acc, v2, prsD .own .own (lg ++ stepB acc (k, b)), .int (b : Nat), .str k, w6, .any, .any] := by
  have hc : ∀ (L : List (List Int × Bool)) (f6 : Fl), (∀ r ∈ L, r.1.length < 1000) → L.length < 400000 → evE C 0 (.comp (.tup (.cons (.op .add (.var 7 .s) (.lst (.cons (.var 4 .s) .nil))) (.cons (.cmp .ne (.var 8 .s) (.cmp .eq (.var 5 .s) (.str "pile"))) .nil))) .nop (.tp (.cons (.nm 7) (.cons (.nm 8) .nil))) (.src (.var 6 .s)) [7, 8]) [v0, prsD .shr .shr acc, v2, prsD .own .own lg, .int (b : Nat), .str k, prsD f6 .shr L, v7, v8] =
      .ok (.nd .own .lst (L.map fun r => prD .own (r.1 ++ [((b : Nat) : Int)], r.2 != isPile k))) [v0, prsD .shr .shr acc, v2, prsD .own .own lg, .int (b : Nat), .str k, prsD .shr .shr L, .any, .any] := fun L f6 hL hl => by
    refine comp_map (enc := prD .shr) (ks := [prsD .shr .shr L]) (g1 := [v0, prsD .shr .shr acc, v2, prsD .own .own lg, .int (b : Nat), .str k, prsD .shr .shr L, v7, v8]) rfl ?_ (by omega) fun x hx => ?_
    · simp [evS, evE, evA, evI, evP, Rs.so, Rs.bind, ensure, E.imp, readV, D.sh, D.shs, D.nb, D.nbs, lentIf, Rs.of, So.of, So.ens, asgT, setAny, okn, optB, E.isNop, opD, isD, tyS, isTab, D.getp, D.setp, mmD, nbs_app]
    · have h1 := hL x hx
      have h2 : x.1.length + 1 < 1000000 := by omega
      have cp := cmp_pile hk
      have cb := (cmp_bl x.2 (isPile k)).1
      have ho : opD .add (rowD .shr x.1) (.nd .own .lst [.int (b : Nat)]) = some (rowD .own (x.1 ++ [((b : Nat) : Int)])) := by
        simp [opD, rowD, okn, h2]
      simp [turnC, prD, asgT.asgTs, evE, evA, Rs.bind, ensure, E.imp, readV, D.sh, D.nb, D.nbs, Rs.of, asgT, setAny, okn, optB, E.isNop, ho, cp, cb]
  have fin : ∀ (L : List (List Int × Bool)) (f6 : Fl), (∀ r ∈ L, r.1.length < 1000) → L.length < 400000 → evS C 0 (.ex (.mut (.var 3 .b) .extend (.cons (.comp (.tup (.cons (.op .add (.var 7 .s) (.lst (.cons (.var 4 .s) .nil))) (.cons (.cmp .ne (.var 8 .s) (.cmp .eq (.var 5 .s) (.str "pile"))) .nil))) .nop (.tp (.cons (.nm 7) (.cons (.nm 8) .nil))) (.src (.var 6 .s)) [7, 8]) .nil))) [v0, prsD .shr .shr acc, v2, prsD .own .own lg, .int (b : Nat), .str k, prsD f6 .shr L, v7, v8] =
      .nx [v0, prsD .shr .shr acc, v2, prsD .own .own (lg ++ L.map fun r => (r.1 ++ [((b : Nat) : Int)], r.2 != isPile k)), .int (b : Nat), .str k, prsD .shr .shr L, .any, .any] := fun L f6 hL hl' => by
    have h1 := hc L f6 hL hl'
    generalize hE : E.comp (.tup (.cons (.op .add (.var 7 .s) (.lst (.cons (.var 4 .s) .nil))) (.cons (.cmp .ne (.var 8 .s) (.cmp .eq (.var 5 .s) (.str "pile"))) .nil))) .nop (.tp (.cons (.nm 7) (.cons (.nm 8) .nil))) (.src (.var 6 .s)) [7, 8] = A at h1
    have hA : A.imp = false := by rw [← hE]; rfl
    have hz : lg.length + L.length < 1000000 := by omega
    have e2 : prsD .own .own (lg ++ L.map fun r => (r.1 ++ [((b : Nat) : Int)], r.2 != isPile k)) = .nd .own .lst (lg.map (prD .own) ++ L.map fun r => prD .own (r.1 ++ [((b : Nat) : Int)], r.2 != isPile k)) := by
      unfold prsD
      rw [List.map_append, List.map_map]
      rfl
    have hnb : D.nbs (L.map fun r => prD .own (r.1 ++ [((b : Nat) : Int)], r.2 != isPile k)) = true := by
      have := nbPr1 (L.map fun r => (r.1 ++ [((b : Nat) : Int)], r.2 != isPile k))
      rw [List.map_map] at this
      exact this
    rw [e2]
    have e3 : prsD .own .own lg = .nd .own .lst (lg.map (prD .own)) := rfl
    rw [e3] at h1 ⊢
    simp [evS, evE, evA, evI, evP, Rs.so, Rs.bind, ensure, E.imp, readV, D.sh, D.shs, D.nb, D.nbs, lentIf, Rs.of, So.of, So.ens, asgT, setAny, okn, optB, E.isNop, opD, isD, tyS, isTab, D.getp, D.setp, mmD, nbs_app, hE, h1, hA, hz, hnb]
  have ck := cmp_line hk
  by_cases hkl : isLine k = true
  · rw [hkl] at ck
    refine ⟨prsD .shr .shr acc, (seq_nx (g1 := [v0, prsD .shr .shr acc, v2, prsD .own .own lg, .int (b : Nat), .str k, prsD .shr .shr acc, v7, v8]) ?_).trans ((seq_nx (fin acc .shr hr ha)).trans ?_)⟩
    · simp [evS, evE, evA, evI, evP, Rs.so, Rs.bind, ensure, E.imp, readV, D.sh, D.shs, D.nb, D.nbs, lentIf, Rs.of, So.of, So.ens, asgT, setAny, okn, optB, E.isNop, opD, isD, tyS, isTab, D.getp, D.setp, mmD, nbs_app, ck]
    · unfold stepB
      rw [if_pos hkl]
      rfl
  · rw [Bool.not_eq_true] at hkl
    rw [hkl] at ck
    refine ⟨prsD .shr .shr acc.reverse, (seq_nx (g1 := [v0, prsD .shr .shr acc, v2, prsD .own .own lg, .int (b : Nat), .str k, prsD .own .shr acc.reverse, v7, v8]) ?_).trans ((seq_nx (fin acc.reverse .own (fun r h => hr r (List.mem_reverse.mp h)) (by simpa using ha))).trans ?_)⟩
    · have e1 : prsD .own .shr acc.reverse = .nd .own .lst (acc.map (prD .shr)).reverse := by rw [prsD, List.map_reverse]
      have e2 : prsD .shr .shr acc = .nd .shr .lst (acc.map (prD .shr)) := rfl
      have hn := nbPr2 acc.reverse
      rw [List.map_reverse] at hn
      rw [e1]
      simp [evS, evE, evA, evI, evP, Rs.so, Rs.bind, ensure, E.imp, readV, D.sh, D.shs, D.nb, D.nbs, lentIf, Rs.of, So.of, So.ens, asgT, setAny, okn, optB, E.isNop, opD, isD, tyS, isTab, D.getp, D.setp, mmD, nbs_app, ck]
      simp [e2, D.nb, hn, D.nbs]
    · unfold stepB
      rw [if_neg (by simp [hkl])]
      rfl
end Ku

namespace Ku
open PySem PySem.Spec PyProof.Rows L2 Bx
theorem paths_le : ∀ (n : Nat) (ps : List (List Str)), ps.length = n → (∀ p ∈ ps, Box p) → (pathsP ps).length ≤ 3 ^ n
  | 0, [], _, _ => Nat.le_refl _
  | n + 1, ps, hn, h => by
    have hne : ps ≠ [] := fun z => by rw [z] at hn; cases hn
    obtain ⟨qs, p, rfl⟩ : ∃ qs p, ps = qs ++ [p] := ⟨ps.dropLast, ps.getLast hne, (List.dropLast_concat_getLast hne).symm⟩
    have ih := paths_le n qs (by simpa using hn) fun q hq => h q (List.mem_append_left _ hq)
    rw [pathsP_snoc]
    have e : (stepP (pathsP qs) p).length = p.length * (pathsP qs).length := step_len _ p 0
    rw [e, Nat.pow_succ, Nat.mul_comm]
    exact Nat.mul_le_mul ih (h p (by simp)).2.1
theorem paths_81 {ps : List (List Str)} (h4 : ps.length ≤ 4) (h : ∀ p ∈ ps, Box p) : (pathsP ps).length ≤ 81 :=
  Nat.le_trans (paths_le _ ps rfl h) (Nat.pow_le_pow_right (by decide) h4)
theorem rows_len {ps : List (List Str)} {r : List Int × Bool} (h : r ∈ pathsP ps) : Road ps r.1 := (mem_paths _ ps r.1 rfl).mp ⟨r.2, h⟩
theorem firsts_prs (xs : List (List Int × Bool)) : firsts (xs.map (prD .own)) = some ((xs.map (·.1)).map (rowD .own)) := by
  induction xs with
  | nil => rfl
  | cons x xs ih =>
    show (firsts (xs.map (prD .own))).map (rowD .own x.1 :: ·) = _
    rw [ih]
    rfl
theorem flat_len (acc : List (List Int × Bool)) : ∀ xs : List (Str × Nat), (xs.flatMap (stepB acc)).length = xs.length * acc.length
  | [] => by simp
  | x :: xs => by rw [List.flatMap_cons, List.length_append, stepB_len, flat_len acc xs, List.length_cons, Nat.succ_mul, Nat.add_comm]
/-- one pass -/
theorem p21 {C : Cxt} {v0 v3 v4 v5 v6 v7 v8 : D} {acc : List (List Int × Bool)} {p : List Str} (hp : Box p) (hr : ∀ r ∈ acc, r.1.length < 1000) (ha : acc.length < 1000) :
    ∃ w4 w5 w6 w7 w8, evS C 0 b21_1 [v0, prsD .own .own acc, boxD .shr p, v3, v4, v5, v6, v7, v8] = .nx [v0, prsD .own .own (stepP acc p), boxD .shr p, .any, w4, w5, w6, w7, w8] := by
  let P : List (Str × Nat) → List D → Prop := fun done g => ∃ f h x4 x5 x6 x7 x8, g = [v0, prsD f h acc, boxD .shr p, prsD .own .own (done.flatMap (stepB acc)), x4, x5, x6, x7, x8]
  have lp : ∃ g', loopL (fun x g => match asgT 0 (.tp (.cons (.nm 4) (.cons (.nm 5) .nil))) x g with
      | none => .bad
      | some g => evS C 0 b21_0 g) (p.zipIdx.map fun x => .tup [.int (x.2 : Nat), .str x.1])
      [v0, prsD .own .own acc, boxD .shr p, prsD .own .own [], v4, v5, v6, v7, v8] = .nx g' ∧ P p.zipIdx g' := by
    refine loop_pre P (fun done x rest g e hq => ?_) _ ⟨_, _, _, _, _, _, _, rfl⟩
    obtain ⟨f, h, x4, x5, x6, x7, x8, rfl⟩ := hq
    have hk : kindOk x.1 := hp.2.2 _ (idx_fst p 0 x (by rw [e]; simp))
    have hl : (done.flatMap (stepB acc)).length < 400000 := by
      rw [flat_len]
      have h1 : done.length ≤ 3 := by
        have : p.zipIdx.length = done.length + (rest.length + 1) := by rw [e]; simp
        rw [List.length_zipIdx] at this
        have := hp.2.1
        omega
      have : done.length * acc.length ≤ 3 * 1000 := Nat.mul_le_mul h1 (Nat.le_of_lt ha)
      omega
    rw [asg2 (show (D.int (x.2 : Nat)).nb = true from rfl) (show (D.str x.1).nb = true from rfl) (by omega) (by omega) (by simp) (by simp)]
    obtain ⟨w6, ht⟩ := t21 (C := C) (v0 := v0) (v2 := boxD .shr p) (v6 := x6) (v7 := x7) (v8 := x8) (f := f) (h := h) (b := x.2) hk hr (by omega) hl
    refine ⟨_, ht, .shr, .shr, .int (x.2 : Nat), .str x.1, w6, .any, .any, ?_⟩
    rw [List.flatMap_append]
    simp
  obtain ⟨g, hg, f, h, x4, x5, x6, x7, x8, rfl⟩ := lp
  refine ⟨x4, x5, x6, x7, x8, (seq_nx (g1 := [v0, prsD .own .own acc, boxD .shr p, prsD .own .own [], v4, v5, v6, v7, v8]) ?_).trans ((seq_nx (for_nx (q := (enumD 0 (p.map .str), [boxD .shr p])) (g1 := [v0, prsD .own .own acc, boxD .shr p, prsD .own .own [], v4, v5, v6, v7, v8]) ?_ ?_ (by rw [enumD_map]; exact hg))).trans ?_)⟩
  · have hr0 : prsD .own .own [] = .nd .own .lst [] := rfl
    simp [evS, evE, evA, evI, evP, Rs.so, Rs.bind, ensure, E.imp, readV, D.sh, D.shs, D.nb, D.nbs, lentIf, Rs.of, So.of, So.ens, asgT, setAny, okn, optB, E.isNop, opD, isD, tyS, isTab, D.getp, D.setp, mmD, nbs_app, hr0]
  · simp [evI, evE, Rs.bind, readV, ensure, boxD, D.sh, shs_strs, uns_strs]
  · simp [E.lockd, D.nbs]
  · rw [stepP_eq]
    simp [evS, evE, evA, evI, evP, Rs.so, Rs.bind, ensure, E.imp, readV, D.sh, D.shs, D.nb, D.nbs, lentIf, Rs.of, So.of, So.ens, asgT, setAny, okn, optB, E.isNop, opD, isD, tyS, isTab, D.getp, D.setp, mmD, nbs_app]
theorem e21 {T : Tab} (B : Hs T [21]) (n : Nat) (ps : List (List Str)) (h4 : ps.length ≤ 4) (hp : ∀ p ∈ ps, Box p) : ∃ o, callD T (n + 1) 21 [passD .shr ps] = .ok (prsD .own .own (pathsP ps)) o := by
  rw [call_fn (fd := f21) (B.at (i := 21) rfl rfl)]
  let P : List (List Str) → List D → Prop := fun done g => ∃ x2 x3 x4 x5 x6 x7 x8, g = [passD .shr ps, prsD .own .own (pathsP done), x2, x3, x4, x5, x6, x7, x8]
  have lp : ∃ g', loopL (fun x g => match asgT 0 (.nm 2) x g with
      | none => .bad
      | some g => evS (T.cx (callD T n)) 0 b21_1 g) (ps.map (boxD .shr))
      [passD .shr ps, prsD .own .own [([], false)], .any, .any, .any, .any, .any, .any, .any] = .nx g' ∧ P ps g' := by
    refine loop_pre P (fun done p rest g e hq => ?_) _ ⟨_, _, _, _, _, _, _, rfl⟩
    obtain ⟨x2, x3, x4, x5, x6, x7, x8, rfl⟩ := hq
    have hd : done.length ≤ 4 := by
      have : ps.length = done.length + (rest.length + 1) := by rw [e]; simp
      omega
    have hpd : ∀ q ∈ done, Box q := fun q hq => hp q (by rw [e]; simp [hq])
    have h81 := paths_81 hd hpd
    obtain ⟨w4, w5, w6, w7, w8, ht⟩ := p21 (C := T.cx (callD T n)) (v0 := passD .shr ps) (v3 := x3) (v4 := x4) (v5 := x5) (v6 := x6) (v7 := x7) (v8 := x8) (acc := pathsP done) (hp p (by rw [e]; simp)) (fun r hr => by
      rw [(rows_len hr).len]
      omega) (by omega)
    refine ⟨[passD .shr ps, prsD .own .own (stepP (pathsP done) p), boxD .shr p, .any, w4, w5, w6, w7, w8], ?_, boxD .shr p, .any, w4, w5, w6, w7, w8, by rw [pathsP_snoc]⟩
    have ha : asgT 0 (.nm 2) (boxD .shr p) [passD .shr ps, prsD .own .own (pathsP done), x2, x3, x4, x5, x6, x7, x8] = some [passD .shr ps, prsD .own .own (pathsP done), boxD .shr p, x3, x4, x5, x6, x7, x8] := by simp [asgT]
    rw [ha]
    exact ht
  obtain ⟨g, hg, x2, x3, x4, x5, x6, x7, x8, rfl⟩ := lp
  refine ⟨_, run_ok (g := [passD .shr ps, .any, x2, x3, x4, x5, x6, x7, x8]) rfl ((seq_nx (g1 := [passD .shr ps, prsD .own .own [([], false)], .any, .any, .any, .any, .any, .any, .any]) ?_).trans ((seq_nx (for_nx (q := (ps.map (boxD .shr), [passD .shr ps])) (g1 := [passD .shr ps, prsD .own .own [([], false)], .any, .any, .any, .any, .any, .any, .any]) ?_ ?_ hg)).trans ?_)) (by simp)⟩
  · have hr0 : prsD .own .own [([], false)] = .nd .own .lst [.tup [.nd .own .lst [], .bl false]] := rfl
    simp [f21, evS, evE, evA, evI, evP, Rs.so, Rs.bind, ensure, E.imp, readV, D.sh, D.shs, D.nb, D.nbs, lentIf, Rs.of, So.of, So.ens, asgT, setAny, okn, optB, E.isNop, opD, isD, tyS, isTab, D.getp, D.setp, mmD, nbs_app, hr0]
  · simp [f21, evS, evE, evA, evI, evP, Rs.so, Rs.bind, ensure, E.imp, readV, D.sh, D.shs, D.nb, D.nbs, lentIf, Rs.of, So.of, So.ens, asgT, setAny, okn, optB, E.isNop, opD, isD, tyS, isTab, D.getp, D.setp, mmD, nbs_app]
  · simp [E.lockd, D.nbs]
  · simp [f21, evS, evE, evA, evI, evP, Rs.so, Rs.bind, ensure, E.imp, readV, D.sh, D.shs, D.nb, D.nbs, lentIf, Rs.of, So.of, So.ens, asgT, setAny, okn, optB, E.isNop, opD, isD, tyS, isTab, D.getp, D.setp, mmD, nbs_app]
theorem e22 {T : Tab} (B : Hs T [6, 7, 21, 22]) (G : Glo T) (n : Nat) (ps : List (List Str)) (h4 : ps.length ≤ 4) (hp : ∀ p ∈ ps, Box p) : ∃ o, callD T (n + 3) 22 [passD .shr ps] = .ok (planD .own ((pathsP ps).map (·.1))) o := by
  rw [call_fn (fd := f22) (B.at (i := 22) rfl rfl)]
  obtain ⟨o7, h7⟩ := e7 (T := T) (B.sub rfl) G.c G.d n ps h4 hp
  obtain ⟨o1, h1⟩ := e21 (T := T) (B.sub rfl) (n + 1) ps h4 hp
  have h81 := paths_81 h4 hp
  have hf := firsts_prs (pathsP ps)
  refine ⟨_, run_ok (g := [passD .shr ps, .any, .any]) rfl ((seq_nx (g1 := [passD .shr ps, .any, .any]) ?_).trans ?_) (by simp)⟩
  · simp [f22, evS, evE, evA, evI, evP, Rs.so, Rs.bind, ensure, E.imp, readV, D.sh, D.shs, D.nb, D.nbs, lentIf, Rs.of, So.of, So.ens, asgT, setAny, okn, optB, E.isNop, opD, isD, tyS, isTab, D.getp, D.setp, mmD, nbs_app, h7]
  · have h1' : callD T (n + 2) 21 [passD .shr ps] = .ok (.nd .own .lst ((pathsP ps).map (prD .own))) o1 := h1
    have hz : (pathsP ps).length < 1000000 := by omega
    have e3 : planD .own ((pathsP ps).map (·.1)) = .nd .own .lst (((pathsP ps).map (·.1)).map (rowD .own)) := rfl
    rw [e3]
    have hn := nbsR2 ((pathsP ps).map (·.1))
    generalize ((pathsP ps).map (·.1)).map (rowD .own) = R at hf hn
    simp [f22, evS, evE, evA, evI, evP, Rs.so, Rs.bind, ensure, E.imp, readV, D.sh, D.shs, D.nb, D.nbs, lentIf, Rs.of, So.of, So.ens, asgT, setAny, okn, optB, E.isNop, opD, isD, tyS, isTab, D.getp, D.setp, mmD, nbs_app, h1', hf, hz, hn]
end Ku

namespace Ku
open PySem PySem.Spec PyProof.Rows L2 Bx
/-- the roads, the first box changing last -/
def lexS (acc : List (List Int)) (p : List Str) : List (List Int) := acc.flatMap fun r => (List.range p.length).map fun b => r ++ [((b : Nat) : Int)]
def lexP (ps : List (List Str)) : List (List Int) := ps.foldl lexS [[]]
theorem lexP_snoc (ps : List (List Str)) (p : List Str) : lexP (ps ++ [p]) = lexS (lexP ps) p := by
  unfold lexP
  rw [List.foldl_append]
  rfl
theorem mem_lexS {acc : List (List Int)} {p : List Str} {r : List Int} : r ∈ lexS acc p ↔ ∃ q b, q ∈ acc ∧ b < p.length ∧ r = q ++ [((b : Nat) : Int)] := by
  unfold lexS
  constructor
  · intro h
    obtain ⟨q, hq, h⟩ := List.mem_flatMap.mp h
    obtain ⟨b, hb, rfl⟩ := List.mem_map.mp h
    exact ⟨q, b, hq, List.mem_range.mp hb, rfl⟩
  · rintro ⟨q, b, hq, hb, rfl⟩
    exact List.mem_flatMap.mpr ⟨q, hq, List.mem_map.mpr ⟨b, List.mem_range.mpr hb, rfl⟩⟩
theorem mem_lex : ∀ (n : Nat) (ps : List (List Str)) (r : List Int), ps.length = n → (r ∈ lexP ps ↔ Road ps r)
  | 0, [], r, _ => by
    show r ∈ [([] : List Int)] ↔ _
    cases r with
    | nil => simp [Road]
    | cons a r => simp [Road]
  | n + 1, ps, r, hn => by
    have hne : ps ≠ [] := fun z => by rw [z] at hn; cases hn
    obtain ⟨qs, p, rfl⟩ : ∃ qs p, ps = qs ++ [p] := ⟨ps.dropLast, ps.getLast hne, (List.dropLast_concat_getLast hne).symm⟩
    rw [lexP_snoc, mem_lexS]
    have ih := mem_lex n qs
    constructor
    · rintro ⟨q, b, h, hb, rfl⟩
      exact ((ih q (by simpa using hn)).mp h).snoc (by omega) (by omega)
    · intro h
      obtain ⟨q, b, rfl, h1, h2, h3⟩ := h.unsnoc
      exact ⟨q, b.toNat, (ih q (by simpa using hn)).mpr h1, by omega, by rw [Int.toNat_of_nonneg h2]⟩
theorem lexS_nodup (p : List Str) : ∀ {acc : List (List Int)}, acc.Nodup → (lexS acc p).Nodup
  | [], _ => List.nodup_nil
  | q :: acc, h => by
    rw [List.nodup_cons] at h
    show ((List.range p.length).map (fun b => q ++ [((b : Nat) : Int)]) ++ lexS acc p).Nodup
    refine List.nodup_append.mpr ⟨?_, lexS_nodup p h.2, fun r hr s hs e => ?_⟩
    · have := List.nodup_range (n := p.length)
      rw [List.nodup_iff_pairwise_ne, List.pairwise_map]
      rw [List.nodup_iff_pairwise_ne] at this
      refine this.imp fun hne e => hne ?_
      have e2 := List.append_cancel_left e
      simp only [List.cons.injEq, and_true] at e2
      omega
    · obtain ⟨b, _, rfl⟩ := List.mem_map.mp hr
      obtain ⟨q', b', hq', _, rfl⟩ := mem_lexS.mp hs
      have := List.append_inj' e rfl
      exact h.1 (this.1 ▸ hq')
theorem lex_nodup (ps : List (List Str)) : (lexP ps).Nodup := by
  have : ∀ (ps : List (List Str)) (acc : List (List Int)), acc.Nodup → (ps.foldl lexS acc).Nodup := by
    intro ps
    induction ps with
    | nil => intro acc h; exact h
    | cons p ps ih => intro acc h; exact ih _ (lexS_nodup p h)
  exact this ps _ (by simp)
theorem lex_perm (ps : List (List Str)) : (lexP ps).Perm ((pathsP ps).map (·.1)) := by
  refine (List.perm_ext_iff_of_nodup (lex_nodup ps) (paths_nodup ps)).mpr fun r => ?_
  rw [mem_lex _ ps r rfl, ← mem_paths _ ps r rfl]
  constructor
  · rintro ⟨t, h⟩
    exact List.mem_map.mpr ⟨(r, t), h, rfl⟩
  · intro h
    obtain ⟨x, hx, rfl⟩ := List.mem_map.mp h
    exact ⟨x.2, hx⟩
theorem lex_len (ps : List (List Str)) : (lexP ps).length = (pathsP ps).length := by rw [(lex_perm ps).length_eq, List.length_map]
/-- names: 0, 1, .. -/
def namesN (n : Nat) : List Int := (List.range n).map fun i => ((i : Nat) : Int)
theorem names_nodup (n : Nat) : (namesN n).Nodup := by
  have := List.nodup_range (n := n)
  unfold namesN
  rw [List.nodup_iff_pairwise_ne, List.pairwise_map]
  rw [List.nodup_iff_pairwise_ne] at this
  exact this.imp fun h e => h (by omega)
theorem mem_names {n : Nat} {x : Int} : x ∈ namesN n ↔ 0 ≤ x ∧ x < n := by
  unfold namesN
  rw [List.mem_map]
  constructor
  · rintro ⟨i, hi, rfl⟩
    have := List.mem_range.mp hi
    omega
  · rintro ⟨h0, h1⟩
    exact ⟨x.toNat, List.mem_range.mpr (by omega), by omega⟩
theorem idx_at {α : Type} [BEq α] [LawfulBEq α] {xs : List α} (hn : xs.Nodup) {i : Nat} (hi : i < xs.length) : xs.idxOf xs[i] = i := by
  have hm : xs[i] ∈ xs := List.getElem_mem hi
  have hj := List.idxOf_lt_length_of_mem hm
  have e : xs[xs.idxOf xs[i]] = xs[i] := List.getElem_idxOf hj
  rw [List.nodup_iff_pairwise_ne] at hn
  rcases Nat.lt_trichotomy (xs.idxOf xs[i]) i with h | h | h
  · exact absurd e (List.pairwise_iff_getElem.mp hn _ _ hj hi h)
  · exact h
  · exact absurd e.symm (List.pairwise_iff_getElem.mp hn _ _ hi hj h)
theorem filter_one {xs : List (List Int)} (hn : xs.Nodup) {r : List Int} (hr : r ∈ xs) : (namesN xs.length).filter (fun l => xs.getD l.toNat [] = r) = [((xs.idxOf r : Nat) : Int)] := by
  have hi := List.idxOf_lt_length_of_mem hr
  have hp : ((namesN xs.length).filter fun l => xs.getD l.toNat [] = r).Perm [((xs.idxOf r : Nat) : Int)] := by
    refine (List.perm_ext_iff_of_nodup ((names_nodup _).filter _) (by simp)).mpr fun a => ?_
    rw [List.mem_filter, mem_names, List.mem_singleton, decide_eq_true_eq]
    constructor
    · rintro ⟨⟨h0, h1⟩, h2⟩
      have hl : a.toNat < xs.length := by omega
      rw [List.getD_eq_getElem?_getD, List.getElem?_eq_getElem hl, Option.getD_some] at h2
      have := idx_at hn hl
      rw [h2] at this
      omega
    · rintro rfl
      refine ⟨⟨by omega, by omega⟩, ?_⟩
      rw [Int.toNat_natCast, List.getD_eq_getElem?_getD, List.getElem?_eq_getElem hi, Option.getD_some, List.getElem_idxOf hi]
  exact List.perm_singleton.mp hp
theorem turn_one (t : Bool) (a : Int) : turnIf t [a] = [a] := by cases t <;> rfl
/-- all roads by sending a letter along each -/
theorem all_sent {ps : List (List Str)} (hp : ∀ p ∈ ps, Box p) :
    ((thru (namesN (lexP ps).length) (ps.zip ((List.range ps.length).map fun t => (namesN (lexP ps).length).map fun l => ((lexP ps).getD l.toNat []).getD t 0))).2.map fun l => (lexP ps).getD l.toNat []) = (pathsP ps).map (·.1) := by
  rw [send (f := fun l => (lexP ps).getD l.toNat []) hp fun l hl => ?_]
  · have : ∀ xs : List (List Int × Bool), (∀ x ∈ xs, x.1 ∈ lexP ps) → ((xs.flatMap fun x => turnIf x.2 ((namesN (lexP ps).length).filter fun l => (lexP ps).getD l.toNat [] = x.1)).map fun l => (lexP ps).getD l.toNat []) = xs.map (·.1) := by
      intro xs
      induction xs with
      | nil => intro _; rfl
      | cons x xs ih =>
        intro h
        have hx := h x (List.mem_cons_self ..)
        have hi := List.idxOf_lt_length_of_mem hx
        rw [List.flatMap_cons, List.map_append, ih fun y hy => h y (List.mem_cons_of_mem _ hy), filter_one (lex_nodup ps) hx, turn_one]
        simp only [List.map_cons, List.map_nil, Int.toNat_natCast, List.cons_append, List.nil_append]
        rw [List.getD_eq_getElem?_getD, List.getElem?_eq_getElem hi, Option.getD_some, List.getElem_idxOf hi]
    exact this _ fun x hx => (lex_perm ps).mem_iff.mpr (List.mem_map.mpr ⟨x, hx, rfl⟩)
  · rw [mem_names] at hl
    have hl' : l.toNat < (lexP ps).length := by omega
    rw [List.getD_eq_getElem?_getD, List.getElem?_eq_getElem hl', Option.getD_some]
    exact (mem_lex _ ps _ rfl).mp (List.getElem_mem hl')
theorem plan_of {m : Nat} : ∀ {ps : List (List Str)} {rs : List (List Int)}, rs.length = ps.length → (∀ (t : Nat) p r, ps[t]? = some p → rs[t]? = some r → fits m p r) → Plan m ps rs
  | [], [], _, _ => trivial
  | p :: ps, r :: rs, hl, h => ⟨h 0 p r rfl rfl, plan_of (by simpa using hl) fun t p r h1 h2 => h (t + 1) p r (by simpa using h1) (by simpa using h2)⟩
  | [], _ :: _, h, _ => by simp at h
  | _ :: _, [], h, _ => by simp at h
/-- a plan by the letters' roads -/
theorem plan_roads {ps : List (List Str)} {ls : List Int} {f : Int → List Int} (hf : ∀ l ∈ ls, Road ps (f l)) : Plan ls.length ps ((List.range ps.length).map fun t => ls.map fun l => (f l).getD t 0) := by
  refine plan_of (by simp) fun t p r h1 h2 => ?_
  have ht : t < ps.length := (List.getElem?_eq_some_iff.mp h1).1
  rw [List.getElem?_map, List.getElem?_range ht] at h2
  simp only [Option.map_some, Option.some.injEq] at h2
  subst h2
  refine ⟨by simp, fun v hv => ?_⟩
  obtain ⟨l, hl, rfl⟩ := List.mem_map.mp hv
  exact (hf l hl).at t h1
theorem names_map {α : Type} (xs : List (List Int)) (g : List Int → α) : ((namesN xs.length).map fun l => g (xs.getD l.toNat [])) = xs.map g := by
  unfold namesN
  rw [List.map_map]
  refine List.ext_getElem (by simp) fun i h1 h2 => ?_
  simp only [List.length_map, List.length_range] at h1
  simp [List.getD_eq_getElem?_getD, h1]
end Ku

namespace Ku
open PySem PySem.Spec PyProof.Rows L2 Bx
theorem evI_lenI {C : Cxt} {nf n : Nat} {a : E} {g g1 : List D} (h : evE C nf a g = .ok (.int (n : Nat)) g1) (hn : n < 1000000) : evI C nf (.rng a) g = .ok ((List.range n).map (fun i => .int ((i : Nat) : Int)), []) g1 := by
  rw [evI_rng h hn]
  have := upTo_map n 0
  rw [show (((0 : Nat) : Int)) = 0 from rfl] at this
  rw [this, ← List.range_eq_range']
theorem row_names (n : Nat) : D.nd .own .lst (upTo 0 n) = rowD .own (namesN n) := by
  have := upTo_map n 0
  rw [show (((0 : Nat) : Int)) = 0 from rfl] at this
  rw [this, rowD, namesN, List.map_map, ← List.range_eq_range']
  rfl
theorem sub_rows {f h : Fl} {xs : List (List Int)} {i : Nat} (hi : i < xs.length) : subD (.nd f .lst (xs.map (rowD h))) (.int (i : Nat)) = some (rowD h (xs.getD i [])) := by
  show (ixD (xs.map (rowD h)).length (i : Nat)).bind (fun j => (xs.map (rowD h))[j]?) = _
  rw [ixD_nat (by simpa using hi)]
  show (xs.map (rowD h))[i]? = _
  rw [List.getElem?_map, List.getElem?_eq_getElem hi, List.getD_eq_getElem?_getD, List.getElem?_eq_getElem hi]
  rfl
theorem sub_row {f : Fl} {r : List Int} {i : Nat} (hi : i < r.length) : subD (rowD f r) (.int (i : Nat)) = some (.int (r.getD i 0)) := by
  show (ixD (r.map D.int).length (i : Nat)).bind (fun j => (r.map D.int)[j]?) = _
  rw [ixD_nat (by simpa using hi)]
  show (r.map D.int)[i]? = _
  rw [List.getElem?_map, List.getElem?_eq_getElem hi, List.getD_eq_getElem?_getD, List.getElem?_eq_getElem hi]
  rfl
/-- one road longer by each box -/
theorem ex_extend {C : Cxt} {nf i : Nat} {A : E} {g g1 : List D} {ds0 ds es : List D} {f : Fl} (hA : A.imp = false) (h0 : g[i]? = some (.nd .own .lst ds0)) (hc : evE C nf A g = .ok (.nd f .lst es) g1) (h1 : g1[i]? = some (.nd .own .lst ds))
    (hz : ds.length + es.length < 1000000) (hn1 : D.nbs ds = true) (hn2 : D.nbs es = true) : evS C nf (.ex (.mut (.var i .b) .extend (.cons A .nil))) g = .nx (g1.set i (.nd .own .lst (ds ++ es))) := by
  simp [evS, evE, evA, evI, evP, Rs.so, Rs.bind, ensure, E.imp, readV, D.sh, D.shs, D.nb, D.nbs, lentIf, Rs.of, So.of, So.ens, asgT, setAny, okn, optB, E.isNop, opD, isD, tyS, isTab, D.getp, D.setp, mmD, nbs_app, hA, h0, hc, h1, hz, hn1, hn2]
theorem ex_append {C : Cxt} {nf i : Nat} {A : E} {g g1 : List D} {ds0 ds : List D} {d : D} (hA : A.imp = false) (h0 : g[i]? = some (.nd .own .lst ds0)) (hc : evE C nf A g = .ok d g1) (h1 : g1[i]? = some (.nd .own .lst ds))
    (hz : ds.length < 1000000) (hn1 : D.nbs ds = true) (hn2 : d.nb = true) : evS C nf (.ex (.mut (.var i .b) .append (.cons A .nil))) g = .nx (g1.set i (.nd .own .lst (ds ++ [d]))) := by
  simp [evS, evE, evA, evI, evP, Rs.so, Rs.bind, ensure, E.imp, readV, D.sh, D.shs, D.nb, D.nbs, lentIf, Rs.of, So.of, So.ens, asgT, setAny, okn, optB, E.isNop, opD, isD, tyS, isTab, D.getp, D.setp, mmD, nbs_app, hA, h0, hc, h1, hz, hn1, hn2]
theorem c23 {C : Cxt} {v0 v1 v5 v6 v7 v8 v9 : D} {f3 f4 : Fl} {lg : List (List Int)} {p : List Str} {r : List Int} (hp : p.length < 1000) (hr : r.length < 1000) :
    ∃ f, evE C 0 (.comp (.op .add (.var 4 .s) (.lst (.cons (.var 9 .s) .nil))) .nop (.nm 9) (.rng (.bi .len (.cons (.var 2 .s) .nil))) [9]) [v0, v1, boxD f3 p, planD .own lg, rowD f4 r, v5, v6, v7, v8, v9] =
      .ok (.nd .own .lst (((List.range p.length).filter fun _ => true).map fun b => rowD .own (r ++ [((b : Nat) : Int)]))) [v0, v1, boxD .shr p, planD .own lg, rowD f r, v5, v6, v7, v8, .any] := by
  let P : List D → Prop := fun g => ∃ f, g = [v0, v1, boxD .shr p, planD .own lg, rowD f r, v5, v6, v7, v8, .any]
  have h0 : evE C 0 (.bi .len (.cons (.var 2 .s) .nil)) [v0, v1, boxD f3 p, planD .own lg, rowD f4 r, v5, v6, v7, v8, v9] = .ok (.int (p.length : Nat)) [v0, v1, boxD .shr p, planD .own lg, rowD f4 r, v5, v6, v7, v8, v9] := by
    simp [evE, evA, Rs.bind, ensure, readV, Rs.of, E.imp]
  have hpl : p.length < 1000000 := by omega
  obtain ⟨g', hc, f, rfl⟩ := comp_inv (C := C) (nf := 0) (e := .op .add (.var 4 .s) (.lst (.cons (.var 9 .s) .nil))) (c := .nop) (t := .nm 9) (own := [9]) (f := fun b : Nat => rowD .own (r ++ [((b : Nat) : Int)])) (b := fun _ => true) (enc := fun i : Nat => .int ((i : Nat) : Int)) (ks := []) P rfl (evI_lenI h0 hpl) (by rw [List.length_range]; exact hpl) ⟨f4, rfl⟩ fun x hx g hg => by
    obtain ⟨f, rfl⟩ := hg
    refine ⟨[v0, v1, boxD .shr p, planD .own lg, rowD .shr r, v5, v6, v7, v8, .any], ?_, .shr, rfl⟩
    have h2 : r.length + 1 < 1000000 := by omega
    have ho : opD .add (rowD .shr r) (.nd .own .lst [.int ((x : Nat) : Int)]) = some (rowD .own (r ++ [((x : Nat) : Int)])) := by
      simp [opD, rowD, okn, h2]
    simp [turnC, evE, evA, Rs.bind, ensure, E.imp, readV, D.sh, D.nb, D.nbs, Rs.of, asgT, setAny, okn, optB, E.isNop, ho]
  exact ⟨f, hc⟩
theorem t23 {C : Cxt} {v0 v1 v5 v6 v7 v8 v9 : D} {f3 f4 : Fl} {lg : List (List Int)} {p : List Str} {r : List Int} (hp : p.length < 1000) (hr : r.length < 1000) (hl : lg.length < 400000) :
    ∃ w4, evS C 0 b23_0 [v0, v1, boxD f3 p, planD .own lg, rowD f4 r, v5, v6, v7, v8, v9] = .nx [v0, v1, boxD .shr p, planD .own (lg ++ (List.range p.length).map fun b => r ++ [((b : Nat) : Int)]), w4, v5, v6, v7, v8, .any] := by
  obtain ⟨f, hc⟩ := c23 (C := C) (v0 := v0) (v1 := v1) (v5 := v5) (v6 := v6) (v7 := v7) (v8 := v8) (v9 := v9) (f3 := f3) (f4 := f4) (lg := lg) hp hr
  rw [List.filter_eq_self.mpr (fun _ _ => rfl)] at hc
  refine ⟨rowD f r, ?_⟩
  have e2 : planD .own (lg ++ (List.range p.length).map fun b => r ++ [((b : Nat) : Int)]) = .nd .own .lst (lg.map (rowD .own) ++ (List.range p.length).map fun b => rowD .own (r ++ [((b : Nat) : Int)])) := by
    rw [planD, List.map_append, List.map_map]
    rfl
  have hnb : D.nbs ((List.range p.length).map fun b => rowD .own (r ++ [((b : Nat) : Int)])) = true := by
    have := nbsR2 ((List.range p.length).map fun b => r ++ [((b : Nat) : Int)])
    rw [List.map_map] at this
    exact this
  have hx := ex_extend (i := 3) (ds0 := lg.map (rowD .own)) (ds := lg.map (rowD .own)) rfl rfl hc rfl (by rw [List.length_map, List.length_map, List.length_range]; omega) (nbsR2 lg) hnb
  refine (seq_nx hx).trans ?_
  rw [e2]
  rfl
theorem p23 {C : Cxt} {v0 v3 v4 v5 v6 v7 v8 v9 : D} {acc : List (List Int)} {p : List Str} (hp : Box p) (hr : ∀ r ∈ acc, r.length < 1000) (ha : acc.length < 1000) :
    ∃ w4 w9, evS C 0 b23_1 [v0, planD .own acc, boxD .shr p, v3, v4, v5, v6, v7, v8, v9] = .nx [v0, planD .own (lexS acc p), boxD .shr p, .any, w4, v5, v6, v7, v8, w9] := by
  let P : List (List Int) → List D → Prop := fun done g => ∃ x4 x9, g = [v0, planD .shr acc, boxD .shr p, planD .own (lexS done p), x4, v5, v6, v7, v8, x9]
  have hp3 := hp.2.1
  have lp : ∃ g', loopL (fun x g => match asgT 0 (.nm 4) x g with
      | none => .bad
      | some g => evS C 0 b23_0 g) (acc.map (rowD .shr))
      [v0, planD .shr acc, boxD .shr p, planD .own [], v4, v5, v6, v7, v8, v9] = .nx g' ∧ P acc g' := by
    refine loop_pre P (fun done r rest g e hq => ?_) _ ⟨_, _, rfl⟩
    obtain ⟨x4, x9, rfl⟩ := hq
    have hl : (lexS done p).length < 400000 := by
      have : (lexS done p).length = done.length * p.length := by
        unfold lexS
        rw [List.length_flatMap]
        simp [List.map_const', List.sum_replicate_nat]
      have h1 : done.length < 1000 := by
        have : acc.length = done.length + (rest.length + 1) := by rw [e]; simp
        omega
      have : done.length * p.length ≤ 1000 * 3 := Nat.mul_le_mul (by omega) hp3
      omega
    have hp9 : p.length < 1000 := by omega
    obtain ⟨w4, h⟩ := t23 (C := C) (v0 := v0) (v1 := planD .shr acc) (v5 := v5) (v6 := v6) (v7 := v7) (v8 := v8) (v9 := x9) (f3 := .shr) (f4 := .shr) (p := p) (r := r) (lg := lexS done p) hp9 (hr r (by rw [e]; simp)) hl
    have e2 : lexS (done ++ [r]) p = lexS done p ++ (List.range p.length).map fun b => r ++ [((b : Nat) : Int)] := by
      unfold lexS
      rw [List.flatMap_append]
      simp
    have ha : asgT 0 (.nm 4) (rowD .shr r) [v0, planD .shr acc, boxD .shr p, planD .own (lexS done p), x4, v5, v6, v7, v8, x9] = some [v0, planD .shr acc, boxD .shr p, planD .own (lexS done p), rowD .shr r, v5, v6, v7, v8, x9] := by simp [asgT]
    rw [ha]
    exact ⟨_, h, w4, .any, by rw [e2]⟩
  obtain ⟨g, hg, x4, x9, rfl⟩ := lp
  refine ⟨x4, x9, (seq_nx (g1 := [v0, planD .own acc, boxD .shr p, planD .own [], v4, v5, v6, v7, v8, v9]) ?_).trans ((seq_nx (for_nx (q := (acc.map (rowD .shr), [planD .shr acc])) (g1 := [v0, planD .shr acc, boxD .shr p, planD .own [], v4, v5, v6, v7, v8, v9]) ?_ ?_ hg)).trans ?_)⟩
  · have hr0 : planD .own [] = .nd .own .lst [] := rfl
    simp [evS, evE, evA, evI, evP, Rs.so, Rs.bind, ensure, E.imp, readV, D.sh, D.shs, D.nb, D.nbs, lentIf, Rs.of, So.of, So.ens, asgT, setAny, okn, optB, E.isNop, opD, isD, tyS, isTab, D.getp, D.setp, mmD, nbs_app, hr0]
  · simp [evS, evE, evA, evI, evP, Rs.so, Rs.bind, ensure, E.imp, readV, D.sh, D.shs, D.nb, D.nbs, lentIf, Rs.of, So.of, So.ens, asgT, setAny, okn, optB, E.isNop, opD, isD, tyS, isTab, D.getp, D.setp, mmD, nbs_app]
  · simp [E.lockd, D.nbs]
  · simp [evS, evE, evA, evI, evP, Rs.so, Rs.bind, ensure, E.imp, readV, D.sh, D.shs, D.nb, D.nbs, lentIf, Rs.of, So.of, So.ens, asgT, setAny, okn, optB, E.isNop, opD, isD, tyS, isTab, D.getp, D.setp, mmD, nbs_app]
end Ku

namespace Ku
open PySem PySem.Spec PyProof.Rows L2 Bx
theorem setc_ev {C : Cxt} {nf i : Nat} {e c it : E} {t : Tg} {own : List Nat} {g g1 g2 : List D} {d : D} (hc : evE C nf (.comp e c t it own) g = .ok d g1) (ha : asgT nf (.nm i) d g1 = some g2) : evS C nf (.setc i e c t it own) g = .nx g2 := by
  rw [evS, hc]
  show So.of (asgT nf (.nm i) d g1) = _
  rw [ha]
  rfl
theorem set_ev {C : Cxt} {nf i : Nat} {e : E} {g g1 g2 : List D} {d : D} (hc : evE C nf e g = .ok d g1) (ha : asgT nf (.nm i) d g1 = some g2) : evS C nf (.set i e) g = .nx g2 := by
  rw [evS, hc]
  show So.of (asgT nf (.nm i) d g1) = _
  rw [ha]
  rfl
theorem ret_ev {C : Cxt} {nf : Nat} {e : E} {g g1 : List D} {d : D} (hc : evE C nf e g = .ok d g1) (hn : d.nb = true) : evS C nf (.cons (.ret e) .nil) g = .ret d g1 := by
  have h : evS C nf (.ret e) g = .ret d g1 := by
    rw [evS, hc]
    show So.ens d.nb _ = _
    rw [hn]
    rfl
  rw [evS, h]
theorem lrng_ev {C : Cxt} {nf n : Nat} {a : E} {g g1 : List D} (h : evE C nf a g = .ok (.int (n : Nat)) g1) (hn : n < 1000000) : evE C nf (.lrng a) g = .ok (rowD .own (namesN n)) g1 := by
  have gen : ∀ r : Int, (-1152921504606846976 : Int) < r → r < 1000000 → evE C nf a g = .ok (.int r) g1 → evE C nf (.lrng a) g = .ok (.nd .own .lst (upTo 0 r.toNat)) g1 := fun r b1 b2 h => by
    simp [evE, h, Rs.bind, ensure, b1, b2]
  rw [gen (n : Nat) (by omega) (by omega) h, ← row_names]
  rfl
theorem sub_last {f h : Fl} {xs : List (List Int)} {x : List Int} (e : xs.getLast? = some x) : subD (.nd f .lst (xs.map (rowD h))) (.int (-1)) = some (rowD h x) := by
  obtain ⟨ys, rfl⟩ := List.getLast?_eq_some_iff.mp e
  rw [List.map_append]
  exact sub_neg1
theorem lex_len81 {ps : List (List Str)} (h4 : ps.length ≤ 4) (hp : ∀ p ∈ ps, Box p) : (lexP ps).length ≤ 81 := by rw [lex_len]; exact paths_81 h4 hp
theorem lex_road {ps : List (List Str)} {r : List Int} (h : r ∈ lexP ps) : Road ps r := (mem_lex _ ps r rfl).mp h
theorem lex_pos {ps : List (List Str)} (hp : ∀ p ∈ ps, Box p) : 0 < (lexP ps).length := by
  have : ∀ ps : List (List Str), (∀ p ∈ ps, Box p) → Road ps (List.replicate ps.length 0) := by
    intro ps
    induction ps with
    | nil => intro _; trivial
    | cons p ps ih => intro h; exact ⟨⟨Int.le_refl _, by have := (h p (List.mem_cons_self ..)).1; omega⟩, ih fun q hq => h q (List.mem_cons_of_mem _ hq)⟩
  exact List.length_pos_of_mem ((mem_lex _ ps _ rfl).mpr (this ps hp))
/-- a plan's row by the roads -/
theorem i23 {C : Cxt} {v0 v2 v3 v4 v5 v6 v8 v9 : D} {xs : List (List Int)} {t : Nat} (hx : xs.length < 1000) (ht : ∀ r ∈ xs, t < r.length) :
    evE C 0 (.comp (.ix (.var 4 .s) (.var 7 .s)) .nop (.nm 4) (.src (.var 1 .s)) [4]) [v0, planD .shr xs, v2, v3, v4, v5, v6, .int (t : Nat), v8, v9] = .ok (rowD .own (xs.map fun r => r.getD t 0)) [v0, planD .shr xs, v2, v3, .any, v5, v6, .int (t : Nat), v8, v9] := by
  have e : rowD .own (xs.map fun r => r.getD t 0) = .nd .own .lst (xs.map fun r => .int (r.getD t 0)) := by
    rw [rowD, List.map_map]
    rfl
  rw [e]
  refine comp_map (enc := rowD .shr) (ks := [planD .shr xs]) (g1 := [v0, planD .shr xs, v2, v3, v4, v5, v6, .int (t : Nat), v8, v9]) rfl ?_ (by omega) fun r hr => ?_
  · simp [evS, evE, evA, evI, evP, Rs.so, Rs.bind, ensure, E.imp, readV, D.sh, D.shs, D.nb, D.nbs, lentIf, Rs.of, So.of, So.ens, asgT, setAny, okn, optB, E.isNop, opD, isD, tyS, isTab, D.getp, D.setp, mmD, nbs_app]
  · have hs := sub_row (f := .shr) (ht r hr)
    simp [turnC, evS, evE, evA, evI, evP, Rs.so, Rs.bind, ensure, E.imp, readV, D.sh, D.shs, D.nb, D.nbs, lentIf, Rs.of, So.of, So.ens, asgT, setAny, okn, optB, E.isNop, opD, isD, tyS, isTab, D.getp, D.setp, mmD, nbs_app, hs]
theorem o23 {C : Cxt} {ps : List (List Str)} {v2 v3 v4 v5 v9 : D} {xs : List (List Int)} (h4 : ps.length ≤ 4) (hx : xs.length < 1000) (ht : ∀ r ∈ xs, r.length = ps.length) :
    ∃ w4, evS C 0 (.setc 6 (.comp (.ix (.var 4 .s) (.var 7 .s)) .nop (.nm 4) (.src (.var 1 .s)) [4]) .nop (.nm 7) (.rng (.bi .len (.cons (.var 0 .s) .nil))) [7]) [passD .shr ps, planD .shr xs, v2, v3, v4, v5, .any, .any, .any, v9] =
      .nx [passD .shr ps, planD .shr xs, v2, v3, w4, v5, planD .own ((List.range ps.length).map fun t => xs.map fun r => r.getD t 0), .any, .any, v9] := by
  let P : List D → Prop := fun g => ∃ w4, g = [passD .shr ps, planD .shr xs, v2, v3, w4, v5, .any, .any, .any, v9]
  have h0 : evE C 0 (.bi .len (.cons (.var 0 .s) .nil)) [passD .shr ps, planD .shr xs, v2, v3, v4, v5, .any, .any, .any, v9] = .ok (.int (ps.length : Nat)) [passD .shr ps, planD .shr xs, v2, v3, v4, v5, .any, .any, .any, v9] := by
    simp [evE, evA, Rs.bind, ensure, readV, Rs.of, E.imp]
  have hpl : ps.length < 1000000 := by omega
  obtain ⟨g', hc, w4, rfl⟩ := comp_inv (C := C) (nf := 0) (e := .comp (.ix (.var 4 .s) (.var 7 .s)) .nop (.nm 4) (.src (.var 1 .s)) [4]) (c := .nop) (t := .nm 7) (own := [7]) (f := fun t : Nat => rowD .own (xs.map fun r => r.getD t 0)) (b := fun _ => true) (enc := fun i : Nat => .int ((i : Nat) : Int)) (ks := []) P rfl (evI_lenI h0 hpl) (by rw [List.length_range]; exact hpl) ⟨v4, rfl⟩ fun t hx' g hg => by
    obtain ⟨w4, rfl⟩ := hg
    refine ⟨[passD .shr ps, planD .shr xs, v2, v3, .any, v5, .any, .any, .any, v9], ?_, .any, rfl⟩
    have hi := i23 (C := C) (v0 := passD .shr ps) (v2 := v2) (v3 := v3) (v4 := w4) (v5 := v5) (v6 := .any) (v8 := .any) (v9 := v9) (t := t) hx fun r hr => by rw [ht r hr]; exact List.mem_range.mp hx'
    generalize E.comp (.ix (.var 4 .s) (.var 7 .s)) .nop (.nm 4) (.src (.var 1 .s)) [4] = A at hi ⊢
    simp [turnC, asgT, D.nb, optB, E.isNop, Rs.bind, hi, setAny]
  refine ⟨w4, ?_⟩
  rw [List.filter_eq_self.mpr (fun _ _ => rfl)] at hc
  have e2 : planD .own ((List.range ps.length).map fun t => xs.map fun r => r.getD t 0) = .nd .own .lst ((List.range ps.length).map fun t => rowD .own (xs.map fun r => r.getD t 0)) := by
    rw [planD, List.map_map]
    rfl
  rw [← e2] at hc
  exact setc_ev hc (by simp [asgT])
theorem e23 {T : Tab} (B : Hs T [18, 23]) (n : Nat) (ps : List (List Str)) (h4 : ps.length ≤ 4) (hp : ∀ p ∈ ps, Box p) : ∃ o, callD T (n + 2) 23 [passD .shr ps] = .ok (rowsD .own .shr ((pathsP ps).map (·.1))) o := by
  rw [call_fn (fd := f23) (B.at (i := 23) rfl rfl)]
  let P : List (List Str) → List D → Prop := fun done g => ∃ x2 x3 x4 x9, g = [passD .shr ps, planD .own (lexP done), x2, x3, x4, .any, .any, .any, .any, x9]
  have lp : ∃ g', loopL (fun x g => match asgT 0 (.nm 2) x g with
      | none => .bad
      | some g => evS (T.cx (callD T (n + 1))) 0 b23_1 g) (ps.map (boxD .shr))
      [passD .shr ps, planD .own [[]], .any, .any, .any, .any, .any, .any, .any, .any] = .nx g' ∧ P ps g' := by
    refine loop_pre P (fun done p rest g e hq => ?_) _ ⟨_, _, _, _, rfl⟩
    obtain ⟨x2, x3, x4, x9, rfl⟩ := hq
    have hd : done.length ≤ 4 := by
      have : ps.length = done.length + (rest.length + 1) := by rw [e]; simp
      omega
    have hpd : ∀ q ∈ done, Box q := fun q hq => hp q (by rw [e]; simp [hq])
    have h81 := lex_len81 hd hpd
    obtain ⟨w4, w9, ht⟩ := p23 (C := T.cx (callD T (n + 1))) (v0 := passD .shr ps) (v3 := x3) (v4 := x4) (v5 := .any) (v6 := .any) (v7 := .any) (v8 := .any) (v9 := x9) (acc := lexP done) (hp p (by rw [e]; simp)) (fun r hr => by
      rw [(lex_road hr).len]
      omega) (by omega)
    have ha : asgT 0 (.nm 2) (boxD .shr p) [passD .shr ps, planD .own (lexP done), x2, x3, x4, .any, .any, .any, .any, x9] = some [passD .shr ps, planD .own (lexP done), boxD .shr p, x3, x4, .any, .any, .any, .any, x9] := by simp [asgT]
    rw [ha]
    exact ⟨_, ht, boxD .shr p, .any, w4, w9, by rw [lexP_snoc]⟩
  obtain ⟨g, hg, x2, x3, x4, x9, rfl⟩ := lp
  have h81 := lex_len81 h4 hp
  have hsent := all_sent hp
  have hroad : ∀ l ∈ namesN (lexP ps).length, Road ps ((lexP ps).getD l.toNat []) := fun l hl => by
    rw [mem_names] at hl
    have hl' : l.toNat < (lexP ps).length := by omega
    rw [List.getD_eq_getElem?_getD, List.getElem?_eq_getElem hl', Option.getD_some]
    exact lex_road (List.getElem_mem hl')
  have hplan := plan_roads (ls := namesN (lexP ps).length) hroad
  have eplan : ((List.range ps.length).map fun t => (namesN (lexP ps).length).map fun l => ((lexP ps).getD l.toNat []).getD t 0) = (List.range ps.length).map fun t => (lexP ps).map fun r => r.getD t 0 :=
    List.map_congr_left fun t _ => names_map (lexP ps) fun r => r.getD t 0
  rw [eplan] at hplan hsent
  have hnl : (namesN (lexP ps).length).length = (lexP ps).length := by simp [namesN]
  obtain ⟨o18, h18⟩ := e18 (T := T) (B.sub rfl) n _ (names_nodup (lexP ps).length) (by omega) ps _ (by omega) hp hplan
  have hlast := thru_last (namesN (lexP ps).length) _ (ps.zip ((List.range ps.length).map fun t => (lexP ps).map fun r => r.getD t 0)) rfl
  obtain ⟨t1, t2, _⟩ := thru_perm rfl _ (ps.zip ((List.range ps.length).map fun t => (lexP ps).map fun r => r.getD t 0)) rfl fun x hx => ⟨hplan.zip.2 x hx, (hp _ (List.of_mem_zip (show (x.1, x.2) ∈ ps.zip ((List.range ps.length).map fun t => (lexP ps).map fun r => r.getD t 0) from hx)).1).1⟩
  have hr4 : (thru (namesN (lexP ps).length) (ps.zip ((List.range ps.length).map fun t => (lexP ps).map fun r => r.getD t 0))).1.length ≤ 4 := by
    rw [t2, List.length_zip]
    omega
  generalize (thru (namesN (lexP ps).length) (ps.zip ((List.range ps.length).map fun t => (lexP ps).map fun r => r.getD t 0))).2 = last at hsent hlast t1
  generalize (thru (namesN (lexP ps).length) (ps.zip ((List.range ps.length).map fun t => (lexP ps).map fun r => r.getD t 0))).1 = rows at h18 hlast hr4
  generalize hpp : ((List.range ps.length).map fun t => (lexP ps).map fun r => r.getD t 0) = plan at h18
  obtain ⟨w4, h6⟩ := o23 (C := T.cx (callD T (n + 1))) (v2 := x2) (v3 := x3) (v4 := x4) (v5 := rowD .own (namesN (lexP ps).length)) (v9 := x9) (xs := lexP ps) h4 (by omega) fun r hr => (lex_road hr).len
  rw [hpp] at h6
  have h5 : evE (T.cx (callD T (n + 1))) 0 (.lrng (.bi .len (.cons (.var 1 .s) .nil))) [passD .shr ps, planD .own (lexP ps), x2, x3, x4, .any, .any, .any, .any, x9] = .ok (rowD .own (namesN (lexP ps).length)) [passD .shr ps, planD .shr (lexP ps), x2, x3, x4, .any, .any, .any, .any, x9] := by
    refine lrng_ev ?_ (by omega)
    simp [evE, evA, Rs.bind, ensure, readV, Rs.of, E.imp]
  have lastlt : ∀ i ∈ last, 0 ≤ i ∧ i < (lexP ps).length := fun i hi => mem_names.mp (t1.mem_iff.mp hi)
  have lastlen : last.length < 1000000 := by rw [t1.length_eq, hnl]; omega
  generalize hNm : namesN (lexP ps).length = names at *
  have hit : evE (T.cx (callD T (n + 1))) 0 (.ix (.op .add (.lst (.cons (.var 5 .s) .nil)) (.call 18 (.cons (.var 5 .s) (.cons (.var 0 .s) (.cons (.var 6 .s) .nil))))) (.neg (.int 1))) [passD .shr ps, planD .shr (lexP ps), x2, x3, w4, rowD .own names, planD .own plan, .any, .any, x9] =
      .ok (rowD .shr last) [passD .shr ps, planD .shr (lexP ps), x2, x3, w4, rowD .shr names, planD .shr plan, .any, .any, x9] := by
    have ha : opD .add (.nd .own .lst [rowD .shr names]) (.nd .own .lst (rows.map (rowD .shr))) = some (.nd .own .lst ((names :: rows).map (rowD .shr))) := by
      show (if okn ([rowD .shr names].length + (rows.map (rowD .shr)).length) = true then _ else none) = _
      rw [if_pos (by simp [okn]; omega)]
      rfl
    have hs := sub_last (f := .own) (h := .shr) hlast
    generalize (names :: rows).map (rowD .shr) = R at ha hs
    simp [evE, evA, Rs.bind, ensure, readV, Rs.of, E.imp, D.shs, D.nbs, D.nb, okn, h18, lentIf, ha, hs]
  have hc : evE (T.cx (callD T (n + 1))) 0 (.comp (.ix (.var 1 .s) (.var 8 .s)) .nop (.nm 8) (.src (.ix (.op .add (.lst (.cons (.var 5 .s) .nil)) (.call 18 (.cons (.var 5 .s) (.cons (.var 0 .s) (.cons (.var 6 .s) .nil))))) (.neg (.int 1)))) [8]) [passD .shr ps, planD .shr (lexP ps), x2, x3, w4, rowD .own names, planD .own plan, .any, .any, x9] =
      .ok (.nd .own .lst (last.map fun i => rowD .shr ((lexP ps).getD i.toNat []))) [passD .shr ps, planD .shr (lexP ps), x2, x3, w4, rowD .shr names, planD .shr plan, .any, .any, x9] := by
    refine comp_map (enc := D.int) (ks := [rowD .shr last]) (g1 := [passD .shr ps, planD .shr (lexP ps), x2, x3, w4, rowD .shr names, planD .shr plan, .any, .any, x9]) rfl ?_ lastlen fun i hi => ?_
    · simp only [evI, hit, Rs.bind, liR, Rs.of]
    · obtain ⟨h0, h1⟩ := lastlt i hi
      have hs : subD (planD .shr (lexP ps)) (.int i) = some (rowD .shr ((lexP ps).getD i.toNat [])) := by
        have := sub_rows (f := .shr) (h := .shr) (xs := lexP ps) (i := i.toNat) (by omega)
        rwa [Int.toNat_of_nonneg h0] at this
      simp [turnC, evS, evE, evA, evI, evP, Rs.so, Rs.bind, ensure, E.imp, readV, D.sh, D.shs, D.nb, D.nbs, lentIf, Rs.of, So.of, So.ens, asgT, setAny, okn, optB, E.isNop, opD, isD, tyS, isTab, D.getp, D.setp, mmD, nbs_app, hs]
  have er : (last.map fun i => rowD .shr ((lexP ps).getD i.toNat [])) = (((pathsP ps).map (·.1)).map (rowD .shr)) := by
    rw [← hsent, List.map_map]
    rfl
  rw [er] at hc
  have hnb : (rowsD .own .shr ((pathsP ps).map (·.1))).nb = true := nbRs _
  refine ⟨_, run_ok (g := [passD .shr ps, planD .shr (lexP ps), x2, x3, w4, rowD .shr names, planD .shr plan, .any, .any, x9]) rfl ((seq_nx (g1 := [passD .shr ps, planD .own [[]], .any, .any, .any, .any, .any, .any, .any, .any]) ?_).trans ((seq_nx (for_nx (q := (ps.map (boxD .shr), [passD .shr ps])) (g1 := [passD .shr ps, planD .own [[]], .any, .any, .any, .any, .any, .any, .any, .any]) ?_ ?_ hg)).trans ((seq_nx (g1 := [passD .shr ps, planD .shr (lexP ps), x2, x3, x4, rowD .own names, .any, .any, .any, x9]) ?_).trans ((seq_nx h6).trans ?_)))) hnb⟩
  · have hr0 : planD .own [[]] = .nd .own .lst [.nd .own .lst []] := rfl
    simp [f23, evS, evE, evA, evI, evP, Rs.so, Rs.bind, ensure, E.imp, readV, D.sh, D.shs, D.nb, D.nbs, lentIf, Rs.of, So.of, So.ens, asgT, setAny, okn, optB, E.isNop, opD, isD, tyS, isTab, D.getp, D.setp, mmD, nbs_app, hr0]
  · simp [f23, evS, evE, evA, evI, evP, Rs.so, Rs.bind, ensure, E.imp, readV, D.sh, D.shs, D.nb, D.nbs, lentIf, Rs.of, So.of, So.ens, asgT, setAny, okn, optB, E.isNop, opD, isD, tyS, isTab, D.getp, D.setp, mmD, nbs_app]
  · simp [E.lockd, D.nbs]
  · exact set_ev h5 (by simp [asgT])
  · have e0 : D.nd .own .lst (((pathsP ps).map (·.1)).map (rowD .shr)) = rowsD .own .shr ((pathsP ps).map (·.1)) := rfl
    rw [e0] at hc
    exact ret_ev hc hnb
end Ku

namespace Ku
open PySem PySem.Spec PyProof.Rows L2 Bx
theorem one_group {ls : List Int} {r : List Int} {t : Bool} : ∀ {xs : List (List Int × Bool)}, (xs.map (·.1)).Nodup → (r, t) ∈ xs → (xs.flatMap fun x => turnIf x.2 (ls.filter fun _ => r = x.1)) = turnIf t ls
  | [], _, h => nomatch h
  | x :: xs, hn, h => by
    rw [List.map_cons, List.nodup_cons] at hn
    rw [List.flatMap_cons]
    have none : ∀ ys : List (List Int × Bool), (∀ y ∈ ys, r ≠ y.1) → (ys.flatMap fun x => turnIf x.2 (ls.filter fun _ => r = x.1)) = [] := by
      intro ys
      induction ys with
      | nil => intro _; rfl
      | cons y ys ih =>
        intro hy
        rw [List.flatMap_cons, ih fun z hz => hy z (List.mem_cons_of_mem _ hz)]
        have := hy y (List.mem_cons_self ..)
        have e : (ls.filter fun _ => r = y.1) = [] := by simp [this]
        rw [e]
        cases y.2 <;> rfl
    rcases List.mem_cons.mp h with e | h
    · subst e
      rw [none xs fun y hy e => hn.1 (List.mem_map.mpr ⟨y, hy, e.symm⟩), List.append_nil]
      have e : (ls.filter fun _ => r = r) = ls := List.filter_eq_self.mpr fun _ _ => by simp
      show turnIf t (ls.filter fun _ => r = r) = _
      rw [e]
    · have hne : r ≠ x.1 := fun e => hn.1 (e ▸ List.mem_map.mpr ⟨_, h, rfl⟩)
      have e : (ls.filter fun _ => r = x.1) = [] := by simp [hne]
      rw [e, one_group hn.2 h]
      cases x.2 <;> rfl
/-- two letters along one road -/
theorem pair_sent {ps : List (List Str)} (hp : ∀ p ∈ ps, Box p) {r : List Int} {t : Bool} (h : (r, t) ∈ pathsP ps) (ls : List Int) : (thru ls (ps.zip ((List.range ps.length).map fun t => ls.map fun _ => r.getD t 0))).2 = turnIf t ls := by
  have := send (ls := ls) (f := fun _ => r) hp fun _ _ => rows_len h
  rw [this]
  exact one_group (paths_nodup ps) h
theorem rows_two {r : List Int} {n : Nat} (h : r.length = n) (a b : Int) : ((List.range n).map fun t => [a, b].map fun _ => r.getD t 0) = r.map fun v => [v, v] := by
  refine List.ext_getElem (by simp [h]) fun i h1 h2 => ?_
  simp only [List.length_map, List.length_range] at h1
  have h3 : i < r.length := by omega
  simp [List.getD_eq_getElem?_getD, h3]
theorem c24 {C : Cxt} {v0 v2 v3 : D} {r : List Int} (hr : r.length < 1000) : evE C 0 (.comp (.lst (.cons (.var 3 .s) (.cons (.var 3 .s) .nil))) .nop (.nm 3) (.src (.var 1 .s)) [3]) [v0, rowD .shr r, v2, v3] = .ok (planD .own (r.map fun v => [v, v])) [v0, rowD .shr r, v2, .any] := by
  have e : planD .own (r.map fun v => [v, v]) = .nd .own .lst (r.map fun v => .nd .own .lst [.int v, .int v]) := by
    rw [planD, List.map_map]
    rfl
  rw [e]
  refine comp_map (enc := D.int) (ks := [rowD .shr r]) (g1 := [v0, rowD .shr r, v2, v3]) rfl ?_ (by omega) fun v _ => ?_
  · simp [evS, evE, evA, evI, evP, Rs.so, Rs.bind, ensure, E.imp, readV, D.sh, D.shs, D.nb, D.nbs, lentIf, Rs.of, So.of, So.ens, asgT, setAny, okn, optB, E.isNop, opD, isD, tyS, isTab, D.getp, D.setp, mmD, nbs_app]
  · simp [turnC, evS, evE, evA, evI, evP, Rs.so, Rs.bind, ensure, E.imp, readV, D.sh, D.shs, D.nb, D.nbs, lentIf, Rs.of, So.of, So.ens, asgT, setAny, okn, optB, E.isNop, opD, isD, tyS, isTab, D.getp, D.setp, mmD, nbs_app]
theorem e24 {T : Tab} (B : Hs T [18, 24]) (n : Nat) (ps : List (List Str)) (h4 : ps.length ≤ 4) (hp : ∀ p ∈ ps, Box p) {r : List Int} {t : Bool} (hr : (r, t) ∈ pathsP ps) : ∃ o, callD T (n + 2) 24 [passD .shr ps, rowD .shr r] = .ok (.bl t) o := by
  rw [call_fn (fd := f24) (B.at (i := 24) rfl rfl)]
  have hroad := rows_len hr
  have hplan := plan_roads (ps := ps) (ls := [0, 1]) (f := fun _ => r) fun _ _ => hroad
  have hsent := pair_sent hp hr [0, 1]
  rw [rows_two hroad.len] at hplan hsent
  obtain ⟨o18, h18⟩ := e18 (T := T) (B.sub rfl) n [0, 1] (by decide) (by decide) ps _ (by omega) hp hplan
  have hlast := thru_last [0, 1] _ (ps.zip (r.map fun v => [v, v])) rfl
  obtain ⟨t1, t2, _⟩ := thru_perm rfl _ (ps.zip (r.map fun v => [v, v])) rfl fun x hx => ⟨hplan.zip.2 x hx, (hp _ (List.of_mem_zip (show (x.1, x.2) ∈ ps.zip (r.map fun v => [v, v]) from hx)).1).1⟩
  have hr4 : (thru [0, 1] (ps.zip (r.map fun v => [v, v]))).1.length ≤ 4 := by
    rw [t2, List.length_zip]
    omega
  rw [hsent] at hlast
  generalize (thru [0, 1] (ps.zip (r.map fun v => [v, v]))).1 = rows at h18 hlast hr4
  have ha : opD .add (.nd .own .lst [.nd .own .lst [.int 0, .int 1]]) (.nd .own .lst (rows.map (rowD .shr))) = some (.nd .own .lst (rowD .own [0, 1] :: rows.map (rowD .shr))) := by
    show (if okn ([D.nd .own .lst [.int 0, .int 1]].length + (rows.map (rowD .shr)).length) = true then _ else none) = _
    rw [if_pos (by simp [okn]; omega)]
    rfl
  have hs : ∃ f, subD (.nd .own .lst (rowD .own [0, 1] :: rows.map (rowD .shr))) (.int (-1)) = some (rowD f (turnIf t [0, 1])) := by
    by_cases e : rows = []
    · subst e
      refine ⟨.own, ?_⟩
      have : turnIf t [0, 1] = [0, 1] := by simpa using hlast.symm
      rw [this]
      exact sub_neg1 (xs := [])
    · refine ⟨.shr, ?_⟩
      obtain ⟨ys, y, rfl⟩ : ∃ ys y, rows = ys ++ [y] := ⟨rows.dropLast, rows.getLast e, (List.dropLast_concat_getLast e).symm⟩
      have : y = turnIf t [0, 1] := by
        rw [← List.cons_append, List.getLast?_concat] at hlast
        exact Option.some.inj hlast
      subst this
      rw [List.map_append]
      exact sub_neg1 (xs := rowD .own [0, 1] :: ys.map (rowD .shr))
  obtain ⟨f, hs⟩ := hs
  have hcmp : cmpD .eq (rowD f (turnIf t [0, 1])) (.nd .own .lst [.int 1, .int 0]) = some t := by
    have h1 := (cmp_row f .own (turnIf t [0, 1]) [1, 0]).1
    have h2 : decide (turnIf t [0, 1] = [1, 0]) = t := by cases t <;> decide
    rw [h2] at h1
    exact h1
  have hc := c24 (C := T.cx (callD T (n + 1))) (v0 := passD .shr ps) (v2 := .any) (v3 := .any) (r := r) (by rw [hroad.len]; omega)
  have h18' : callD T (n + 1) 18 [.nd .shr .lst [.int 0, .int 1], passD .shr ps, planD .shr (r.map fun v => [v, v])] = .ok (.nd .own .lst (rows.map (rowD .shr))) o18 := h18
  refine ⟨_, run_ok (g := [passD .shr ps, rowD .shr r, planD .shr (r.map fun v => [v, v]), .any]) rfl ((seq_nx (g1 := [passD .shr ps, rowD .shr r, planD .own (r.map fun v => [v, v]), .any]) ?_).trans ?_) rfl⟩
  · exact setc_ev hc (by simp [f24, asgT])
  · refine ret_ev ?_ rfl
    have hnr := nbsR1 rows
    generalize rows.map (rowD .shr) = R at ha hs h18' hnr
    simp [evE, evA, Rs.bind, ensure, readV, Rs.of, E.imp, D.sh, D.shs, D.nbs, D.nb, okn, h18', lentIf, ha, hs, hcmp, hnr]
end Ku

namespace Ku
open PySem PySem.Spec PyProof.Rows L2 Bx
theorem as_range {α : Type} (xs : List α) (d : α) : xs = (List.range xs.length).map fun k => xs.getD k d := by
  refine List.ext_getElem (by simp) fun i h1 h2 => ?_
  simp [List.getD_eq_getElem?_getD, h1]
theorem flat_range {α β : Type} (xs : List α) (d : α) (G : α → List β) : xs.flatMap G = (List.range xs.length).flatMap fun k => G (xs.getD k d) := by
  have h := congrArg (fun ys => List.flatMap G ys) (as_range xs d)
  rw [h, List.flatMap_map]
theorem names_sorted (n : Nat) : (namesN n).Pairwise (· ≤ ·) := by
  unfold namesN
  rw [List.pairwise_map]
  exact List.pairwise_lt_range.imp fun h => by omega
theorem sort_names {names : List Int} {n : Nat} (hn : names.Nodup) (hm : ∀ x ∈ names, 0 ≤ x ∧ x < n) : isort names = (namesN n).filter fun x => x ∈ names := by
  refine sorted_one ((isort_perm _).trans ?_) (isort_sorted _) ((names_sorted n).filter _)
  refine (List.perm_ext_iff_of_nodup hn ((names_nodup n).filter _)).mpr fun x => ?_
  rw [List.mem_filter, mem_names, decide_eq_true_eq]
  exact ⟨fun h => ⟨hm x h, h⟩, fun h => h.2⟩
/-- the letter that has a road's number -/
theorem group_at {R : List (List Int)} {names ls : List Int} (hR : R.Nodup) (hn : names.Nodup) (hm : ∀ x ∈ names, 0 ≤ x ∧ x < R.length) (hl : ls.Nodup) (hlen : names.length = ls.length) {k : Nat} (hk : k < R.length) :
    (ls.filter fun l => R.getD (names.getD (ls.idxOf l) 0).toNat [] = R.getD k []) = if ((k : Nat) : Int) ∈ names then [ls.getD (names.idxOf ((k : Nat) : Int)) 0] else [] := by
  have key : ∀ l ∈ ls, (R.getD (names.getD (ls.idxOf l) 0).toNat [] = R.getD k []) ↔ names.getD (ls.idxOf l) 0 = ((k : Nat) : Int) := fun l h => by
    have hi := List.idxOf_lt_length_of_mem h
    have hi2 : ls.idxOf l < names.length := by omega
    have hb := hm _ (List.getElem_mem hi2)
    have e1 : names.getD (ls.idxOf l) 0 = names[ls.idxOf l] := by rw [List.getD_eq_getElem?_getD, List.getElem?_eq_getElem hi2]; rfl
    rw [e1]
    have hb2 : (names[ls.idxOf l]).toNat < R.length := by omega
    constructor
    · intro e
      rw [List.getD_eq_getElem?_getD, List.getElem?_eq_getElem hb2, List.getD_eq_getElem?_getD, List.getElem?_eq_getElem hk] at e
      simp only [Option.getD_some] at e
      have h1 := idx_at hR hb2
      have h2 := idx_at hR hk
      rw [e, h2] at h1
      omega
    · intro e
      rw [e, Int.toNat_natCast]
  by_cases h : ((k : Nat) : Int) ∈ names
  · rw [if_pos h]
    have hj := List.idxOf_lt_length_of_mem h
    have hj2 : names.idxOf ((k : Nat) : Int) < ls.length := by omega
    refine List.perm_singleton.mp ((List.perm_ext_iff_of_nodup (hl.filter _) (by simp)).mpr fun l => ?_)
    have eg : ls.getD (names.idxOf ((k : Nat) : Int)) 0 = ls[names.idxOf ((k : Nat) : Int)] := by rw [List.getD_eq_getElem?_getD, List.getElem?_eq_getElem hj2]; rfl
    rw [List.mem_filter, List.mem_singleton, decide_eq_true_eq, eg]
    constructor
    · rintro ⟨h1, h2⟩
      have hi := List.idxOf_lt_length_of_mem h1
      have hi2 : ls.idxOf l < names.length := by omega
      have e := (key l h1).mp h2
      rw [List.getD_eq_getElem?_getD, List.getElem?_eq_getElem hi2, Option.getD_some] at e
      have h3 := idx_at hn hi2
      rw [e] at h3
      have h4 : ls[ls.idxOf l] = l := List.getElem_idxOf hi
      simp only [h3]
      exact h4.symm
    · intro e
      have h1 : l ∈ ls := e ▸ List.getElem_mem hj2
      refine ⟨h1, (key l h1).mpr ?_⟩
      have h3 : ls.idxOf l = names.idxOf ((k : Nat) : Int) := by rw [e]; exact idx_at hl hj2
      rw [h3, List.getD_eq_getElem?_getD, List.getElem?_eq_getElem hj, Option.getD_some]
      exact List.getElem_idxOf hj
  · rw [if_neg h]
    refine List.filter_eq_nil_iff.mpr fun l h1 => ?_
    rw [decide_eq_true_eq, key l h1]
    have hi := List.idxOf_lt_length_of_mem h1
    have hi2 : ls.idxOf l < names.length := by omega
    rw [List.getD_eq_getElem?_getD, List.getElem?_eq_getElem hi2, Option.getD_some]
    intro e
    exact h (e ▸ List.getElem_mem hi2)
theorem turn_few (t : Bool) (a : Int) (c : Prop) [Decidable c] : turnIf t (if c then [a] else []) = if c then [a] else [] := by
  by_cases h : c <;> cases t <;> simp [turnIf, h]
/-- letters of unlike roads come out by their roads' numbers -/
theorem send_names {ps : List (List Str)} (hp : ∀ p ∈ ps, Box p) {names ls : List Int} (hn : names.Nodup) (hm : ∀ x ∈ names, 0 ≤ x ∧ x < ((pathsP ps).map (·.1)).length) (hl : ls.Nodup) (hlen : names.length = ls.length) :
    (thru ls (ps.zip ((List.range ps.length).map fun t => names.map fun x => (((pathsP ps).map (·.1)).getD x.toNat []).getD t 0))).2 = (isort names).map fun x => ls.getD (names.idxOf x) 0 := by
  have hmap : ∀ t : Nat, (ls.map fun l => (((pathsP ps).map (·.1)).getD (names.getD (ls.idxOf l) 0).toNat []).getD t 0) = names.map fun x => (((pathsP ps).map (·.1)).getD x.toNat []).getD t 0 := fun t => by
    refine List.ext_getElem (by simp [hlen]) fun i h1 h2 => ?_
    simp only [List.length_map] at h1
    have h3 : i < names.length := by omega
    rw [List.getElem_map, List.getElem_map, idx_at hl h1]
    rw [List.getD_eq_getElem?_getD (l := names), List.getElem?_eq_getElem h3]
    rfl
  have hroad : ∀ l ∈ ls, Road ps (((pathsP ps).map (·.1)).getD (names.getD (ls.idxOf l) 0).toNat []) := fun l h => by
    have hi := List.idxOf_lt_length_of_mem h
    have hi2 : ls.idxOf l < names.length := by omega
    have hb := hm _ (List.getElem_mem hi2)
    have e1 : names.getD (ls.idxOf l) 0 = names[ls.idxOf l] := by rw [List.getD_eq_getElem?_getD, List.getElem?_eq_getElem hi2]; rfl
    have hb2 : (names.getD (ls.idxOf l) 0).toNat < ((pathsP ps).map (·.1)).length := by rw [e1]; omega
    rw [List.getD_eq_getElem?_getD, List.getElem?_eq_getElem hb2, Option.getD_some]
    obtain ⟨x, hx, e⟩ := List.mem_map.mp (List.getElem_mem hb2)
    rw [← e]
    exact rows_len hx
  have h := send (ls := ls) (f := fun l => ((pathsP ps).map (·.1)).getD (names.getD (ls.idxOf l) 0).toNat []) hp hroad
  simp only [hmap] at h
  rw [h, sort_names hn hm]
  have e1 : (pathsP ps).flatMap (fun x => turnIf x.2 (ls.filter fun l => ((pathsP ps).map (·.1)).getD (names.getD (ls.idxOf l) 0).toNat [] = x.1)) =
      (List.range (pathsP ps).length).flatMap fun k => if ((k : Nat) : Int) ∈ names then [ls.getD (names.idxOf ((k : Nat) : Int)) 0] else [] := by
    rw [flat_range (pathsP ps) ([], false)]
    refine flatMap_congr' fun k hk => ?_
    have hk' : k < (pathsP ps).length := List.mem_range.mp hk
    have hk2 : k < ((pathsP ps).map (·.1)).length := by simpa using hk'
    have e2 : ((pathsP ps).getD k ([], false)).1 = ((pathsP ps).map (·.1)).getD k [] := by
      rw [List.getD_eq_getElem?_getD, List.getElem?_eq_getElem hk', List.getD_eq_getElem?_getD, List.getElem?_eq_getElem hk2]
      simp
    have hg := group_at (paths_nodup ps) hn hm hl hlen hk2
    rw [← e2] at hg
    rw [hg, turn_few]
  rw [e1]
  unfold namesN
  rw [List.length_map]
  generalize (pathsP ps).length = N
  have : ∀ xs : List Nat, (xs.flatMap fun k => if ((k : Nat) : Int) ∈ names then [ls.getD (names.idxOf ((k : Nat) : Int)) 0] else []) = (((xs.map fun i => ((i : Nat) : Int)).filter fun x => x ∈ names).map fun x => ls.getD (names.idxOf x) 0) := by
    intro xs
    induction xs with
    | nil => rfl
    | cons x xs ih =>
      rw [List.flatMap_cons, ih, List.map_cons, List.filter_cons]
      by_cases hx : ((x : Nat) : Int) ∈ names
      · simp [hx]
      · simp [hx]
  exact this _
end Ku

namespace Ku
open PySem PySem.Spec PyProof.Rows L2 Bx
theorem size_le : ∀ ps : List (List Str), (∀ p ∈ ps, Box p) → ps.length ≤ 4 → ps.foldl (fun n p => n * p.length) 1 ≤ 81 := fun ps h h4 => by
  rw [← paths_len]
  exact paths_81 h4 h
theorem a25 {C : Cxt} {v0 v1 v3 v4 v6 v7 v8 v9 v10 v11 v12 v13 v14 v15 v16 v17 v18 v19 v20 : D} {ps : List (List Str)} (h4 : ps.length ≤ 4) (hp : ∀ p ∈ ps, Box p) :
    ∃ w6, evS C 0 (.for (.nm 6) (.src (.var 2 .s)) b25_0) [v0, v1, passD .shr ps, v3, v4, .int 1, v6, v7, v8, v9, v10, v11, v12, v13, v14, v15, v16, v17, v18, v19, v20] =
      .nx [v0, v1, passD .shr ps, v3, v4, .int ((ps.foldl (fun n p => n * p.length) 1 : Nat) : Int), w6, v7, v8, v9, v10, v11, v12, v13, v14, v15, v16, v17, v18, v19, v20] := by
  let P : List (List Str) → List D → Prop := fun done g => ∃ w6, g = [v0, v1, passD .shr ps, v3, v4, .int ((done.foldl (fun n p => n * p.length) 1 : Nat) : Int), w6, v7, v8, v9, v10, v11, v12, v13, v14, v15, v16, v17, v18, v19, v20]
  have lp : ∃ g', loopL (fun x g => match asgT 0 (.nm 6) x g with
      | none => .bad
      | some g => evS C 0 b25_0 g) (ps.map (boxD .shr)) [v0, v1, passD .shr ps, v3, v4, .int 1, v6, v7, v8, v9, v10, v11, v12, v13, v14, v15, v16, v17, v18, v19, v20] = .nx g' ∧ P ps g' := by
    refine loop_pre P (fun done p rest g e hq => ?_) _ ⟨v6, rfl⟩
    obtain ⟨w6, rfl⟩ := hq
    have hd : done.length ≤ 4 := by
      have : ps.length = done.length + (rest.length + 1) := by rw [e]; simp
      omega
    have h81 := size_le done (fun q hq => hp q (by rw [e]; simp [hq])) hd
    have hp3 := (hp p (by rw [e]; simp)).2.1
    show ∃ g', _ = So.nx g' ∧ ∃ w6, g' = [v0, v1, passD .shr ps, v3, v4, .int (((done ++ [p]).foldl (fun n p => n * p.length) 1 : Nat) : Int), w6, v7, v8, v9, v10, v11, v12, v13, v14, v15, v16, v17, v18, v19, v20]
    have ef : (done ++ [p]).foldl (fun n p => n * p.length) 1 = done.foldl (fun n p => n * p.length) 1 * p.length := by rw [List.foldl_append]; rfl
    rw [ef]
    generalize done.foldl (fun n p => n * p.length) 1 = m at h81 ⊢
    have hmo : mulOk (m : Int) (p.length : Int) = true := mul_ok (far (by omega)) (far (by omega))
    refine ⟨[v0, v1, passD .shr ps, v3, v4, .int ((m * p.length : Nat) : Int), boxD .shr p, v7, v8, v9, v10, v11, v12, v13, v14, v15, v16, v17, v18, v19, v20], ?_, boxD .shr p, ?_⟩
    · simp [b25_0, evS, evE, evA, evI, evP, Rs.so, Rs.bind, ensure, E.imp, readV, D.sh, D.shs, D.nb, D.nbs, lentIf, Rs.of, So.of, So.ens, asgT, setAny, okn, optB, E.isNop, opD, isD, tyS, isTab, D.getp, D.setp, mmD, nbs_app, hmo]
    · rfl
  obtain ⟨g, hg, w6, rfl⟩ := lp
  refine ⟨w6, for_nx (q := (ps.map (boxD .shr), [passD .shr ps])) (g1 := [v0, v1, passD .shr ps, v3, v4, .int 1, v6, v7, v8, v9, v10, v11, v12, v13, v14, v15, v16, v17, v18, v19, v20]) ?_ ?_ hg⟩
  · simp [evS, evE, evA, evI, evP, Rs.so, Rs.bind, ensure, E.imp, readV, D.sh, D.shs, D.nb, D.nbs, lentIf, Rs.of, So.of, So.ens, asgT, setAny, okn, optB, E.isNop, opD, isD, tyS, isTab, D.getp, D.setp, mmD, nbs_app]
  · simp [E.lockd, D.nbs]
end Ku

namespace Ku
open PySem PySem.Spec PyProof.Rows L2 Bx
theorem tb25 {C : Cxt} {v0 v1 v6 v7 v8 v9 v10 v11 v12 v13 v14 v15 v16 v17 v18 v19 v20 : D} {ps : List (List Str)} {R : List (List Int)} {o : D} (hp : ∀ p ∈ ps, Box p) (h22 : C.fn 22 [passD .shr ps] = .ok (planD .own R) o) (hx : ∀ r ∈ R, ∀ x ∈ r, x.natAbs < 10 ^ 12) (hb : (R.map fun r => r.length + 1).sum ≤ 60000) (hl : R.length < 1000) (hr : ∀ r ∈ R, r.length < 1000) :
    evS C 0 b25_1 [v0, v1, passD .shr ps, passD .own ps, rowsD .own .shr R, .int (R.length : Nat), v6, v7, v8, v9, v10, v11, v12, v13, v14, v15, v16, v17, v18, v19, v20] = .nx [v0, v1, passD .shr ps, passD .own ps, rowsD .own .shr R, .int (R.length : Nat), v6, v7, planD .own (R.map fun r => r ++ [9]), .any, v10, v11, v12, v13, v14, v15, v16, v17, v18, v19, v20] := by
  have hs := str_rows .shr .shr R hx hb
  have hs' : biD .str [planD .shr R] = _ := hs
  have hne := (cmp_strs (strOk_rows R)).2
  have hc := (cmp_same (nicePass .shr ps hp) (nicePass .shr ps hp) rfl).2
  have hci := cmp_ne (R.length : Nat) (R.length : Nat)
  refine (seq_nx (g1 := [v0, v1, passD .shr ps, passD .own ps, rowsD .own .shr R, .int (R.length : Nat), v6, v7, planD .own R, v9, v10, v11, v12, v13, v14, v15, v16, v17, v18, v19, v20]) ?_).trans ((seq_nx (g1 := [v0, v1, passD .shr ps, passD .own ps, rowsD .own .shr R, .int (R.length : Nat), v6, v7, planD .own R, v9, v10, v11, v12, v13, v14, v15, v16, v17, v18, v19, v20]) ?_).trans ((seq_nx (g1 := [v0, v1, passD .shr ps, passD .own ps, rowsD .own .shr R, .int (R.length : Nat), v6, v7, planD .own (R.map fun r => r ++ [9]), .any, v10, v11, v12, v13, v14, v15, v16, v17, v18, v19, v20]) ?_).trans rfl))
  · simp [evS, evE, evA, evI, evP, Rs.so, Rs.bind, ensure, E.imp, readV, D.sh, D.shs, D.nb, D.nbs, lentIf, Rs.of, So.of, So.ens, asgT, setAny, okn, optB, E.isNop, opD, isD, tyS, isTab, D.getp, D.setp, mmD, nbs_app, h22]
  · simp [evS, evE, evA, evI, evP, Rs.so, Rs.bind, ensure, E.imp, readV, D.sh, D.shs, D.nb, D.nbs, lentIf, Rs.of, So.of, So.ens, asgT, setAny, okn, optB, E.isNop, opD, isD, tyS, isTab, D.getp, D.setp, mmD, nbs_app, D.flat, hs', hne, hc, hci]
  · have ha := app_all 9 R fun r h => Nat.lt_trans (hr r h) (by decide)
    have hg : evS C 0 (.fapp 9 8 9) [v0, v1, passD .shr ps, passD .own ps, rowsD .own .shr R, .int (R.length : Nat), v6, v7, .nd .own .lst (R.map (rowD .own)), v9, v10, v11, v12, v13, v14, v15, v16, v17, v18, v19, v20] = .nx [v0, v1, passD .shr ps, passD .own ps, rowsD .own .shr R, .int (R.length : Nat), v6, v7, .nd .own .lst ((R.map fun r => r ++ [9]).map (rowD .own)), .any, v10, v11, v12, v13, v14, v15, v16, v17, v18, v19, v20] := by
      rw [evS]
      show (match appAll 9 (R.map (rowD .own)) with
        | some es => _
        | none => _) = _
      rw [ha]
      rfl
    exact hg

theorem bb25 {C : Cxt} {v0 v1 v6 v7 v8 v9 v10 v11 v12 v13 v14 v15 v16 v17 v18 v19 v20 : D} {ps : List (List Str)} {R : List (List Int)} {o : D} (hp : ∀ p ∈ ps, Box p) (h22 : C.fn 22 [passD .shr ps] = .ok (planD .own R) o) (hx : ∀ r ∈ R, ∀ x ∈ r, x.natAbs < 10 ^ 12) (hb : (R.map fun r => r.length + 1).sum ≤ 60000) (hl : R.length < 1000) (hr : ∀ r ∈ R, r.length < 1000) :
    ∃ w7 w8 w9, evS C 0 (.for (.nm 7) (.rng (.int 2)) b25_1) [v0, v1, passD .shr ps, passD .own ps, rowsD .own .shr R, .int (R.length : Nat), v6, v7, v8, v9, v10, v11, v12, v13, v14, v15, v16, v17, v18, v19, v20] = .nx [v0, v1, passD .shr ps, passD .own ps, rowsD .own .shr R, .int (R.length : Nat), v6, w7, w8, w9, v10, v11, v12, v13, v14, v15, v16, v17, v18, v19, v20] := by
  let P : Nat → List D → Prop := fun _ g => ∃ w7 w8 w9, g = [v0, v1, passD .shr ps, passD .own ps, rowsD .own .shr R, .int (R.length : Nat), v6, w7, w8, w9, v10, v11, v12, v13, v14, v15, v16, v17, v18, v19, v20]
  have lp : ∃ g', loopL (fun x g => match asgT 0 (.nm 7) x g with
      | none => .bad
      | some g => evS C 0 b25_1 g) (upTo 0 2) [v0, v1, passD .shr ps, passD .own ps, rowsD .own .shr R, .int (R.length : Nat), v6, v7, v8, v9, v10, v11, v12, v13, v14, v15, v16, v17, v18, v19, v20] = .nx g' ∧ P 2 g' := by
    refine loop_upTo P (fun i g hi hq => ?_) _ ⟨_, _, _, rfl⟩
    obtain ⟨w7, w8, w9, rfl⟩ := hq
    have h := tb25 (C := C) (v0 := v0) (v1 := v1) (v6 := v6) (v10 := v10) (v11 := v11) (v12 := v12) (v13 := v13) (v14 := v14) (v15 := v15) (v16 := v16) (v17 := v17) (v18 := v18) (v19 := v19) (v20 := v20) (v7 := .int i) (v8 := w8) (v9 := w9) hp h22 hx hb hl hr
    exact ⟨_, h, _, _, _, rfl⟩
  obtain ⟨g, hg, w7, w8, w9, rfl⟩ := lp
  exact ⟨w7, w8, w9, for_nx (q := (upTo 0 2, [])) (evI_rng (n := 2) (by rw [evE]; rfl) (by decide)) rfl hg⟩

theorem l25 {T : Tab} (B : Hs T [11, 12, 13, 14]) (n : Nat) {v2 v3 v4 v6 v7 v8 v9 v10 v11 v12 v13 v14 v15 v16 v17 v18 v19 v20 : D} (ns : List Int) (b : Nat) (hb : b < 3) (m : Nat) (hm : 0 < m) :
    ∃ ls : List Int, Letters ls ∧ ls.length ≤ m ∧ evS (T.cx (callD T (n + 3))) 0 (.set 10 (.call 14 (.cons (.var 0 .s) (.cons (.var 1 .s) (.cons (.bi .min2 (.cons (.int 24) (.cons (.var 5 .s) .nil))) .nil))))) [.scr ns, .int (b : Nat), v2, v3, v4, .int (m : Nat), v6, v7, v8, v9, v10, v11, v12, v13, v14, v15, v16, v17, v18, v19, v20] = .nx [.scr ns, .int (b : Nat), v2, v3, v4, .int (m : Nat), v6, v7, v8, v9, rowD .own ls, v11, v12, v13, v14, v15, v16, v17, v18, v19, v20] := by
  obtain ⟨k, hk0, hk1, hk2, hk3⟩ : ∃ k : Nat, 0 < k ∧ k ≤ 24 ∧ k ≤ m ∧ biD .min2 [.int 24, .int (m : Nat)] = some (.int (k : Nat)) := by
    by_cases h : (m : Int) < 24
    · exact ⟨m, hm, by omega, Nat.le_refl _, by show some (D.int (if (m : Int) < 24 then _ else _)) = _; rw [if_pos h]⟩
    · exact ⟨24, by decide, by decide, by omega, by show some (D.int (if (m : Int) < 24 then _ else _)) = _; rw [if_neg h]; rfl⟩
  obtain ⟨ls, o, l1, l2, l3, l4, h14⟩ := e14 (T := T) B n ns b (by omega) k hk0 hk1
  refine ⟨ls, ⟨l1, by omega, l3, l4⟩, by omega, ?_⟩
  simp [evS, evE, evA, evI, evP, Rs.so, Rs.bind, ensure, E.imp, readV, D.sh, D.shs, D.nb, D.nbs, lentIf, Rs.of, So.of, So.ens, asgT, setAny, okn, optB, E.isNop, opD, isD, tyS, isTab, D.getp, D.setp, mmD, nbs_app, hk3, h14]

theorem u25 {C : Cxt} {v0 v1 v3 v4 v5 v6 v7 v8 v9 v10 v11 v12 v13 v14 v15 v16 v17 v18 v19 v20 : D} {ps : List (List Str)} (h4 : ps.length ≤ 4) :
    evS C 0 (.unp (.tp (.cons (.nm 11) (.cons (.nm 12) .nil))) (.tup (.cons (.comp (.lst .nil) .nop (.nm 6) (.src (.var 2 .s)) [6]) (.cons (.lst .nil) .nil)))) [v0, v1, passD .shr ps, v3, v4, v5, v6, v7, v8, v9, v10, v11, v12, v13, v14, v15, v16, v17, v18, v19, v20] = .nx [v0, v1, passD .shr ps, v3, v4, v5, .any, v7, v8, v9, v10, planD .own (ps.map fun _ => []), rowD .own [], v13, v14, v15, v16, v17, v18, v19, v20] := by
  have hc : evE C 0 (.comp (.lst .nil) .nop (.nm 6) (.src (.var 2 .s)) [6]) [v0, v1, passD .shr ps, v3, v4, v5, v6, v7, v8, v9, v10, v11, v12, v13, v14, v15, v16, v17, v18, v19, v20] = .ok (planD .own (ps.map fun _ => [])) [v0, v1, passD .shr ps, v3, v4, v5, .any, v7, v8, v9, v10, v11, v12, v13, v14, v15, v16, v17, v18, v19, v20] := by
    have e : planD .own (ps.map fun _ => []) = .nd .own .lst (ps.map fun _ => .nd .own .lst []) := by
      rw [planD, List.map_map]
      rfl
    rw [e]
    refine comp_map (enc := boxD .shr) (ks := [passD .shr ps]) (g1 := [v0, v1, passD .shr ps, v3, v4, v5, v6, v7, v8, v9, v10, v11, v12, v13, v14, v15, v16, v17, v18, v19, v20]) rfl ?_ (by omega) fun p _ => ?_
    · simp [evS, evE, evA, evI, evP, Rs.so, Rs.bind, ensure, E.imp, readV, D.sh, D.shs, D.nb, D.nbs, lentIf, Rs.of, So.of, So.ens, asgT, setAny, okn, optB, E.isNop, opD, isD, tyS, isTab, D.getp, D.setp, mmD, nbs_app]
    · simp [turnC, evS, evE, evA, evI, evP, Rs.so, Rs.bind, ensure, E.imp, readV, D.sh, D.shs, D.nb, D.nbs, lentIf, Rs.of, So.of, So.ens, asgT, setAny, okn, optB, E.isNop, opD, isD, tyS, isTab, D.getp, D.setp, mmD, nbs_app]
  generalize hE : E.comp (.lst .nil) .nop (.nm 6) (.src (.var 2 .s)) [6] = A at hc
  have hA : A.imp = false := by rw [← hE]; rfl
  have hr0 : rowD .own [] = .nd .own .lst [] := rfl
  simp [evS, evE, evA, evI, evP, Rs.so, Rs.bind, ensure, E.imp, readV, D.sh, D.shs, D.nb, D.nbs, lentIf, Rs.of, So.of, So.ens, asgT, setAny, okn, optB, E.isNop, opD, isD, tyS, isTab, D.getp, D.setp, mmD, nbs_app, asgT.asgTs, hA, hc, hr0]
end Ku

namespace Ku
open PySem PySem.Spec PyProof.Rows L2 Bx
theorem set_range {α : Type} {n k : Nat} (F : Nat → α) (v : α) : ((List.range n).map F).set k v = (List.range n).map fun b => if b = k then v else F b := by
  refine List.ext_getElem (by simp) fun i h1 h2 => ?_
  simp only [List.length_set, List.length_map, List.length_range] at h1
  rw [List.getElem_set]
  by_cases e : k = i
  · simp [e]
  · have e' : ¬ i = k := fun z => e z.symm
    simp [e, e']
theorem flats_ints (ns : List Int) : D.flats (ns.map .int) = some (ns.map V.int) := by
  induction ns with
  | nil => rfl
  | cons x xs ih => rw [List.map_cons, D.flats, ih]; rfl
theorem bo_row (r : List Int) : (rowD .own r).bo = rowD .bor r := by
  have : D.bos (r.map D.int) = r.map D.int := by
    rw [bos_map, List.map_map]
    rfl
  rw [rowD, D.bo, this]
  rfl
theorem inV_ints (x : Int) (ns : List Int) : inV (.int x) (ns.map V.int) = decide (x ∈ ns) := by
  unfold inV
  induction ns with
  | nil => rfl
  | cons y ys ih =>
    rw [List.map_cons, List.any_cons, ih]
    by_cases h : x = y
    · subst h
      simp [eqV]
    · have h' : ¬ y = x := fun z => h z.symm
      simp [eqV, h, h']
theorem cmp_nmem (x : Int) (f : Fl) (ns : List Int) : cmpD .nmem (.int x) (rowD f ns) = some (!decide (x ∈ ns)) ∧ cmpD .mem (.int x) (rowD f ns) = some (decide (x ∈ ns)) := by
  have : memD (.int x) (rowD f ns) = some (decide (x ∈ ns)) := by
    unfold memD rowD
    simp only [D.flat, flats_ints, inV_ints]
  exact ⟨by show (memD _ _).map _ = _; rw [this]; rfl, this⟩

/-- one box for one letter more -/
theorem tc25 {C : Cxt} {v0 v1 v2 v3 v4 v5 v6 v7 v8 v9 v10 v12 v13 v14 v15 v18 v19 v20 : D} {rows : List (List Int)} {k : Nat} {x : Int} (hk : k < rows.length) (hl : (rows.getD k []).length < 1000000) :
    evS C 0 b25_2 [v0, v1, v2, v3, v4, v5, v6, v7, v8, v9, v10, planD .own rows, v12, v13, v14, v15, .int (k : Nat), .int x, v18, v19, v20] = .nx [v0, v1, v2, v3, v4, v5, v6, v7, v8, v9, v10, planD .own (rows.set k (rows.getD k [] ++ [x])), v12, v13, v14, v15, .int (k : Nat), .int x, v18, v19, v20] := by
  have e2 : planD .own (rows.set k (rows.getD k [] ++ [x])) = .nd .own .lst ((rows.map (rowD .own)).set k (.nd .own .lst ((rows.getD k []).map D.int ++ [.int x]))) := by
    rw [planD, List.map_set]
    simp [rowD]
  have e1 : planD .own rows = .nd .own .lst (rows.map (rowD .own)) := rfl
  have g1 : (rows.map (rowD .own))[k]? = some (.nd .own .lst ((rows.getD k []).map D.int)) := by
    rw [List.getElem?_map, List.getElem?_eq_getElem hk, List.getD_eq_getElem?_getD, List.getElem?_eq_getElem hk]
    rfl
  have hix : ixD (rows.map (rowD .own)).length ((k : Nat) : Int) = some k := ixD_nat (by simpa using hk)
  have hn1 : D.nbs ((rows.getD k []).map D.int ++ [D.int x]) = true := by rw [nbs_app]; simp [nbs_ints, D.nbs, D.nb]
  rw [e1, e2]
  generalize rows.map (rowD .own) = fs at g1 hix
  generalize rows.getD k [] = acc at *
  simp [b25_2, evS, evE, evA, evI, evP, Rs.so, Rs.bind, ensure, E.imp, readV, D.sh, D.shs, D.nb, D.nbs, lentIf, Rs.of, So.of, So.ens, asgT, setAny, okn, optB, E.isNop, opD, isD, tyS, isTab, D.getp, D.setp, mmD, nbs_app, g1, hix, hl, hn1]

theorem ic25 {C : Cxt} {v0 v1 v2 v3 v5 v6 v7 v8 v9 v10 v13 v14 v15 v16 v17 v18 v19 v20 : D} {x4 : D} {R : List (List Int)} {names road : List Int} {n : Nat} {F : Nat → List Int} {x : Nat} (h4 : x4.sh = planD .shr R) (h4' : x4.isAny = false) (hx : x < R.length) (hroad : R.getD x [] = road) (hn : names.getLast? = some (x : Int)) (hrl : road.length = n) (hF : ∀ t, (F t).length < 1000) (hn4 : n < 1000) :
    ∃ w16 w17, evS C 0 (.for (.tp (.cons (.nm 16) (.cons (.nm 17) .nil))) (.enu (.ix (.var 4 .s) (.ix (.var 12 .b) (.neg (.int 1))))) b25_2) [v0, v1, v2, v3, x4, v5, v6, v7, v8, v9, v10, planD .own ((List.range n).map F), rowD .own names, v13, v14, v15, v16, v17, v18, v19, v20] = .nx [v0, v1, v2, v3, planD .shr R, v5, v6, v7, v8, v9, v10, planD .own ((List.range n).map fun t => F t ++ [road.getD t 0]), rowD .own names, v13, v14, v15, w16, w17, v18, v19, v20] := by
  let P : List (Int × Nat) → List D → Prop := fun done g => ∃ w16 w17, g = [v0, v1, v2, v3, planD .shr R, v5, v6, v7, v8, v9, v10, planD .own ((List.range n).map fun t => F t ++ (if t < done.length then [road.getD t 0] else [])), rowD .own names, v13, v14, v15, w16, w17, v18, v19, v20]
  have lp : ∃ g', loopL (fun x g => match asgT 0 (.tp (.cons (.nm 16) (.cons (.nm 17) .nil))) x g with
      | none => .bad
      | some g => evS C 0 b25_2 g) (road.zipIdx.map fun y => .tup [.int (y.2 : Nat), .int y.1]) [v0, v1, v2, v3, planD .shr R, v5, v6, v7, v8, v9, v10, planD .own ((List.range n).map F), rowD .own names, v13, v14, v15, v16, v17, v18, v19, v20] = .nx g' ∧ P road.zipIdx g' := by
    refine loop_pre P (fun done y rest g e hq => ?_) _ ⟨v16, v17, ?_⟩
    · obtain ⟨w16, w17, rfl⟩ := hq
      have hy : y ∈ road.zipIdx := by rw [e]; simp
      have hyl : y.2 = done.length ∧ road.getD y.2 0 = y.1 := by
        have h1 : road.zipIdx[done.length]? = some y := by rw [e]; simp
        rw [List.getElem?_zipIdx] at h1
        simp only [Nat.zero_add, Option.map_eq_some_iff] at h1
        obtain ⟨a, ha, rfl⟩ := h1
        exact ⟨rfl, by rw [List.getD_eq_getElem?_getD, ha]; rfl⟩
      have hlt : done.length < n := by
        have : road.zipIdx.length = done.length + (rest.length + 1) := by rw [e]; simp
        rw [List.length_zipIdx] at this
        omega
      obtain ⟨hy2, hy1⟩ := hyl
      have hgd : ((List.range n).map fun t => F t ++ (if t < done.length then [road.getD t 0] else [])).getD done.length [] = F done.length := by
        rw [List.getD_eq_getElem?_getD, List.getElem?_map, List.getElem?_range hlt]
        simp
      have ht := tc25 (C := C) (v0 := v0) (v1 := v1) (v2 := v2) (v3 := v3) (v5 := v5) (v6 := v6) (v7 := v7) (v8 := v8) (v9 := v9) (v10 := v10) (v13 := v13) (v14 := v14) (v15 := v15) (v18 := v18) (v19 := v19) (v20 := v20) (v4 := planD .shr R) (v12 := rowD .own names) (rows := (List.range n).map fun t => F t ++ (if t < done.length then [road.getD t 0] else [])) (k := done.length) (x := y.1) (by simpa using hlt) (by rw [hgd]; exact Nat.lt_trans (hF _) (by decide))
      rw [hgd, set_range] at ht
      have e2 : ((List.range n).map fun b => if b = done.length then F done.length ++ [y.1] else F b ++ (if b < done.length then [road.getD b 0] else [])) = (List.range n).map fun t => F t ++ (if t < (done ++ [y]).length then [road.getD t 0] else []) := by
        refine List.map_congr_left fun t _ => ?_
        rw [List.length_append, List.length_singleton]
        by_cases h1 : t = done.length
        · subst h1
          rw [if_pos rfl, if_pos (by omega), ← hy1, hy2]
        · rw [if_neg h1]
          by_cases h2 : t < done.length
          · rw [if_pos h2, if_pos (by omega)]
          · rw [if_neg h2, if_neg (by omega)]
      rw [e2] at ht
      rw [asg2 (show (D.int (y.2 : Nat)).nb = true from rfl) (show (D.int y.1).nb = true from rfl) (by omega) (by omega) (by simp) (by simp), hy2]
      exact ⟨_, ht, _, _, rfl⟩
    · simp
  obtain ⟨g, hg, w16, w17, rfl⟩ := lp
  refine ⟨w16, w17, ?_⟩
  have e3 : ((List.range n).map fun t => F t ++ (if t < road.zipIdx.length then [road.getD t 0] else [])) = (List.range n).map fun t => F t ++ [road.getD t 0] := by
    refine List.map_congr_left fun t ht => ?_
    rw [List.length_zipIdx, hrl, if_pos (List.mem_range.mp ht)]
  rw [e3] at hg
  obtain ⟨ys, rfl⟩ := List.getLast?_eq_some_iff.mp hn
  have h1 : subD (rowD .bor (ys ++ [(x : Int)])) (.int (-1)) = some (.int (x : Nat)) := by
    rw [rowD, List.map_append]
    exact sub_neg1
  have h2 : subD (planD .shr R) (.int (x : Nat)) = some (rowD .shr road) := by
    rw [← hroad]
    exact sub_rows hx
  refine for_nx (q := (enumD 0 (road.map .int), [rowD .shr road])) (g1 := [v0, v1, v2, v3, planD .shr R, v5, v6, v7, v8, v9, v10, planD .own ((List.range n).map F), rowD .own (ys ++ [(x : Int)]), v13, v14, v15, v16, v17, v18, v19, v20]) ?_ ?_ (by rw [enumD_map]; exact hg)
  · have hb := bo_row (ys ++ [(x : Int)])
    have hE : evE C 0 (.ix (.var 4 .s) (.ix (.var 12 .b) (.neg (.int 1)))) [v0, v1, v2, v3, x4, v5, v6, v7, v8, v9, v10, planD .own ((List.range n).map F), rowD .own (ys ++ [(x : Int)]), v13, v14, v15, v16, v17, v18, v19, v20] = .ok (rowD .shr road) [v0, v1, v2, v3, planD .shr R, v5, v6, v7, v8, v9, v10, planD .own ((List.range n).map F), rowD .own (ys ++ [(x : Int)]), v13, v14, v15, v16, v17, v18, v19, v20] := by
      simp [evE, Rs.bind, ensure, readV, Rs.of, E.imp, h4, h4', hb, h1, h2]
    rw [evI, hE]
    simp [Rs.bind, rowD, uns_ints]
  · simp [E.lockd, D.nbs]
end Ku

namespace Ku
open PySem PySem.Spec PyProof.Rows L2 Bx
/-- the names that are free still -/
def freeN (n : Nat) (names : List Int) : List Int := (namesN n).filter fun x => !decide (x ∈ names)
theorem free_len {n : Nat} {names : List Int} (hn : names.Nodup) (hm : ∀ x ∈ names, 0 ≤ x ∧ x < n) : (freeN n names).length + names.length = n := by
  have h1 := congrArg List.length (sort_names hn hm)
  rw [(isort_perm names).length_eq] at h1
  have h2 := (List.filter_append_perm (fun x => decide (x ∈ names)) (namesN n)).length_eq
  rw [List.length_append] at h2
  have h3 : (namesN n).length = n := by simp [namesN]
  unfold freeN
  omega
theorem mem_free {n : Nat} {names : List Int} {x : Int} (h : x ∈ freeN n names) : (0 ≤ x ∧ x < n) ∧ x ∉ names := by
  have := List.mem_filter.mp h
  exact ⟨mem_names.mp this.1, by simpa using this.2⟩
theorem free_eq (n : Nat) (names : List Int) : D.nd .own .lst (((List.range n).filter fun i => !decide (((i : Nat) : Int) ∈ names)).map fun i => .int ((i : Nat) : Int)) = rowD .own (freeN n names) := by
  unfold freeN namesN rowD
  rw [List.filter_map, List.map_map]
  rfl

theorem te25 {T : Tab} (B : Hs T [11, 12, 13]) (q : Nat) {v2 v3 v6 v7 v8 v9 v10 v14 v15 v16 v17 v18 v19 v20 : D} {x4 : D} {R : List (List Int)} {names : List Int} {ns : List Int} {b n i : Nat} (hb : b < 3) (hi : i < 24) (h4 : x4.sh = planD .shr R) (h4' : x4.isAny = false) (hn4 : n ≤ 4) (hR : R.length ≤ 81) (hRn : ∀ r ∈ R, r.length = n) (hn : names.Nodup) (hm : ∀ x ∈ names, 0 ≤ x ∧ x < R.length) (hlen : names.length = i) (hiR : i < R.length) :
    ∃ (x : Nat) (w14 w15 w16 w17 w19 : D), x < R.length ∧ (x : Int) ∉ names ∧ evS (T.cx (callD T (q + 2))) 0 b25_3 [.scr ns, .int (b : Nat), v2, v3, x4, .int (R.length : Nat), v6, v7, v8, v9, v10, planD .own ((List.range n).map fun t => names.map fun x => (R.getD x.toNat []).getD t 0), rowD .own names, .int (i : Nat), v14, v15, v16, v17, v18, v19, v20] = .nx [.scr ns, .int (b : Nat), v2, v3, planD .shr R, .int (R.length : Nat), v6, v7, v8, v9, v10, planD .own ((List.range n).map fun t => (names ++ [(x : Int)]).map fun x => (R.getD x.toNat []).getD t 0), rowD .own (names ++ [(x : Int)]), .int (i : Nat), w14, w15, w16, w17, v18, w19, v20] := by
  obtain ⟨c0, o11, h11⟩ := e11' (T := T) (B.sub rfl) (q + 1) ns (b + i % 5)
  rw [show ((b + i % 5 : Nat) : Int) = (b : Int) + (i : Int) % 5 by omega] at h11
  have hmo : mulOk 41 (i : Int) = true := mul_ok (far (by decide)) (far (by omega))
  generalize hc14 : c0 + 41 * (i : Int) = c14
  have hfl := free_len hn hm
  obtain ⟨r, o13, r0, r1, h13⟩ := e13 (T := T) (B.sub rfl) q (c := c14) (k := (i : Int) + 2) (m := ((freeN R.length names).length : Nat)) (by omega) (by omega) (by omega) (by omega)
  have hrl : r.toNat < (freeN R.length names).length := by omega
  have hsr := sub_row (f := .shr) hrl
  rw [Int.toNat_of_nonneg r0] at hsr
  have hmem : (freeN R.length names).getD r.toNat 0 ∈ freeN R.length names := by
    rw [List.getD_eq_getElem?_getD, List.getElem?_eq_getElem hrl]
    exact List.getElem_mem hrl
  obtain ⟨⟨x0, x1⟩, x2⟩ := mem_free hmem
  obtain ⟨x, hx⟩ : ∃ x : Nat, (freeN R.length names).getD r.toNat 0 = (x : Int) := ⟨((freeN R.length names).getD r.toNat 0).toNat, by omega⟩
  rw [hx] at hsr x0 x1 x2
  have hxR : x < R.length := by omega
  have hs1 : evS (T.cx (callD T (q + 2))) 0 (.set 14 (.op .add (.call 11 (.cons (.var 0 .s) (.cons (.op .add (.var 1 .s) (.op .mod (.var 13 .s) (.int 5))) .nil))) (.op .mul (.int 41) (.var 13 .s)))) [.scr ns, .int (b : Nat), v2, v3, x4, .int (R.length : Nat), v6, v7, v8, v9, v10, planD .own ((List.range n).map fun t => names.map fun x => (R.getD x.toNat []).getD t 0), rowD .own names, .int (i : Nat), v14, v15, v16, v17, v18, v19, v20] = .nx [.scr ns, .int (b : Nat), v2, v3, x4, .int (R.length : Nat), v6, v7, v8, v9, v10, planD .own ((List.range n).map fun t => names.map fun x => (R.getD x.toNat []).getD t 0), rowD .own names, .int (i : Nat), .int c14, v15, v16, v17, v18, v19, v20] := by
    simp [evS, evE, evA, evI, evP, Rs.so, Rs.bind, ensure, E.imp, readV, D.sh, D.shs, D.nb, D.nbs, lentIf, Rs.of, So.of, So.ens, asgT, setAny, okn, optB, E.isNop, opD, isD, tyS, isTab, D.getp, D.setp, mmD, nbs_app, h11, hmo, hc14]
  let P : List D → Prop := fun g => g = [.scr ns, .int (b : Nat), v2, v3, x4, .int (R.length : Nat), v6, v7, v8, v9, v10, planD .own ((List.range n).map fun t => names.map fun x => (R.getD x.toNat []).getD t 0), rowD .own names, .int (i : Nat), .int c14, v15, v16, v17, v18, .any, v20]
  have h5 : evE (T.cx (callD T (q + 2))) 0 (.var 5 .s) [.scr ns, .int (b : Nat), v2, v3, x4, .int (R.length : Nat), v6, v7, v8, v9, v10, planD .own ((List.range n).map fun t => names.map fun x => (R.getD x.toNat []).getD t 0), rowD .own names, .int (i : Nat), .int c14, v15, v16, v17, v18, v19, v20] = .ok (.int (R.length : Nat)) [.scr ns, .int (b : Nat), v2, v3, x4, .int (R.length : Nat), v6, v7, v8, v9, v10, planD .own ((List.range n).map fun t => names.map fun x => (R.getD x.toNat []).getD t 0), rowD .own names, .int (i : Nat), .int c14, v15, v16, v17, v18, v19, v20] := by
    simp [evE, ensure, readV, D.sh]
  have hRl : R.length < 1000000 := by omega
  obtain ⟨g', hc, rfl⟩ := comp_inv (C := T.cx (callD T (q + 2))) (nf := 0) (e := .var 19 .s) (c := .cmp .nmem (.var 19 .s) (.var 12 .b)) (t := .nm 19) (own := [19]) (f := fun i : Nat => .int ((i : Nat) : Int)) (b := fun i : Nat => !decide (((i : Nat) : Int) ∈ names)) (enc := fun i : Nat => .int ((i : Nat) : Int)) (ks := []) P rfl (evI_lenI h5 hRl) (by rw [List.length_range]; exact hRl) rfl fun y hy g hg => by
    subst hg
    refine ⟨[.scr ns, .int (b : Nat), v2, v3, x4, .int (R.length : Nat), v6, v7, v8, v9, v10, planD .own ((List.range n).map fun t => names.map fun x => (R.getD x.toNat []).getD t 0), rowD .own names, .int (i : Nat), .int c14, v15, v16, v17, v18, .any, v20], ?_, rfl⟩
    have hcm := (cmp_nmem (y : Int) .bor names).1
    have hbr := bo_row names
    by_cases hyn : ((y : Nat) : Int) ∈ names
    · simp [turnC, asgT, D.nb, optB, E.isNop, evE, Rs.bind, ensure, readV, D.sh, E.imp, hbr, hcm, hyn, Rs.of, setAny]
    · simp [turnC, asgT, D.nb, optB, E.isNop, evE, Rs.bind, ensure, readV, D.sh, E.imp, hbr, hcm, hyn, Rs.of, setAny]
  rw [free_eq] at hc
  have hs2 := setc_ev (i := 15) hc (g2 := [.scr ns, .int (b : Nat), v2, v3, x4, .int (R.length : Nat), v6, v7, v8, v9, v10, planD .own ((List.range n).map fun t => names.map fun x => (R.getD x.toNat []).getD t 0), rowD .own names, .int (i : Nat), .int c14, rowD .own (freeN R.length names), v16, v17, v18, .any, v20]) (by simp [asgT])
  have hA : evE (T.cx (callD T (q + 2))) 0 (.ix (.var 15 .s) (.call 13 (.cons (.var 14 .s) (.cons (.op .add (.var 13 .s) (.int 2)) (.cons (.bi .len (.cons (.var 15 .s) .nil)) .nil))))) [.scr ns, .int (b : Nat), v2, v3, x4, .int (R.length : Nat), v6, v7, v8, v9, v10, planD .own ((List.range n).map fun t => names.map fun x => (R.getD x.toNat []).getD t 0), rowD .own names, .int (i : Nat), .int c14, rowD .own (freeN R.length names), v16, v17, v18, .any, v20] = .ok (.int (x : Nat)) [.scr ns, .int (b : Nat), v2, v3, x4, .int (R.length : Nat), v6, v7, v8, v9, v10, planD .own ((List.range n).map fun t => names.map fun x => (R.getD x.toNat []).getD t 0), rowD .own names, .int (i : Nat), .int c14, rowD .shr (freeN R.length names), v16, v17, v18, .any, v20] := by
    simp [evE, evA, Rs.bind, ensure, readV, D.sh, D.shs, D.nb, D.nbs, E.imp, opD, Rs.of, lentIf, h13, hsr]
  have hs3 := ex_append (C := T.cx (callD T (q + 2))) (nf := 0) (i := 12) (ds0 := names.map D.int) (ds := names.map D.int) (g := [.scr ns, .int (b : Nat), v2, v3, x4, .int (R.length : Nat), v6, v7, v8, v9, v10, planD .own ((List.range n).map fun t => names.map fun x => (R.getD x.toNat []).getD t 0), rowD .own names, .int (i : Nat), .int c14, rowD .own (freeN R.length names), v16, v17, v18, .any, v20]) rfl rfl hA rfl (by rw [List.length_map]; omega) (nbsI names) rfl
  have e3 : D.nd .own .lst (names.map D.int ++ [.int (x : Nat)]) = rowD .own (names ++ [(x : Int)]) := by simp [rowD]
  have hs3 : evS (T.cx (callD T (q + 2))) 0 (.ex (.mut (.var 12 .b) .append (.cons (.ix (.var 15 .s) (.call 13 (.cons (.var 14 .s) (.cons (.op .add (.var 13 .s) (.int 2)) (.cons (.bi .len (.cons (.var 15 .s) .nil)) .nil))))) .nil))) [.scr ns, .int (b : Nat), v2, v3, x4, .int (R.length : Nat), v6, v7, v8, v9, v10, planD .own ((List.range n).map fun t => names.map fun x => (R.getD x.toNat []).getD t 0), rowD .own names, .int (i : Nat), .int c14, rowD .own (freeN R.length names), v16, v17, v18, .any, v20] = .nx [.scr ns, .int (b : Nat), v2, v3, x4, .int (R.length : Nat), v6, v7, v8, v9, v10, planD .own ((List.range n).map fun t => names.map fun x => (R.getD x.toNat []).getD t 0), rowD .own (names ++ [(x : Int)]), .int (i : Nat), .int c14, rowD .shr (freeN R.length names), v16, v17, v18, .any, v20] := by
    rw [hs3, ← e3]
    rfl
  have hroad : (R.getD x []).length = n := by
    rw [List.getD_eq_getElem?_getD, List.getElem?_eq_getElem hxR]
    exact hRn _ (List.getElem_mem hxR)
  obtain ⟨w16, w17, hs4⟩ := ic25 (C := T.cx (callD T (q + 2))) (v0 := .scr ns) (v1 := .int (b : Nat)) (v2 := v2) (v3 := v3) (v5 := .int (R.length : Nat)) (v6 := v6) (v7 := v7) (v8 := v8) (v9 := v9) (v10 := v10) (v13 := .int (i : Nat)) (v14 := .int c14) (v15 := rowD .shr (freeN R.length names)) (v16 := v16) (v17 := v17) (v18 := v18) (v19 := .any) (v20 := v20) (x4 := x4) (R := R) (names := names ++ [(x : Int)]) (road := R.getD x []) (n := n) (F := fun t => names.map fun x => (R.getD x.toNat []).getD t 0) (x := x) h4 h4' hxR rfl (by simp) hroad (fun t => by rw [List.length_map]; omega) (by omega)
  have e4 : ((List.range n).map fun t => (names.map fun x => (R.getD x.toNat []).getD t 0) ++ [(R.getD x []).getD t 0]) = (List.range n).map fun t => (names ++ [(x : Int)]).map fun x => (R.getD x.toNat []).getD t 0 := by
    refine List.map_congr_left fun t _ => ?_
    rw [List.map_append]
    rfl
  rw [e4] at hs4
  exact ⟨x, .int c14, _, w16, w17, .any, hxR, x2, (seq_nx hs1).trans ((seq_nx hs2).trans ((seq_nx hs3).trans ((seq_nx hs4).trans rfl)))⟩

theorem nl25 {T : Tab} (B : Hs T [11, 12, 13]) (q : Nat) {v2 v3 v6 v7 v8 v9 v13 v14 v15 v16 v17 v18 v19 v20 : D} {R : List (List Int)} {ls : List Int} {ns : List Int} {ps : List (List Str)} {b : Nat} (hb : b < 3) (hl : ls.length ≤ 24) (hlR : ls.length ≤ R.length) (hn4 : ps.length ≤ 4) (hR : R.length ≤ 81) (hRn : ∀ r ∈ R, r.length = ps.length) :
    ∃ (names : List Int) (x4 x13 x14 x15 x16 x17 x19 : D), names.length = ls.length ∧ names.Nodup ∧ (∀ x ∈ names, 0 ≤ x ∧ x < R.length) ∧ x4.sh = planD .shr R ∧ x4.isAny = false ∧ evS (T.cx (callD T (q + 2))) 0 (.for (.nm 13) (.rng (.bi .len (.cons (.var 10 .s) .nil))) b25_3) [.scr ns, .int (b : Nat), v2, v3, rowsD .own .shr R, .int (R.length : Nat), v6, v7, v8, v9, rowD .own ls, planD .own (ps.map fun _ => []), rowD .own [], v13, v14, v15, v16, v17, v18, v19, v20] = .nx [.scr ns, .int (b : Nat), v2, v3, x4, .int (R.length : Nat), v6, v7, v8, v9, rowD .shr ls, planD .own ((List.range ps.length).map fun t => names.map fun x => (R.getD x.toNat []).getD t 0), rowD .own names, x13, x14, x15, x16, x17, v18, x19, v20] := by
  let P : Nat → List D → Prop := fun i g => ∃ (names : List Int) (x4 x13 x14 x15 x16 x17 x19 : D), names.length = i ∧ names.Nodup ∧ (∀ x ∈ names, 0 ≤ x ∧ x < R.length) ∧ x4.sh = planD .shr R ∧ x4.isAny = false ∧ g = [.scr ns, .int (b : Nat), v2, v3, x4, .int (R.length : Nat), v6, v7, v8, v9, rowD .shr ls, planD .own ((List.range ps.length).map fun t => names.map fun x => (R.getD x.toNat []).getD t 0), rowD .own names, x13, x14, x15, x16, x17, v18, x19, v20]
  have lp : ∃ g', loopL (fun x g => match asgT 0 (.nm 13) x g with
      | none => .bad
      | some g => evS (T.cx (callD T (q + 2))) 0 b25_3 g) (upTo 0 ls.length) [.scr ns, .int (b : Nat), v2, v3, rowsD .own .shr R, .int (R.length : Nat), v6, v7, v8, v9, rowD .shr ls, planD .own (ps.map fun _ => []), rowD .own [], v13, v14, v15, v16, v17, v18, v19, v20] = .nx g' ∧ P ls.length g' := by
    refine loop_upTo P (fun i g hi hq => ?_) _ ⟨[], rowsD .own .shr R, v13, v14, v15, v16, v17, v19, rfl, List.nodup_nil, (fun _ h => nomatch h), by simp, rfl, ?_⟩
    · obtain ⟨names, x4, x13, x14, x15, x16, x17, x19, a1, a2, a3, a4, a5, rfl⟩ := hq
      obtain ⟨x, w14, w15, w16, w17, w19, b1, b2, h⟩ := te25 (T := T) B q (v2 := v2) (v3 := v3) (v6 := v6) (v7 := v7) (v8 := v8) (v9 := v9) (v10 := rowD .shr ls) (v14 := x14) (v15 := x15) (v16 := x16) (v17 := x17) (v18 := v18) (v19 := x19) (v20 := v20) (x4 := x4) (R := R) (names := names) (ns := ns) (b := b) (n := ps.length) (i := i) hb (by omega) a4 a5 hn4 hR hRn a2 a3 a1 (by omega)
      refine ⟨_, h, names ++ [(x : Int)], planD .shr R, .int i, w14, _, w16, w17, _, by simp [a1], ?_, ?_, by simp, rfl, rfl⟩
      · rw [List.nodup_append]
        exact ⟨a2, by simp, fun y hy z hz e => b2 (by rw [List.mem_singleton] at hz; rw [← hz, ← e]; exact hy)⟩
      · intro y hy
        rcases List.mem_append.mp hy with z | z
        · exact a3 y z
        · rw [List.mem_singleton.mp z]
          omega
    · have : (ps.map fun _ => ([] : List Int)) = (List.range ps.length).map fun t => ([] : List Int).map fun x => (R.getD x.toNat []).getD t 0 := by
        refine List.ext_getElem (by simp) fun i _ _ => by simp
      rw [this]
  obtain ⟨g, hg, names, x4, x13, x14, x15, x16, x17, x19, a1, a2, a3, a4, a5, rfl⟩ := lp
  refine ⟨names, x4, x13, x14, x15, x16, x17, x19, a1, a2, a3, a4, a5, for_nx (q := (upTo 0 ls.length, [])) (evI_rng ?_ (by omega)) rfl hg⟩
  simp [evE, evA, Rs.bind, ensure, readV, Rs.of, E.imp]
end Ku

namespace Ku
open PySem PySem.Spec PyProof.Rows L2 Bx
theorem liRo (r : List Int) : listI (rowD .own r) = some (r.map .int, [rowD .own r]) := by
  show some (D.uns (r.map .int), [D.nd .own .lst (D.uns (r.map .int))]) = _
  rw [uns_ints]
  rfl
theorem sorted_row (f : Fl) (r : List Int) : biD .sorted [rowD f r] = some (rowD .own (isort r)) := by
  show (D.ints (r.map .int)).map _ = _
  rw [ints_map]
  rfl
theorem find_idx (x : Int) (ns : List Int) (h : x ∈ ns) : ((ns.map V.int).findIdx? fun y => eqV y (.int x)) = some (ns.idxOf x) := by
  induction ns with
  | nil => cases h
  | cons y ys ih =>
    rw [List.map_cons, List.findIdx?_cons, List.idxOf_cons]
    by_cases e : y = x
    · subst e
      simp [eqV]
    · have h' : x ∈ ys := (List.mem_cons.mp h).resolve_left fun z => e z.symm
      have e2 : (y == x) = false := by simpa using e
      have e3 : eqV (.int y) (.int x) = false := e2
      rw [e3, e2, ih h']
      rfl
theorem index_row (f : Fl) {x : Int} {ns : List Int} (h : x ∈ ns) : bmD .index (ns.map D.int) [.int x] = some (.int (ns.idxOf x : Nat)) := by
  show (match D.flat (.int x), D.flats (ns.map D.int) with
    | some v, some vs => (vs.findIdx? fun y => eqV y v).map fun j => D.int (j : Nat)
    | _, _ => none) = _
  rw [flats_ints]
  show ((ns.map V.int).findIdx? fun y => eqV y (.int x)).map (fun j => D.int (j : Nat)) = _
  rw [find_idx x ns h]
  rfl

theorem s25 {C : Cxt} {v0 v1 v2 v3 v4 v5 v6 v7 v8 v9 v11 v13 v14 v15 v16 v17 v18 v19 v20 : D} {ls names : List Int} (hlen : names.length = ls.length) (hl : ls.length ≤ 24) :
    evE C 0 (.comp (.ix (.var 10 .s) (.bm .index (.var 12 .b) (.cons (.var 19 .s) .nil))) .nop (.nm 19) (.src (.bi .sorted (.cons (.var 12 .b) .nil))) [19]) [v0, v1, v2, v3, v4, v5, v6, v7, v8, v9, rowD .shr ls, v11, rowD .shr names, v13, v14, v15, v16, v17, v18, v19, v20] =
      .ok (rowD .own ((isort names).map fun x => ls.getD (names.idxOf x) 0)) [v0, v1, v2, v3, v4, v5, v6, v7, v8, v9, rowD .shr ls, v11, rowD .shr names, v13, v14, v15, v16, v17, v18, .any, v20] := by
  have e : rowD .own ((isort names).map fun x => ls.getD (names.idxOf x) 0) = .nd .own .lst ((isort names).map fun x => .int (ls.getD (names.idxOf x) 0)) := by
    rw [rowD, List.map_map]
    rfl
  rw [e]
  have hs := sorted_row .shr names
  have hli := liRo (isort names)
  refine comp_map (enc := D.int) (ks := [rowD .own (isort names)]) (g1 := [v0, v1, v2, v3, v4, v5, v6, v7, v8, v9, rowD .shr ls, v11, rowD .shr names, v13, v14, v15, v16, v17, v18, v19, v20]) rfl ?_ (by rw [(isort_perm names).length_eq]; omega) fun x hx => ?_
  · simp [evI, evE, evA, Rs.bind, ensure, readV, Rs.of, E.imp, hs, hli]
  · have hm : x ∈ names := (isort_perm names).mem_iff.mp hx
    have hi := index_row .shr hm
    have hj := List.idxOf_lt_length_of_mem hm
    have hr := sub_row (f := .shr) (r := ls) (i := names.idxOf x) (by omega)
    have e3 : rowD .shr names = .nd .shr .lst (names.map D.int) := rfl
    rw [e3]
    have hb : (D.nd .shr .lst (names.map D.int)).bo = .nd .shr .lst (names.map D.int) := boR names
    simp [turnC, asgT, D.nb, optB, E.isNop, evE, evA, Rs.bind, ensure, readV, D.sh, E.imp, Rs.of, setAny, hb, hi, hr]

theorem ord25 {T : Tab} (B : Hs T S1) (G : Glo T) (n : Nat) {v0 v1 v3 v4 v5 v6 v7 v8 v9 v13 v14 v15 v16 v17 v18 v19 v20 : D} {ps : List (List Str)} {ls names : List Int} {PL : List (List Int)} (h4 : ps.length ≤ 4) (hp : ∀ p ∈ ps, Box p) (hls : Letters ls) (hlen : names.length = ls.length) (hne : ps ≠ []) (hpl : Plan ls.length ps PL) (hsend : (thru ls (ps.zip PL)).2 = (isort names).map fun x => ls.getD (names.idxOf x) 0) :
    evS (T.cx (callD T (n + 5))) 0 b25_4 [v0, v1, passD .shr ps, v3, v4, v5, v6, v7, v8, v9, rowD .shr ls, planD .own PL, rowD .own names, v13, v14, v15, v16, v17, v18, v19, v20] = .nx [v0, v1, passD .shr ps, v3, v4, v5, v6, v7, v8, v9, rowD .shr ls, planD .own PL, rowD .own names, v13, v14, v15, v16, v17, rowD .own ((isort names).map fun x => ls.getD (names.idxOf x) 0), v19, v20] := by
  obtain ⟨o, h10⟩ := e10 B G n ls hls ps PL h4 hp hpl
  have hlast := thru_last ls _ (ps.zip PL) rfl
  rw [hsend] at hlast
  obtain ⟨t1, t2, _⟩ := thru_perm rfl _ (ps.zip PL) rfl fun x hx => ⟨hpl.zip.2 x hx, (hp _ (List.of_mem_zip (show (x.1, x.2) ∈ ps.zip PL from hx)).1).1⟩
  have hrne : (thru ls (ps.zip PL)).1 ≠ [] := fun z => by
    rw [z, List.length_zip, hpl.len] at t2
    have := List.length_pos_iff.mpr hne
    simp at t2
    omega
  generalize (thru ls (ps.zip PL)).1 = rows at h10 hlast hrne
  have hlast : rows.getLast? = some ((isort names).map fun x => ls.getD (names.idxOf x) 0) := by
    obtain ⟨ys, y, rfl⟩ : ∃ ys y, rows = ys ++ [y] := ⟨rows.dropLast, rows.getLast hrne, (List.dropLast_concat_getLast hrne).symm⟩
    rw [← List.cons_append, List.getLast?_concat] at hlast
    rw [List.getLast?_concat]
    exact hlast
  have hs := sub_last (f := .own) (h := .own) hlast
  have hs : subD (planD .own rows) (.int (-1)) = some (rowD .own ((isort names).map fun x => ls.getD (names.idxOf x) 0)) := hs
  have hc := s25 (C := T.cx (callD T (n + 5))) (v0 := v0.sh) (v1 := v1.sh) (v2 := passD .shr ps) (v3 := v3.sh) (v4 := v4.sh) (v5 := v5.sh) (v6 := v6.sh) (v7 := v7.sh) (v8 := v8.sh) (v9 := v9.sh) (v11 := planD .shr PL) (v13 := v13.sh) (v14 := v14.sh) (v15 := v15.sh) (v16 := v16.sh) (v17 := v17.sh) (v18 := rowD .shr ((isort names).map fun x => ls.getD (names.idxOf x) 0)) (v19 := v19.sh) (v20 := v20.sh) hlen hls.2.1
  generalize ((isort names).map fun x => ls.getD (names.idxOf x) 0) = last at *
  have hcmp := (cmp_row .shr .own last last).2
  refine (seq_nx (g1 := [v0, v1, passD .shr ps, v3, v4, v5, v6, v7, v8, v9, rowD .shr ls, planD .own PL, rowD .own names, v13, v14, v15, v16, v17, rowD .own last, v19, v20]) ?_).trans ((seq_nx (g1 := [v0, v1, passD .shr ps, v3, v4, v5, v6, v7, v8, v9, rowD .shr ls, planD .own PL, rowD .own names, v13, v14, v15, v16, v17, rowD .own last, v19, v20]) ?_).trans rfl)
  · simp [evS, evE, evA, evI, evP, Rs.so, Rs.bind, ensure, E.imp, readV, D.sh, D.shs, D.nb, D.nbs, lentIf, Rs.of, So.of, So.ens, asgT, setAny, okn, optB, E.isNop, opD, isD, tyS, isTab, D.getp, D.setp, mmD, nbs_app, h10, hs]
  · generalize hE : E.comp (.ix (.var 10 .s) (.bm .index (.var 12 .b) (.cons (.var 19 .s) .nil))) .nop (.nm 19) (.src (.bi .sorted (.cons (.var 12 .b) .nil))) [19] = A at hc
    have hA : A.imp = false := by rw [← hE]; rfl
    simp [evS, evE, Rs.so, Rs.bind, ensure, E.imp, readV, D.shs, hE, hA, hc, hcmp, Rs.of, D.flat]
end Ku

namespace Ku
open PySem PySem.Spec PyProof.Rows L2 Bx
theorem letters35 : Letters [3, 5] := ⟨by decide, by decide, by decide, by decide⟩
/-- two letters sent along one road -/
theorem pair35 {T : Tab} (B : Hs T S1) (G : Glo T) (n : Nat) (ps : List (List Str)) (h4 : ps.length ≤ 4) (hp : ∀ p ∈ ps, Box p) {r : List Int} {t : Bool} (hr : (r, t) ∈ pathsP ps) :
    ∃ (rows : List (List Int)) (o : D), rows.length ≤ 4 ∧ ([3, 5] :: rows).getLast? = some (turnIf t [3, 5]) ∧ callD T (n + 5) 10 [rowD .shr [3, 5], passD .shr ps, planD .shr (r.map fun v => [v, v])] = .ok (planD .own rows) o := by
  have hroad := rows_len hr
  have hplan := plan_roads (ps := ps) (ls := [3, 5]) (f := fun _ => r) fun _ _ => hroad
  have hsent := pair_sent hp hr [3, 5]
  rw [rows_two hroad.len] at hplan hsent
  obtain ⟨o, h10⟩ := e10 B G n [3, 5] letters35 ps _ h4 hp hplan
  have hlast := thru_last [3, 5] _ (ps.zip (r.map fun v => [v, v])) rfl
  obtain ⟨t1, t2, _⟩ := thru_perm rfl _ (ps.zip (r.map fun v => [v, v])) rfl fun x hx => ⟨hplan.zip.2 x hx, (hp _ (List.of_mem_zip (show (x.1, x.2) ∈ ps.zip (r.map fun v => [v, v]) from hx)).1).1⟩
  have hr4 : (thru [3, 5] (ps.zip (r.map fun v => [v, v]))).1.length ≤ 4 := by
    rw [t2, List.length_zip]
    omega
  rw [hsent] at hlast
  exact ⟨_, o, hr4, hlast, h10⟩

theorem c25 {C : Cxt} {v0 v1 v3 v5 v6 v7 v8 v9 v10 v11 v12 v13 v14 v15 v16 v17 v18 v20 : D} {x4 : D} {ps : List (List Str)} {R : List (List Int)} {x : Nat} {r : List Int} (h4 : x4.sh = planD .shr R) (h4' : x4.isAny = false) (hx : x < R.length) (hr : R.getD x [] = r) (hl : r.length < 1000) :
    evE C 0 (.comp (.lst (.cons (.var 17 .s) (.cons (.var 17 .s) .nil))) .nop (.nm 17) (.src (.ix (.var 4 .s) (.var 19 .s))) [17]) [v0, v1, passD .shr ps, v3, x4, v5, v6, v7, v8, v9, v10, v11, v12, v13, v14, v15, v16, v17, v18, .int (x : Nat), v20] = .ok (planD .own (r.map fun v => [v, v])) [v0, v1, passD .shr ps, v3, planD .shr R, v5, v6, v7, v8, v9, v10, v11, v12, v13, v14, v15, v16, .any, v18, .int (x : Nat), v20] := by
  have e : planD .own (r.map fun v => [v, v]) = .nd .own .lst (r.map fun v => .nd .own .lst [.int v, .int v]) := by
    rw [planD, List.map_map]
    rfl
  rw [e]
  have hs : subD (planD .shr R) (.int (x : Nat)) = some (rowD .shr r) := by
    rw [← hr]
    exact sub_rows hx
  refine comp_map (enc := D.int) (ks := [rowD .shr r]) (g1 := [v0, v1, passD .shr ps, v3, planD .shr R, v5, v6, v7, v8, v9, v10, v11, v12, v13, v14, v15, v16, v17, v18, .int (x : Nat), v20]) rfl ?_ (by omega) fun v _ => ?_
  · simp [evS, evE, evA, evI, evP, Rs.so, Rs.bind, ensure, E.imp, readV, D.sh, D.shs, D.nb, D.nbs, lentIf, Rs.of, So.of, So.ens, asgT, setAny, okn, optB, E.isNop, opD, isD, tyS, isTab, D.getp, D.setp, mmD, nbs_app, h4, h4', hs]
  · simp [turnC, evS, evE, evA, evI, evP, Rs.so, Rs.bind, ensure, E.imp, readV, D.sh, D.shs, D.nb, D.nbs, lentIf, Rs.of, So.of, So.ens, asgT, setAny, okn, optB, E.isNop, opD, isD, tyS, isTab, D.getp, D.setp, mmD, nbs_app]
theorem w25 {T : Tab} (B : Hs T [0, 1, 2, 3, 4, 5, 6, 7, 8, 9, 10, 18, 24]) (G : Glo T) (n : Nat) {v0 v1 v3 v5 v6 v7 v8 v9 v10 v11 v12 v13 v14 v15 v16 v17 v18 v20 : D} {x4 : D} {ps : List (List Str)} {x : Nat} {r : List Int} {t : Bool} (h4p : ps.length ≤ 4) (hp : ∀ p ∈ ps, Box p) (h4 : x4.sh = planD .shr ((pathsP ps).map (·.1))) (h4' : x4.isAny = false) (hx : x < ((pathsP ps).map (·.1)).length) (hrx : ((pathsP ps).map (·.1)).getD x [] = r) (hr : (r, t) ∈ pathsP ps) :
    evS (T.cx (callD T (n + 5))) 0 b25_5 [v0, v1, passD .shr ps, v3, x4, v5, v6, v7, v8, v9, v10, v11, v12, v13, v14, v15, v16, v17, v18, .int (x : Nat), v20] = .nx [v0, v1, passD .shr ps, v3, planD .shr ((pathsP ps).map (·.1)), v5, v6, v7, v8, rowD .own (turnIf t [3, 5]), v10, v11, v12, v13, v14, v15, v16, .any, v18, .int (x : Nat), v20] := by
  obtain ⟨rows, o, hr4, hlast, h10⟩ := pair35 (T := T) (B.sub rfl) G n ps h4p hp hr
  obtain ⟨o24, h24⟩ := e24 (T := T) (B.sub rfl) (n + 3) ps h4p hp hr
  have hroad := rows_len hr
  have hrl : r.length < 1000 := by rw [hroad.len]; omega
  have hc := c25 (C := T.cx (callD T (n + 5))) (v0 := v0) (v1 := v1) (v3 := v3) (v5 := v5) (v6 := v6) (v7 := v7) (v8 := v8) (v9 := v9) (v10 := v10) (v11 := v11) (v12 := v12) (v13 := v13) (v14 := v14) (v15 := v15) (v16 := v16) (v17 := v17) (v18 := v18) (v20 := v20) (x4 := x4) (ps := ps) (R := (pathsP ps).map (·.1)) (x := x) (r := r) h4 h4' hx hrx hrl
  have h10' : callD T (n + 5) 10 [.nd .shr .lst [.int 3, .int 5], passD .shr ps, planD .shr (r.map fun v => [v, v])] = .ok (planD .own rows) o := h10
  have ha : opD .add (.nd .own .lst [.nd .own .lst [.int 3, .int 5]]) (planD .own rows) = some (.nd .own .lst (([3, 5] :: rows).map (rowD .own))) := by
    show (if okn ([D.nd .own .lst [.int 3, .int 5]].length + (rows.map (rowD .own)).length) = true then _ else none) = _
    rw [if_pos (by simp [okn]; omega)]
    rfl
  have hs := sub_last (f := .own) (h := .own) hlast
  have hsx : subD (planD .shr ((pathsP ps).map (·.1))) (.int (x : Nat)) = some (rowD .shr r) := by
    rw [← hrx]
    exact sub_rows hx
  have hcmp : cmpD .ne (rowD .shr (turnIf t [3, 5])) (if t = true then .nd .own .lst [.int 5, .int 3] else .nd .own .lst [.int 3, .int 5]) = some false := by
    cases t
    · have h := (cmp_row .shr .own [3, 5] [3, 5]).2
      exact h
    · have h := (cmp_row .shr .own [5, 3] [5, 3]).2
      exact h
  generalize (pathsP ps).map (·.1) = R at *
  refine (seq_nx (g1 := [v0, v1, passD .shr ps, v3, planD .shr R, v5, v6, v7, v8, rowD .own (turnIf t [3, 5]), v10, v11, v12, v13, v14, v15, v16, .any, v18, .int (x : Nat), v20]) ?_).trans ((seq_nx (g1 := [v0, v1, passD .shr ps, v3, planD .shr R, v5, v6, v7, v8, rowD .own (turnIf t [3, 5]), v10, v11, v12, v13, v14, v15, v16, .any, v18, .int (x : Nat), v20]) ?_).trans rfl)
  · generalize hE : E.comp (.lst (.cons (.var 17 .s) (.cons (.var 17 .s) .nil))) .nop (.nm 17) (.src (.ix (.var 4 .s) (.var 19 .s))) [17] = A at hc
    have hA : A.imp = false := by rw [← hE]; rfl
    generalize ([3, 5] :: rows).map (rowD .own) = L at ha hs
    simp [evS, evE, evA, Rs.so, Rs.bind, ensure, E.imp, readV, D.sh, D.shs, D.nb, D.nbs, okn, hE, hA, hc, lentIf, h10', ha, hs, Rs.of, So.of, asgT]
  · cases t
    · simp only [Bool.false_eq_true, if_false] at hcmp
      simp [evS, evE, evA, Rs.so, Rs.bind, ensure, E.imp, readV, D.sh, D.shs, D.nb, D.nbs, okn, lentIf, hsx, h24, hcmp, Rs.of, D.flat]
    · simp only [if_true] at hcmp
      simp [evS, evE, evA, Rs.so, Rs.bind, ensure, E.imp, readV, D.sh, D.shs, D.nb, D.nbs, okn, lentIf, hsx, h24, hcmp, Rs.of, D.flat]

theorem cut_last {α : Type} (xs : List α) : Bx.cutD xs none (some (-1)) = xs.dropLast := by
  unfold Bx.cutD
  show (xs.drop 0).take ((if (-1 : Int) < 0 then (-1 + (xs.length : Int)).toNat else min (-1 : Int).toNat xs.length) - 0) = _
  rw [if_pos (by decide), List.drop_zero, Nat.sub_zero, List.dropLast_eq_take]
  congr 1
  omega
theorem x25 {C : Cxt} {v0 v1 v4 v5 v6 v7 v8 v9 v10 v11 v12 v13 v14 v15 v16 v17 v18 v19 v20 : D} {ps : List (List Str)} {R : List (List Int)} {o o' : D} (hne : ps ≠ []) (h22 : C.fn 22 [passD .shr ps.dropLast] = .ok (planD .own R) o) (h23 : C.fn 23 [passD .shr ps.dropLast] = .ok (rowsD .own .shr R) o') :
    evS C 0 b25_6 [v0, v1, passD .shr ps, passD .own ps, v4, v5, v6, v7, v8, v9, v10, v11, v12, v13, v14, v15, v16, v17, v18, v19, v20] = .nx [v0, v1, passD .shr ps, passD .own ps.dropLast, v4, v5, v6, v7, v8, v9, v10, v11, v12, v13, v14, v15, v16, v17, v18, v19, v20] := by
  have hcmp : cmpD .ne (planD .own R) (rowsD .own .shr R) = some false := by
    have := (cmp_rows .own .own .own .shr R R).2
    rw [decide_eq_true rfl] at this
    exact this
  obtain ⟨ys, y, rfl⟩ : ∃ ys y, ps = ys ++ [y] := ⟨ps.dropLast, ps.getLast hne, (List.dropLast_concat_getLast hne).symm⟩
  rw [List.dropLast_concat] at *
  have e1 : passD .own (ys ++ [y]) = .nd .own .lst (ys.map (boxD .own) ++ [boxD .own y]) := by rw [passD, List.map_append]; rfl
  have e2 : passD .own ys = .nd .own .lst (ys.map (boxD .own)) := rfl
  have hsl : slD (passD .shr (ys ++ [y])) none (some (-1)) = some (.nd .own .lst (ys.map (boxD .shr))) := by
    show some (D.nd .own .lst (Bx.cutD ((ys ++ [y]).map (boxD .shr)) none (some (-1)))) = _
    rw [cut_last, List.map_append]
    show some (D.nd .own .lst (ys.map (boxD .shr) ++ [boxD .shr y]).dropLast) = _
    rw [List.dropLast_concat]
  have hsh : (D.nd .own .lst (ys.map (boxD .shr))).sh = passD .shr ys := by rw [D.sh, shs_box]; rfl
  have hsh2 : (D.nd .own .lst (ys.map (boxD .shr))).nb = true := by simp [D.nb]
  refine (seq_nx (g1 := [v0, v1, passD .shr (ys ++ [y]), passD .own ys, v4, v5, v6, v7, v8, v9, v10, v11, v12, v13, v14, v15, v16, v17, v18, v19, v20]) ?_).trans ((seq_nx (g1 := [v0, v1, passD .shr (ys ++ [y]), passD .own ys, v4, v5, v6, v7, v8, v9, v10, v11, v12, v13, v14, v15, v16, v17, v18, v19, v20]) ?_).trans rfl)
  · rw [e1, e2]
    simp [evS, evE, evA, evI, evP, Rs.so, Rs.bind, ensure, E.imp, readV, D.sh, D.shs, D.nb, D.nbs, lentIf, Rs.of, So.of, So.ens, asgT, setAny, okn, optB, E.isNop, opD, isD, tyS, isTab, D.getp, D.setp, mmD, nbs_app]
  · generalize D.nd .own .lst (ys.map (boxD .shr)) = Z at hsl hsh hsh2
    simp [evS, evE, evA, Rs.so, Rs.bind, ensure, E.imp, readV, D.shs, D.nbs, optI, E.isNop, hsl, hsh, hsh2, lentIf, h22, h23, hcmp, Rs.of, D.flat]
end Ku

namespace Ku
open PySem PySem.Spec PyProof.Rows L2 Bx
theorem Road.bound : ∀ {ps : List (List Str)} {r : List Int}, (∀ p ∈ ps, Box p) → Road ps r → ∀ x ∈ r, 0 ≤ x ∧ x < 3
  | [], [], _, _, _, h => nomatch h
  | p :: ps, b :: r, hp, h, x, hx => by
    rcases List.mem_cons.mp hx with rfl | hx
    · have := (hp p (List.mem_cons_self ..)).2.1
      have := h.1
      omega
    · exact Road.bound (fun q hq => hp q (List.mem_cons_of_mem _ hq)) h.2 x hx
  | [], _ :: _, _, h, _, _ => h.elim
  | _ :: _, [], _, h, _, _ => h.elim
theorem sum_le (k : Nat) : ∀ R : List (List Int), (∀ r ∈ R, r.length ≤ k) → (R.map fun r => r.length + 1).sum ≤ R.length * (k + 1)
  | [], _ => by simp
  | r :: R, h => by
    have a := sum_le k R fun x hx => h x (List.mem_cons_of_mem _ hx)
    have b := h r (List.mem_cons_self ..)
    simp only [List.map_cons, List.sum_cons, List.length_cons, Nat.succ_mul]
    omega
theorem cut_map {α β : Type} (f : α → β) (xs : List α) (lo hi : Option Int) : Bx.cutD (xs.map f) lo hi = (Bx.cutD xs lo hi).map f := by
  unfold Bx.cutD
  rw [List.length_map, ← List.map_drop, ← List.map_take]
theorem mem_cut {α : Type} {xs : List α} {lo hi : Option Int} {x : α} (h : x ∈ Bx.cutD xs lo hi) : x ∈ xs := List.mem_of_mem_drop (List.mem_of_mem_take h)
theorem plan_names {ps : List (List Str)} {names : List Int} {m : Nat} (hm : ∀ x ∈ names, 0 ≤ x ∧ x < ((pathsP ps).map (·.1)).length) (hlen : names.length = m) : Plan m ps ((List.range ps.length).map fun t => names.map fun x => (((pathsP ps).map (·.1)).getD x.toNat []).getD t 0) := by
  refine plan_of (by simp) fun t p r h1 h2 => ?_
  have ht : t < ps.length := (List.getElem?_eq_some_iff.mp h1).1
  rw [List.getElem?_map, List.getElem?_range ht] at h2
  simp only [Option.map_some, Option.some.injEq] at h2
  subst h2
  refine ⟨by simp [hlen], fun v hv => ?_⟩
  obtain ⟨x, hx, rfl⟩ := List.mem_map.mp hv
  have hb := hm x hx
  have hb2 : x.toNat < ((pathsP ps).map (·.1)).length := by omega
  have hroad : Road ps (((pathsP ps).map (·.1)).getD x.toNat []) := by
    rw [List.getD_eq_getElem?_getD, List.getElem?_eq_getElem hb2, Option.getD_some]
    obtain ⟨y, hy, e⟩ := List.mem_map.mp (List.getElem_mem hb2)
    rw [← e]
    exact rows_len hy
  exact hroad.at t h1

theorem wl25 {T : Tab} (B : Hs T [0, 1, 2, 3, 4, 5, 6, 7, 8, 9, 10, 18, 24]) (G : Glo T) (n : Nat) {v0 v1 v3 v5 v6 v7 v8 v9 v10 v11 v13 v14 v15 v16 v17 v18 v19 v20 : D} {x4_0 : D} {ps : List (List Str)} {names : List Int} (h4p : ps.length ≤ 4) (hp : ∀ p ∈ ps, Box p) (h4 : x4_0.sh = planD .shr ((pathsP ps).map (·.1))) (h4' : x4_0.isAny = false) (hm : ∀ x ∈ names, 0 ≤ x ∧ x < ((pathsP ps).map (·.1)).length) (hl : names.length < 64) :
    ∃ x4 x9 x17 x19, evS (T.cx (callD T (n + 5))) 0 (.for (.nm 19) (.src (.sl (.sset (.var 12 .b)) .nop (.int 6))) b25_5) [v0, v1, passD .shr ps, v3, x4_0, v5, v6, v7, v8, v9, v10, v11, rowD .own names, v13, v14, v15, v16, v17, v18, v19, v20] = .nx [v0, v1, passD .shr ps, v3, x4, v5, v6, v7, v8, x9, v10, v11, rowD .own names, v13, v14, v15, v16, x17, v18, x19, v20] := by
  let P : List Int → List D → Prop := fun _ g => ∃ x4 x9 x17 x19 : D, x4.sh = planD .shr ((pathsP ps).map (·.1)) ∧ x4.isAny = false ∧ g = [v0, v1, passD .shr ps, v3, x4, v5, v6, v7, v8, x9, v10, v11, rowD .own names, v13, v14, v15, v16, x17, v18, x19, v20]
  have lp : ∃ g', loopL (fun x g => match asgT 0 (.nm 19) x g with
      | none => .bad
      | some g => evS (T.cx (callD T (n + 5))) 0 b25_5 g) ((Bx.cutD (isort (dedup names)) none (some 6)).map .int) [v0, v1, passD .shr ps, v3, x4_0, v5, v6, v7, v8, v9, v10, v11, rowD .own names, v13, v14, v15, v16, v17, v18, v19, v20] = .nx g' ∧ P (Bx.cutD (isort (dedup names)) none (some 6)) g' := by
    refine loop_pre P (fun done x rest g e hq => ?_) _ ⟨x4_0, v9, v17, v19, h4, h4', rfl⟩
    obtain ⟨x4, x9, x17, x19, a4, a4', rfl⟩ := hq
    have hx : x ∈ names := (mem_dedup x names).mp ((isort_perm _).mem_iff.mp (mem_cut (show x ∈ Bx.cutD (isort (dedup names)) none (some 6) by rw [e]; simp)))
    obtain ⟨h0, h1⟩ := hm x hx
    obtain ⟨k, rfl⟩ : ∃ k : Nat, x = (k : Int) := ⟨x.toNat, by omega⟩
    have hk : k < ((pathsP ps).map (·.1)).length := by omega
    have hk' : k < (pathsP ps).length := by simpa using hk
    have hr : (((pathsP ps).map (·.1)).getD k [], ((pathsP ps)[k]).2) ∈ pathsP ps := by
      have e1 : ((pathsP ps).map (·.1)).getD k [] = ((pathsP ps)[k]).1 := by
        rw [List.getD_eq_getElem?_getD, List.getElem?_eq_getElem hk]
        simp
      rw [e1]
      exact List.getElem_mem hk'
    have h := w25 (T := T) B G n (v0 := v0) (v1 := v1) (v3 := v3) (v5 := v5) (v6 := v6) (v7 := v7) (v8 := v8) (v9 := x9) (v10 := v10) (v11 := v11) (v12 := rowD .own names) (v13 := v13) (v14 := v14) (v15 := v15) (v16 := v16) (v17 := x17) (v18 := v18) (v20 := v20) (x4 := x4) (ps := ps) (x := k) h4p hp a4 a4' hk rfl hr
    exact ⟨_, h, _, _, _, _, by simp, rfl, rfl⟩
  obtain ⟨g, hg, x4, x9, x17, x19, a4, a4', rfl⟩ := lp
  refine ⟨x4, x9, x17, x19, for_nx (q := ((Bx.cutD (isort (dedup names)) none (some 6)).map .int, [.nd .own .lst ((Bx.cutD (isort (dedup names)) none (some 6)).map .int)])) (g1 := [v0, v1, passD .shr ps, v3, x4_0, v5, v6, v7, v8, v9, v10, v11, rowD .own names, v13, v14, v15, v16, v17, v18, v19, v20]) ?_ ?_ hg⟩
  · have hb := bo_row names
    have e3 : rowD .bor names = .nd .bor .lst (names.map D.int) := rfl
    rw [e3] at hb
    have hcm := cut_map D.int (isort (dedup names)) none (some 6)
    simp [evI, evE, Rs.bind, ensure, readV, Rs.of, E.imp, hb, ints_map, hl, optI, E.isNop, slD, hcm, uns_ints]
  · simp [E.lockd, D.nbs, D.nb]
end Ku

namespace Ku
open PySem PySem.Spec PyProof.Rows L2 Bx
theorem o25 {T : Tab} (B : Hs T [0, 1, 2, 3, 4, 5, 6, 7, 8, 9, 10, 11, 12, 13, 14, 15, 16, 18, 19, 21, 22, 23, 24]) (G : Glo T) (n : Nat) {v2 v3 v4 v5 v6 v7 v8 v9 v10 v11 v12 v13 v14 v15 v16 v17 v18 v19 v20 : D} (ns : List Int) (b : Nat) (hb : b < 3) :
    ∃ w2 w3 w4 w5 w6 w7 w8 w9 w10 w11 w12 w13 w14 w15 w16 w17 w18 w19 w20, evS (T.cx (callD T (n + 5))) 0 b25_7 [.scr ns, .int (b : Nat), v2, v3, v4, v5, v6, v7, v8, v9, v10, v11, v12, v13, v14, v15, v16, v17, v18, v19, v20] = .nx [.scr ns, .int (b : Nat), w2, w3, w4, w5, w6, w7, w8, w9, w10, w11, w12, w13, w14, w15, w16, w17, w18, w19, w20] := by
  obtain ⟨ps, o16, p1, p2, h16⟩ := e16 (T := T) (B.sub rfl) (n + 1) ns b (by omega) (m := 4) (h := 3) (by decide) (by decide) (by decide) (by decide)
  have h4 : ps.length ≤ 4 := by omega
  have h16 : callD T (n + 5) 16 [.scr ns, .int b, .int 4, .int 3] = .ok (passD .own ps) o16 := h16
  obtain ⟨o19, h19⟩ := e19p (T := T) (B.sub rfl) (n + 4) ps (by omega)
  obtain ⟨o23, h23⟩ := e23 (T := T) (B.sub rfl) (n + 3) ps h4 p2
  obtain ⟨o22, h22⟩ := e22 (T := T) (B.sub rfl) G (n + 2) ps h4 p2
  have h81 : ((pathsP ps).map (·.1)).length ≤ 81 := by rw [List.length_map]; exact paths_81 h4 p2
  have hpos : 0 < ((pathsP ps).map (·.1)).length := by
    have := lex_pos p2
    rw [lex_len] at this
    rw [List.length_map]
    exact this
  have hroadR : ∀ r ∈ ((pathsP ps).map (·.1)), Road ps r := fun r hr => by
    obtain ⟨x, hx, rfl⟩ := List.mem_map.mp hr
    exact rows_len hx
  have hRn : ∀ r ∈ ((pathsP ps).map (·.1)), r.length = ps.length := fun r hr => (hroadR r hr).len
  have hxR : ∀ r ∈ ((pathsP ps).map (·.1)), ∀ x ∈ r, x.natAbs < 10 ^ 12 := fun r hr x hx => by
    have := Road.bound p2 (hroadR r hr) x hx
    omega
  have hbR : (((pathsP ps).map (·.1)).map fun r => r.length + 1).sum ≤ 60000 := by
    have := sum_le 4 ((pathsP ps).map (·.1)) fun r hr => by rw [hRn r hr]; exact h4
    omega
  have hsz : ps.foldl (fun n p => n * p.length) 1 = ((pathsP ps).map (·.1)).length := by rw [← paths_len, List.length_map]
  have s1 : evS (T.cx (callD T (n + 5))) 0 (.set 2 (.call 16 (.cons (.var 0 .s) (.cons (.var 1 .s) (.cons (.int 4) (.cons (.int 3) .nil)))))) [.scr ns, .int (b : Nat), v2, v3, v4, v5, v6, v7, v8, v9, v10, v11, v12, v13, v14, v15, v16, v17, v18, v19, v20] = .nx [.scr ns, .int (b : Nat), passD .own ps, v3, v4, v5, v6, v7, v8, v9, v10, v11, v12, v13, v14, v15, v16, v17, v18, v19, v20] := by
    simp [evS, evE, evA, evI, evP, Rs.so, Rs.bind, ensure, E.imp, readV, D.sh, D.shs, D.nb, D.nbs, lentIf, Rs.of, So.of, So.ens, asgT, setAny, okn, optB, E.isNop, opD, isD, tyS, isTab, D.getp, D.setp, mmD, nbs_app, h16]
  have s2 : evS (T.cx (callD T (n + 5))) 0 (.par [3, 4, 5] (.cons (.call 19 (.cons (.var 2 .s) .nil)) (.cons (.call 23 (.cons (.var 2 .s) .nil)) (.cons (.int 1) .nil)))) [.scr ns, .int (b : Nat), passD .own ps, v3, v4, v5, v6, v7, v8, v9, v10, v11, v12, v13, v14, v15, v16, v17, v18, v19, v20] = .nx [.scr ns, .int (b : Nat), passD .shr ps, passD .own ps, rowsD .own .shr ((pathsP ps).map (·.1)), .int 1, v6, v7, v8, v9, v10, v11, v12, v13, v14, v15, v16, v17, v18, v19, v20] := by
    simp [evS, evE, evA, evI, evP, Rs.so, Rs.bind, ensure, E.imp, readV, D.sh, D.shs, D.nb, D.nbs, lentIf, Rs.of, So.of, So.ens, asgT, setAny, okn, optB, E.isNop, opD, isD, tyS, isTab, D.getp, D.setp, mmD, nbs_app, setAll, h19, h23]
  obtain ⟨w6, s3⟩ := a25 (C := T.cx (callD T (n + 5))) (v0 := .scr ns) (v1 := .int (b : Nat)) (v3 := passD .own ps) (v4 := rowsD .own .shr ((pathsP ps).map (·.1))) (v6 := v6) (v7 := v7) (v8 := v8) (v9 := v9) (v10 := v10) (v11 := v11) (v12 := v12) (v13 := v13) (v14 := v14) (v15 := v15) (v16 := v16) (v17 := v17) (v18 := v18) (v19 := v19) (v20 := v20) h4 p2
  rw [hsz] at s3
  obtain ⟨w7, w8, w9, s4⟩ := bb25 (C := T.cx (callD T (n + 5))) (v0 := .scr ns) (v1 := .int (b : Nat)) (v6 := w6) (v7 := v7) (v8 := v8) (v9 := v9) (v10 := v10) (v11 := v11) (v12 := v12) (v13 := v13) (v14 := v14) (v15 := v15) (v16 := v16) (v17 := v17) (v18 := v18) (v19 := v19) (v20 := v20) (ps := ps) p2 (o := o22) h22 hxR hbR (by omega) (fun r hr => by rw [hRn r hr]; omega)
  obtain ⟨ls, hls, hlm, s5⟩ := l25 (T := T) (B.sub rfl) (n + 2) (v2 := passD .shr ps) (v3 := passD .own ps) (v4 := rowsD .own .shr ((pathsP ps).map (·.1))) (v6 := w6) (v7 := w7) (v8 := w8) (v9 := w9) (v10 := v10) (v11 := v11) (v12 := v12) (v13 := v13) (v14 := v14) (v15 := v15) (v16 := v16) (v17 := v17) (v18 := v18) (v19 := v19) (v20 := v20) ns b hb ((pathsP ps).map (·.1)).length hpos
  have s6 := u25 (C := T.cx (callD T (n + 5))) (v0 := .scr ns) (v1 := .int (b : Nat)) (v3 := passD .own ps) (v4 := rowsD .own .shr ((pathsP ps).map (·.1))) (v5 := .int (((pathsP ps).map (·.1)).length : Nat)) (v6 := w6) (v7 := w7) (v8 := w8) (v9 := w9) (v10 := rowD .own ls) (v11 := v11) (v12 := v12) (v13 := v13) (v14 := v14) (v15 := v15) (v16 := v16) (v17 := v17) (v18 := v18) (v19 := v19) (v20 := v20) (ps := ps) h4
  obtain ⟨names, x4, x13, x14, x15, x16, x17, x19, a1, a2, a3, a4, a5, s7⟩ := nl25 (T := T) (B.sub rfl) (n + 3) (v2 := passD .shr ps) (v3 := passD .own ps) (v6 := .any) (v7 := w7) (v8 := w8) (v9 := w9) (v13 := v13) (v14 := v14) (v15 := v15) (v16 := v16) (v17 := v17) (v18 := v18) (v19 := v19) (v20 := v20) (R := ((pathsP ps).map (·.1))) (ls := ls) (ns := ns) (ps := ps) (b := b) hb hls.2.1 hlm h4 h81 hRn
  have hpl := plan_names (m := ls.length) a3 a1
  have hsend := send_names p2 a2 a3 hls.2.2.1 a1
  have hcn := cmp_nil p2
  have s8 : ∃ x18, evS (T.cx (callD T (n + 5))) 0 (.ife (.cmp .ne (.var 2 .s) (.lst .nil)) b25_4 .nil) [.scr ns, .int (b : Nat), passD .shr ps, passD .own ps, x4, .int (((pathsP ps).map (·.1)).length : Nat), .any, w7, w8, w9, rowD .shr ls, planD .own ((List.range ps.length).map fun t => names.map fun x => (((pathsP ps).map (·.1)).getD x.toNat []).getD t 0), rowD .own names, x13, x14, x15, x16, x17, v18, x19, v20] = .nx [.scr ns, .int (b : Nat), passD .shr ps, passD .own ps, x4, .int (((pathsP ps).map (·.1)).length : Nat), .any, w7, w8, w9, rowD .shr ls, planD .own ((List.range ps.length).map fun t => names.map fun x => (((pathsP ps).map (·.1)).getD x.toNat []).getD t 0), rowD .own names, x13, x14, x15, x16, x17, x18, x19, v20] := by
    by_cases e : ps = []
    · refine ⟨v18, ?_⟩
      rw [decide_eq_false (fun z => z e)] at hcn
      generalize b25_4 = Z
      simp [evS, evE, evA, Rs.so, Rs.bind, ensure, E.imp, readV, okn, hcn, Rs.of]
    · rw [decide_eq_true e] at hcn
      have h := ord25 (T := T) (B.sub rfl) G n (v0 := .scr ns) (v1 := .int (b : Nat)) (v3 := passD .own ps) (v4 := x4) (v5 := .int (((pathsP ps).map (·.1)).length : Nat)) (v6 := .any) (v7 := w7) (v8 := w8) (v9 := w9) (v13 := x13) (v14 := x14) (v15 := x15) (v16 := x16) (v17 := x17) (v18 := v18) (v19 := x19) (v20 := v20) (ps := ps) (ls := ls) (names := names) h4 p2 hls a1 e hpl hsend
      refine ⟨_, Eq.trans ?_ h⟩
      generalize b25_4 = Z
      simp [evS, evE, evA, Rs.so, Rs.bind, ensure, E.imp, readV, okn, hcn, Rs.of]
  obtain ⟨x18, s8⟩ := s8
  obtain ⟨y4, y9, y17, y19, s9⟩ := wl25 (T := T) (B.sub rfl) G n (v0 := .scr ns) (v1 := .int (b : Nat)) (v3 := passD .own ps) (v5 := .int (((pathsP ps).map (·.1)).length : Nat)) (v6 := .any) (v7 := w7) (v8 := w8) (v9 := w9) (v10 := rowD .shr ls) (v11 := planD .own ((List.range ps.length).map fun t => names.map fun x => (((pathsP ps).map (·.1)).getD x.toNat []).getD t 0)) (v13 := x13) (v14 := x14) (v15 := x15) (v16 := x16) (v17 := x17) (v18 := x18) (v19 := x19) (v20 := v20) (x4_0 := x4) (ps := ps) (names := names) h4 p2 a4 a5 a3 (by have := hls.2.1; omega)
  have s10 : ∃ y3, evS (T.cx (callD T (n + 5))) 0 (.ife (.cmp .ne (.var 2 .s) (.lst .nil)) b25_6 .nil) [.scr ns, .int (b : Nat), passD .shr ps, passD .own ps, y4, .int (((pathsP ps).map (·.1)).length : Nat), .any, w7, w8, y9, rowD .shr ls, planD .own ((List.range ps.length).map fun t => names.map fun x => (((pathsP ps).map (·.1)).getD x.toNat []).getD t 0), rowD .own names, x13, x14, x15, x16, y17, x18, y19, v20] = .nx [.scr ns, .int (b : Nat), passD .shr ps, y3, y4, .int (((pathsP ps).map (·.1)).length : Nat), .any, w7, w8, y9, rowD .shr ls, planD .own ((List.range ps.length).map fun t => names.map fun x => (((pathsP ps).map (·.1)).getD x.toNat []).getD t 0), rowD .own names, x13, x14, x15, x16, y17, x18, y19, v20] := by
    by_cases e : ps = []
    · refine ⟨passD .own ps, ?_⟩
      rw [decide_eq_false (fun z => z e)] at hcn
      generalize b25_6 = Z
      simp [evS, evE, evA, Rs.so, Rs.bind, ensure, E.imp, readV, okn, hcn, Rs.of]
    · rw [decide_eq_true e] at hcn
      have hd : ∀ p ∈ ps.dropLast, Box p := fun p hp => p2 p (List.mem_of_mem_take (by rw [List.dropLast_eq_take] at hp; exact hp))
      have hd4 : ps.dropLast.length ≤ 4 := by rw [List.length_dropLast]; omega
      obtain ⟨oa, ha⟩ := e22 (T := T) (B.sub rfl) G (n + 2) ps.dropLast hd4 hd
      obtain ⟨ob, hb'⟩ := e23 (T := T) (B.sub rfl) (n + 3) ps.dropLast hd4 hd
      have h := x25 (C := T.cx (callD T (n + 5))) (v0 := .scr ns) (v1 := .int (b : Nat)) (v4 := y4) (v5 := .int (((pathsP ps).map (·.1)).length : Nat)) (v6 := .any) (v7 := w7) (v8 := w8) (v9 := y9) (v10 := rowD .shr ls) (v11 := planD .own ((List.range ps.length).map fun t => names.map fun x => (((pathsP ps).map (·.1)).getD x.toNat []).getD t 0)) (v12 := rowD .own names) (v13 := x13) (v14 := x14) (v15 := x15) (v16 := x16) (v17 := y17) (v18 := x18) (v19 := y19) (v20 := v20) (ps := ps) (o := oa) (o' := ob) e ha hb'
      refine ⟨_, Eq.trans ?_ h⟩
      generalize b25_6 = Z
      simp [evS, evE, evA, Rs.so, Rs.bind, ensure, E.imp, readV, okn, hcn, Rs.of]
  obtain ⟨y3, s10⟩ := s10
  exact ⟨_, _, _, _, _, _, _, _, _, _, _, _, _, _, _, _, _, _, _, (seq_nx s1).trans ((seq_nx s2).trans ((seq_nx s3).trans ((seq_nx s4).trans ((seq_nx s5).trans ((seq_nx s6).trans ((seq_nx s7).trans ((seq_nx s8).trans ((seq_nx s9).trans ((seq_nx s10).trans rfl)))))))))⟩
end Ku

namespace Ku
open PySem PySem.Spec PyProof.Rows L2 Bx
abbrev S2 : List Nat := [6, 7, 21, 22]
theorem boxes_by {ps : List (List Str)} (h : ps.all (fun p => decide (1 ≤ p.length) && decide (p.length ≤ 3) && p.all fun s => decide (s = "line") || decide (s = "pile")) = true) : ∀ p ∈ ps, Box p := fun p hp => by
  have := List.all_eq_true.mp h p hp
  simp only [Bool.and_eq_true, decide_eq_true_eq, List.all_eq_true, Bool.or_eq_true] at this
  exact ⟨this.1.1, this.1.2, this.2⟩
theorem told {T : Tab} (B : Hs T S2) (G : Glo T) (n : Nat) (ps : List (List Str)) (rows : List (List Int)) (h4 : ps.length ≤ 4) (h : ps.all (fun p => decide (1 ≤ p.length) && decide (p.length ≤ 3) && p.all fun s => decide (s = "line") || decide (s = "pile")) = true) (hr : (pathsP ps).map (·.1) = rows) : ∃ o, callD T (n + 5) 22 [passD .shr ps] = .ok (planD .own rows) o := by
  obtain ⟨o, h⟩ := e22 B G (n + 2) ps h4 (boxes_by h)
  rw [hr] at h
  exact ⟨o, h⟩
theorem e25 {T : Tab} (B : Hs T [0, 1, 2, 3, 4, 5, 6, 7, 8, 9, 10, 11, 12, 13, 14, 15, 16, 18, 19, 21, 22, 23, 24, 25]) (G : Glo T) (n : Nat) (ns : List Int) : ∃ o, callD T (n + 6) 25 [.scr ns] = .ok (.bl true) o := by
  rw [call_fn (fd := f25) (B.at (i := 25) rfl rfl)]
  let P : Nat → List D → Prop := fun _ g => ∃ x1 x2 x3 x4 x5 x6 x7 x8 x9 x10 x11 x12 x13 x14 x15 x16 x17 x18 x19 x20, g = [.scr ns, x1, x2, x3, x4, x5, x6, x7, x8, x9, x10, x11, x12, x13, x14, x15, x16, x17, x18, x19, x20]
  have lp : ∃ g', loopL (fun x g => match asgT 0 (.nm 1) x g with
      | none => .bad
      | some g => evS (T.cx (callD T (n + 5))) 0 b25_7 g) (upTo 0 3)
      [.scr ns, .any, .any, .any, .any, .any, .any, .any, .any, .any, .any, .any, .any, .any, .any, .any, .any, .any, .any, .any, .any] = .nx g' ∧ P 3 g' := by
    refine loop_upTo P (fun i g hi hq => ?_) _ ⟨_, _, _, _, _, _, _, _, _, _, _, _, _, _, _, _, _, _, _, _, rfl⟩
    obtain ⟨x1, x2, x3, x4, x5, x6, x7, x8, x9, x10, x11, x12, x13, x14, x15, x16, x17, x18, x19, x20, rfl⟩ := hq
    obtain ⟨w2, w3, w4, w5, w6, w7, w8, w9, w10, w11, w12, w13, w14, w15, w16, w17, w18, w19, w20, h⟩ := o25 (T := T) (B.sub rfl) G n ns i hi (v2 := x2) (v3 := x3) (v4 := x4) (v5 := x5) (v6 := x6) (v7 := x7) (v8 := x8) (v9 := x9) (v10 := x10) (v11 := x11) (v12 := x12) (v13 := x13) (v14 := x14) (v15 := x15) (v16 := x16) (v17 := x17) (v18 := x18) (v19 := x19) (v20 := x20)
    exact ⟨_, h, _, _, _, _, _, _, _, _, _, _, _, _, _, _, _, _, _, _, _, _, rfl⟩
  obtain ⟨g, hg, x1, x2, x3, x4, x5, x6, x7, x8, x9, x10, x11, x12, x13, x14, x15, x16, x17, x18, x19, x20, rfl⟩ := lp
  obtain ⟨o1, h1⟩ := told (T := T) (B.sub rfl) G n [["line", "line"]] [[0], [1]] (by decide) (by decide) (by decide +kernel)
  obtain ⟨o2, h2⟩ := told (T := T) (B.sub rfl) G n [["pile"]] [[0]] (by decide) (by decide) (by decide +kernel)
  obtain ⟨o3, h3⟩ := told (T := T) (B.sub rfl) G n [["line", "line"], ["pile", "line"]] [[1, 0], [0, 0], [0, 1], [1, 1]] (by decide) (by decide) (by decide +kernel)
  obtain ⟨o4, h4⟩ := told (T := T) (B.sub rfl) G n [] [[]] (by decide) (by decide) (by decide +kernel)
  obtain ⟨o5, h5⟩ := told (T := T) (B.sub rfl) G n [["pile", "line", "pile"]] [[0], [1], [2]] (by decide) (by decide) (by decide +kernel)
  have h1 : callD T (n + 5) 22 [.nd .shr .lst [.nd .shr .lst [.str "line", .str "line"]]] = .ok (planD .own [[0], [1]]) o1 := h1
  have h2 : callD T (n + 5) 22 [.nd .shr .lst [.nd .shr .lst [.str "pile"]]] = .ok (planD .own [[0]]) o2 := h2
  have h3 : callD T (n + 5) 22 [.nd .shr .lst [.nd .shr .lst [.str "line", .str "line"], .nd .shr .lst [.str "pile", .str "line"]]] = .ok (planD .own [[1, 0], [0, 0], [0, 1], [1, 1]]) o3 := h3
  have h4 : callD T (n + 5) 22 [.nd .shr .lst []] = .ok (planD .own [[]]) o4 := h4
  have h5 : callD T (n + 5) 22 [.nd .shr .lst [.nd .shr .lst [.str "pile", .str "line", .str "pile"]]] = .ok (planD .own [[0], [1], [2]]) o5 := h5
  have c1 : cmpD .ne (planD .shr [[0], [1]]) (.nd .own .lst [.nd .own .lst [.int 0], .nd .own .lst [.int 1]]) = some false := by decide +kernel
  have c2 : cmpD .ne (planD .own [[0]]) (.nd .own .lst [.nd .own .lst [.int 0]]) = some false := by decide +kernel
  have c3 : cmpD .ne (planD .own [[1, 0], [0, 0], [0, 1], [1, 1]]) (.nd .own .lst [.nd .own .lst [.int 1, .int 0], .nd .own .lst [.int 0, .int 0], .nd .own .lst [.int 0, .int 1], .nd .own .lst [.int 1, .int 1]]) = some false := by decide +kernel
  have c4 : cmpD .eq (planD .own [[]]) (.nd .own .lst [.nd .own .lst []]) = some true := by decide +kernel
  have c5 : cmpD .eq (planD .own [[0], [1], [2]]) (.nd .own .lst [.nd .own .lst [.int 0], .nd .own .lst [.int 1], .nd .own .lst [.int 2]]) = some true := by decide +kernel
  refine ⟨_, run_ok (g := [.scr ns, x1, x2, x3, x4, x5, x6, x7, x8, x9, x10, x11, x12, x13, x14, x15, x16, x17, x18, x19, planD .shr [[0], [1]]]) rfl ((seq_nx (g1 := [.scr ns, x1, x2, x3, x4, x5, x6, x7, x8, x9, x10, x11, x12, x13, x14, x15, x16, x17, x18, x19, x20]) ?_).trans ((seq_nx (g1 := [.scr ns, x1, x2, x3, x4, x5, x6, x7, x8, x9, x10, x11, x12, x13, x14, x15, x16, x17, x18, x19, planD .own [[0], [1]]]) ?_).trans ((seq_nx (g1 := [.scr ns, x1, x2, x3, x4, x5, x6, x7, x8, x9, x10, x11, x12, x13, x14, x15, x16, x17, x18, x19, planD .shr [[0], [1]]]) ?_).trans ((seq_nx (g1 := [.scr ns, x1, x2, x3, x4, x5, x6, x7, x8, x9, x10, x11, x12, x13, x14, x15, x16, x17, x18, x19, planD .shr [[0], [1]]]) ?_).trans ?_)))) rfl⟩
  · exact for_nx (q := (upTo 0 3, [])) (evI_rng (n := 3) (by rw [evE]; rfl) (by decide)) rfl hg
  · simp [f25, evS, evE, evA, evI, evP, Rs.so, Rs.bind, ensure, E.imp, readV, D.sh, D.shs, D.nb, D.nbs, lentIf, Rs.of, So.of, So.ens, asgT, setAny, okn, optB, E.isNop, opD, isD, tyS, isTab, D.getp, D.setp, mmD, nbs_app, h1]
  · simp [f25, evS, evE, evA, evI, evP, Rs.so, Rs.bind, ensure, E.imp, readV, D.sh, D.shs, D.nb, D.nbs, lentIf, Rs.of, So.of, So.ens, asgT, setAny, okn, optB, E.isNop, opD, isD, tyS, isTab, D.getp, D.setp, mmD, nbs_app, h2, c1, c2]
  · simp [f25, evS, evE, evA, evI, evP, Rs.so, Rs.bind, ensure, E.imp, readV, D.sh, D.shs, D.nb, D.nbs, lentIf, Rs.of, So.of, So.ens, asgT, setAny, okn, optB, E.isNop, opD, isD, tyS, isTab, D.getp, D.setp, mmD, nbs_app, h3, c3]
  · simp [f25, evS, evE, evA, evI, evP, Rs.so, Rs.bind, ensure, E.imp, readV, D.sh, D.shs, D.nb, D.nbs, lentIf, Rs.of, So.of, So.ens, asgT, setAny, okn, optB, E.isNop, opD, isD, tyS, isTab, D.getp, D.setp, mmD, nbs_app, h4, h5, c4, c5]
end Ku

namespace K2
open PySem PySem.Spec PyProof.Rows L2 Bx Ku
def fs : List Nat := [0, 1, 2, 3, 4, 5, 6, 7, 8, 9, 10, 11, 12, 13, 14, 15, 16, 18, 19, 21, 22, 23, 24, 25]
def cs : List Nat := [0, 1, 2, 3]
def nmT : Nms := ⟨fun i => usN.getD i "", fun i => clN.getD i "", fun i => fs.contains i, fun i => cs.contains i, fun i => cs.contains i, fun _ => false⟩
def gloT : Str → Option Int := fun x => ([("MOST_LETTERS", 24), ("MOST_LETTER", 99), ("MOST_PASSES", 4), ("MOST_BOXES", 3)] : List (Str × Int)).lookup x
def T : Tab := ⟨fun i => if fs.contains i = true then U i else none, fun _ _ => none, fun _ => none, fun _ => [], gloT, fun _ _ => false, fun _ => false⟩
def topS (i : Nat) : Stmt := PySem.Challenge.pw_boxpasses_k02_whole_paths.main.body.getD i (.Pass ⟨0, 0, 0, 0⟩)
def n0 : List Str := ["boxes", "filled", "found", "kind", "inside"]
theorem tr0 : trS.trSs n0 nmT (L2.defScope (topS 1)) b0 (L2.defBody (topS 1)) = true := by decide +kernel
theorem sc0 : FnScope n0 ["boxes", "filled"] (L2.defScope (topS 1)) := ⟨rfl, rfl, rfl, by decide +kernel, rfl, by decide +kernel, by decide +kernel⟩
def n1 : List Str := ["letters", "boxes", "box_of", "filled", "letter", "kind"]
theorem tr1 : trS.trSs n1 nmT (L2.defScope (topS 2)) b1 (L2.defBody (topS 2)) = true := by decide +kernel
theorem sc1 : FnScope n1 ["letters", "boxes", "box_of"] (L2.defScope (topS 2)) := ⟨rfl, rfl, rfl, by decide +kernel, rfl, by decide +kernel, by decide +kernel⟩
def n2 : List Str := ["letters", "passes", "plan", "found", "now", "boxes", "row"]
theorem tr2 : trS.trSs n2 nmT (L2.defScope (topS 3)) b2 (L2.defBody (topS 3)) = true := by decide +kernel
theorem sc2 : FnScope n2 ["letters", "passes", "plan"] (L2.defScope (topS 3)) := ⟨rfl, rfl, rfl, by decide +kernel, rfl, by decide +kernel, by decide +kernel⟩
def n3 : List Str := ["thing"]
theorem tr3 : trS.trSs n3 nmT (L2.defScope (topS 15)) b3 (L2.defBody (topS 15)) = true := by decide +kernel
theorem sc3 : FnScope n3 ["thing"] (L2.defScope (topS 15)) := ⟨rfl, rfl, rfl, by decide +kernel, rfl, by decide +kernel, by decide +kernel⟩
def n4 : List Str := ["thing", "least", "most"]
theorem tr4 : trS.trSs n4 nmT (L2.defScope (topS 16)) b4 (L2.defBody (topS 16)) = true := by decide +kernel
theorem sc4 : FnScope n4 ["thing", "least", "most"] (L2.defScope (topS 16)) := ⟨rfl, rfl, rfl, by decide +kernel, rfl, by decide +kernel, by decide +kernel⟩
def n5 : List Str := ["letters", "letter"]
theorem tr5 : trS.trSs n5 nmT (L2.defScope (topS 17)) b5 (L2.defBody (topS 17)) = true := by decide +kernel
theorem sc5 : FnScope n5 ["letters"] (L2.defScope (topS 17)) := ⟨rfl, rfl, rfl, by decide +kernel, rfl, by decide +kernel, by decide +kernel⟩
def n6 : List Str := ["thing", "box"]
theorem tr6 : trS.trSs n6 nmT (L2.defScope (topS 18)) b6 (L2.defBody (topS 18)) = true := by decide +kernel
theorem sc6 : FnScope n6 ["thing"] (L2.defScope (topS 18)) := ⟨rfl, rfl, rfl, by decide +kernel, rfl, by decide +kernel, by decide +kernel⟩
def n7 : List Str := ["passes", "boxes"]
theorem tr7 : trS.trSs n7 nmT (L2.defScope (topS 19)) b7 (L2.defBody (topS 19)) = true := by decide +kernel
theorem sc7 : FnScope n7 ["passes"] (L2.defScope (topS 19)) := ⟨rfl, rfl, rfl, by decide +kernel, rfl, by decide +kernel, by decide +kernel⟩
def n8 : List Str := ["many", "boxes", "thing", "box"]
theorem tr8 : trS.trSs n8 nmT (L2.defScope (topS 20)) b8 (L2.defBody (topS 20)) = true := by decide +kernel
theorem sc8 : FnScope n8 ["many", "boxes", "thing"] (L2.defScope (topS 20)) := ⟨rfl, rfl, rfl, by decide +kernel, rfl, by decide +kernel, by decide +kernel⟩
def n9 : List Str := ["letters", "passes", "thing", "boxes", "row"]
theorem tr9 : trS.trSs n9 nmT (L2.defScope (topS 21)) b9 (L2.defBody (topS 21)) = true := by decide +kernel
theorem sc9 : FnScope n9 ["letters", "passes", "thing"] (L2.defScope (topS 21)) := ⟨rfl, rfl, rfl, by decide +kernel, rfl, by decide +kernel, by decide +kernel⟩
def n10 : List Str := ["letters", "passes", "plan", "row"]
theorem tr10 : trS.trSs n10 nmT (L2.defScope (topS 23)) b10 (L2.defBody (topS 23)) = true := by decide +kernel
theorem sc10 : FnScope n10 ["letters", "passes", "plan"] (L2.defScope (topS 23)) := ⟨rfl, rfl, rfl, by decide +kernel, rfl, by decide +kernel, by decide +kernel⟩
def n11 : List Str := ["_law_script", "_law_k"]
theorem tr11 : trS.trSs n11 nmT (L2.defScope (topS 26)) b11 (L2.defBody (topS 26)) = true := by decide +kernel
theorem sc11 : FnScope n11 ["_law_script", "_law_k"] (L2.defScope (topS 26)) := ⟨rfl, rfl, rfl, by decide +kernel, rfl, by decide +kernel, by decide +kernel⟩
def n12 : List Str := ["_law_cell", "_law_k", "_law_most", "_law_primes"]
theorem tr12 : trS.trSs n12 nmT (L2.defScope (topS 27)) b12 (L2.defBody (topS 27)) = true := by decide +kernel
theorem sc12 : FnScope n12 ["_law_cell", "_law_k", "_law_most"] (L2.defScope (topS 27)) := ⟨rfl, rfl, rfl, by decide +kernel, rfl, by decide +kernel, by decide +kernel⟩
def n13 : List Str := ["_law_cell", "_law_k", "_law_limit", "_law_d"]
theorem tr13 : trS.trSs n13 nmT (L2.defScope (topS 28)) b13 (L2.defBody (topS 28)) = true := by decide +kernel
theorem sc13 : FnScope n13 ["_law_cell", "_law_k", "_law_limit"] (L2.defScope (topS 28)) := ⟨rfl, rfl, rfl, by decide +kernel, rfl, by decide +kernel, by decide +kernel⟩
def n14 : List Str := ["_law_script", "_law_by", "_law_most", "_law_lead", "_law_found", "_law_letter", "_law_kind", "_law_many", "_law_at", "_law_cell", "_law_spot"]
theorem tr14 : trS.trSs n14 nmT (L2.defScope (topS 29)) b14 (L2.defBody (topS 29)) = true := by decide +kernel
theorem sc14 : FnScope n14 ["_law_script", "_law_by", "_law_most"] (L2.defScope (topS 29)) := ⟨rfl, rfl, rfl, by decide +kernel, rfl, by decide +kernel, by decide +kernel⟩
def n15 : List Str := ["_law_cell", "_law_at", "_law_most", "_law_kinds", "_law_box"]
theorem tr15 : trS.trSs n15 nmT (L2.defScope (topS 30)) b15 (L2.defBody (topS 30)) = true := by decide +kernel
theorem sc15 : FnScope n15 ["_law_cell", "_law_at", "_law_most"] (L2.defScope (topS 30)) := ⟨rfl, rfl, rfl, by decide +kernel, rfl, by decide +kernel, by decide +kernel⟩
def n16 : List Str := ["_law_script", "_law_by", "_law_most", "_law_boxes_here", "_law_lead", "_law_found", "_law_at"]
theorem tr16 : trS.trSs n16 nmT (L2.defScope (topS 31)) b16 (L2.defBody (topS 31)) = true := by decide +kernel
theorem sc16 : FnScope n16 ["_law_script", "_law_by", "_law_most", "_law_boxes_here"] (L2.defScope (topS 31)) := ⟨rfl, rfl, rfl, by decide +kernel, rfl, by decide +kernel, by decide +kernel⟩
def n18 : List Str := ["_law_letters_here", "_law_passes_here", "_law_plan", "_law_found", "_law_now", "_law_boxes_here", "_law_row", "_law_behind", "_law_box_of", "_law_box", "_law_kind", "_law_some", "_law_letter", "_law_at"]
theorem tr18 : trS.trSs n18 nmT (L2.defScope (topS 32)) b18 (L2.defBody (topS 32)) = true := by decide +kernel
theorem sc18 : FnScope n18 ["_law_letters_here", "_law_passes_here", "_law_plan"] (L2.defScope (topS 32)) := ⟨rfl, rfl, rfl, by decide +kernel, rfl, by decide +kernel, by decide +kernel⟩
def n19 : List Str := ["_law_rows", "_law_row"]
theorem tr19 : trS.trSs n19 nmT (L2.defScope (topS 35)) b19 (L2.defBody (topS 35)) = true := by decide +kernel
theorem sc19 : FnScope n19 ["_law_rows"] (L2.defScope (topS 35)) := ⟨rfl, rfl, rfl, by decide +kernel, rfl, by decide +kernel, by decide +kernel⟩
def n21 : List Str := ["passes", "found", "boxes", "longer", "box", "kind", "some", "row", "turned"]
theorem tr21 : trS.trSs n21 nmT (L2.defScope (topS 4)) b21 (L2.defBody (topS 4)) = true := by decide +kernel
theorem sc21 : FnScope n21 ["passes"] (L2.defScope (topS 4)) := ⟨rfl, rfl, rfl, by decide +kernel, rfl, by decide +kernel, by decide +kernel⟩
def n22 : List Str := ["passes", "row", "turned"]
theorem tr22 : trS.trSs n22 nmT (L2.defScope (topS 24)) b22 (L2.defBody (topS 24)) = true := by decide +kernel
theorem sc22 : FnScope n22 ["passes"] (L2.defScope (topS 24)) := ⟨rfl, rfl, rfl, by decide +kernel, rfl, by decide +kernel, by decide +kernel⟩
def n23 : List Str := ["_law_passes_here", "_law_some", "_law_boxes_here", "_law_longer", "_law_path", "_law_names", "_law_plan", "_law_turn", "_law_name", "_law_box"]
theorem tr23 : trS.trSs n23 nmT (L2.defScope (topS 33)) b23 (L2.defBody (topS 33)) = true := by decide +kernel
theorem sc23 : FnScope n23 ["_law_passes_here"] (L2.defScope (topS 33)) := ⟨rfl, rfl, rfl, by decide +kernel, rfl, by decide +kernel, by decide +kernel⟩
def n24 : List Str := ["_law_passes_here", "_law_path", "_law_plan", "_law_box"]
theorem tr24 : trS.trSs n24 nmT (L2.defScope (topS 34)) b24 (L2.defBody (topS 34)) = true := by decide +kernel
theorem sc24 : FnScope n24 ["_law_passes_here", "_law_path"] (L2.defScope (topS 34)) := ⟨rfl, rfl, rfl, by decide +kernel, rfl, by decide +kernel, by decide +kernel⟩
def n25 : List Str := ["_law_script", "_law_by", "_law_passes_here", "_law_theirs", "_law_due", "_law_size", "_law_boxes_here", "_law_again", "_law_found", "_law_row", "_law_letters_here", "_law_plan", "_law_names", "_law_at", "_law_cell", "_law_free", "_law_turn", "_law_box", "_law_last", "_law_name", "_law_first"]
theorem tr25 : trS.trSs n25 nmT (L2.defScope (topS 36)) b25 (L2.defBody (topS 36)) = true := by decide +kernel
theorem sc25 : FnScope n25 ["_law_script"] (L2.defScope (topS 36)) := ⟨rfl, rfl, rfl, by decide +kernel, rfl, by decide +kernel, by decide +kernel⟩
end K2

namespace K2
open PySem PySem.Spec PyProof.Rows L2 Bx Ku
theorem tabs {P : Program} {w : World} {K : PySem.W.Frag} {h : Heap} {mg : Str → Option Value} {fa : Addr} (X : K.In h) (G : h.Ns mainGlobals mg) (hfa : mg "law" = some (.ref fa))
    {p0 p1 p2 p3 p4 p5 p6 p7 p8 p9 p10 p11 p12 p13 p14 p15 p16 p18 p19 p21 p22 p23 p24 p25 q0 q1 q2 q3 : Addr} {od0 an0 od1 an1 od2 an2 od3 an3 od4 an4 od5 an5 od6 an6 od7 an7 od8 an8 od9 an9 od10 an10 od11 an11 od12 an12 od13 an13 od14 an14 od15 an15 od16 an16 od18 an18 od19 an19 od21 an21 od22 an22 od23 an23 od24 an24 od25 an25 : Option Addr} {sl0 sl1 sl2 sl3 sl4 sl5 sl6 sl7 sl8 sl9 sl10 sl11 sl12 sl13 sl14 sl15 sl16 sl18 sl19 sl21 sl22 sl23 sl24 sl25 : Array (Option Value)}
    {oc0 kV0 dc0 pm0 cd0 ct0 oc1 kV1 dc1 pm1 cd1 ct1 oc2 kV2 dc2 pm2 cd2 ct2 oc3 kV3 dc3 pm3 cd3 ct3 oc4 kV4 dc4 pm4 cd4 ct4 oc5 kV5 dc5 pm5 cd5 ct5 oc6 kV6 dc6 pm6 cd6 ct6 oc7 kV7 dc7 pm7 cd7 ct7 oc8 kV8 dc8 pm8 cd8 ct8 oc9 kV9 dc9 pm9 cd9 ct9 oc10 kV10 dc10 pm10 cd10 ct10 oc11 kV11 dc11 pm11 cd11 ct11 oc12 kV12 dc12 pm12 cd12 ct12 oc13 kV13 dc13 pm13 cd13 ct13 oc14 kV14 dc14 pm14 cd14 ct14 oc15 kV15 dc15 pm15 cd15 ct15 oc16 kV16 dc16 pm16 cd16 ct16 oc18 kV18 dc18 pm18 cd18 ct18 oc19 kV19 dc19 pm19 cd19 ct19 oc21 kV21 dc21 pm21 cd21 ct21 oc22 kV22 dc22 pm22 cd22 ct22 oc23 kV23 dc23 pm23 cd23 ct23 oc24 kV24 dc24 pm24 cd24 ct24 oc25 kV25 dc25 pm25 cd25 ct25 : Value} {u0 u1 u2 u3 : Tok}
    (a0 : PySem.W.nsIn K mainGlobals "gathered" = some (some (.ref p0)))
    (l0 : K.lookup p0 = some ⟨oc0, od0, .func (PySem.W.fnOf "gathered" "gathered" (L2.defArgs (topS 1)) (L2.defBody (topS 1)) (L2.defScope (topS 1)) .none kV0 dc0 pm0 an0 cd0 ct0), sl0⟩)
    (c0 : PySem.W.codeIn K cd0 "gathered" = true)
    (k0 : PySem.W.keepIn K (.ref p0) = true)
    (a1 : PySem.W.nsIn K mainGlobals "passed" = some (some (.ref p1)))
    (l1 : K.lookup p1 = some ⟨oc1, od1, .func (PySem.W.fnOf "passed" "passed" (L2.defArgs (topS 2)) (L2.defBody (topS 2)) (L2.defScope (topS 2)) .none kV1 dc1 pm1 an1 cd1 ct1), sl1⟩)
    (c1 : PySem.W.codeIn K cd1 "passed" = true)
    (k1 : PySem.W.keepIn K (.ref p1) = true)
    (a2 : PySem.W.nsIn K mainGlobals "gone_through" = some (some (.ref p2)))
    (l2 : K.lookup p2 = some ⟨oc2, od2, .func (PySem.W.fnOf "gone_through" "gone_through" (L2.defArgs (topS 3)) (L2.defBody (topS 3)) (L2.defScope (topS 3)) .none kV2 dc2 pm2 an2 cd2 ct2), sl2⟩)
    (c2 : PySem.W.codeIn K cd2 "gone_through" = true)
    (k2 : PySem.W.keepIn K (.ref p2) = true)
    (a3 : PySem.W.nsIn K mainGlobals "is_whole" = some (some (.ref p3)))
    (l3 : K.lookup p3 = some ⟨oc3, od3, .func (PySem.W.fnOf "is_whole" "is_whole" (L2.defArgs (topS 15)) (L2.defBody (topS 15)) (L2.defScope (topS 15)) .none kV3 dc3 pm3 an3 cd3 ct3), sl3⟩)
    (c3 : PySem.W.codeIn K cd3 "is_whole" = true)
    (k3 : PySem.W.keepIn K (.ref p3) = true)
    (a4 : PySem.W.nsIn K mainGlobals "is_between" = some (some (.ref p4)))
    (l4 : K.lookup p4 = some ⟨oc4, od4, .func (PySem.W.fnOf "is_between" "is_between" (L2.defArgs (topS 16)) (L2.defBody (topS 16)) (L2.defScope (topS 16)) .none kV4 dc4 pm4 an4 cd4 ct4), sl4⟩)
    (c4 : PySem.W.codeIn K cd4 "is_between" = true)
    (k4 : PySem.W.keepIn K (.ref p4) = true)
    (a5 : PySem.W.nsIn K mainGlobals "check_letters" = some (some (.ref p5)))
    (l5 : K.lookup p5 = some ⟨oc5, od5, .func (PySem.W.fnOf "check_letters" "check_letters" (L2.defArgs (topS 17)) (L2.defBody (topS 17)) (L2.defScope (topS 17)) .none kV5 dc5 pm5 an5 cd5 ct5), sl5⟩)
    (c5 : PySem.W.codeIn K cd5 "check_letters" = true)
    (k5 : PySem.W.keepIn K (.ref p5) = true)
    (a6 : PySem.W.nsIn K mainGlobals "are_boxes" = some (some (.ref p6)))
    (l6 : K.lookup p6 = some ⟨oc6, od6, .func (PySem.W.fnOf "are_boxes" "are_boxes" (L2.defArgs (topS 18)) (L2.defBody (topS 18)) (L2.defScope (topS 18)) .none kV6 dc6 pm6 an6 cd6 ct6), sl6⟩)
    (c6 : PySem.W.codeIn K cd6 "are_boxes" = true)
    (k6 : PySem.W.keepIn K (.ref p6) = true)
    (a7 : PySem.W.nsIn K mainGlobals "check_passes" = some (some (.ref p7)))
    (l7 : K.lookup p7 = some ⟨oc7, od7, .func (PySem.W.fnOf "check_passes" "check_passes" (L2.defArgs (topS 19)) (L2.defBody (topS 19)) (L2.defScope (topS 19)) .none kV7 dc7 pm7 an7 cd7 ct7), sl7⟩)
    (c7 : PySem.W.codeIn K cd7 "check_passes" = true)
    (k7 : PySem.W.keepIn K (.ref p7) = true)
    (a8 : PySem.W.nsIn K mainGlobals "are_choices" = some (some (.ref p8)))
    (l8 : K.lookup p8 = some ⟨oc8, od8, .func (PySem.W.fnOf "are_choices" "are_choices" (L2.defArgs (topS 20)) (L2.defBody (topS 20)) (L2.defScope (topS 20)) .none kV8 dc8 pm8 an8 cd8 ct8), sl8⟩)
    (c8 : PySem.W.codeIn K cd8 "are_choices" = true)
    (k8 : PySem.W.keepIn K (.ref p8) = true)
    (a9 : PySem.W.nsIn K mainGlobals "is_plan" = some (some (.ref p9)))
    (l9 : K.lookup p9 = some ⟨oc9, od9, .func (PySem.W.fnOf "is_plan" "is_plan" (L2.defArgs (topS 21)) (L2.defBody (topS 21)) (L2.defScope (topS 21)) .none kV9 dc9 pm9 an9 cd9 ct9), sl9⟩)
    (c9 : PySem.W.codeIn K cd9 "is_plan" = true)
    (k9 : PySem.W.keepIn K (.ref p9) = true)
    (a10 : PySem.W.nsIn K mainGlobals "orders" = some (some (.ref p10)))
    (l10 : K.lookup p10 = some ⟨oc10, od10, .func (PySem.W.fnOf "orders" "orders" (L2.defArgs (topS 23)) (L2.defBody (topS 23)) (L2.defScope (topS 23)) .none kV10 dc10 pm10 an10 cd10 ct10), sl10⟩)
    (c10 : PySem.W.codeIn K cd10 "orders" = true)
    (k10 : PySem.W.keepIn K (.ref p10) = true)
    (a11 : PySem.W.nsIn K mainGlobals "_law_cell_at" = some (some (.ref p11)))
    (l11 : K.lookup p11 = some ⟨oc11, od11, .func (PySem.W.fnOf "_law_cell_at" "_law_cell_at" (L2.defArgs (topS 26)) (L2.defBody (topS 26)) (L2.defScope (topS 26)) .none kV11 dc11 pm11 an11 cd11 ct11), sl11⟩)
    (c11 : PySem.W.codeIn K cd11 "_law_cell_at" = true)
    (k11 : PySem.W.keepIn K (.ref p11) = true)
    (a12 : PySem.W.nsIn K mainGlobals "_law_draw" = some (some (.ref p12)))
    (l12 : K.lookup p12 = some ⟨oc12, od12, .func (PySem.W.fnOf "_law_draw" "_law_draw" (L2.defArgs (topS 27)) (L2.defBody (topS 27)) (L2.defScope (topS 27)) .none kV12 dc12 pm12 an12 cd12 ct12), sl12⟩)
    (c12 : PySem.W.codeIn K cd12 "_law_draw" = true)
    (k12 : PySem.W.keepIn K (.ref p12) = true)
    (a13 : PySem.W.nsIn K mainGlobals "_law_number" = some (some (.ref p13)))
    (l13 : K.lookup p13 = some ⟨oc13, od13, .func (PySem.W.fnOf "_law_number" "_law_number" (L2.defArgs (topS 28)) (L2.defBody (topS 28)) (L2.defScope (topS 28)) .none kV13 dc13 pm13 an13 cd13 ct13), sl13⟩)
    (c13 : PySem.W.codeIn K cd13 "_law_number" = true)
    (k13 : PySem.W.keepIn K (.ref p13) = true)
    (a14 : PySem.W.nsIn K mainGlobals "_law_letters" = some (some (.ref p14)))
    (l14 : K.lookup p14 = some ⟨oc14, od14, .func (PySem.W.fnOf "_law_letters" "_law_letters" (L2.defArgs (topS 29)) (L2.defBody (topS 29)) (L2.defScope (topS 29)) .none kV14 dc14 pm14 an14 cd14 ct14), sl14⟩)
    (c14 : PySem.W.codeIn K cd14 "_law_letters" = true)
    (k14 : PySem.W.keepIn K (.ref p14) = true)
    (a15 : PySem.W.nsIn K mainGlobals "_law_boxes" = some (some (.ref p15)))
    (l15 : K.lookup p15 = some ⟨oc15, od15, .func (PySem.W.fnOf "_law_boxes" "_law_boxes" (L2.defArgs (topS 30)) (L2.defBody (topS 30)) (L2.defScope (topS 30)) .none kV15 dc15 pm15 an15 cd15 ct15), sl15⟩)
    (c15 : PySem.W.codeIn K cd15 "_law_boxes" = true)
    (k15 : PySem.W.keepIn K (.ref p15) = true)
    (a16 : PySem.W.nsIn K mainGlobals "_law_passes" = some (some (.ref p16)))
    (l16 : K.lookup p16 = some ⟨oc16, od16, .func (PySem.W.fnOf "_law_passes" "_law_passes" (L2.defArgs (topS 31)) (L2.defBody (topS 31)) (L2.defScope (topS 31)) .none kV16 dc16 pm16 an16 cd16 ct16), sl16⟩)
    (c16 : PySem.W.codeIn K cd16 "_law_passes" = true)
    (k16 : PySem.W.keepIn K (.ref p16) = true)
    (a18 : PySem.W.nsIn K mainGlobals "_law_after" = some (some (.ref p18)))
    (l18 : K.lookup p18 = some ⟨oc18, od18, .func (PySem.W.fnOf "_law_after" "_law_after" (L2.defArgs (topS 32)) (L2.defBody (topS 32)) (L2.defScope (topS 32)) .none kV18 dc18 pm18 an18 cd18 ct18), sl18⟩)
    (c18 : PySem.W.codeIn K cd18 "_law_after" = true)
    (k18 : PySem.W.keepIn K (.ref p18) = true)
    (a19 : PySem.W.nsIn K mainGlobals "_law_copied" = some (some (.ref p19)))
    (l19 : K.lookup p19 = some ⟨oc19, od19, .func (PySem.W.fnOf "_law_copied" "_law_copied" (L2.defArgs (topS 35)) (L2.defBody (topS 35)) (L2.defScope (topS 35)) .none kV19 dc19 pm19 an19 cd19 ct19), sl19⟩)
    (c19 : PySem.W.codeIn K cd19 "_law_copied" = true)
    (k19 : PySem.W.keepIn K (.ref p19) = true)
    (a21 : PySem.W.nsIn K mainGlobals "paths_of" = some (some (.ref p21)))
    (l21 : K.lookup p21 = some ⟨oc21, od21, .func (PySem.W.fnOf "paths_of" "paths_of" (L2.defArgs (topS 4)) (L2.defBody (topS 4)) (L2.defScope (topS 4)) .none kV21 dc21 pm21 an21 cd21 ct21), sl21⟩)
    (c21 : PySem.W.codeIn K cd21 "paths_of" = true)
    (k21 : PySem.W.keepIn K (.ref p21) = true)
    (a22 : PySem.W.nsIn K mainGlobals "paths" = some (some (.ref p22)))
    (l22 : K.lookup p22 = some ⟨oc22, od22, .func (PySem.W.fnOf "paths" "paths" (L2.defArgs (topS 24)) (L2.defBody (topS 24)) (L2.defScope (topS 24)) .none kV22 dc22 pm22 an22 cd22 ct22), sl22⟩)
    (c22 : PySem.W.codeIn K cd22 "paths" = true)
    (k22 : PySem.W.keepIn K (.ref p22) = true)
    (a23 : PySem.W.nsIn K mainGlobals "_law_all_paths" = some (some (.ref p23)))
    (l23 : K.lookup p23 = some ⟨oc23, od23, .func (PySem.W.fnOf "_law_all_paths" "_law_all_paths" (L2.defArgs (topS 33)) (L2.defBody (topS 33)) (L2.defScope (topS 33)) .none kV23 dc23 pm23 an23 cd23 ct23), sl23⟩)
    (c23 : PySem.W.codeIn K cd23 "_law_all_paths" = true)
    (k23 : PySem.W.keepIn K (.ref p23) = true)
    (a24 : PySem.W.nsIn K mainGlobals "_law_about" = some (some (.ref p24)))
    (l24 : K.lookup p24 = some ⟨oc24, od24, .func (PySem.W.fnOf "_law_about" "_law_about" (L2.defArgs (topS 34)) (L2.defBody (topS 34)) (L2.defScope (topS 34)) .none kV24 dc24 pm24 an24 cd24 ct24), sl24⟩)
    (c24 : PySem.W.codeIn K cd24 "_law_about" = true)
    (k24 : PySem.W.keepIn K (.ref p24) = true)
    (a25 : PySem.W.nsIn K mainGlobals "law" = some (some (.ref p25)))
    (l25 : K.lookup p25 = some ⟨oc25, od25, .func (PySem.W.fnOf "law" "law" (L2.defArgs (topS 36)) (L2.defBody (topS 36)) (L2.defScope (topS 36)) .none kV25 dc25 pm25 an25 cd25 ct25), sl25⟩)
    (c25 : PySem.W.codeIn K cd25 "law" = true)
    (k25 : PySem.W.keepIn K (.ref p25) = true)
    (x0 : PySem.W.nsIn K mainGlobals "BoxError" = some (some (.ref q0))) (e0 : PySem.W.excIn K q0 [.type "ValueError", .type "Exception", .type "BaseException", .type "object"] "ValueError.__new__" = true) (yg0 : PySem.W.keepIn K (.ref q0) = true)
    (s0 : PySem.W.subIn K (.ref q0) (.type "BaseException") = some true) (y0 : PySem.W.typeIn K (.ref q0) = some (.type "type"))
    (x1 : PySem.W.nsIn K mainGlobals "BadLetters" = some (some (.ref q1))) (e1 : PySem.W.excIn K q1 [.type "ValueError", .type "Exception", .type "BaseException", .type "object"] "ValueError.__new__" = true) (yg1 : PySem.W.keepIn K (.ref q1) = true)
    (s1 : PySem.W.subIn K (.ref q1) (.type "BaseException") = some true) (y1 : PySem.W.typeIn K (.ref q1) = some (.type "type"))
    (x2 : PySem.W.nsIn K mainGlobals "BadPasses" = some (some (.ref q2))) (e2 : PySem.W.excIn K q2 [.type "ValueError", .type "Exception", .type "BaseException", .type "object"] "ValueError.__new__" = true) (yg2 : PySem.W.keepIn K (.ref q2) = true)
    (s2 : PySem.W.subIn K (.ref q2) (.type "BaseException") = some true) (y2 : PySem.W.typeIn K (.ref q2) = some (.type "type"))
    (x3 : PySem.W.nsIn K mainGlobals "BadPlan" = some (some (.ref q3))) (e3 : PySem.W.excIn K q3 [.type "ValueError", .type "Exception", .type "BaseException", .type "object"] "ValueError.__new__" = true) (yg3 : PySem.W.keepIn K (.ref q3) = true)
    (s3 : PySem.W.subIn K (.ref q3) (.type "BaseException") = some true) (y3 : PySem.W.typeIn K (.ref q3) = some (.type "type"))
    (m0 : PySem.W.nsIn K mainGlobals "MOST_LETTERS" = some (some (.int 24 u0)))
    (m1 : PySem.W.nsIn K mainGlobals "MOST_LETTER" = some (some (.int 99 u1)))
    (m2 : PySem.W.nsIn K mainGlobals "MOST_PASSES" = some (some (.int 4 u2)))
    (m3 : PySem.W.nsIn K mainGlobals "MOST_BOXES" = some (some (.int 3 u3)))
    (z0 : PySem.W.nsIn K mainGlobals "len" = some none)
    (z1 : PySem.W.nsIn K mainGlobals "abs" = some none)
    (z2 : PySem.W.nsIn K mainGlobals "sorted" = some none)
    (z3 : PySem.W.nsIn K mainGlobals "list" = some none)
    (z4 : PySem.W.nsIn K mainGlobals "sum" = some none)
    (z5 : PySem.W.nsIn K mainGlobals "min" = some none)
    (z6 : PySem.W.nsIn K mainGlobals "max" = some none)
    (z7 : PySem.W.nsIn K mainGlobals "any" = some none)
    (z8 : PySem.W.nsIn K mainGlobals "all" = some none)
    (z9 : PySem.W.nsIn K mainGlobals "str" = some none)
    (z10 : PySem.W.nsIn K mainGlobals "isinstance" = some none)
    (z11 : PySem.W.nsIn K mainGlobals "set" = some none)
    (z12 : PySem.W.nsIn K mainGlobals "dict" = some none)
    (z13 : PySem.W.nsIn K mainGlobals "zip" = some none)
    (z14 : PySem.W.nsIn K mainGlobals "range" = some none)
    (z15 : PySem.W.nsIn K mainGlobals "enumerate" = some none)
    (z16 : PySem.W.nsIn K mainGlobals "int" = some none)
    (z17 : PySem.W.nsIn K mainGlobals "bool" = some none)
    (z18 : PySem.W.nsIn K mainGlobals "tuple" = some none) :
    ∃ c ix, TabOk P w K mg c T nmT ix ∧ c.lk = [] ∧ ix.fa 25 = fa := by
  have ef := hfa.symm.trans (PySem.W.mg_of X G a25)
  have ef : fa = p25 := by simpa using ef
  have d0 : DefOk K nmT p0 f0 := by
    have F := fun_mk (st := topS 1) l0 c0 k0
    have b := F.binds (ps := ["boxes", "filled"]) fun _ _ _ _ _ _ us hl => match us, hl with | [_, _], _ => rfl
    exact ⟨_, _, _, _, _, _, _, _, _, _, _, _, _, _, _, _, _, l0, c0, sc0, b, k0, tr0, rfl, rfl⟩
  have d1 : DefOk K nmT p1 f1 := by
    have F := fun_mk (st := topS 2) l1 c1 k1
    have b := F.binds (ps := ["letters", "boxes", "box_of"]) fun _ _ _ _ _ _ us hl => match us, hl with | [_, _, _], _ => rfl
    exact ⟨_, _, _, _, _, _, _, _, _, _, _, _, _, _, _, _, _, l1, c1, sc1, b, k1, tr1, rfl, rfl⟩
  have d2 : DefOk K nmT p2 f2 := by
    have F := fun_mk (st := topS 3) l2 c2 k2
    have b := F.binds (ps := ["letters", "passes", "plan"]) fun _ _ _ _ _ _ us hl => match us, hl with | [_, _, _], _ => rfl
    exact ⟨_, _, _, _, _, _, _, _, _, _, _, _, _, _, _, _, _, l2, c2, sc2, b, k2, tr2, rfl, rfl⟩
  have d3 : DefOk K nmT p3 f3 := by
    have F := fun_mk (st := topS 15) l3 c3 k3
    have b := F.binds (ps := ["thing"]) fun _ _ _ _ _ _ us hl => match us, hl with | [_], _ => rfl
    exact ⟨_, _, _, _, _, _, _, _, _, _, _, _, _, _, _, _, _, l3, c3, sc3, b, k3, tr3, rfl, rfl⟩
  have d4 : DefOk K nmT p4 f4 := by
    have F := fun_mk (st := topS 16) l4 c4 k4
    have b := F.binds (ps := ["thing", "least", "most"]) fun _ _ _ _ _ _ us hl => match us, hl with | [_, _, _], _ => rfl
    exact ⟨_, _, _, _, _, _, _, _, _, _, _, _, _, _, _, _, _, l4, c4, sc4, b, k4, tr4, rfl, rfl⟩
  have d5 : DefOk K nmT p5 f5 := by
    have F := fun_mk (st := topS 17) l5 c5 k5
    have b := F.binds (ps := ["letters"]) fun _ _ _ _ _ _ us hl => match us, hl with | [_], _ => rfl
    exact ⟨_, _, _, _, _, _, _, _, _, _, _, _, _, _, _, _, _, l5, c5, sc5, b, k5, tr5, rfl, rfl⟩
  have d6 : DefOk K nmT p6 f6 := by
    have F := fun_mk (st := topS 18) l6 c6 k6
    have b := F.binds (ps := ["thing"]) fun _ _ _ _ _ _ us hl => match us, hl with | [_], _ => rfl
    exact ⟨_, _, _, _, _, _, _, _, _, _, _, _, _, _, _, _, _, l6, c6, sc6, b, k6, tr6, rfl, rfl⟩
  have d7 : DefOk K nmT p7 f7 := by
    have F := fun_mk (st := topS 19) l7 c7 k7
    have b := F.binds (ps := ["passes"]) fun _ _ _ _ _ _ us hl => match us, hl with | [_], _ => rfl
    exact ⟨_, _, _, _, _, _, _, _, _, _, _, _, _, _, _, _, _, l7, c7, sc7, b, k7, tr7, rfl, rfl⟩
  have d8 : DefOk K nmT p8 f8 := by
    have F := fun_mk (st := topS 20) l8 c8 k8
    have b := F.binds (ps := ["many", "boxes", "thing"]) fun _ _ _ _ _ _ us hl => match us, hl with | [_, _, _], _ => rfl
    exact ⟨_, _, _, _, _, _, _, _, _, _, _, _, _, _, _, _, _, l8, c8, sc8, b, k8, tr8, rfl, rfl⟩
  have d9 : DefOk K nmT p9 f9 := by
    have F := fun_mk (st := topS 21) l9 c9 k9
    have b := F.binds (ps := ["letters", "passes", "thing"]) fun _ _ _ _ _ _ us hl => match us, hl with | [_, _, _], _ => rfl
    exact ⟨_, _, _, _, _, _, _, _, _, _, _, _, _, _, _, _, _, l9, c9, sc9, b, k9, tr9, rfl, rfl⟩
  have d10 : DefOk K nmT p10 f10 := by
    have F := fun_mk (st := topS 23) l10 c10 k10
    have b := F.binds (ps := ["letters", "passes", "plan"]) fun _ _ _ _ _ _ us hl => match us, hl with | [_, _, _], _ => rfl
    exact ⟨_, _, _, _, _, _, _, _, _, _, _, _, _, _, _, _, _, l10, c10, sc10, b, k10, tr10, rfl, rfl⟩
  have d11 : DefOk K nmT p11 f11 := by
    have F := fun_mk (st := topS 26) l11 c11 k11
    have b := F.binds (ps := ["_law_script", "_law_k"]) fun _ _ _ _ _ _ us hl => match us, hl with | [_, _], _ => rfl
    exact ⟨_, _, _, _, _, _, _, _, _, _, _, _, _, _, _, _, _, l11, c11, sc11, b, k11, tr11, rfl, rfl⟩
  have d12 : DefOk K nmT p12 f12 := by
    have F := fun_mk (st := topS 27) l12 c12 k12
    have b := F.binds (ps := ["_law_cell", "_law_k", "_law_most"]) fun _ _ _ _ _ _ us hl => match us, hl with | [_, _, _], _ => rfl
    exact ⟨_, _, _, _, _, _, _, _, _, _, _, _, _, _, _, _, _, l12, c12, sc12, b, k12, tr12, rfl, rfl⟩
  have d13 : DefOk K nmT p13 f13 := by
    have F := fun_mk (st := topS 28) l13 c13 k13
    have b := F.binds (ps := ["_law_cell", "_law_k", "_law_limit"]) fun _ _ _ _ _ _ us hl => match us, hl with | [_, _, _], _ => rfl
    exact ⟨_, _, _, _, _, _, _, _, _, _, _, _, _, _, _, _, _, l13, c13, sc13, b, k13, tr13, rfl, rfl⟩
  have d14 : DefOk K nmT p14 f14 := by
    have F := fun_mk (st := topS 29) l14 c14 k14
    have b := F.binds (ps := ["_law_script", "_law_by", "_law_most"]) fun _ _ _ _ _ _ us hl => match us, hl with | [_, _, _], _ => rfl
    exact ⟨_, _, _, _, _, _, _, _, _, _, _, _, _, _, _, _, _, l14, c14, sc14, b, k14, tr14, rfl, rfl⟩
  have d15 : DefOk K nmT p15 f15 := by
    have F := fun_mk (st := topS 30) l15 c15 k15
    have b := F.binds (ps := ["_law_cell", "_law_at", "_law_most"]) fun _ _ _ _ _ _ us hl => match us, hl with | [_, _, _], _ => rfl
    exact ⟨_, _, _, _, _, _, _, _, _, _, _, _, _, _, _, _, _, l15, c15, sc15, b, k15, tr15, rfl, rfl⟩
  have d16 : DefOk K nmT p16 f16 := by
    have F := fun_mk (st := topS 31) l16 c16 k16
    have b := F.binds (ps := ["_law_script", "_law_by", "_law_most", "_law_boxes_here"]) fun _ _ _ _ _ _ us hl => match us, hl with | [_, _, _, _], _ => rfl
    exact ⟨_, _, _, _, _, _, _, _, _, _, _, _, _, _, _, _, _, l16, c16, sc16, b, k16, tr16, rfl, rfl⟩
  have d18 : DefOk K nmT p18 f18 := by
    have F := fun_mk (st := topS 32) l18 c18 k18
    have b := F.binds (ps := ["_law_letters_here", "_law_passes_here", "_law_plan"]) fun _ _ _ _ _ _ us hl => match us, hl with | [_, _, _], _ => rfl
    exact ⟨_, _, _, _, _, _, _, _, _, _, _, _, _, _, _, _, _, l18, c18, sc18, b, k18, tr18, rfl, rfl⟩
  have d19 : DefOk K nmT p19 f19 := by
    have F := fun_mk (st := topS 35) l19 c19 k19
    have b := F.binds (ps := ["_law_rows"]) fun _ _ _ _ _ _ us hl => match us, hl with | [_], _ => rfl
    exact ⟨_, _, _, _, _, _, _, _, _, _, _, _, _, _, _, _, _, l19, c19, sc19, b, k19, tr19, rfl, rfl⟩
  have d21 : DefOk K nmT p21 f21 := by
    have F := fun_mk (st := topS 4) l21 c21 k21
    have b := F.binds (ps := ["passes"]) fun _ _ _ _ _ _ us hl => match us, hl with | [_], _ => rfl
    exact ⟨_, _, _, _, _, _, _, _, _, _, _, _, _, _, _, _, _, l21, c21, sc21, b, k21, tr21, rfl, rfl⟩
  have d22 : DefOk K nmT p22 f22 := by
    have F := fun_mk (st := topS 24) l22 c22 k22
    have b := F.binds (ps := ["passes"]) fun _ _ _ _ _ _ us hl => match us, hl with | [_], _ => rfl
    exact ⟨_, _, _, _, _, _, _, _, _, _, _, _, _, _, _, _, _, l22, c22, sc22, b, k22, tr22, rfl, rfl⟩
  have d23 : DefOk K nmT p23 f23 := by
    have F := fun_mk (st := topS 33) l23 c23 k23
    have b := F.binds (ps := ["_law_passes_here"]) fun _ _ _ _ _ _ us hl => match us, hl with | [_], _ => rfl
    exact ⟨_, _, _, _, _, _, _, _, _, _, _, _, _, _, _, _, _, l23, c23, sc23, b, k23, tr23, rfl, rfl⟩
  have d24 : DefOk K nmT p24 f24 := by
    have F := fun_mk (st := topS 34) l24 c24 k24
    have b := F.binds (ps := ["_law_passes_here", "_law_path"]) fun _ _ _ _ _ _ us hl => match us, hl with | [_, _], _ => rfl
    exact ⟨_, _, _, _, _, _, _, _, _, _, _, _, _, _, _, _, _, l24, c24, sc24, b, k24, tr24, rfl, rfl⟩
  have d25 : DefOk K nmT p25 f25 := by
    have F := fun_mk (st := topS 36) l25 c25 k25
    have b := F.binds (ps := ["_law_script"]) fun _ _ _ _ _ _ us hl => match us, hl with | [_], _ => rfl
    exact ⟨_, _, _, _, _, _, _, _, _, _, _, _, _, _, _, _, _, l25, c25, sc25, b, k25, tr25, rfl, rfl⟩
  refine ⟨⟨fun j => (([(0, q0), (1, q1), (2, q2), (3, q3)] : List (Nat × Addr)).lookup j).getD 0, K, []⟩, ⟨fun j => (([(0, p0), (1, p1), (2, p2), (3, p3), (4, p4), (5, p5), (6, p6), (7, p7), (8, p8), (9, p9), (10, p10), (11, p11), (12, p12), (13, p13), (14, p14), (15, p15), (16, p16), (18, p18), (19, p19), (21, p21), (22, p22), (23, p23), (24, p24), (25, p25)] : List (Nat × Addr)).lookup j).getD 0, fun i => match T.fn i with | some fd => fd.ar | none => 0, fun i => match T.fn i with | some fd => fd.nf | none => 0⟩, ?_, rfl, by rw [ef]; rfl⟩
  exact {
    hK := rfl
    blt := fun x hx => by
      simp only [blts, List.mem_cons, List.not_mem_nil, or_false] at hx
      rcases hx with rfl | rfl | rfl | rfl | rfl | rfl | rfl | rfl | rfl | rfl | rfl | rfl | rfl | rfl | rfl | rfl | rfl | rfl | rfl
      · exact PySem.W.mg_none_of X G z0
      · exact PySem.W.mg_none_of X G z1
      · exact PySem.W.mg_none_of X G z2
      · exact PySem.W.mg_none_of X G z3
      · exact PySem.W.mg_none_of X G z4
      · exact PySem.W.mg_none_of X G z5
      · exact PySem.W.mg_none_of X G z6
      · exact PySem.W.mg_none_of X G z7
      · exact PySem.W.mg_none_of X G z8
      · exact PySem.W.mg_none_of X G z9
      · exact PySem.W.mg_none_of X G z10
      · exact PySem.W.mg_none_of X G z11
      · exact PySem.W.mg_none_of X G z12
      · exact PySem.W.mg_none_of X G z13
      · exact PySem.W.mg_none_of X G z14
      · exact PySem.W.mg_none_of X G z15
      · exact PySem.W.mg_none_of X G z16
      · exact PySem.W.mg_none_of X G z17
      · exact PySem.W.mg_none_of X G z18
    fn := fun f hf => by
      have hf := List.contains_iff_mem.mp (show fs.contains f = true from hf)
      simp only [fs, List.mem_cons, List.not_mem_nil, or_false] at hf
      rcases hf with rfl | rfl | rfl | rfl | rfl | rfl | rfl | rfl | rfl | rfl | rfl | rfl | rfl | rfl | rfl | rfl | rfl | rfl | rfl | rfl | rfl | rfl | rfl | rfl
      · exact ⟨f0, rfl, d0⟩
      · exact ⟨f1, rfl, d1⟩
      · exact ⟨f2, rfl, d2⟩
      · exact ⟨f3, rfl, d3⟩
      · exact ⟨f4, rfl, d4⟩
      · exact ⟨f5, rfl, d5⟩
      · exact ⟨f6, rfl, d6⟩
      · exact ⟨f7, rfl, d7⟩
      · exact ⟨f8, rfl, d8⟩
      · exact ⟨f9, rfl, d9⟩
      · exact ⟨f10, rfl, d10⟩
      · exact ⟨f11, rfl, d11⟩
      · exact ⟨f12, rfl, d12⟩
      · exact ⟨f13, rfl, d13⟩
      · exact ⟨f14, rfl, d14⟩
      · exact ⟨f15, rfl, d15⟩
      · exact ⟨f16, rfl, d16⟩
      · exact ⟨f18, rfl, d18⟩
      · exact ⟨f19, rfl, d19⟩
      · exact ⟨f21, rfl, d21⟩
      · exact ⟨f22, rfl, d22⟩
      · exact ⟨f23, rfl, d23⟩
      · exact ⟨f24, rfl, d24⟩
      · exact ⟨f25, rfl, d25⟩
    ar := fun f fd e => by
      have e : T.fn f = some fd := e
      simp only [e, and_self]
    gl := fun f hf => by
      have hf := List.contains_iff_mem.mp (show fs.contains f = true from hf)
      simp only [fs, List.mem_cons, List.not_mem_nil, or_false] at hf
      rcases hf with rfl | rfl | rfl | rfl | rfl | rfl | rfl | rfl | rfl | rfl | rfl | rfl | rfl | rfl | rfl | rfl | rfl | rfl | rfl | rfl | rfl | rfl | rfl | rfl
      · exact PySem.W.mg_of X G a0
      · exact PySem.W.mg_of X G a1
      · exact PySem.W.mg_of X G a2
      · exact PySem.W.mg_of X G a3
      · exact PySem.W.mg_of X G a4
      · exact PySem.W.mg_of X G a5
      · exact PySem.W.mg_of X G a6
      · exact PySem.W.mg_of X G a7
      · exact PySem.W.mg_of X G a8
      · exact PySem.W.mg_of X G a9
      · exact PySem.W.mg_of X G a10
      · exact PySem.W.mg_of X G a11
      · exact PySem.W.mg_of X G a12
      · exact PySem.W.mg_of X G a13
      · exact PySem.W.mg_of X G a14
      · exact PySem.W.mg_of X G a15
      · exact PySem.W.mg_of X G a16
      · exact PySem.W.mg_of X G a18
      · exact PySem.W.mg_of X G a19
      · exact PySem.W.mg_of X G a21
      · exact PySem.W.mg_of X G a22
      · exact PySem.W.mg_of X G a23
      · exact PySem.W.mg_of X G a24
      · exact PySem.W.mg_of X G a25
    cgl := fun f hf => by
      have hf := List.contains_iff_mem.mp (show cs.contains f = true from hf)
      simp only [cs, List.mem_cons, List.not_mem_nil, or_false] at hf
      rcases hf with rfl | rfl | rfl | rfl
      · exact PySem.W.mg_of X G x0
      · exact PySem.W.mg_of X G x1
      · exact PySem.W.mg_of X G x2
      · exact PySem.W.mg_of X G x3
    glo := fun x i e => by
      have e := PySem.mem_of_lookup e
      simp only [List.mem_cons, List.not_mem_nil, or_false, Prod.mk.injEq] at e
      rcases e with ⟨rfl, rfl⟩ | ⟨rfl, rfl⟩ | ⟨rfl, rfl⟩ | ⟨rfl, rfl⟩
      · exact ⟨u0, PySem.W.mg_of X G m0⟩
      · exact ⟨u1, PySem.W.mg_of X G m1⟩
      · exact ⟨u2, PySem.W.mg_of X G m2⟩
      · exact ⟨u3, PySem.W.mg_of X G m3⟩
    kc := fun j h => by cases h
    kt := fun n hn i hi => by cases hi
    fo := fun j f h => by cases h
    meth := fun j m f h => by cases h
    init := fun j f h => by cases h
    ioi := fun j f h => by cases h
    rai := fun j hf => by
      have hf := List.contains_iff_mem.mp (show cs.contains j = true from hf)
      simp only [cs, List.mem_cons, List.not_mem_nil, or_false] at hf
      rcases hf with rfl | rfl | rfl | rfl
      · exact ⟨_, _, _, _, PySem.F.excBase_ValueError, e0, yg0, s0, y0⟩
      · exact ⟨_, _, _, _, PySem.F.excBase_ValueError, e1, yg1, s1, y1⟩
      · exact ⟨_, _, _, _, PySem.F.excBase_ValueError, e2, yg2, s2, y2⟩
      · exact ⟨_, _, _, _, PySem.F.excBase_ValueError, e3, yg3, s3, y3⟩ }
theorem hs : Hs T fs := fun i hi => by
  show (if fs.contains i = true then U i else none) = U i
  rw [if_pos (List.contains_iff_mem.mpr hi)]
theorem glo : Glo T := ⟨by decide +kernel, by decide +kernel, by decide +kernel, by decide +kernel⟩
theorem law_true (ns : List Int) (hl : ns.length ≤ 63) (hb : ∀ z ∈ ns, Builtin.Int.intBits z ≤ 1048576) : ∃ o, callD T 8 25 [.scr ns] = .ok (.bl true) o := e25 hs glo 2 ns

end K2
open PySem PySem.W PyProof.Rows
set_option maxHeartbeats 0 in
theorem PySem.Challenge.cw_boxpasses_k02_whole_paths_holds : PySem.Challenge.rw_boxpasses_k02_whole_paths.Holds := by
  w_on; o_law; k_head; (case hw => w_witness2)
  k_fill
  refine Bx.walk_end (l := PySem.Challenge.rw_boxpasses_k02_whole_paths) (m := 63) (n := 8) (f := 25) (T := K2.T) (nm := K2.nmT) (fd0 := Ku.f25) rfl (by decide) rfl ⟨rfl, by decide, by decide⟩ (fun w h Y => PySem.W.kIn_of Y) rfl rfl rfl ?tabs (fun ns hl hb => K2.law_true ns hl hb)
  case tabs =>
    intro w mg fa h KX G hmg
    refine' K2.tabs KX G hmg ?a0 ?l0 ?c0 ?k0 ?a1 ?l1 ?c1 ?k1 ?a2 ?l2 ?c2 ?k2 ?a3 ?l3 ?c3 ?k3 ?a4 ?l4 ?c4 ?k4 ?a5 ?l5 ?c5 ?k5 ?a6 ?l6 ?c6 ?k6 ?a7 ?l7 ?c7 ?k7 ?a8 ?l8 ?c8 ?k8 ?a9 ?l9 ?c9 ?k9 ?a10 ?l10 ?c10 ?k10 ?a11 ?l11 ?c11 ?k11 ?a12 ?l12 ?c12 ?k12 ?a13 ?l13 ?c13 ?k13 ?a14 ?l14 ?c14 ?k14 ?a15 ?l15 ?c15 ?k15 ?a16 ?l16 ?c16 ?k16 ?a18 ?l18 ?c18 ?k18 ?a19 ?l19 ?c19 ?k19 ?a21 ?l21 ?c21 ?k21 ?a22 ?l22 ?c22 ?k22 ?a23 ?l23 ?c23 ?k23 ?a24 ?l24 ?c24 ?k24 ?a25 ?l25 ?c25 ?k25 ?x0 ?e0 ?yg0 ?s0 ?y0 ?x1 ?e1 ?yg1 ?s1 ?y1 ?x2 ?e2 ?yg2 ?s2 ?y2 ?x3 ?e3 ?yg3 ?s3 ?y3 ?m0 ?m1 ?m2 ?m3 ?z0 ?z1 ?z2 ?z3 ?z4 ?z5 ?z6 ?z7 ?z8 ?z9 ?z10 ?z11 ?z12 ?z13 ?z14 ?z15 ?z16 ?z17 ?z18
    (case a0 => k_is); (case l0 => k_is); (case c0 => k_is); (case k0 => k_is); (case a1 => k_is); (case l1 => k_is)
    (case c1 => k_is); (case k1 => k_is); (case a2 => k_is); (case l2 => k_is); (case c2 => k_is); (case k2 => k_is)
    (case a3 => k_is); (case l3 => k_is); (case c3 => k_is); (case k3 => k_is); (case a4 => k_is); (case l4 => k_is)
    (case c4 => k_is); (case k4 => k_is); (case a5 => k_is); (case l5 => k_is); (case c5 => k_is); (case k5 => k_is)
    (case a6 => k_is); (case l6 => k_is); (case c6 => k_is); (case k6 => k_is); (case a7 => k_is); (case l7 => k_is)
    (case c7 => k_is); (case k7 => k_is); (case a8 => k_is); (case l8 => k_is); (case c8 => k_is); (case k8 => k_is)
    (case a9 => k_is); (case l9 => k_is); (case c9 => k_is); (case k9 => k_is); (case a10 => k_is); (case l10 => k_is)
    (case c10 => k_is); (case k10 => k_is); (case a11 => k_is); (case l11 => k_is); (case c11 => k_is); (case k11 => k_is)
    (case a12 => k_is); (case l12 => k_is); (case c12 => k_is); (case k12 => k_is); (case a13 => k_is); (case l13 => k_is)
    (case c13 => k_is); (case k13 => k_is); (case a14 => k_is); (case l14 => k_is); (case c14 => k_is); (case k14 => k_is)
    (case a15 => k_is); (case l15 => k_is); (case c15 => k_is); (case k15 => k_is); (case a16 => k_is); (case l16 => k_is)
    (case c16 => k_is); (case k16 => k_is); (case a18 => k_is); (case l18 => k_is); (case c18 => k_is); (case k18 => k_is)
    (case a19 => k_is); (case l19 => k_is); (case c19 => k_is); (case k19 => k_is); (case a21 => k_is); (case l21 => k_is)
    (case c21 => k_is); (case k21 => k_is); (case a22 => k_is); (case l22 => k_is); (case c22 => k_is); (case k22 => k_is)
    (case a23 => k_is); (case l23 => k_is); (case c23 => k_is); (case k23 => k_is); (case a24 => k_is); (case l24 => k_is)
    (case c24 => k_is); (case k24 => k_is); (case a25 => k_is); (case l25 => k_is); (case c25 => k_is); (case k25 => k_is)
    (case x0 => k_is); (case e0 => k_exc); (case yg0 => k_is); (case s0 => k_is); (case y0 => k_is); (case x1 => k_is)
    (case e1 => k_exc); (case yg1 => k_is); (case s1 => k_is); (case y1 => k_is); (case x2 => k_is); (case e2 => k_exc)
    (case yg2 => k_is); (case s2 => k_is); (case y2 => k_is); (case x3 => k_is); (case e3 => k_exc); (case yg3 => k_is)
    (case s3 => k_is); (case y3 => k_is); (case m0 => k_is); (case m1 => k_is); (case m2 => k_is); (case m3 => k_is)
    (case z0 => k_is); (case z1 => k_is); (case z2 => k_is); (case z3 => k_is); (case z4 => k_is); (case z5 => k_is)
    (case z6 => k_is); (case z7 => k_is); (case z8 => k_is); (case z9 => k_is); (case z10 => k_is); (case z11 => k_is)
    (case z12 => k_is); (case z13 => k_is); (case z14 => k_is); (case z15 => k_is); (case z16 => k_is); (case z17 => k_is)
    (case z18 => k_is)
