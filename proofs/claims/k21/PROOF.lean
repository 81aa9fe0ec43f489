import PyProof.Rows.All
import Wide.All
import OpenK.AllK
import Wide.FinOn
import HandS.ForMost
import HandS.Exc
import HandS.ExcOwn
import HandS.WordsExc
import HandS.Defaults
import HandS.HeadEnd
import HandS.HeadHook2
import KE.KStateDown
import KE.KDictPairs
import Lean
import HandS.Base
import HandS.Call
import HandS.Ends
import HandS.More
import HandS.Words
import HandS.Head0
import HandS.Head1
import HandS.Head2
import HandS.HeadHook1
import HandS.SortInts
import HandS.TupAny
import HandS.Deep
import HandS.TupLe
import HandS.IsInst
import HandS.Style
import KE.KTupSum
import HandS.RevTup
import HandS.Rev
import HandS.Iter
import HandS.SetFor
import PyProof.ReprRoads
import PyProof.CallFns
import HandS.WideBits
import HandS.Strs
import HandS.Conv
import HandS.HotCalls
import HandS.ExcIs
import PySem.Challenge.RW_linegate_k21_tallies
set_option Elab.async false
set_option linter.all false
set_option maxRecDepth 100000
/-! Values without a heap: the program's data as trees; how a tree lies in the abstract heap. -/
namespace VS
open PySem L2
abbrev Ps := Addr → Prop
def emp : Ps := fun _ => False
def uni (f g : Ps) : Ps := fun a => f a ∨ g a
def dis (f g : Ps) : Prop := ∀ a, f a → g a → False
def one (a : Addr) : Ps := fun b => b = a
theorem uni_emp (f : Ps) : uni f emp = f := funext fun a => propext ⟨fun h => h.elim id (fun z => z.elim), .inl⟩
theorem emp_uni (f : Ps) : uni emp f = f := funext fun a => propext ⟨fun h => h.elim (fun z => z.elim) id, .inr⟩
theorem eq_emp {f : Ps} (h : ∀ a, ¬ f a) : f = emp := funext fun a => propext ⟨fun z => (h a z).elim, fun z => z.elim⟩
theorem dis_emp (f : Ps) : dis f emp := fun _ _ z => z
theorem emp_dis (f : Ps) : dis emp f := fun _ z _ => z
theorem dis.symm {f g : Ps} (h : dis f g) : dis g f := fun a x y => h a y x

/-- what kind of object: a tuple; a tuple, a list that is only read (the script, the module's own); a list, a dict, an instance: changed by its owner alone, or (fz) never again -/
inductive Tag where
  | tup
  | ktup
  | ptup
  | rol
  | lst (fz : Bool)
  | dct (fz : Bool) (ks : List Key)
  | dtt (fz : Bool) (ks : List (List Key))
  | ins (fz : Bool) (c : Nat) (fs : List Str)
def Tag.own : Tag → Bool
  | .tup => false
  | .ktup => false
  | .ptup => false
  | .rol => false
  | .lst z => !z
  | .dct z _ => !z
  | .dtt z _ => !z
  | .ins z _ _ => !z
def Tag.fz : Tag → Tag
  | .tup => .tup
  | .ktup => .ktup
  | .ptup => .ptup
  | .rol => .rol
  | .lst _ => .lst true
  | .dct _ ks => .dct true ks
  | .dtt _ ks => .dtt true ks
  | .ins _ c fs => .ins true c fs
theorem Tag.fz_own (t : Tag) : t.fz.own = false := by cases t <;> rfl

inductive Val where
  | non
  | bl (b : Bool)
  | int (i : Int)
  | str (x : Str)
  | node (t : Tag) (vs : List Val)
instance : Inhabited Val := ⟨.non⟩

mutual
def Val.pure : Val → Bool
  | .node t vs => !t.own && pures vs
  | _ => true
def pures : List Val → Bool
  | [] => true
  | v :: vs => v.pure && pures vs
end
mutual
def Val.freeze : Val → Val
  | .node t vs => .node t.fz (freezes vs)
  | v => v
def freezes : List Val → List Val
  | [] => []
  | v :: vs => v.freeze :: freezes vs
end
/-- nothing in it that is frozen (but tuples) -/
def Tag.nofz : Tag → Bool
  | .tup => true
  | t => t.own
mutual
def Val.nofz : Val → Bool
  | .node t vs => t.nofz && nofzs vs
  | _ => true
def nofzs : List Val → Bool
  | [] => true
  | v :: vs => v.nofz && nofzs vs
end

section
variable (K : PySem.W.Frag) (Cl : Nat → Addr)
/-- what stands at a, its items Vs; x: the cells that it takes -/
def Hold (H : Hp) : Tag → Addr → List V → Ps → Prop
  | .tup, a, Vs, x => H a = some (.tup Vs) ∧ x = one a
  | .ktup, a, Vs, x => SqT K (fun _ => none) a Vs ∧ x = emp
  | .ptup, a, Vs, x => (∃ o, H a = some (.frz o (.tup Vs)) ∧ o.dict = none) ∧ x = one a
  | .rol, a, Vs, x => Rd H a (.lst Vs) ∧ x = one a
  | .lst _, a, Vs, x => H a = some (.lst Vs) ∧ x = one a
  | .dct _ ks, a, Vs, x => H a = some (.dK (ks.zip Vs)) ∧ ks.length = Vs.length ∧ ks.Nodup ∧ x = one a
  | .dtt _ ks, a, Vs, x => H a = some (.dT (ks.zip Vs)) ∧ ks.length = Vs.length ∧ ks.Nodup ∧ x = one a
  | .ins _ c fs, a, Vs, x => ∃ dx, H a = some (.ins (Cl c) dx (fs.zip Vs)) ∧ H dx = some (.own a) ∧ dx ≠ a ∧ fs.length = Vs.length ∧ x = uni (one a) (one dx)
mutual
/-- the tree v lies at V, its own cells are f; all that is frozen lies in P -/
def R (P : Ps) (H : Hp) : Val → V → Ps → Prop
  | .non, V, f => V = .non ∧ f = emp
  | .bl b, V, f => V = .bl b ∧ f = emp
  | .int i, V, f => V = .int i ∧ f = emp
  | .str x, V, f => V = .str x ∧ f = emp
  | .node t vs, V, f => ∃ a Vs x g, V = .ref a ∧ Hold K Cl H t a Vs x ∧ Rs P H vs Vs g ∧
      (if t.own = true then f = uni x g ∧ dis x g ∧ ∀ b, x b → ¬ P b else f = g ∧ ∀ b, x b → P b)
def Rs (P : Ps) (H : Hp) : List Val → List V → Ps → Prop
  | [], Vs, f => Vs = [] ∧ f = emp
  | v :: vs, Vs, f => ∃ V Vs' f1 f2, Vs = V :: Vs' ∧ R P H v V f1 ∧ Rs P H vs Vs' f2 ∧ dis f1 f2 ∧ f = uni f1 f2
end
end

section
variable {K : PySem.W.Frag} {Cl : Nat → Addr} {H H' : Hp} {P P' : Ps}
theorem Hold.frame {t : Tag} {a : Addr} {Vs : List V} {x : Ps} (h : Hold K Cl H t a Vs x) (k : ∀ b o, H b = some o → x b → H' b = some o) : Hold K Cl H' t a Vs x := by
  cases t with
  | tup =>
    obtain ⟨h, rfl⟩ := h
    exact ⟨k _ _ h rfl, rfl⟩
  | ktup => exact h
  | ptup =>
    obtain ⟨⟨o, h, d⟩, rfl⟩ := h
    exact ⟨⟨o, k _ _ h rfl, d⟩, rfl⟩
  | rol =>
    obtain ⟨h | ⟨o, h⟩, rfl⟩ := h
    · exact ⟨.inl (k _ _ h rfl), rfl⟩
    · exact ⟨.inr ⟨o, k _ _ h rfl⟩, rfl⟩
  | lst z =>
    obtain ⟨h, rfl⟩ := h
    exact ⟨k _ _ h rfl, rfl⟩
  | dct z ks =>
    obtain ⟨h, l, n, rfl⟩ := h
    exact ⟨k _ _ h rfl, l, n, rfl⟩
  | dtt z ks =>
    obtain ⟨h, l, n, rfl⟩ := h
    exact ⟨k _ _ h rfl, l, n, rfl⟩
  | ins z c fs =>
    obtain ⟨dx, h, h2, n, l, rfl⟩ := h
    exact ⟨dx, k _ _ h (.inl rfl), k _ _ h2 (.inr rfl), n, l, rfl⟩
theorem Hold.live {t : Tag} {a : Addr} {Vs : List V} {x : Ps} (h : Hold K Cl H t a Vs x) : ∀ b, x b → H b ≠ none := by
  intro b hb
  cases t with
  | tup =>
    obtain ⟨h, rfl⟩ := h
    rw [show b = a from hb, h]; simp
  | ktup => rw [h.2] at hb; exact hb.elim
  | ptup =>
    obtain ⟨⟨o, h, d⟩, rfl⟩ := h
    rw [show b = a from hb, h]; simp
  | rol =>
    obtain ⟨h | ⟨o, h⟩, rfl⟩ := h
    · rw [show b = a from hb, h]; simp
    · rw [show b = a from hb, h]; simp
  | lst z =>
    obtain ⟨h, rfl⟩ := h
    rw [show b = a from hb, h]; simp
  | dct z ks =>
    obtain ⟨h, l, n, rfl⟩ := h
    rw [show b = a from hb, h]; simp
  | dtt z ks =>
    obtain ⟨h, l, n, rfl⟩ := h
    rw [show b = a from hb, h]; simp
  | ins z c fs =>
    obtain ⟨dx, h, h2, n, l, rfl⟩ := h
    rcases hb with hb | hb
    · rw [show b = a from hb, h]; simp
    · rw [show b = dx from hb, h2]; simp
theorem Hold.len {t : Tag} {a : Addr} {Vs : List V} {x : Ps} (h : Hold K Cl H t a Vs x) : match t with
    | .dct _ ks => ks.length = Vs.length
    | .dtt _ ks => ks.length = Vs.length
    | .ins _ _ fs => fs.length = Vs.length
    | _ => True := by
  cases t with
  | tup => trivial
  | ktup => trivial
  | ptup => trivial
  | rol => trivial
  | lst z => trivial
  | dct z ks => exact h.2.1
  | dtt z ks => exact h.2.1
  | ins z c fs => obtain ⟨dx, h, h2, n, l, rfl⟩ := h; exact l
mutual
theorem R.frame : ∀ {v : Val} {W : V} {f : Ps}, R K Cl P H v W f → (∀ b o, H b = some o → P b ∨ f b → H' b = some o) → (∀ b, P b ∨ f b → (P' b ↔ P b)) → R K Cl P' H' v W f
  | .non, _, _, h, _, _ => h
  | .bl _, _, _, h, _, _ => h
  | .int _, _, _, h, _, _ => h
  | .str _, _, _, h, _, _ => h
  | .node t vs, W, f, h, k, p => by
    simp only [R] at h ⊢
    obtain ⟨a, Vs, x, g, rfl, hh, hs, hf⟩ := h
    by_cases ho : t.own = true
    · rw [if_pos ho] at hf
      obtain ⟨rfl, hd, hp⟩ := hf
      refine ⟨a, Vs, x, g, rfl, hh.frame fun b o e xb => k b o e (.inr (.inl xb)), Rs.frame hs (fun b o e q => k b o e (q.imp id .inr)) (fun b q => p b (q.imp id .inr)), ?_⟩
      rw [if_pos ho]
      exact ⟨rfl, hd, fun b xb q => hp b xb ((p b (.inr (.inl xb))).mp q)⟩
    · rw [if_neg ho] at hf
      obtain ⟨rfl, hp⟩ := hf
      refine ⟨a, Vs, x, f, rfl, hh.frame fun b o e xb => k b o e (.inl (hp b xb)), Rs.frame hs k p, ?_⟩
      rw [if_neg ho]
      exact ⟨rfl, fun b xb => (p b (.inl (hp b xb))).mpr (hp b xb)⟩
theorem Rs.frame : ∀ {vs : List Val} {Ws : List V} {f : Ps}, Rs K Cl P H vs Ws f → (∀ b o, H b = some o → P b ∨ f b → H' b = some o) → (∀ b, P b ∨ f b → (P' b ↔ P b)) → Rs K Cl P' H' vs Ws f
  | [], _, _, h, _, _ => h
  | v :: vs, Ws, f, h, k, p => by
    simp only [Rs] at h ⊢
    obtain ⟨W, Ws', f1, f2, rfl, h1, h2, hd, rfl⟩ := h
    exact ⟨W, Ws', f1, f2, rfl, R.frame h1 (fun b o e q => k b o e (q.imp id .inl)) (fun b q => p b (q.imp id .inl)), Rs.frame h2 (fun b o e q => k b o e (q.imp id .inr)) (fun b q => p b (q.imp id .inr)), hd, rfl⟩
end
mutual
/-- own cells are live and not frozen -/
theorem R.live : ∀ {v : Val} {W : V} {f : Ps}, R K Cl P H v W f → ∀ b, f b → H b ≠ none ∧ ¬ P b
  | .non, _, _, h, b, hb => by simp only [R] at h; rw [h.2] at hb; exact hb.elim
  | .bl _, _, _, h, b, hb => by simp only [R] at h; rw [h.2] at hb; exact hb.elim
  | .int _, _, _, h, b, hb => by simp only [R] at h; rw [h.2] at hb; exact hb.elim
  | .str _, _, _, h, b, hb => by simp only [R] at h; rw [h.2] at hb; exact hb.elim
  | .node t vs, W, f, h, b, hb => by
    simp only [R] at h
    obtain ⟨a, Vs, x, g, rfl, hh, hs, hf⟩ := h
    by_cases ho : t.own = true
    · rw [if_pos ho] at hf
      obtain ⟨rfl, hd, hp⟩ := hf
      rcases hb with hb | hb
      · exact ⟨hh.live b hb, hp b hb⟩
      · exact Rs.live hs b hb
    · rw [if_neg ho] at hf
      obtain ⟨rfl, hp⟩ := hf
      exact Rs.live hs b hb
theorem Rs.live : ∀ {vs : List Val} {Ws : List V} {f : Ps}, Rs K Cl P H vs Ws f → ∀ b, f b → H b ≠ none ∧ ¬ P b
  | [], _, _, h, b, hb => by simp only [Rs] at h; rw [h.2] at hb; exact hb.elim
  | v :: vs, Ws, f, h, b, hb => by
    simp only [Rs] at h
    obtain ⟨W, Ws', f1, f2, rfl, h1, h2, hd, rfl⟩ := h
    rcases hb with hb | hb
    · exact R.live h1 b hb
    · exact Rs.live h2 b hb
end
mutual
theorem R.pure_emp : ∀ {v : Val} {W : V} {f : Ps}, R K Cl P H v W f → v.pure = true → f = emp
  | .non, _, _, h, _ => by simp only [R] at h; exact h.2
  | .bl _, _, _, h, _ => by simp only [R] at h; exact h.2
  | .int _, _, _, h, _ => by simp only [R] at h; exact h.2
  | .str _, _, _, h, _ => by simp only [R] at h; exact h.2
  | .node t vs, W, f, h, hp => by
    simp only [R] at h
    simp only [Val.pure, Bool.and_eq_true, Bool.not_eq_true'] at hp
    obtain ⟨a, Vs, x, g, rfl, hh, hs, hf⟩ := h
    rw [if_neg (by rw [hp.1]; simp)] at hf
    obtain ⟨rfl, _⟩ := hf
    exact Rs.pure_emp hs hp.2
theorem Rs.pure_emp : ∀ {vs : List Val} {Ws : List V} {f : Ps}, Rs K Cl P H vs Ws f → pures vs = true → f = emp
  | [], _, _, h, _ => by simp only [Rs] at h; exact h.2
  | v :: vs, Ws, f, h, hp => by
    simp only [Rs] at h
    simp only [pures, Bool.and_eq_true] at hp
    obtain ⟨W, Ws', f1, f2, rfl, h1, h2, hd, rfl⟩ := h
    rw [R.pure_emp h1 hp.1, Rs.pure_emp h2 hp.2, uni_emp]
end
theorem Hold.fz {t : Tag} {a : Addr} {Vs : List V} {x : Ps} (h : Hold K Cl H t a Vs x) : Hold K Cl H t.fz a Vs x := by
  cases t with
  | _ => exact h
mutual
/-- frozen, it has no cells of its own -/
theorem R.frz : ∀ {v : Val} {W : V} {f : Ps}, R K Cl P H v W f → (∀ b, P b ∨ f b → P' b) → R K Cl P' H v.freeze W emp
  | .non, _, _, h, _ => by simp only [R] at h; simp only [Val.freeze, R]; exact ⟨h.1, trivial⟩
  | .bl _, _, _, h, _ => by simp only [R] at h; simp only [Val.freeze, R]; exact ⟨h.1, trivial⟩
  | .int _, _, _, h, _ => by simp only [R] at h; simp only [Val.freeze, R]; exact ⟨h.1, trivial⟩
  | .str _, _, _, h, _ => by simp only [R] at h; simp only [Val.freeze, R]; exact ⟨h.1, trivial⟩
  | .node t vs, W, f, h, p => by
    simp only [R] at h
    simp only [Val.freeze, R]
    obtain ⟨a, Vs, x, g, rfl, hh, hs, hf⟩ := h
    by_cases ho : t.own = true
    · rw [if_pos ho] at hf
      obtain ⟨rfl, hd, hp⟩ := hf
      refine ⟨a, Vs, x, emp, rfl, hh.fz, Rs.frz hs (fun b q => p b (q.imp id .inr)), ?_⟩
      rw [if_neg (by rw [Tag.fz_own]; simp)]
      exact ⟨rfl, fun b xb => p b (.inr (.inl xb))⟩
    · rw [if_neg ho] at hf
      obtain ⟨rfl, hp⟩ := hf
      refine ⟨a, Vs, x, emp, rfl, hh.fz, Rs.frz hs p, ?_⟩
      rw [if_neg (by rw [Tag.fz_own]; simp)]
      exact ⟨rfl, fun b xb => p b (.inl (hp b xb))⟩
theorem Rs.frz : ∀ {vs : List Val} {Ws : List V} {f : Ps}, Rs K Cl P H vs Ws f → (∀ b, P b ∨ f b → P' b) → Rs K Cl P' H (freezes vs) Ws emp
  | [], _, _, h, _ => by simp only [Rs] at h; simp only [freezes, Rs]; exact ⟨h.1, trivial⟩
  | v :: vs, Ws, f, h, p => by
    simp only [Rs] at h
    simp only [freezes, Rs]
    obtain ⟨W, Ws', f1, f2, rfl, h1, h2, hd, rfl⟩ := h
    exact ⟨W, Ws', emp, emp, rfl, R.frz h1 (fun b q => p b (q.imp id .inl)), Rs.frz h2 (fun b q => p b (q.imp id .inr)), emp_dis _, (uni_emp _).symm⟩
end
mutual
/-- what has nothing frozen in it does not lean on cells that hold lists, dicts, instances -/
theorem R.thaw : ∀ {v : Val} {W : V} {f : Ps}, R K Cl P H v W f → v.nofz = true → (∀ b, P b → ¬ P' b → ∀ xs, H b ≠ some (.tup xs)) → (∀ b, f b → ¬ P' b) → R K Cl P' H v W f
  | .non, _, _, h, _, _, _ => h
  | .bl _, _, _, h, _, _, _ => h
  | .int _, _, _, h, _, _, _ => h
  | .str _, _, _, h, _, _, _ => h
  | .node t vs, W, f, h, nz, p, q => by
    simp only [R] at h ⊢
    simp only [Val.nofz, Bool.and_eq_true] at nz
    obtain ⟨a, Vs, x, g, rfl, hh, hs, hf⟩ := h
    by_cases ho : t.own = true
    · rw [if_pos ho] at hf
      obtain ⟨rfl, hd, hp⟩ := hf
      refine ⟨a, Vs, x, g, rfl, hh, Rs.thaw hs nz.2 p (fun b gb => q b (.inr gb)), ?_⟩
      rw [if_pos ho]
      exact ⟨rfl, hd, fun b xb => q b (.inl xb)⟩
    · rw [if_neg ho] at hf
      obtain ⟨rfl, hp⟩ := hf
      refine ⟨a, Vs, x, f, rfl, hh, Rs.thaw hs nz.2 p q, ?_⟩
      rw [if_neg ho]
      refine ⟨rfl, fun b xb => ?_⟩
      have e : t = .tup := by
        cases t with
        | tup => rfl
        | _ => exact absurd nz.1 (by simp only [Tag.nofz]; simpa using ho)
      subst e
      obtain ⟨h1, rfl⟩ := hh
      have hba : b = a := xb
      subst hba
      exact Classical.byContradiction fun np => p _ (hp _ rfl) np _ h1
theorem Rs.thaw : ∀ {vs : List Val} {Ws : List V} {f : Ps}, Rs K Cl P H vs Ws f → nofzs vs = true → (∀ b, P b → ¬ P' b → ∀ xs, H b ≠ some (.tup xs)) → (∀ b, f b → ¬ P' b) → Rs K Cl P' H vs Ws f
  | [], _, _, h, _, _, _ => h
  | v :: vs, Ws, f, h, nz, p, q => by
    simp only [Rs] at h ⊢
    simp only [nofzs, Bool.and_eq_true] at nz
    obtain ⟨W, Ws', f1, f2, rfl, h1, h2, hd, rfl⟩ := h
    exact ⟨W, Ws', f1, f2, rfl, R.thaw h1 nz.1 p (fun b gb => q b (.inl gb)), Rs.thaw h2 nz.2 p (fun b gb => q b (.inr gb)), hd, rfl⟩
end
theorem Rs.length : ∀ {vs : List Val} {Ws : List V} {f : Ps}, Rs K Cl P H vs Ws f → vs.length = Ws.length
  | [], _, _, h => by simp only [Rs] at h; rw [h.1]; rfl
  | v :: vs, Ws, f, h => by
    simp only [Rs] at h
    obtain ⟨W, Ws', f1, f2, rfl, h1, h2, hd, rfl⟩ := h
    simp [Rs.length h2]
end
end VS

namespace VS
open PySem L2

/-! ### a node's items -/
section
variable {K : PySem.W.Frag} {Cl : Nat → Addr} {H H' : Hp} {P P' : Ps}
/-- one item, and what to put there -/
theorem Rs.pick : ∀ {vs : List Val} {Ws : List V} {g : Ps} {i : Nat} {v : Val}, Rs K Cl P H vs Ws g → vs[i]? = some v → ∃ W f1 g1, Ws[i]? = some W ∧ R K Cl P H v W f1 ∧ dis f1 g1 ∧ g = uni f1 g1 ∧
    ∀ {P' : Ps} {H' : Hp} {u : Val} {U : V} {fu : Ps}, (∀ b o, H b = some o → P b ∨ g1 b → H' b = some o) → (∀ b, P b ∨ g1 b → (P' b ↔ P b)) → R K Cl P' H' u U fu → dis fu g1 → Rs K Cl P' H' (vs.set i u) (Ws.set i U) (uni fu g1)
  | [], _, _, _, _, _, h => by simp at h
  | v :: vs, Ws, g, 0, w, h, e => by
    simp only [Rs] at h
    obtain ⟨W, Ws', f1, f2, rfl, h1, h2, hd, rfl⟩ := h
    simp at e; subst e
    refine ⟨W, f1, f2, rfl, h1, hd, rfl, fun k p q d => ?_⟩
    simp only [List.set_cons_zero, Rs]
    exact ⟨_, _, _, f2, rfl, q, h2.frame k p, d, rfl⟩
  | v :: vs, Ws, g, i + 1, w, h, e => by
    simp only [Rs] at h
    obtain ⟨W, Ws', f1, f2, rfl, h1, h2, hd, rfl⟩ := h
    obtain ⟨W1, g1, g2, e1, r1, d1, rfl, put⟩ := h2.pick (i := i) (v := w) (by simpa using e)
    refine ⟨W1, g1, uni f1 g2, by simpa using e1, r1, ?_, ?_, fun {P' H' u U fu} k p q d => ?_⟩
    · intro a x y
      rcases y with y | y
      · exact hd a y (.inl x)
      · exact d1 a x y
    · funext a; apply propext
      show (f1 a ∨ g1 a ∨ g2 a) ↔ (g1 a ∨ f1 a ∨ g2 a)
      exact ⟨fun z => z.elim (fun z => .inr (.inl z)) fun z => z.elim .inl fun z => .inr (.inr z), fun z => z.elim (fun z => .inr (.inl z)) fun z => z.elim .inl fun z => .inr (.inr z)⟩
    · simp only [List.set_cons_succ, Rs]
      refine ⟨W, _, f1, uni fu g2, rfl, h1.frame (fun b o e z => k b o e (z.imp id .inl)) (fun b z => p b (z.imp id .inl)), put (fun b o e z => k b o e (z.imp id .inr)) (fun b z => p b (z.imp id .inr)) q (fun a x y => d a x (.inr y)), ?_, ?_⟩
      · intro a x y
        rcases y with y | y
        · exact d a y (.inl x)
        · exact hd a x (.inr y)
      · funext a; apply propext
        show (fu a ∨ f1 a ∨ g2 a) ↔ (f1 a ∨ fu a ∨ g2 a)
        exact ⟨fun z => z.elim (fun z => .inr (.inl z)) fun z => z.elim .inl fun z => .inr (.inr z), fun z => z.elim (fun z => .inr (.inl z)) fun z => z.elim .inl fun z => .inr (.inr z)⟩
theorem Hold.det {t : Tag} {a : Addr} {Vs Ws : List V} {x y : Ps} (ho : t.own = true) (h : Hold K Cl H t a Vs x) (h' : Hold K Cl H t a Ws y) : Vs = Ws ∧ x = y := by
  cases t with
  | tup => cases ho
  | ktup => cases ho
  | ptup => cases ho
  | rol => cases ho
  | lst z =>
    obtain ⟨h1, rfl⟩ := h
    obtain ⟨h2, rfl⟩ := h'
    rw [h1] at h2
    cases h2
    exact ⟨rfl, rfl⟩
  | dct z ks =>
    obtain ⟨h1, l1, _, rfl⟩ := h
    obtain ⟨h2, l2, _, rfl⟩ := h'
    rw [h1] at h2
    have e : ks.zip Vs = ks.zip Ws := HO.dK.inj (Option.some.inj h2)
    have e2 := congrArg (List.map Prod.snd) e
    rw [List.map_snd_zip (by omega), List.map_snd_zip (by omega)] at e2
    exact ⟨e2, rfl⟩
  | dtt z ks =>
    obtain ⟨h1, l1, _, rfl⟩ := h
    obtain ⟨h2, l2, _, rfl⟩ := h'
    rw [h1] at h2
    have e : ks.zip Vs = ks.zip Ws := HO.dT.inj (Option.some.inj h2)
    have e2 := congrArg (List.map Prod.snd) e
    rw [List.map_snd_zip (by omega), List.map_snd_zip (by omega)] at e2
    exact ⟨e2, rfl⟩
  | ins z c fs =>
    obtain ⟨dx, h1, h2, _, l1, rfl⟩ := h
    obtain ⟨dy, h3, h4, _, l2, rfl⟩ := h'
    rw [h1] at h3
    have e := Option.some.inj h3
    injection e with e1 e2 e3
    subst e2
    have e2 := congrArg (List.map Prod.snd) e3
    rw [List.map_snd_zip (by omega), List.map_snd_zip (by omega)] at e2
    exact ⟨e2, rfl⟩
end

/-! ### places within a tree -/
def getp : Val → List Nat → Option Val
  | v, [] => some v
  | .node t vs, i :: p => if t.own then (match vs[i]? with | some v => getp v p | none => none) else none
  | _, _ :: _ => none
def setp : Val → List Nat → Val → Val
  | _, [], u => u
  | .node t vs, i :: p, u => .node t (vs.set i (setp (vs[i]?.getD .non) p u))
  | v, _ :: _, _ => v
section
variable (K : PySem.W.Frag) (Cl : Nat → Addr)
def At (H : Hp) : Val → V → List Nat → V → Prop
  | _, W, [], U => U = W
  | v, W, i :: p, U => ∃ t vs a Ws x v1 W1, v = .node t vs ∧ t.own = true ∧ W = .ref a ∧ Hold K Cl H t a Ws x ∧ vs[i]? = some v1 ∧ Ws[i]? = some W1 ∧ At H v1 W1 p U
end
section
variable {K : PySem.W.Frag} {Cl : Nat → Addr} {H H' : Hp} {P P' : Ps}
theorem set_self {α : Type} : ∀ {l : List α} {i : Nat} {x : α}, l[i]? = some x → l.set i x = l
  | [], _, _, h => by simp at h
  | a :: l, 0, x, h => by simp at h; simp [h]
  | a :: l, i + 1, x, h => by simp at h; simp [set_self h]
theorem get_set_self {α : Type} {l : List α} {i : Nat} {x y : α} (h : l[i]? = some x) : (l.set i y)[i]? = some y := by
  obtain ⟨hi, _⟩ := List.getElem?_eq_some_iff.mp h
  rw [List.getElem?_set_self hi]
theorem R.focus : ∀ {p : List Nat} {v u : Val} {W U : V} {f : Ps}, R K Cl P H v W f → getp v p = some u → At K Cl H v W p U → ∃ fu, R K Cl P H u U fu ∧ (∀ b, fu b → f b) ∧
    ∀ {P' : Ps} {H' : Hp} {u' : Val} {fu' : Ps}, (∀ b o, H b = some o → P b ∨ (f b ∧ ¬ fu b) → H' b = some o) → (∀ b, P b ∨ (f b ∧ ¬ fu b) → (P' b ↔ P b)) → R K Cl P' H' u' U fu' → (∀ b, fu' b → f b → fu b) →
      R K Cl P' H' (setp v p u') W (fun b => (f b ∧ ¬ fu b) ∨ fu' b) ∧ At K Cl H' (setp v p u') W p U
  | [], v, u, W, U, f, h, e, at_ => by
    simp only [getp, Option.some.injEq] at e
    subst e
    simp only [At] at at_
    subst at_
    refine ⟨f, h, fun _ z => z, fun {P' H' u' fu'} k p q d => ?_⟩
    simp only [setp, At, and_true]
    rw [show (fun b => (f b ∧ ¬ f b) ∨ fu' b) = fu' from funext fun b => propext ⟨fun z => z.elim (fun z => (z.2 z.1).elim) id, .inr⟩]
    exact q
  | i :: p, v, u, W, U, f, h, e, at_ => by
    simp only [At] at at_
    obtain ⟨t, vs, a, Ws, x, v1, W1, rfl, ho, rfl, hh, e1, e2, at1⟩ := at_
    simp only [getp, ho, if_true, e1] at e
    simp only [R] at h
    obtain ⟨a', Vs, y, g, ea, hh', hs, hf⟩ := h
    cases ea
    obtain ⟨rfl, rfl⟩ := hh.det ho hh'
    rw [if_pos ho] at hf
    obtain ⟨rfl, hd, hp⟩ := hf
    obtain ⟨W2, f1, g1, e3, r1, d1, rfl, put⟩ := hs.pick e1
    rw [e2] at e3
    cases e3
    obtain ⟨fu, ru, sub, back⟩ := r1.focus e at1
    refine ⟨fu, ru, fun b z => .inr (.inl (sub b z)), fun {P' H' u' fu'} k pp q d => ?_⟩
    have nf : ∀ b, x b → ¬ fu b := fun b xb z => hd b xb (.inl (sub b z))
    have ng : ∀ b, g1 b → ¬ fu b := fun b gb z => d1 b (sub b z) gb
    obtain ⟨r2, a2⟩ := back (P' := P') (H' := H') (fun b o e z => k b o e (z.imp id fun z => ⟨.inr (.inl z.1), z.2⟩)) (fun b z => pp b (z.imp id fun z => ⟨.inr (.inl z.1), z.2⟩)) q (fun b z y => d b z (.inr (.inl y)))
    have hold' : Hold K Cl H' t a Ws x := hh.frame fun b o e xb => k b o e (.inr ⟨.inl xb, nf b xb⟩)
    have dd : dis (fun b => (f1 b ∧ ¬ fu b) ∨ fu' b) g1 := fun b z y => z.elim (fun z => d1 b z.1 y) fun z => ng b y (d b z (.inr (.inr y)))
    have rs := put (P' := P') (H' := H') (fun b o e z => k b o e (z.imp id fun z => ⟨.inr (.inr z), ng b z⟩)) (fun b z => pp b (z.imp id fun z => ⟨.inr (.inr z), ng b z⟩)) r2 dd
    rw [set_self e2] at rs
    refine ⟨?_, ?_⟩
    · simp only [setp, e1, Option.getD_some, R]
      refine ⟨a, Ws, x, _, rfl, hold', rs, ?_⟩
      rw [if_pos ho]
      refine ⟨?_, ?_, ?_⟩
      · funext b; apply propext
        show ((x b ∨ f1 b ∨ g1 b) ∧ ¬ fu b ∨ fu' b) ↔ (x b ∨ ((f1 b ∧ ¬ fu b) ∨ fu' b) ∨ g1 b)
        have n1 := nf b; have n2 := ng b
        constructor
        · rintro (⟨z | z | z, y⟩ | z)
          · exact .inl z
          · exact .inr (.inl (.inl ⟨z, y⟩))
          · exact .inr (.inr z)
          · exact .inr (.inl (.inr z))
        · rintro (z | (z | z) | z)
          · exact .inl ⟨.inl z, n1 z⟩
          · exact .inl ⟨.inr (.inl z.1), z.2⟩
          · exact .inr z
          · exact .inl ⟨.inr (.inr z), n2 z⟩
      · intro b xb z
        rcases z with (z | z) | z
        · exact hd b xb (.inl z.1)
        · exact nf b xb (d b z (.inl xb))
        · exact hd b xb (.inr z)
      · intro b xb z
        exact hp b xb ((pp b (.inr ⟨.inl xb, nf b xb⟩)).mp z)
    · simp only [setp, e1, Option.getD_some, At]
      exact ⟨t, _, a, Ws, x, _, W1, rfl, ho, rfl, hold', get_set_self e1, e2, a2⟩
theorem At.frame : ∀ {p : List Nat} {v : Val} {W U : V}, At K Cl H v W p U → (∀ b o, H b = some o → H' b = some o) → At K Cl H' v W p U
  | [], _, _, _, h, _ => h
  | i :: p, v, W, U, h, k => by
    simp only [At] at h ⊢
    obtain ⟨t, vs, a, Ws, x, v1, W1, e0, ho, ew, hh, e1, e2, at1⟩ := h
    exact ⟨t, vs, a, Ws, x, v1, W1, e0, ho, ew, hh.frame fun b o e _ => k b o e, e1, e2, at1.frame k⟩
/-- one step further -/
theorem At.snoc : ∀ {p : List Nat} {v : Val} {W : V} {a : Addr} {t : Tag} {vs : List Val} {Ws : List V} {x : Ps} {i : Nat} {v1 : Val} {W1 : V}, At K Cl H v W p (.ref a) → getp v p = some (.node t vs) → t.own = true → Hold K Cl H t a Ws x → vs[i]? = some v1 → Ws[i]? = some W1 →
    At K Cl H v W (p ++ [i]) W1 ∧ getp v (p ++ [i]) = some v1
  | [], v, W, a, t, vs, Ws, x, i, v1, W1, h, g, ho, hh, e1, e2 => by
    simp only [getp, Option.some.injEq] at g
    subst g
    simp only [At] at h
    subst h
    refine ⟨?_, ?_⟩
    · simp only [List.nil_append, At]
      exact ⟨t, vs, a, Ws, x, v1, W1, rfl, ho, rfl, hh, e1, e2, rfl⟩
    · simp only [List.nil_append, getp, ho, if_true, e1]
  | j :: p, v, W, a, t, vs, Ws, x, i, v1, W1, h, g, ho, hh, e1, e2 => by
    simp only [At] at h
    obtain ⟨t', vs', a', Ws', x', v1', W1', rfl, ho', ew, hh', f1, f2, at1⟩ := h
    simp only [getp, ho', if_true, f1] at g
    obtain ⟨q1, q2⟩ := at1.snoc g ho hh e1 e2
    refine ⟨?_, ?_⟩
    · simp only [List.cons_append, At]
      exact ⟨t', vs', a', Ws', x', v1', W1', rfl, ho', ew, hh', f1, f2, q1⟩
    · simp only [List.cons_append, getp, ho', if_true, f1]
      exact q2
end

/-! ### the names' values -/
abbrev Env := List (Option Val)
section
variable (K : PySem.W.Frag) (Cl : Nat → Addr)
def RE (P : Ps) (H : Hp) : Env → St → Ps → Prop
  | [], [], f => f = emp
  | none :: ρ, _ :: σ, f => RE P H ρ σ f
  | some v :: ρ, x :: σ, f => ∃ W f1 f2, x = some W ∧ R K Cl P H v W f1 ∧ RE P H ρ σ f2 ∧ dis f1 f2 ∧ f = uni f1 f2
  | _, _, _ => False
end
section
variable {K : PySem.W.Frag} {Cl : Nat → Addr} {H H' : Hp} {P P' : Ps}
theorem RE.frame : ∀ {ρ : Env} {σ : St} {f : Ps}, RE K Cl P H ρ σ f → (∀ b o, H b = some o → P b ∨ f b → H' b = some o) → (∀ b, P b ∨ f b → (P' b ↔ P b)) → RE K Cl P' H' ρ σ f
  | [], [], _, h, _, _ => h
  | [], _ :: _, _, h, _, _ => h.elim
  | none :: ρ, _ :: σ, f, h, k, p => by
    simp only [RE] at h ⊢
    exact h.frame k p
  | none :: ρ, [], f, h, k, p => by simp only [RE] at h
  | some v :: ρ, [], f, h, k, p => by simp only [RE] at h
  | some v :: ρ, x :: σ, f, h, k, p => by
    simp only [RE] at h ⊢
    obtain ⟨W, f1, f2, e, h1, h2, hd, rfl⟩ := h
    exact ⟨W, f1, f2, e, h1.frame (fun b o e q => k b o e (q.imp id .inl)) (fun b q => p b (q.imp id .inl)), h2.frame (fun b o e q => k b o e (q.imp id .inr)) (fun b q => p b (q.imp id .inr)), hd, rfl⟩
theorem RE.live : ∀ {ρ : Env} {σ : St} {f : Ps}, RE K Cl P H ρ σ f → ∀ b, f b → H b ≠ none ∧ ¬ P b
  | [], [], _, h, b, hb => by simp only [RE] at h; rw [h] at hb; exact hb.elim
  | [], _ :: _, _, h, _, _ => h.elim
  | none :: ρ, _ :: σ, f, h, b, hb => by simp only [RE] at h; exact h.live b hb
  | none :: ρ, [], f, h, _, _ => by simp only [RE] at h
  | some v :: ρ, [], f, h, _, _ => by simp only [RE] at h
  | some v :: ρ, x :: σ, f, h, b, hb => by
    simp only [RE] at h
    obtain ⟨W, f1, f2, e, h1, h2, hd, rfl⟩ := h
    rcases hb with hb | hb
    · exact h1.live b hb
    · exact h2.live b hb
theorem RE.length : ∀ {ρ : Env} {σ : St} {f : Ps}, RE K Cl P H ρ σ f → ρ.length = σ.length
  | [], [], _, _ => rfl
  | [], _ :: _, _, h => h.elim
  | none :: ρ, _ :: σ, f, h => by simp only [RE] at h; simp [h.length]
  | none :: ρ, [], f, h => by simp only [RE] at h
  | some v :: ρ, [], f, h => by simp only [RE] at h
  | some v :: ρ, x :: σ, f, h => by
    simp only [RE] at h
    obtain ⟨W, f1, f2, e, h1, h2, hd, rfl⟩ := h
    simp [h2.length]
theorem swap3 {f g h : Ps} : uni f (uni g h) = uni g (uni f h) := funext fun a => propext
  ⟨fun z => z.elim (fun z => .inr (.inl z)) fun z => z.elim .inl fun z => .inr (.inr z), fun z => z.elim (fun z => .inr (.inl z)) fun z => z.elim .inl fun z => .inr (.inr z)⟩
/-- one name's value apart, and what to put there -/
theorem RE.pick : ∀ {ρ : Env} {σ : St} {f : Ps} {i : Nat} {v : Val}, RE K Cl P H ρ σ f → ρ[i]? = some (some v) → ∃ W f1 g, σ[i]? = some (some W) ∧ R K Cl P H v W f1 ∧ dis f1 g ∧ f = uni f1 g ∧ (∀ x, RE K Cl P H (ρ.set i none) (σ.set i x) g)
  | [], [], _, _, _, _, e => by simp at e
  | [], _ :: _, _, _, _, h, _ => h.elim
  | none :: ρ, [], f, _, _, h, _ => by simp only [RE] at h
  | some v :: ρ, [], f, _, _, h, _ => by simp only [RE] at h
  | none :: ρ, x :: σ, f, 0, v, h, e => by simp at e
  | none :: ρ, x :: σ, f, i + 1, v, h, e => by
    simp only [RE] at h
    obtain ⟨W, f1, g, e1, r, d, rfl, t⟩ := h.pick (i := i) (v := v) (by simpa using e)
    refine ⟨W, f1, g, by simpa using e1, r, d, rfl, fun y => ?_⟩
    simp only [List.set_cons_succ, RE]
    exact t y
  | some w :: ρ, x :: σ, f, 0, v, h, e => by
    simp only [RE] at h
    obtain ⟨W, f1, f2, rfl, h1, h2, hd, rfl⟩ := h
    simp at e; subst e
    refine ⟨W, f1, f2, rfl, h1, hd, rfl, fun y => ?_⟩
    simp only [List.set_cons_zero, RE]
    exact h2
  | some w :: ρ, x :: σ, f, i + 1, v, h, e => by
    simp only [RE] at h
    obtain ⟨W, f1, f2, rfl, h1, h2, hd, rfl⟩ := h
    obtain ⟨W1, g1, g2, e1, r1, d1, rfl, t⟩ := h2.pick (i := i) (v := v) (by simpa using e)
    refine ⟨W1, g1, uni f1 g2, by simpa using e1, r1, ?_, swap3, fun y => ?_⟩
    · intro a x y
      rcases y with y | y
      · exact hd a y (.inl x)
      · exact d1 a x y
    · simp only [List.set_cons_succ, RE]
      exact ⟨W, f1, g2, rfl, h1, t y, fun a x y => hd a x (.inr y), rfl⟩
/-- a name forgotten -/
theorem RE.drop : ∀ {ρ : Env} {σ : St} {f : Ps} {i : Nat}, RE K Cl P H ρ σ f → ∃ g, (∀ b, g b → f b) ∧ ∀ x, RE K Cl P H (ρ.set i none) (σ.set i x) g
  | [], [], f, i, h => ⟨f, fun _ z => z, fun x => by simpa using h⟩
  | [], _ :: _, _, _, h => h.elim
  | none :: ρ, [], f, _, h => by simp only [RE] at h
  | some v :: ρ, [], f, _, h => by simp only [RE] at h
  | none :: ρ, x :: σ, f, 0, h => by
    simp only [RE] at h
    refine ⟨f, fun _ z => z, fun y => ?_⟩
    simp only [List.set_cons_zero, RE]
    exact h
  | some w :: ρ, x :: σ, f, 0, h => by
    simp only [RE] at h
    obtain ⟨W, f1, f2, rfl, h1, h2, hd, rfl⟩ := h
    refine ⟨f2, fun _ z => .inr z, fun y => ?_⟩
    simp only [List.set_cons_zero, RE]
    exact h2
  | none :: ρ, x :: σ, f, i + 1, h => by
    simp only [RE] at h
    obtain ⟨g, s, t⟩ := h.drop (i := i)
    refine ⟨g, s, fun y => ?_⟩
    simp only [List.set_cons_succ, RE]
    exact t y
  | some w :: ρ, x :: σ, f, i + 1, h => by
    simp only [RE] at h
    obtain ⟨W, f1, f2, rfl, h1, h2, hd, rfl⟩ := h
    obtain ⟨g, s, t⟩ := h2.drop (i := i)
    refine ⟨uni f1 g, fun b z => z.imp id (s b), fun y => ?_⟩
    simp only [List.set_cons_succ, RE]
    exact ⟨W, f1, g, rfl, h1, t y, fun a x y => hd a x (s a y), rfl⟩
/-- a forgotten name's new value -/
theorem RE.put : ∀ {ρ : Env} {σ : St} {g : Ps} {i : Nat} {v : Val} {W : V} {fv : Ps}, RE K Cl P H ρ σ g → i < ρ.length → ρ[i]? = some none → R K Cl P H v W fv → dis fv g → RE K Cl P H (ρ.set i (some v)) (σ.set i (some W)) (uni fv g)
  | [], _, _, _, _, _, _, _, hi, _, _, _ => by simp at hi
  | none :: ρ, [], f, _, _, _, _, h, _, _, _, _ => by simp only [RE] at h
  | some v :: ρ, [], f, _, _, _, _, h, _, _, _, _ => by simp only [RE] at h
  | none :: ρ, x :: σ, g, 0, v, W, fv, h, _, _, r, d => by
    simp only [RE] at h
    simp only [List.set_cons_zero, RE]
    exact ⟨W, fv, g, rfl, r, h, d, rfl⟩
  | some w :: ρ, x :: σ, g, 0, v, W, fv, h, _, e, r, d => by simp at e
  | none :: ρ, x :: σ, g, i + 1, v, W, fv, h, hi, e, r, d => by
    simp only [RE] at h
    simp only [List.set_cons_succ, RE]
    exact h.put (by simpa using hi) (by simpa using e) r d
  | some w :: ρ, x :: σ, g, i + 1, v, W, fv, h, hi, e, r, d => by
    simp only [RE] at h
    obtain ⟨W1, f1, f2, rfl, h1, h2, hd, rfl⟩ := h
    simp only [List.set_cons_succ, RE]
    refine ⟨W1, f1, uni fv f2, rfl, h1, h2.put (by simpa using hi) (by simpa using e) r (fun a x y => d a x (.inr y)), ?_, swap3⟩
    intro a x y
    rcases y with y | y
    · exact d a y (.inl x)
    · exact hd a x y
theorem RE.set {ρ : Env} {σ : St} {f : Ps} {i : Nat} {v : Val} {W : V} {fv : Ps} (h : RE K Cl P H ρ σ f) (hi : i < ρ.length) (r : R K Cl P H v W fv) (d : dis fv f) : ∃ f', RE K Cl P H (ρ.set i (some v)) (σ.set i (some W)) f' ∧ ∀ b, f' b → f b ∨ fv b := by
  obtain ⟨g, s, t⟩ := h.drop (i := i)
  have q := (t (some W)).put (i := i) (v := v) (W := W) (by simpa using hi) (by rw [List.getElem?_set_self hi]) r (fun a x y => d a x (s a y))
  rw [List.set_set, List.set_set] at q
  exact ⟨_, q, fun b z => z.elim .inr fun z => .inl (s b z)⟩
/-- items are told by the object -/
theorem Hold.items {t : Tag} {a : Addr} {Vs Ws : List V} {x y : Ps} (h : Hold K Cl H t a Vs x) (h' : Hold K Cl H t a Ws y) : Vs = Ws ∧ x = y := by
  cases t with
  | tup =>
    obtain ⟨h1, rfl⟩ := h
    obtain ⟨h2, rfl⟩ := h'
    rw [h1] at h2
    cases h2
    exact ⟨rfl, rfl⟩
  | ktup =>
    obtain ⟨h1, rfl⟩ := h
    obtain ⟨h2, rfl⟩ := h'
    rcases h1 with (z | ⟨o, z⟩) | ⟨o, its, n, l, _, d, _, v⟩
    · cases z
    · cases z
    rcases h2 with (z | ⟨o, z⟩) | ⟨o', its', n', l', _, d', _, v'⟩
    · cases z
    · cases z
    rw [l] at l'
    cases l'
    rw [d] at d'
    cases d'
    exact ⟨v.inj v', rfl⟩
  | ptup =>
    obtain ⟨⟨o, h1, _⟩, rfl⟩ := h
    obtain ⟨⟨o', h2, _⟩, rfl⟩ := h'
    rw [h1] at h2
    cases h2
    exact ⟨rfl, rfl⟩
  | rol =>
    obtain ⟨h1, rfl⟩ := h
    obtain ⟨h2, rfl⟩ := h'
    rcases h1 with h1 | ⟨o, h1⟩ <;> rcases h2 with h2 | ⟨o', h2⟩ <;> rw [h1] at h2 <;> cases h2 <;> exact ⟨rfl, rfl⟩
  | lst z => exact Hold.det (K := K) (Cl := Cl) (t := .lst false) rfl h h'
  | dct z ks => exact Hold.det (K := K) (Cl := Cl) (t := .dct false ks) rfl h h'
  | dtt z ks => exact Hold.det (K := K) (Cl := Cl) (t := .dtt false ks) rfl h h'
  | ins z c fs => exact Hold.det (K := K) (Cl := Cl) (t := .ins false c fs) rfl h h'
mutual
/-- the cells of a tree are told by the heap -/
theorem R.det : ∀ {v : Val} {W : V} {f f' : Ps} {P P' : Ps}, R K Cl P H v W f → R K Cl P' H v W f' → f = f'
  | .non, _, _, _, _, _, h, h' => by simp only [R] at h h'; rw [h.2, h'.2]
  | .bl _, _, _, _, _, _, h, h' => by simp only [R] at h h'; rw [h.2, h'.2]
  | .int _, _, _, _, _, _, h, h' => by simp only [R] at h h'; rw [h.2, h'.2]
  | .str _, _, _, _, _, _, h, h' => by simp only [R] at h h'; rw [h.2, h'.2]
  | .node t vs, W, f, f', P, P', h, h' => by
    simp only [R] at h h'
    obtain ⟨a, Vs, x, g, rfl, hh, hs, hf⟩ := h
    obtain ⟨a', Vs', x', g', e, hh', hs', hf'⟩ := h'
    cases e
    obtain ⟨rfl, rfl⟩ := hh.items hh'
    have := Rs.det hs hs'
    subst this
    by_cases ho : t.own = true
    · rw [if_pos ho] at hf hf'
      rw [hf.1, hf'.1]
    · rw [if_neg ho] at hf hf'
      rw [hf.1, hf'.1]
theorem Rs.det : ∀ {vs : List Val} {Ws : List V} {f f' : Ps} {P P' : Ps}, Rs K Cl P H vs Ws f → Rs K Cl P' H vs Ws f' → f = f'
  | [], _, _, _, _, _, h, h' => by simp only [Rs] at h h'; rw [h.2, h'.2]
  | v :: vs, _, _, _, _, _, h, h' => by
    simp only [Rs] at h h'
    obtain ⟨W, Ws', f1, f2, rfl, h1, h2, hd, rfl⟩ := h
    obtain ⟨W', Ws'', g1, g2, e, k1, k2, kd, rfl⟩ := h'
    cases e
    rw [R.det h1 k1, Rs.det h2 k2]
end
theorem Hold.notup {t : Tag} {a : Addr} {Vs : List V} {x : Ps} (ho : t.own = true) (h : Hold K Cl H t a Vs x) : ∀ b, x b → ∀ xs, H b ≠ some (.tup xs) := by
  intro b hb xs
  cases t with
  | tup => cases ho
  | ktup => cases ho
  | ptup => cases ho
  | rol => cases ho
  | lst z => obtain ⟨h, rfl⟩ := h; rw [show b = a from hb, h]; simp
  | dct z ks => obtain ⟨h, l, n, rfl⟩ := h; rw [show b = a from hb, h]; simp
  | dtt z ks => obtain ⟨h, l, n, rfl⟩ := h; rw [show b = a from hb, h]; simp
  | ins z c fs =>
    obtain ⟨dx, h, h2, n, l, rfl⟩ := h
    rcases hb with hb | hb
    · rw [show b = a from hb, h]; simp
    · rw [show b = dx from hb, h2]; simp
mutual
theorem R.notup : ∀ {v : Val} {W : V} {f : Ps}, R K Cl P H v W f → ∀ b, f b → ∀ xs, H b ≠ some (.tup xs)
  | .non, _, _, h, b, hb => by simp only [R] at h; rw [h.2] at hb; exact hb.elim
  | .bl _, _, _, h, b, hb => by simp only [R] at h; rw [h.2] at hb; exact hb.elim
  | .int _, _, _, h, b, hb => by simp only [R] at h; rw [h.2] at hb; exact hb.elim
  | .str _, _, _, h, b, hb => by simp only [R] at h; rw [h.2] at hb; exact hb.elim
  | .node t vs, W, f, h, b, hb => by
    simp only [R] at h
    obtain ⟨a, Vs, x, g, rfl, hh, hs, hf⟩ := h
    by_cases ho : t.own = true
    · rw [if_pos ho] at hf
      obtain ⟨rfl, hd, hp⟩ := hf
      rcases hb with hb | hb
      · exact hh.notup ho b hb
      · exact Rs.notup hs b hb
    · rw [if_neg ho] at hf
      obtain ⟨rfl, hp⟩ := hf
      exact Rs.notup hs b hb
theorem Rs.notup : ∀ {vs : List Val} {Ws : List V} {f : Ps}, Rs K Cl P H vs Ws f → ∀ b, f b → ∀ xs, H b ≠ some (.tup xs)
  | [], _, _, h, b, hb => by simp only [Rs] at h; rw [h.2] at hb; exact hb.elim
  | v :: vs, Ws, f, h, b, hb => by
    simp only [Rs] at h
    obtain ⟨W, Ws', f1, f2, rfl, h1, h2, hd, rfl⟩ := h
    rcases hb with hb | hb
    · exact R.notup h1 b hb
    · exact Rs.notup h2 b hb
end
theorem RE.notup : ∀ {ρ : Env} {σ : St} {f : Ps}, RE K Cl P H ρ σ f → ∀ b, f b → ∀ xs, H b ≠ some (.tup xs)
  | [], [], _, h, b, hb => by simp only [RE] at h; rw [h] at hb; exact hb.elim
  | [], _ :: _, _, h, _, _ => h.elim
  | none :: ρ, _ :: σ, f, h, b, hb => by simp only [RE] at h; exact h.notup b hb
  | none :: ρ, [], f, h, _, _ => by simp only [RE] at h
  | some v :: ρ, [], f, h, _, _ => by simp only [RE] at h
  | some v :: ρ, x :: σ, f, h, b, hb => by
    simp only [RE] at h
    obtain ⟨W, f1, f2, e, h1, h2, hd, rfl⟩ := h
    rcases hb with hb | hb
    · exact h1.notup b hb
    · exact h2.notup b hb
mutual
theorem Val.pure_freeze : ∀ {v : Val}, v.pure = true → v.freeze = v
  | .non, _ => rfl
  | .bl _, _ => rfl
  | .int _, _ => rfl
  | .str _, _ => rfl
  | .node t vs, h => by
    simp only [Val.pure, Bool.and_eq_true, Bool.not_eq_true'] at h
    simp only [Val.freeze]
    rw [pures_freeze h.2]
    congr 1
    cases t <;> simp_all [Tag.own, Tag.fz]
theorem pures_freeze : ∀ {vs : List Val}, pures vs = true → freezes vs = vs
  | [], _ => rfl
  | v :: vs, h => by
    simp only [pures, Bool.and_eq_true] at h
    simp only [freezes]
    rw [Val.pure_freeze h.1, pures_freeze h.2]
end
end
end VS

namespace VS
open PySem L2

/-! ### outcomes -/
structure Xc where
  c : Nat
  slot : Option Int
inductive Src where
  | tmp | brw | plc (i : Nat) (p : List Nat)
inductive Res (α : Type) where
  | ok (a : α) (ρ : Env)
  | exc (x : Xc) (ρ : Env)
  | bad
def Res.bind {α β : Type} : Res α → (α → Env → Res β) → Res β
  | .ok a ρ, k => k a ρ
  | .exc x ρ, _ => .exc x ρ
  | .bad, _ => .bad
@[simp] theorem Res.bind_ok {α β : Type} (a : α) (ρ : Env) (k : α → Env → Res β) : (Res.ok a ρ).bind k = k a ρ := rfl
@[simp] theorem Res.bind_exc {α β : Type} (x : Xc) (ρ : Env) (k : α → Env → Res β) : (Res.exc x ρ : Res α).bind k = .exc x ρ := rfl
@[simp] theorem Res.bind_bad {α β : Type} (k : α → Env → Res β) : (Res.bad : Res α).bind k = .bad := rfl

/-- from one heap to a later one: only w was written -/
structure Tr (P : Ps) (H : Hp) (w : Ps) (P' : Ps) (H' : Hp) : Prop where
  keep : ∀ b o, H b = some o → ¬ w b → H' b = some o
  pm : ∀ b, P b → P' b
  pn : ∀ b, P' b → P b ∨ w b ∨ H b = none
theorem Tr.refl (P : Ps) (H : Hp) (w : Ps) : Tr P H w P H := ⟨fun _ _ h _ => h, fun _ h => h, fun _ h => .inl h⟩
def wr (e : Bool) (f : Ps) : Ps := if e = true then f else emp
/-- f' came of f or is new -/
def Sub (H : Hp) (f' f : Ps) : Prop := ∀ b, f' b → f b ∨ H b = none
theorem Sub.refl (H : Hp) (f : Ps) : Sub H f f := fun _ h => .inl h
def Lv (P : Ps) (H : Hp) : Prop := ∀ b, P b → H b ≠ none
theorem Tr.live {P P' : Ps} {H H' : Hp} {w : Ps} (t : Tr P H w P' H') {b : Addr} (h : H b ≠ none) (n : ¬ w b) : H' b ≠ none := by
  intro z
  cases e : H b with
  | none => exact h e
  | some o => rw [t.keep b o e n] at z; cases z
theorem Tr.trans {P P1 P2 : Ps} {H H1 H2 : Hp} {w w1 : Ps} (t : Tr P H w P1 H1) (u : Tr P1 H1 w1 P2 H2) (s : Sub H w1 w) : Tr P H w P2 H2 := by
  refine ⟨fun b o h n => ?_, fun b h => u.pm b (t.pm b h), fun b h => ?_⟩
  · refine u.keep b o (t.keep b o h n) fun z => ?_
    rcases s b z with q | q
    · exact n q
    · rw [h] at q; cases q
  · rcases u.pn b h with q | q | q
    · exact t.pn b q
    · rcases s b q with z | z
      · exact .inr (.inl z)
      · exact .inr (.inr z)
    · by_cases hw : w b
      · exact .inr (.inl hw)
      · refine .inr (.inr ?_)
        cases e : H b with
        | none => rfl
        | some o => rw [t.keep b o e hw] at q; cases q
theorem Sub.trans {H H1 : Hp} {f f1 f2 : Ps} {P P1 : Ps} {w : Ps} (a : Sub H f1 f) (b : Sub H1 f2 f1) (t : Tr P H w P1 H1) (hw : ∀ b, w b → f b) : Sub H f2 f := fun c h => by
  rcases b c h with q | q
  · exact a c q
  · by_cases hc : w c
    · exact .inl (hw c hc)
    · refine .inr ?_
      cases e : H c with
      | none => rfl
      | some o => rw [t.keep c o e hc] at q; cases q
theorem Tr.weak {P P' : Ps} {H H' : Hp} {w w' : Ps} (t : Tr P H w P' H') (h : ∀ b, w b → w' b) : Tr P H w' P' H' :=
  ⟨fun b o e n => t.keep b o e fun z => n (h b z), t.pm, fun b z => (t.pn b z).imp id fun z => z.imp (h b) id⟩
section
variable {K : PySem.W.Frag} {Cl : Nat → Addr} {H H' : Hp} {P P' : Ps} {w : Ps}
theorem R.tr {v : Val} {V : V} {f : Ps} (h : R K Cl P H v V f) (t : Tr P H w P' H') (d : dis f w) (pw : dis P w) : R K Cl P' H' v V f := by
  refine h.frame (fun b o e q => t.keep b o e fun z => ?_) fun b q => ⟨fun z => ?_, t.pm b⟩
  · rcases q with q | q
    · exact pw b q z
    · exact d b q z
  · rcases q with q | q
    · exact q
    · rcases t.pn b z with y | y | y
      · exact y
      · exact (d b q y).elim
      · exact ((h.live b q).1 y).elim
theorem Rs.tr {vs : List Val} {Vs : List V} {f : Ps} (h : Rs K Cl P H vs Vs f) (t : Tr P H w P' H') (d : dis f w) (pw : dis P w) : Rs K Cl P' H' vs Vs f := by
  refine h.frame (fun b o e q => t.keep b o e fun z => ?_) fun b q => ⟨fun z => ?_, t.pm b⟩
  · rcases q with q | q
    · exact pw b q z
    · exact d b q z
  · rcases q with q | q
    · exact q
    · rcases t.pn b z with y | y | y
      · exact y
      · exact (d b q y).elim
      · exact ((h.live b q).1 y).elim
theorem RE.tr {ρ : Env} {σ : St} {f : Ps} (h : RE K Cl P H ρ σ f) (t : Tr P H w P' H') (d : dis f w) (pw : dis P w) : RE K Cl P' H' ρ σ f := by
  refine h.frame (fun b o e q => t.keep b o e fun z => ?_) fun b q => ⟨fun z => ?_, t.pm b⟩
  · rcases q with q | q
    · exact pw b q z
    · exact d b q z
  · rcases q with q | q
    · exact q
    · rcases t.pn b z with y | y | y
      · exact y
      · exact (d b q y).elim
      · exact ((h.live b q).1 y).elim
end

section
variable (K : PySem.W.Frag) (Cl ClX : Nat → Addr)
/-- the value stands at this place of the names' values -/
def PlcOk (H : Hp) (ρ : Env) (σ : St) (v : Val) (V : V) (i : Nat) (p : List Nat) : Prop :=
  ∃ v0 W, ρ[i]? = some (some v0) ∧ σ[i]? = some (some W) ∧ getp v0 p = some v ∧ At K Cl H v0 W p V
def SrcOk (H : Hp) (ρ : Env) (σ : St) (f fv : Ps) (v : Val) (V : V) : Src → Prop
  | .tmp => dis fv f
  | .brw => True
  | .plc i p => PlcOk K Cl H ρ σ v V i p
structure Out (P : Ps) (H : Hp) (f : Ps) (e : Bool) (ρ' : Env) (σ : St) (P' : Ps) (H' : Hp) (f' : Ps) : Prop where
  tr : Tr P H (wr e f) P' H'
  re : RE K Cl P' H' ρ' σ f'
  sub : Sub H f' f
  same : e = false → f' = f
  lv : Lv P' H'
def SbOk (H : Hp) (fv f : Ps) : Src → Prop
  | .tmp => Sub H fv f
  | _ => True
def Out1 (P : Ps) (H : Hp) (f : Ps) (e : Bool) (ρ' : Env) (σ : St) (v : Val) (s : Src) (V : V) (H' : Hp) : Prop :=
  ∃ P' f' fv, Out K Cl P H f e ρ' σ P' H' f' ∧ R K Cl P' H' v V fv ∧ SrcOk K Cl H' ρ' σ f' fv v V s ∧ SbOk H fv f s
def XcOk (H : Hp) (x : Xc) (c : Value) (d : Option Addr) : Prop :=
  c = .ref (ClX x.c) ∧ match x.slot with
    | none => d = none
    | some i => ∃ a, d = some a ∧ H a = some (.xd [("slot", .int i)])
def OutX (P : Ps) (H : Hp) (f : Ps) (e : Bool) (ρ' : Env) (σ : St) (x : Xc) (c : Value) (d : Option Addr) (H' : Hp) : Prop :=
  ∃ P' f', Out K Cl P H f e ρ' σ P' H' f' ∧ XcOk ClX H' x c d
/-- an expression, by what it comes to -/
def tV (W : WX) (e : Bool) (s : Env → Res (Val × Src)) : TE := fun σ H Q => ∃ P ρ f, RE K Cl P H ρ σ f ∧ Lv P H ∧ match s ρ with
  | .ok (v, sr) ρ' => ∀ V H', Out1 K Cl P H f e ρ' σ v sr V H' → Q V H'
  | .exc x ρ' => ∀ c d H', OutX K Cl ClX P H f e ρ' σ x c d H' → W c d σ H'
  | .bad => False
/-- a test -/
def tVT (W : WX) (e : Bool) (s : Env → Res (Val × Src)) : TT := fun σ H Q => ∃ P ρ f, RE K Cl P H ρ σ f ∧ Lv P H ∧ match s ρ with
  | .ok (v, _) ρ' => ∃ c, v = .bl c ∧ ∀ P' H' f', Out K Cl P H f e ρ' σ P' H' f' → Q c H'
  | .exc x ρ' => ∀ c d H', OutX K Cl ClX P H f e ρ' σ x c d H' → W c d σ H'
  | .bad => False
def cur (ρ : Env) : Val × Src → Option (Val × Src)
  | (_, .plc i []) => (match ρ[i]? with
    | some (some v) => some (v, .plc i [])
    | _ => none)
  | a => some a
def okSrc : Src → Bool → Bool
  | .tmp, _ => true
  | .plc _ [], _ => true
  | _, q => q
/-- the arguments' values, F: the cells of those that are nobody's -/
def ArgsOk (P : Ps) (H : Hp) (ρ : Env) (σ : St) (f : Ps) : List (Val × Src) → List V → Ps → Prop
  | [], Vs, F => Vs = [] ∧ F = emp
  | (v, s) :: r, Vs, F => ∃ V Vs' fv g, Vs = V :: Vs' ∧ R K Cl P H v V fv ∧ ArgsOk P H ρ σ f r Vs' g ∧ match s with
    | .tmp => dis fv f ∧ dis fv g ∧ F = uni fv g
    | .brw => F = g
    | .plc i p => PlcOk K Cl H ρ σ v V i p ∧ F = g
def OutN (P : Ps) (H : Hp) (f : Ps) (e : Bool) (ρ' : Env) (σ : St) (as : List (Val × Src)) (Vs : List V) (H' : Hp) : Prop :=
  ∃ P' f' F, Out K Cl P H f e ρ' σ P' H' f' ∧ ArgsOk K Cl P' H' ρ' σ f' as Vs F ∧ dis F f' ∧ Sub H F f
def tVs (W : WX) (e : Bool) (s : Env → Res (List (Val × Src))) : TA := fun σ H Q => ∃ P ρ f, RE K Cl P H ρ σ f ∧ Lv P H ∧ match s ρ with
  | .ok as ρ' => ∀ Vs H', OutN K Cl P H f e ρ' σ as Vs H' → Q Vs H'
  | .exc x ρ' => ∀ c d H', OutX K Cl ClX P H f e ρ' σ x c d H' → W c d σ H'
  | .bad => False
end
section
variable {K : PySem.W.Frag} {Cl ClX : Nat → Addr} {H H' H1 : Hp} {P P' P1 : Ps} {f f1 f' : Ps} {ρ ρ1 ρ' : Env} {σ : St} {e e1 : Bool}
theorem lv_dis (l : RE K Cl P H ρ σ f) : dis P f := fun b x y => (l.live b y).2 x
theorem wr_sub (e : Bool) (f : Ps) : ∀ b, wr e f b → f b := by
  intro b h
  unfold wr at h
  split at h
  · exact h
  · exact h.elim
theorem wr_dis (l : RE K Cl P H ρ σ f) (e : Bool) : dis P (wr e f) := fun b x y => lv_dis l b x (wr_sub e f b y)
theorem Out.refl (l : RE K Cl P H ρ σ f) (lv : Lv P H) : Out K Cl P H f e ρ σ P H f := ⟨Tr.refl _ _ _, l, Sub.refl _ _, fun _ => rfl, lv⟩
theorem Out.trans (a : Out K Cl P H f e ρ1 σ P1 H1 f1) (b : Out K Cl P1 H1 f1 e1 ρ' σ P' H' f') : Out K Cl P H f (e || e1) ρ' σ P' H' f' := by
  have s0 : Sub H (wr e1 f1) (wr (e || e1) f) := fun c h => by
    have h1 := wr_sub _ _ c h
    cases e1 with
    | false => exact (show False from h).elim
    | true =>
      rcases a.sub c h1 with z | z
      · refine .inl ?_
        unfold wr
        simp only [Bool.or_true, if_true]
        exact z
      · exact .inr z
  refine ⟨(a.tr.weak fun c h => ?_).trans b.tr s0, b.re, a.sub.trans b.sub a.tr (wr_sub _ _), fun h => ?_, b.lv⟩
  · cases e with
    | false => exact (show False from h).elim
    | true => exact h
  · simp only [Bool.or_eq_false_iff] at h
    rw [b.same h.2, a.same h.1]
/-- a place stays where what was there is left as it is -/
theorem PlcOk.keep {v : Val} {V : V} {i : Nat} {p : List Nat} (h : PlcOk K Cl H ρ σ v V i p) (k : ∀ b o, H b = some o → H' b = some o) : PlcOk K Cl H' ρ σ v V i p := by
  obtain ⟨v0, W, e1, e2, g, a⟩ := h
  exact ⟨v0, W, e1, e2, g, a.frame k⟩
theorem ArgsOk.keep : ∀ {as : List (Val × Src)} {Vs : List V} {F : Ps}, ArgsOk K Cl P H ρ σ f as Vs F → Tr P H emp P' H' → ArgsOk K Cl P' H' ρ σ f as Vs F
  | [], _, _, h, _ => h
  | (v, s) :: r, Vs, F, h, t => by
    simp only [ArgsOk] at h ⊢
    obtain ⟨V, Vs', fv, g, rfl, h1, h2, h3⟩ := h
    refine ⟨V, Vs', fv, g, rfl, h1.tr t (dis_emp _) (dis_emp _), h2.keep t, ?_⟩
    cases s with
    | tmp => exact h3
    | brw => exact h3
    | plc i p => exact ⟨h3.1.keep fun b o e => t.keep b o e (fun z => z), h3.2⟩
theorem PE.le {X : Cx} {pe : Expr} {t t' : TE} (h : PE X pe t) (i : ∀ σ H Q, t' σ H Q → t σ H Q) : PE X pe t' := ⟨fun pins s σ H Q I q => h.run pins s σ H Q I (i _ _ _ q)⟩
theorem PT.le {X : Cx} {pe : Expr} {t t' : TT} (h : PT X pe t) (i : ∀ σ H Q, t' σ H Q → t σ H Q) : PT X pe t' := ⟨fun pins s σ H Q I q => h.run pins s σ H Q I (i _ _ _ q)⟩
theorem PW.le {X : Cx} {pe : Expr} {t t' : TT} (h : PW X pe t) (i : ∀ σ H Q, t' σ H Q → t σ H Q) : PW X pe t' := ⟨fun w pins s σ H Q I q => h.run w pins s σ H Q I (i _ _ _ q)⟩
theorem PA.le {X : Cx} {pe : List Expr} {t t' : TA} (h : PA X pe t) (i : ∀ σ H Q, t' σ H Q → t σ H Q) : PA X pe t' := ⟨fun pos pins s σ H Q I q => h.run pos pins s σ H Q I (i _ _ _ q)⟩
theorem PS.le {X : Cx} {pe : Stmt} {t t' : TS} (h : PS X pe t) (i : ∀ D σ H, t' D σ H → t D σ H) : PS X pe t' := ⟨fun pins s σ H D I q => h.run pins s σ H D I (i _ _ _ q)⟩
theorem PSs.le {X : Cx} {pe : List Stmt} {t t' : TS} (h : PSs X pe t) (i : ∀ D σ H, t' D σ H → t D σ H) : PSs X pe t' := ⟨fun pins s σ H D I q => h.run pins s σ H D I (i _ _ _ q)⟩
end

/-! ### argument lists -/
def argsNil : Env → Res (List (Val × Src)) := fun ρ => .ok [] ρ
/-- the first one, then the rest; q: the rest writes nothing -/
def argsCons (q : Bool) (s : Env → Res (Val × Src)) (r : Env → Res (List (Val × Src))) : Env → Res (List (Val × Src)) := fun ρ =>
  (s ρ).bind fun a ρ1 => if okSrc a.2 q = true then (r ρ1).bind fun as ρ2 => (match cur ρ2 a with
    | some b => .ok (b :: as) ρ2
    | none => .bad) else .bad
/-- where the expression's values stay as they are, so does the environment -/
def Quiet {α : Type} (e : Bool) (s : Env → Res α) : Prop := e = false → ∀ ρ, match s ρ with
  | .ok _ ρ' => ρ' = ρ
  | .exc _ ρ' => ρ' = ρ
  | .bad => True
section
variable {K : PySem.W.Frag} {Cl ClX : Nat → Addr} {X : Cx} {W : WX}
theorem vs_nil : PA X [] (tVs K Cl ClX W false argsNil) := PA.le (pa_nil (X := X)) fun σ H Q h => by
  obtain ⟨P, ρ, f, l, lv, q⟩ := h
  exact q [] H ⟨P, f, emp, Out.refl l lv, ⟨rfl, rfl⟩, emp_dis _, fun _ z => z.elim⟩
theorem cons_ok {e e2 : Bool} {s : Env → Res (Val × Src)} {r : Env → Res (List (Val × Src))} (qr : Quiet e2 r) {σ : St} {H : Hp} {Q : List V → Hp → Prop} (h : tVs K Cl ClX W (e || e2) (argsCons (!e2) s r) σ H Q) :
    tCons (tV K Cl ClX W e s) (tVs K Cl ClX W e2 r) σ H Q := by
  obtain ⟨P, ρ, f, l, lv, q⟩ := h
  refine ⟨P, ρ, f, l, lv, ?_⟩
  unfold argsCons at q
  cases hs : s ρ with
  | bad => rw [hs] at q; exact q
  | exc x ρ1 =>
    rw [hs] at q
    intro c d H' o
    obtain ⟨P', f', o, xo⟩ := o
    refine q c d H' ⟨P', f', ?_, xo⟩
    refine ⟨o.tr.weak fun b z => ?_, o.re, o.sub, fun z => o.same (by simp only [Bool.or_eq_false_iff] at z; exact z.1), o.lv⟩
    cases e with
    | false => exact (show False from z).elim
    | true => exact z
  | ok a ρ1 =>
    obtain ⟨v, sr⟩ := a
    rw [hs] at q
    simp only [Res.bind_ok] at q
    intro V H1 o
    obtain ⟨P1, f1, fv, o1, r1, s1, sb1⟩ := o
    refine ⟨P1, ρ1, f1, o1.re, o1.lv, ?_⟩
    by_cases hok : okSrc sr (!e2) = true
    · rw [if_pos hok] at q
      cases hr : r ρ1 with
      | bad => rw [hr] at q; exact q
      | exc x ρ2 =>
        rw [hr] at q
        intro c d H' o
        obtain ⟨P', f', o, xo⟩ := o
        exact q c d H' ⟨P', f', o1.trans o, xo⟩
      | ok as ρ2 =>
        rw [hr] at q
        simp only [Res.bind_ok] at q
        intro Vs H2 o
        obtain ⟨P2, f2, F, o2, a2, d2, sb2⟩ := o
        have pd : dis P1 (wr e2 f1) := wr_dis o1.re e2
        have o12 := o1.trans o2
        cases sr with
        | tmp =>
          have s1 : dis fv f1 := s1
          have r2 : R K Cl P2 H2 v V fv := r1.tr o2.tr (fun b x y => s1 b x (wr_sub _ _ b y)) pd
          have lvv : ∀ b, fv b → H1 b ≠ none := fun b z => (r1.live b z).1
          have d3 : dis fv f2 := fun b x y => by
            rcases o2.sub b y with z | z
            · exact s1 b x z
            · exact lvv b x z
          have d4 : dis fv F := fun b x y => by
            rcases sb2 b y with z | z
            · exact s1 b x z
            · exact lvv b x z
          refine q (V :: Vs) H2 ⟨P2, f2, uni fv F, o12, ⟨V, Vs, fv, F, rfl, r2, a2, d3, d4, rfl⟩, fun b x y => ?_, fun b x => ?_⟩
          · rcases x with x | x
            · exact d3 b x y
            · exact d2 b x y
          · rcases x with x | x
            · exact sb1 b x
            · exact (o1.sub.trans sb2 o1.tr (wr_sub _ _)) b x
        | brw =>
          have he : e2 = false := by simpa [okSrc] using hok
          subst he
          have r2 : R K Cl P2 H2 v V fv := r1.tr o2.tr (dis_emp _) (dis_emp _)
          exact q (V :: Vs) H2 ⟨P2, f2, F, o12, ⟨V, Vs, fv, F, rfl, r2, a2, rfl⟩, d2, o1.sub.trans sb2 o1.tr (wr_sub _ _)⟩
        | plc i p =>
          cases p with
          | nil =>
            obtain ⟨v0, W0, e1, e2', g, at_⟩ := s1
            simp only [At] at at_
            subst at_
            -- the name's value now
            cases hc : ρ2[i]? with
            | none =>
              have := o2.re.length
              have h2 := o1.re.length
              obtain ⟨hi, _⟩ := List.getElem?_eq_some_iff.mp e1
              have h3 := List.getElem?_eq_none_iff.mp hc
              omega
            | some w0 =>
              cases w0 with
              | none =>
                simp only [cur, hc] at q
              | some w =>
                obtain ⟨W1, g1, g2, q1, q2, q3, q4, _⟩ := o2.re.pick hc
                rw [e2'] at q1
                cases q1
                simp only [cur, hc] at q
                exact q (V :: Vs) H2 ⟨P2, f2, F, o12, ⟨V, Vs, g1, F, rfl, q2, a2, ⟨w, V, hc, e2', rfl, rfl⟩, rfl⟩, d2, o1.sub.trans sb2 o1.tr (wr_sub _ _)⟩
          | cons j p =>
            have he : e2 = false := by simpa [okSrc] using hok
            subst he
            have r2 : R K Cl P2 H2 v V fv := r1.tr o2.tr (dis_emp _) (dis_emp _)
            have eρ : ρ2 = ρ1 := by have := qr rfl ρ1; rw [hr] at this; exact this
            subst eρ
            exact q (V :: Vs) H2 ⟨P2, f2, F, o12, ⟨V, Vs, fv, F, rfl, r2, a2, PlcOk.keep s1 (fun b o e => o2.tr.keep b o e (fun z => z)), rfl⟩, d2, o1.sub.trans sb2 o1.tr (wr_sub _ _)⟩
    · rw [if_neg hok] at q
      exact q.elim
end
end VS

namespace VS
open PySem L2

/-! ### what is done with values that are at hand -/
section
variable (K : PySem.W.Frag) (Cl : Nat → Addr)
def Ws (P : Ps) (H : Hp) : List Val → List V → Prop
  | [], Vs => Vs = []
  | v :: vs, Vs => ∃ V Vs' f, Vs = V :: Vs' ∧ R K Cl P H v V f ∧ Ws P H vs Vs'
/-- what a new value is asked to be -/
def Nw (P : Ps) (H : Hp) (v : Val) (Q : VK) : Prop := ∀ V P' H' fv, Tr P H emp P' H' → R K Cl P' H' v V fv → (∀ b, fv b → H b = none) → Lv P' H' → Q V H'
def PrimOk (r : List V → Hp → VK → Prop) (g : List Val → Option Val) : Prop :=
  ∀ P H vs Vs Q v, Ws K Cl P H vs Vs → Lv P H → g vs = some v → Nw K Cl P H v Q → r Vs H Q
end
def prim (g : List Val → Option Val) (s : Env → Res (List (Val × Src))) : Env → Res (Val × Src) := fun ρ =>
  (s ρ).bind fun as ρ1 => match g (as.map (·.1)) with
    | some v => .ok (v, .tmp) ρ1
    | none => .bad
section
variable {K : PySem.W.Frag} {Cl ClX : Nat → Addr} {X : Cx} {W : WX} {P : Ps} {H : Hp}
theorem ArgsOk.ws : ∀ {as : List (Val × Src)} {Vs : List V} {F f : Ps} {ρ : Env} {σ : St}, ArgsOk K Cl P H ρ σ f as Vs F → Ws K Cl P H (as.map (·.1)) Vs
  | [], _, _, _, _, _, h => h.1
  | (v, s) :: r, _, _, _, _, _, h => by
    simp only [ArgsOk] at h
    obtain ⟨V, Vs', fv, g, rfl, h1, h2, _⟩ := h
    exact ⟨V, Vs', fv, rfl, h1, h2.ws⟩
theorem prim_ok {e : Bool} {s : Env → Res (List (Val × Src))} {r : List V → Hp → VK → Prop} {g : List Val → Option Val} (pr : PrimOk K Cl r g) {σ : St} {Q : VK} (h : tV K Cl ClX W e (prim g s) σ H Q) :
    tVs K Cl ClX W e s σ H fun Vs H1 => r Vs H1 Q := by
  obtain ⟨P, ρ, f, l, lv, q⟩ := h
  refine ⟨P, ρ, f, l, lv, ?_⟩
  unfold prim at q
  cases hs : s ρ with
  | bad => rw [hs] at q; exact q
  | exc x ρ1 => rw [hs] at q; exact q
  | ok as ρ1 =>
    rw [hs] at q
    simp only [Res.bind_ok] at q
    intro Vs H1 o
    obtain ⟨P1, f1, F, o1, a1, d1, sb1⟩ := o
    cases hg : g (as.map (·.1)) with
    | none => rw [hg] at q; exact q.elim
    | some v =>
      rw [hg] at q
      refine pr P1 H1 _ Vs Q v a1.ws o1.lv hg fun V P' H' fv t r nw lv' => q V H' ?_
      have o2 : Out K Cl P1 H1 f1 false ρ1 σ P' H' f1 := ⟨t, o1.re.tr t (dis_emp _) (dis_emp _), Sub.refl _ _, fun _ => rfl, lv'⟩
      have o12 := o1.trans o2
      rw [Bool.or_false] at o12
      refine ⟨P', f1, fv, o12, r, fun b x y => (o1.re.live b y).1 (nw b x), fun b x => ?_⟩
      by_cases hb : wr e f b
      · exact .inl (wr_sub _ _ b hb)
      · refine .inr ?_
        cases z : H b with
        | none => rfl
        | some o => have := o1.tr.keep b o z hb; rw [nw b x] at this; cases this
/-- a number, a text .. -/
theorem Nw.sc {v : Val} {V : V} {Q : VK} (n : Nw K Cl P H v Q) (lv : Lv P H) (r : R K Cl P H v V emp) : Q V H := n V P H emp (Tr.refl _ _ _) r (fun _ z => z.elim) lv
theorem Nw.bl {b : Bool} {Q : VK} (n : Nw K Cl P H (.bl b) Q) (lv : Lv P H) : Q (.bl b) H := n.sc lv ⟨rfl, rfl⟩
theorem Nw.int {b : Int} {Q : VK} (n : Nw K Cl P H (.int b) Q) (lv : Lv P H) : Q (.int b) H := n.sc lv ⟨rfl, rfl⟩
theorem Nw.str {b : Str} {Q : VK} (n : Nw K Cl P H (.str b) Q) (lv : Lv P H) : Q (.str b) H := n.sc lv ⟨rfl, rfl⟩
theorem tr_upd {p : Addr} {o : HO} (h : H p = none) : Tr P H emp P (upd H p o) := ⟨fun b o' e _ => by rw [upd_ne (ne_of_none e h)]; exact e, fun _ z => z, fun _ z => .inl z⟩
theorem tr_updP {p : Addr} {o : HO} (h : H p = none) : Tr P H emp (uni P (one p)) (upd H p o) := ⟨fun b o' e _ => by rw [upd_ne (ne_of_none e h)]; exact e, fun _ z => .inl z, fun b z => z.imp id fun z => .inr (by rw [show b = p from z]; exact h)⟩
theorem lv_upd {p : Addr} {o : HO} (lv : Lv P H) : Lv P (upd H p o) := fun b h => by
  unfold upd
  split
  · simp
  · exact lv b h
/-- a new list -/
theorem Nw.lst {vs : List Val} {Vs : List V} {Q : VK} (n : Nw K Cl P H (.node (.lst false) vs) Q) (lv : Lv P H) (r : Rs K Cl P H vs Vs emp) {p : Addr} (h : H p = none) : Q (.ref p) (upd H p (.lst Vs)) := by
  refine n (.ref p) P _ (one p) (tr_upd h) ⟨p, Vs, one p, emp, rfl, ⟨upd_same, rfl⟩, r.tr (tr_upd h) (dis_emp _) (dis_emp _), ?_⟩ (fun b z => by rw [show b = p from z]; exact h) (lv_upd lv)
  rw [if_pos (show (Tag.lst false).own = true from rfl)]
  exact ⟨(uni_emp _).symm, dis_emp _, fun b z y => lv b y (by rw [show b = p from z]; exact h)⟩
/-- a new tuple of pure items -/
theorem Nw.tup {vs : List Val} {Vs : List V} {Q : VK} (n : Nw K Cl P H (.node .tup vs) Q) (lv : Lv P H) (r : Rs K Cl P H vs Vs emp) {p : Addr} (h : H p = none) : Q (.ref p) (upd H p (.tup Vs)) := by
  refine n (.ref p) _ _ emp (tr_updP h) ⟨p, Vs, one p, emp, rfl, ⟨upd_same, rfl⟩, r.tr (tr_updP h) (dis_emp _) (dis_emp _), ?_⟩ (fun b z => z.elim) fun b z => ?_
  · rw [if_neg (by simp [Tag.own])]
    exact ⟨rfl, fun b z => .inr z⟩
  · rcases z with z | z
    · exact lv_upd lv b z
    · rw [show b = p from z, upd_same]; simp

/-! ### reading a sequence -/
def seqOf : Val → Option (List Val)
  | .node .tup vs => some vs
  | .node .ktup vs => some vs
  | .node .ptup vs => some vs
  | .node .rol vs => some vs
  | .node (.lst _) vs => some vs
  | _ => none
def lseqOf : Val → Option (List Val)
  | .node .rol vs => some vs
  | .node (.lst _) vs => some vs
  | _ => none
theorem sqT_lift {a : Addr} {xs : List V} (h : SqT K (fun _ => none) a xs) : SqT K H a xs := by
  rcases h with (h | ⟨o, h⟩) | h
  · cases h
  · cases h
  · exact .inr h
theorem sqL_lift {a : Addr} {xs : List V} (h : SqL K (fun _ => none) a xs) : SqL K H a xs := by
  rcases h with (h | ⟨o, h⟩) | h
  · cases h
  · cases h
  · exact .inr h
theorem R.node_items {t : Tag} {vs : List Val} {V : V} {f : Ps} (h : R K Cl P H (.node t vs) V f) : ∃ a Vs x g, V = .ref a ∧ Hold K Cl H t a Vs x ∧ Rs K Cl P H vs Vs g ∧ (∀ b, g b → f b) := by
  simp only [R] at h
  obtain ⟨a, Vs, x, g, rfl, hh, hs, hf⟩ := h
  refine ⟨a, Vs, x, g, rfl, hh, hs, fun b z => ?_⟩
  split at hf
  · rw [hf.1]; exact .inr z
  · rw [hf.1]; exact z
theorem R.lseq {v : Val} {vs : List Val} {V : V} {f : Ps} (h : R K Cl P H v V f) (e : lseqOf v = some vs) : ∃ a Vs g, V = .ref a ∧ SqL K H a Vs ∧ Rs K Cl P H vs Vs g ∧ (∀ b, g b → f b) := by
  unfold lseqOf at e
  split at e
  · cases e
    obtain ⟨a, Vs, x, g, rfl, hh, hs, hg⟩ := h.node_items
    exact ⟨a, Vs, g, rfl, .inl hh.1, hs, hg⟩
  · cases e
    obtain ⟨a, Vs, x, g, rfl, hh, hs, hg⟩ := h.node_items
    exact ⟨a, Vs, g, rfl, SqL.of hh.1, hs, hg⟩
  · cases e
theorem R.tseq {vs : List Val} {V : V} {f : Ps} (h : R K Cl P H (.node .tup vs) V f) : ∃ a Vs g, V = .ref a ∧ SqT K H a Vs ∧ Rs K Cl P H vs Vs g ∧ (∀ b, g b → f b) := by
  obtain ⟨a, Vs, x, g, rfl, hh, hs, hg⟩ := h.node_items
  exact ⟨a, Vs, g, rfl, SqT.of hh.1, hs, hg⟩
theorem R.kseq {vs : List Val} {V : V} {f : Ps} (h : R K Cl P H (.node .ktup vs) V f) : ∃ a Vs g, V = .ref a ∧ SqT K H a Vs ∧ Rs K Cl P H vs Vs g ∧ (∀ b, g b → f b) := by
  obtain ⟨a, Vs, x, g, rfl, hh, hs, hg⟩ := h.node_items
  exact ⟨a, Vs, g, rfl, sqT_lift hh.1, hs, hg⟩
theorem R.pseq {vs : List Val} {V : V} {f : Ps} (h : R K Cl P H (.node .ptup vs) V f) : ∃ a Vs g, V = .ref a ∧ (∃ o, H a = some (.frz o (.tup Vs)) ∧ o.dict = none) ∧ Rs K Cl P H vs Vs g ∧ (∀ b, g b → f b) := by
  obtain ⟨a, Vs, x, g, rfl, hh, hs, hg⟩ := h.node_items
  exact ⟨a, Vs, g, rfl, hh.1, hs, hg⟩
theorem SqT.frz {a : Addr} {xs : List V} (h : ∃ o, H a = some (.frz o (.tup xs)) ∧ o.dict = none) : SqT K H a xs := .inl (.inr ⟨h.choose, h.choose_spec.1⟩)
theorem R.seq {v : Val} {vs : List Val} {V : V} {f : Ps} (h : R K Cl P H v V f) (e : seqOf v = some vs) : ∃ a Vs g, V = .ref a ∧ (SqL K H a Vs ∨ SqT K H a Vs) ∧ Rs K Cl P H vs Vs g ∧ (∀ b, g b → f b) := by
  unfold seqOf at e
  split at e
  · cases e
    obtain ⟨a, Vs, g, rfl, hh, r⟩ := h.tseq
    exact ⟨a, Vs, g, rfl, .inr hh, r⟩
  · cases e
    obtain ⟨a, Vs, g, rfl, hh, r⟩ := h.kseq
    exact ⟨a, Vs, g, rfl, .inr hh, r⟩
  · cases e
    obtain ⟨a, Vs, g, rfl, hh, r⟩ := h.pseq
    exact ⟨a, Vs, g, rfl, .inr (SqT.frz hh), r⟩
  · cases e
    obtain ⟨a, Vs, g, rfl, hh, r⟩ := h.lseq rfl
    exact ⟨a, Vs, g, rfl, .inl hh, r⟩
  · cases e
    obtain ⟨a, Vs, g, rfl, hh, r⟩ := h.lseq rfl
    exact ⟨a, Vs, g, rfl, .inl hh, r⟩
  · cases e
theorem Rs.emp {vs : List Val} {Vs : List V} {g : Ps} (h : Rs K Cl P H vs Vs g) (p : pures vs = true) : Rs K Cl P H vs Vs emp := by
  have := h.pure_emp p
  rw [this] at h
  exact h
theorem Rs.append : ∀ {vs ws : List Val} {Vs Us : List V}, Rs K Cl P H vs Vs VS.emp → Rs K Cl P H ws Us VS.emp → Rs K Cl P H (vs ++ ws) (Vs ++ Us) VS.emp
  | [], ws, Vs, Us, h, h' => by simp only [Rs] at h; rw [h.1]; exact h'
  | v :: vs, ws, Vs, Us, h, h' => by
    simp only [Rs] at h
    obtain ⟨V, Vs', f1, f2, rfl, h1, h2, hd, e⟩ := h
    have e1 : f1 = VS.emp := eq_emp fun b z => by have : VS.emp b := by rw [e]; exact .inl z
                                                  exact this
    have e2 : f2 = VS.emp := eq_emp fun b z => by have : VS.emp b := by rw [e]; exact .inr z
                                                  exact this
    subst e1 e2
    simp only [List.cons_append, Rs]
    exact ⟨V, _, _, _, rfl, h1, Rs.append h2 h', dis_emp _, (uni_emp _).symm⟩
theorem pures_iff : ∀ {vs : List Val}, pures vs = true ↔ ∀ v ∈ vs, v.pure = true
  | [] => by simp [pures]
  | v :: vs => by simp [pures, pures_iff (vs := vs)]
theorem Rs.drop : ∀ {vs : List Val} {Vs : List V} {g : Ps} (n : Nat), Rs K Cl P H vs Vs g → ∃ g', Rs K Cl P H (vs.drop n) (Vs.drop n) g'
  | [], Vs, g, n, h => by simp only [Rs] at h; obtain ⟨rfl, rfl⟩ := h; exact ⟨VS.emp, by simp [Rs]⟩
  | v :: vs, Vs, g, 0, h => ⟨g, by simpa using h⟩
  | v :: vs, Vs, g, n + 1, h => by
    simp only [Rs] at h
    obtain ⟨V, Vs', f1, f2, rfl, h1, h2, hd, e⟩ := h
    simpa using Rs.drop n h2
theorem Rs.take : ∀ {vs : List Val} {Vs : List V} {g : Ps} (n : Nat), Rs K Cl P H vs Vs g → ∃ g', Rs K Cl P H (vs.take n) (Vs.take n) g' ∧ ∀ b, g' b → g b
  | [], Vs, g, n, h => by simp only [Rs] at h; obtain ⟨rfl, rfl⟩ := h; exact ⟨VS.emp, by simp [Rs], fun _ z => z⟩
  | v :: vs, Vs, g, 0, h => ⟨VS.emp, by simp [Rs], fun _ z => z.elim⟩
  | v :: vs, Vs, g, n + 1, h => by
    simp only [Rs] at h
    obtain ⟨V, Vs', f1, f2, rfl, h1, h2, hd, rfl⟩ := h
    obtain ⟨g', q, s⟩ := Rs.take n h2
    refine ⟨uni f1 g', ?_, fun b z => z.imp id (s b)⟩
    simp only [List.take_succ_cons, Rs]
    exact ⟨V, _, f1, g', rfl, h1, q, fun a x y => hd a x (s a y), rfl⟩

/-! ### data -/
mutual
def toD : Val → Option PyData
  | .non => some .none
  | .bl b => some (.bool b)
  | .int i => some (.int i)
  | .str x => some (.str x)
  | .node .tup vs => (toDs vs).map .tuple
  | .node .ktup vs => (toDs vs).map .tuple
  | .node .ptup vs => (toDs vs).map .tuple
  | .node .rol vs => (toDs vs).map .list
  | .node (.lst _) vs => (toDs vs).map .list
  | .node _ _ => none
def toDs : List Val → Option (List PyData)
  | [] => some []
  | v :: vs => (toD v).bind fun d => (toDs vs).map fun ds => d :: ds
end
mutual
theorem R.dp : ∀ {v : Val} {V : V} {f : Ps} {d : PyData}, R K Cl P H v V f → toD v = some d → Dp K H V d
  | .non, _, _, _, h, e => by simp only [R] at h; simp only [toD, Option.some.injEq] at e; subst e; rw [h.1]; exact .non
  | .bl _, _, _, _, h, e => by simp only [R] at h; simp only [toD, Option.some.injEq] at e; subst e; rw [h.1]; exact .bl _
  | .int _, _, _, _, h, e => by simp only [R] at h; simp only [toD, Option.some.injEq] at e; subst e; rw [h.1]; exact .int _
  | .str _, _, _, _, h, e => by simp only [R] at h; simp only [toD, Option.some.injEq] at e; subst e; rw [h.1]; exact .str _
  | .node .tup vs, _, _, _, h, e => by
    simp only [toD, Option.map_eq_some_iff] at e
    obtain ⟨ds, e, rfl⟩ := e
    obtain ⟨a, Vs, g, rfl, hh, r, _⟩ := h.tseq
    exact .tup hh (Rs.dp r e)
  | .node .ktup vs, _, _, _, h, e => by
    simp only [toD, Option.map_eq_some_iff] at e
    obtain ⟨ds, e, rfl⟩ := e
    obtain ⟨a, Vs, g, rfl, hh, r, _⟩ := h.kseq
    exact .tup hh (Rs.dp r e)
  | .node .ptup vs, _, _, _, h, e => by
    simp only [toD, Option.map_eq_some_iff] at e
    obtain ⟨ds, e, rfl⟩ := e
    obtain ⟨a, Vs, g, rfl, hh, r, _⟩ := h.pseq
    exact .tup (SqT.frz hh) (Rs.dp r e)
  | .node .rol vs, _, _, _, h, e => by
    simp only [toD, Option.map_eq_some_iff] at e
    obtain ⟨ds, e, rfl⟩ := e
    obtain ⟨a, Vs, g, rfl, hh, r, _⟩ := h.lseq rfl
    exact .lst hh (Rs.dp r e)
  | .node (.lst z) vs, _, _, _, h, e => by
    simp only [toD, Option.map_eq_some_iff] at e
    obtain ⟨ds, e, rfl⟩ := e
    obtain ⟨a, Vs, g, rfl, hh, r, _⟩ := h.lseq rfl
    exact .lst hh (Rs.dp r e)
  | .node (.dct _ _) _, _, _, _, _, e => by simp [toD] at e
  | .node (.dtt _ _) _, _, _, _, _, e => by simp [toD] at e
  | .node (.ins _ _ _) _, _, _, _, _, e => by simp [toD] at e
theorem Rs.dp : ∀ {vs : List Val} {Vs : List V} {f : Ps} {ds : List PyData}, Rs K Cl P H vs Vs f → toDs vs = some ds → DpAll K H Vs ds
  | [], _, _, _, h, e => by simp only [Rs] at h; simp only [toDs, Option.some.injEq] at e; subst e; rw [h.1]; exact .nil
  | v :: vs, _, _, _, h, e => by
    simp only [Rs] at h
    obtain ⟨V, Vs', f1, f2, rfl, h1, h2, hd, rfl⟩ := h
    simp only [toDs, Option.bind_eq_some_iff, Option.map_eq_some_iff] at e
    obtain ⟨d, e1, ds, e2, rfl⟩ := e
    exact .cons (R.dp h1 e1) (Rs.dp h2 e2)
end
def intsOf : List Val → Option (List Int)
  | [] => some []
  | .int i :: vs => (intsOf vs).map fun is => i :: is
  | _ => none
def blsOf : List Val → Option (List Bool)
  | [] => some []
  | .bl i :: vs => (blsOf vs).map fun is => i :: is
  | _ => none
def strsOf : List Val → Option (List Str)
  | [] => some []
  | .str i :: vs => (strsOf vs).map fun is => i :: is
  | _ => none
theorem Rs.ints : ∀ {vs : List Val} {Vs : List V} {f : Ps} {ns : List Int}, Rs K Cl P H vs Vs f → intsOf vs = some ns → Vs = ns.map .int
  | [], _, _, _, h, e => by simp only [Rs] at h; simp only [intsOf, Option.some.injEq] at e; subst e; exact h.1
  | v :: vs, _, _, _, h, e => by
    simp only [Rs] at h
    obtain ⟨V, Vs', f1, f2, rfl, h1, h2, hd, rfl⟩ := h
    cases v with
    | int i =>
      simp only [R] at h1
      simp only [intsOf, Option.map_eq_some_iff] at e
      obtain ⟨ns, e, rfl⟩ := e
      rw [h1.1, Rs.ints h2 e]
      rfl
    | _ => simp [intsOf] at e
theorem Rs.bls : ∀ {vs : List Val} {Vs : List V} {f : Ps} {ns : List Bool}, Rs K Cl P H vs Vs f → blsOf vs = some ns → Vs = ns.map .bl
  | [], _, _, _, h, e => by simp only [Rs] at h; simp only [blsOf, Option.some.injEq] at e; subst e; exact h.1
  | v :: vs, _, _, _, h, e => by
    simp only [Rs] at h
    obtain ⟨V, Vs', f1, f2, rfl, h1, h2, hd, rfl⟩ := h
    cases v with
    | bl i =>
      simp only [R] at h1
      simp only [blsOf, Option.map_eq_some_iff] at e
      obtain ⟨ns, e, rfl⟩ := e
      rw [h1.1, Rs.bls h2 e]
      rfl
    | _ => simp [blsOf] at e
theorem Rs.strs : ∀ {vs : List Val} {Vs : List V} {f : Ps} {ns : List Str}, Rs K Cl P H vs Vs f → strsOf vs = some ns → Vs = ns.map .str
  | [], _, _, _, h, e => by simp only [Rs] at h; simp only [strsOf, Option.some.injEq] at e; subst e; exact h.1
  | v :: vs, _, _, _, h, e => by
    simp only [Rs] at h
    obtain ⟨V, Vs', f1, f2, rfl, h1, h2, hd, rfl⟩ := h
    cases v with
    | str i =>
      simp only [R] at h1
      simp only [strsOf, Option.map_eq_some_iff] at e
      obtain ⟨ns, e, rfl⟩ := e
      rw [h1.1, Rs.strs h2 e]
      rfl
    | _ => simp [strsOf] at e
theorem rs_ints (P : Ps) (H : Hp) : ∀ ns : List Int, Rs K Cl P H (ns.map .int) (ns.map .int) emp
  | [] => ⟨rfl, rfl⟩
  | n :: ns => by
    simp only [List.map_cons, Rs]
    exact ⟨_, _, emp, emp, rfl, ⟨rfl, rfl⟩, rs_ints P H ns, dis_emp _, (uni_emp _).symm⟩
theorem rs_strs (P : Ps) (H : Hp) : ∀ ns : List Str, Rs K Cl P H (ns.map .str) (ns.map .str) emp
  | [] => ⟨rfl, rfl⟩
  | n :: ns => by
    simp only [List.map_cons, Rs]
    exact ⟨_, _, emp, emp, rfl, ⟨rfl, rfl⟩, rs_strs P H ns, dis_emp _, (uni_emp _).symm⟩
/-- ints sorted -/
def ins1 (x : Int) : List Int → List Int
  | [] => [x]
  | y :: ys => if x ≤ y then x :: y :: ys else y :: ins1 x ys
def srt : List Int → List Int
  | [] => []
  | x :: xs => ins1 x (srt xs)
theorem ins1_perm (x : Int) : ∀ ys, (ins1 x ys).Perm (x :: ys)
  | [] => .refl _
  | y :: ys => by
    unfold ins1
    split
    · exact .refl _
    · exact ((ins1_perm x ys).cons y).trans (.swap _ _ _)
theorem srt_perm : ∀ xs, (srt xs).Perm xs
  | [] => .refl _
  | x :: xs => (ins1_perm x _).trans ((srt_perm xs).cons x)
theorem ins1_sorted (x : Int) : ∀ ys : List Int, ys.Pairwise (· ≤ ·) → (ins1 x ys).Pairwise (· ≤ ·)
  | [], _ => by simp [ins1]
  | y :: ys, h => by
    unfold ins1
    split
    · rename_i hxy
      rw [List.pairwise_cons]
      refine ⟨fun z hz => ?_, h⟩
      rcases List.mem_cons.mp hz with rfl | hz
      · exact hxy
      · have := (List.pairwise_cons.mp h).1 z hz
        omega
    · rename_i hxy
      rw [List.pairwise_cons]
      refine ⟨fun z hz => ?_, ins1_sorted x ys (List.pairwise_cons.mp h).2⟩
      rcases List.mem_cons.mp ((ins1_perm x ys).mem_iff.mp hz) with rfl | hz
      · omega
      · exact (List.pairwise_cons.mp h).1 z hz
theorem srt_sorted : ∀ xs : List Int, (srt xs).Pairwise (· ≤ ·)
  | [] => .nil
  | x :: xs => ins1_sorted x _ (srt_sorted xs)
theorem sorted_eq : ∀ {xs ys : List Int}, xs.Perm ys → xs.Pairwise (· ≤ ·) → ys.Pairwise (· ≤ ·) → xs = ys := by
  intro xs ys h h1 h2
  exact h.eq_of_pairwise (fun a b _ _ x y => by omega) h1 h2
theorem sorted_srt {xs ys : List Int} (h : xs.Perm ys) (h1 : xs.Pairwise (· ≤ ·)) : xs = srt ys := sorted_eq (h.trans (srt_perm ys).symm) h1 (srt_sorted ys)
end
end VS

namespace VS
open PySem L2

/-! ### the operations, on trees -/
def lineB (n : Nat) : Bool := decide (n ≤ 16777216)
theorem lineB_ok {n : Nat} (h : lineB n = true) : n ≤ sizeLine := by rw [sizeLine_eq]; exact of_decide_eq_true h
def gAdd : List Val → Option Val
  | [.int i, .int j] => some (.int (i + j))
  | [.node (.lst _) xs, .node (.lst _) ys] => if (pures xs && pures ys && lineB (xs.length + ys.length)) = true then some (.node (.lst false) (xs ++ ys)) else none
  | [.node .tup xs, .node .tup ys] => if (pures xs && pures ys && lineB (xs.length + ys.length)) = true then some (.node .tup (xs ++ ys)) else none
  | [.str x, .str y] => if lineB (x.length + y.length) = true then some (.str (x ++ y)) else none
  | _ => none
def gSub : List Val → Option Val
  | [.int i, .int j] => some (.int (i - j))
  | _ => none
def mulOk (i j : Int) : Bool := decide ((-(2 ^ 64) < i ∧ i < 2 ^ 64) ∨ (-(2 ^ 64) < j ∧ j < 2 ^ 64))
def gMul : List Val → Option Val
  | [.int i, .int j] => if mulOk i j = true then some (.int (i * j)) else none
  | _ => none
def gFdiv : List Val → Option Val
  | [.int i, .int j] => if decide (0 < j ∧ j < 1073741824) = true then some (.int (i / j)) else none
  | _ => none
def gMod : List Val → Option Val
  | [.int i, .int j] => if decide (0 < j) = true then some (.int (i % j)) else none
  | _ => none
def gPow : List Val → Option Val
  | [.int i, .int j] => if decide (0 ≤ j ∧ j ≤ 1000000 ∧ i.natAbs < 2 ^ 64) = true then some (.int (i ^ j.toNat)) else none
  | _ => none
def gNeg : List Val → Option Val
  | [.int i] => some (.int (-i))
  | _ => none
def gCmp (p : Int → Int → Bool) : List Val → Option Val
  | [.int i, .int j] => some (.bl (p i j))
  | _ => none
def gEq : List Val → Option Val
  | [x, y] => match toD x, toD y with
    | some d, some e => if (SeqAt.shaped d && SeqAt.shaped e) = true then some (.bl (PyData.eqv d e)) else none
    | _, _ => none
  | _ => none
def gNe : List Val → Option Val
  | [x, y] => match toD x, toD y with
    | some d, some e => if (SeqAt.shaped d && SeqAt.shaped e) = true then some (.bl (!PyData.eqv d e)) else none
    | _, _ => none
  | _ => none
def isNon : Val → Bool
  | .non => true
  | _ => false
def gIs (neg : Bool) : List Val → Option Val
  | [x, .non] => some (.bl (if neg then !isNon x else isNon x))
  | [.bl a, .bl b] => some (.bl (if neg then !(a == b) else (a == b)))
  | _ => none
def flatVal : Val → Bool
  | .node _ _ => false
  | _ => true
/-- x in a list (of data), a tuple (of flat values), a dict -/
def keyOf : Val → Option Key
  | .int i => some (.inl i)
  | .str x => some (.inr x)
  | _ => none
def keysOf : List Val → Option (List Key)
  | [] => some []
  | v :: vs => (keyOf v).bind fun k => (keysOf vs).map fun ks => k :: ks
def inData (x : Val) (ys : List Val) : Option Bool := match toD x, toDs ys with
  | some d, some ds => if (SeqAt.shaped d && SeqAt.shaped (.list ds)) = true then some (ds.any fun z => PyData.eqv z d) else none
  | _, _ => none
def hasK {κ : Type} [DecidableEq κ] (ks : List κ) (k : κ) : Bool := ks.any fun j => decide (j = k)
def gIn (neg : Bool) : List Val → Option Val
  | [x, .node (.lst _) ys] => (inData x ys).map fun b => .bl (if neg then !b else b)
  | [x, .node .rol ys] => (inData x ys).map fun b => .bl (if neg then !b else b)
  | [x, .node .tup ys] => if (flatVal x && ys.all flatVal) = true then (match toD x, toDs ys with
    | some d, some ds => some (.bl (if neg then !(ds.any fun z => PyData.eqv z d) else ds.any fun z => PyData.eqv z d))
    | _, _ => none) else none
  | [x, .node .ktup ys] => if (flatVal x && ys.all flatVal) = true then (match toD x, toDs ys with
    | some d, some ds => some (.bl (if neg then !(ds.any fun z => PyData.eqv z d) else ds.any fun z => PyData.eqv z d))
    | _, _ => none) else none
  | [x, .node (.dct _ ks) _] => (keyOf x).map fun k => .bl (if neg then !(hasK ks k) else hasK ks k)
  | [.node .tup xs, .node (.dtt _ ks) _] => (keysOf xs).map fun k => .bl (if neg then !(hasK ks k) else hasK ks k)
  | _ => none
def gLen : List Val → Option Val
  | [.node .tup xs] => some (.int xs.length)
  | [.node .ktup xs] => some (.int xs.length)
  | [.node .rol xs] => some (.int xs.length)
  | [.node (.lst _) xs] => some (.int xs.length)
  | [.str x] => if lineB x.length = true then some (.int x.length) else none
  | _ => none
/-- list(x) -/
def gList : List Val → Option Val
  | [.node .tup xs] => if pures xs = true then some (.node (.lst false) xs) else none
  | [.node .rol xs] => if pures xs = true then some (.node (.lst false) xs) else none
  | [.node (.lst _) xs] => if pures xs = true then some (.node (.lst false) xs) else none
  | _ => none
/-- tuple(x) -/
def gTuple : List Val → Option Val
  | [.node .tup xs] => if pures xs = true then some (.node .tup xs) else none
  | [.node .rol xs] => if pures xs = true then some (.node .tup xs) else none
  | [.node (.lst _) xs] => if pures xs = true then some (.node .tup xs) else none
  | _ => none
def gSorted : List Val → Option Val
  | [.node .rol xs] => (intsOf xs).map fun ns => .node (.lst false) ((srt ns).map .int)
  | [.node (.lst _) xs] => (intsOf xs).map fun ns => .node (.lst false) ((srt ns).map .int)
  | _ => none
def gSum : List Val → Option Val
  | [.node .rol xs] => (intsOf xs).map fun ns => .int ns.sum
  | [.node (.lst _) xs] => (intsOf xs).map fun ns => .int ns.sum
  | [.node .tup xs] => (intsOf xs).map fun ns => .int ns.sum
  | _ => none
def gAll : List Val → Option Val
  | [.node (.lst _) xs] => (blsOf xs).map fun ns => .bl (ns.all id)
  | _ => none
def gAny : List Val → Option Val
  | [.node (.lst _) xs] => (blsOf xs).map fun ns => .bl (ns.any id)
  | _ => none
def gMin2 : List Val → Option Val
  | [.int i, .int j] => some (.int (if j < i then j else i))
  | _ => none
def gMax2 : List Val → Option Val
  | [.int i, .int j] => some (.int (if j > i then j else i))
  | _ => none
/-- the greatest, the least of whole numbers -/
def maxL : List Int → Option Int
  | [] => none
  | x :: xs => match maxL xs with
    | none => some x
    | some m => some (if x < m then m else x)
def minL : List Int → Option Int
  | [] => none
  | x :: xs => match minL xs with
    | none => some x
    | some m => some (if m < x then m else x)
theorem maxL_mem : ∀ {xs : List Int} {m : Int}, maxL xs = some m → m ∈ xs ∧ ∀ y ∈ xs, y ≤ m
  | [], _, h => by cases h
  | x :: xs, m, h => by
    simp only [maxL] at h
    cases e : maxL xs with
    | none =>
      rw [e] at h
      cases h
      cases xs with
      | nil => simp
      | cons y ys => simp only [maxL] at e; split at e <;> cases e
    | some k =>
      rw [e] at h
      obtain ⟨h1, h2⟩ := maxL_mem e
      cases h
      split
      · exact ⟨List.mem_cons_of_mem _ h1, fun y hy => by rcases List.mem_cons.mp hy with rfl | hy; omega; exact h2 y hy⟩
      · exact ⟨List.mem_cons_self, fun y hy => by rcases List.mem_cons.mp hy with rfl | hy; omega; have := h2 y hy; omega⟩
theorem minL_mem : ∀ {xs : List Int} {m : Int}, minL xs = some m → m ∈ xs ∧ ∀ y ∈ xs, m ≤ y
  | [], _, h => by cases h
  | x :: xs, m, h => by
    simp only [minL] at h
    cases e : minL xs with
    | none =>
      rw [e] at h
      cases h
      cases xs with
      | nil => simp
      | cons y ys => simp only [minL] at e; split at e <;> cases e
    | some k =>
      rw [e] at h
      obtain ⟨h1, h2⟩ := minL_mem e
      cases h
      split
      · exact ⟨List.mem_cons_of_mem _ h1, fun y hy => by rcases List.mem_cons.mp hy with rfl | hy; omega; exact h2 y hy⟩
      · exact ⟨List.mem_cons_self, fun y hy => by rcases List.mem_cons.mp hy with rfl | hy; omega; have := h2 y hy; omega⟩
def gMax1 : List Val → Option Val
  | [.node .rol xs] => (intsOf xs).bind fun ns => (maxL ns).map .int
  | [.node (.lst _) xs] => (intsOf xs).bind fun ns => (maxL ns).map .int
  | _ => none
def gMin1 : List Val → Option Val
  | [.node .rol xs] => (intsOf xs).bind fun ns => (minL ns).map .int
  | [.node (.lst _) xs] => (intsOf xs).bind fun ns => (minL ns).map .int
  | _ => none
def gInt : List Val → Option Val
  | [.int i] => some (.int i)
  | [.bl b] => some (.int (if b then 1 else 0))
  | _ => none
def cutL {α : Type} (xs : List α) (lo hi : Option Int) : List α := (xs.drop (HT.sIx xs.length 0 lo)).take (HT.sIx xs.length xs.length hi - HT.sIx xs.length 0 lo)
def partOf : Val → Option (Option Int)
  | .non => some none
  | .int i => some (some i)
  | _ => none
def gIx : List Val → Option Val
  | [x, .int i] => match seqOf x with
    | some vs => (match atI vs i with
      | some v => if v.pure = true then some v else none
      | none => none)
    | none => none
  | _ => none

def op2 (r : R2) : List V → Hp → VK → Prop := fun Vs H Q => ∃ x y, Vs = [x, y] ∧ r x y H Q
section
variable {K : PySem.W.Frag} {Cl : Nat → Addr} {P : Ps} {H : Hp}
theorem Ws.two {v w : Val} {Vs : List V} (h : Ws K Cl P H [v, w] Vs) : ∃ x y f g, Vs = [x, y] ∧ R K Cl P H v x f ∧ R K Cl P H w y g := by
  obtain ⟨x, r, f, rfl, h1, y, r2, g, rfl, h2, rfl⟩ := h
  exact ⟨x, y, f, g, rfl, h1, h2⟩
theorem Ws.one {v : Val} {Vs : List V} (h : Ws K Cl P H [v] Vs) : ∃ x f, Vs = [x] ∧ R K Cl P H v x f := by
  obtain ⟨x, r, f, rfl, h1, rfl⟩ := h
  exact ⟨x, f, rfl, h1⟩
/-- two ints -/
theorem prim_ii {r : R2} {c : Int → Int → Bool} {g : Int → Int → Val} (h : ∀ i j H Q v, c i j = true → g i j = v → (∀ V, (v = .int V → Q (.int V) H)) → (∀ b, v = .bl b → Q (.bl b) H) → r (.int i) (.int j) H Q)
    {f : List Val → Option Val} (hf : ∀ vs v, f vs = some v → ∃ i j, vs = [.int i, .int j] ∧ c i j = true ∧ v = g i j) : PrimOk K Cl (op2 r) f := by
  intro P H vs Vs Q v hw lv hg n
  obtain ⟨i, j, rfl, hc, rfl⟩ := hf _ _ hg
  obtain ⟨x, y, f1, f2, rfl, h1, h2⟩ := hw.two
  simp only [R] at h1 h2
  rw [h1.1, h2.1]
  refine ⟨_, _, rfl, h i j H Q _ hc rfl (fun z e => ?_) fun b e => ?_⟩
  · rw [e] at n; exact n.int lv
  · rw [e] at n; exact n.bl lv
theorem pr_sub : PrimOk K Cl (op2 (rI0 fun i j => .int (i - j))) gSub :=
  prim_ii (c := fun _ _ => true) (g := fun i j => .int (i - j)) (fun i j H Q v _ e k _ => ⟨i, j, rfl, rfl, k _ e.symm⟩) fun vs v h => by
    unfold gSub at h; split at h <;> cases h; exact ⟨_, _, rfl, rfl, rfl⟩
theorem pr_mul : PrimOk K Cl (op2 (rI CMul fun i j => .int (i * j))) gMul :=
  prim_ii (c := mulOk) (g := fun i j => .int (i * j)) (fun i j H Q v hc e k _ => ⟨i, j, rfl, rfl, of_decide_eq_true (p := (-(2 ^ 64) < i ∧ i < 2 ^ 64) ∨ (-(2 ^ 64) < j ∧ j < 2 ^ 64)) hc, k _ e.symm⟩) fun vs v h => by
    unfold gMul at h; split at h
    · split at h
      · cases h; exact ⟨_, _, rfl, by assumption, rfl⟩
      · cases h
    · cases h
theorem pr_fdiv : PrimOk K Cl (op2 (rI CDiv fun i j => .int (i / j))) gFdiv :=
  prim_ii (c := fun _ j => decide (0 < j ∧ j < 1073741824)) (g := fun i j => .int (i / j)) (fun i j H Q v hc e k _ => ⟨i, j, rfl, rfl, of_decide_eq_true (p := 0 < j ∧ j < 1073741824) hc, k _ e.symm⟩) fun vs v h => by
    unfold gFdiv at h; split at h
    · split at h
      · cases h; exact ⟨_, _, rfl, by assumption, rfl⟩
      · cases h
    · cases h
theorem pr_mod : PrimOk K Cl (op2 (rI (fun _ j => 0 < j) fun i j => .int (i % j))) gMod :=
  prim_ii (c := fun _ j => decide (0 < j)) (g := fun i j => .int (i % j)) (fun i j H Q v hc e k _ => ⟨i, j, rfl, rfl, of_decide_eq_true hc, k _ e.symm⟩) fun vs v h => by
    unfold gMod at h; split at h
    · split at h
      · cases h; exact ⟨_, _, rfl, by assumption, rfl⟩
      · cases h
    · cases h
theorem pr_pow : PrimOk K Cl (op2 (rI CPow fun i j => .int (i ^ j.toNat))) gPow :=
  prim_ii (c := fun i j => decide (0 ≤ j ∧ j ≤ 1000000 ∧ i.natAbs < 2 ^ 64)) (g := fun i j => .int (i ^ j.toNat)) (fun i j H Q v hc e k _ => ⟨i, j, rfl, rfl, of_decide_eq_true (p := 0 ≤ j ∧ j ≤ 1000000 ∧ i.natAbs < 2 ^ 64) hc, k _ e.symm⟩) fun vs v h => by
    unfold gPow at h; split at h
    · split at h
      · cases h; exact ⟨_, _, rfl, by assumption, rfl⟩
      · cases h
    · cases h
theorem pr_cmp (p : Int → Int → Bool) : PrimOk K Cl (op2 (rI0 fun i j => .bl (p i j))) (gCmp p) :=
  prim_ii (c := fun _ _ => true) (g := fun i j => .bl (p i j)) (fun i j H Q v _ e _ k => ⟨i, j, rfl, rfl, k _ e.symm⟩) fun vs v h => by
    unfold gCmp at h; split at h <;> cases h; exact ⟨_, _, rfl, rfl, rfl⟩
def rAddAll (K : PySem.W.Frag) : R2 := fun x y H Q => rI0 (fun i j => .int (i + j)) x y H Q ∨ rCat x y H Q ∨ rCatA K x y H Q ∨ (∃ i j, x = .str i ∧ y = .str j ∧ i.length + j.length ≤ sizeLine ∧ Q (.str (i ++ j)) H)
theorem op_addAll {X : Cx} : OpR X (binaryOp .Add) (rAddAll X.K) := op_add.or (op_cat.or (op_catA.or op_add_str))
theorem and3 {a b c : Bool} (h : (a && b && c) = true) : a = true ∧ b = true ∧ c = true := by
  cases a <;> cases b <;> cases c <;> simp_all
theorem pr_add : PrimOk K Cl (op2 (rAddAll K)) gAdd := by
  intro P H vs Vs Q v hw lv hg n
  unfold gAdd at hg
  split at hg
  · cases hg
    obtain ⟨x, y, f1, f2, rfl, h1, h2⟩ := hw.two
    simp only [R] at h1 h2
    rw [h1.1, h2.1]
    exact ⟨_, _, rfl, .inl ⟨_, _, rfl, rfl, n.int lv⟩⟩
  · split at hg
    · rename_i hc
      cases hg
      obtain ⟨c1, c2, c3⟩ := and3 hc
      obtain ⟨x, y, f1, f2, rfl, h1, h2⟩ := hw.two
      obtain ⟨a, As, xa, ga, rfl, ha, ra, _⟩ := h1.node_items
      obtain ⟨b, Bs, xb, gb, rfl, hb, rb, _⟩ := h2.node_items
      refine ⟨_, _, rfl, .inr (.inl ⟨a, b, As, Bs, rfl, rfl, ha.1, hb.1, ?_, fun p hp => n.lst lv (Rs.append (ra.emp c1) (rb.emp c2)) hp⟩)⟩
      have := lineB_ok c3
      rw [← ra.length, ← rb.length]
      exact this
    · cases hg
  · split at hg
    · rename_i hc
      cases hg
      obtain ⟨c1, c2, c3⟩ := and3 hc
      obtain ⟨x, y, f1, f2, rfl, h1, h2⟩ := hw.two
      obtain ⟨a, As, ga, rfl, ha, ra, _⟩ := h1.tseq
      obtain ⟨b, Bs, gb, rfl, hb, rb, _⟩ := h2.tseq
      have l3 := lineB_ok c3
      rw [ra.length, rb.length] at l3
      refine ⟨_, _, rfl, .inr (.inr (.inl ⟨a, b, As, Bs, rfl, rfl, ha, hb, l3, fun z => ?_, fun z1 z2 => ?_, fun _ _ p hp => n.tup lv (Rs.append (ra.emp c1) (rb.emp c2)) hp⟩))⟩
      · rename_i xs ys _ _
        have hx : xs = [] := List.eq_nil_of_length_eq_zero (by rw [ra.length, z]; rfl)
        subst hx
        have : f2 = emp := h2.pure_emp (by simp [Val.pure, Tag.own, c2])
        subst this
        exact n.sc lv (by simpa using h2)
      · rename_i xs ys _ _
        have hx : ys = [] := List.eq_nil_of_length_eq_zero (by rw [rb.length, z2]; rfl)
        subst hx
        have : f1 = emp := h1.pure_emp (by simp [Val.pure, Tag.own, c1])
        subst this
        exact n.sc lv (by simpa using h1)
    · cases hg
  · split at hg
    · rename_i hc
      cases hg
      obtain ⟨x, y, f1, f2, rfl, h1, h2⟩ := hw.two
      simp only [R] at h1 h2
      rw [h1.1, h2.1]
      exact ⟨_, _, rfl, .inr (.inr (.inr ⟨_, _, rfl, rfl, lineB_ok hc, n.str lv⟩))⟩
    · cases hg
  · cases hg
theorem pr_eq : PrimOk K Cl (op2 (rEqD K)) gEq := by
  intro P H vs Vs Q v hw lv hg n
  unfold gEq at hg
  split at hg
  · split at hg
    · split at hg
      · rename_i d e hd he hc
        cases hg
        obtain ⟨x, y, f1, f2, rfl, h1, h2⟩ := hw.two
        simp only [Bool.and_eq_true] at hc
        exact ⟨_, _, rfl, d, e, h1.dp hd, h2.dp he, hc.1, hc.2, n.bl lv⟩
      · cases hg
    · cases hg
  · cases hg
theorem pr_ne : PrimOk K Cl (op2 (rNeD K)) gNe := by
  intro P H vs Vs Q v hw lv hg n
  unfold gNe at hg
  split at hg
  · split at hg
    · split at hg
      · rename_i d e hd he hc
        cases hg
        obtain ⟨x, y, f1, f2, rfl, h1, h2⟩ := hw.two
        simp only [Bool.and_eq_true] at hc
        exact ⟨_, _, rfl, d, e, h1.dp hd, h2.dp he, hc.1, hc.2, n.bl lv⟩
      · cases hg
    · cases hg
  · cases hg
theorem R.non_iff {v : Val} {V : V} {f : Ps} (h : R K Cl P H v V f) : decide (V = .non) = isNon v := by
  cases v with
  | non => simp only [R] at h; simp [isNon, h.1]
  | node t vs =>
    obtain ⟨a, Vs, x, g, rfl, _⟩ := h.node_items
    simp [isNon]
  | _ => simp only [R] at h; simp [isNon, h.1]
def rIsAll : R2 := fun x y H Q => (y = .non ∧ Q (.bl (decide (x = .non))) H) ∨ rIsB x y H Q
theorem op_isAll {X : Cx} : OpR X (compareOp .Is) rIsAll := op_isN.or op_isBl
theorem pr_is : PrimOk K Cl (op2 rIsAll) (gIs false) := by
  intro P H vs Vs Q v hw lv hg n
  unfold gIs at hg
  split at hg
  · cases hg
    obtain ⟨x, y, f1, f2, rfl, h1, h2⟩ := hw.two
    simp only [R] at h2
    rw [h2.1]
    refine ⟨_, _, rfl, .inl ⟨rfl, ?_⟩⟩
    rw [h1.non_iff]
    exact n.bl lv
  · cases hg
    obtain ⟨x, y, f1, f2, rfl, h1, h2⟩ := hw.two
    simp only [R] at h1 h2
    rw [h1.1, h2.1]
    refine ⟨_, _, rfl, .inr ⟨_, _, rfl, rfl, ?_⟩⟩
    have := n.bl lv
    rename_i a b
    rw [show decide (a = b) = (a == b) from rfl]
    exact this
  · cases hg
def rIsnAll : R2 := fun x y H Q => (y = .non ∧ Q (.bl (!decide (x = .non))) H) ∨ (∃ a b, x = .bl a ∧ y = .bl b ∧ Q (.bl (!decide (a = b))) H)
theorem op_isnAll {X : Cx} : OpR X (compareOp .IsNot) rIsnAll := op_notN.or op_isnot_bl
theorem pr_isnot : PrimOk K Cl (op2 rIsnAll) (gIs true) := by
  intro P H vs Vs Q v hw lv hg n
  unfold gIs at hg
  split at hg
  · cases hg
    obtain ⟨x, y, f1, f2, rfl, h1, h2⟩ := hw.two
    simp only [R] at h2
    rw [h2.1]
    refine ⟨_, _, rfl, .inl ⟨rfl, ?_⟩⟩
    rw [h1.non_iff]
    exact n.bl lv
  · cases hg
    obtain ⟨x, y, f1, f2, rfl, h1, h2⟩ := hw.two
    simp only [R] at h1 h2
    rw [h1.1, h2.1]
    refine ⟨_, _, rfl, .inr ⟨_, _, rfl, rfl, ?_⟩⟩
    have := n.bl lv
    rename_i a b
    rw [show decide (a = b) = (a == b) from rfl]
    exact this
  · cases hg
end
end VS

namespace VS
open PySem L2
section
variable {K : PySem.W.Frag} {Cl : Nat → Addr} {P : Ps} {H : Hp}
/-! ### in -/
theorem eqV_eqv {z w : Val} {X Y : V} {f g : Ps} {d e : PyData} (h : R K Cl P H z X f) (h' : R K Cl P H w Y g) (a : flatVal z = true) (b : flatVal w = true) (hd : toD z = some d) (he : toD w = some e) : eqV X Y = PyData.eqv d e ∧ flatV X = true ∧ flatV Y = true := by
  cases z <;> cases w <;> (try (cases (show false = true from a))) <;> (try (cases (show false = true from b)))
  all_goals (simp only [R] at h h'; simp only [toD, Option.some.injEq] at hd he; subst hd he; rw [h.1, h'.1]; exact ⟨by simp [eqV, PyData.eqv], rfl, rfl⟩)
theorem inV_any : ∀ {ys : List Val} {Ws : List V} {g : Ps} {x : Val} {V : V} {f : Ps} {d : PyData} {ds : List PyData}, R K Cl P H x V f → Rs K Cl P H ys Ws g → flatVal x = true → ys.all flatVal = true → toD x = some d → toDs ys = some ds →
    inV V Ws = ds.any (fun z => PyData.eqv z d) ∧ Ws.all flatV = true
  | [], _, _, _, _, _, _, _, _, h2, _, _, _, e => by
    simp only [Rs] at h2
    simp only [toDs, Option.some.injEq] at e
    subst e
    rw [h2.1]
    exact ⟨rfl, rfl⟩
  | y :: ys, _, _, _, _, _, _, _, h1, h2, fx, fy, e1, e => by
    simp only [Rs] at h2
    obtain ⟨W, Ws', f1, f2, rfl, r1, r2, hd, rfl⟩ := h2
    simp only [toDs, Option.bind_eq_some_iff, Option.map_eq_some_iff] at e
    obtain ⟨d', e2, ds', e3, rfl⟩ := e
    simp only [List.all_cons, Bool.and_eq_true] at fy
    obtain ⟨q1, q2, q3⟩ := eqV_eqv r1 h1 fy.1 fx e2 e1
    obtain ⟨p1, p2⟩ := inV_any h1 r2 fx fy.2 e1 e3
    refine ⟨?_, ?_⟩
    · show (eqV W _ || inV _ Ws') = _
      rw [q1, p1]
      rfl
    · simp [q2, p2]
def rDin (neg : Bool) : R2 := fun x y H Q => ∃ a o, y = .ref a ∧ DGet H a x o ∧ Q (.bl (if neg then !o.isSome else o.isSome)) H
theorem op_din {X : Cx} (hu : X.A.units + 1 < cLine) : OpR X (compareOp .In) (rDin false) := by
  intro pins s σ H x y v u Q I rx ry h
  obtain ⟨a, o, rfl, g, q⟩ := h
  cases ry
  exact d_in hu I g rx fun s' I' => ⟨.bl o.isSome, H, I', rfl, q⟩
theorem op_dnotin {X : Cx} (hu : X.A.units + 1 < cLine) : OpR X (compareOp .NotIn) (rDin true) := by
  intro pins s σ H x y v u Q I rx ry h
  obtain ⟨a, o, rfl, g, q⟩ := h
  cases ry
  exact d_notIn hu I g rx fun s' I' => ⟨.bl (!o.isSome), H, I', rfl, q⟩
def rInAll (K : PySem.W.Frag) (neg : Bool) : R2 := fun x y H Q => (if neg then rNotInD K x y H Q else rInD K x y H Q) ∨ rIn K neg x y H Q ∨ rDin neg x y H Q
theorem op_inAll {X : Cx} (hu : X.A.units + 65 < cLine) : OpR X (compareOp .In) (rInAll X.K false) := OpR.or (op_inD hu) (op_in_seq.or (op_din (by omega)))
theorem op_notInAll {X : Cx} (hu : X.A.units + 65 < cLine) : OpR X (compareOp .NotIn) (rInAll X.K true) := OpR.or (op_notInD hu) (op_notIn_seq.or (op_dnotin (by omega)))
theorem R.key {v : Val} {V : V} {f : Ps} {k : Key} (h : R K Cl P H v V f) (e : keyOf v = some k) : V = kV k := by
  cases v with
  | int i => simp only [keyOf, Option.some.injEq] at e; subst e; simp only [R] at h; exact h.1
  | str i => simp only [keyOf, Option.some.injEq] at e; subst e; simp only [R] at h; exact h.1
  | _ => simp [keyOf] at e
theorem Rs.keys : ∀ {vs : List Val} {Vs : List V} {f : Ps} {ks : List Key}, Rs K Cl P H vs Vs f → keysOf vs = some ks → Vs = ks.map kV
  | [], _, _, _, h, e => by simp only [Rs] at h; simp only [keysOf, Option.some.injEq] at e; subst e; exact h.1
  | v :: vs, _, _, _, h, e => by
    simp only [Rs] at h
    obtain ⟨V, Vs', f1, f2, rfl, h1, h2, hd, rfl⟩ := h
    simp only [keysOf, Option.bind_eq_some_iff, Option.map_eq_some_iff] at e
    obtain ⟨d, e1, ds, e2, rfl⟩ := e
    rw [h1.key e1, Rs.keys h2 e2]
    rfl
theorem valV_zip {κ : Type} [DecidableEq κ] (k : κ) {ks : List κ} {Vs : List V} (h : ks.length = Vs.length) : (valV (ks.zip Vs) k).isSome = hasK ks k := by
  rw [← valV_any]
  unfold hasK
  have e : ks = (ks.zip Vs).map Prod.fst := by rw [List.map_fst_zip (by omega)]
  conv => rhs; rw [e]
  rw [List.any_map]
  rfl
/-- a tuple of keys -/
theorem R.tkey {vs : List Val} {V : V} {f : Ps} {ks : List Key} (h : R K Cl P H (.node .tup vs) V f) (e : keysOf vs = some ks) : ∃ a, V = .ref a ∧ H a = some (.tup (ks.map kV)) := by
  obtain ⟨a, Vs, x, g, rfl, hh, hs, _⟩ := h.node_items
  rw [← hs.keys e]
  exact ⟨a, rfl, hh.1⟩
theorem pr_in (neg : Bool) : PrimOk K Cl (op2 (rInAll K neg)) (gIn neg) := by
  intro P H vs Vs Q v hw lv hg n
  unfold gIn at hg
  split at hg
  case h_1 x z ys =>
    simp only [Option.map_eq_some_iff] at hg
    obtain ⟨b, hb, rfl⟩ := hg
    obtain ⟨X, Y, f1, f2, rfl, h1, h2⟩ := hw.two
    unfold inData at hb
    split at hb
    · split at hb
      · rename_i d ds hd hds hc
        cases hb
        simp only [Bool.and_eq_true] at hc
        obtain ⟨a, Ws, g, rfl, hh, r, _⟩ := h2.lseq rfl
        refine ⟨_, _, rfl, .inl ?_⟩
        have q := n.bl lv
        cases neg
        · exact ⟨d, ds, h1.dp hd, .lst hh (r.dp hds), hc.1, hc.2, q⟩
        · exact ⟨d, ds, h1.dp hd, .lst hh (r.dp hds), hc.1, hc.2, q⟩
      · cases hb
    · cases hb
  case h_2 x ys =>
    simp only [Option.map_eq_some_iff] at hg
    obtain ⟨b, hb, rfl⟩ := hg
    obtain ⟨X, Y, f1, f2, rfl, h1, h2⟩ := hw.two
    unfold inData at hb
    split at hb
    · split at hb
      · rename_i d ds hd hds hc
        cases hb
        simp only [Bool.and_eq_true] at hc
        obtain ⟨a, Ws, g, rfl, hh, r, _⟩ := h2.lseq rfl
        refine ⟨_, _, rfl, .inl ?_⟩
        have q := n.bl lv
        cases neg
        · exact ⟨d, ds, h1.dp hd, .lst hh (r.dp hds), hc.1, hc.2, q⟩
        · exact ⟨d, ds, h1.dp hd, .lst hh (r.dp hds), hc.1, hc.2, q⟩
      · cases hb
    · cases hb
  case h_3 x ys =>
    obtain ⟨X, Y, f1, f2, rfl, h1, h2⟩ := hw.two
    split at hg
    · rename_i hc
      simp only [Bool.and_eq_true] at hc
      split at hg
      · rename_i d ds hd hds
        cases hg
        obtain ⟨a, Ws, g, rfl, hh, r, _⟩ := h2.tseq
        obtain ⟨q1, q2⟩ := inV_any h1 r hc.1 hc.2 hd hds
        have fx : flatV X = true := (eqV_eqv h1 h1 hc.1 hc.1 hd hd).2.1
        refine ⟨_, _, rfl, .inr (.inl ⟨a, Ws, rfl, .inr hh, fx, q2, ?_⟩)⟩
        rw [q1]
        exact n.bl lv
      · cases hg
    · cases hg
  case h_4 x ys =>
    obtain ⟨X, Y, f1, f2, rfl, h1, h2⟩ := hw.two
    split at hg
    · rename_i hc
      simp only [Bool.and_eq_true] at hc
      split at hg
      · rename_i d ds hd hds
        cases hg
        obtain ⟨a, Ws, g, rfl, hh, r, _⟩ := h2.kseq
        obtain ⟨q1, q2⟩ := inV_any h1 r hc.1 hc.2 hd hds
        have fx : flatV X = true := (eqV_eqv h1 h1 hc.1 hc.1 hd hd).2.1
        refine ⟨_, _, rfl, .inr (.inl ⟨a, Ws, rfl, .inr hh, fx, q2, ?_⟩)⟩
        rw [q1]
        exact n.bl lv
      · cases hg
    · cases hg
  case h_5 x z ks ys =>
    simp only [Option.map_eq_some_iff] at hg
    obtain ⟨k, hk, rfl⟩ := hg
    obtain ⟨X, Y, f1, f2, rfl, h1, h2⟩ := hw.two
    obtain ⟨a, Ws, xx, g, rfl, hh, r, _⟩ := h2.node_items
    refine ⟨_, _, rfl, .inr (.inr ⟨a, valV (ks.zip Ws) k, rfl, ?_, ?_⟩)⟩
    · rw [h1.key hk]
      exact DGet.k hh.1
    · rw [valV_zip k hh.2.1]
      exact n.bl lv
  case h_6 xs z ks ys =>
    simp only [Option.map_eq_some_iff] at hg
    obtain ⟨k, hk, rfl⟩ := hg
    obtain ⟨X, Y, f1, f2, rfl, h1, h2⟩ := hw.two
    obtain ⟨a, Ws, xx, g, rfl, hh, r, _⟩ := h2.node_items
    obtain ⟨b, rfl, hb⟩ := h1.tkey hk
    refine ⟨_, _, rfl, .inr (.inr ⟨a, valV (ks.zip Ws) k, rfl, DGet.t hh.1 hb, ?_⟩)⟩
    rw [valV_zip k hh.2.1]
    exact n.bl lv
  case h_7 => cases hg
end
end VS

namespace VS
open PySem L2
section
variable {K : PySem.W.Frag} {Cl : Nat → Addr} {P : Ps} {H : Hp}
theorem pr_len : PrimOk K Cl (fun xs H Q => ∃ x n, xs = [x] ∧ LenV K x H n ∧ Q (.int n) H) gLen := by
  intro P H vs Vs Q v hw lv hg n
  unfold gLen at hg
  split at hg
  · cases hg
    obtain ⟨x, f, rfl, h⟩ := hw.one
    obtain ⟨a, Ws, g, rfl, hh, r, _⟩ := h.tseq
    refine ⟨_, _, rfl, .inr ⟨Ws, hh, rfl⟩, ?_⟩
    rw [← r.length]
    exact n.int lv
  · cases hg
    obtain ⟨x, f, rfl, h⟩ := hw.one
    obtain ⟨a, Ws, g, rfl, hh, r, _⟩ := h.kseq
    refine ⟨_, _, rfl, .inr ⟨Ws, hh, rfl⟩, ?_⟩
    rw [← r.length]
    exact n.int lv
  · cases hg
    obtain ⟨x, f, rfl, h⟩ := hw.one
    obtain ⟨a, Ws, g, rfl, hh, r, _⟩ := h.lseq rfl
    refine ⟨_, _, rfl, .inl ⟨Ws, hh, rfl⟩, ?_⟩
    rw [← r.length]
    exact n.int lv
  · cases hg
    obtain ⟨x, f, rfl, h⟩ := hw.one
    obtain ⟨a, Ws, g, rfl, hh, r, _⟩ := h.lseq rfl
    refine ⟨_, _, rfl, .inl ⟨Ws, hh, rfl⟩, ?_⟩
    rw [← r.length]
    exact n.int lv
  · split at hg
    · rename_i hc
      cases hg
      obtain ⟨x, f, rfl, h⟩ := hw.one
      simp only [R] at h
      rw [h.1]
      exact ⟨_, _, rfl, ⟨lineB_ok hc, rfl⟩, n.int lv⟩
    · cases hg
  · cases hg
theorem pr_list : PrimOk K Cl (fun xs H Q => ∃ p ys, xs = [.ref p] ∧ (SqL K H p ys ∨ SqT K H p ys) ∧ ∀ l, H l = none → Q (.ref l) (upd H l (.lst ys))) gList := by
  intro P H vs Vs Q v hw lv hg n
  have key : ∀ x ys, seqOf x = some ys → vs = [x] → pures ys = true → v = .node (.lst false) ys → ∃ p zs, Vs = [.ref p] ∧ (SqL K H p zs ∨ SqT K H p zs) ∧ ∀ l, H l = none → Q (.ref l) (upd H l (.lst zs)) := by
    rintro x ys e rfl hp rfl
    obtain ⟨X, f, rfl, h⟩ := hw.one
    obtain ⟨a, Ws, g, rfl, hh, r, _⟩ := h.seq e
    exact ⟨a, Ws, rfl, hh, fun l hl => n.lst lv (r.emp hp) hl⟩
  unfold gList at hg
  split at hg
  · split at hg
    · cases hg; exact key _ _ rfl rfl (by assumption) rfl
    · cases hg
  · split at hg
    · cases hg; exact key _ _ rfl rfl (by assumption) rfl
    · cases hg
  · split at hg
    · cases hg; exact key _ _ rfl rfl (by assumption) rfl
    · cases hg
  · cases hg
theorem pr_tuple : PrimOk K Cl (fun xs H Q => ∃ p ys, xs = [.ref p] ∧ ((SqL K H p ys ∧ ∀ l, H l = none → Q (.ref l) (upd H l (.tup ys))) ∨ (SqT K H p ys ∧ Q (.ref p) H))) gTuple := by
  intro P H vs Vs Q v hw lv hg n
  unfold gTuple at hg
  split at hg
  · split at hg
    · rename_i xs hp
      cases hg
      obtain ⟨X, f, rfl, h⟩ := hw.one
      obtain ⟨a, Ws, g, rfl, hh, r, _⟩ := h.tseq
      have : f = emp := h.pure_emp (by simp [Val.pure, Tag.own, hp])
      subst this
      exact ⟨a, Ws, rfl, .inr ⟨hh, n.sc lv h⟩⟩
    · cases hg
  · split at hg
    · rename_i xs hp
      cases hg
      obtain ⟨X, f, rfl, h⟩ := hw.one
      obtain ⟨a, Ws, g, rfl, hh, r, _⟩ := h.lseq rfl
      exact ⟨a, Ws, rfl, .inl ⟨hh, fun l hl => n.tup lv (r.emp hp) hl⟩⟩
    · cases hg
  · split at hg
    · rename_i xs hp
      cases hg
      obtain ⟨X, f, rfl, h⟩ := hw.one
      obtain ⟨a, Ws, g, rfl, hh, r, _⟩ := h.lseq rfl
      exact ⟨a, Ws, rfl, .inl ⟨hh, fun l hl => n.tup lv (r.emp hp) hl⟩⟩
    · cases hg
  · cases hg
theorem pr_sorted : PrimOk K Cl (rSortedI K) gSorted := by
  intro P H vs Vs Q v hw lv hg n
  have key : ∀ x ys ns, lseqOf x = some ys → vs = [x] → intsOf ys = some ns → v = .node (.lst false) ((srt ns).map .int) → rSortedI K Vs H Q := by
    rintro x ys ns e rfl hi rfl
    obtain ⟨X, f, rfl, h⟩ := hw.one
    obtain ⟨a, Ws, g, rfl, hh, r, _⟩ := h.lseq e
    rw [r.ints hi] at hh
    refine ⟨a, ns, rfl, hh, fun ns' p h1 h2 hp => ?_⟩
    rw [sorted_srt h1 h2]
    exact n.lst lv (rs_ints _ _ _) hp
  unfold gSorted at hg
  split at hg
  · simp only [Option.map_eq_some_iff] at hg
    obtain ⟨ns, hi, rfl⟩ := hg
    exact key _ _ _ rfl rfl hi rfl
  · simp only [Option.map_eq_some_iff] at hg
    obtain ⟨ns, hi, rfl⟩ := hg
    exact key _ _ _ rfl rfl hi rfl
  · cases hg
/-- sum of a tuple -/
def rSumT (K : PySem.W.Frag) : List V → Hp → VK → Prop := fun vs H Q => ∃ (a : Addr) (ns : List Int), vs = [V.ref a] ∧ SqT K H a (ns.map V.int) ∧ Q (.int ns.sum) H
def rSumA (K : PySem.W.Frag) : List V → Hp → VK → Prop := fun vs H Q => rSum K vs H Q ∨ rSumT K vs H Q
open PySem.Spec PyProof.Rows PyProof.V in
theorem cr_sumT {X : Cx} (hc : X.calm = true) : CallR X (.builtin "sum") (rSumT X.K) := by
  intro pins s σ H vs us Q I r h
  obtain ⟨a, ns, rfl, hs, q⟩ := h
  obtain ⟨its, rv, hl, _⟩ := I.tuple hs
  rw [Vals.ref1 r]
  have hi := rv.ints
  obtain ⟨xs, e⟩ := hi.allInts.items
  have hn : numsOf (intItems xs).toList = ns := by rw [← e]; exact hi.numsOf
  rw [nums_intItems] at hn
  rw [e] at hl
  obtain ⟨o, h1, h2, n, h3⟩ := hl
  refine PySem.W.ktm_sumG (I.ok.hd hc) ⟨o, h1, h2, n, h3⟩ fun h' tk t' hk => ?_
  rw [preSum_eq, List.take_of_length_le (by simp), hn]
  exact ⟨.int _, H, I.kept hk, ⟨_, rfl⟩, q⟩
theorem cr_sumA {X : Cx} (hc : X.calm = true) : CallR X (.builtin "sum") (rSumA X.K) := by
  intro pins s σ H vs us Q I r h
  rcases h with h | h
  · exact cr_sum hc pins s σ H vs us Q I r h
  · exact cr_sumT hc pins s σ H vs us Q I r h
theorem pr_sum : PrimOk K Cl (rSumA K) gSum := by
  intro P H vs Vs Q v hw lv hg n
  have key : ∀ x ys ns, lseqOf x = some ys → vs = [x] → intsOf ys = some ns → v = .int ns.sum → rSumA K Vs H Q := by
    rintro x ys ns e rfl hi rfl
    obtain ⟨X, f, rfl, h⟩ := hw.one
    obtain ⟨a, Ws, g, rfl, hh, r, _⟩ := h.lseq e
    rw [r.ints hi] at hh
    exact .inl ⟨a, ns, rfl, hh, n.int lv⟩
  unfold gSum at hg
  split at hg
  · simp only [Option.map_eq_some_iff] at hg
    obtain ⟨ns, hi, rfl⟩ := hg
    exact key _ _ _ rfl rfl hi rfl
  · simp only [Option.map_eq_some_iff] at hg
    obtain ⟨ns, hi, rfl⟩ := hg
    exact key _ _ _ rfl rfl hi rfl
  · simp only [Option.map_eq_some_iff] at hg
    obtain ⟨ns, hi, rfl⟩ := hg
    obtain ⟨X, f, rfl, h⟩ := hw.one
    obtain ⟨a, Ws, g, rfl, hh, r, _⟩ := h.tseq
    rw [r.ints hi] at hh
    exact .inr ⟨a, ns, rfl, hh, n.int lv⟩
  · cases hg
theorem pr_max1 : PrimOk K Cl (rMax K) gMax1 := by
  intro P H vs Vs Q v hw lv hg n
  have key : ∀ x ys ns m, lseqOf x = some ys → vs = [x] → intsOf ys = some ns → maxL ns = some m → v = .int m → rMax K Vs H Q := by
    rintro x ys ns m e rfl hi hm rfl
    obtain ⟨X, f, rfl, h⟩ := hw.one
    obtain ⟨a, Ws, g, rfl, hh, r, _⟩ := h.lseq e
    rw [r.ints hi] at hh
    obtain ⟨m1, m2⟩ := maxL_mem hm
    refine ⟨a, ns, rfl, hh, List.length_pos_of_mem m1, fun k k1 k2 => ?_⟩
    have : k = m := by have := k2 m m1; have := m2 k k1; omega
    rw [this]
    exact n.int lv
  unfold gMax1 at hg
  split at hg
  · simp only [Option.map_eq_some_iff, Option.bind_eq_some_iff] at hg
    obtain ⟨ns, hi, m, hm, rfl⟩ := hg
    exact key _ _ _ _ rfl rfl hi hm rfl
  · simp only [Option.map_eq_some_iff, Option.bind_eq_some_iff] at hg
    obtain ⟨ns, hi, m, hm, rfl⟩ := hg
    exact key _ _ _ _ rfl rfl hi hm rfl
  · cases hg
theorem pr_min1 : PrimOk K Cl (rMin K) gMin1 := by
  intro P H vs Vs Q v hw lv hg n
  have key : ∀ x ys ns m, lseqOf x = some ys → vs = [x] → intsOf ys = some ns → minL ns = some m → v = .int m → rMin K Vs H Q := by
    rintro x ys ns m e rfl hi hm rfl
    obtain ⟨X, f, rfl, h⟩ := hw.one
    obtain ⟨a, Ws, g, rfl, hh, r, _⟩ := h.lseq e
    rw [r.ints hi] at hh
    obtain ⟨m1, m2⟩ := minL_mem hm
    refine ⟨a, ns, rfl, hh, List.length_pos_of_mem m1, fun k k1 k2 => ?_⟩
    have : k = m := by have := k2 m m1; have := m2 k k1; omega
    rw [this]
    exact n.int lv
  unfold gMin1 at hg
  split at hg
  · simp only [Option.map_eq_some_iff, Option.bind_eq_some_iff] at hg
    obtain ⟨ns, hi, m, hm, rfl⟩ := hg
    exact key _ _ _ _ rfl rfl hi hm rfl
  · simp only [Option.map_eq_some_iff, Option.bind_eq_some_iff] at hg
    obtain ⟨ns, hi, m, hm, rfl⟩ := hg
    exact key _ _ _ _ rfl rfl hi hm rfl
  · cases hg
theorem pr_all : PrimOk K Cl (rAll K) gAll := by
  intro P H vs Vs Q v hw lv hg n
  unfold gAll at hg
  split at hg
  · simp only [Option.map_eq_some_iff] at hg
    obtain ⟨ns, hi, rfl⟩ := hg
    obtain ⟨X, f, rfl, h⟩ := hw.one
    obtain ⟨a, Ws, g, rfl, hh, r, _⟩ := h.lseq rfl
    rw [r.bls hi] at hh
    exact ⟨a, ns, rfl, hh, n.bl lv⟩
  · cases hg
theorem pr_any : PrimOk K Cl (rAny K) gAny := by
  intro P H vs Vs Q v hw lv hg n
  unfold gAny at hg
  split at hg
  · simp only [Option.map_eq_some_iff] at hg
    obtain ⟨ns, hi, rfl⟩ := hg
    obtain ⟨X, f, rfl, h⟩ := hw.one
    obtain ⟨a, Ws, g, rfl, hh, r, _⟩ := h.lseq rfl
    rw [r.bls hi] at hh
    exact ⟨a, ns, rfl, hh, n.bl lv⟩
  · cases hg
theorem pr_min2 : PrimOk K Cl (fun xs H Q => ∃ i j, xs = [.int i, .int j] ∧ Q (.int (if j < i then j else i)) H) gMin2 := by
  intro P H vs Vs Q v hw lv hg n
  unfold gMin2 at hg
  split at hg
  · cases hg
    obtain ⟨x, y, f1, f2, rfl, h1, h2⟩ := hw.two
    simp only [R] at h1 h2
    rw [h1.1, h2.1]
    exact ⟨_, _, rfl, n.int lv⟩
  · cases hg
theorem pr_max2 : PrimOk K Cl (fun xs H Q => ∃ i j, xs = [.int i, .int j] ∧ Q (.int (if j > i then j else i)) H) gMax2 := by
  intro P H vs Vs Q v hw lv hg n
  unfold gMax2 at hg
  split at hg
  · cases hg
    obtain ⟨x, y, f1, f2, rfl, h1, h2⟩ := hw.two
    simp only [R] at h1 h2
    rw [h1.1, h2.1]
    exact ⟨_, _, rfl, n.int lv⟩
  · cases hg
theorem pr_int : PrimOk K Cl (fun xs H Q => (∃ i, xs = [.int i] ∧ Q (.int i) H) ∨ ∃ k, xs = [.bl k] ∧ Q (.int (if k then 1 else 0)) H) gInt := by
  intro P H vs Vs Q v hw lv hg n
  unfold gInt at hg
  split at hg
  · cases hg
    obtain ⟨x, f, rfl, h⟩ := hw.one
    simp only [R] at h
    rw [h.1]
    exact .inl ⟨_, rfl, n.int lv⟩
  · cases hg
    obtain ⟨x, f, rfl, h⟩ := hw.one
    simp only [R] at h
    rw [h.1]
    exact .inr ⟨_, rfl, n.int lv⟩
  · cases hg
theorem pr_neg : PrimOk K Cl (fun xs H Q => ∃ x, xs = [x] ∧ rU (fun i => .int (-i)) x H Q) gNeg := by
  intro P H vs Vs Q v hw lv hg n
  unfold gNeg at hg
  split at hg
  · cases hg
    obtain ⟨x, f, rfl, h⟩ := hw.one
    simp only [R] at h
    rw [h.1]
    exact ⟨_, rfl, _, rfl, n.int lv⟩
  · cases hg
/-- an item of a list, a tuple: a pure one -/
theorem Rs.atI {vs : List Val} {Vs : List V} {f : Ps} {i : Int} {v : Val} (h : Rs K Cl P H vs Vs f) (e : atI vs i = some v) : ∃ U g, L2.atI Vs i = some U ∧ R K Cl P H v U g ∧ ∀ b, g b → f b := by
  unfold L2.atI at e ⊢
  rw [← h.length]
  simp only [Option.bind_eq_some_iff] at e
  obtain ⟨j, e1, e2⟩ := e
  obtain ⟨U, f1, g1, e3, r, _, rfl, _⟩ := h.pick e2
  exact ⟨U, f1, by rw [e1]; exact e3, r, fun b z => .inl z⟩
theorem pr_ix : PrimOk K Cl (op2 (rIx K)) gIx := by
  intro P H vs Vs Q v hw lv hg n
  unfold gIx at hg
  split at hg
  · split at hg
    · split at hg
      · split at hg
        · rename_i x i _ ys e _ w hat hp
          cases hg
          obtain ⟨X, Y, f1, f2, rfl, h1, h2⟩ := hw.two
          simp only [R] at h2
          rw [h2.1]
          obtain ⟨a, Ws, g, rfl, hh, r, _⟩ := h1.seq e
          obtain ⟨U, g', q1, q2, _⟩ := r.atI hat
          have : g' = emp := q2.pure_emp hp
          subst this
          refine ⟨_, _, rfl, ?_⟩
          have q3 := n.sc lv q2
          rcases hh with hh | hh
          · exact .inl ⟨a, Ws, i, U, rfl, rfl, hh, q1, q3⟩
          · exact .inr (.inl ⟨a, Ws, i, U, rfl, rfl, hh, q1, q3⟩)
        · cases hg
      · cases hg
    · cases hg
  · cases hg
/-! ### slices -/
def gSlice : List Val → Option Val
  | [x, l, u] => match partOf l, partOf u with
    | some lo, some hi => (match x with
      | .node .rol vs => if pures (cutL vs lo hi) = true then some (.node (.lst false) (cutL vs lo hi)) else none
      | .node (.lst _) vs => if pures (cutL vs lo hi) = true then some (.node (.lst false) (cutL vs lo hi)) else none
      | .node .tup vs => if pures vs = true then some (.node .tup (cutL vs lo hi)) else none
      | _ => none)
    | _, _ => none
  | _ => none
theorem Rs.cut {vs : List Val} {Vs : List V} {f : Ps} (h : Rs K Cl P H vs Vs f) (lo hi : Option Int) (p : pures (cutL vs lo hi) = true) : Rs K Cl P H (cutL vs lo hi) (cutV Vs lo hi) VS.emp := by
  unfold cutL at p ⊢
  unfold cutV
  rw [← h.length]
  obtain ⟨g, h1⟩ := h.drop (HT.sIx vs.length 0 lo)
  obtain ⟨g', h2, _⟩ := h1.take (HT.sIx vs.length vs.length hi - HT.sIx vs.length 0 lo)
  exact h2.emp p
theorem pures_cut {vs : List Val} {lo hi : Option Int} (h : pures vs = true) : pures (cutL vs lo hi) = true := by
  rw [pures_iff] at h ⊢
  intro v hv
  exact h v (List.mem_of_mem_drop (List.mem_of_mem_take hv))
def rSlAll (K : PySem.W.Frag) : V → Option Int → Option Int → Hp → VK → Prop := fun x lo hi H Q => rSlL K x lo hi H Q ∨ rSlA K x lo hi H Q
theorem sl_all {X : Cx} : SlR X (rSlAll X.K) := sl_list.or sl_tupA
def IsPt (x : V) (o : Option Int) : Prop := (x = .non ∧ o = none) ∨ ∃ i, x = .int i ∧ o = some i
theorem R.part {v : Val} {U : V} {f : Ps} {o : Option Int} (h : R K Cl P H v U f) (e : partOf v = some o) : IsPt U o := by
  cases v with
  | non => simp only [partOf, Option.some.injEq] at e; subst e; simp only [R] at h; exact .inl ⟨h.1, rfl⟩
  | int i => simp only [partOf, Option.some.injEq] at e; subst e; simp only [R] at h; exact .inr ⟨i, h.1, rfl⟩
  | _ => simp [partOf] at e
theorem pr_slice : PrimOk K Cl (fun Vs H Q => ∃ x l u lo hi, Vs = [x, l, u] ∧ IsPt l lo ∧ IsPt u hi ∧ rSlAll K x lo hi H Q) gSlice := by
  intro P H vs Vs Q v hw lv hg n
  unfold gSlice at hg
  split at hg
  · rename_i x l u
    obtain ⟨X, r1, f1, rfl, h1, Y, r2, f2, rfl, h2, Z, r3, f3, rfl, h3, rfl⟩ := hw
    split at hg
    · rename_i lo hi elo ehi
      refine ⟨X, Y, Z, lo, hi, rfl, h2.part elo, h3.part ehi, ?_⟩
      split at hg
      · split at hg
        · rename_i hp
          cases hg
          obtain ⟨a, Ws, g, rfl, hh, r, _⟩ := h1.lseq rfl
          exact .inl ⟨a, Ws, rfl, hh, fun p hp' => n.lst lv (r.cut lo hi hp) hp'⟩
        · cases hg
      · split at hg
        · rename_i hp
          cases hg
          obtain ⟨a, Ws, g, rfl, hh, r, _⟩ := h1.lseq rfl
          exact .inl ⟨a, Ws, rfl, hh, fun p hp' => n.lst lv (r.cut lo hi hp) hp'⟩
        · cases hg
      · split at hg
        · rename_i ws hp
          cases hg
          obtain ⟨a, Ws, g, rfl, hh, r, _⟩ := h1.tseq
          refine .inr ⟨a, Ws, rfl, hh, fun z => ?_, fun _ p hp' => n.tup lv (r.cut lo hi (pures_cut hp)) hp'⟩
          have : f1 = emp := h1.pure_emp (by simp [Val.pure, Tag.own, hp])
          subst this
          have e : cutL ws lo hi = ws := by
            unfold cutL
            rw [← r.length] at z
            rw [z.1, z.2]
            simp
          rw [e] at n
          exact n.sc lv h1
        · cases hg
      · cases hg
    · cases hg
  · cases hg
/-! ### isinstance of a built-in type -/
def tyName : Val → Option String
  | .non => some "NoneType"
  | .bl _ => some "bool"
  | .int _ => some "int"
  | .str _ => some "str"
  | .node .tup _ => some "tuple"
  | .node .ktup _ => some "tuple"
  | .node .ptup _ => none
  | .node .rol _ => none
  | .node (.lst _) _ => some "list"
  | .node (.dct _ _) _ => some "dict"
  | .node (.dtt _ _) _ => some "dict"
  | .node (.ins _ _ _) _ => none
def gIsi (T : String) : List Val → Option Val
  | [x] => match tyName x with
    | some t => (match t, T with
      | "bool", "int" => some (.bl true)
      | t, T => some (.bl (t == T)))
    | none => none
  | _ => none
theorem R.ty {v : Val} {U : V} {f : Ps} {t : String} (h : R K Cl P H v U f) (e : tyName v = some t) : TyX K H U (.type t) := by
  cases v with
  | non => simp only [tyName, Option.some.injEq] at e; subst e; simp only [R] at h; rw [h.1]; exact .base .non
  | bl b => simp only [tyName, Option.some.injEq] at e; subst e; simp only [R] at h; rw [h.1]; exact .base (.bl _)
  | int b => simp only [tyName, Option.some.injEq] at e; subst e; simp only [R] at h; rw [h.1]; exact .base (.int _)
  | str b => simp only [tyName, Option.some.injEq] at e; subst e; simp only [R] at h; rw [h.1]; exact .base (.str _)
  | node t vs =>
    obtain ⟨a, Ws, x, g, rfl, hh, _⟩ := h.node_items
    cases t with
    | tup => simp only [tyName, Option.some.injEq] at e; subst e; exact .base (.tup hh.1)
    | ktup =>
      simp only [tyName, Option.some.injEq] at e; subst e
      rcases hh.1 with (z | ⟨o, z⟩) | ⟨o, its, n, l, c, _⟩
      · cases z
      · cases z
      · exact .kTuple l c
    | ptup => simp [tyName] at e
    | rol => simp [tyName] at e
    | lst z => simp only [tyName, Option.some.injEq] at e; subst e; exact .base (.lst hh.1)
    | dct z ks => simp only [tyName, Option.some.injEq] at e; subst e; exact .base (.dK hh.1)
    | dtt z ks => simp only [tyName, Option.some.injEq] at e; subst e; exact .base (.dT hh.1)
    | ins z c fs => simp [tyName] at e
theorem kitB_ok : ∀ t ∈ ["NoneType", "bool", "int", "str", "tuple", "list", "dict"], ∀ T ∈ ["bool", "int", "str", "tuple", "list"], kitB t T = some (t == T || (t == "bool" && T == "int")) := by decide +kernel
theorem tyName_mem {v : Val} {t : String} (e : tyName v = some t) : t ∈ ["NoneType", "bool", "int", "str", "tuple", "list", "dict"] := by
  cases v with
  | node t vs => cases t <;> simp [tyName] at e <;> subst e <;> simp
  | _ => simp [tyName] at e; subst e; simp
theorem pr_isi {T : String} (hT : T ∈ ["bool", "int", "str", "tuple", "list"]) : PrimOk K Cl (fun Vs H Q => ∃ x, Vs = [x] ∧ rIsi K [x, .ty T] H Q) (gIsi T) := by
  intro P H vs Vs Q v hw lv hg n
  unfold gIsi at hg
  split at hg
  · split at hg
    · rename_i x _ t e
      obtain ⟨X, f, rfl, h⟩ := hw.one
      have k := kitB_ok t (tyName_mem e) T hT
      refine ⟨X, rfl, X, .ty T, .type t, .type T, _, rfl, .ty T, h.ty e, kit_ty k, ?_⟩
      split at hg
      · cases hg
        exact n.bl lv
      · rename_i hn
        cases hg
        have e2 : (t == T || (t == "bool" && T == "int")) = (t == T) := by
          cases q : (t == "bool" && T == "int") with
          | false => simp
          | true =>
            simp only [Bool.and_eq_true, beq_iff_eq] at q
            exact absurd q.2 (hn q.1)
        rw [e2]
        exact n.bl lv
    · cases hg
  · cases hg
end
end VS

/-! list(reversed(a list)) -/
namespace VRv
open PySem PySem.Spec PyProof.Rows L2
section
variable {pg : Program} {ww : World} {AA : Around} {EE : Value → Shared → Prop} {z0 : Shared}
/-- a reverse iterator over a list fills a new list -/
theorem ext_rev {ri li Z : Addr} {ys : Array Value} {RR : Result → Shared → Prop} (c0 : Nat) (h0 : AA.handled = none) (ir : z0.heap.IsRevIter ri li ((ys.size : Int) - 1)) (il : z0.heap.IsList li ys) (nlr : li ≠ ri) (nz : Z ∉ [ri, li]) (hsz : ys.size ≤ sizeLine)
    (zz : z0.heap.get? Z = some { cls := .type "list", data := .seq #[] c0 })
    (hRR : ∀ (z1 : Shared) (ac : Array Value) (cc : Nat), Moved (Z :: [ri]) (fun a b => b = a) z0 z1 → z1.heap.get? Z = some { cls := .type "list", dict := none, data := .seq ac cc, slots := #[] } →
      ItemsOf (fun i v => ys[ys.size - 1 - i]? = some v) ac ys.size → RR (.ok (.ret .none)) z1) :
    wpAny (model pg ww) AA.in1 (Builtin.List.listExtendWith (.ref Z) (.ref ri) .none)
      (fun fin z1 => match fin with | .done f => RR (.ok f) z1 | .again c' => c'.quiet = true ∧ codeAny (model pg ww) AA c' RR z1) (fun e z1 => RR (.error e) z1) z0 := by
  have WK := (Walks.listRev (prog := pg) (w := ww) (A := AA.in1) h0 ri li nlr ys).toS
  have zr : Z ≠ ri := fun e => nz (by simp [e])
  have tr : z0.TypeIs (.ref ri) "list_reverseiterator" := Heap.IsRevIter.typeIs ir
  have same : Builtin.List.listSameRef (.ref Z) (.ref ri) = false := by simp [Builtin.List.listSameRef, zr]
  unfold Builtin.List.listExtendWith
  refine wpAny_bind (wpAny_typeOf tr ?_)
  rw [if_neg (by rw [same]; decide)]
  refine wpAny_bind (wpAny_pyIter_revIter (s := z0) ir ?_)
  refine wpAny_bind (wpAny_holding ?_)
  unfold Builtin.List.listLengthHint
  refine wpAny_bind (wpAny_specialOf tr RT.nolen_lri ?_)
  show wpAny _ AA.in1 (specialOf (Value.ref ri) (Str.ofString "__length_hint__") >>= _) _ _ _
  refine wpAny_bind (wpAny_specialOf tr RT.hint_lri ?_)
  generalize hidZ : ("list_reverseiterator.__length_hint__" : String) = idZ
  wp_delta
  rw [show splitId idZ = some ("list_reverseiterator", "__length_hint__") from by subst hidZ; decide +kernel]
  subst hidZ
  refine wpAny_bind (wpAny_isInstance (b := true) tr (by rw [isSubtype_type]; kernel_rfl) ?_)
  refine wpAny_pure ?_
  rw [if_neg (by decide)]
  have e00 : ((ys.size : Nat) : Int) - 1 - ((0 : Nat) : Int) = (ys.size : Int) - 1 := by omega
  refine wpAny_pure ⟨plainId_quiet F.plain_extend_loop _, codeAny_extend_loopS WK hsz _ nz _ ys.size 0 _ _ _ rfl (Nat.zero_le _) ⟨Nat.zero_le _, by rw [e00]; exact ir, il⟩ zz (ItemsOf.nil _) fun z1 ac cc mv zz1 iac => ?_⟩
  exact hRR z1 ac cc mv zz1 iac
/-- list.__init__ over it -/
theorem init_rev {ri li Z : Addr} {ys : Array Value} {RR : Result → Shared → Prop} (h0 : AA.handled = none) (ir : z0.heap.IsRevIter ri li ((ys.size : Int) - 1)) (il : z0.heap.IsList li ys) (nlr : li ≠ ri) (nz : Z ∉ [ri, li]) (hsz : ys.size ≤ sizeLine)
    (zz : z0.heap.get? Z = some { cls := .type "list", data := .seq #[] })
    (hRR : ∀ (z1 : Shared) (ac : Array Value) (cc : Nat), Moved (Z :: [ri]) (fun a b => b = a) z0 z1 → z1.heap.get? Z = some { cls := .type "list", dict := none, data := .seq ac cc, slots := #[] } →
      ItemsOf (fun i v => ys[ys.size - 1 - i]? = some v) ac ys.size → RR (.ok (.ret .none)) z1) :
    wpAny (model pg ww) AA.in1 (Builtin.«list.__init__» ⟨[.ref Z, .ref ri], []⟩)
      (fun fin z1 => match fin with | .done f => RR (.ok f) z1 | .again c' => c'.quiet = true ∧ codeAny (model pg ww) AA c' RR z1) (fun e z1 => RR (.error e) z1) z0 := by
  show wpAny _ AA.in1 (do let was ← Builtin.List.listItems (.ref Z); Builtin.List.listUpdate (.ref Z) (fun _ => #[]); letGo was.toList.reverse; Builtin.List.listExtendWith (.ref Z) (.ref ri) .none) _ _ z0
  refine wpAny_bind ?_
  unfold Builtin.List.listItems
  refine wpAny_bind (wpAny_seqItems zz rfl (wpAny_pure ?_))
  show wpAny _ AA.in1 (updateSeq Z (fun _ => #[]) >>= fun _ => letGo (#[] : Array Value).toList.reverse >>= fun _ => Builtin.List.listExtendWith (.ref Z) (.ref ri) .none) _ _ z0
  refine wpAny_bind (wpAny_updateSeq zz rfl ?_)
  have zz2 := Heap.get?_update_self (Obj.mapSeq (fun _ => (#[] : Array Value))) zz rfl
  have oz : ∀ b o, b ≠ Z → z0.heap.get? b = some o → (z0.heap.update Z (Obj.mapSeq (fun _ => (#[] : Array Value)))).get? b = some o := fun b o n e => (Heap.get?_update_other _ _ (Ne.symm n)).trans e
  refine wpAny_bind (wpAny_letGo ?_)
  have zr : ri ≠ Z := fun e => nz (by simp [e])
  have zl : li ≠ Z := fun e => nz (by simp [e])
  refine ext_rev _ h0 (ir.at fun o e => oz _ o zr e) (il.at fun o e => oz _ o zl e) nlr nz hsz zz2 fun z1 ac cc mv zz1 iac => ?_
  have mr : Moved (Z :: [ri]) (fun a b : Array GenState => b = a) z0 z0 := Moved.refl fun _ => rfl
  have m0 : Moved (Z :: [ri]) (fun a b : Array GenState => b = a) z0 { z0 with heap := z0.heap.update Z (Obj.mapSeq (fun _ => (#[] : Array Value))) } := Moved.then_heap mr (Nat.le_refl _) fun b o hb e => oz b o (fun h => hb (by rw [h]; exact List.mem_cons_self)) e
  exact hRR z1 ac cc (Moved.trans (fun _ _ _ x y => y.trans x) m0 mv) zz1 iac
theorem call_list_rev {ri li : Addr} {ys : Array Value} {QQ : Value → Shared → Prop} (h0 : AA.handled = none) (ir : z0.heap.IsRevIter ri li ((ys.size : Int) - 1)) (il : z0.heap.IsList li ys) (nlr : li ≠ ri) (hsz : ys.size ≤ sizeLine)
    (hQ : ∀ (z1 : Shared) (ac : Array Value) (cc : Nat), Moved (z0.heap.objs.size :: [ri]) (fun a b => b = a) { z0 with heap := z0.heap.push { cls := .type "list", data := .seq #[] } } z1 → z1.heap.get? z0.heap.objs.size = some { cls := .type "list", dict := none, data := .seq ac cc, slots := #[] } →
      ItemsOf (fun i v => ys[ys.size - 1 - i]? = some v) ac ys.size → QQ (.ref z0.heap.objs.size) z1) :
    wpAny (model pg ww) AA (call (.type "list") [.ref ri]) QQ EE z0 := by
  obtain ⟨oi, hoi, _⟩ := id ir
  obtain ⟨ol, hol, _⟩ := id il
  have nz : z0.heap.objs.size ∉ [ri, li] := by
    simp only [List.mem_cons, List.not_mem_nil, or_false, not_or]
    exact ⟨Nat.ne_of_gt (Heap.lt_size hoi), Nat.ne_of_gt (Heap.lt_size hol)⟩
  refine callType_codes (Q₁ := fun ob z1 => ob = .ref z0.heap.objs.size ∧ z1 = { z0 with heap := z0.heap.push { cls := .type "list", data := .seq #[] } }) F.called_list (F.typeCall_list_1 _) F.entry_list_init (code_list_new _ ⟨rfl, rfl⟩) fun ob z1 hz => ?_
  obtain ⟨rfl, rfl⟩ := hz
  have zz : (z0.heap.push { cls := .type "list", data := .seq #[] }).get? z0.heap.objs.size = some { cls := .type "list", data := .seq #[] } := Heap.get?_push_size _ rfl
  refine ⟨⟨_, zz, rfl⟩, F.args_list_init_2 _ _, init_rev (AA := AA.in1) h0 (ir.at fun o e => Heap.get?_push_of_some _ e) (il.push _) nlr nz hsz zz fun z1 ac cc mv zz1 iac => ?_⟩
  exact ⟨rfl, hQ z1 ac cc mv zz1 iac⟩
end
/-- list(reversed(x)), x a list -/
def tLstRev (K : PySem.W.Frag) (te : TE) : TE := fun σ H Q => te σ H fun v H1 => ∃ (a : Addr) (xs : List V), v = .ref a ∧ SqL K H1 a xs ∧ ∀ q, H1 q = none → Q (.ref q) (upd H1 q (.lst xs.reverse))
theorem pe_listRev {X : Cx} {e : Expr} {te : TE} {p p2 pos pos2 : Pos} (hc : X.calm = true) (hg : Gl X "list") (hm : X.mg "list" = none) (hg2 : Gl X "reversed") (hm2 : X.mg "reversed" = none) (he : PE X e te)
    (hs : starEach [e] X.env = (false, eval e X.env) :: starEach [] X.env) :
    PE X (.Call (.Name "list" p) [.Call (.Name "reversed" p2) [e] [] pos2] [] pos) (tLstRev X.K te) := by
  refine ⟨fun pins s σ H Q I h => ?_⟩
  refine Call_ (ld_blt I hg hm PyProof.Rows.boot_list (PyProof.Rows.callWith_type1 (args_cons (Call_ (ld_blt I hg2 hm2 PyProof.Rows.boot_reversed (PyProof.Rows.callWith_type1 (args_cons (thn (he.run pins s σ H _ I h) fun u s1 ⟨v, H1, I1, r1, q1⟩ => args_nil ?_) hs) hs rfl))) rfl) rfl rfl))
  obtain ⟨a, xs, ev, hq, q⟩ := q1
  subst ev
  obtain rfl : u = Value.ref a := r1
  obtain ⟨its, rv, p', hz⟩ := I1.list hq
  refine call_reversed_list p'.isList (args_nil ?_)
  have keep : ∀ b o, s1.heap.get? b = some o → (s1.heap.push (revObj a ((its.toArray.size : Int) - 1))).get? b = some o := fun b o e => Heap.get?_push_of_some _ e
  have J : Inv X pins σ H1 { s1 with heap := s1.heap.push (revObj a ((its.toArray.size : Int) - 1)) } := I1.kept (t' := s1.toks) keep
  have fp := I1.fpOk (H' := H1) (b := s1.heap.objs.size) (Nat.le_refl _) (I1.hok.fresh (Nat.le_refl _))
  have hl := p'.isList
  obtain ⟨ol, hol, _⟩ := id hl
  have hne : a ≠ s1.heap.objs.size := Nat.ne_of_lt (Heap.lt_size hol)
  have hn : its.toArray.size ≤ sizeLine := by rw [List.size_toArray, ← rv.length]; exact hz
  refine call_list_rev (z0 := { s1 with heap := s1.heap.push (revObj a ((its.toArray.size : Int) - 1)) }) (I1.ok.hd hc) ⟨_, Heap.get?_push_size _ rfl, rfl, rfl⟩ (hl.push _) hne hn fun z1 ac cc mv zz1 iac => ?_
  have JN := J.turnedNew (t' := z1.toks) (ch := [s1.heap.objs.size]) (h' := z1.heap) (T := (s1.heap.push (revObj a ((its.toArray.size : Int) - 1))).objs.size) (ob := .lst xs.reverse)
    (fun b o hb e => mv.heap b o (fun hm => by
      rcases List.mem_cons.mp hm with h' | h'
      · exact absurd (Heap.lt_size e) (by rw [h']; exact Nat.lt_irrefl _)
      · exact hb h') (Heap.get?_push_of_some _ e)) (fun b hb => by rw [List.mem_singleton.mp hb]; exact fp) (Nat.le_refl _)
    (show ObjOk X.prog X.w _ _ _ (.lst xs.reverse) from ⟨by rw [List.length_reverse]; exact hz, ac.toList, cc, RT.vals_rev rv iac, by rw [Array.toArray_toList]; exact zz1⟩)
  rw [Moved.eq_with mv]
  exact ⟨.ref _, _, JN, rfl, q _ (J.hok.fresh (Nat.le_refl _))⟩
end VRv

namespace VS
open PySem L2

/-! ### the text as a tree of our own: names by slots, defs by numbers -/
inductive Bin where
  | add | sub | mul | fdiv | mod | pow | band | shr | rep
inductive Cmp where
  | eq | ne | lt | le | gt | ge | is | isnot | inn | notin | eqS | neS
/-- functions and types of builtins, methods that only read -/
inductive Bi where
  | len | list | tuple | sorted | sum | all | any | min2 | max2 | int | max1 | min1 | lenD | sortedD | dictD | dictP | repr | tupleP
/-- methods that change their list or dict -/
inductive Mu where
  | append | pop | clear | remove | popAt | reverse | extend
inductive Tg where
  | name (i : Nat)
  | tup (is : List Nat)
inductive ItK where
  | seq | range1 | range2 | rev | enum | range3
/-- methods of a list that only read, of one argument -/
inductive Q1 where
  | lindex | lcount
mutual
inductive Ex where
  | non
  | bl (b : Bool)
  | int (i : Int)
  | str (x : Str)
  | var (i : Nat)
  | mv (i : Nat)
  | own (e : Ex)
  | frz (e : Ex)
  | glo (x : Str)
  | bin (op : Bin) (a b : Ex)
  | neg (a : Ex)
  | cmp (op : Cmp) (a b : Ex)
  | chain (op op' : Cmp) (a b c : Ex)
  | chain3 (op op' op'' : Cmp) (a b c d : Ex)
  | and (a b : Ex)
  | or (a b : Ex)
  | not (a : Ex)
  | ifx (c a b : Ex)
  | bi (f : Bi) (es : Exs)
  | isi (T : String) (e : Ex)
  | ix (a i : Ex)
  | asInt (e : Ex)
  | slc (a lo hi : Ex)
  | fld (c : Nat) (e : Ex) (f : Str)
  | meth (f c : Nat) (m : Str) (o : Ex) (es : Exs)
  | methM (f c : Nat) (m : Str) (o : Ex) (es : Exs)
  | make (c f : Nat) (es : Exs)
  | tup (es : Exs)
  | lst (es : Exs)
  | call (f : Nat) (es : Exs)
  | callM (f : Nat) (es : Exs)
  | mu (m : Mu) (o : Ex) (es : Exs)
  | comp (tg : Tg) (k : ItK) (its : Exs) (tests : Exs) (elt : Ex)
  | compP (tg : Tg) (i : Nat) (tests : Exs) (elt : Ex)
  | compQ (tg : Tg) (i : Nat) (tests : Exs) (elt : Ex)
  | listrev (e : Ex)
  | sset (e : Ex)
  | lrng (a b : Ex)
  | bitlen (e : Ex)
  | ixd (a i : Ex)
  | get1 (o a : Ex)
  | q1 (m : Q1) (o a : Ex)
  | get2 (o a b : Ex)
  | dnew (t : Bool)
  | ddis (es : Exs)
  | nevE
inductive Exs where
  | nil
  | cons (e : Ex) (es : Exs)
end
mutual
inductive St where
  | set (i : Nat) (e : Ex)
  | unp (is : List Nat) (e : Ex)
  | expr (e : Ex)
  | ret (e : Ex)
  | retN
  | ifs (c : Ex) (a b : Blk)
  | fors (tg : Tg) (k : ItK) (its : Exs) (body : Blk)
  | forsP (tg : Tg) (i : Nat) (body : Blk)
  | whiles (c : Ex) (body : Blk)
  | pass
  | aft (i : Nat) (s : St)
  | dput (e o k : Ex)
  | lput (e o k : Ex)
  | linc (c : Int) (o k : Ex)
  | fput (c : Nat) (f : Str) (e o : Ex)
  | nev
  | swp (i : Nat) (e k1 k2 : Ex)
  | rais (c : Nat)
  | tryk (b : Blk) (j i : Nat) (tb : List (List Bool))
inductive Blk where
  | nil
  | cons (s : St) (b : Blk)
end

/-! ### what a def comes to -/
inductive FRes where
  | ok (v : Val) (fin : List Val)
  | exc (x : Xc) (fin : List Val)
  | bad
inductive Flow where
  | next (ρ : Env)
  | ret (v : Val) (ρ : Env)
  | exc (x : Xc) (ρ : Env)
  | bad
/-- the defs: which parameters each may change, and what it comes to -/
structure Defs where
  modes : Nat → List Bool
  run : Nat → List Val → FRes

/-! ### which expressions change nothing -/
mutual
def eff : Ex → Bool
  | .mv _ => true
  | .own _ => true
  | .frz _ => true
  | .bin _ a b => eff a || (eff b || false)
  | .neg a => eff a || false
  | .cmp _ a b => eff a || (eff b || false)
  | .chain _ _ a b c => eff a || (eff b || eff c)
  | .chain3 _ _ _ a b c d => eff a || (eff b || (eff c || eff d))
  | .and a b => eff a || eff b
  | .or a b => eff a || eff b
  | .not a => eff a
  | .ifx c a b => eff c || (eff a || eff b)
  | .bi _ es => effs es
  | .isi _ e => eff e || false
  | .ix a i => eff a || (eff i || false)
  | .asInt e => eff e
  | .slc a lo hi => eff a || (eff lo || (eff hi || false))
  | .fld _ e _ => eff e
  | .meth _ _ _ o es => eff o || effs es
  | .methM _ _ _ _ _ => true
  | .make _ _ es => effs es
  | .tup es => effs es
  | .lst es => effs es
  | .call _ es => effs es
  | .callM _ _ => true
  | .mu _ _ _ => true
  | .comp _ _ _ _ _ => true
  | .compP _ _ _ _ => true
  | .listrev e => eff e || false
  | .sset e => eff e || false
  | .lrng a b => eff a || (eff b || false)
  | .bitlen e => eff e || false
  | .ixd a i => eff a || (eff i || false)
  | .get1 o a => eff o || (eff a || false)
  | .q1 _ o a => eff o || (eff a || false)
  | .get2 o a b => eff o || (eff a || (eff b || false))
  | .ddis es => effs es
  | _ => false
def effs : Exs → Bool
  | .nil => false
  | .cons e es => eff e || effs es
end

/-! ### dicts -/
section
variable {κ : Type} [DecidableEq κ]
def idxK : List κ → κ → Option Nat
  | [], _ => none
  | j :: ks, k => if j = k then some 0 else (idxK ks k).map fun i => i + 1
def putKs (ks : List κ) (k : κ) : List κ := match idxK ks k with
  | some _ => ks
  | none => ks ++ [k]
def putVs {α : Type} (ks : List κ) (vs : List α) (k : κ) (v : α) : List α := match idxK ks k with
  | some i => vs.set i v
  | none => vs ++ [v]
end
def intKs : List Key → Option (List Int)
  | [] => some []
  | .inl i :: ks => (intKs ks).map fun is => i :: is
  | _ => none
/-- a dict's keys as they stand, its values -/
def dixOf : Val → Val → Option (Tag × List Val × Nat)
  | .node (.dct z ks) vs, k => (keyOf k).bind fun q => (idxK ks q).map fun i => (.dct z ks, vs, i)
  | .node (.dtt z ks) vs, .node .tup xs => (keysOf xs).bind fun q => (idxK ks q).map fun i => (.dtt z ks, vs, i)
  | _, _ => none
def gLenD : List Val → Option Val
  | [.node (.dct _ _) vs] => some (.int vs.length)
  | _ => none
def gSortedD : List Val → Option Val
  | [.node (.dct _ ks) _] => (intKs ks).map fun ns => .node (.lst false) ((srt ns).map .int)
  | _ => none
def gDictD : List Val → Option Val
  | [.node (.dct _ ks) vs] => if pures vs = true then some (.node (.dct false ks) vs) else none
  | _ => none
def pairsOf : List Val → Option (List Key × List Val)
  | [] => some ([], [])
  | .node .tup [k, v] :: r => (keyOf k).bind fun q => (pairsOf r).map fun p => (q :: p.1, v :: p.2)
  | _ => none
def mergeP : List Key → List Val → List Key → List Val → List Key × List Val
  | ks, vs, k :: qs, v :: ws => mergeP (putKs ks k) (putVs ks vs k v) qs ws
  | ks, vs, _, _ => (ks, vs)
def lpOf : Val → Option (List Val)
  | .node .ptup vs => some vs
  | .node .rol vs => some vs
  | .node (.lst _) vs => some vs
  | _ => none
def gDictP : List Val → Option Val
  | [x] => (lpOf x).bind fun xs => (pairsOf xs).bind fun p => if pures p.2 = true then some (.node (.dct false (mergeP [] [] p.1 p.2).1) (mergeP [] [] p.1 p.2).2) else none
  | _ => none
def gTupleP : List Val → Option Val
  | [.node (.lst _) xs] => if pures xs = true then some (.node .ptup xs) else none
  | _ => none
def gGet2 : List Val → Option Val
  | [x, k, d] => match x with
    | .node (.dct _ ks) vs => (keyOf k).bind fun q => (match (idxK ks q).bind fun i => vs[i]? with
      | some v => if v.pure = true then some v else none
      | none => if d.pure = true then some d else none)
    | .node (.dtt _ ks) vs => (match k with
      | .node .tup xs => (keysOf xs).bind fun q => (match (idxK ks q).bind fun i => vs[i]? with
        | some v => if v.pure = true then some v else none
        | none => if d.pure = true then some d else none)
      | _ => none)
    | _ => none
  | _ => none
def gGet1 : List Val → Option Val
  | [x, k] => gGet2 [x, k, .non]
  | _ => none
/-- l.index(x), l.count(x), plain things -/
def gQ1 (m : Q1) : List Val → Option Val
  | [x, k] => (lseqOf x).bind fun ys => if (flatVal k && ys.all flatVal) = true then (match toD k, toDs ys with
    | some d, some ds => (match m with
      | .lindex => (ds.findIdx? fun z => PyData.eqv z d).map fun j => .int (j : Nat)
      | .lcount => some (.int ((ds.countP fun z => PyData.eqv z d : Nat) : Int)))
    | _, _ => none) else none
  | _ => none
def isLq : Val → Bool
  | .node (.lst _) _ => true
  | .node .rol _ => true
  | _ => false
/-- what is shown by repr -/
def reprB (d : PyData) : Bool := d.showable && decide (d.depth ≤ 60) && decide (d.shown.length ≤ 1000000)
def gRepr : List Val → Option Val
  | [x] => (toD x).bind fun d => if reprB d = true then some (.str d.shown) else none
  | _ => none
/-- texts compared -/
def gEqS (neg : Bool) : List Val → Option Val
  | [.str a, .str b] => some (.bl (if neg = true then !decide (a = b) else decide (a = b)))
  | _ => none
def gBand : List Val → Option Val
  | [.int i, .int j] => some (.int (Builtin.bitAnd i j))
  | _ => none
def gShr : List Val → Option Val
  | [.int i, .int j] => if decide (0 ≤ j) = true then some (.int (i / 2 ^ j.toNat)) else none
  | _ => none
/-- a list again and again -/
def gRep : List Val → Option Val
  | [.node (.lst _) xs, .int k] => if (pures xs && decide (0 ≤ k ∧ k ≤ 1000) && lineB (xs.length * k.toNat)) = true then some (.node (.lst false) (List.replicate k.toNat xs).flatten) else none
  | _ => none
/-- a dict display's keys and values in turn -/
def disOf : List Val → Option (List Key × List Val)
  | [] => some ([], [])
  | k :: v :: r => (keyOf k).bind fun q => (disOf r).map fun p => (q :: p.1, v :: p.2)
  | _ => none
def gDis (vs : List Val) : Option Val := (disOf vs).bind fun p => if (pures p.2 && decide (p.1.length ≤ 15)) = true then some (.node (.dct false (mergeP [] [] p.1 p.2).1) (mergeP [] [] p.1 p.2).2) else none
/-- whole numbers, each once, rising -/
def uniqI : List Int → List Int
  | [] => []
  | x :: xs => if x ∈ uniqI xs then uniqI xs else x :: uniqI xs
def sset (ns : List Int) : List Int := srt (uniqI ns)
def gSset : List Val → Option Val
  | [x] => (lseqOf x).bind fun vs => (intsOf vs).bind fun ns => if decide (ns.length < 64) = true then some (.node (.lst false) ((sset ns).map .int)) else none
  | _ => none
/-! ### pieces -/
def gBin : Bin → List Val → Option Val
  | .add => gAdd | .sub => gSub | .mul => gMul | .fdiv => gFdiv | .mod => gMod | .pow => gPow | .band => gBand | .shr => gShr | .rep => gRep
def gCmpo : Cmp → List Val → Option Val
  | .eq => gEq | .ne => gNe
  | .lt => gCmp fun i j => decide (i < j) | .le => gCmp fun i j => decide (i ≤ j) | .gt => gCmp fun i j => decide (j < i) | .ge => gCmp fun i j => decide (j ≤ i)
  | .eqS => gEqS false | .neS => gEqS true
  | .is => gIs false | .isnot => gIs true | .inn => gIn false | .notin => gIn true
def gBi : Bi → List Val → Option Val
  | .len => gLen | .list => gList | .tuple => gTuple | .sorted => gSorted | .sum => gSum | .all => gAll | .any => gAny | .min2 => gMin2 | .max2 => gMax2 | .int => gInt | .max1 => gMax1 | .min1 => gMin1 | .lenD => gLenD | .sortedD => gSortedD | .dictD => gDictD | .dictP => gDictP | .repr => gRepr | .tupleP => gTupleP
def gListrev : List Val → Option Val
  | [.node .rol xs] => if pures xs = true then some (.node (.lst false) xs.reverse) else none
  | [.node (.lst _) xs] => if pures xs = true then some (.node (.lst false) xs.reverse) else none
  | _ => none
def gBitlen : List Val → Option Val
  | [.int i] => some (.int (Builtin.Int.intBits i : Nat))
  | _ => none
/-- a name's value -/
def sVar (i : Nat) : Env → Res (Val × Src) := fun ρ => match ρ[i]? with
  | some (some v) => .ok (v, if v.pure = true then .tmp else .plc i []) ρ
  | _ => .bad
def sMv (i : Nat) : Env → Res (Val × Src) := fun ρ => match ρ[i]? with
  | some (some v) => .ok (v, .tmp) (ρ.set i none)
  | _ => .bad
def putAt (ρ : Env) (i : Nat) (p : List Nat) (v : Val) : Env := match ρ[i]? with
  | some (some v0) => ρ.set i (some (setp v0 p v))
  | _ => ρ
/-- made one's own: what stands at a place is frozen there -/
def own1 : (Val × Src) → Env → Res (Val × Src)
  | (v, .tmp), ρ => .ok (v, .tmp) ρ
  | (v, .plc i p), ρ => .ok (v.freeze, .tmp) (putAt ρ i p v.freeze)
  | (_, .brw), _ => .bad
/-- frozen, also where it stands nowhere -/
def frz1 : (Val × Src) → Env → Res (Val × Src)
  | (v, .tmp), ρ => .ok (v.freeze, .tmp) ρ
  | (v, .plc i p), ρ => .ok (v.freeze, .tmp) (putAt ρ i p v.freeze)
  | (_, .brw), _ => .bad
def frzAt (i : Nat) (ρ : Env) : Env := match ρ[i]? with
  | some (some v) => putAt ρ i [] v.freeze
  | _ => ρ
/-- a child of what is at hand -/
def childSrc (s : Src) (t : Tag) (k : Nat) (v : Val) : Src := if v.pure = true then .tmp else match s with
  | .tmp => .tmp
  | .brw => .brw
  | .plc i p => if t.own = true then .plc i (p ++ [k]) else .brw
def sInt1 : (Val × Src) → Env → Res (Val × Src)
  | (.int i, _), ρ => .ok (.int i, .tmp) ρ
  | _, _ => .bad
def seqIx : Val → Option (Tag × List Val)
  | .node .tup vs => some (.tup, vs)
  | .node .ktup vs => some (.ktup, vs)
  | .node .rol vs => some (.rol, vs)
  | .node (.lst z) vs => some (.lst z, vs)
  | _ => none
def sIx : List (Val × Src) → Env → Res (Val × Src)
  | [(x, s), (.int i, _)], ρ => (match seqIx x with
    | some (t, vs) => (match ixN vs.length i with
      | some k => (match vs[k]? with
        | some v => .ok (v, childSrc s t k v) ρ
        | none => .bad)
      | none => .bad)
    | none => .bad)
  | _, _ => .bad
def isDct : Val → Bool
  | .node (.dct _ _) _ => true
  | .node (.dtt _ _) _ => true
  | _ => false
def sDx : List (Val × Src) → Env → Res (Val × Src)
  | [(x, s), (k, _)], ρ => (match dixOf x k with
    | some (t, vs, i) => (match vs[i]? with
      | some v => .ok (v, childSrc s t i v) ρ
      | none => .bad)
    | none => .bad)
  | _, _ => .bad
def gNewK : List Val → Option Val
  | [] => some (.node (.dct false []) [])
  | _ => none
def gNewT : List Val → Option Val
  | [] => some (.node (.dtt false []) [])
  | _ => none
/-- what stands behind d[k] = v, xs[i] = v -/
def putOf : Val → Val → Val → Option Val
  | .node (.dct false ks) vs, k, v => (keyOf k).bind fun q => if decide (vs.length < 16777216) = true then some (.node (.dct false (putKs ks q)) (putVs ks vs q v)) else none
  | .node (.dtt false ks) vs, .node .tup xs, v => (keysOf xs).bind fun q => if decide (vs.length < 16777216) = true then some (.node (.dtt false (putKs ks q)) (putVs ks vs q v)) else none
  | _, _, _ => none
def lputOf : Val → Val → Val → Option Val
  | .node (.lst false) vs, .int i, v => (ixN vs.length i).map fun j => .node (.lst false) (vs.set j v)
  | _, _, _ => none
def lincOf : Val → Val → Val → Option Val
  | .node (.lst false) vs, .int i, .int c => (ixN vs.length i).bind fun j => if decide (0 ≤ i ∧ i < 1000) = true then (match vs[j]? with
    | some (.int n) => some (.node (.lst false) (vs.set j (.int (n + c))))
    | _ => none) else none
  | _, _, _ => none
/-! ### instances -/
def sFld (c : Nat) (f : Str) : (Val × Src) → Env → Res (Val × Src)
  | (.node (.ins z c' fs) vs, s), ρ => if c' = c then (match idxK fs f with
    | some i => (match vs[i]? with
      | some v => .ok (v, childSrc s (.ins z c' fs) i v) ρ
      | none => .bad)
    | none => .bad) else .bad
  | _, _ => .bad
def isIns (c : Nat) (m : Str) : Val → Bool
  | .node (.ins _ c' fs) _ => decide (c' = c) && decide (m ∉ fs)
  | _ => false
def fputOf (c : Nat) (f : Str) (x v : Val) : Option Val := match x with
  | .node (.ins false c' fs) vs => if (decide (c' = c) && decide (vs.length < 1000)) = true then some (.node (.ins false c' (putKs fs f)) (putVs fs vs f v)) else none
  | _ => none
/-- a new list or tuple of things of one's own -/
def allTmp : List (Val × Src) → Bool
  | [] => true
  | (_, .tmp) :: r => allTmp r
  | _ => false
def sNode (t : Tag) (as : List (Val × Src)) (ρ : Env) : Res (Val × Src) := if (allTmp as && lineB as.length) = true then .ok (.node t (as.map (·.1)), .tmp) ρ else .bad
/-- a def that changes none of its arguments -/
def sCall (D : Defs) (f : Nat) (as : List (Val × Src)) (ρ : Env) : Res (Val × Src) :=
  if (D.modes f).any id = true then .bad else
  match D.run f (freezes (as.map (·.1))) with
  | .ok v _ => if (pures (as.map (·.1)) || v.nofz) = true then .ok (v, .tmp) ρ else .bad
  | .exc x _ => .exc x ρ
  | .bad => .bad
/-- a new instance of class c, by its __init__ f -/
def sMake (D : Defs) (c f : Nat) (as : List (Val × Src)) (ρ : Env) : Res (Val × Src) := match D.modes f with
  | true :: ms => if (!ms.any id && allTmp as && pures (as.map (·.1)) && decide (ms.length = as.length)) = true then
      (match D.run f (.node (.ins false c []) [] :: as.map (·.1)) with
      | .ok .non (v :: _) => .ok (v, .tmp) ρ
      | .exc x _ => .exc x ρ
      | _ => .bad) else .bad
  | _ => .bad
/-- the slots of the arguments that may be changed -/
def mSlots : List Bool → List (Val × Src) → List Nat
  | true :: ms, (_, .plc i _) :: as => i :: mSlots ms as
  | _ :: ms, _ :: as => mSlots ms as
  | _, _ => []
def nodupB : List Nat → Bool
  | [] => true
  | i :: r => !r.contains i && nodupB r
/-- each argument may go: one to be changed is somebody's own or stands at a place; any other is pure, new, or at a place that is none of these -/
def mArgs (sl : List Nat) : List Bool → List (Val × Src) → Bool
  | [], [] => true
  | true :: ms, (_, s) :: as => (match s with
    | .brw => false
    | _ => true) && mArgs sl ms as
  | false :: ms, (v, s) :: as => (v.pure || (match s with
    | .tmp => true
    | .plc i _ => !sl.contains i
    | .brw => false)) && mArgs sl ms as
  | _, _ => false
def mVals : List Bool → List (Val × Src) → List Val
  | true :: ms, (v, _) :: as => v :: mVals ms as
  | false :: ms, (v, _) :: as => v.freeze :: mVals ms as
  | _, _ => []
/-- nothing frozen is kept of arguments that are not pure -/
def mKeep : List Bool → List (Val × Src) → List Val → Bool
  | true :: ms, _ :: as, v :: fin => v.nofz && mKeep ms as fin
  | false :: ms, _ :: as, _ :: fin => mKeep ms as fin
  | _, _, _ => true
def mPure : List Bool → List (Val × Src) → Bool
  | true :: ms, _ :: as => mPure ms as
  | false :: ms, (v, _) :: as => v.pure && mPure ms as
  | _, _ => true
def mPut : List Bool → List (Val × Src) → List Val → Env → Env
  | true :: ms, (_, .plc i p) :: as, v :: fin, ρ => mPut ms as fin (putAt ρ i p v)
  | _ :: ms, _ :: as, _ :: fin, ρ => mPut ms as fin ρ
  | _, _, _, ρ => ρ
def sCallM (D : Defs) (f : Nat) (as : List (Val × Src)) (ρ : Env) : Res (Val × Src) :=
  let ms := D.modes f
  let sl := mSlots ms as
  if (nodupB sl && mArgs sl ms as) = true then
    match D.run f (mVals ms as) with
    | .ok v fin => if (mPure ms as || (v.nofz && mKeep ms as fin)) = true then .ok (v, .tmp) (mPut ms as fin ρ) else .bad
    | .exc x fin => if (mPure ms as || mKeep ms as fin) = true then .exc x (mPut ms as fin ρ) else .bad
    | .bad => .bad
  else .bad
/-- a value of a certain kind -/
def sMid (m : Val → Bool) (s : Env → Res (Val × Src)) : Env → Res (Val × Src) := fun ρ => (s ρ).bind fun a ρ1 => if m a.1 = true then .ok a ρ1 else .bad
def isLst : Val → Bool
  | .node (.lst false) _ => true
  | _ => false
/-- a list changed at its place -/
def gMu : Mu → Val → List Val → Option (Val × Val)
  | .append, .node (.lst false) xs, [v] => if decide (xs.length < 16777216) = true then some (.non, .node (.lst false) (xs ++ [v])) else none
  | .pop, .node (.lst false) xs, [] => (match xs[xs.length - 1]? with
    | some v => some (v, .node (.lst false) xs.dropLast)
    | none => none)
  | .clear, .node (.lst false) _, [] => some (.non, .node (.lst false) [])
  | .remove, .node (.lst false) xs, [.int i] => (match intsOf xs with
    | some ns => if i ∈ ns then some (.non, .node (.lst false) ((ns.erase i).map .int)) else none
    | none => none)
  | .popAt, .node (.lst false) xs, [.int i] => if decide (-4611686018427387904 ≤ i ∧ i < 4611686018427387904) = true then (match ixN xs.length i with
    | some k => (match xs[k]? with
      | some v => some (v, .node (.lst false) (xs.eraseIdx k))
      | none => none)
    | none => none) else none
  | .extend, .node (.lst false) xs, [.node (.lst _) ys] => if (pures ys && lineB (xs.length + ys.length)) = true then some (.non, .node (.lst false) (xs ++ ys)) else none
  | .reverse, .node (.lst false) xs, [] => some (.non, .node (.lst false) xs.reverse)
  | _, _, _ => none
def sMu (m : Mu) : List (Val × Src) → Env → Res (Val × Src)
  | (x, .plc i p) :: as, ρ => if allTmp as = true then (match gMu m x (as.map (·.1)) with
    | some (v, x') => .ok (v, .tmp) (putAt ρ i p x')
    | none => .bad) else .bad
  | (x, .tmp) :: as, ρ => if allTmp as = true then (match gMu m x (as.map (·.1)) with
    | some (v, _) => .ok (v, .tmp) ρ
    | none => .bad) else .bad
  | _, _ => .bad
/-- what is walked, item by item -/
def rangeL (lo : Int) : Nat → List Val
  | 0 => []
  | n + 1 => .int lo :: rangeL (lo + 1) n
def enumL (k : Nat) : List Val → List Val
  | [] => []
  | x :: xs => .node .tup [.int k, x] :: enumL (k + 1) xs
def rangeS (lo c : Int) : Nat → List Val
  | 0 => []
  | n + 1 => .int lo :: rangeS (lo + c) c n
def itemsOf : ItK → List Val → Option (List Val)
  | .seq, [.node .tup xs] => some (freezes xs)
  | .seq, [.node .ptup xs] => some (freezes xs)
  | .seq, [.node .rol xs] => some (freezes xs)
  | .seq, [.node (.lst _) xs] => some (freezes xs)
  | .range1, [.int j] => if decide (-(2 ^ 62) ≤ j ∧ j < 2 ^ 62) = true then some (rangeL 0 j.toNat) else none
  | .range2, [.int i, .int j] => if decide (-(2 ^ 62) ≤ i ∧ i < 2 ^ 62 ∧ -(2 ^ 62) ≤ j ∧ j < 2 ^ 62) = true then some (rangeL i (j - i).toNat) else none
  | .rev, [.node .rol xs] => some (freezes xs.reverse)
  | .rev, [.node (.lst _) xs] => some (freezes xs.reverse)
  | .enum, [.node .rol xs] => some (enumL 0 (freezes xs))
  | .enum, [.node (.lst _) xs] => some (enumL 0 (freezes xs))
  | .range3, [.int i, .int j, .int c] => if (decide (0 < c ∧ c < 1073741824) && Builtin.Range.small i j c) = true then some (rangeS i c (Builtin.Range.rangeSize i j c).toNat) else none
  | _, _ => none
/-- list(range(i, j)) -/
def gLrng : List Val → Option Val
  | [.int i, .int j] => if decide (-(2 ^ 62) ≤ i ∧ i < 2 ^ 62 ∧ -(2 ^ 62) ≤ j ∧ j < 2 ^ 62 ∧ (j - i).toNat ≤ 16777216) = true then some (.node (.lst false) (rangeL i (j - i).toNat)) else none
  | _ => none
def cmpI : Cmp → Int → Int → Bool
  | .lt, i, j => decide (i < j)
  | .le, i, j => decide (i ≤ j)
  | .gt, i, j => decide (j < i)
  | .ge, i, j => decide (j ≤ i)
  | _, _, _ => false
def cmpV (op : Cmp) : Val → Val → Bool
  | .int i, .int j => cmpI op i j
  | _, _ => false
def setAll : List Nat → List Val → Env → Option Env
  | [], [], ρ => some ρ
  | i :: is, v :: vs, ρ => if i < ρ.length then setAll is vs (ρ.set i (some v)) else none
  | _, _, _ => none
def bindTg : Tg → Val → Env → Option Env
  | .name i, v, ρ => if i < ρ.length then some (ρ.set i (some v)) else none
  | .tup is, .node .tup vs, ρ => setAll is vs ρ
  | _, _, _ => none
def Tg.slots : Tg → List Nat
  | .name i => [i]
  | .tup is => is
def wipeE (ρ : Env) : List Nat → Env
  | [] => ρ
  | v :: vs => (wipeE ρ vs).set v none
/-- behind a comprehension its own names are what they were (only pure ones are let through) -/
def backE (ρ0 ρ : Env) : List Nat → Env
  | [] => ρ
  | v :: vs => match ρ0[v]? with
    | some (some x) => if x.pure = true then (backE ρ0 ρ vs).set v (some x) else backE ρ0 ρ vs
    | _ => backE ρ0 ρ vs
def noHd : Env → Bool := fun _ => true
/-- whether the name's value is this (told by choice) -/
noncomputable def holdsB (i : Nat) (v : Val) (ρ : Env) : Bool := @decide (ρ[i]? = some (some v)) (Classical.propDecidable _)
theorem holdsB_of {i : Nat} {v : Val} {ρ : Env} (h : ρ[i]? = some (some v)) : holdsB i v ρ = true := @decide_eq_true _ (Classical.propDecidable _) h
theorem of_holdsB {i : Nat} {v : Val} {ρ : Env} (h : holdsB i v ρ = true) : ρ[i]? = some (some v) := @of_decide_eq_true _ (Classical.propDecidable _) h
def compRH (hd : Env → Bool) (bind : Val → Env → Option Env) (vs : List Nat) (test : Env → Res Bool) (elt : Env → Res (Val × Src)) : List Val → Env → List Val → Res (List Val)
  | [], ρ, acc => if hd ρ = true then .ok acc ρ else .bad
  | x :: xs, ρ, acc => if hd ρ = true then (match bind x ρ with
    | none => .bad
    | some ρ1 => (match test ρ1 with
      | .ok true ρ2 => (match elt ρ2 with
        | .ok (v, .tmp) ρ3 => if decide (acc.length < 16777216) = true then compRH hd bind vs test elt xs (wipeE ρ3 vs) (acc ++ [v]) else .bad
        | _ => .bad)
      | .ok false ρ2 => compRH hd bind vs test elt xs (wipeE ρ2 vs) acc
      | _ => .bad)) else .bad
abbrev compR (bind : Val → Env → Option Env) (vs : List Nat) (test : Env → Res Bool) (elt : Env → Res (Val × Src)) : List Val → Env → List Val → Res (List Val) := compRH noHd bind vs test elt
/-- the pure things of the list or tuple that a name holds -/
def seqAt (ρ : Env) (i : Nat) : Option (List Val) := match ρ[i]? with
  | some (some (.node .tup xs)) => if pures xs = true then some xs else none
  | some (some (.node .rol xs)) => if pures xs = true then some xs else none
  | some (some (.node (.lst _) xs)) => if pures xs = true then some xs else none
  | _ => none
/-- the list of pure things that a name holds -/
def lstAt (ρ : Env) (i : Nat) : Option (List Val) := match ρ[i]? with
  | some (some (.node (.lst false) xs)) => if pures xs = true then some xs else none
  | _ => none
/-- a test's answer -/
def Res.test : Res (Val × Src) → Res Bool
  | .ok (.bl c, _) ρ => .ok c ρ
  | .ok _ _ => .bad
  | .exc x ρ => .exc x ρ
  | .bad => .bad

/-! ### expressions -/
mutual
noncomputable def ev (D : Defs) (G : Str → Option Val) : Ex → Env → Res (Val × Src)
  | .non => fun ρ => .ok (.non, .tmp) ρ
  | .bl b => fun ρ => .ok (.bl b, .tmp) ρ
  | .int i => fun ρ => .ok (.int i, .tmp) ρ
  | .str x => fun ρ => .ok (.str x, .tmp) ρ
  | .var i => sVar i
  | .mv i => sMv i
  | .own e => fun ρ => (ev D G e ρ).bind own1
  | .frz e => fun ρ => (ev D G e ρ).bind frz1
  | .glo x => fun ρ => match G x with
    | some v => .ok (v, .tmp) ρ
    | none => .bad
  | .bin op a b => prim (gBin op) (argsCons (!(eff b || false)) (ev D G a) (argsCons (!false) (ev D G b) argsNil))
  | .neg a => prim gNeg (argsCons (!false) (ev D G a) argsNil)
  | .cmp op a b => prim (gCmpo op) (argsCons (!(eff b || false)) (ev D G a) (argsCons (!false) (ev D G b) argsNil))
  | .chain op op' a b c => fun ρ => ((ev D G a ρ).bind sInt1).bind fun x ρ1 => ((ev D G b ρ1).bind sInt1).bind fun y ρ2 => if cmpV op x.1 y.1 = true then ((ev D G c ρ2).bind sInt1).bind fun z ρ3 => .ok (.bl (cmpV op' y.1 z.1), .tmp) ρ3 else .ok (.bl false, .tmp) ρ2
  | .chain3 op op' op'' a b c d => fun ρ => ((ev D G a ρ).bind sInt1).bind fun x ρ1 => ((ev D G b ρ1).bind sInt1).bind fun y ρ2 => if cmpV op x.1 y.1 = true then ((ev D G c ρ2).bind sInt1).bind fun z ρ3 => if cmpV op' y.1 z.1 = true then ((ev D G d ρ3).bind sInt1).bind fun w ρ4 => .ok (.bl (cmpV op'' z.1 w.1), .tmp) ρ4 else .ok (.bl false, .tmp) ρ3 else .ok (.bl false, .tmp) ρ2
  | .and a b => fun ρ => (ev D G a ρ).test.bind fun c ρ1 => if c = true then (ev D G b ρ1).test.bind fun d ρ2 => .ok (.bl d, .tmp) ρ2 else .ok (.bl false, .tmp) ρ1
  | .or a b => fun ρ => (ev D G a ρ).test.bind fun c ρ1 => if c = true then .ok (.bl true, .tmp) ρ1 else (ev D G b ρ1).test.bind fun d ρ2 => .ok (.bl d, .tmp) ρ2
  | .not a => fun ρ => (ev D G a ρ).test.bind fun c ρ1 => .ok (.bl (!c), .tmp) ρ1
  | .ifx c a b => fun ρ => (ev D G c ρ).test.bind fun c ρ1 => if c = true then ev D G a ρ1 else ev D G b ρ1
  | .bi f es => prim (gBi f) (evs D G es)
  | .isi T e => prim (gIsi T) (argsCons (!false) (ev D G e) argsNil)
  | .ix a i => fun ρ => (argsCons (!(eff i || false)) (ev D G a) (argsCons (!false) (ev D G i) argsNil) ρ).bind sIx
  | .asInt e => fun ρ => (ev D G e ρ).bind sInt1
  | .slc a lo hi => prim gSlice (argsCons (!(eff lo || (eff hi || false))) (ev D G a) (argsCons (!(eff hi || false)) (ev D G lo) (argsCons (!false) (ev D G hi) argsNil)))
  | .fld c e f => fun ρ => (ev D G e ρ).bind (sFld c f)
  | .meth f c m o es => fun ρ => (argsCons (!effs es) (sMid (isIns c m) (ev D G o)) (evs D G es) ρ).bind (sCall D f)
  | .methM f c m o es => fun ρ => (argsCons (!effs es) (sMid (isIns c m) (ev D G o)) (evs D G es) ρ).bind (sCallM D f)
  | .make c f es => fun ρ => (evs D G es ρ).bind (sMake D c f)
  | .tup es => fun ρ => (evs D G es ρ).bind (sNode .tup)
  | .lst es => fun ρ => (evs D G es ρ).bind (sNode (.lst false))
  | .call f es => fun ρ => (evs D G es ρ).bind (sCall D f)
  | .callM f es => fun ρ => (evs D G es ρ).bind (sCallM D f)
  | .mu m o es => fun ρ => (argsCons (!effs es) (sMid isLst (ev D G o)) (evs D G es) ρ).bind (sMu m)
  | .comp tg k its tests elt => fun ρ => (evs D G its ρ).bind fun as ρ1 => if allTmp as = true then (match itemsOf k (as.map (·.1)) with
    | some xs => (compR (bindTg tg) tg.slots (fun ρ => tst D G tests ρ) (fun ρ => (ev D G elt ρ)) xs (wipeE ρ1 tg.slots) []).bind fun vs ρ2 => .ok (.node (.lst false) vs, .tmp) (backE ρ1 ρ2 tg.slots)
    | none => .bad) else .bad
  | .compQ tg i tests elt => fun ρ => match seqAt ρ i with
    | some xs => (compR (bindTg tg) tg.slots (fun ρ => tst D G tests ρ) (fun ρ => (ev D G elt ρ)) xs (wipeE ρ tg.slots) []).bind fun vs _ => .ok (.node (.lst false) vs, .tmp) ρ
    | none => .bad
  | .compP tg i tests elt => fun ρ => match lstAt ρ i with
    | some xs => if (!tg.slots.contains i) = true then (compRH (holdsB i (.node (.lst false) xs)) (bindTg tg) tg.slots (fun ρ => tst D G tests ρ) (fun ρ => (ev D G elt ρ)) xs (wipeE ρ tg.slots) []).bind fun vs ρ2 => .ok (.node (.lst false) vs, .tmp) (backE ρ ρ2 tg.slots) else .bad
    | none => .bad
  | .listrev e => prim gListrev (argsCons (!false) (ev D G e) argsNil)
  | .sset e => prim gSset (argsCons (!false) (ev D G e) argsNil)
  | .lrng a b => prim gLrng (argsCons (!(eff b || false)) (ev D G a) (argsCons (!false) (ev D G b) argsNil))
  | .bitlen e => prim gBitlen (argsCons (!false) (ev D G e) argsNil)
  | .ixd a i => fun ρ => (argsCons (!(eff i || false)) (ev D G a) (argsCons (!false) (ev D G i) argsNil) ρ).bind sDx
  | .q1 m o a => prim (gQ1 m) (argsCons (!(eff a || false)) (sMid isLq (ev D G o)) (argsCons (!false) (ev D G a) argsNil))
  | .get1 o a => prim gGet1 (argsCons (!(eff a || false)) (sMid isDct (ev D G o)) (argsCons (!false) (ev D G a) argsNil))
  | .get2 o a b => prim gGet2 (argsCons (!(eff a || (eff b || false))) (sMid isDct (ev D G o)) (argsCons (!(eff b || false)) (ev D G a) (argsCons (!false) (ev D G b) argsNil)))
  | .dnew t => prim (if t = true then gNewT else gNewK) argsNil
  | .ddis es => prim gDis (evs D G es)
  | .nevE => fun _ => .bad
noncomputable def evs (D : Defs) (G : Str → Option Val) : Exs → Env → Res (List (Val × Src))
  | .nil => argsNil
  | .cons e es => argsCons (!effs es) (ev D G e) (evs D G es)
/-- a comprehension's tests: none, or one -/
noncomputable def tst (D : Defs) (G : Str → Option Val) : Exs → Env → Res Bool
  | .nil => fun ρ => .ok true ρ
  | .cons e _ => fun ρ => (ev D G e ρ).test
end

/-! ### statements -/
def forRH (hd : Env → Bool) (bind : Val → Env → Option Env) (body : Env → Flow) : List Val → Env → Flow
  | [], ρ => if hd ρ = true then .next ρ else .bad
  | x :: xs, ρ => if hd ρ = true then (match bind x ρ with
    | none => .bad
    | some ρ1 => (match body ρ1 with
      | .next ρ2 => forRH hd bind body xs ρ2
      | r => r)) else .bad
abbrev forR (bind : Val → Env → Option Env) (body : Env → Flow) : List Val → Env → Flow := forRH noHd bind body
def whileR (c : Env → Res Bool) (body : Env → Flow) : Nat → Env → Flow
  | 0, _ => .bad
  | n + 1, ρ => match c ρ with
    | .ok true ρ1 => (match body ρ1 with
      | .next ρ2 => whileR c body n ρ2
      | r => r)
    | .ok false ρ1 => .next ρ1
    | .exc x ρ1 => .exc x ρ1
    | .bad => .bad
def Res.flow {α : Type} : Res α → (α → Env → Flow) → Flow
  | .ok a ρ, k => k a ρ
  | .exc x ρ, _ => .exc x ρ
  | .bad, _ => .bad
def sRet : (Val × Src) → Env → Flow
  | (v, .tmp), ρ => .ret v ρ
  | (v, .plc i _), ρ => .ret v (ρ.set i none)
  | (_, .brw), _ => .bad
def sPut (g : Val → Val → Val → Option Val) : List (Val × Src) → Env → Flow
  | [(v, .tmp), (x, s), (k, _)], ρ => (match g x k v with
    | some x' => (match s with
      | .plc i p => .next (putAt ρ i p x')
      | .tmp => .next ρ
      | .brw => .bad)
    | none => .bad)
  | _, _ => .bad
def sFput (c : Nat) (f : Str) : List (Val × Src) → Env → Flow
  | [(v, .tmp), (x, s)], ρ => (match fputOf c f x v with
    | some x' => (match s with
      | .plc i p => .next (putAt ρ i p x')
      | .tmp => .next ρ
      | .brw => .bad)
    | none => .bad)
  | _, _ => .bad
def sPutC (g : Val → Val → Val → Option Val) (u : Val) : List (Val × Src) → Env → Flow
  | [(x, .plc i p), (k, _)], ρ => (match g x k u with
    | some x' => .next (putAt ρ i p x')
    | none => .bad)
  | _, _ => .bad
def swpK (s1 s2 : Env → Res (List (Val × Src))) : Val × Src → Env → Flow
  | (.node .tup [u, v], .tmp), ρ1 => if (u.pure && v.pure) = true then (match (s1 ρ1).flow (sPutC lputOf u) with
    | .next ρ2 => (s2 ρ2).flow (sPutC lputOf v)
    | r => r) else .bad
  | _, _ => .bad
def aftK (i : Nat) : Flow → Flow
  | .next ρ => .next (frzAt i ρ)
  | r => r
def free (pr is : List Nat) : Bool := is.all fun i => !pr.contains i
def tryK (pr : List Nat) (j i : Nat) (tb : List (List Bool)) : Flow → Flow
  | .exc x ρ => if (decide (i < ρ.length ∧ j < ρ.length ∧ i ≠ j) && (x.slot.isNone && free pr [i, j])) = true then (match tb[x.c]? with
    | some bs => .next ((ρ.set j none).set i (some (.node (.lst false) (bs.map .bl))))
    | none => .bad) else .bad
  | r => r
mutual
/-- pr: the slots that are not stored to (of arguments that may be changed) -/
noncomputable def ex (D : Defs) (G : Str → Option Val) (N : Nat) (pr : List Nat) : St → Env → Flow
  | .set i e => fun ρ => (ev D G e ρ).flow fun a ρ1 => (match a with
    | (v, .tmp) => if (decide (i < ρ1.length) && free pr [i]) = true then .next (ρ1.set i (some v)) else .bad
    | _ => .bad)
  | .unp is e => fun ρ => (ev D G e ρ).flow fun a ρ1 => (match a with
    | (v, .tmp) => if (v.pure && free pr is) = true then (match bindTg (.tup is) v ρ1 with
      | some ρ2 => .next ρ2
      | none => .bad) else .bad
    | _ => .bad)
  | .expr e => fun ρ => (ev D G e ρ).flow fun _ ρ1 => .next ρ1
  | .ret e => fun ρ => (ev D G e ρ).flow sRet
  | .retN => fun ρ => .ret .non ρ
  | .ifs c a b => fun ρ => (ev D G c ρ).test.flow fun c ρ1 => if c = true then exs D G N pr a ρ1 else exs D G N pr b ρ1
  | .fors tg k its body => fun ρ => (evs D G its ρ).flow fun as ρ1 => if (allTmp as && free pr tg.slots) = true then (match itemsOf k (as.map (·.1)) with
    | some xs => forR (bindTg tg) (fun ρ => exs D G N pr body ρ) xs ρ1
    | none => .bad) else .bad
  | .forsP tg i body => fun ρ => match lstAt ρ i with
    | some xs => if (!tg.slots.contains i && free pr tg.slots) = true then forRH (holdsB i (.node (.lst false) xs)) (bindTg tg) (fun ρ => exs D G N (i :: pr) body ρ) xs ρ else .bad
    | none => .bad
  | .whiles c body => fun ρ => whileR (fun ρ => (ev D G c ρ).test) (fun ρ => exs D G N pr body ρ) N ρ
  | .pass => fun ρ => .next ρ
  | .dput e o k => fun ρ => (argsCons (!(eff o || (eff k || false))) (ev D G e) (argsCons (!(eff k || false)) (ev D G o) (argsCons (!false) (ev D G k) argsNil)) ρ).flow (sPut putOf)
  | .linc c o k => fun ρ => (argsCons (!(eff k || false)) (ev D G o) (argsCons (!false) (ev D G k) argsNil) ρ).flow (sPutC lincOf (.int c))
  | .lput e o k => fun ρ => (argsCons (!(eff o || (eff k || false))) (ev D G e) (argsCons (!(eff k || false)) (ev D G o) (argsCons (!false) (ev D G k) argsNil)) ρ).flow (sPut lputOf)
  | .fput c f e o => fun ρ => (argsCons (!(eff o || false)) (ev D G e) (argsCons (!false) (ev D G o) argsNil) ρ).flow (sFput c f)
  | .nev => fun _ => .bad
  | .swp i e k1 k2 => fun ρ => (ev D G e ρ).flow (swpK (evs D G (.cons (.var i) (.cons k1 .nil))) (evs D G (.cons (.var i) (.cons k2 .nil))))
  | .aft i s => fun ρ => aftK i (ex D G N pr s ρ)
  | .rais c => fun ρ => .exc ⟨c, none⟩ ρ
  | .tryk b j i tb => fun ρ => tryK pr j i tb (exs D G N pr b ρ)
noncomputable def exs (D : Defs) (G : Str → Option Val) (N : Nat) (pr : List Nat) : Blk → Env → Flow
  | .nil => fun ρ => .next ρ
  | .cons s b => fun ρ => match ex D G N pr s ρ with
    | .next ρ1 => exs D G N pr b ρ1
    | r => r
end
/-- the arguments as they are behind the call: those that may be changed as they stand in their slots -/
def fins : List Bool → List Val → Env → Option (List Val)
  | [], [], _ => some []
  | true :: ms, _ :: as, some v :: ρ => (fins ms as ρ).map fun r => v :: r
  | false :: ms, a :: as, _ :: ρ => (fins ms as ρ).map fun r => a :: r
  | _, _, _ => none
def prot : Nat → List Bool → List Nat
  | _, [] => []
  | i, true :: ms => i :: prot (i + 1) ms
  | i, false :: ms => prot (i + 1) ms
structure DefA where
  nslots : Nat
  modes : List Bool
  body : Blk
noncomputable def runDef (D : Defs) (G : Str → Option Val) (N : Nat) (d : DefA) (as : List Val) : FRes :=
  if as.length = d.modes.length then
    match exs D G N (prot 0 d.modes) d.body (as.map some ++ List.replicate (d.nslots - as.length) none) with
    | .next ρ => (match fins d.modes as ρ with
      | some r => .ok .non r
      | none => .bad)
    | .ret v ρ => (match fins d.modes as ρ with
      | some r => .ok v r
      | none => .bad)
    | .exc x ρ => (match fins d.modes as ρ with
      | some r => .exc x r
      | none => .bad)
    | .bad => .bad
  else .bad
/-- all defs of the text, n calls deep -/
noncomputable def defsAt (G : Str → Option Val) (N : Nat) (ds : List DefA) : Nat → Defs
  | 0 => ⟨fun f => ((ds[f]?).map (·.modes)).getD [], fun _ _ => .bad⟩
  | n + 1 => ⟨fun f => ((ds[f]?).map (·.modes)).getD [], fun f as => match ds[f]? with
    | some d => runDef (defsAt G N ds n) G N d as
    | none => .bad⟩
end VS

namespace VS
open PySem L2
section
variable {K : PySem.W.Frag} {Cl ClX : Nat → Addr} {X : Cx} {W : WX} {P : Ps} {H : Hp}

theorem Out1.pure {f : Ps} {ρ : Env} {σ : L2.St} {v : Val} {U : V} {e : Bool} (l : RE K Cl P H ρ σ f) (lv : Lv P H) (r : R K Cl P H v U emp) : Out1 K Cl P H f e ρ σ v .tmp U H :=
  ⟨P, f, emp, Out.refl l lv, r, emp_dis _, fun _ z => z.elim⟩
/-- a constant -/
theorem tv_cst {v : Val} {U : V} (r : ∀ P H, R K Cl P H v U emp) {pe : Expr} (h : PE X pe (tC U)) : PE X pe (tV K Cl ClX W false fun ρ => .ok (v, .tmp) ρ) :=
  PE.le h fun σ H Q ⟨P, ρ, f, l, lv, q⟩ => q U H (Out1.pure l lv (r P H))
theorem tv_var {i : Nat} {pe : Expr} (h : PE X pe (tVar i)) : PE X pe (tV K Cl ClX W false (sVar i)) := PE.le h fun σ H Q ⟨P, ρ, f, l, lv, q⟩ => by
  unfold sVar at q
  cases e : ρ[i]? with
  | none => rw [e] at q; exact q.elim
  | some o =>
   cases o with
   | none => rw [e] at q; exact q.elim
   | some v =>
    rw [e] at q
    dsimp only at q
    obtain ⟨U, f1, g, e1, r, d, rfl, _⟩ := l.pick e
    refine ⟨U, e1, ?_⟩
    by_cases hp : v.pure = true
    · rw [if_pos hp] at q
      have := r.pure_emp hp
      subst this
      exact q U H (Out1.pure l lv r)
    · rw [if_neg hp] at q
      exact q U H ⟨P, _, f1, Out.refl l lv, r, ⟨v, U, e, e1, rfl, rfl⟩, trivial⟩
theorem tv_mv {i : Nat} {pe : Expr} (h : PE X pe (tVar i)) : PE X pe (tV K Cl ClX W true (sMv i)) := PE.le h fun σ H Q ⟨P, ρ, f, l, lv, q⟩ => by
  unfold sMv at q
  cases e : ρ[i]? with
  | none => rw [e] at q; exact q.elim
  | some o =>
   cases o with
   | none => rw [e] at q; exact q.elim
   | some v =>
    rw [e] at q
    dsimp only at q
    obtain ⟨U, f1, g, e1, r, d, rfl, t⟩ := l.pick e
    refine ⟨U, e1, q U H ⟨P, g, f1, ⟨Tr.refl _ _ _, ?_, fun b z => .inl (.inr z), fun z => (by cases z), lv⟩, r, d, fun b z => .inl (.inl z)⟩⟩
    have := t (some U)
    rw [set_self e1] at this
    exact this
/-- frozen where it stands -/
theorem plc_put {ρ : Env} {σ : L2.St} {f fv : Ps} {v v' : Val} {U : V} {i : Nat} {p : List Nat} {P' : Ps} {H' : Hp} {fv' : Ps} (l : RE K Cl P H ρ σ f) (pl : PlcOk K Cl H ρ σ v U i p) (r : R K Cl P H v U fv)
    (k : ∀ b o, H b = some o → P b ∨ (f b ∧ ¬ fv b) → H' b = some o) (kp : ∀ b, P b ∨ (f b ∧ ¬ fv b) → (P' b ↔ P b)) (r' : R K Cl P' H' v' U fv') (hs : ∀ b, fv' b → f b → fv b) :
    (∀ b, fv b → f b) ∧ ∃ f', RE K Cl P' H' (putAt ρ i p v') σ f' ∧ (∀ b, f' b ↔ (f b ∧ ¬ fv b) ∨ fv' b) := by
  obtain ⟨v0, U0, e1, e2, g, a⟩ := pl
  obtain ⟨U1, f1, g1, e3, r1, d1, rfl, t⟩ := l.pick e1
  rw [e2] at e3
  cases e3
  obtain ⟨fu, ru, sub, back⟩ := r1.focus g a
  have := ru.det r
  subst this
  refine ⟨fun b z => .inl (sub b z), ?_⟩
  have ng : ∀ b, g1 b → ¬ fu b := fun b x y => d1 b (sub b y) x
  obtain ⟨r2, a2⟩ := back (P' := P') (H' := H') (fun b o e z => k b o e (z.imp id fun z => ⟨.inl z.1, z.2⟩)) (fun b z => kp b (z.imp id fun z => ⟨.inl z.1, z.2⟩)) r' (fun b x y => hs b x (.inl y))
  have l2 : RE K Cl P' H' (ρ.set i none) (σ.set i (some U0)) g1 := (t (some U0)).frame (fun b o e z => k b o e (z.imp id fun z => ⟨.inr z, ng b z⟩)) fun b z => kp b (z.imp id fun z => ⟨.inr z, ng b z⟩)
  have hi : i < ρ.length := (List.getElem?_eq_some_iff.mp e1).1
  have d2 : dis (fun b => (f1 b ∧ ¬ fu b) ∨ fv' b) g1 := fun b z y => z.elim (fun z => d1 b z.1 y) fun z => ng b y (hs b z (.inr y))
  have l3 := l2.put (i := i) (v := setp v0 p v') (W := U0) (by simpa using hi) (by rw [List.getElem?_set_self hi]) r2 d2
  rw [List.set_set, List.set_set, set_self e2] at l3
  unfold putAt
  rw [e1]
  refine ⟨_, l3, fun b => ?_⟩
  show ((f1 b ∧ ¬ fu b) ∨ fv' b) ∨ g1 b ↔ ((f1 b ∨ g1 b) ∧ ¬ fu b) ∨ fv' b
  have h1 := ng b
  constructor
  · rintro ((z | z) | z)
    · exact .inl ⟨.inl z.1, z.2⟩
    · exact .inr z
    · exact .inl ⟨.inr z, h1 z⟩
  · rintro (⟨z | z, y⟩ | z)
    · exact .inl (.inl ⟨z, y⟩)
    · exact .inr z
    · exact .inl (.inr z)
theorem freeze_pure : ∀ v : Val, v.freeze.pure = true := by
  have key : ∀ v : Val, v.freeze.pure = true := fun v => Val.rec (motive_1 := fun v => v.freeze.pure = true) (motive_2 := fun vs => pures (freezes vs) = true)
    rfl (fun _ => rfl) (fun _ => rfl) (fun _ => rfl) (fun t vs ih => by simp only [Val.freeze, Val.pure, ih, Tag.fz_own]; rfl) rfl (fun v vs h1 h2 => by simp only [freezes, pures, h1, h2]; rfl) v
  exact key
theorem tv_own {e : Bool} {s : Env → Res (Val × Src)} {pe : Expr} (h : PE X pe (tV K Cl ClX W e s)) : PE X pe (tV K Cl ClX W true fun ρ => (s ρ).bind own1) := PE.le h fun σ H Q ⟨P, ρ, f, l, lv, q⟩ => by
  refine ⟨P, ρ, f, l, lv, ?_⟩
  dsimp only at q
  have up : ∀ {ρ' : Env} {P' : Ps} {H' : Hp} {f' : Ps}, Out K Cl P H f e ρ' σ P' H' f' → Out K Cl P H f true ρ' σ P' H' f' := fun o => ⟨o.tr.weak (wr_sub _ _), o.re, o.sub, fun z => (by cases z), o.lv⟩
  cases hs : s ρ with
  | bad => rw [hs] at q; exact q
  | exc x ρ1 =>
    rw [hs] at q
    exact fun c d H' ⟨P', f', o, xo⟩ => q c d H' ⟨P', f', up o, xo⟩
  | ok a ρ1 =>
    obtain ⟨v, sr⟩ := a
    rw [hs] at q
    simp only [Res.bind_ok] at q
    intro U H1 ⟨P1, f1, fv, o1, r1, s1, sb1⟩
    cases sr with
    | tmp => exact q U H1 ⟨P1, f1, fv, up o1, r1, s1, sb1⟩
    | brw => exact q.elim
    | plc i p =>
      simp only [own1] at q
      -- freeze: the cells go over to what is frozen
      have rf : R K Cl (uni P1 fv) H1 v.freeze U emp := r1.frz fun b z => z
      obtain ⟨sub, f2, l2, e2⟩ := plc_put (P' := uni P1 fv) (H' := H1) (fv' := emp) o1.re s1 r1 (fun b o e _ => e) (fun b z => ⟨fun y => y.elim id fun y => (z.elim id fun z => (z.2 y).elim), .inl⟩) rf (fun b z => z.elim)
      have t2 : Tr P1 H1 f1 (uni P1 fv) H1 := ⟨fun _ _ e _ => e, fun _ z => .inl z, fun b z => z.elim .inl fun z => .inr (.inl (sub b z))⟩
      have lv2 : Lv (uni P1 fv) H1 := fun b z => z.elim (o1.lv b) fun z => (r1.live b z).1
      have o2 : Out K Cl P1 H1 f1 true (putAt ρ1 i p v.freeze) σ (uni P1 fv) H1 f2 := ⟨t2, l2, fun b z => .inl (((e2 b).mp z).elim (fun z => z.1) fun z => z.elim), fun z => (by cases z), lv2⟩
      have o3 := o1.trans o2
      rw [Bool.or_true] at o3
      exact q U H1 ⟨_, f2, emp, o3, rf, emp_dis _, fun _ z => z.elim⟩
theorem quiet_nil : Quiet false argsNil := fun _ ρ => rfl
theorem Quiet.cons {e e2 : Bool} {q : Bool} {s : Env → Res (Val × Src)} {r : Env → Res (List (Val × Src))} (h : Quiet e s) (h2 : Quiet e2 r) : Quiet (e || e2) (argsCons q s r) := fun z ρ => by
  simp only [Bool.or_eq_false_iff] at z
  unfold argsCons
  have h1 := h z.1 ρ
  cases hs : s ρ with
  | bad => trivial
  | exc x ρ1 => rw [hs] at h1; exact h1
  | ok a ρ1 =>
    rw [hs] at h1
    subst h1
    simp only [Res.bind_ok]
    by_cases hk : okSrc a.2 q = true
    · rw [if_pos hk]
      have h3 := h2 z.2 ρ1
      cases hr : r ρ1 with
      | bad => trivial
      | exc x ρ2 => rw [hr] at h3; exact h3
      | ok as ρ2 =>
        rw [hr] at h3
        subst h3
        simp only [Res.bind_ok]
        cases cur ρ2 a <;> trivial
    · rw [if_neg hk]
      trivial
/-- two operands -/
theorem two_ok {e1 e2 : Bool} {s1 s2 : Env → Res (Val × Src)} (q2 : Quiet e2 s2) {r : R2} {g : List Val → Option Val} (pr : PrimOk K Cl (op2 r) g) {σ : L2.St} {H : Hp} {Q : VK}
    (h : tV K Cl ClX W (e1 || (e2 || false)) (prim g (argsCons (!(e2 || false)) s1 (argsCons (!false) s2 argsNil))) σ H Q) : tOp r (tV K Cl ClX W e1 s1) (tV K Cl ClX W e2 s2) σ H Q := by
  have h1 := prim_ok pr h
  have h2 := cons_ok (Quiet.cons q2 quiet_nil) h1
  obtain ⟨P, ρ, f, l, lv, q⟩ := h2
  refine ⟨P, ρ, f, l, lv, ?_⟩
  cases hs : s1 ρ with
  | bad => rw [hs] at q; exact q
  | exc x ρ1 => rw [hs] at q; exact q
  | ok a ρ1 =>
    rw [hs] at q
    intro U H1 o
    have h3 := cons_ok quiet_nil (q U H1 o)
    obtain ⟨P, ρ, f, l, lv, q⟩ := h3
    refine ⟨P, ρ, f, l, lv, ?_⟩
    cases hs : s2 ρ with
    | bad => rw [hs] at q; exact q
    | exc x ρ1 => rw [hs] at q; exact q
    | ok a ρ1 =>
      rw [hs] at q
      intro U2 H2 o
      obtain ⟨P, ρ, f, l, lv, q⟩ := q U2 H2 o
      obtain ⟨x, y, e, z⟩ := q [] H2 ⟨P, f, emp, Out.refl l lv, ⟨rfl, rfl⟩, emp_dis _, fun _ z => z.elim⟩
      cases e
      exact z
theorem tv_bin {e1 e2 : Bool} {s1 s2 : Env → Res (Val × Src)} {a b : Expr} {op : Operator} {pos : Pos} {r : R2} {g : List Val → Option Val} (q2 : Quiet e2 s2) (ha : PE X a (tV K Cl ClX W e1 s1)) (hb : PE X b (tV K Cl ClX W e2 s2))
    (ho : OpR X (binaryOp op) r) (pr : PrimOk K Cl (op2 r) g) : PE X (.BinOp a op b pos) (tV K Cl ClX W (e1 || (e2 || false)) (prim g (argsCons (!(e2 || false)) s1 (argsCons (!false) s2 argsNil)))) :=
  PE.le (pe_op ho ha hb) fun σ H Q h => two_ok q2 pr h
theorem tv_cmp {e1 e2 : Bool} {s1 s2 : Env → Res (Val × Src)} {a b : Expr} {op : CmpOp} {pos : Pos} {r : R2} {g : List Val → Option Val} (q2 : Quiet e2 s2) (ha : PE X a (tV K Cl ClX W e1 s1)) (hb : PE X b (tV K Cl ClX W e2 s2))
    (ho : OpR X (compareOp op) r) (hm : behindInMarks op b = false) (pr : PrimOk K Cl (op2 r) g) : PE X (.Compare a [op] [b] pos) (tV K Cl ClX W (e1 || (e2 || false)) (prim g (argsCons (!(e2 || false)) s1 (argsCons (!false) s2 argsNil)))) :=
  PE.le (pe_cmpR ho ha hb hm) fun σ H Q h => two_ok q2 pr h
/-- a test by its value -/
theorem tvt_of {e : Bool} {s : Env → Res (Val × Src)} {t : TE} (hi : ∀ σ H Q, tV K Cl ClX W e s σ H Q → t σ H Q) {σ : L2.St} {H : Hp} {Q : Bool → Hp → Prop} (h : tVT K Cl ClX W e s σ H Q) : tTest t σ H Q := by
  obtain ⟨P, ρ, f, l, lv, q⟩ := h
  refine hi _ _ _ ⟨P, ρ, f, l, lv, ?_⟩
  cases hs : s ρ with
  | bad => rw [hs] at q; exact q
  | exc x ρ1 => rw [hs] at q; exact q
  | ok a ρ1 =>
    rw [hs] at q
    obtain ⟨c, ec, q⟩ := q
    intro U H1 ⟨P1, f1, fv, o1, r1, _⟩
    obtain ⟨v, sr⟩ := a
    have ec : v = .bl c := ec
    subst ec
    simp only [R] at r1
    exact ⟨c, r1.1, q P1 H1 f1 o1⟩
theorem tvt_cmp {e1 e2 : Bool} {s1 s2 : Env → Res (Val × Src)} {a b : Expr} {op : CmpOp} {pos : Pos} {r : R2} {g : List Val → Option Val} (q2 : Quiet e2 s2) (ha : PE X a (tV K Cl ClX W e1 s1)) (hb : PE X b (tV K Cl ClX W e2 s2))
    (ho : OpR X (compareOp op) r) (hm : behindInMarks op b = false) (pr : PrimOk K Cl (op2 r) g) : PT X (.Compare a [op] [b] pos) (tVT K Cl ClX W (e1 || (e2 || false)) (prim g (argsCons (!(e2 || false)) s1 (argsCons (!false) s2 argsNil)))) :=
  PT.le (pt_cmpR ho ha hb hm) fun σ H Q h => tvt_of (fun σ H Q h => two_ok q2 pr h) h
theorem tvt_val {e : Bool} {s : Env → Res (Val × Src)} {pe : Expr} (h : PE X pe (tV K Cl ClX W e s)) (he : ∀ whole, isTrue pe X.env whole = (do let v ← whole; standAt pe.pos; holding [v] (truthy v))) : PT X pe (tVT K Cl ClX W e s) :=
  PT.le (pt_val h he) fun σ H Q h => tvt_of (fun _ _ _ h => h) h
end
end VS

namespace VS
open PySem L2
section
variable {K : PySem.W.Frag} {Cl ClX : Nat → Addr} {X : Cx} {W : WX} {P : Ps} {H : Hp}
def sAnd (s1 s2 : Env → Res (Val × Src)) : Env → Res (Val × Src) := fun ρ => (s1 ρ).test.bind fun c ρ1 => if c = true then (s2 ρ1).test.bind fun d ρ2 => .ok (.bl d, .tmp) ρ2 else .ok (.bl false, .tmp) ρ1
def sOr (s1 s2 : Env → Res (Val × Src)) : Env → Res (Val × Src) := fun ρ => (s1 ρ).test.bind fun c ρ1 => if c = true then .ok (.bl true, .tmp) ρ1 else (s2 ρ1).test.bind fun d ρ2 => .ok (.bl d, .tmp) ρ2
def sNot (s1 : Env → Res (Val × Src)) : Env → Res (Val × Src) := fun ρ => (s1 ρ).test.bind fun c ρ1 => .ok (.bl (!c), .tmp) ρ1
def sIf (s0 s1 s2 : Env → Res (Val × Src)) : Env → Res (Val × Src) := fun ρ => (s0 ρ).test.bind fun c ρ1 => if c = true then s1 ρ1 else s2 ρ1
theorem Res.test_ok {r : Res (Val × Src)} {c : Bool} {ρ : Env} (h : r.test = .ok c ρ) : ∃ s, r = .ok (.bl c, s) ρ := by
  cases r with
  | bad => cases h
  | exc x ρ => cases h
  | ok a ρ1 =>
    obtain ⟨v, s⟩ := a
    cases v with
    | bl b => cases h; exact ⟨s, rfl⟩
    | _ => cases h
theorem Res.test_exc {r : Res (Val × Src)} {x : Xc} {ρ : Env} (h : r.test = .exc x ρ) : r = .exc x ρ := by
  cases r with
  | bad => cases h
  | exc x ρ => cases h; rfl
  | ok a ρ1 =>
    obtain ⟨v, s⟩ := a
    cases v <;> cases h
theorem Out.up {f f' : Ps} {ρ' : Env} {σ : L2.St} {P' : Ps} {H' : Hp} {e : Bool} (e2 : Bool) (o : Out K Cl P H f e ρ' σ P' H' f') : Out K Cl P H f (e || e2) ρ' σ P' H' f' := by
  have := o.trans (Out.refl (e := e2) o.re o.lv)
  exact this
theorem Out.up' {f f' : Ps} {ρ' : Env} {σ : L2.St} {P' : Ps} {H' : Hp} {e : Bool} (e2 : Bool) (h : e = true → e2 = true) (o : Out K Cl P H f e ρ' σ P' H' f') : Out K Cl P H f e2 ρ' σ P' H' f' := by
  cases e with
  | true => rw [h rfl]; exact o
  | false => have := o.up e2; rwa [Bool.false_or] at this
theorem Out.sbt {f f1 fv : Ps} {ρ1 : Env} {σ : L2.St} {P1 : Ps} {H1 : Hp} {e : Bool} {sr : Src} (o1 : Out K Cl P H f e ρ1 σ P1 H1 f1) (sb : SbOk H1 fv f1 sr) : SbOk H fv f sr := by
  cases sr with
  | tmp => exact o1.sub.trans sb o1.tr (wr_sub _ _)
  | _ => trivial
/-- what is wanted of a test -/
def WT (K : PySem.W.Frag) (Cl ClX : Nat → Addr) (W : WX) (P : Ps) (H : Hp) (f : Ps) (σ : L2.St) (e : Bool) (Q : Bool → Hp → Prop) : Res Bool → Prop
  | .ok c ρ' => ∀ P' H' f', Out K Cl P H f e ρ' σ P' H' f' → Q c H'
  | .exc x ρ' => ∀ c d H', OutX K Cl ClX P H f e ρ' σ x c d H' → W c d σ H'
  | .bad => False
theorem tvt_iff {e : Bool} {s : Env → Res (Val × Src)} {σ : L2.St} {Q : Bool → Hp → Prop} : tVT K Cl ClX W e s σ H Q ↔ ∃ P ρ f, RE K Cl P H ρ σ f ∧ Lv P H ∧ WT K Cl ClX W P H f σ e Q (s ρ).test := by
  unfold tVT
  constructor
  · rintro ⟨P, ρ, f, l, lv, q⟩
    refine ⟨P, ρ, f, l, lv, ?_⟩
    cases hs : s ρ with
    | bad => rw [hs] at q; exact q.elim
    | exc x ρ1 => rw [hs] at q; exact q
    | ok a ρ1 =>
      rw [hs] at q
      obtain ⟨v, sr⟩ := a
      obtain ⟨c, rfl, q⟩ := q
      exact q
  · rintro ⟨P, ρ, f, l, lv, q⟩
    refine ⟨P, ρ, f, l, lv, ?_⟩
    cases hs : s ρ with
    | bad => rw [hs] at q; exact q.elim
    | exc x ρ1 => rw [hs] at q; exact q
    | ok a ρ1 =>
      rw [hs] at q
      obtain ⟨v, sr⟩ := a
      cases v with
      | bl c => exact ⟨c, rfl, q⟩
      | _ => exact q.elim
/-- a value that is a test's answer -/
theorem tv_test {e : Bool} {s : Env → Res (Val × Src)} {σ : L2.St} {Q : VK} (h : ∃ P ρ f, RE K Cl P H ρ σ f ∧ Lv P H ∧ WT K Cl ClX W P H f σ e (fun c H' => Q (.bl c) H') (s ρ).test) : tV K Cl ClX W e s σ H fun x H1 => ∃ c, x = .bl c ∧ Q x H1 := by
  obtain ⟨P, ρ, f, l, lv, q⟩ := h
  refine ⟨P, ρ, f, l, lv, ?_⟩
  cases hs : s ρ with
  | bad => rw [hs] at q; exact q.elim
  | exc x ρ1 => rw [hs] at q; exact q
  | ok a ρ1 =>
    rw [hs] at q
    obtain ⟨v, sr⟩ := a
    cases v with
    | bl c =>
      intro U H1 ⟨P1, f1, fv, o1, r1, _⟩
      simp only [R] at r1
      rw [r1.1]
      exact ⟨c, rfl, q P1 H1 f1 o1⟩
    | _ => exact q.elim
theorem wt_out {f : Ps} {σ : L2.St} {e : Bool} {Q : Bool → Hp → Prop} {P1 : Ps} {H1 : Hp} {f1 : Ps} {e1 : Bool} {ρ1 : Env} {r : Res Bool} (o : Out K Cl P H f e1 ρ1 σ P1 H1 f1) (h : WT K Cl ClX W P H f σ (e1 || e) Q r) : WT K Cl ClX W P1 H1 f1 σ e Q r := by
  cases r with
  | bad => exact h
  | exc x ρ' => exact fun c d H' ⟨P', f', o', xo⟩ => h c d H' ⟨P', f', o.trans o', xo⟩
  | ok c ρ' => exact fun P' H' f' o' => h P' H' f' (o.trans o')
/-- one test, then something by its answer -/
theorem wt_bind {f : Ps} {σ : L2.St} {e1 e2 : Bool} {Q : Bool → Hp → Prop} {r : Res Bool} {k : Bool → Env → Res Bool} {Q1 : Bool → Hp → Prop} (h : WT K Cl ClX W P H f σ (e1 || e2) Q (r.bind k))
    (hk : ∀ c ρ1 P1 H1 f1, Out K Cl P H f e1 ρ1 σ P1 H1 f1 → WT K Cl ClX W P1 H1 f1 σ e2 Q (k c ρ1) → Q1 c H1) : WT K Cl ClX W P H f σ e1 Q1 r := by
  cases r with
  | bad => exact h
  | exc x ρ' => exact fun c d H' ⟨P', f', o', xo⟩ => h c d H' ⟨P', f', o'.up e2, xo⟩
  | ok c ρ' => exact fun P' H' f' o' => hk c ρ' P' H' f' o' (wt_out o' h)
theorem and_test (s1 s2 : Env → Res (Val × Src)) (ρ : Env) : (sAnd s1 s2 ρ).test = (s1 ρ).test.bind fun c ρ1 => if c = true then (s2 ρ1).test else .ok false ρ1 := by
  unfold sAnd
  cases h : (s1 ρ).test with
  | bad => rfl
  | exc x ρ1 => rfl
  | ok c ρ1 =>
    simp only [Res.bind_ok]
    cases c with
    | false => rfl
    | true =>
      simp only [if_true]
      cases h : (s2 ρ1).test <;> rfl
theorem or_test (s1 s2 : Env → Res (Val × Src)) (ρ : Env) : (sOr s1 s2 ρ).test = (s1 ρ).test.bind fun c ρ1 => if c = true then .ok true ρ1 else (s2 ρ1).test := by
  unfold sOr
  cases h : (s1 ρ).test with
  | bad => rfl
  | exc x ρ1 => rfl
  | ok c ρ1 =>
    simp only [Res.bind_ok]
    cases c with
    | true => rfl
    | false =>
      simp only [Bool.false_eq_true, if_false]
      cases h : (s2 ρ1).test <;> rfl
theorem not_test (s1 : Env → Res (Val × Src)) (ρ : Env) : (sNot s1 ρ).test = (s1 ρ).test.bind fun c ρ1 => .ok (!c) ρ1 := by
  unfold sNot
  cases h : (s1 ρ).test <;> rfl
theorem tw_and1 {e : Bool} {s : Env → Res (Val × Src)} {a : Expr} {pos : Pos} (h : PT X a (tVT K Cl ClX W e s)) : PW X (.BoolOp .And [a] pos) (tVT K Cl ClX W e s) := pw_and1 h
theorem tw_or1 {e : Bool} {s : Env → Res (Val × Src)} {a : Expr} {pos : Pos} (h : PT X a (tVT K Cl ClX W e s)) : PW X (.BoolOp .Or [a] pos) (tVT K Cl ClX W e s) := pw_or1 h
theorem tw_and {e1 e2 : Bool} {s1 s2 : Env → Res (Val × Src)} {a b : Expr} {rest : List Expr} {pos : Pos} (ha : PT X a (tVT K Cl ClX W e1 s1)) (hb : PW X (.BoolOp .And (b :: rest) pos) (tVT K Cl ClX W e2 s2)) :
    PW X (.BoolOp .And (a :: b :: rest) pos) (tVT K Cl ClX W (e1 || e2) (sAnd s1 s2)) := PW.le (pw_and ha hb) fun σ H Q h => by
  rw [tvt_iff] at h
  obtain ⟨P, ρ, f, l, lv, q⟩ := h
  show tVT K Cl ClX W e1 s1 σ H _
  rw [tvt_iff]
  refine ⟨P, ρ, f, l, lv, ?_⟩
  rw [and_test] at q
  refine wt_bind q fun c ρ1 P1 H1 f1 o1 h1 => ?_
  cases c with
  | true => exact tvt_iff.mpr ⟨P1, ρ1, f1, o1.re, o1.lv, h1⟩
  | false => exact h1 P1 H1 f1 (Out.refl o1.re o1.lv)
theorem tw_or {e1 e2 : Bool} {s1 s2 : Env → Res (Val × Src)} {a b : Expr} {rest : List Expr} {pos : Pos} (ha : PT X a (tVT K Cl ClX W e1 s1)) (hb : PW X (.BoolOp .Or (b :: rest) pos) (tVT K Cl ClX W e2 s2)) :
    PW X (.BoolOp .Or (a :: b :: rest) pos) (tVT K Cl ClX W (e1 || e2) (sOr s1 s2)) := PW.le (pw_or ha hb) fun σ H Q h => by
  rw [tvt_iff] at h
  obtain ⟨P, ρ, f, l, lv, q⟩ := h
  show tVT K Cl ClX W e1 s1 σ H _
  rw [tvt_iff]
  refine ⟨P, ρ, f, l, lv, ?_⟩
  rw [or_test] at q
  refine wt_bind q fun c ρ1 P1 H1 f1 o1 h1 => ?_
  cases c with
  | false => exact tvt_iff.mpr ⟨P1, ρ1, f1, o1.re, o1.lv, h1⟩
  | true => exact h1 P1 H1 f1 (Out.refl o1.re o1.lv)
theorem tvt_not {e1 : Bool} {s1 : Env → Res (Val × Src)} {a : Expr} {pos : Pos} (ha : PT X a (tVT K Cl ClX W e1 s1)) : PT X (.UnaryOp .Not a pos) (tVT K Cl ClX W e1 (sNot s1)) := PT.le (pt_not ha) fun σ H Q h => by
  rw [tvt_iff] at h
  obtain ⟨P, ρ, f, l, lv, q⟩ := h
  show tVT K Cl ClX W e1 s1 σ H _
  rw [tvt_iff]
  refine ⟨P, ρ, f, l, lv, ?_⟩
  rw [not_test, show e1 = (e1 || false) from by simp] at q
  exact wt_bind q fun c ρ1 P1 H1 f1 o1 h1 => h1 P1 H1 f1 (Out.refl o1.re o1.lv)
/-- values of such -/
theorem tv_wt {e : Bool} {s : Env → Res (Val × Src)} {σ : L2.St} {Q : VK} (hb : ∀ ρ v sr ρ', s ρ = .ok (v, sr) ρ' → (∃ c, v = .bl c) ∧ sr = .tmp) (h : tV K Cl ClX W e s σ H Q) : ∃ P ρ f, RE K Cl P H ρ σ f ∧ Lv P H ∧ WT K Cl ClX W P H f σ e (fun c H' => Q (.bl c) H') (s ρ).test := by
  obtain ⟨P, ρ, f, l, lv, q⟩ := h
  refine ⟨P, ρ, f, l, lv, ?_⟩
  cases hs : s ρ with
  | bad => rw [hs] at q; exact q
  | exc x ρ1 => rw [hs] at q; exact q
  | ok a ρ1 =>
    rw [hs] at q
    obtain ⟨v, sr⟩ := a
    obtain ⟨⟨c, rfl⟩, rfl⟩ := hb _ _ _ _ hs
    exact fun P' H' f' o => q _ H' ⟨P', f', emp, o, ⟨rfl, rfl⟩, emp_dis _, fun _ z => z.elim⟩
theorem and_bl {s1 s2 : Env → Res (Val × Src)} : ∀ ρ v sr ρ', sAnd s1 s2 ρ = .ok (v, sr) ρ' → (∃ c, v = .bl c) ∧ sr = .tmp := by
  intro ρ v sr ρ' h
  unfold sAnd at h
  cases h1 : (s1 ρ).test with
  | bad => rw [h1] at h; cases h
  | exc x ρ1 => rw [h1] at h; cases h
  | ok c ρ1 =>
    rw [h1] at h
    simp only [Res.bind_ok] at h
    cases c with
    | false => cases h; exact ⟨⟨_, rfl⟩, rfl⟩
    | true =>
      simp only [if_true] at h
      cases h2 : (s2 ρ1).test with
      | bad => rw [h2] at h; cases h
      | exc x ρ1 => rw [h2] at h; cases h
      | ok d ρ2 => rw [h2] at h; cases h; exact ⟨⟨_, rfl⟩, rfl⟩
theorem or_bl {s1 s2 : Env → Res (Val × Src)} : ∀ ρ v sr ρ', sOr s1 s2 ρ = .ok (v, sr) ρ' → (∃ c, v = .bl c) ∧ sr = .tmp := by
  intro ρ v sr ρ' h
  unfold sOr at h
  cases h1 : (s1 ρ).test with
  | bad => rw [h1] at h; cases h
  | exc x ρ1 => rw [h1] at h; cases h
  | ok c ρ1 =>
    rw [h1] at h
    simp only [Res.bind_ok] at h
    cases c with
    | true => cases h; exact ⟨⟨_, rfl⟩, rfl⟩
    | false =>
      simp only [Bool.false_eq_true, if_false] at h
      cases h2 : (s2 ρ1).test with
      | bad => rw [h2] at h; cases h
      | exc x ρ1 => rw [h2] at h; cases h
      | ok d ρ2 => rw [h2] at h; cases h; exact ⟨⟨_, rfl⟩, rfl⟩
theorem not_bl {s1 : Env → Res (Val × Src)} : ∀ ρ v sr ρ', sNot s1 ρ = .ok (v, sr) ρ' → (∃ c, v = .bl c) ∧ sr = .tmp := by
  intro ρ v sr ρ' h
  unfold sNot at h
  cases h1 : (s1 ρ).test with
  | bad => rw [h1] at h; cases h
  | exc x ρ1 => rw [h1] at h; cases h
  | ok c ρ1 => rw [h1] at h; cases h; exact ⟨⟨_, rfl⟩, rfl⟩
/-- the value, and that it is a truth value -/
theorem tv_blv {e : Bool} {s : Env → Res (Val × Src)} {σ : L2.St} {Q : VK} (h : ∃ P ρ f, RE K Cl P H ρ σ f ∧ Lv P H ∧ WT K Cl ClX W P H f σ e (fun c H' => Q (.bl c) H') (s ρ).test) : tV K Cl ClX W e s σ H Q := by
  obtain ⟨P, ρ, f, l, lv, q⟩ := tv_test h
  refine ⟨P, ρ, f, l, lv, ?_⟩
  cases hs : s ρ with
  | bad => rw [hs] at q; exact q
  | exc x ρ1 => rw [hs] at q; exact q
  | ok a ρ1 =>
    rw [hs] at q
    exact fun U H1 o => (q U H1 o).elim fun _ z => z.2
theorem tv_and {e1 e2 : Bool} {s1 s2 : Env → Res (Val × Src)} {a b : Expr} {rest : List Expr} {pos : Pos} (ha : PE X a (tV K Cl ClX W e1 s1)) (hb : PE X (.BoolOp .And (b :: rest) pos) (tV K Cl ClX W e2 s2)) :
    PE X (.BoolOp .And (a :: b :: rest) pos) (tV K Cl ClX W (e1 || e2) (sAnd s1 s2)) := PE.le (pe_and ha hb) fun σ H Q h => by
  obtain ⟨P, ρ, f, l, lv, q⟩ := tv_wt and_bl h
  rw [and_test] at q
  show tV K Cl ClX W e1 s1 σ H _
  refine tv_blv ⟨P, ρ, f, l, lv, wt_bind q fun c ρ1 P1 H1 f1 o1 h1 => ?_⟩
  refine ⟨c, rfl, ?_⟩
  cases c with
  | true => exact tv_blv ⟨P1, ρ1, f1, o1.re, o1.lv, h1⟩
  | false => exact h1 P1 H1 f1 (Out.refl o1.re o1.lv)
theorem tv_or {e1 e2 : Bool} {s1 s2 : Env → Res (Val × Src)} {a b : Expr} {rest : List Expr} {pos : Pos} (ha : PE X a (tV K Cl ClX W e1 s1)) (hb : PE X (.BoolOp .Or (b :: rest) pos) (tV K Cl ClX W e2 s2)) :
    PE X (.BoolOp .Or (a :: b :: rest) pos) (tV K Cl ClX W (e1 || e2) (sOr s1 s2)) := PE.le (pe_or ha hb) fun σ H Q h => by
  obtain ⟨P, ρ, f, l, lv, q⟩ := tv_wt or_bl h
  rw [or_test] at q
  show tV K Cl ClX W e1 s1 σ H _
  refine tv_blv ⟨P, ρ, f, l, lv, wt_bind q fun c ρ1 P1 H1 f1 o1 h1 => ?_⟩
  refine ⟨c, rfl, ?_⟩
  cases c with
  | false => exact tv_blv ⟨P1, ρ1, f1, o1.re, o1.lv, h1⟩
  | true => exact h1 P1 H1 f1 (Out.refl o1.re o1.lv)
theorem tv_not {e1 : Bool} {s1 : Env → Res (Val × Src)} {a : Expr} {pos : Pos} (ha : PE X a (tV K Cl ClX W e1 s1)) : PE X (.UnaryOp .Not a pos) (tV K Cl ClX W e1 (sNot s1)) := PE.le (pe_not ha) fun σ H Q h => by
  obtain ⟨P, ρ, f, l, lv, q⟩ := tv_wt not_bl h
  rw [not_test, show e1 = (e1 || false) from by simp] at q
  show tV K Cl ClX W e1 s1 σ H _
  refine tv_blv ⟨P, ρ, f, l, lv, wt_bind q fun c ρ1 P1 H1 f1 o1 h1 => ?_⟩
  exact ⟨c, rfl, h1 P1 H1 f1 (Out.refl o1.re o1.lv)⟩
theorem tv_ifx {e0 e1 e2 : Bool} {s0 s1 s2 : Env → Res (Val × Src)} {c a b : Expr} {pos : Pos} (hc : PT X c (tVT K Cl ClX W e0 s0)) (ha : PE X a (tV K Cl ClX W e1 s1)) (hb : PE X b (tV K Cl ClX W e2 s2)) :
    PE X (.IfExp c a b pos) (tV K Cl ClX W (e0 || (e1 || e2)) (sIf s0 s1 s2)) := PE.le (pe_ifExp hc ha hb) fun σ H Q h => by
  obtain ⟨P, ρ, f, l, lv, q⟩ := h
  show tVT K Cl ClX W e0 s0 σ H _
  rw [tvt_iff]
  refine ⟨P, ρ, f, l, lv, ?_⟩
  unfold sIf at q
  cases hs : (s0 ρ).test with
  | bad => rw [hs] at q; exact q
  | exc x ρ1 =>
    rw [hs] at q
    exact fun c d H' ⟨P', f', o', xo⟩ => q c d H' ⟨P', f', o'.up _, xo⟩
  | ok c ρ1 =>
    rw [hs] at q
    simp only [Res.bind_ok] at q
    intro P1 H1 f1 o1
    have go : ∀ {e : Bool} {s : Env → Res (Val × Src)}, (e = true → (e1 || e2) = true) → (match s ρ1 with
        | .ok (v, sr) ρ' => ∀ V H', Out1 K Cl P H f (e0 || (e1 || e2)) ρ' σ v sr V H' → Q V H'
        | .exc x ρ' => ∀ c d H', OutX K Cl ClX P H f (e0 || (e1 || e2)) ρ' σ x c d H' → W c d σ H'
        | .bad => False) → tV K Cl ClX W e s σ H1 Q := fun {e s} he q => by
      refine ⟨P1, ρ1, f1, o1.re, o1.lv, ?_⟩
      cases hs : s ρ1 with
      | bad => rw [hs] at q; exact q
      | exc x ρ2 =>
        rw [hs] at q
        exact fun c d H' ⟨P', f', o', xo⟩ => q c d H' ⟨P', f', o1.trans (o'.up' _ he), xo⟩
      | ok a ρ2 =>
        rw [hs] at q
        intro U H2 ⟨P', f', fv, o', r', s', sb⟩
        exact q U H2 ⟨P', f', fv, o1.trans (o'.up' _ he), r', s', o1.sbt sb⟩
    cases c with
    | true => exact go (fun z => by rw [z]; rfl) q
    | false => exact go (fun z => by rw [z, Bool.or_true]) q
end
end VS

namespace VS
open PySem L2
section
variable {K : PySem.W.Frag} {Cl ClX : Nat → Addr} {X : Cx} {W : WX} {P : Ps} {H : Hp}
theorem pa_vs {e1 e2 : Bool} {s : Env → Res (Val × Src)} {r : Env → Res (List (Val × Src))} {a : Expr} {es : List Expr} (qr : Quiet e2 r) (ha : PE X a (tV K Cl ClX W e1 s)) (hr : PA X es (tVs K Cl ClX W e2 r)) (hs : starEach (a :: es) X.env = (false, eval a X.env) :: starEach es X.env) :
    PA X (a :: es) (tVs K Cl ClX W (e1 || e2) (argsCons (!e2) s r)) := PA.le (pa_cons ha hr hs) fun σ H Q h => cons_ok qr h
/-- one operand -/
theorem one_args {e1 : Bool} {s1 : Env → Res (Val × Src)} {σ : L2.St} {Q : List V → Hp → Prop} (h : tVs K Cl ClX W (e1 || false) (argsCons (!false) s1 argsNil) σ H Q) : tV K Cl ClX W e1 s1 σ H fun x H1 => Q [x] H1 := by
  obtain ⟨P, ρ, f, l, lv, q⟩ := cons_ok quiet_nil h
  refine ⟨P, ρ, f, l, lv, ?_⟩
  cases hs : s1 ρ with
  | bad => rw [hs] at q; exact q
  | exc x ρ1 => rw [hs] at q; exact q
  | ok a ρ1 =>
    rw [hs] at q
    intro U H1 o
    obtain ⟨P, ρ, f, l, lv, q⟩ := q U H1 o
    exact q [] H1 ⟨P, f, emp, Out.refl l lv, ⟨rfl, rfl⟩, emp_dis _, fun _ z => z.elim⟩
theorem more_args {e1 e2 : Bool} {s1 : Env → Res (Val × Src)} {r : Env → Res (List (Val × Src))} (qr : Quiet e2 r) {σ : L2.St} {Q : List V → Hp → Prop} {t : List V → L2.St → Hp → Prop} (h : tVs K Cl ClX W (e1 || e2) (argsCons (!e2) s1 r) σ H Q)
    (k : ∀ x H1, tVs K Cl ClX W e2 r σ H1 (fun xs H2 => Q (x :: xs) H2) → t [x] σ H1) : tV K Cl ClX W e1 s1 σ H fun x H1 => t [x] σ H1 := by
  obtain ⟨P, ρ, f, l, lv, q⟩ := cons_ok qr h
  refine ⟨P, ρ, f, l, lv, ?_⟩
  cases hs : s1 ρ with
  | bad => rw [hs] at q; exact q
  | exc x ρ1 => rw [hs] at q; exact q
  | ok a ρ1 =>
    rw [hs] at q
    exact fun U H1 o => k U H1 (q U H1 o)
theorem two_args {e1 e2 : Bool} {s1 s2 : Env → Res (Val × Src)} (q2 : Quiet e2 s2) {σ : L2.St} {Q : List V → Hp → Prop} (h : tVs K Cl ClX W (e1 || (e2 || false)) (argsCons (!(e2 || false)) s1 (argsCons (!false) s2 argsNil)) σ H Q) :
    tV K Cl ClX W e1 s1 σ H fun x H1 => tV K Cl ClX W e2 s2 σ H1 fun y H2 => Q [x, y] H2 :=
  more_args (t := fun xs σ H1 => ∀ x, xs = [x] → tV K Cl ClX W e2 s2 σ H1 fun y H2 => Q [x, y] H2) (Quiet.cons q2 quiet_nil) h (fun x H1 h1 y e => by cases e; exact one_args h1) |> fun z => by
    obtain ⟨P, ρ, f, l, lv, q⟩ := z
    refine ⟨P, ρ, f, l, lv, ?_⟩
    cases hs : s1 ρ with
    | bad => rw [hs] at q; exact q
    | exc x ρ1 => rw [hs] at q; exact q
    | ok a ρ1 =>
      rw [hs] at q
      exact fun U H1 o => q U H1 o _ rfl
theorem tv_un {e1 : Bool} {s1 : Env → Res (Val × Src)} {a : Expr} {op : UnaryOp} {pos : Pos} {r : V → Hp → VK → Prop} {g : List Val → Option Val} (ha : PE X a (tV K Cl ClX W e1 s1)) (ho : UnR X (unaryOp op) r) (pr : PrimOk K Cl (fun xs H Q => ∃ x, xs = [x] ∧ r x H Q) g) :
    PE X (.UnaryOp op a pos) (tV K Cl ClX W (e1 || false) (prim g (argsCons (!false) s1 argsNil))) := PE.le (pe_un ho ha) fun σ H Q h => by
  obtain ⟨P, ρ, f, l, lv, q⟩ := one_args (prim_ok pr h)
  refine ⟨P, ρ, f, l, lv, ?_⟩
  cases hs : s1 ρ with
  | bad => rw [hs] at q; exact q
  | exc x ρ1 => rw [hs] at q; exact q
  | ok a ρ1 =>
    rw [hs] at q
    intro U H1 o
    obtain ⟨x, e, z⟩ := q U H1 o
    cases e
    exact z
theorem tv_callB {e1 : Bool} {s : Env → Res (List (Val × Src))} {a : Expr} {es : List Expr} {x : Str} {p pos : Pos} {id : String} {r : List V → Hp → VK → Prop} {g : List Val → Option Val} (hc : CallR X (.builtin id) r) (hg : Gl X x) (hm : X.mg x = none) (hv : bootBuiltins x = some (.builtin id))
    (hn : x ≠ "__name__") (hdb : (x == ("__debug__" : Str)) = false) (he : starEach (a :: es) X.env = (false, eval a X.env) :: starEach es X.env) (hpl : (backTo pos (starEach es X.env)).any (·.1) = false) (ha : PA X (a :: es) (tVs K Cl ClX W e1 s)) (pr : PrimOk K Cl r g) :
    PE X (.Call (.Name x p) (a :: es) [] pos) (tV K Cl ClX W e1 (prim g s)) := PE.le (pe_callB hc hg hm hv ha hn hdb he hpl) fun σ H Q h => prim_ok pr h
theorem tv_callTy {e1 : Bool} {s : Env → Res (List (Val × Src))} {a : Expr} {es : List Expr} {x : Str} {p pos : Pos} {T : String} {r : List V → Hp → VK → Prop} {g : List Val → Option Val} (hc : CallR X (.type T) r) (hg : Gl X x) (hm : X.mg x = none) (hv : bootBuiltins x = some (.type T))
    (hn : x ≠ "__name__") (hdb : (x == ("__debug__" : Str)) = false) (he : starEach (a :: es) X.env = (false, eval a X.env) :: starEach es X.env) (hpl : (backTo pos (starEach es X.env)).any (·.1) = false) (ha : PA X (a :: es) (tVs K Cl ClX W e1 s)) (pr : PrimOk K Cl r g) :
    PE X (.Call (.Name x p) (a :: es) [] pos) (tV K Cl ClX W e1 (prim g s)) := PE.le (pe_callTy hc hg hm hv ha hn hdb he hpl) fun σ H Q h => prim_ok pr h
theorem tv_isi {e1 : Bool} {s : Env → Res (Val × Src)} {a : Expr} {x : Str} {p p2 pos : Pos} {T : String} (hT : T ∈ ["bool", "int", "str", "tuple", "list"]) (hg : Gl X "isinstance") (hm : X.mg "isinstance" = none) (ht : PE X (.Name x p2) (tC (.ty T)))
    (he : starEach [a, .Name x p2] X.env = (false, eval a X.env) :: starEach [.Name x p2] X.env) (hpl : (backTo pos (starEach [.Name x p2] X.env)).any (·.1) = false) (he2 : starEach [.Name x p2] X.env = (false, eval (.Name x p2) X.env) :: starEach [] X.env) (ha : PE X a (tV X.K Cl ClX W e1 s)) :
    PE X (.Call (.Name "isinstance" p) [a, .Name x p2] [] pos) (tV X.K Cl ClX W (e1 || false) (prim (gIsi T) (argsCons (!false) s argsNil))) :=
  PE.le (pe_callB call_isi hg hm (by decide +kernel) (pa_cons ha (pa_cons ht pa_nil he2) he) (by decide) (by decide) he hpl) fun σ H Q h => by
    obtain ⟨P, ρ, f, l, lv, q⟩ := one_args (prim_ok (pr_isi hT) h)
    refine ⟨P, ρ, f, l, lv, ?_⟩
    cases hs : s ρ with
    | bad => rw [hs] at q; exact q
    | exc x ρ1 => rw [hs] at q; exact q
    | ok a ρ1 =>
      rw [hs] at q
      intro U H1 o
      obtain ⟨x, e, z⟩ := q U H1 o
      cases e
      exact z
/-- an outcome of arguments handed on -/
def sThen (s : Env → Res (List (Val × Src))) (k : List (Val × Src) → Env → Res (Val × Src)) : Env → Res (Val × Src) := fun ρ => (s ρ).bind k
theorem then_ok {e : Bool} {s : Env → Res (List (Val × Src))} {k : List (Val × Src) → Env → Res (Val × Src)} {σ : L2.St} {Q : VK} {Q1 : List V → Hp → Prop} (e2 : Bool) (h : tV K Cl ClX W (e || e2) (sThen s k) σ H Q)
    (hk : ∀ as ρ1 P H0 f P1 H1 f1 F Vs, Out K Cl P H0 f e ρ1 σ P1 H1 f1 → ArgsOk K Cl P1 H1 ρ1 σ f1 as Vs F → dis F f1 → Sub H0 F f → (match k as ρ1 with
      | .ok (v, sr) ρ' => ∀ U H', Out1 K Cl P H0 f (e || e2) ρ' σ v sr U H' → Q U H'
      | .exc x ρ' => ∀ c d H', OutX K Cl ClX P H0 f (e || e2) ρ' σ x c d H' → W c d σ H'
      | .bad => False) → Q1 Vs H1) : tVs K Cl ClX W e s σ H Q1 := by
  obtain ⟨P, ρ, f, l, lv, q⟩ := h
  refine ⟨P, ρ, f, l, lv, ?_⟩
  unfold sThen at q
  cases hs : s ρ with
  | bad => rw [hs] at q; exact q
  | exc x ρ1 =>
    rw [hs] at q
    exact fun c d H' ⟨P', f', o', xo⟩ => q c d H' ⟨P', f', o'.up e2, xo⟩
  | ok as ρ1 =>
    rw [hs] at q
    exact fun Vs H1 ⟨P1, f1, F, o1, a1, d1, sb⟩ => hk as ρ1 P H f P1 H1 f1 F Vs o1 a1 d1 sb q
/-- what came of a quiet step is an outcome of the whole -/
theorem Out1.of {f f1 : Ps} {ρ1 : Env} {σ : L2.St} {e e2 : Bool} {P1 P2 : Ps} {H1 H2 : Hp} {f2 fv : Ps} {ρ2 : Env} {v : Val} {sr : Src} {U : V} (o1 : Out K Cl P H f e ρ1 σ P1 H1 f1) (o2 : Out K Cl P1 H1 f1 e2 ρ2 σ P2 H2 f2) (r : R K Cl P2 H2 v U fv)
    (s : SrcOk K Cl H2 ρ2 σ f2 fv v U sr) (sb : SbOk H fv f sr) : Out1 K Cl P H f (e || e2) ρ2 σ v sr U H2 := ⟨P2, f2, fv, o1.trans o2, r, s, sb⟩
theorem args2 {ρ1 : Env} {σ : L2.St} {f1 F : Ps} {Vs : List V} {x y : Val} {s s' : Src} (h : ArgsOk K Cl P H ρ1 σ f1 [(x, s), (y, s')] Vs F) : ∃ U U' fx fy, Vs = [U, U'] ∧ R K Cl P H x U fx ∧ R K Cl P H y U' fy ∧ (match s with
    | .tmp => dis fx f1 ∧ ∀ b, fx b → F b
    | .brw => True
    | .plc i p => PlcOk K Cl H ρ1 σ x U i p) := by
  simp only [ArgsOk] at h
  obtain ⟨U, Vs', fx, g, rfl, h1, h2, h3⟩ := h
  obtain ⟨U', Vs'', fy, g', rfl, h4, h5, h6⟩ := h2
  obtain ⟨rfl, rfl⟩ := h5
  refine ⟨U, U', fx, fy, rfl, h1, h4, ?_⟩
  cases s with
  | tmp => exact ⟨h3.1, fun b z => by rw [h3.2.2]; exact .inl z⟩
  | brw => trivial
  | plc i p => exact h3.1
theorem child_src {ρ1 : Env} {σ : L2.St} {f1 fx : Ps} {t : Tag} {vs : List Val} {a : Addr} {Ws : List V} {xx g' : Ps} {k : Nat} {v : Val} {U : V} {s : Src} (hh : Hold K Cl H t a Ws xx) (e1 : vs[k]? = some v) (e2 : Ws[k]? = some U) (r : R K Cl P H v U g') (sub : ∀ b, g' b → fx b)
    (h : match s with
      | .tmp => dis fx f1 ∧ True
      | .brw => True
      | .plc i p => PlcOk K Cl H ρ1 σ (.node t vs) (.ref a) i p) : SrcOk K Cl H ρ1 σ f1 g' v U (childSrc s t k v) := by
  unfold childSrc
  by_cases hp : v.pure = true
  · rw [if_pos hp, r.pure_emp hp]
    exact emp_dis _
  · rw [if_neg hp]
    cases s with
    | tmp => exact fun b x y => h.1 b (sub b x) y
    | brw => trivial
    | plc i p =>
      by_cases ho : t.own = true
      · simp only [ho, if_true]
        obtain ⟨v0, W0, q1, q2, q3, q4⟩ := h
        obtain ⟨z1, z2⟩ := q4.snoc q3 ho hh e1 e2
        exact ⟨v0, W0, q1, q2, z2, z1⟩
      · simp only [ho]
        trivial
theorem seqIx_node {x : Val} {t : Tag} {vs : List Val} (h : seqIx x = some (t, vs)) : x = .node t vs ∧ (t = .tup ∨ t = .ktup ∨ t = .rol ∨ ∃ z, t = .lst z) := by
  unfold seqIx at h
  split at h <;> cases h
  · exact ⟨rfl, .inl rfl⟩
  · exact ⟨rfl, .inr (.inl rfl)⟩
  · exact ⟨rfl, .inr (.inr (.inl rfl))⟩
  · exact ⟨rfl, .inr (.inr (.inr ⟨_, rfl⟩))⟩
theorem sIx_inv {as : List (Val × Src)} {ρ : Env} : sIx as ρ = .bad ∨ ∃ x s i s' t vs k v, as = [(x, s), (.int i, s')] ∧ seqIx x = some (t, vs) ∧ ixN vs.length i = some k ∧ vs[k]? = some v ∧ sIx as ρ = .ok (v, childSrc s t k v) ρ := by
  rcases as with _ | ⟨⟨x, s⟩, _ | ⟨⟨y, s'⟩, _ | ⟨z, r⟩⟩⟩
  · exact .inl rfl
  · exact .inl rfl
  · cases y with
    | int i =>
      cases e : seqIx x with
      | none => left; simp only [sIx, e]
      | some tv =>
        obtain ⟨t, vs⟩ := tv
        cases ek : ixN vs.length i with
        | none => left; simp only [sIx, e, ek]
        | some k =>
          cases ev : vs[k]? with
          | none => left; simp only [sIx, e, ek, ev]
          | some v => exact .inr ⟨x, s, i, s', t, vs, k, v, rfl, e, ek, ev, by simp only [sIx, e, ek, ev]⟩
    | _ => exact .inl rfl
  · left
    cases y <;> rfl
theorem tv_ix {e1 e2 : Bool} {s1 s2 : Env → Res (Val × Src)} {a b : Expr} {pos : Pos} (q2 : Quiet e2 s2) (ha : PE X a (tV X.K Cl ClX W e1 s1)) (hb : PE X b (tV X.K Cl ClX W e2 s2)) (hs : PlainIx b) :
    PE X (.Subscript a b pos) (tV X.K Cl ClX W (e1 || (e2 || false)) (sThen (argsCons (!(e2 || false)) s1 (argsCons (!false) s2 argsNil)) sIx)) := PE.le (pe_ix ix_seq ha hb hs) fun σ H Q h => by
  rw [show (e1 || (e2 || false)) = ((e1 || (e2 || false)) || false) from by simp] at h
  have h2 := then_ok (Q1 := fun Vs H2 => ∃ x y, Vs = [x, y] ∧ rIx X.K x y H2 Q) false h ?_
  · have h3 := two_args q2 h2
    obtain ⟨P, ρ, f, l, lv, q⟩ := h3
    refine ⟨P, ρ, f, l, lv, ?_⟩
    cases hs : s1 ρ with
    | bad => rw [hs] at q; exact q
    | exc x ρ1 => rw [hs] at q; exact q
    | ok a ρ1 =>
      rw [hs] at q
      intro U H1 o
      obtain ⟨P, ρ, f, l, lv, q⟩ := q U H1 o
      refine ⟨P, ρ, f, l, lv, ?_⟩
      cases hs : s2 ρ with
      | bad => rw [hs] at q; exact q
      | exc x ρ1 => rw [hs] at q; exact q
      | ok a ρ1 =>
        rw [hs] at q
        intro U2 H2 o
        obtain ⟨x, y, e, z⟩ := q U2 H2 o
        cases e
        exact z
  · intro as ρ1 P H0 f P1 H1 f1 F Vs o1 a1 d1 sb q
    rcases sIx_inv (as := as) (ρ := ρ1) with hk | ⟨x, s, i, s', t, vs, k, v, rfl, e, ek, ev, hk⟩
    · rw [hk] at q; exact q.elim
    · rw [hk] at q
      obtain ⟨U, U', fx, fy, rfl, rx, ry, hsrc⟩ := args2 a1
      obtain ⟨rfl, ht⟩ := seqIx_node e
      simp only [R] at ry
      obtain ⟨b, Ws, xx, g, rfl, hh, rs, sub⟩ := rx.node_items
      obtain ⟨U1, g1, g2, e3, r1, _, rfl, _⟩ := rs.pick ev
      refine ⟨_, _, rfl, ?_⟩
      rw [ry.1]
      have hat : L2.atI Ws i = some U1 := by
        unfold L2.atI
        rw [← rs.length, ek]
        exact e3
      have sub1 : ∀ b, g1 b → fx b := fun b z => sub b (.inl z)
      have sb1 : SbOk H0 g1 f (childSrc s t k v) := by
        unfold childSrc
        by_cases hp : v.pure = true
        · rw [if_pos hp, r1.pure_emp hp]
          exact fun _ z => z.elim
        · rw [if_neg hp]
          cases s with
          | tmp => exact fun c z => sb c (hsrc.2 c (sub1 c z))
          | brw => trivial
          | plc i p => by_cases ho : t.own = true <;> simp only [ho] <;> trivial
      have so : SrcOk X.K Cl H1 ρ1 σ f1 g1 v U1 (childSrc s t k v) := child_src (fx := fx) hh ev e3 r1 sub1 (by
        cases s with
        | tmp => exact ⟨hsrc.1, trivial⟩
        | brw => trivial
        | plc i p => exact hsrc)
      have fin : Q U1 H1 := q U1 H1 ⟨P1, f1, g1, o1.up false, r1, so, sb1⟩
      rcases ht with rfl | rfl | rfl | ⟨z, rfl⟩
      · exact .inr (.inl ⟨b, Ws, i, U1, rfl, rfl, SqT.of hh.1, hat, fin⟩)
      · exact .inr (.inl ⟨b, Ws, i, U1, rfl, rfl, sqT_lift hh.1, hat, fin⟩)
      · exact .inl ⟨b, Ws, i, U1, rfl, rfl, .inl hh.1, hat, fin⟩
      · exact .inl ⟨b, Ws, i, U1, rfl, rfl, SqL.of hh.1, hat, fin⟩
end
end VS

namespace VS
open PySem L2
section
variable {K : PySem.W.Frag} {Cl ClX : Nat → Addr} {X : Cx} {W : WX} {P : Ps} {H : Hp}
theorem tv_mono {e : Bool} {s : Env → Res (Val × Src)} {σ : L2.St} {Q Q' : VK} (h : tV K Cl ClX W e s σ H Q) (m : ∀ x H1, Q x H1 → Q' x H1) : tV K Cl ClX W e s σ H Q' := by
  obtain ⟨P, ρ, f, l, lv, q⟩ := h
  refine ⟨P, ρ, f, l, lv, ?_⟩
  cases hs : s ρ with
  | bad => rw [hs] at q; exact q
  | exc x ρ1 => rw [hs] at q; exact q
  | ok a ρ1 =>
    rw [hs] at q
    exact fun U H1 o => m _ _ (q U H1 o)
theorem tvs_mono {e : Bool} {s : Env → Res (List (Val × Src))} {σ : L2.St} {Q Q' : List V → Hp → Prop} (h : tVs K Cl ClX W e s σ H Q) (m : ∀ x H1, Q x H1 → Q' x H1) : tVs K Cl ClX W e s σ H Q' := by
  obtain ⟨P, ρ, f, l, lv, q⟩ := h
  refine ⟨P, ρ, f, l, lv, ?_⟩
  cases hs : s ρ with
  | bad => rw [hs] at q; exact q
  | exc x ρ1 => rw [hs] at q; exact q
  | ok a ρ1 =>
    rw [hs] at q
    exact fun U H1 o => m _ _ (q U H1 o)
theorem cons_mono {e1 e2 : Bool} {s1 : Env → Res (Val × Src)} {r : Env → Res (List (Val × Src))} (qr : Quiet e2 r) {σ : L2.St} {Q : List V → Hp → Prop} {Q1 : VK} (h : tVs K Cl ClX W (e1 || e2) (argsCons (!e2) s1 r) σ H Q)
    (k : ∀ x H1, tVs K Cl ClX W e2 r σ H1 (fun xs H2 => Q (x :: xs) H2) → Q1 x H1) : tV K Cl ClX W e1 s1 σ H Q1 := tv_mono (cons_ok qr h) k
theorem three_args {e1 e2 e3 : Bool} {s1 s2 s3 : Env → Res (Val × Src)} (q2 : Quiet e2 s2) (q3 : Quiet e3 s3) {σ : L2.St} {Q : List V → Hp → Prop}
    (h : tVs K Cl ClX W (e1 || (e2 || (e3 || false))) (argsCons (!(e2 || (e3 || false))) s1 (argsCons (!(e3 || false)) s2 (argsCons (!false) s3 argsNil))) σ H Q) :
    tV K Cl ClX W e1 s1 σ H fun x H1 => tV K Cl ClX W e2 s2 σ H1 fun y H2 => tV K Cl ClX W e3 s3 σ H2 fun z H3 => Q [x, y, z] H3 :=
  cons_mono (Quiet.cons q2 (Quiet.cons q3 quiet_nil)) h fun x H1 h1 => two_args q3 h1
theorem PO.le {e : Option Expr} {t t' : TO} (h : PO X e t) (i : ∀ σ H Q, t' σ H Q → t σ H Q) : PO X e t' := ⟨fun pins s σ H Q I q => h.run pins s σ H Q I (i _ _ _ q)⟩
def tPt (t : TE) : TO := fun σ H Q => t σ H fun x H1 => ∃ o, IsPt x o ∧ Q o H1
theorem po_abs : PO X none (tPt (tV K Cl ClX W false fun ρ => .ok (.non, .tmp) ρ)) := PO.le po_none fun σ H Q ⟨P, ρ, f, l, lv, q⟩ => by
  obtain ⟨o, h, z⟩ := q .non H (Out1.pure l lv ⟨rfl, rfl⟩)
  rcases h with ⟨_, rfl⟩ | ⟨i, e, _⟩
  · exact z
  · cases e
def sInt (s : Env → Res (Val × Src)) : Env → Res (Val × Src) := fun ρ => (s ρ).bind sInt1
theorem po_int {e1 : Bool} {s : Env → Res (Val × Src)} {a : Expr} (h : PE X a (tV K Cl ClX W e1 s)) : PO X (some a) (tPt (tV K Cl ClX W e1 (sInt s))) := PO.le (po_some h) fun σ H Q ⟨P, ρ, f, l, lv, q⟩ => by
  refine ⟨P, ρ, f, l, lv, ?_⟩
  unfold sInt at q
  cases hs : s ρ with
  | bad => rw [hs] at q; exact q
  | exc x ρ1 => rw [hs] at q; exact q
  | ok a ρ1 =>
    rw [hs] at q
    obtain ⟨v, sr⟩ := a
    intro U H1 ⟨P1, f1, fv, o1, r1, s1, sb1⟩
    cases v with
    | int i =>
      simp only [R] at r1
      obtain ⟨o, h, z⟩ := q U H1 ⟨P1, f1, emp, o1, ⟨r1.1, rfl⟩, emp_dis _, fun _ z => z.elim⟩
      rw [r1.1] at h ⊢
      rcases h with ⟨e, _⟩ | ⟨j, e, rfl⟩
      · cases e
      · cases e; exact ⟨i, rfl, z⟩
    | _ => exact q.elim
theorem quiet_int {e1 : Bool} {s : Env → Res (Val × Src)} (h : Quiet e1 s) : Quiet e1 (sInt s) := fun z ρ => by
  have h1 := h z ρ
  unfold sInt
  cases hs : s ρ with
  | bad => trivial
  | exc x ρ1 => rw [hs] at h1; exact h1
  | ok a ρ1 =>
    rw [hs] at h1
    obtain ⟨v, sr⟩ := a
    cases v with
    | int i => exact h1
    | _ => trivial
def PtRes (s : Env → Res (Val × Src)) : Prop := ∀ ρ v sr ρ', s ρ = .ok (v, sr) ρ' → (∃ i, v = .int i) ∨ v = .non
theorem pt_int {s : Env → Res (Val × Src)} : PtRes (sInt s) := fun ρ v sr ρ' h => by
  unfold sInt at h
  cases hs : s ρ with
  | bad => rw [hs] at h; cases h
  | exc x ρ1 => rw [hs] at h; cases h
  | ok a ρ1 =>
    rw [hs] at h
    obtain ⟨w, s1⟩ := a
    cases w with
    | int i => cases h; exact .inl ⟨i, rfl⟩
    | _ => cases h
theorem pt_non : PtRes fun ρ => .ok (.non, .tmp) ρ := fun ρ v sr ρ' h => by cases h; exact .inr rfl
theorem tv_pt {e : Bool} {s : Env → Res (Val × Src)} (hp : PtRes s) {σ : L2.St} {Q : VK} (h : tV K Cl ClX W e s σ H Q) : tV K Cl ClX W e s σ H fun x H1 => ∃ o, IsPt x o ∧ Q x H1 := by
  obtain ⟨P, ρ, f, l, lv, q⟩ := h
  refine ⟨P, ρ, f, l, lv, ?_⟩
  cases hs : s ρ with
  | bad => rw [hs] at q; exact q
  | exc x ρ1 => rw [hs] at q; exact q
  | ok a ρ1 =>
    rw [hs] at q
    obtain ⟨v, sr⟩ := a
    intro U H1 o
    have z := q U H1 o
    obtain ⟨P1, f1, fv, o1, r1, _⟩ := o
    rcases hp _ _ _ _ hs with ⟨i, rfl⟩ | rfl
    · simp only [R] at r1; exact ⟨some i, .inr ⟨i, r1.1, rfl⟩, z⟩
    · simp only [R] at r1; exact ⟨none, .inl ⟨r1.1, rfl⟩, z⟩
theorem IsPt.inj {x : V} {o o' : Option Int} (h : IsPt x o) (h' : IsPt x o') : o = o' := by
  rcases h with ⟨rfl, rfl⟩ | ⟨i, rfl, rfl⟩ <;> rcases h' with ⟨e, rfl⟩ | ⟨j, e, rfl⟩ <;> cases e <;> rfl
theorem tv_slc {e1 e2 e3 : Bool} {s1 s2 s3 : Env → Res (Val × Src)} {a : Expr} {lo hi : Option Expr} {pos p2 : Pos} (q2 : Quiet e2 s2) (q3 : Quiet e3 s3) (p2' : PtRes s2) (p3 : PtRes s3) (ha : PE X a (tV X.K Cl ClX W e1 s1)) (hl : PO X lo (tPt (tV X.K Cl ClX W e2 s2)))
    (hu : PO X hi (tPt (tV X.K Cl ClX W e3 s3))) : PE X (.Subscript a (.Slice lo hi none p2) pos) (tV X.K Cl ClX W (e1 || (e2 || (e3 || false))) (prim gSlice (argsCons (!(e2 || (e3 || false))) s1 (argsCons (!(e3 || false)) s2 (argsCons (!false) s3 argsNil))))) :=
  PE.le (pe_slice sl_all ha hl hu) fun σ H Q h =>
    tv_mono (three_args q2 q3 (prim_ok pr_slice h)) fun x H1 h1 =>
      tv_mono (tv_pt p2' h1) fun y H2 ⟨o, ho, h2⟩ => ⟨o, ho,
        tv_mono (tv_pt p3 h2) fun z H3 ⟨o', ho', x', l, u, lo', hi', e, i1, i2, h3⟩ => ⟨o', ho', by
          cases e
          rw [ho.inj i1, ho'.inj i2]
          exact h3⟩⟩
/-! ### displays -/
theorem args_tmp : ∀ {as : List (Val × Src)} {Vs : List V} {F f : Ps} {ρ : Env} {σ : L2.St}, allTmp as = true → ArgsOk K Cl P H ρ σ f as Vs F → Rs K Cl P H (as.map (·.1)) Vs F
  | [], _, _, _, _, _, _, h => h
  | (v, s) :: r, _, _, _, _, _, ht, h => by
    cases s with
    | tmp =>
      simp only [ArgsOk] at h
      obtain ⟨V, Vs', fv, g, rfl, h1, h2, h3⟩ := h
      exact ⟨V, Vs', fv, g, rfl, h1, args_tmp (as := r) ht h2, h3.2.1, h3.2.2⟩
    | _ => cases ht
theorem tv_lst {e : Bool} {s : Env → Res (List (Val × Src))} {es : List Expr} {pos : Pos} (h : PA X es (tVs K Cl ClX W e s)) : PE X (.List es pos) (tV K Cl ClX W e (sThen s (sNode (.lst false)))) := PE.le (pe_lst h) fun σ H Q h => by
  rw [show e = (e || false) from by simp] at h
  refine then_ok false h fun as ρ1 P H0 f P1 H1 f1 F Vs o1 a1 d1 sb q => ?_
  unfold sNode at q
  by_cases hc : (allTmp as && lineB as.length) = true
  · rw [if_pos hc] at q
    simp only [Bool.and_eq_true] at hc
    have rs := args_tmp hc.1 a1
    have hl : as.length = Vs.length := by rw [← rs.length]; simp
    refine ⟨by rw [← hl]; exact lineB_ok hc.2, fun p hp => ?_⟩
    have t := tr_upd (P := P1) (o := .lst Vs) hp
    have o2 : Out K Cl P1 H1 f1 false ρ1 σ P1 (upd H1 p (.lst Vs)) f1 := ⟨t, o1.re.tr t (dis_emp _) (dis_emp _), Sub.refl _ _, fun _ => rfl, lv_upd o1.lv⟩
    have np : ∀ b, F b → b ≠ p := fun b x e => (rs.live b x).1 (by rw [e]; exact hp)
    refine q (.ref p) _ (Out1.of o1 o2 (fv := uni (one p) F) ?_ ?_ ?_)
    · refine ⟨p, Vs, one p, F, rfl, ⟨upd_same, rfl⟩, rs.tr t (dis_emp _) (dis_emp _), ?_⟩
      rw [if_pos (show (Tag.lst false).own = true from rfl)]
      exact ⟨rfl, fun b x y => np b y x, fun b x y => o1.lv b y (by rw [show b = p from x]; exact hp)⟩
    · intro b x y
      rcases x with x | x
      · exact (o1.re.live b y).1 (by rw [show b = p from x]; exact hp)
      · exact d1 b x y
    · intro b x
      rcases x with x | x
      · rw [show b = p from x]
        by_cases hw : wr e f p
        · exact .inl (wr_sub _ _ p hw)
        · refine .inr ?_
          cases z : H0 p with
          | none => rfl
          | some o => have := o1.tr.keep p o z hw; rw [hp] at this; cases this
      · exact sb b x
  · rw [if_neg hc] at q; exact q.elim
theorem tv_tup {e : Bool} {s : Env → Res (List (Val × Src))} {es : List Expr} {x1 : Nat} {pos : Pos} (h : PA X es (tVs K Cl ClX W e s)) : PE X (.Tuple es x1 pos) (tV K Cl ClX W e (sThen s (sNode .tup))) := PE.le (pe_tup h) fun σ H Q h => by
  rw [show e = (e || false) from by simp] at h
  refine then_ok false h fun as ρ1 P H0 f P1 H1 f1 F Vs o1 a1 d1 sb q => ?_
  unfold sNode at q
  by_cases hc : (allTmp as && lineB as.length) = true
  · rw [if_pos hc] at q
    simp only [Bool.and_eq_true] at hc
    have rs := args_tmp hc.1 a1
    have hl : as.length = Vs.length := by rw [← rs.length]; simp
    refine ⟨by rw [← hl]; exact lineB_ok hc.2, fun p hp => ?_⟩
    have t := tr_updP (P := P1) (o := .tup Vs) hp
    have o2 : Out K Cl P1 H1 f1 false ρ1 σ (uni P1 (one p)) (upd H1 p (.tup Vs)) f1 := ⟨t, o1.re.tr t (dis_emp _) (dis_emp _), Sub.refl _ _, fun _ => rfl, fun b z => by
      rcases z with z | z
      · exact lv_upd o1.lv b z
      · rw [show b = p from z, upd_same]; simp⟩
    refine q (.ref p) _ (Out1.of o1 o2 (fv := F) ?_ d1 sb)
    refine ⟨p, Vs, one p, F, rfl, ⟨upd_same, rfl⟩, rs.tr t (dis_emp _) (dis_emp _), ?_⟩
    rw [if_neg (by simp [Tag.own])]
    exact ⟨rfl, fun b z => .inr z⟩
  · rw [if_neg hc] at q; exact q.elim
end
end VS

/-! a def's promise where nothing is being shown (no repr runs): what repr(x) of data asks for -/
namespace VS
open PySem PySem.Spec PyProof.Rows L2
/-- as a def's promise, but only where no repr is under way -/
structure FnG (P : Program) (w : World) (K : PySem.W.Frag) (mg : Str → Option Value) (base : Heap) (CX : CXT) (k : Nat) (f : Addr) (fd : FuncData) (ps : List Str) (sp : Sp) : Prop where
  len : ∀ vs H Q E, sp vs H Q E → vs.length = ps.length
  run : ∀ (A : Around), A.guards = some [] → ∀ (outer : List PySem.Env) (s : Shared) (H : Hp) (args : Args) (us : List Value) (vs : List V) (Q : VK) (E : XK), Room (2 * k) A → Env0 P w K mg base A outer s H → BindsTo s fd args (ps.zip us) → Vals vs us → sp vs H Q E →
    codeAny (model P w) A (.call (.ref f) args) (CR CX outer P w H s Q E) s
section
variable {P : Program} {w : World} {K : PySem.W.Frag} {mg : Str → Option Value} {base : Heap} {CX : CXT}
theorem FnG.mono {j k : Nat} {f : Addr} {fd : FuncData} {ps : List Str} {sp : Sp} (F : FnG P w K mg base CX j f fd ps sp) (h : j ≤ k) : FnG P w K mg base CX k f fd ps sp :=
  ⟨F.len, fun A g outer s H args us vs Q E hr => F.run A g outer s H args us vs Q E (hr.mono (by omega))⟩
/-- a def by its body, where no repr is under way -/
theorem fnG {x qual : Str} {params : Arguments} {body : List Stmt} {scope : Scope} {dvs : List V} {kws : List (Str × V)} {f : Addr} {fd : FuncData} {N ps : List Str} {k : Nat} {sp : Sp} (F : FunD K x qual params body scope dvs kws f fd) (S : FnScope N ps scope) (len : ∀ vs H Q E, sp vs H Q E → vs.length = ps.length)
    (hbody : ∀ (cdv : Value) (A : Around) (outer : List PySem.Env) (s : Shared) (H : Hp) (vs : List V) (Q : VK) (E : XK), A.guards = some [] → Room (2 * k + 1) (A.deeper (envOfC qual scope s.heap.objs.size f cdv)) → sp vs H Q E →
      ∃ t, PSs (cxOf CX P w K mg base N qual scope f cdv A outer s H E) body t ∧ t { nx := fun _ H' => Q .non H', rt := Q } (start N vs) H) : FnG P w K mg base CX (k + 1) f fd ps sp := by
  obtain ⟨oc, od, dV, kV, doc, pm, an, cdv, ct, osl, rfl, lk, hcd, _, _⟩ := F.ex
  refine ⟨len, fun A g outer s H args us vs Q E hr e0 hb r hsp => ?_⟩
  have old : ∀ b o, base.get? b = some o → s.heap.get? b = some o := fun b o e => (e0.bs b o e).1
  have KX : K.In s.heap := e0.mod.kin.keeps old
  have kinds : ∀ y ∈ ps.zip us, scope.names.lookup y.1 = some .local ∨ (scope.names.lookup y.1 = some .cell ∧ ((cellsFrom (s.heap.objs.size + 1) scope.names []).lookup y.1).isSome = true) := fun y hy =>
    (S.par y.1 (List.of_mem_zip (show (y.1, y.2) ∈ ps.zip us from hy)).1).imp id fun q => ⟨q, PySem.W.cellsFrom_some _ _ _ (.inl q)⟩
  refine codeAny_call_function hr.depth (KX _ _ lk) rfl S.co S.gen rfl (PySem.W.codeRec_of KX hcd) (hb _ _ _ _ (wpAny_newFunctionEnv_cells S.kind kinds fun env he s1 x => ?_))
  subst he
  refine ⟨(e0.mod.nolimit.keeps old).keeps x.toInCall.keep, codeAny_func ?_⟩
  obtain ⟨t, ht, hq⟩ := hbody cdv A outer s H vs Q E g (Room.deeper (show Room (2 * k + 1 + 1) A from hr) _) hsp
  refine wpAny_mono (ht.run [] s1 (start N vs) H _ (inv_start S hr.hd e0 (len _ _ _ _ hsp) r x) hq) (fun fl s' hs => ?_) fun e s' hs => hs
  cases fl with
  | ret u => obtain ⟨v, σ', H', J, rv, q⟩ := hs; exact ⟨v, H', J.os, J.bare, J.base, J.hok, rv, q⟩
  | next => obtain ⟨σ', H', J, q⟩ := hs; exact ⟨.non, H', J.os, J.bare, J.base, J.hok, rfl, q⟩
  | brk => obtain ⟨_, _, _, q⟩ := hs; exact q.elim
  | cont => obtain ⟨_, _, _, q⟩ := hs; exact q.elim
end
section
variable {X : Cx} {CX : CXT} {k : Nat} {f : Addr} {fd : FuncData} {ps : List Str} {sp : Sp} {E : St → XK} {x : Str} {p pos : Pos} {e : Expr} {es : List Expr} {t : TA}
theorem run_G {pins : List (Addr × Obj)} {σ : L2.St} {H : Hp} {s : Shared} {Q : VK} {us : List Value} {vs : List V} {E : L2.St → XK} (F : FnG X.prog X.w X.K X.mg X.base CX k f fd ps sp) (g : X.A.guards = some []) (hr : Room (2 * k) X.A) (hb : Binds X.K fd ps []) (hx : PassesAt CX X σ (E σ))
    (I : Inv X pins σ H s) (r : Vals vs us) (h : sp vs H Q (E σ)) : wpAny (model X.prog X.w) X.A (call (.ref f) us) (EP X pins σ Q) X.xe s := by
  have b := hb s us I.kIn (by rw [List.append_nil, ← r.length]; exact F.len _ _ _ _ h)
  rw [List.append_nil] at b
  refine wpAny_call (codeAny_mono (F.run X.A g X.stack s H ⟨us, []⟩ us vs Q (E σ) hr I.env0 b r h) fun q s' hq => ?_)
  match q, hq with
  | .error e, hq => exact hx pins H s e s' I hq
  | .ok (.ret u), hq => exact I.after hq
  | .ok .next, hq => exact hq.elim
  | .ok .brk, hq => exact hq.elim
  | .ok .cont, hq => exact hq.elim
/-- f(e, ..) -/
theorem pe_callG {E : L2.St → XK} (F : FnG X.prog X.w X.K X.mg X.base CX k f fd ps sp) (g : X.A.guards = some []) (hr : Room (2 * k) X.A) (hg : Gl X x) (hm : X.mg x = some (.ref f)) (hk : PySem.W.keepIn X.K (.ref f) = true) (hb : Binds X.K fd ps []) (hx : ∀ σ, PassesAt CX X σ (E σ))
    (ha : PA X (e :: es) t) (hdb : (x == ("__debug__" : Str)) = false) (he : starEach (e :: es) X.env = (false, eval e X.env) :: starEach es X.env) (hpl : (backTo pos (starEach es X.env)).any (·.1) = false) :
    PE X (.Call (.Name x p) (e :: es) [] pos) (tCallS sp E t) :=
  ⟨fun pins s σ H Q I h => wpAny_Call_Name_kw (ld_glob I hg hm (PySem.W.callWith_K (h₀ := X.base) I.ok.mod.kin hk (thn (ha.run pos pins s σ H _ I h) fun us s1 ⟨vs, H1, I1, r, q⟩ => ⟨I1.kIn, run_G F g hr hb (hx σ) I1 r q⟩) he hpl) hdb)⟩
end
/-- the law's call: by the promise at the caller's own place -/
theorem law_callG {P : Program} {w : World} {K : PySem.W.Frag} {mg mb : Str → Option Value} {CX : CXT} {k : Nat} {fa a : Addr} {fd : FuncData} {x : Str} {sp : Sp} {s₁ : Shared} {vs : List Value} {ns : List Int}
    (KX : K.In s₁.heap) (hns : s₁.heap.Ns mainGlobals mg) (hb : s₁.heap.Ns builtinsNs mb) (hbb : ∀ x : Str, x ≠ "__name__" → mb x = bootBuiltins x) (hlim : s₁.heap.NoLimit) (hg : s₁.gens = #[])
    (ha : s₁.heap.get? a = some { cls := .type "list", data := .seq vs.toArray }) (hi : IntsAre vs ns) (hl : ns.length ≤ sizeLine) (hr : Room (2 * k) callerA) (nl : K.lookup a = none)
    (F : ∀ base : Heap, K.In base → base.Ns mainGlobals mg → FnG P w K mg base CX k fa fd [x] sp) (hbind : ∀ (s : Shared) (u : Value), BindsTo s fd ⟨[u], []⟩ [(x, u)])
    (hsp : ∀ H : Hp, Only H → SqL K H a (ns.map V.int) → sp [.ref a] H (fun v _ => v = .bl true) fun _ _ _ => False)
    (hCX : ∀ H e s', CX [] H s₁ (fun _ _ _ => False) e s' → False) :
    codeAny (model P w) callerA (.call (.ref fa) ⟨[.ref a], []⟩) (fun r s' => r = .ok (.ret (.bool true)) ∧ OldK s₁.heap s'.heap ∧ s'.os = s₁.os ∧ AllBare s'.gens) s₁ := by
  -- the script alone is tracked, as it stands
  let o : Obj := { cls := .type "list", data := .seq vs.toArray }
  let H : Hp := fun b => if b = a then some (.frz o (.lst (ns.map V.int))) else none
  have at_ : H a = some (.frz o (.lst (ns.map V.int))) := if_pos rfl
  have off : ∀ {b}, b ≠ a → H b = none := fun h => if_neg h
  have ok : HOk P w H s₁.heap := fun b u z => by
    by_cases e : b = a
    · subst e
      rw [at_] at z
      cases z
      exact ⟨ha, by rw [List.length_map]; exact hl, vs, _, vals_ints hi, ha⟩
    · rw [off e] at z; cases z
  have dicts : ∀ {b : Addr} {ob : Obj} {es : Array DictEntry} {ep : Nat}, s₁.heap.get? b = some ob → ob.data = .dict es ep → H b = none := fun {b ob es ep} e d => off fun q => by
    rw [q, ha] at e
    cases e
    cases (show Data.seq vs.toArray _ = Data.dict es ep from d)
  have space : ∀ {b : Addr} {m : Str → Option Value}, s₁.heap.Ns b m → (hidT s₁.heap H).Ns b m := fun ⟨ob, es, ep, e, d, r⟩ => ⟨ob, es, ep, hidT_get e (dicts e d), d, r⟩
  have kin : K.In (hidT s₁.heap H) := fun b ob e => hidT_get (KX b ob e) (off fun q => by rw [q, nl] at e; cases e)
  have md : Mod K mg (hidT s₁.heap H) := ⟨kin, space hns, ⟨mb, space hb, hbb⟩, let ⟨mc, h1, h2⟩ := hlim; ⟨mc, space h1, h2⟩⟩
  have e0 : Env0 P w K mg (hidT s₁.heap H) callerA [] s₁ H := ⟨rfl, md, fun b ob e => of_hidT e, Nat.le_of_eq (hidT_size _ _), trivial, fun b hb => absurd (show b ∈ ([] : List Addr) from hb) (by simp), ok, .of_eq hg⟩
  have only : Only H := fun b => by
    by_cases e : b = a
    · subst e; exact .inr ⟨_, _, at_⟩
    · exact .inl (off e)
  refine codeAny_mono ((F _ kin (space hns)).run callerA rfl [] s₁ H ⟨[.ref a], []⟩ [.ref a] [.ref a] _ _ hr e0 (hbind s₁ (.ref a)) (.cons rfl .nil) (hsp H only (.inl (.inr ⟨o, at_⟩)))) fun r s' h => ?_
  match r, h with
  | .error e, h => exact (hCX H e s' h).elim
  | .ok .next, h => exact h.elim
  | .ok .brk, h => exact h.elim
  | .ok .cont, h => exact h.elim
  | .ok (.ret u), ⟨v, H', os, bare, un, hok', rv, q⟩ =>
    obtain rfl : v = .bl true := q
    obtain rfl : u = Value.bool true := rv
    refine ⟨rfl, OldK.of_keep fun b ob e => ?_, os, bare⟩
    by_cases z : b = a
    · subst z
      rw [ha] at e
      cases e
      exact (hok' b _ (un.frzs b o _ at_)).1
    · exact un.keep b ob e (off z) (fun m => absurd (show b ∈ ([] : List Addr) from m) (by simp)) (by simp)
end VS

namespace VS
open PySem L2
section
variable (K : PySem.W.Frag) (Cl ClX : Nat → Addr)
/-- those that are not to be changed are pure -/
def nPure : List Bool → List Val → Bool
  | true :: ms, _ :: vs => nPure ms vs
  | false :: ms, v :: vs => v.pure && nPure ms vs
  | [], [] => true
  | _, _ => false
/-- a def's promise by what it comes to -/
def spOf (ms : List Bool) (F : List Val → FRes) : Sp := fun Vs H Q E => ∃ P f as, Rs K Cl P H as Vs f ∧ Lv P H ∧ nPure ms as = true ∧ match F as with
  | .ok v fin => ∀ U H' P' fv ff, Tr P H f P' H' → Rs K Cl P' H' fin Vs ff → R K Cl P' H' v U fv → dis fv ff → Sub H ff f → Sub H fv f → Lv P' H' → Q U H'
  | .exc x fin => ∀ c d H' P' ff, Tr P H f P' H' → Rs K Cl P' H' fin Vs ff → Sub H ff f → Lv P' H' → XcOk ClX H' x c d → E c d H'
  | .bad => False
/-- the values of those that may be changed -/
def MR (P : Ps) (H : Hp) : List Bool → List Val → List V → Ps → Prop
  | [], [], Vs, f => Vs = [] ∧ f = emp
  | true :: ms, v :: vs, Vs, f => ∃ U Vs' f1 f2, Vs = U :: Vs' ∧ R K Cl P H v U f1 ∧ MR P H ms vs Vs' f2 ∧ dis f1 f2 ∧ f = uni f1 f2
  | false :: ms, _ :: vs, Vs, f => ∃ U Vs', Vs = U :: Vs' ∧ MR P H ms vs Vs' f
  | _, _, _, _ => False
/-- the arguments that may be changed, where they stand -/
def MA (P : Ps) (H : Hp) (ρ : Env) (σ : L2.St) : List Bool → List (Val × Src) → List V → Ps → Prop
  | [], [], Vs, F => Vs = [] ∧ F = emp
  | true :: ms, (v, s) :: as, Vs, F => ∃ U Vs' fv g, Vs = U :: Vs' ∧ R K Cl P H v U fv ∧ MA P H ρ σ ms as Vs' g ∧ match s with
    | .tmp => dis fv g ∧ F = uni fv g
    | .brw => False
    | .plc i p => PlcOk K Cl H ρ σ v U i p ∧ F = g
  | false :: ms, _ :: as, Vs, F => ∃ U Vs', Vs = U :: Vs' ∧ MA P H ρ σ ms as Vs' F
  | _, _, _, _ => False
end
section
variable {K : PySem.W.Frag} {Cl ClX : Nat → Addr} {X : Cx} {W : WX} {P P' : Ps} {H H' : Hp} {σ : L2.St}
/-! ### a def that changes nothing -/
theorem args_frz : ∀ {as : List (Val × Src)} {Vs : List V} {F f : Ps} {ρ : Env}, ArgsOk K Cl P H ρ σ f as Vs F → ∃ G : Ps, (∀ P', (∀ b, P b ∨ G b → P' b) → Rs K Cl P' H (freezes (as.map (·.1))) Vs emp) ∧ (∀ b, G b → H b ≠ none ∧ ¬ P b ∧ ∀ xs, H b ≠ some (.tup xs)) ∧ (pures (as.map (·.1)) = true → G = emp)
  | [], _, _, _, _, h => ⟨emp, fun _ _ => ⟨h.1, rfl⟩, fun _ z => z.elim, fun _ => rfl⟩
  | (v, s) :: r, Vs, F, f, ρ, h => by
    simp only [ArgsOk] at h
    obtain ⟨U, Vs', fv, g, rfl, h1, h2, _⟩ := h
    obtain ⟨G, k1, k2, k3⟩ := args_frz h2
    refine ⟨uni fv G, fun P' hp => ?_, fun b z => ?_, fun hp => ?_⟩
    · simp only [List.map_cons, freezes, Rs]
      exact ⟨U, Vs', emp, emp, rfl, h1.frz fun b z => hp b (z.imp id .inl), k1 P' fun b z => hp b (z.imp id .inr), emp_dis _, (uni_emp _).symm⟩
    · rcases z with z | z
      · exact ⟨(h1.live b z).1, (h1.live b z).2, h1.notup b z⟩
      · exact k2 b z
    · simp only [List.map_cons, pures, Bool.and_eq_true] at hp
      rw [h1.pure_emp hp.1, k3 hp.2, uni_emp]
theorem freezes_pure : ∀ vs : List Val, pures (freezes vs) = true
  | [] => rfl
  | v :: vs => by simp only [freezes, pures, freeze_pure, freezes_pure vs, Bool.and_self]
theorem nPure_all : ∀ {ms : List Bool} {vs : List Val}, ms.any id = false → pures vs = true → ms.length = vs.length → nPure ms vs = true
  | [], [], _, _, _ => rfl
  | true :: ms, _, h, _, _ => by simp at h
  | false :: ms, v :: vs, h, hp, l => by
    simp only [pures, Bool.and_eq_true] at hp
    simp only [nPure, hp.1, Bool.true_and]
    exact nPure_all (by simpa using h) hp.2 (by simpa using l)
  | [], _ :: _, _, _, l => by simp at l
  | false :: _, [], _, _, l => by simp at l
/-- back from a def to which cells G were shown as frozen -/
theorem unfrz {P1 G P' : Ps} {H1 H' : Hp} {w : Ps} (t : Tr (uni P1 G) H1 w P' H') (hw : ∀ b, w b → ¬ G b) (hg : ∀ b, G b → H1 b ≠ none ∧ ¬ P1 b ∧ ∀ xs, H1 b ≠ some (.tup xs)) :
    Tr P1 H1 w (fun b => P' b ∧ ¬ G b) H' ∧ (∀ b, P' b → ¬ (P' b ∧ ¬ G b) → ∀ xs, H' b ≠ some (.tup xs)) := by
  refine ⟨⟨t.keep, fun b z => ⟨t.pm b (.inl z), fun y => (hg b y).2.1 z⟩, fun b z => ?_⟩, fun b z y xs e => ?_⟩
  · rcases t.pn b z.1 with q | q | q
    · exact q.elim .inl fun q => (z.2 q).elim
    · exact .inr (.inl q)
    · exact .inr (.inr q)
  · have hb : G b := Classical.byContradiction fun n => y ⟨z, n⟩
    obtain ⟨l, _, nt⟩ := hg b hb
    cases q : H1 b with
    | none => exact l q
    | some o =>
      have := t.keep b o q (fun z => hw b z hb)
      rw [this] at e
      cases e
      exact nt _ q
theorem call_ok {D : Defs} {f : Nat} {as : List (Val × Src)} {ρ1 : Env} {f1 F : Ps} {Vs : List V} {Q : VK} {E : XK} {fz : Ps} {e : Bool} {P0 : Ps} {H0 : Hp} (hl : (D.modes f).length = as.length) (o1 : Out K Cl P0 H0 fz e ρ1 σ P H f1) (a1 : ArgsOk K Cl P H ρ1 σ f1 as Vs F)
    (q : match sCall D f as ρ1 with
      | .ok (v, sr) ρ' => ∀ U H', Out1 K Cl P0 H0 fz e ρ' σ v sr U H' → Q U H'
      | .exc x ρ' => ∀ c d H', OutX K Cl ClX P0 H0 fz e ρ' σ x c d H' → E c d H'
      | .bad => False) : spOf K Cl ClX (D.modes f) (D.run f) Vs H Q E := by
  unfold sCall at q
  by_cases hm : (D.modes f).any id = true
  · rw [if_pos hm] at q; exact q.elim
  rw [if_neg hm] at q
  have hm : (D.modes f).any id = false := by simpa using hm
  obtain ⟨G, k1, k2, k3⟩ := args_frz a1
  have fl : (freezes (as.map (·.1))).length = as.length := by
    have : ∀ vs : List Val, (freezes vs).length = vs.length := fun vs => by
      induction vs with
      | nil => rfl
      | cons v vs ih => simp [freezes, ih]
    rw [this, List.length_map]
  refine ⟨uni P G, emp, _, k1 _ fun b z => z, fun b z => z.elim (o1.lv b) fun z => (k2 b z).1, nPure_all hm (freezes_pure _) (by rw [hl, fl]), ?_⟩
  have back : ∀ {P' : Ps} {H' : Hp}, Tr (uni P G) H emp P' H' → Lv P' H' → Out K Cl P0 H0 fz e ρ1 σ (fun b => P' b ∧ ¬ G b) H' f1 := fun {P' H'} t lv => by
    have t2 := (unfrz t (fun b z => z.elim) k2).1
    have o2 : Out K Cl P H f1 false ρ1 σ (fun b => P' b ∧ ¬ G b) H' f1 := ⟨t2, o1.re.tr t2 (dis_emp _) (dis_emp _), Sub.refl _ _, fun _ => rfl, fun b z => lv b z.1⟩
    have := o1.trans o2
    rwa [Bool.or_false] at this
  cases hr : D.run f (freezes (as.map (·.1))) with
  | bad => rw [hr] at q; exact q
  | exc x fin =>
    rw [hr] at q
    exact fun c d H' P' ff t rs sb lv xo => q c d H' ⟨_, f1, back t lv, xo⟩
  | ok v fin =>
    rw [hr] at q
    dsimp only at q
    by_cases hc : (pures (as.map (·.1)) || v.nofz) = true
    · rw [if_pos hc] at q
      intro U H' P' fv ff t rs r d sb sbv lv
      have o := back t lv
      have nw : ∀ b, fv b → H b = none := fun b z => (sbv b z).elim (fun z => z.elim) id
      refine q U H' ⟨_, f1, fv, o, ?_, fun b x y => ?_, fun b x => ?_⟩
      · rcases Bool.or_eq_true_iff.mp hc with hp | hn
        · rw [k3 hp]
          refine r.frame (fun _ _ e _ => e) fun b z => ?_
          exact ⟨fun z => z.1, fun z => ⟨z, fun z => z.elim⟩⟩
        · exact r.thaw hn (unfrz t (fun b z => z.elim) k2).2 fun b z y => (r.live b z).2 y.1
      · exact (o1.re.live b y).1 (nw b x)
      · by_cases hw : wr e fz b
        · exact .inl (wr_sub _ _ b hw)
        · refine .inr ?_
          cases z : H0 b with
          | none => rfl
          | some o' => have := o1.tr.keep b o' z hw; rw [nw b x] at this; cases this
    · rw [if_neg hc] at q; exact q.elim
/-- f(e, ..) by a def's promise -/
theorem tv_call {D : Defs} {f k : Nat} {fa : Addr} {fd : FuncData} {ps : List Str} {e : Bool} {s : Env → Res (List (Val × Src))} {a : Expr} {es : List Expr} {x : Str} {p pos : Pos} (Fk : FnG X.prog X.w X.K X.mg X.base (L2.CX X.prog X.w) k fa fd ps (spOf X.K Cl ClX (D.modes f) (D.run f))) (gu : X.A.guards = some []) (hr : Room (2 * k) X.A)
    (hg : Gl X x) (hm : X.mg x = some (.ref fa)) (hk : PySem.W.keepIn X.K (.ref fa) = true) (hb : Binds X.K fd ps []) (tk : Takes X W) (hl : ∀ ρ as ρ1, s ρ = .ok as ρ1 → (D.modes f).length = as.length)
    (ha : PA X (a :: es) (tVs X.K Cl ClX W e s)) (hdb : (x == ("__debug__" : Str)) = false) (he : starEach (a :: es) X.env = (false, eval a X.env) :: starEach es X.env) (hpl : (backTo pos (starEach es X.env)).any (·.1) = false) :
    PE X (.Call (.Name x p) (a :: es) [] pos) (tV X.K Cl ClX W e (sThen s (sCall D f))) := PE.le (pe_callG Fk gu hr hg hm hk hb (fun σ => passAt tk σ) ha hdb he hpl) fun σ H Q h => by
  obtain ⟨P, ρ, f0, l, lv, q⟩ := h
  refine ⟨P, ρ, f0, l, lv, ?_⟩
  unfold sThen at q
  cases hs : s ρ with
  | bad => rw [hs] at q; exact q
  | exc x ρ1 => rw [hs] at q; exact q
  | ok as ρ1 =>
    rw [hs] at q
    intro Vs H1 ⟨P1, f1, F, o1, a1, d1, sb⟩
    exact call_ok (hl _ _ _ hs) o1 a1 q
end
end VS

namespace VS
open PySem L2
section
variable {K : PySem.W.Frag} {Cl ClX : Nat → Addr} {X : Cx} {W : WX} {P P' : Ps} {H H' : Hp} {σ : L2.St}
/-! ### a def that may change some of its arguments -/
theorem putAt_other {ρ : Env} {i j : Nat} {p : List Nat} {v : Val} (h : j ≠ i) : (putAt ρ i p v)[j]? = ρ[j]? := by
  unfold putAt
  split
  · rw [List.getElem?_set_ne (Ne.symm h)]
  · rfl
theorem putAt_set {ρ : Env} {i j : Nat} {p : List Nat} {v : Val} {o : Option Val} (h : j ≠ i) : putAt (ρ.set i o) j p v = (putAt ρ j p v).set i o := by
  unfold putAt
  rw [List.getElem?_set_ne (Ne.symm h)]
  cases ρ[j]? with
  | none => rfl
  | some x =>
    cases x with
    | none => rfl
    | some y => exact List.set_comm _ _ (Ne.symm h)
theorem mPut_set : ∀ {ms : List Bool} {as : List (Val × Src)} {fin : List Val} {ρ : Env} {i : Nat} {o : Option Val}, (mSlots ms as).contains i = false → mPut ms as fin (ρ.set i o) = (mPut ms as fin ρ).set i o
  | [], _, _, _, _, _, _ => by simp [mPut]
  | true :: ms, [], _, _, _, _, _ => by simp [mPut]
  | false :: ms, [], _, _, _, _, _ => by simp [mPut]
  | true :: ms, (_, .plc j p) :: as, [], _, _, _, _ => by simp [mPut]
  | true :: ms, (_, .tmp) :: as, [], _, _, _, _ => by simp [mPut]
  | true :: ms, (_, .brw) :: as, [], _, _, _, _ => by simp [mPut]
  | false :: ms, _ :: as, [], _, _, _, _ => by simp [mPut]
  | true :: ms, (w, .plc j p) :: as, v :: fin, ρ, i, o, h => by
    simp only [mSlots, List.contains_cons, Bool.or_eq_false_iff, beq_eq_false_iff_ne] at h
    simp only [mPut]
    rw [putAt_set (fun e => h.1 e.symm), mPut_set h.2]
  | true :: ms, (w, .tmp) :: as, v :: fin, ρ, i, o, h => by
    simp only [mPut]
    exact mPut_set (ms := ms) (as := as) h
  | true :: ms, (w, .brw) :: as, v :: fin, ρ, i, o, h => by
    simp only [mPut]
    exact mPut_set (ms := ms) (as := as) h
  | false :: ms, (w, s) :: as, v :: fin, ρ, i, o, h => by
    simp only [mPut]
    exact mPut_set (ms := ms) (as := as) h
theorem MA.drop : ∀ {ms : List Bool} {as : List (Val × Src)} {Vs : List V} {F : Ps} {ρ : Env} {i : Nat}, MA K Cl P H ρ σ ms as Vs F → (mSlots ms as).contains i = false → MA K Cl P H (ρ.set i none) σ ms as Vs F
  | [], [], _, _, _, _, h, _ => h
  | true :: ms, (v, s) :: as, _, _, ρ, i, h, n => by
    simp only [MA] at h ⊢
    obtain ⟨U, Vs', fv, g, rfl, h1, h2, h3⟩ := h
    cases s with
    | tmp => exact ⟨U, Vs', fv, g, rfl, h1, h2.drop n, h3⟩
    | brw => exact h3.elim
    | plc j p =>
      simp only [mSlots, List.contains_cons, Bool.or_eq_false_iff, beq_eq_false_iff_ne] at n
      refine ⟨U, Vs', fv, g, rfl, h1, h2.drop n.2, ?_, h3.2⟩
      obtain ⟨v0, W0, q1, q2, q3, q4⟩ := h3.1
      exact ⟨v0, W0, by rw [List.getElem?_set_ne n.1]; exact q1, q2, q3, q4⟩
  | false :: ms, (v, s) :: as, _, _, _, _, h, n => by
    simp only [MA] at h ⊢
    obtain ⟨U, Vs', rfl, h2⟩ := h
    exact ⟨U, Vs', rfl, h2.drop n⟩
  | [], _ :: _, _, _, _, _, h, _ => by simp [MA] at h
  | true :: _, [], _, _, _, _, h, _ => by simp [MA] at h
  | false :: _, [], _, _, _, _, h, _ => by simp [MA] at h
theorem wipe_comm : ∀ {l : List Nat} {ρ : Env} {i : Nat}, wipeE (ρ.set i none) l = (wipeE ρ l).set i none
  | [], _, _ => rfl
  | j :: l, ρ, i => by
    simp only [wipeE]
    rw [wipe_comm]
    by_cases e : i = j
    · subst e; rfl
    · rw [List.set_comm _ _ e]
/-- the changeable ones taken out of the names' values, and how to put them back -/
theorem borrow : ∀ {ms : List Bool} {as : List (Val × Src)} {Vs : List V} {F f : Ps} {ρ : Env}, RE K Cl P H ρ σ f → MA K Cl P H ρ σ ms as Vs F → dis F f → nodupB (mSlots ms as) = true →
    ∃ fu g, MR K Cl P H ms (as.map (·.1)) Vs fu ∧ RE K Cl P H (wipeE ρ (mSlots ms as)) σ g ∧ (∀ b, g b → f b) ∧ (∀ b, fu b → (f b ∧ ¬ g b) ∨ F b) ∧
      ∀ {P' : Ps} {H' : Hp} {fin : List Val} {ff : Ps}, (∀ b o, H b = some o → P b ∨ (f b ∧ ¬ fu b) → H' b = some o) → (∀ b, P b ∨ (f b ∧ ¬ fu b) → (P' b ↔ P b)) → MR K Cl P' H' ms fin Vs ff → (∀ b, ff b → f b → fu b) →
        ∃ f', RE K Cl P' H' (mPut ms as fin ρ) σ f' ∧ ∀ b, f' b → (f b ∧ ¬ fu b) ∨ ff b
  | [], [], Vs, F, f, ρ, l, h, d, n => by
    simp only [MA] at h
    refine ⟨emp, f, h.1 ▸ ⟨rfl, rfl⟩, l, fun _ z => z, fun _ z => z.elim, fun {P' H' fin ff} k p m s => ⟨f, ?_, fun b z => .inl ⟨z, fun z => z⟩⟩⟩
    have : mPut [] [] fin ρ = ρ := by simp [mPut]
    rw [this]
    exact l.frame (fun b o e z => k b o e (z.imp id fun z => ⟨z, fun z => z⟩)) fun b z => p b (z.imp id fun z => ⟨z, fun z => z⟩)
  | [], _ :: _, _, _, _, _, _, h, _, _ => by simp [MA] at h
  | true :: _, [], _, _, _, _, _, h, _, _ => by simp [MA] at h
  | false :: _, [], _, _, _, _, _, h, _, _ => by simp [MA] at h
  | false :: ms, (v, s) :: as, Vs, F, f, ρ, l, h, d, n => by
    simp only [MA] at h
    obtain ⟨U, Vs', rfl, h2⟩ := h
    have n' : nodupB (mSlots ms as) = true := n
    obtain ⟨fu, g, m1, l1, s1, s2, back⟩ := borrow l h2 d n'
    refine ⟨fu, g, ⟨U, Vs', rfl, m1⟩, l1, s1, s2, fun {P' H' fin ff} k p m s => ?_⟩
    cases fin with
    | nil => simp [MR] at m
    | cons v' fin =>
      simp only [MR] at m
      obtain ⟨U', Vs'', e, m⟩ := m
      cases e
      simp only [mPut]
      exact back k p m s
  | true :: ms, (v, .brw) :: as, Vs, F, f, ρ, l, h, d, n => by
    simp only [MA] at h
    obtain ⟨U, Vs', fv, g, rfl, h1, h2, h3⟩ := h
    exact h3.elim
  | true :: ms, (v, .tmp) :: as, Vs, F, f, ρ, l, h, d, n => by
    simp only [MA] at h
    obtain ⟨U, Vs', fv, g0, rfl, h1, h2, h3, rfl⟩ := h
    have n' : nodupB (mSlots ms as) = true := n
    obtain ⟨fu, g, m1, l1, s1, s2, back⟩ := borrow l h2 (fun b x y => d b (.inr x) y) n'
    have dv : dis fv fu := fun b x y => by
      rcases s2 b y with z | z
      · exact d b (.inl x) z.1
      · exact h3 b x z
    refine ⟨uni fv fu, g, ⟨U, Vs', fv, fu, rfl, h1, m1, dv, rfl⟩, l1, s1, fun b z => ?_, fun {P' H' fin ff} k p m s => ?_⟩
    · rcases z with z | z
      · exact .inr (.inl z)
      · exact (s2 b z).imp id .inr
    · cases fin with
      | nil => simp [MR] at m
      | cons v' fin =>
        simp only [MR] at m
        obtain ⟨U', Vs'', f1, f2, e, m1', m2, dm, rfl⟩ := m
        cases e
        simp only [mPut]
        have nf : ∀ b, f b → ¬ fv b := fun b y x => d b (.inl x) y
        obtain ⟨f', l', e'⟩ := back (fun b o e z => k b o e (z.imp id fun z => ⟨z.1, fun y => y.elim (nf b z.1) z.2⟩)) (fun b z => p b (z.imp id fun z => ⟨z.1, fun y => y.elim (nf b z.1) z.2⟩)) m2 (fun b x y => (s b (.inr x) y).elim (fun z => (nf b y z).elim) id)
        exact ⟨f', l', fun b z => (e' b z).elim (fun z => .inl ⟨z.1, fun y => y.elim (nf b z.1) z.2⟩) fun z => .inr (.inr z)⟩
  | true :: ms, (v, .plc i q) :: as, Vs, F, f, ρ, l, h, d, n => by
    simp only [MA] at h
    obtain ⟨U, Vs', fv, g0, rfl, h1, h2, h3, rfl⟩ := h
    simp only [mSlots, nodupB, Bool.and_eq_true, Bool.not_eq_true'] at n
    obtain ⟨v0, W0, q1, q2, q3, q4⟩ := h3
    obtain ⟨W1, f1, g1, e1, r1, d1, rfl, t⟩ := l.pick q1
    rw [q2] at e1
    cases e1
    obtain ⟨fx, rx, subx, backx⟩ := r1.focus q3 q4
    have := rx.det h1
    subst this
    have lr : RE K Cl P H (ρ.set i none) σ g1 := by
      have := t (some W0)
      rwa [set_self q2] at this
    obtain ⟨fu, g, m1, l1, s1, s2, back⟩ := borrow lr (h2.drop n.1) (fun b x y => d b x (.inr y)) n.2
    have dx : dis fx fu := fun b x y => by
      rcases s2 b y with z | z
      · exact d1 b (subx b x) z.1
      · exact d b z (.inl (subx b x))
    have hi : i < ρ.length := (List.getElem?_eq_some_iff.mp q1).1
    refine ⟨uni fx fu, g, ⟨U, Vs', fx, fu, rfl, rx, m1, dx, rfl⟩, ?_, fun b z => .inr (s1 b z), fun b z => ?_, fun {P' H' fin ff} k p m s => ?_⟩
    · show RE K Cl P H ((wipeE ρ (mSlots ms as)).set i none) σ g
      rw [← wipe_comm]
      exact l1
    · rcases z with z | z
      · exact .inl ⟨.inl (subx b z), fun y => d1 b (subx b z) (s1 b y)⟩
      · exact (s2 b z).imp (fun z => ⟨.inr z.1, z.2⟩) id
    · cases fin with
      | nil => simp [MR] at m
      | cons v' fin =>
        simp only [MR] at m
        obtain ⟨U', Vs'', e1, e2, e, m1', m2, dm, rfl⟩ := m
        cases e
        have nfu : ∀ b, f1 b → ¬ fu b := fun b x y => (s2 b y).elim (fun z => d1 b x z.1) fun z => d b z (.inl x)
        have ngx : ∀ b, g1 b → ¬ fx b := fun b y x => d1 b (subx b x) y
        have hk1 : ∀ b, (g1 b ∧ ¬ fu b) → (uni f1 g1) b ∧ ¬ (uni fx fu) b := fun b z => ⟨.inr z.1, fun y => y.elim (ngx b z.1) z.2⟩
        have hk2 : ∀ b, (f1 b ∧ ¬ fx b) → (uni f1 g1) b ∧ ¬ (uni fx fu) b := fun b z => ⟨.inl z.1, fun y => y.elim z.2 (nfu b z.1)⟩
        obtain ⟨f', l', e'⟩ := back (fun b o e z => k b o e (z.imp id (hk1 b))) (fun b z => p b (z.imp id (hk1 b))) m2 (fun b x y => (s b (.inr x) (.inr y)).elim (fun z => (ngx b y z).elim) id)
        obtain ⟨r2, a2⟩ := backx (P' := P') (H' := H') (fun b o e z => k b o e (z.imp id (hk2 b))) (fun b z => p b (z.imp id (hk2 b))) m1' (fun b x y => (s b (.inl x) (.inl y)).elim id fun z => (nfu b y z).elim)
        have hn : (mSlots ms as).contains i = false := n.1
        rw [mPut_set hn] at l'
        have hlen : i < (mPut ms as fin ρ).length := by
          have := l'.length
          have h2 := l.length
          simp only [List.length_set] at this
          omega
        have dd : dis (fun b => (f1 b ∧ ¬ fx b) ∨ e1 b) f' := fun b x y => by
          rcases e' b y with z | z
          · rcases x with x | x
            · exact d1 b x.1 z.1
            · rcases s b (.inl x) (.inr z.1) with w | w
              · exact ngx b z.1 w
              · exact z.2 w
          · rcases x with x | x
            · rcases s b (.inr z) (.inl x.1) with w | w
              · exact x.2 w
              · exact nfu b x.1 w
            · exact dm b x z
        have l3 := l'.put (i := i) (v := setp v0 q v') (W := W0) (by simpa using hlen) (by rw [List.getElem?_set_self hlen]) r2 dd
        rw [List.set_set, set_self q2] at l3
        refine ⟨uni (fun b => (f1 b ∧ ¬ fx b) ∨ e1 b) f', ?_, fun b z => ?_⟩
        · simp only [mPut]
          have ep : putAt ρ i q v' = ρ.set i (some (setp v0 q v')) := by unfold putAt; rw [q1]
          rw [ep, mPut_set hn]
          exact l3
        · rcases z with (z | z) | z
          · exact .inl (hk2 b z)
          · exact .inr (.inl z)
          · exact (e' b z).imp (hk1 b) .inr
end
end VS

namespace VS
open PySem L2
section
variable (K : PySem.W.Frag) (Cl ClX : Nat → Addr)
/-- those that are not to be changed -/
def NA (P : Ps) (H : Hp) (ρ : Env) (σ : L2.St) (sl : List Nat) : List Bool → List (Val × Src) → List V → Ps → Prop
  | [], [], Vs, F => Vs = [] ∧ F = emp
  | true :: ms, _ :: as, Vs, F => ∃ U Vs', Vs = U :: Vs' ∧ NA P H ρ σ sl ms as Vs' F
  | false :: ms, (v, s) :: as, Vs, F => ∃ U Vs' fv g, Vs = U :: Vs' ∧ R K Cl P H v U fv ∧ NA P H ρ σ sl ms as Vs' g ∧ (∀ b, g b → F b) ∧ ((v.pure = true) ∨ (∀ b, fv b → F b) ∨ ∃ i p, sl.contains i = false ∧ PlcOk K Cl H ρ σ v U i p)
  | _, _, _, _ => False
/-- the same, frozen -/
def NF (P : Ps) (H : Hp) : List Bool → List (Val × Src) → List V → Prop
  | [], [], Vs => Vs = []
  | true :: ms, _ :: as, Vs => ∃ U Vs', Vs = U :: Vs' ∧ NF P H ms as Vs'
  | false :: ms, (v, _) :: as, Vs => ∃ U Vs', Vs = U :: Vs' ∧ R K Cl P H v.freeze U emp ∧ NF P H ms as Vs'
  | _, _, _ => False
end
section
variable {K : PySem.W.Frag} {Cl ClX : Nat → Addr} {X : Cx} {W : WX} {P P' : Ps} {H H' : Hp} {σ : L2.St}
theorem args_split : ∀ {ms : List Bool} {as : List (Val × Src)} {Vs : List V} {F f : Ps} {ρ : Env} {sl : List Nat}, ArgsOk K Cl P H ρ σ f as Vs F → mArgs sl ms as = true →
    ∃ Fm Fn, MA K Cl P H ρ σ ms as Vs Fm ∧ NA K Cl P H ρ σ sl ms as Vs Fn ∧ dis Fm Fn ∧ (∀ b, Fm b → F b) ∧ (∀ b, Fn b → F b)
  | [], [], Vs, F, f, ρ, sl, h, _ => ⟨emp, emp, ⟨h.1, rfl⟩, ⟨h.1, rfl⟩, dis_emp _, fun _ z => z.elim, fun _ z => z.elim⟩
  | [], _ :: _, _, _, _, _, _, _, m => by simp [mArgs] at m
  | true :: _, [], _, _, _, _, _, _, m => by simp [mArgs] at m
  | false :: _, [], _, _, _, _, _, _, m => by simp [mArgs] at m
  | true :: ms, (v, s) :: as, Vs, F, f, ρ, sl, h, m => by
    simp only [mArgs, Bool.and_eq_true] at m
    simp only [ArgsOk] at h
    obtain ⟨U, Vs', fv, g, rfl, h1, h2, h3⟩ := h
    obtain ⟨Fm, Fn, a1, a2, a3, a4, a5⟩ := args_split h2 m.2
    cases s with
    | brw => simp at m
    | tmp =>
      obtain ⟨_, d2, rfl⟩ := h3
      refine ⟨uni fv Fm, Fn, ⟨U, Vs', fv, Fm, rfl, h1, a1, fun b x y => d2 b x (a4 b y), rfl⟩, ⟨U, Vs', rfl, a2⟩, fun b x y => ?_, fun b z => z.imp id (a4 b), fun b z => .inr (a5 b z)⟩
      rcases x with x | x
      · exact d2 b x (a5 b y)
      · exact a3 b x y
    | plc i p =>
      obtain ⟨pl, rfl⟩ := h3
      exact ⟨Fm, Fn, ⟨U, Vs', fv, Fm, rfl, h1, a1, pl, rfl⟩, ⟨U, Vs', rfl, a2⟩, a3, a4, a5⟩
  | false :: ms, (v, s) :: as, Vs, F, f, ρ, sl, h, m => by
    simp only [mArgs, Bool.and_eq_true, Bool.or_eq_true] at m
    simp only [ArgsOk] at h
    obtain ⟨U, Vs', fv, g, rfl, h1, h2, h3⟩ := h
    obtain ⟨Fm, Fn, a1, a2, a3, a4, a5⟩ := args_split h2 m.2
    cases s with
    | brw =>
      have hp : v.pure = true := by rcases m.1 with z | z; exact z; cases z
      subst h3
      exact ⟨Fm, Fn, ⟨U, Vs', rfl, a1⟩, ⟨U, Vs', fv, Fn, rfl, h1, a2, fun _ z => z, .inl hp⟩, a3, a4, a5⟩
    | tmp =>
      obtain ⟨_, d2, rfl⟩ := h3
      refine ⟨Fm, uni fv Fn, ⟨U, Vs', rfl, a1⟩, ⟨U, Vs', fv, Fn, rfl, h1, a2, fun _ z => .inr z, .inr (.inl fun _ z => .inl z)⟩, fun b x y => ?_, fun b z => .inr (a4 b z), fun b z => z.imp id (a5 b)⟩
      rcases y with y | y
      · exact d2 b y (a4 b x)
      · exact a3 b x y
    | plc i p =>
      obtain ⟨pl, rfl⟩ := h3
      refine ⟨Fm, Fn, ⟨U, Vs', rfl, a1⟩, ⟨U, Vs', fv, Fn, rfl, h1, a2, fun _ z => z, ?_⟩, a3, a4, a5⟩
      rcases m.1 with z | z
      · exact .inl z
      · exact .inr (.inr ⟨i, p, by simpa using z, pl⟩)
theorem wipe_at : ∀ {l : List Nat} {ρ : Env} {i : Nat}, l.contains i = false → (wipeE ρ l)[i]? = ρ[i]?
  | [], _, _, _ => rfl
  | j :: l, ρ, i, h => by
    simp only [List.contains_cons, Bool.or_eq_false_iff, beq_eq_false_iff_ne] at h
    simp only [wipeE]
    rw [List.getElem?_set_ne (fun e => h.1 e.symm), wipe_at h.2]
theorem nonm : ∀ {ms : List Bool} {as : List (Val × Src)} {Vs : List V} {Fn g : Ps} {ρ : Env} {sl : List Nat}, NA K Cl P H ρ σ sl ms as Vs Fn → RE K Cl P H (wipeE ρ sl) σ g →
    ∃ G : Ps, (∀ P', (∀ b, P b ∨ G b → P' b) → NF K Cl P' H ms as Vs) ∧ (∀ b, G b → g b ∨ Fn b) ∧ (∀ b, G b → H b ≠ none ∧ ¬ P b ∧ ∀ xs, H b ≠ some (.tup xs)) ∧ (mPure ms as = true → G = emp)
  | [], [], Vs, Fn, g, ρ, sl, h, l => ⟨emp, fun _ _ => h.1, fun _ z => z.elim, fun _ z => z.elim, fun _ => rfl⟩
  | [], _ :: _, _, _, _, _, _, h, _ => by simp [NA] at h
  | true :: _, [], _, _, _, _, _, h, _ => by simp [NA] at h
  | false :: _, [], _, _, _, _, _, h, _ => by simp [NA] at h
  | true :: ms, (v, s) :: as, Vs, Fn, g, ρ, sl, h, l => by
    simp only [NA] at h
    obtain ⟨U, Vs', rfl, h2⟩ := h
    obtain ⟨G, k1, k2, k3, k4⟩ := nonm h2 l
    exact ⟨G, fun P' hp => ⟨U, Vs', rfl, k1 P' hp⟩, k2, k3, fun hp => k4 hp⟩
  | false :: ms, (v, s) :: as, Vs, Fn, g, ρ, sl, h, l => by
    simp only [NA] at h
    obtain ⟨U, Vs', fv, g0, rfl, h1, h2, h3, h4⟩ := h
    obtain ⟨G, k1, k2, k3, k4⟩ := nonm h2 l
    refine ⟨uni fv G, fun P' hp => ⟨U, Vs', rfl, h1.frz fun b z => hp b (z.imp id .inl), k1 P' fun b z => hp b (z.imp id .inr)⟩, fun b z => ?_, fun b z => ?_, fun hp => ?_⟩
    · rcases z with z | z
      · rcases h4 with hp | ht | ⟨i, p, hi, v0, W0, q1, q2, q3, q4⟩
        · rw [h1.pure_emp hp] at z; exact z.elim
        · exact .inr (ht b z)
        · left
          rw [← wipe_at hi] at q1
          obtain ⟨W1, f1, g1, e1, r1, _, rfl, _⟩ := l.pick q1
          rw [q2] at e1
          cases e1
          obtain ⟨fx, rx, subx, _⟩ := r1.focus q3 q4
          have := rx.det h1
          subst this
          exact .inl (subx b z)
      · exact (k2 b z).imp id (h3 b)
    · rcases z with z | z
      · exact ⟨(h1.live b z).1, (h1.live b z).2, h1.notup b z⟩
      · exact k3 b z
    · simp only [mPure, Bool.and_eq_true] at hp
      rw [h1.pure_emp hp.1, k4 hp.2, uni_emp]
theorem mix : ∀ {ms : List Bool} {as : List (Val × Src)} {Vs : List V} {fu G : Ps}, MR K Cl P H ms (as.map (·.1)) Vs fu → NF K Cl (uni P G) H ms as Vs → dis G fu → Rs K Cl (uni P G) H (mVals ms as) Vs fu
  | [], [], Vs, fu, G, h, n, d => by simp only [mVals]; exact h
  | [], _ :: _, _, _, _, h, _, _ => by simp [MR] at h
  | true :: _, [], _, _, _, h, _, _ => by simp [MR] at h
  | false :: _, [], _, _, _, h, _, _ => by simp [MR] at h
  | true :: ms, (v, s) :: as, Vs, fu, G, h, n, d => by
    simp only [List.map_cons, MR] at h
    obtain ⟨U, Vs', f1, f2, rfl, r, m, dd, rfl⟩ := h
    simp only [NF] at n
    obtain ⟨U', Vs'', e, n⟩ := n
    cases e
    simp only [mVals, Rs]
    refine ⟨U, Vs', f1, f2, rfl, r.frame (fun _ _ e _ => e) fun b z => ⟨fun y => ?_, .inl⟩, mix m n (fun b x y => d b x (.inr y)), dd, rfl⟩
    rcases y with y | y
    · exact y
    · rcases z with z | z
      · exact z
      · exact (d b y (.inl z)).elim
  | false :: ms, (v, s) :: as, Vs, fu, G, h, n, d => by
    simp only [List.map_cons, MR] at h
    obtain ⟨U, Vs', rfl, m⟩ := h
    simp only [NF] at n
    obtain ⟨U', Vs'', e, r, n⟩ := n
    cases e
    simp only [mVals, Rs]
    exact ⟨U, Vs', emp, fu, rfl, r, mix m n d, emp_dis _, (emp_uni _).symm⟩
theorem mVals_nPure : ∀ {ms : List Bool} {as : List (Val × Src)}, ms.length = as.length → nPure ms (mVals ms as) = true
  | [], [], _ => rfl
  | true :: ms, (v, s) :: as, h => by simp only [mVals, nPure]; exact mVals_nPure (by simpa using h)
  | false :: ms, (v, s) :: as, h => by simp only [mVals, nPure, freeze_pure, Bool.true_and]; exact mVals_nPure (by simpa using h)
  | [], _ :: _, h => by simp at h
  | _ :: _, [], h => by simp at h
theorem mr_of : ∀ {ms : List Bool} {fin : List Val} {Vs : List V} {ff : Ps}, Rs K Cl P H fin Vs ff → ms.length = Vs.length → ∃ f', MR K Cl P H ms fin Vs f' ∧ ∀ b, f' b → ff b
  | [], [], Vs, ff, h, _ => ⟨emp, ⟨h.1, rfl⟩, fun _ z => z.elim⟩
  | [], v :: fin, Vs, ff, h, l => by
    have := h.length
    simp at l this
    omega
  | m :: ms, [], Vs, ff, h, l => by
    have := h.length
    simp at l this
    omega
  | true :: ms, v :: fin, Vs, ff, h, l => by
    simp only [Rs] at h
    obtain ⟨U, Vs', f1, f2, rfl, h1, h2, hd, rfl⟩ := h
    obtain ⟨f', m, s⟩ := mr_of (ms := ms) h2 (by simpa using l)
    exact ⟨uni f1 f', ⟨U, Vs', f1, f', rfl, h1, m, fun b x y => hd b x (s b y), rfl⟩, fun b z => z.imp id (s b)⟩
  | false :: ms, v :: fin, Vs, ff, h, l => by
    simp only [Rs] at h
    obtain ⟨U, Vs', f1, f2, rfl, h1, h2, hd, rfl⟩ := h
    obtain ⟨f', m, s⟩ := mr_of (ms := ms) h2 (by simpa using l)
    exact ⟨f', ⟨U, Vs', rfl, m⟩, fun b z => .inr (s b z)⟩
theorem MR.thaw : ∀ {ms : List Bool} {as : List (Val × Src)} {fin : List Val} {Vs : List V} {ff : Ps}, MR K Cl P H ms fin Vs ff → mKeep ms as fin = true → ms.length = as.length → (∀ b, P b → ¬ P' b → ∀ xs, H b ≠ some (.tup xs)) → (∀ b, P' b → P b) → MR K Cl P' H ms fin Vs ff
  | [], _, [], _, _, h, _, _, _, _ => h
  | [], _, _ :: _, _, _, h, _, _, _, _ => by simp [MR] at h
  | true :: _, _, [], _, _, h, _, _, _, _ => by simp [MR] at h
  | false :: _, _, [], _, _, h, _, _, _, _ => by simp [MR] at h
  | _ :: _, [], _, _, _, _, _, l, _, _ => by simp at l
  | true :: ms, a :: as, v :: fin, _, _, h, k, l, p, q => by
    simp only [mKeep, Bool.and_eq_true] at k
    simp only [MR] at h ⊢
    obtain ⟨U, Vs', f1, f2, rfl, r, m, dd, rfl⟩ := h
    exact ⟨U, Vs', f1, f2, rfl, r.thaw k.1 p fun b z y => (r.live b z).2 (q b y), m.thaw k.2 (by simpa using l) p q, dd, rfl⟩
  | false :: ms, a :: as, v :: fin, _, _, h, k, l, p, q => by
    simp only [MR] at h ⊢
    obtain ⟨U, Vs', rfl, m⟩ := h
    have k : mKeep ms as fin = true := k
    exact ⟨U, Vs', rfl, m.thaw k (by simpa using l) p q⟩
theorem MR.same : ∀ {ms : List Bool} {fin : List Val} {Vs : List V} {ff : Ps}, MR K Cl P H ms fin Vs ff → (∀ b, P' b ↔ P b) → MR K Cl P' H ms fin Vs ff := fun h e => by
  have : P' = _ := funext fun b => propext (e b)
  rw [this]
  exact h
/-- the call of a def that may change some of its arguments -/
theorem callM_ok {D : Defs} {f : Nat} {as : List (Val × Src)} {ρ1 : Env} {f1 F : Ps} {Vs : List V} {Q : VK} {E : XK} {fz : Ps} {e : Bool} {P0 : Ps} {H0 : Hp} (hl : (D.modes f).length = as.length) (o1 : Out K Cl P0 H0 fz e ρ1 σ P H f1) (a1 : ArgsOk K Cl P H ρ1 σ f1 as Vs F) (d1 : dis F f1) (sF : Sub H0 F fz)
    (q : match sCallM D f as ρ1 with
      | .ok (v, sr) ρ' => ∀ U H', Out1 K Cl P0 H0 fz true ρ' σ v sr U H' → Q U H'
      | .exc x ρ' => ∀ c d H', OutX K Cl ClX P0 H0 fz true ρ' σ x c d H' → E c d H'
      | .bad => False) : spOf K Cl ClX (D.modes f) (D.run f) Vs H Q E := by
  unfold sCallM at q
  dsimp only at q
  by_cases hm : (nodupB (mSlots (D.modes f) as) && mArgs (mSlots (D.modes f) as) (D.modes f) as) = true
  case neg => rw [if_neg hm] at q; exact q.elim
  rw [if_pos hm] at q
  simp only [Bool.and_eq_true] at hm
  obtain ⟨Fm, Fn, m1, n1, dmn, sm, sn⟩ := args_split a1 hm.2
  obtain ⟨fu, g, mr, lr, sg, sfu, back⟩ := borrow o1.re m1 (fun b x y => d1 b (sm b x) y) hm.1
  obtain ⟨G, k1, k2, k3, k4⟩ := nonm n1 lr
  have dG : dis G fu := fun b x y => by
    rcases k2 b x with x | x
    · rcases sfu b y with y | y
      · exact y.2 x
      · exact d1 b (sm b y) (sg b x)
    · rcases sfu b y with y | y
      · exact d1 b (sn b x) y.1
      · exact dmn b y x
  have hVs : (D.modes f).length = Vs.length := by
    have : ∀ {as : List (Val × Src)} {Vs : List V} {F : Ps}, ArgsOk K Cl P H ρ1 σ f1 as Vs F → as.length = Vs.length := fun {as} => by
      induction as with
      | nil => intro Vs F h; rw [h.1]; rfl
      | cons a as ih =>
        intro Vs F h
        obtain ⟨v, s⟩ := a
        simp only [ArgsOk] at h
        obtain ⟨U, Vs', fv, g, rfl, _, h2, _⟩ := h
        simp [ih h2]
    rw [hl, this a1]
  have fuSub : Sub H0 fu fz := fun b z => by
    rcases sfu b z with z | z
    · exact o1.sub b z.1
    · exact sF b (sm b z)
  refine ⟨uni P G, fu, _, mix mr (k1 _ fun b z => z) dG, fun b z => z.elim (o1.lv b) fun z => (k3 b z).1, mVals_nPure hl, ?_⟩
  -- behind the call
  have fin : ∀ {P' : Ps} {H' : Hp} {fin : List Val} {ff : Ps}, Tr (uni P G) H fu P' H' → Lv P' H' → Rs K Cl P' H' fin Vs ff → Sub H ff fu → (mPure (D.modes f) as || mKeep (D.modes f) as fin) = true →
      ∃ f', Out K Cl P0 H0 fz true (mPut (D.modes f) as fin ρ1) σ (fun b => P' b ∧ ¬ G b) H' f' ∧ ∀ b, f' b → (f1 b ∧ ¬ fu b) ∨ ff b := fun {P' H' fin ff} t lv rs sb hk => by
    obtain ⟨t2, th⟩ := unfrz t (fun b z y => dG b y z) k3
    obtain ⟨ff', m2, s2⟩ := mr_of (ms := D.modes f) rs hVs
    have m3 : MR K Cl (fun b => P' b ∧ ¬ G b) H' (D.modes f) fin Vs ff' := by
      rcases Bool.or_eq_true_iff.mp hk with hp | hp
      · refine m2.same fun b => ?_
        rw [k4 hp]
        exact ⟨fun z => z.1, fun z => ⟨z, fun z => z.elim⟩⟩
      · exact m2.thaw hp hl th fun b z => z.1
    have liveF : ∀ b, f1 b → H b ≠ none ∧ ¬ P b := fun b z => o1.re.live b z
    have pfu : ∀ b, P b → ¬ fu b := fun b x y => by
      rcases sfu b y with y | y
      · exact (liveF b y.1).2 x
      · have : ∀ {as : List (Val × Src)} {Vs : List V} {F : Ps}, ArgsOk K Cl P H ρ1 σ f1 as Vs F → ∀ b, F b → ¬ P b := fun {as} => by
          induction as with
          | nil => intro Vs F h b z; rw [h.2] at z; exact z.elim
          | cons a as ih =>
            intro Vs F h b z
            obtain ⟨v, s⟩ := a
            simp only [ArgsOk] at h
            obtain ⟨U, Vs', fv, g, rfl, h1, h2, h3⟩ := h
            cases s with
            | tmp =>
              rw [h3.2.2] at z
              rcases z with z | z
              · exact (h1.live b z).2
              · exact ih h2 b z
            | brw => rw [show F = g from h3] at z; exact ih h2 b z
            | plc i p => rw [h3.2] at z; exact ih h2 b z
        exact this a1 b (sm b y) x
    obtain ⟨f', l', e'⟩ := back (P' := fun b => P' b ∧ ¬ G b) (H' := H') (fun b o e z => t.keep b o e (z.elim (pfu b) fun z => z.2))
      (fun b z => ⟨fun y => by
        rcases t2.pn b y with w | w | w
        · exact w
        · rcases z with z | z
          · exact z
          · exact (z.2 w).elim
        · rcases z with z | z
          · exact z
          · exact ((liveF b z.1).1 w).elim, fun y => t2.pm b y⟩) m3 (fun b x y => (sb b (s2 b x)).elim id fun w => ((liveF b y).1 w).elim)
    have e2 : ∀ b, f' b → (f1 b ∧ ¬ fu b) ∨ ff b := fun b z => (e' b z).imp id (s2 b)
    refine ⟨f', ⟨(o1.tr.weak (wr_sub _ _)).trans t2 fuSub, l', fun b z => ?_, fun z => (by cases z), fun b z => lv b z.1⟩, e2⟩
    rcases e2 b z with z | z
    · exact o1.sub b z.1
    · rcases sb b z with z | z
      · exact fuSub b z
      · by_cases hw : fz b
        · exact .inl hw
        · refine .inr ?_
          cases y : H0 b with
          | none => rfl
          | some o => have := o1.tr.keep b o y (fun w => hw (wr_sub _ _ b w)); rw [z] at this; cases this
  cases hr : D.run f (mVals (D.modes f) as) with
  | bad => rw [hr] at q; exact q
  | exc x fn =>
    rw [hr] at q
    dsimp only at q
    by_cases hc : (mPure (D.modes f) as || mKeep (D.modes f) as fn) = true
    · rw [if_pos hc] at q
      intro c d H' P' ff t rs sb lv xo
      obtain ⟨f', o, _⟩ := fin t lv rs sb hc
      exact q c d H' ⟨_, f', o, xo⟩
    · rw [if_neg hc] at q; exact q.elim
  | ok v fn =>
    rw [hr] at q
    dsimp only at q
    by_cases hc : (mPure (D.modes f) as || (v.nofz && mKeep (D.modes f) as fn)) = true
    · rw [if_pos hc] at q
      intro U H' P' fv ff t rs r d sb sbv lv
      have hc2 : (mPure (D.modes f) as || mKeep (D.modes f) as fn) = true := by
        rcases Bool.or_eq_true_iff.mp hc with z | z
        · rw [z]; rfl
        · simp only [Bool.and_eq_true] at z
          rw [z.2, Bool.or_true]
      obtain ⟨f', o, e'⟩ := fin t lv rs sb hc2
      obtain ⟨t2, th⟩ := unfrz t (fun b z y => dG b y z) k3
      refine q U H' ⟨_, f', fv, o, ?_, fun b x y => ?_, fun b x => ?_⟩
      · rcases Bool.or_eq_true_iff.mp hc with hp | hn
        · rw [k4 hp]
          exact r.frame (fun _ _ e _ => e) fun b z => ⟨fun z => z.1, fun z => ⟨z, fun z => z.elim⟩⟩
        · simp only [Bool.and_eq_true] at hn
          exact r.thaw hn.1 th fun b z y => (r.live b z).2 y.1
      · rcases e' b y with y | y
        · rcases sbv b x with x | x
          · exact y.2 x
          · exact (o1.re.live b y.1).1 x
        · exact d b x y
      · rcases sbv b x with x | x
        · exact fuSub b x
        · by_cases hw : fz b
          · exact .inl hw
          · refine .inr ?_
            cases y : H0 b with
            | none => rfl
            | some o' => have := o1.tr.keep b o' y (fun w => hw (wr_sub _ _ b w)); rw [x] at this; cases this
    · rw [if_neg hc] at q; exact q.elim
theorem tv_callM {D : Defs} {f k : Nat} {fa : Addr} {fd : FuncData} {ps : List Str} {e : Bool} {s : Env → Res (List (Val × Src))} {a : Expr} {es : List Expr} {x : Str} {p pos : Pos} (Fk : FnG X.prog X.w X.K X.mg X.base (L2.CX X.prog X.w) k fa fd ps (spOf X.K Cl ClX (D.modes f) (D.run f))) (gu : X.A.guards = some []) (hr : Room (2 * k) X.A)
    (hg : Gl X x) (hm : X.mg x = some (.ref fa)) (hk : PySem.W.keepIn X.K (.ref fa) = true) (hb : Binds X.K fd ps []) (tk : Takes X W) (hl : ∀ ρ as ρ1, s ρ = .ok as ρ1 → (D.modes f).length = as.length)
    (ha : PA X (a :: es) (tVs X.K Cl ClX W e s)) (hdb : (x == ("__debug__" : Str)) = false) (he : starEach (a :: es) X.env = (false, eval a X.env) :: starEach es X.env) (hpl : (backTo pos (starEach es X.env)).any (·.1) = false) :
    PE X (.Call (.Name x p) (a :: es) [] pos) (tV X.K Cl ClX W true (sThen s (sCallM D f))) := PE.le (pe_callG Fk gu hr hg hm hk hb (fun σ => passAt tk σ) ha hdb he hpl) fun σ H Q h => by
  obtain ⟨P, ρ, f0, l, lv, q⟩ := h
  refine ⟨P, ρ, f0, l, lv, ?_⟩
  unfold sThen at q
  cases hs : s ρ with
  | bad => rw [hs] at q; exact q
  | exc x ρ1 =>
    rw [hs] at q
    exact fun c d H' ⟨P', f', o', xo⟩ => q c d H' ⟨P', f', o'.up' true (fun _ => rfl), xo⟩
  | ok as ρ1 =>
    rw [hs] at q
    intro Vs H1 ⟨P1, f1, F, o1, a1, d1, sb⟩
    exact callM_ok (hl _ _ _ hs) o1 a1 d1 sb q
end
end VS

namespace VS
open PySem L2
section
variable {K : PySem.W.Frag} {Cl ClX : Nat → Addr} {X : Cx} {W : WX} {P P' : Ps} {H H' : Hp} {σ : L2.St}
/-! ### lists changed -/
theorem mid_ok {m : Val → Bool} {e : Bool} {s : Env → Res (Val × Src)} {Q : VK} (h : tV K Cl ClX W e (sMid m s) σ H Q) : tV K Cl ClX W e s σ H fun x H1 => (∃ v P f, m v = true ∧ R K Cl P H1 v x f) ∧ Q x H1 := by
  obtain ⟨P, ρ, f, l, lv, q⟩ := h
  refine ⟨P, ρ, f, l, lv, ?_⟩
  unfold sMid at q
  cases hs : s ρ with
  | bad => rw [hs] at q; exact q
  | exc x ρ1 => rw [hs] at q; exact q
  | ok a ρ1 =>
    rw [hs] at q
    simp only [Res.bind_ok] at q
    by_cases hm : m a.1 = true
    · rw [if_pos hm] at q
      obtain ⟨v, sr⟩ := a
      intro U H1 o
      have z := q U H1 o
      obtain ⟨P1, f1, fv, o1, r1, _⟩ := o
      exact ⟨⟨v, P1, fv, hm, r1⟩, z⟩
    · rw [if_neg hm] at q; exact q.elim
theorem quiet_mid {m : Val → Bool} {e : Bool} {s : Env → Res (Val × Src)} (h : Quiet e s) : Quiet e (sMid m s) := fun z ρ => by
  have h1 := h z ρ
  unfold sMid
  cases hs : s ρ with
  | bad => trivial
  | exc x ρ1 => rw [hs] at h1; exact h1
  | ok a ρ1 =>
    rw [hs] at h1
    simp only [Res.bind_ok]
    by_cases hm : m a.1 = true
    · rw [if_pos hm]; exact h1
    · rw [if_neg hm]; trivial
theorem ty_lst {v : Val} {U : V} {f : Ps} (h : R K Cl P H v U f) (m : isLst v = true) : tyV K "list" U H := by
  unfold isLst at m
  split at m
  · obtain ⟨a, Ws, x, g, rfl, hh, _⟩ := h.node_items
    exact .inl ⟨rfl, Ws, SqL.of hh.1⟩
  · cases m
/-- a list of one's own, laid open -/
theorem R.lst_open {xs : List Val} {U : V} {fx : Ps} (h : R K Cl P H (.node (.lst false) xs) U fx) : ∃ a Ws g, U = .ref a ∧ H a = some (.lst Ws) ∧ Rs K Cl P H xs Ws g ∧ fx = uni (one a) g ∧ ¬ g a ∧ ¬ P a := by
  simp only [R] at h
  obtain ⟨a, Vs, x, g, rfl, hh, hs, hf⟩ := h
  rw [if_pos (show (Tag.lst false).own = true from rfl)] at hf
  obtain ⟨ha, rfl⟩ := hh
  obtain ⟨rfl, d, np⟩ := hf
  exact ⟨a, Vs, g, rfl, ha, hs, rfl, fun z => d a rfl z, np a rfl⟩
theorem lst_close {xs : List Val} {Ws : List V} {a : Addr} {g : Ps} {o : HO} (h : Rs K Cl P H xs Ws g) (na : ¬ g a) (np : ¬ P a) : R K Cl P (upd H a (.lst Ws)) (.node (.lst false) xs) (.ref a) (uni (one a) g) := by
  simp only [R]
  refine ⟨a, Ws, one a, g, rfl, ⟨upd_same, rfl⟩, h.frame (fun b o e z => ?_) (fun b _ => Iff.rfl), ?_⟩
  · rw [upd_ne]
    · exact e
    · rintro rfl
      exact z.elim np na
  · rw [if_pos (show (Tag.lst false).own = true from rfl)]
    exact ⟨rfl, fun b x y => na (by rw [← show b = a from x]; exact y), fun b x => by rw [show b = a from x]; exact np⟩
theorem R.upd {v : Val} {U : V} {f : Ps} {a : Addr} {o : HO} (h : R K Cl P H v U f) (na : ¬ f a) (np : ¬ P a) : R K Cl P (L2.upd H a o) v U f := h.frame (fun b o e z => by
  rw [upd_ne]
  · exact e
  · rintro rfl
    exact z.elim np na) fun b _ => Iff.rfl
/-- the outcome of a change of a list -/
theorem mu_fin {x : Val} {s : Src} {ρ1 : Env} {f1 F : Ps} {Q : VK} {fz : Ps} {e : Bool} {P0 : Ps} {H0 : Hp} {fx gA : Ps} {a : Addr} {xs' : List Val} {Ws' : List V} {g' : Ps} {v : Val} {Y : V} {fv : Ps} {g : Ps}
    (o1 : Out K Cl P0 H0 fz e ρ1 σ P H f1) (sF : Sub H0 F fz) (dF : dis F f1) (rx : R K Cl P H x (.ref a) fx) (hx : fx = uni (one a) g) (na : ¬ g a) (np : ¬ P a) (sx : match s with
      | .tmp => ∀ b, fx b → F b
      | .brw => False
      | .plc i p => PlcOk K Cl H ρ1 σ x (.ref a) i p) (sA : ∀ b, gA b → F b) (dA : dis gA fx) (rs : Rs K Cl P H xs' Ws' g') (rv : R K Cl P H v Y fv) (hg : ∀ b, g' b → g b ∨ gA b) (hv : ∀ b, fv b → g b ∨ gA b) (dv : dis fv g')
    (q : ∀ ρ' U H', (match s with
      | .plc i p => ρ' = putAt ρ1 i p (.node (.lst false) xs')
      | _ => ρ' = ρ1) → Out1 K Cl P0 H0 fz true ρ' σ v .tmp U H' → Q U H') : Q Y (upd H a (.lst Ws')) := by
  have nA : ¬ gA a := fun z => dA a z (by rw [hx]; exact .inl rfl)
  have ng' : ¬ g' a := fun z => (hg a z).elim na nA
  have nv : ¬ fv a := fun z => (hv a z).elim na nA
  have r' := lst_close (o := .lst Ws') rs ng' np
  have rv' : R K Cl P (upd H a (.lst Ws')) v Y fv := rv.upd nv np
  have t : Tr P H (one a) P (upd H a (.lst Ws')) := ⟨fun b o e n => by rw [upd_ne n]; exact e, fun _ z => z, fun _ z => .inl z⟩
  have lv' : Lv P (upd H a (.lst Ws')) := lv_upd o1.lv
  have h0 : ∀ b, fx b → fz b ∨ H0 b = none := fun b z => by
    cases s with
    | tmp => exact sF b (sx b z)
    | brw => exact sx.elim
    | plc i p =>
      have := (plc_put (P' := P) (H' := H) o1.re sx rx (fun _ _ e _ => e) (fun _ _ => Iff.rfl) rx (fun _ z _ => z)).1 b z
      exact o1.sub b this
  have hv0 : Sub H0 fv fz := fun b z => (hv b z).elim (fun z => h0 b (by rw [hx]; exact .inr z)) fun z => sF b (sA b z)
  have t0 : Tr P0 H0 fz P (upd H a (.lst Ws')) := (o1.tr.weak (wr_sub _ _)).trans t fun b z => h0 b (by rw [hx]; exact .inl z)
  cases s with
  | brw => exact sx.elim
  | tmp =>
    have l' : RE K Cl P (upd H a (.lst Ws')) ρ1 σ f1 := o1.re.tr t (fun b x y => dF a (sx a (by rw [hx]; exact .inl rfl)) (by rw [← show b = a from y]; exact x)) (fun b x y => np (by rw [← show b = a from y]; exact x))
    refine q ρ1 Y _ rfl ⟨P, f1, fv, ⟨t0, l', o1.sub, fun z => (by cases z), lv'⟩, rv', fun b z y => ?_, hv0⟩
    rcases hv b z with z | z
    · exact dF b (sx b (by rw [hx]; exact .inr z)) y
    · exact dF b (sA b z) y
  | plc i p =>
    have hgf : ∀ b, g b → fx b := fun b z => by rw [hx]; exact .inr z
    obtain ⟨sub, f2, l2, e2⟩ := plc_put (P' := P) (H' := upd H a (.lst Ws')) (v' := .node (.lst false) xs') (fv' := uni (one a) g') o1.re sx rx (fun b o e z => by
        rw [upd_ne]
        · exact e
        · rintro rfl
          rcases z with z | z
          · exact np z
          · exact z.2 (by rw [hx]; exact .inl rfl)) (fun _ _ => Iff.rfl) r' (fun b z y => by
        rcases z with z | z
        · rw [hx]; exact .inl z
        · rcases hg b z with z | z
          · exact hgf b z
          · exact (dF b (sA b z) y).elim)
    refine q _ Y _ rfl ⟨P, f2, fv, ⟨t0, l2, fun b z => ?_, fun z => (by cases z), lv'⟩, rv', fun b z y => ?_, hv0⟩
    · rcases (e2 b).mp z with z | z | z
      · exact o1.sub b z.1
      · exact h0 b (by rw [hx]; exact .inl z)
      · exact (hg b z).elim (fun z => h0 b (hgf b z)) fun z => sF b (sA b z)
    · rcases (e2 b).mp y with y | y | y
      · rcases hv b z with z | z
        · exact y.2 (hgf b z)
        · exact dF b (sA b z) y.1
      · exact nv (by rw [← show b = a from y]; exact z)
      · exact dv b z y
end
end VS

namespace VS
open PySem L2
section
variable {K : PySem.W.Frag} {Cl ClX : Nat → Addr} {X : Cx} {W : WX} {P P' : Ps} {H H' : Hp} {σ : L2.St}
/-- what a changing method is asked by the values -/
def MuOk (K : PySem.W.Frag) (Cl : Nat → Addr) (m : Mu) (r : V → List V → Hp → VK → Prop) : Prop := ∀ {P : Ps} {H : Hp} {xs vs : List Val} {a : Addr} {Ws Vs : List V} {g gA : Ps} {v x' : Val} {Q : VK},
  H a = some (.lst Ws) → Rs K Cl P H xs Ws g → Rs K Cl P H vs Vs gA → dis gA (uni (one a) g) → gMu m (.node (.lst false) xs) vs = some (v, x') →
    (∀ xs' Ws' g' Y fv, x' = .node (.lst false) xs' → Rs K Cl P H xs' Ws' g' → R K Cl P H v Y fv → (∀ b, g' b → g b ∨ gA b) → (∀ b, fv b → g b ∨ gA b) → dis fv g' → Q Y (upd H a (.lst Ws'))) → r (.ref a) Vs H Q
theorem Rs.one_inv {v : Val} {Vs : List V} {g : Ps} (h : Rs K Cl P H [v] Vs g) : ∃ Y, Vs = [Y] ∧ R K Cl P H v Y g := by
  obtain ⟨Y, r, f1, f2, rfl, h1, ⟨rfl, rfl⟩, _, rfl⟩ := h
  exact ⟨Y, rfl, by rw [uni_emp]; exact h1⟩
theorem Rs.app : ∀ {xs ys : List Val} {Ws Us : List V} {g h : Ps}, Rs K Cl P H xs Ws g → Rs K Cl P H ys Us h → dis g h → Rs K Cl P H (xs ++ ys) (Ws ++ Us) (uni g h)
  | [], ys, Ws, Us, g, h, r, r', d => by simp only [Rs] at r; rw [r.1, r.2, emp_uni]; exact r'
  | x :: xs, ys, Ws, Us, g, h, r, r', d => by
    simp only [Rs] at r
    obtain ⟨V, Vs', f1, f2, rfl, h1, h2, hd, rfl⟩ := r
    simp only [List.cons_append, Rs]
    refine ⟨V, _, f1, uni f2 h, rfl, h1, Rs.app h2 r' (fun b x y => d b (.inr x) y), fun b x y => ?_, ?_⟩
    · rcases y with y | y
      · exact hd b x y
      · exact d b (.inl x) y
    · funext b; apply propext
      show ((f1 b ∨ f2 b) ∨ h b) ↔ (f1 b ∨ f2 b ∨ h b)
      exact or_assoc
theorem Rs.last : ∀ {xs : List Val} {Ws : List V} {g : Ps} {v : Val}, Rs K Cl P H xs Ws g → xs[xs.length - 1]? = some v → ∃ Y f1 f2, Ws[Ws.length - 1]? = some Y ∧ R K Cl P H v Y f1 ∧ Rs K Cl P H xs.dropLast Ws.dropLast f2 ∧ dis f1 f2 ∧ g = uni f1 f2
  | [], _, _, _, _, e => by simp at e
  | [x], Ws, g, v, h, e => by
    obtain ⟨Y, rfl, r⟩ := h.one_inv
    simp at e; subst e
    exact ⟨Y, g, VS.emp, rfl, r, ⟨rfl, rfl⟩, dis_emp _, (uni_emp _).symm⟩
  | x :: y :: xs, Ws, g, v, h, e => by
    simp only [Rs] at h
    obtain ⟨V, Vs', f1, f2, rfl, h1, h2, hd, rfl⟩ := h
    have e2 : (y :: xs)[(y :: xs).length - 1]? = some v := by simpa using e
    have h2' : Rs K Cl P H (y :: xs) Vs' f2 := h2
    obtain ⟨Y, k1, k2, e3, r, rs, d, rfl⟩ := h2'.last e2
    have hl := h2'.length
    cases Vs' with
    | nil => simp at hl
    | cons V2 Vs2 =>
      refine ⟨Y, k1, uni f1 k2, by simpa using e3, r, ?_, fun b z w => ?_, swap3⟩
      · simp only [List.dropLast_cons₂, Rs]
        exact ⟨V, _, f1, k2, rfl, h1, rs, fun b z w => hd b z (.inr w), rfl⟩
      · rcases w with w | w
        · exact hd b w (.inl z)
        · exact d b z w
theorem mo_append : MuOk K Cl .append rAppend := by
  intro P H xs vs a Ws Vs g gA v x' Q ha rx rv d hg k
  rcases vs with _ | ⟨w, _ | ⟨w2, vs⟩⟩
  · simp [gMu] at hg
  · simp only [gMu] at hg
    by_cases hlt : decide (xs.length < 16777216) = true
    · rw [if_pos hlt] at hg
      cases hg
      obtain ⟨Y, rfl, ry⟩ := rv.one_inv
      refine ⟨a, Ws, Y, rfl, rfl, ha, ?_, k _ (Ws ++ [Y]) (uni g gA) .non emp rfl (rx.app rv fun b x y => d b y (.inr x)) ⟨rfl, rfl⟩ (fun b z => z) (fun _ z => z.elim) (emp_dis _)⟩
      rw [← rx.length, sizeLine_eq]
      exact of_decide_eq_true hlt
    · rw [if_neg hlt] at hg; cases hg
  · simp [gMu] at hg
theorem mo_pop : MuOk K Cl .pop rPop := by
  intro P H xs vs a Ws Vs g gA v x' Q ha rx rv d hg k
  rcases vs with _ | ⟨w, vs⟩
  · simp only [gMu] at hg
    cases hw : xs[xs.length - 1]? with
    | none => rw [hw] at hg; cases hg
    | some w =>
      rw [hw] at hg
      cases hg
      obtain ⟨Y, f1, f2, e3, r, rs, dd, rfl⟩ := rx.last hw
      simp only [Rs] at rv
      obtain ⟨rfl, rfl⟩ := rv
      exact ⟨a, Ws, Y, rfl, rfl, ha, e3, k _ _ f2 Y f1 rfl rs r (fun b z => .inl (.inr z)) (fun b z => .inl (.inl z)) dd⟩
  · simp [gMu] at hg
theorem mo_clear : MuOk K Cl .clear rClear := by
  intro P H xs vs a Ws Vs g gA v x' Q ha rx rv d hg k
  rcases vs with _ | ⟨w, vs⟩
  · simp only [gMu] at hg
    cases hg
    simp only [Rs] at rv
    obtain ⟨rfl, rfl⟩ := rv
    exact ⟨a, Ws, rfl, rfl, ha, k _ [] emp .non emp rfl ⟨rfl, rfl⟩ ⟨rfl, rfl⟩ (fun _ z => z.elim) (fun _ z => z.elim) (emp_dis _)⟩
  · simp [gMu] at hg
theorem erase_at : ∀ {ns : List Int} {i : Int}, i ∈ ns → ∃ j, ns[j]? = some i ∧ (∀ m : Nat, m < j → ns[m]? ≠ some i) ∧ ns.erase i = ns.eraseIdx j
  | n :: ns, i, h => by
    by_cases e : n = i
    · subst e
      exact ⟨0, rfl, fun m hm => absurd hm (by omega), by simp⟩
    · obtain ⟨j, h1, h2, h3⟩ := erase_at (ns := ns) (i := i) ((List.mem_cons.mp h).resolve_left fun z => e z.symm)
      refine ⟨j + 1, by simpa using h1, fun m hm => ?_, ?_⟩
      · cases m with
        | zero => simpa using e
        | succ m => simpa using h2 m (by omega)
      · rw [List.erase_cons_tail (by simpa using e), h3]; rfl
theorem ints_rs {xs : List Val} {ns : List Int} {Ws : List V} {g : Ps} (h : Rs K Cl P H xs Ws g) (e : intsOf xs = some ns) : Ws = ns.map V.int ∧ g = VS.emp := by
  induction xs generalizing ns Ws g with
  | nil => simp only [intsOf] at e; cases e; simp only [Rs] at h; exact ⟨h.1, h.2⟩
  | cons x xs ih =>
    cases x with
    | int i =>
      simp only [intsOf, Option.map_eq_some_iff] at e
      obtain ⟨ms, e, rfl⟩ := e
      simp only [Rs] at h
      obtain ⟨V0, Vs', f1, f2, rfl, h1, h2, _, rfl⟩ := h
      simp only [R] at h1
      obtain ⟨e1, e2⟩ := ih h2 e
      exact ⟨by rw [h1.1, e1]; rfl, by rw [h1.2, e2, uni_emp]⟩
    | _ => simp [intsOf] at e
theorem mo_remove : MuOk K Cl .remove rRemI := by
  intro P H xs vs a Ws Vs g gA v x' Q ha rx rv d hg k
  rcases vs with _ | ⟨w, _ | ⟨w2, vs⟩⟩
  · simp [gMu] at hg
  · cases w with
    | int i =>
      simp only [gMu] at hg
      cases hi : intsOf xs with
      | none => rw [hi] at hg; cases hg
      | some ns =>
        rw [hi] at hg
        dsimp only at hg
        by_cases hm : i ∈ ns
        · rw [if_pos hm] at hg
          cases hg
          obtain ⟨Y, rfl, ry⟩ := rv.one_inv
          simp only [R] at ry
          obtain ⟨rfl, rfl⟩ := ry
          obtain ⟨rfl, rfl⟩ := ints_rs rx hi
          obtain ⟨j, h1, h2, h3⟩ := erase_at hm
          refine ⟨a, ns, i, j, rfl, rfl, ha, h1, h2, k _ _ emp .non emp rfl (by rw [h3]; exact rs_ints P H _) ⟨rfl, rfl⟩ (fun _ z => z.elim) (fun _ z => z.elim) (emp_dis _)⟩
        · rw [if_neg hm] at hg; cases hg
    | _ => simp [gMu] at hg
  · cases w <;> simp [gMu] at hg
theorem Rs.cutOut : ∀ {xs : List Val} {Ws : List V} {g : Ps} {i : Nat} {v : Val}, Rs K Cl P H xs Ws g → xs[i]? = some v → ∃ W f1 g1, Ws[i]? = some W ∧ R K Cl P H v W f1 ∧ Rs K Cl P H (xs.eraseIdx i) (Ws.eraseIdx i) g1 ∧ dis f1 g1 ∧ g = uni f1 g1
  | [], _, _, _, _, _, h => by simp at h
  | v :: vs, Ws, g, 0, w, h, e => by
    simp only [Rs] at h
    obtain ⟨W, Ws', f1, f2, rfl, h1, h2, hd, rfl⟩ := h
    simp at e; subst e
    exact ⟨W, f1, f2, rfl, h1, h2, hd, rfl⟩
  | v :: vs, Ws, g, i + 1, w, h, e => by
    simp only [Rs] at h
    obtain ⟨W, Ws', f1, f2, rfl, h1, h2, hd, rfl⟩ := h
    obtain ⟨W', g1, g2, e1, r1, rs, d1, rfl⟩ := Rs.cutOut h2 (by simpa using e)
    refine ⟨W', g1, uni f1 g2, by simpa using e1, r1, ⟨W, _, f1, g2, rfl, h1, rs, fun b x y => hd b x (.inr y), rfl⟩, fun b x y => ?_, ?_⟩
    · rcases y with y | y
      · exact hd b y (.inl x)
      · exact d1 b x y
    · funext b
      apply propext
      constructor
      · rintro (z | z | z)
        · exact .inr (.inl z)
        · exact .inl z
        · exact .inr (.inr z)
      · rintro (z | z | z)
        · exact .inr (.inl z)
        · exact .inl z
        · exact .inr (.inr z)
theorem mo_popAt : MuOk K Cl .popAt rPopAt := by
  intro P H xs vs a Ws Vs g gA v x' Q ha rx rv d hg k
  rcases vs with _ | ⟨w, _ | ⟨w2, vs⟩⟩
  · simp [gMu] at hg
  · cases w with
    | int i =>
      simp only [gMu] at hg
      by_cases hr : decide (-4611686018427387904 ≤ i ∧ i < 4611686018427387904) = true
      · rw [if_pos hr] at hg
        have hr := of_decide_eq_true hr
        cases hi : ixN xs.length i with
        | none => rw [hi] at hg; cases hg
        | some q =>
          rw [hi] at hg
          dsimp only at hg
          cases hv : xs[q]? with
          | none => rw [hv] at hg; cases hg
          | some u =>
            rw [hv] at hg
            cases hg
            obtain ⟨Y, rfl, ry⟩ := rv.one_inv
            simp only [R] at ry
            obtain ⟨rfl, rfl⟩ := ry
            obtain ⟨Y, f1, g1, e1, r1, rs, d1, rfl⟩ := rx.cutOut hv
            refine ⟨a, Ws, i, q, Y, rfl, rfl, ha, by omega, by omega, ?_, e1, k _ _ g1 Y f1 rfl rs r1 (fun b z => .inl (.inr z)) (fun b z => .inl (.inl z)) d1⟩
            rw [← rx.length]
            exact (ixN_seq hi).1
      · rw [if_neg hr] at hg; cases hg
    | _ => simp [gMu] at hg
  · cases w <;> simp [gMu] at hg
theorem Rs.revG : ∀ {xs : List Val} {Ws : List V} {g : Ps}, Rs K Cl P H xs Ws g → ∃ g', Rs K Cl P H xs.reverse Ws.reverse g' ∧ ∀ b, g' b → g b
  | [], Ws, g, h => by
    simp only [Rs] at h
    rw [h.1]
    exact ⟨g, ⟨rfl, h.2⟩, fun _ z => z⟩
  | x :: xs, Ws, g, h => by
    simp only [Rs] at h
    obtain ⟨V, Vs', f1, f2, rfl, h1, h2, hd, rfl⟩ := h
    obtain ⟨g', r, s⟩ := Rs.revG h2
    rw [List.reverse_cons, List.reverse_cons]
    refine ⟨_, r.app (ys := [x]) (Us := [V]) (h := f1) ⟨V, [], f1, VS.emp, rfl, h1, ⟨rfl, rfl⟩, dis_emp _, (uni_emp _).symm⟩ fun b y z => hd b z (s b y), fun b z => z.elim (fun z => .inr (s b z)) .inl⟩
theorem mo_extend : MuOk K Cl .extend rExtend := by
  intro P H xs vs a Ws Vs g gA v x' Q ha rx rv d hg k
  rcases vs with _ | ⟨w, _ | ⟨w2, vs⟩⟩
  · simp [gMu] at hg
  · cases w with
    | node t ys =>
      cases t <;> first | (simp [gMu] at hg; done) | skip
      simp only [gMu] at hg
      by_cases hlt : (pures ys && lineB (xs.length + ys.length)) = true
      case neg => rw [if_neg hlt] at hg; cases hg
      rw [if_pos hlt] at hg
      cases hg
      simp only [Bool.and_eq_true] at hlt
      obtain ⟨Y, rfl, ry⟩ := rv.one_inv
      obtain ⟨b, Us, y, gy, rfl, hy, rys, _⟩ := ry.node_items
      have re := rys.emp hlt.1
      refine ⟨a, b, Ws, Us, rfl, rfl, ha, hy.1, ?_, k _ (Ws ++ Us) g .non emp rfl (by have := rx.app re (dis_emp _); rwa [uni_emp] at this) ⟨rfl, rfl⟩ (fun b z => .inl z) (fun _ z => z.elim) (emp_dis _)⟩
      rw [← rx.length, ← rys.length, sizeLine_eq]
      exact of_decide_eq_true hlt.2
    | _ => simp [gMu] at hg
  · cases w with
    | node t ys => cases t <;> simp [gMu] at hg
    | _ => simp [gMu] at hg
theorem mo_reverse : MuOk K Cl .reverse rReverse := by
  intro P H xs vs a Ws Vs g gA v x' Q ha rx rv d hg k
  rcases vs with _ | ⟨w, vs⟩
  · simp only [gMu] at hg
    cases hg
    simp only [Rs] at rv
    obtain ⟨rfl, rfl⟩ := rv
    obtain ⟨g', r, s⟩ := rx.revG
    exact ⟨a, Ws, rfl, rfl, ha, k _ _ g' .non emp rfl r ⟨rfl, rfl⟩ (fun b z => .inl (s b z)) (fun _ z => z.elim) (emp_dis _)⟩
  · simp [gMu] at hg
theorem sMu_inv {m : Mu} {x : Val} {s : Src} {as : List (Val × Src)} {ρ : Env} : sMu m ((x, s) :: as) ρ = .bad ∨ ∃ xs v x', x = .node (.lst false) xs ∧ allTmp as = true ∧ gMu m x (as.map (·.1)) = some (v, x') ∧ (∃ xs', x' = .node (.lst false) xs') ∧ s ≠ .brw ∧
    sMu m ((x, s) :: as) ρ = .ok (v, .tmp) (match s with
      | .plc i p => putAt ρ i p x'
      | _ => ρ) := by
  have hx : ∀ v x', gMu m x (as.map (·.1)) = some (v, x') → (∃ xs, x = .node (.lst false) xs) ∧ ∃ xs', x' = .node (.lst false) xs' := fun v x' h => by
    unfold gMu at h
    split at h <;> (repeat' split at h) <;> first | (cases h; exact ⟨⟨_, rfl⟩, _, rfl⟩) | cases h
  cases s with
  | brw => exact .inl rfl
  | tmp =>
    simp only [sMu]
    by_cases ht : allTmp as = true
    · rw [if_pos ht]
      cases hg : gMu m x (as.map (·.1)) with
      | none => exact .inl rfl
      | some r =>
        obtain ⟨v, x'⟩ := r
        obtain ⟨⟨xs, rfl⟩, hx'⟩ := hx v x' hg
        exact .inr ⟨xs, v, x', rfl, ht, rfl, hx', by simp, rfl⟩
    · rw [if_neg ht]; exact .inl rfl
  | plc i p =>
    simp only [sMu]
    by_cases ht : allTmp as = true
    · rw [if_pos ht]
      cases hg : gMu m x (as.map (·.1)) with
      | none => exact .inl rfl
      | some r =>
        obtain ⟨v, x'⟩ := r
        obtain ⟨⟨xs, rfl⟩, hx'⟩ := hx v x' hg
        exact .inr ⟨xs, v, x', rfl, ht, rfl, hx', by simp, rfl⟩
    · rw [if_neg ht]; exact .inl rfl
theorem mu_run {m : Mu} {r : V → List V → Hp → VK → Prop} (mo : MuOk K Cl m r) {x : Val} {s : Src} {as : List (Val × Src)} {ρ1 : Env} {f1 F : Ps} {U : V} {Vs : List V} {Q : VK} {E : XK} {fz : Ps} {e : Bool} {P0 : Ps} {H0 : Hp} (o1 : Out K Cl P0 H0 fz e ρ1 σ P H f1)
    (a1 : ArgsOk K Cl P H ρ1 σ f1 ((x, s) :: as) (U :: Vs) F) (dF : dis F f1) (sF : Sub H0 F fz) (q : match sMu m ((x, s) :: as) ρ1 with
      | .ok (v, sr) ρ' => ∀ U H', Out1 K Cl P0 H0 fz true ρ' σ v sr U H' → Q U H'
      | .exc x ρ' => ∀ c d H', OutX K Cl ClX P0 H0 fz true ρ' σ x c d H' → E c d H'
      | .bad => False) : r U Vs H Q := by
  rcases sMu_inv (m := m) (x := x) (s := s) (as := as) (ρ := ρ1) with hk | ⟨xs, v, x', rfl, ht, hg, ⟨xs', rfl⟩, hs, hk⟩
  · rw [hk] at q; exact q.elim
  · rw [hk] at q
    simp only [ArgsOk] at a1
    obtain ⟨U', Vs', fx, gA, e', rx, ra, sx⟩ := a1
    cases e'
    obtain ⟨a, Ws, g, rfl, ha, rs, rfl, na, np⟩ := rx.lst_open
    have rv := args_tmp ht ra
    cases s with
    | brw => exact absurd rfl hs
    | tmp =>
      obtain ⟨d1, d2, rfl⟩ := sx
      refine mo (g := g) (gA := gA) ha rs rv d2.symm hg fun ys Ws' g' Y fv e'' rs' rY h1 h2 h3 => ?_
      cases e''
      exact mu_fin (s := .tmp) (F := uni (uni (one a) g) gA) o1 sF dF rx rfl na np (fun b z => .inl z) (fun b z => .inr z) d2.symm rs' rY h1 h2 h3 fun ρ' U H' e z => by
        rw [e] at z
        exact q U H' z
    | plc i p =>
      obtain ⟨pl, rfl⟩ := sx
      have dd : dis F (uni (one a) g) := fun b y z => dF b y ((plc_put (P' := P) (H' := H) o1.re pl rx (fun _ _ e _ => e) (fun _ _ => Iff.rfl) rx (fun _ z _ => z)).1 b z)
      refine mo (g := g) (gA := F) ha rs rv dd hg fun ys Ws' g' Y fv e'' rs' rY h1 h2 h3 => ?_
      cases e''
      exact mu_fin (s := .plc i p) (F := F) o1 sF dF rx rfl na np pl (fun b z => z) dd rs' rY h1 h2 h3 fun ρ' U H' e z => by
        rw [e] at z
        exact q U H' z
theorem argsCons_ok {q : Bool} {s : Env → Res (Val × Src)} {r : Env → Res (List (Val × Src))} {ρ : Env} {as : List (Val × Src)} {ρ' : Env} (h : argsCons q s r ρ = .ok as ρ') : ∃ x sr as', as = (x, sr) :: as' := by
  unfold argsCons at h
  cases hs : s ρ with
  | bad => rw [hs] at h; cases h
  | exc x ρ1 => rw [hs] at h; cases h
  | ok a ρ1 =>
    rw [hs] at h
    simp only [Res.bind_ok] at h
    by_cases hk : okSrc a.2 q = true
    · rw [if_pos hk] at h
      cases hr : r ρ1 with
      | bad => rw [hr] at h; cases h
      | exc x ρ2 => rw [hr] at h; cases h
      | ok as ρ2 =>
        rw [hr] at h
        simp only [Res.bind_ok] at h
        cases hc : cur ρ2 a with
        | none => rw [hc] at h; cases h
        | some b => rw [hc] at h; cases h; exact ⟨b.1, b.2, as, rfl⟩
    · rw [if_neg hk] at h; cases h
theorem mu_args {m : Mu} {r : V → List V → Hp → VK → Prop} (mo : MuOk K Cl m r) {e1 e2 : Bool} {s1 : Env → Res (Val × Src)} {rr : Env → Res (List (Val × Src))} (qr : Quiet e2 rr) {Q : VK}
    (h : tV K Cl ClX W true (sThen (argsCons (!e2) (sMid isLst s1) rr) (sMu m)) σ H Q) : tV K Cl ClX W e1 s1 σ H (fun x H1 => tyV K "list" x H1 ∧ tVs K Cl ClX W e2 rr σ H1 fun Vs H2 => r x Vs H2 Q) := by
  have h2 : tVs K Cl ClX W (e1 || e2) (argsCons (!e2) (sMid isLst s1) rr) σ H fun Vs H1 => ∃ U Vs', Vs = U :: Vs' ∧ r U Vs' H1 Q := by
    obtain ⟨P, ρ, f0, l, lv, q⟩ := h
    refine ⟨P, ρ, f0, l, lv, ?_⟩
    unfold sThen at q
    cases hs : argsCons (!e2) (sMid isLst s1) rr ρ with
    | bad => rw [hs] at q; exact q
    | exc x ρ1 =>
      rw [hs] at q
      exact fun c d H' ⟨P', f', o', xo⟩ => q c d H' ⟨P', f', o'.up' true (fun _ => rfl), xo⟩
    | ok as ρ1 =>
      rw [hs] at q
      obtain ⟨x, sr, as', rfl⟩ := argsCons_ok hs
      intro Vs H1 ⟨P1, f1, F, o1, a1, d1, sb⟩
      cases Vs with
      | nil =>
        simp only [ArgsOk] at a1
        obtain ⟨_, _, _, _, e, _⟩ := a1
        cases e
      | cons U Vs => exact ⟨U, Vs, rfl, mu_run mo o1 a1 d1 sb q⟩
  refine tv_mono (mid_ok (cons_mono qr h2 fun x H1 h1 => h1)) fun x H1 ⟨⟨v, P1, f, hm, rv⟩, h1⟩ => ⟨ty_lst rv hm, tvs_mono h1 fun xs H2 ⟨U, Vs', e, z⟩ => by cases e; exact z⟩
theorem tv_mu0 {m : Mu} {r : V → List V → Hp → VK → Prop} (mo : MuOk X.K Cl m r) {e1 : Bool} {s1 : Env → Res (Val × Src)} {o : Expr} {name : Str} {id : String} {apos cpos : Pos} (slot : Slot "list" name id) (hty : typeOf (.builtin id) = pure (.type "method_descriptor")) (hm : MtR X id r)
    (ho : PE X o (tV X.K Cl ClX W e1 s1)) (hbase : attributeBase o name X.env (eval o X.env) = eval o X.env) (hline : (apos.endLine == cpos.line) = true) :
    PE X (.Call (.Attribute o name apos) [] [] cpos) (tV X.K Cl ClX W true (sThen (argsCons (!false) (sMid isLst s1) argsNil) (sMu m))) :=
  PE.le (pe_bm0 PySem.F.plainAttrs_list slot hty hm ho hbase hline) fun σ H Q h => tv_mono (mu_args (e1 := e1) mo quiet_nil h) fun x H1 ⟨ty, h1⟩ => ⟨ty, by
    obtain ⟨P, ρ, f, l, lv, q⟩ := h1
    exact q [] H1 ⟨P, f, emp, Out.refl l lv, ⟨rfl, rfl⟩, emp_dis _, fun _ z => z.elim⟩⟩
theorem tv_mu {m : Mu} {r : V → List V → Hp → VK → Prop} (mo : MuOk X.K Cl m r) {e1 e2 : Bool} {s1 : Env → Res (Val × Src)} {rr : Env → Res (List (Val × Src))} (qr : Quiet e2 rr) {o a : Expr} {es : List Expr} {name : Str} {id : String} {apos cpos : Pos} (slot : Slot "list" name id)
    (hty : typeOf (.builtin id) = pure (.type "method_descriptor")) (hm : MtR X id r) (ho : PE X o (tV X.K Cl ClX W e1 s1)) (ha : PA X (a :: es) (tVs X.K Cl ClX W e2 rr)) (hbase : attributeBase o name X.env (eval o X.env) = eval o X.env)
    (hfew : ((backTo cpos (starEach (a :: es) X.env)).all (fun x => !x.1) && (backToKw cpos (keywordEach [] X.env)).all (fun x => x.1.isSome)
      && decide ((a :: es).length + ([] : List Keyword).length + (if ([] : List Keyword).isEmpty then 0 else 1) < 30)) = true)
    (hline : (apos.endLine == cpos.line) = true) (hs : starEach (a :: es) X.env = (false, eval a X.env) :: starEach es X.env) (hplain : (backTo cpos (starEach es X.env)).any (·.1) = false) :
    PE X (.Call (.Attribute o name apos) (a :: es) [] cpos) (tV X.K Cl ClX W true (sThen (argsCons (!e2) (sMid isLst s1) rr) (sMu m))) :=
  PE.le (pe_bm PySem.F.plainAttrs_list slot hty hm ho ha hbase hfew hline hs hplain) fun σ H Q h => mu_args (e1 := e1) mo qr h
end
end VS

namespace VS
open PySem L2
/-- the walk gives just these, as long as the heap stands so -/
theorem rs_item {K : PySem.W.Frag} {Cl : Nat → Addr} {P : Ps} {H : Hp} : ∀ {xs : List Val} {Ws : List V} {i : Nat} {v : Val}, Rs K Cl P H xs Ws emp → xs[i]? = some v → ∃ U, Ws[i]? = some U ∧ R K Cl P H v U emp := fun {xs Ws i v} h e => by
  obtain ⟨U, f1, g1, e1, r, _, e2, _⟩ := h.pick e
  have : f1 = emp := eq_emp fun b z => (show emp b from by rw [e2]; exact .inl z)
  subst this
  exact ⟨U, e1, r⟩
def Walkd (J : It) (Ws : List V) (H : Hp) : Prop := (∀ i, i < Ws.length → J.go i H ∧ ∀ x H', J.yld i H x H' → H' = H ∧ Ws[i]? = some x) ∧ J.stop Ws.length H
/-- the walk gives just these values, new ones perhaps -/
def Wk (K : PySem.W.Frag) (Cl : Nat → Addr) (J : It) (items : List Val) (P : Ps) (H : Hp) : Prop := (∀ i v, items[i]? = some v → J.go i H ∧ ∀ x H', J.yld i H x H' → ∃ P', Tr P H emp P' H' ∧ R K Cl P' H' v x emp ∧ Lv P' H') ∧ J.stop items.length H
theorem wk_of {K : PySem.W.Frag} {Cl : Nat → Addr} {J : It} {items : List Val} {Ws : List V} {P : Ps} {H : Hp} (h : Walkd J Ws H) (r : Rs K Cl P H items Ws emp) (lv : Lv P H) : Wk K Cl J items P H := by
  refine ⟨fun i v e => ?_, by rw [r.length]; exact h.2⟩
  obtain ⟨U, eU, rU⟩ := rs_item r e
  obtain ⟨go, yl⟩ := h.1 i (List.getElem?_eq_some_iff.mp eU).1
  refine ⟨go, fun x H' y => ?_⟩
  obtain ⟨rfl, ex⟩ := yl x H' y
  rw [ex] at eU
  cases eU
  exact ⟨P, Tr.refl _ _ _, rU, lv⟩
section
variable (K : PySem.W.Frag) (Cl ClX : Nat → Addr)
/-- what is walked, by its items -/
def tI (W : WX) (k : ItK) (s : Env → Res (List (Val × Src))) : TI := fun σ H R => ∃ P ρ f, RE K Cl P H ρ σ f ∧ Lv P H ∧ match s ρ with
  | .ok as ρ1 => allTmp as = true ∧ ∃ items, itemsOf k (as.map (·.1)) = some items ∧ ∀ J H1 P1 f1, Out K Cl P H f true ρ1 σ P1 H1 f1 → (∀ Pi Hi, Tr P1 H1 f1 Pi Hi → Lv Pi Hi → Wk K Cl J items Pi Hi) → R J H1
  | .exc x ρ' => ∀ c d H', OutX K Cl ClX P H f true ρ' σ x c d H' → W c d σ H'
  | .bad => False
end
section
variable {K : PySem.W.Frag} {Cl ClX : Nat → Addr} {X : Cx} {W : WX} {P P' : Ps} {H H' : Hp} {σ : L2.St}
theorem wk_old {items : List Val} {f : Ps} {ρ1 : Env} {Q : It → Hp → Prop} {H1 : Hp} {P1 f1 : Ps} {J : It} {Ws : List V} (q : ∀ J H1 P1 f1, Out K Cl P H f true ρ1 σ P1 H1 f1 → (∀ Pi Hi, Tr P1 H1 f1 Pi Hi → Lv Pi Hi → Wk K Cl J items Pi Hi) → Q J H1)
    (o : Out K Cl P H f true ρ1 σ P1 H1 f1) (rs : Rs K Cl P1 H1 items Ws emp) (wk : ∀ H' : Hp, (∀ b o, H1 b = some o → P1 b → H' b = some o) → Walkd J Ws H') : Q J H1 :=
  q J H1 P1 f1 o fun Pi Hi t lvi => wk_of (wk Hi fun b o' e z => t.keep b o' e fun y => (o.re.live b y).2 z) (rs.tr t (emp_dis _) fun b z y => (o.re.live b y).2 z) lvi
theorem PI.le {tg iter : Expr} {t t' : TI} (h : PI X tg iter t) (i : ∀ σ H Q, t' σ H Q → t σ H Q) : PI X tg iter t' := ⟨fun pins s σ H R I q => h.run pins s σ H R I (i _ _ _ q)⟩
theorem PI.or {tg iter : Expr} {t t' : TI} (h : PI X tg iter t) (h' : PI X tg iter t') : PI X tg iter (fun σ H Q => t σ H Q ∨ t' σ H Q) := ⟨fun pins s σ H R I q => q.elim (h.run pins s σ H R I) (h'.run pins s σ H R I)⟩
theorem sqL_keep {a : Addr} {Ws : List V} {x : Ps} {t : Tag} (ht : t = .rol ∨ ∃ z, t = .lst z) (h : Hold K Cl H t a Ws x) (k : ∀ b o, H b = some o → x b → H' b = some o) : SqL K H' a Ws := by
  have h' := h.frame k
  rcases ht with rfl | ⟨z, rfl⟩
  · exact .inl h'.1
  · exact SqL.of h'.1
def Tag.tu : Tag → Bool
  | .tup => true
  | .ptup => true
  | _ => false
theorem sqT_keep {a : Addr} {Ws : List V} {x : Ps} {t : Tag} (ht : t.tu = true) (h : Hold K Cl H t a Ws x) (k : ∀ b o, H b = some o → x b → H' b = some o) : SqT K H' a Ws := by
  have h' := h.frame k
  cases t <;> first | cases ht | skip
  · exact SqT.of h'.1
  · exact SqT.frz h'.1
theorem walk_l {a : Addr} {Ws : List V} (h : SqL K H a Ws) : Walkd (Itl K a) Ws H :=
  ⟨fun i hi => ⟨⟨Ws, Ws[i], h, by simp [hi]⟩, fun x H' y => ⟨y.1, y.2 Ws h⟩⟩, ⟨Ws, h, Nat.le_refl _⟩⟩
theorem walk_t {a : Addr} {Ws : List V} (h : SqT K H a Ws) : Walkd (Itt K a) Ws H :=
  ⟨fun i hi => ⟨⟨Ws, Ws[i], h, by simp [hi]⟩, fun x H' y => ⟨y.1, y.2 Ws h⟩⟩, ⟨Ws, h, Nat.le_refl _⟩⟩
theorem rev_get {α : Type} {Ws : List α} {i : Nat} (hi : i < Ws.length) : Ws.reverse[i]? = Ws[Ws.length - 1 - i]? := by
  rw [List.getElem?_reverse hi]
theorem walk_v {a : Addr} {Ws : List V} (h : SqL K H a Ws) : Walkd (Itv K a Ws.length) Ws.reverse H := by
  refine ⟨fun i hi => ?_, ?_⟩
  · have hi' : i < Ws.length := by simpa using hi
    have hj : Ws.length - 1 - i < Ws.length := by omega
    exact ⟨⟨hi', Ws, Ws[Ws.length - 1 - i], h, by simp [hj]⟩, fun x H' y => ⟨y.1, by rw [rev_get hi']; exact y.2 Ws h⟩⟩
  · show Ws.length ≤ Ws.reverse.length
    simp
theorem rangeL_rs (P : Ps) (H : Hp) : ∀ (n : Nat) (lo : Int), ∃ Ws, Rs K Cl P H (rangeL lo n) Ws emp ∧ Ws.length = n ∧ ∀ i, i < n → Ws[i]? = some (.int (lo + i))
  | 0, lo => ⟨[], ⟨rfl, rfl⟩, rfl, fun i hi => absurd hi (by omega)⟩
  | n + 1, lo => by
    obtain ⟨Ws, h, l, g⟩ := rangeL_rs P H n (lo + 1)
    refine ⟨.int lo :: Ws, ⟨.int lo, Ws, emp, emp, rfl, ⟨rfl, rfl⟩, h, dis_emp _, (uni_emp _).symm⟩, by simp [l], fun i hi => ?_⟩
    cases i with
    | zero => simp
    | succ i =>
      rw [List.getElem?_cons_succ, g i (by omega)]
      congr 2
      omega
theorem walk_r {lo : Int} {n : Nat} {Ws : List V} (l : Ws.length = n) (g : ∀ i, i < n → Ws[i]? = some (.int (lo + i))) : Walkd (Itr lo n) Ws H :=
  ⟨fun i hi => ⟨show i < n by omega, fun x H' y => ⟨y.1, by rw [g i (by omega), y.2]⟩⟩, by show n ≤ Ws.length; omega⟩
theorem freezes_rev (xs : List Val) : freezes xs.reverse = (freezes xs).reverse := by
  have h : ∀ xs : List Val, freezes xs = xs.map Val.freeze := fun xs => by
    induction xs with
    | nil => rfl
    | cons x xs ih => simp [freezes, ih]
  rw [h, h, List.map_reverse]
theorem Rs.rev : ∀ {xs : List Val} {Ws : List V}, Rs K Cl P H xs Ws VS.emp → Rs K Cl P H xs.reverse Ws.reverse VS.emp
  | [], _, h => by simp only [Rs] at h; rw [h.1]; exact ⟨rfl, rfl⟩
  | x :: xs, Ws, h => by
    simp only [Rs] at h
    obtain ⟨V, Vs', f1, f2, rfl, h1, h2, hd, e⟩ := h
    have e1 : f1 = VS.emp := eq_emp fun b z => (show VS.emp b from by rw [e]; exact .inl z)
    have e2 : f2 = VS.emp := eq_emp fun b z => (show VS.emp b from by rw [e]; exact .inr z)
    subst e1 e2
    rw [List.reverse_cons, List.reverse_cons]
    exact Rs.append (Rs.rev h2) ⟨V, [], VS.emp, VS.emp, rfl, h1, ⟨rfl, rfl⟩, dis_emp _, (uni_emp _).symm⟩
/-- a sequence of one's own, shown as frozen -/
theorem iter_frz {f : Ps} {e : Bool} {ρ1 : Env} {P1 : Ps} {H1 : Hp} {f1 fv : Ps} {t : Tag} {vs : List Val} {U : V} (o : Out K Cl P H f e ρ1 σ P1 H1 f1) (r : R K Cl P1 H1 (.node t vs) U fv) (d : dis fv f1) (sb : Sub H fv f) :
    Out K Cl P H f true ρ1 σ (uni P1 fv) H1 f1 ∧ ∃ a Ws x, U = .ref a ∧ Hold K Cl H1 t a Ws x ∧ (∀ b, x b → uni P1 fv b) ∧ Rs K Cl (uni P1 fv) H1 (freezes vs) Ws emp := by
  refine ⟨⟨⟨fun b o' z n => o.tr.keep b o' z fun y => n (wr_sub _ _ b y), fun b z => .inl (o.tr.pm b z), fun b z => ?_⟩, ?_, o.sub, fun z => (by cases z), fun b z => z.elim (o.lv b) fun z => (r.live b z).1⟩, ?_⟩
  · rcases z with z | z
    · exact (o.tr.pn b z).imp id fun z => z.imp (wr_sub _ _ b) id
    · exact .inr (sb b z)
  · refine o.re.frame (fun _ _ e _ => e) fun b z => ⟨fun y => ?_, .inl⟩
    rcases y with y | y
    · exact y
    · rcases z with z | z
      · exact z
      · exact (d b y z).elim
  · have rf := r.frz (P' := uni P1 fv) fun b z => z
    simp only [R] at r
    obtain ⟨a, Vs, x, g, rfl, hh, hs, hf⟩ := r
    refine ⟨a, Vs, x, rfl, hh, fun b z => ?_, hs.frz fun b z => ?_⟩
    · split at hf
      · exact .inr (by rw [hf.1]; exact .inl z)
      · exact .inl (hf.2 b z)
    · rcases z with z | z
      · exact .inl z
      · right
        split at hf
        · rw [hf.1]; exact .inr z
        · rw [hf.1]; exact z
theorem items_seq {v : Val} {items : List Val} (h : itemsOf .seq [v] = some items) : ∃ t vs, v = .node t vs ∧ items = freezes vs ∧ (t.tu = true ∨ t = .rol ∨ ∃ z, t = .lst z) := by
  cases v with
  | node t vs =>
    cases t <;> simp only [itemsOf, Option.some.injEq, reduceCtorEq] at h
    · exact ⟨_, _, rfl, h.symm, .inl rfl⟩
    · exact ⟨_, _, rfl, h.symm, .inl rfl⟩
    · exact ⟨_, _, rfl, h.symm, .inr (.inl rfl)⟩
    · exact ⟨_, _, rfl, h.symm, .inr (.inr ⟨_, rfl⟩)⟩
  | _ => simp [itemsOf] at h
theorem items_r1 {vs items : List Val} (h : itemsOf .range1 vs = some items) : ∃ j, vs = [.int j] ∧ (-(2 ^ 62) ≤ j ∧ j < 2 ^ 62) ∧ items = rangeL 0 j.toNat := by
  rcases vs with _ | ⟨v, _ | ⟨w, r⟩⟩
  · simp [itemsOf] at h
  · cases v with
    | int j =>
      simp only [itemsOf] at h
      by_cases hc : decide (-(2 ^ 62) ≤ j ∧ j < 2 ^ 62) = true
      · rw [if_pos hc] at h; cases h; exact ⟨j, rfl, of_decide_eq_true hc, rfl⟩
      · rw [if_neg hc] at h; cases h
    | _ => simp [itemsOf] at h
  · cases v <;> simp [itemsOf] at h
theorem items_r2 {vs items : List Val} (h : itemsOf .range2 vs = some items) : ∃ i j, vs = [.int i, .int j] ∧ (-(2 ^ 62) ≤ i ∧ i < 2 ^ 62 ∧ -(2 ^ 62) ≤ j ∧ j < 2 ^ 62) ∧ items = rangeL i (j - i).toNat := by
  rcases vs with _ | ⟨v, _ | ⟨w, _ | ⟨z, r⟩⟩⟩
  · simp [itemsOf] at h
  · cases v <;> simp [itemsOf] at h
  · cases v with
    | int i =>
      cases w with
      | int j =>
        simp only [itemsOf] at h
        by_cases hc : decide (-(2 ^ 62) ≤ i ∧ i < 2 ^ 62 ∧ -(2 ^ 62) ≤ j ∧ j < 2 ^ 62) = true
        · rw [if_pos hc] at h; cases h; exact ⟨i, j, rfl, of_decide_eq_true hc, rfl⟩
        · rw [if_neg hc] at h; cases h
      | _ => simp [itemsOf] at h
    | _ => simp [itemsOf] at h
  · cases v <;> cases w <;> simp [itemsOf] at h
theorem items_rev {vs items : List Val} (h : itemsOf .rev vs = some items) : ∃ t ws, vs = [.node t ws] ∧ items = freezes ws.reverse ∧ (t = .rol ∨ ∃ z, t = .lst z) := by
  rcases vs with _ | ⟨v, _ | ⟨w, r⟩⟩
  · simp [itemsOf] at h
  · cases v with
    | node t ws =>
      cases t <;> simp only [itemsOf, Option.some.injEq, reduceCtorEq] at h
      · exact ⟨_, _, rfl, h.symm, .inl rfl⟩
      · exact ⟨_, _, rfl, h.symm, .inr ⟨_, rfl⟩⟩
    | _ => simp [itemsOf] at h
  · cases v with
    | node t ws => cases t <;> simp [itemsOf] at h
    | _ => simp [itemsOf] at h
theorem ti_seq {e : Bool} {s : Env → Res (Val × Src)} {tg l : Expr} (h : PE X l (tV X.K Cl ClX W e s)) : PI X tg l (tI X.K Cl ClX W .seq (argsCons (!false) s argsNil)) := PI.le (PI.or (pi_list h) (pi_tup h)) fun σ H R ⟨P, ρ, f, lr, lv, q⟩ => by
  unfold argsCons argsNil at q
  cases hs : s ρ with
  | bad => rw [hs] at q; exact q.elim
  | exc x ρ1 =>
    rw [hs] at q
    exact .inl ⟨P, ρ, f, lr, lv, by rw [hs]; exact fun c d H' ⟨P', f', o, xo⟩ => q c d H' ⟨P', f', o.up' true (fun _ => rfl), xo⟩⟩
  | ok a ρ1 =>
    obtain ⟨v, sr⟩ := a
    rw [hs] at q
    simp only [Res.bind_ok] at q
    by_cases hk : okSrc sr (!false) = true
    case neg => rw [if_neg hk] at q; exact q.elim
    rw [if_pos hk] at q
    cases sr with
    | brw => simp only [cur] at q; simp [allTmp] at q
    | plc i p =>
      cases hc : cur ρ1 (v, .plc i p) with
      | none => rw [hc] at q; exact q.elim
      | some b =>
        rw [hc] at q
        have : b.2 = .plc i p := by
          cases p with
          | nil =>
            simp only [cur] at hc
            split at hc
            · cases hc; rfl
            · cases hc
          | cons j p => simp only [cur, Option.some.injEq] at hc; rw [← hc]
        obtain ⟨b1, b2⟩ := b
        cases this
        simp [allTmp] at q
    | tmp =>
      simp only [cur] at q
      obtain ⟨_, items, hi, q⟩ := q
      obtain ⟨t, vs, rfl, rfl, ht⟩ := items_seq hi
      have go : ∀ U H1, Out1 X.K Cl P H f e ρ1 σ (.node t vs) .tmp U H1 → ∃ a, U = .ref a ∧ (((∃ xs, SqL X.K H1 a xs) ∧ R (Itl X.K a) H1) ∨ ((∃ xs, SqT X.K H1 a xs) ∧ R (Itt X.K a) H1)) ∧ (t.tu = true → (∃ xs, SqT X.K H1 a xs) ∧ R (Itt X.K a) H1) ∧ (t.tu ≠ true → (∃ xs, SqL X.K H1 a xs) ∧ R (Itl X.K a) H1) := by
        intro U H1 ⟨P1, f1, fv, o, r, d, sb⟩
        obtain ⟨o2, a, Ws, x, rfl, hh, hx, rs⟩ := iter_frz o r d sb
        by_cases e1 : t.tu = true
        · have z : (∃ xs, SqT X.K H1 a xs) ∧ R (Itt X.K a) H1 := ⟨⟨Ws, sqT_keep e1 hh fun _ _ e _ => e⟩, wk_old q o2 rs fun H' k => walk_t (sqT_keep e1 hh fun b o e xb => k b o e (hx b xb))⟩
          exact ⟨a, rfl, .inr z, fun _ => z, fun n => absurd e1 n⟩
        · have ht' : t = .rol ∨ ∃ z, t = .lst z := ht.elim (fun z => absurd z e1) id
          have z : (∃ xs, SqL X.K H1 a xs) ∧ R (Itl X.K a) H1 := ⟨⟨Ws, sqL_keep ht' hh fun _ _ e _ => e⟩, wk_old q o2 rs fun H' k => walk_l (sqL_keep ht' hh fun b o e xb => k b o e (hx b xb))⟩
          exact ⟨a, rfl, .inl z, fun n => absurd n e1, fun _ => z⟩
      by_cases e1 : t.tu = true
      · refine .inr ⟨P, ρ, f, lr, lv, ?_⟩
        rw [hs]
        intro U H1 o
        obtain ⟨a, rfl, _, z, _⟩ := go U H1 o
        exact ⟨a, rfl, (z e1).1, (z e1).2⟩
      · refine .inl ⟨P, ρ, f, lr, lv, ?_⟩
        rw [hs]
        intro U H1 o
        obtain ⟨a, rfl, _, _, z⟩ := go U H1 o
        exact ⟨a, rfl, (z e1).1, (z e1).2⟩
/-- from arguments to a walk -/
theorem ti_args {e : Bool} {k : ItK} {s : Env → Res (List (Val × Src))} {R : It → Hp → Prop} {Q : List V → Hp → Prop} (h : tI K Cl ClX W k s σ H R)
    (go : ∀ as P H f ρ1 P1 H1 f1 F Vs items, Out K Cl P H f e ρ1 σ P1 H1 f1 → allTmp as = true → Rs K Cl P1 H1 (as.map (·.1)) Vs F → dis F f1 → Sub H F f → itemsOf k (as.map (·.1)) = some items →
      (∀ J P2, Out K Cl P H f true ρ1 σ P2 H1 f1 → (∀ Pi Hi, Tr P2 H1 f1 Pi Hi → Lv Pi Hi → Wk K Cl J items Pi Hi) → R J H1) → Q Vs H1) : tVs K Cl ClX W e s σ H Q := by
  obtain ⟨P, ρ, f, lr, lv, q⟩ := h
  refine ⟨P, ρ, f, lr, lv, ?_⟩
  cases hs : s ρ with
  | bad => rw [hs] at q; exact q
  | exc x ρ1 =>
    rw [hs] at q
    exact fun c d H' ⟨P', f', o, xo⟩ => q c d H' ⟨P', f', o.up' true (fun _ => rfl), xo⟩
  | ok as ρ1 =>
    rw [hs] at q
    obtain ⟨ht, items, hi, q⟩ := q
    intro Vs H1 ⟨P1, f1, F, o1, a1, d1, sb⟩
    exact go as P H f ρ1 P1 H1 f1 F Vs items o1 ht (args_tmp ht a1) d1 sb hi fun J P2 o2 wk => q J H1 P2 f1 o2 wk
theorem wk_old1 {items : List Val} {f : Ps} {ρ1 : Env} {Q : It → Hp → Prop} {H1 : Hp} {P1 f1 : Ps} {J : It} {Ws : List V} (q : ∀ J P2, Out K Cl P H f true ρ1 σ P2 H1 f1 → (∀ Pi Hi, Tr P2 H1 f1 Pi Hi → Lv Pi Hi → Wk K Cl J items Pi Hi) → Q J H1)
    (o : Out K Cl P H f true ρ1 σ P1 H1 f1) (rs : Rs K Cl P1 H1 items Ws emp) (wk : ∀ H' : Hp, (∀ b o, H1 b = some o → P1 b → H' b = some o) → Walkd J Ws H') : Q J H1 :=
  q J P1 o fun Pi Hi t lvi => wk_of (wk Hi fun b o' e z => t.keep b o' e fun y => (o.re.live b y).2 z) (rs.tr t (emp_dis _) fun b z y => (o.re.live b y).2 z) lvi
theorem ti_range1 {e : Bool} {s : Env → Res (List (Val × Src))} {tg a : Expr} {p pos : Pos} (hg : Gl X "range") (hm : X.mg "range" = none) (ha : PA X [a] (tVs X.K Cl ClX W e s)) (hs : starEach [a] X.env = [(false, eval a X.env)]) :
    PI X tg (.Call (.Name "range" p) [a] [] pos) (tI X.K Cl ClX W .range1 s) := PI.le (pi_range1 hg hm ha hs) fun σ H R h => ti_args h fun as P H f ρ1 P1 H1 f1 F Vs items o1 ht rs d sb hi q => by
  obtain ⟨j, ej, hc, rfl⟩ := items_r1 hi
  rw [ej] at rs
  obtain ⟨Y, rfl, r⟩ := rs.one_inv
  simp only [VS.R] at r
  obtain ⟨Ws, rw', l, g⟩ := rangeL_rs (K := X.K) (Cl := Cl) P1 H1 j.toNat 0
  rw [r.1]
  exact ⟨j, rfl, hc.1, hc.2, wk_old1 q (o1.up' true fun _ => rfl) rw' fun H' _ => walk_r l g⟩
theorem ti_range2 {e : Bool} {s : Env → Res (List (Val × Src))} {tg a b : Expr} {p pos : Pos} (hg : Gl X "range") (hm : X.mg "range" = none) (ha : PA X [a, b] (tVs X.K Cl ClX W e s)) (hs : starEach [a, b] X.env = [(false, eval a X.env), (false, eval b X.env)]) (hs2 : starEach [b] X.env = [(false, eval b X.env)]) :
    PI X tg (.Call (.Name "range" p) [a, b] [] pos) (tI X.K Cl ClX W .range2 s) := PI.le (pi_range2 hg hm ha hs hs2) fun σ H R h => ti_args h fun as P H f ρ1 P1 H1 f1 F Vs items o1 ht rs d sb hi q => by
  obtain ⟨i, j, ej, hc, rfl⟩ := items_r2 hi
  rw [ej] at rs
  simp only [Rs] at rs
  obtain ⟨Y, Vs', f1', f2', rfl, r, ⟨Z, Vs'', f3', f4', rfl, r2, ⟨rfl, rfl⟩, _⟩, _⟩ := rs
  simp only [VS.R] at r r2
  obtain ⟨Ws, rw', l, g⟩ := rangeL_rs (K := X.K) (Cl := Cl) P1 H1 (j - i).toNat i
  rw [r.1, r2.1]
  exact ⟨i, j, rfl, hc, wk_old1 q (o1.up' true fun _ => rfl) rw' fun H' _ => walk_r l g⟩
theorem ti_rev {e : Bool} {s : Env → Res (List (Val × Src))} {tg a : Expr} {p pos : Pos} (hg : Gl X "reversed") (hm : X.mg "reversed" = none) (ha : PA X [a] (tVs X.K Cl ClX W e s)) (hs : starEach [a] X.env = [(false, eval a X.env)]) :
    PI X tg (.Call (.Name "reversed" p) [a] [] pos) (tI X.K Cl ClX W .rev s) := PI.le (pi_reversed hg hm ha hs) fun σ H R h => ti_args h fun as P H f ρ1 P1 H1 f1 F Vs items o1 ht rs d sb hi q => by
  obtain ⟨t, ws, ej, rfl, hk⟩ := items_rev hi
  rw [ej] at rs
  obtain ⟨Y, rfl, r⟩ := rs.one_inv
  obtain ⟨o2, a, Ws, x, rfl, hh, hx, rf⟩ := iter_frz o1 r d sb
  rw [freezes_rev] at q
  exact ⟨a, Ws, rfl, sqL_keep hk hh fun _ _ e _ => e, wk_old1 q o2 rf.rev fun H' k => walk_v (sqL_keep hk hh fun b o e xb => k b o e (hx b xb))⟩
theorem enumL_at : ∀ {xs : List Val} {k i : Nat} {v : Val}, (enumL k xs)[i]? = some v → ∃ w, xs[i]? = some w ∧ v = .node .tup [.int ((k + i : Nat) : Int), w]
  | [], k, i, v, h => by simp [enumL] at h
  | x :: xs, k, 0, v, h => by
    simp only [enumL, List.getElem?_cons_zero, Option.some.injEq] at h
    exact ⟨x, rfl, by rw [← h]; rfl⟩
  | x :: xs, k, i + 1, v, h => by
    simp only [enumL, List.getElem?_cons_succ] at h
    obtain ⟨w, e1, e2⟩ := enumL_at h
    exact ⟨w, e1, by rw [e2, show k + 1 + i = k + (i + 1) by omega]⟩
theorem enumL_len : ∀ (xs : List Val) (k : Nat), (enumL k xs).length = xs.length
  | [], k => rfl
  | x :: xs, k => by simp only [enumL, List.length_cons, enumL_len xs (k + 1)]
theorem items_enum {vs items : List Val} (h : itemsOf .enum vs = some items) : ∃ t ws, vs = [.node t ws] ∧ items = enumL 0 (freezes ws) ∧ (t = .rol ∨ ∃ z, t = .lst z) := by
  rcases vs with _ | ⟨v, _ | ⟨w, r⟩⟩
  · simp [itemsOf] at h
  · cases v with
    | node t ws =>
      cases t <;> simp only [itemsOf, Option.some.injEq, reduceCtorEq] at h
      · exact ⟨_, _, rfl, h.symm, .inl rfl⟩
      · exact ⟨_, _, rfl, h.symm, .inr ⟨_, rfl⟩⟩
    | _ => simp [itemsOf] at h
  · cases v with
    | node t ws => cases t <;> simp [itemsOf] at h
    | _ => simp [itemsOf] at h
theorem ti_enum {e : Bool} {s : Env → Res (List (Val × Src))} {a : Expr} {p pos tpos : Pos} {elts : List Expr} {kk : Nat} (hg : Gl X "enumerate") (hm : X.mg "enumerate" = none) (ha : PA X [a] (tVs X.K Cl ClX W e s)) (hs : starEach [a] X.env = [(false, eval a X.env)]) :
    PI X (.Tuple elts kk tpos) (.Call (.Name "enumerate" p) [a] [] pos) (tI X.K Cl ClX W .enum s) := PI.le (pi_enum hg hm ha hs) fun σ H R h => ti_args h fun as P H f ρ1 P1 H1 f1 F Vs items o1 ht rs d sb hi q => by
  obtain ⟨t, ws, ej, rfl, hk⟩ := items_enum hi
  rw [ej] at rs
  obtain ⟨Y, rfl, r⟩ := rs.one_inv
  obtain ⟨o2, a, Ws, x, rfl, hh, hx, rf⟩ := iter_frz o1 r d sb
  refine ⟨a, Ws, rfl, sqL_keep hk hh fun _ _ e _ => e, q _ _ o2 fun Pi Hi t lvi => ?_⟩
  have pd : dis (uni P1 F) f1 := fun b z y => (o2.re.live b y).2 z
  have hq : SqL X.K Hi a Ws := sqL_keep hk hh fun b o e xb => t.keep b o e fun y => pd b (hx b xb) y
  have rfi : Rs X.K Cl Pi Hi (freezes ws) Ws emp := rf.tr t (emp_dis _) pd
  refine ⟨fun i v e => ?_, ⟨Ws, hq, by rw [enumL_len, rfi.length]; exact Nat.le_refl _⟩⟩
  obtain ⟨w, e1, rfl⟩ := enumL_at e
  obtain ⟨U, eU, rU⟩ := rs_item rfi e1
  refine ⟨⟨Ws, U, hq, eU⟩, fun y H' ⟨T, z, hy, hT, hH, hz⟩ => ?_⟩
  have := hz Ws hq
  rw [eU] at this
  cases this
  subst hy hH
  refine ⟨uni Pi (one T), tr_updP hT, ⟨T, _, one T, emp, rfl, ⟨upd_same, rfl⟩, ⟨_, _, emp, emp, rfl, ⟨by rw [Nat.zero_add], rfl⟩, ⟨U, [], emp, emp, rfl, rU.tr (tr_updP hT) (dis_emp _) (dis_emp _), ⟨rfl, rfl⟩, dis_emp _, (uni_emp _).symm⟩, dis_emp _, (uni_emp _).symm⟩, ?_⟩, fun b z => ?_⟩
  · rw [if_neg (by simp [Tag.own])]
    exact ⟨rfl, fun b z => .inr z⟩
  · rcases z with z | z
    · exact lv_upd lvi b z
    · rw [show b = T from z, upd_same]; simp
theorem rangeS_rs (P : Ps) (H : Hp) (c : Int) : ∀ (n : Nat) (lo : Int), ∃ Ws, Rs K Cl P H (rangeS lo c n) Ws emp ∧ Ws.length = n ∧ ∀ i, i < n → Ws[i]? = some (.int (lo + (i : Nat) * c))
  | 0, lo => ⟨[], ⟨rfl, rfl⟩, rfl, fun i hi => absurd hi (by omega)⟩
  | n + 1, lo => by
    obtain ⟨Ws, h, l, g⟩ := rangeS_rs P H c n (lo + c)
    refine ⟨.int lo :: Ws, ⟨.int lo, Ws, emp, emp, rfl, ⟨rfl, rfl⟩, h, dis_emp _, (uni_emp _).symm⟩, by simp [l], fun i hi => ?_⟩
    cases i with
    | zero => simp
    | succ i =>
      rw [List.getElem?_cons_succ, g i (by omega)]
      congr 2
      have : ((i + 1 : Nat) : Int) * c = (i : Int) * c + c := by rw [Int.natCast_add, Int.add_mul]; simp
      omega
theorem walk_c {lo c : Int} {n : Nat} {Ws : List V} (l : Ws.length = n) (g : ∀ i, i < n → Ws[i]? = some (.int (lo + (i : Nat) * c))) : Walkd (Itc lo c n) Ws H :=
  ⟨fun i hi => ⟨show i < n by omega, fun x H' y => ⟨y.1, by rw [g i (by omega), y.2]⟩⟩, by show n ≤ Ws.length; omega⟩
theorem items_r3 {vs items : List Val} (h : itemsOf .range3 vs = some items) : ∃ i j c, vs = [.int i, .int j, .int c] ∧ (0 < c ∧ c < 1073741824) ∧ Builtin.Range.small i j c = true ∧ items = rangeS i c (Builtin.Range.rangeSize i j c).toNat := by
  rcases vs with _ | ⟨v, _ | ⟨w, _ | ⟨u, _ | ⟨z, r⟩⟩⟩⟩
  · simp [itemsOf] at h
  · cases v <;> simp [itemsOf] at h
  · cases v <;> cases w <;> simp [itemsOf] at h
  case cons.cons.cons.cons => cases v <;> cases w <;> cases u <;> simp [itemsOf] at h
  cases v <;> first | (simp [itemsOf] at h; done) | skip
  cases w <;> first | (simp [itemsOf] at h; done) | skip
  cases u <;> first | (simp [itemsOf] at h; done) | skip
  rename_i i j c
  simp only [itemsOf] at h
  by_cases hc : (decide (0 < c ∧ c < 1073741824) && Builtin.Range.small i j c) = true
  · rw [if_pos hc] at h
    cases h
    simp only [Bool.and_eq_true] at hc
    exact ⟨i, j, c, rfl, of_decide_eq_true hc.1, hc.2, rfl⟩
  · rw [if_neg hc] at h; cases h
theorem ti_range3 {e : Bool} {s : Env → Res (List (Val × Src))} {tg a b c : Expr} {p pos : Pos} (hg : Gl X "range") (hm : X.mg "range" = none) (ha : PA X [a, b, c] (tVs X.K Cl ClX W e s)) (hs : starEach [a, b, c] X.env = (false, eval a X.env) :: starEach [b, c] X.env) (hpl : (backTo pos (starEach [b, c] X.env)).any (·.1) = false) :
    PI X tg (.Call (.Name "range" p) [a, b, c] [] pos) (tI X.K Cl ClX W .range3 s) := PI.le (pi_range3 hg hm ha hs hpl) fun σ H R h => ti_args h fun as P H f ρ1 P1 H1 f1 F Vs items o1 ht rs d sb hi q => by
  obtain ⟨i, j, c, ej, hc, hsm, rfl⟩ := items_r3 hi
  rw [ej] at rs
  simp only [Rs] at rs
  obtain ⟨Y, Vs', f1', f2', rfl, r, ⟨Z, Vs'', f3', f4', rfl, r2, ⟨Z3, Vs3, f5', f6', rfl, r3, ⟨rfl, rfl⟩, _⟩, _⟩, _⟩ := rs
  simp only [VS.R] at r r2 r3
  obtain ⟨Ws, rw', l, g⟩ := rangeS_rs (K := X.K) (Cl := Cl) P1 H1 c (Builtin.Range.rangeSize i j c).toNat i
  rw [r.1, r2.1, r3.1]
  have hn : 0 ≤ Builtin.Range.rangeSize i j c := by
    unfold Builtin.Range.rangeSize
    rw [if_pos (show c > 0 from hc.1)]
    by_cases hij : i < j
    · rw [if_pos hij]
      have := Int.ediv_nonneg (a := j - i - 1) (b := c) (by omega) (by omega)
      omega
    · rw [if_neg hij]; exact Int.le_refl _
  exact ⟨i, j, c, _, rfl, ⟨by omega, by omega, hsm, (Int.toNat_of_nonneg hn).symm⟩, wk_old1 q (o1.up' true fun _ => rfl) rw' fun H' _ => walk_c l g⟩
end
end VS

namespace VS
open PySem L2
section
variable {K : PySem.W.Frag} {Cl ClX : Nat → Addr} {X : Cx} {W : WX} {P P' : Ps} {H H' : Hp} {σ : L2.St}
/-! ### targets -/
def GOk (K : PySem.W.Frag) (Cl : Nat → Addr) (g : TG) (tg : Tg) : Prop := ∀ {P : Ps} {H : Hp} {ρ : Env} {σ : L2.St} {f : Ps} {v : Val} {U : V} {ρ' : Env} {Q : L2.St → Hp → Prop}, RE K Cl P H ρ σ f → R K Cl P H v U emp → bindTg tg v ρ = some ρ' →
  (∀ σ' f', RE K Cl P H ρ' σ' f' → (∀ b, f' b → f b) → σ'.length = σ.length → (∀ j, j ∉ tg.slots → σ'[j]? = σ[j]?) → Q σ' H) → g U σ H Q
theorem go_name (i : Nat) : GOk K Cl (gName i) (.name i) := by
  intro P H ρ σ f v U ρ' Q l r h k
  simp only [bindTg] at h
  by_cases hi : i < ρ.length
  · rw [if_pos hi] at h
    cases h
    obtain ⟨f', l', s⟩ := l.set hi r (emp_dis _)
    refine k _ f' l' (fun b z => (s b z).elim id fun z => z.elim) (by simp) fun j hj => ?_
    rw [List.getElem?_set_ne]
    intro e
    subst e
    exact hj (by simp [Tg.slots])
  · rw [if_neg hi] at h; cases h
def gNames : List Nat → TGs
  | [] => gNil
  | i :: is => gCons (gName i) (gNames is)
theorem go_names : ∀ {is : List Nat} {P : Ps} {H : Hp} {ρ : Env} {σ : L2.St} {f : Ps} {vs : List Val} {Us : List V} {ρ' : Env} {Q : L2.St → Hp → Prop}, RE K Cl P H ρ σ f → Rs K Cl P H vs Us emp → setAll is vs ρ = some ρ' →
    (∀ σ' f', RE K Cl P H ρ' σ' f' → (∀ b, f' b → f b) → σ'.length = σ.length → (∀ j, j ∉ is → σ'[j]? = σ[j]?) → Q σ' H) → gNames is Us σ H Q
  | [], P, H, ρ, σ, f, vs, Us, ρ', Q, l, r, h, k => by
    cases vs with
    | nil =>
      simp only [setAll, Option.some.injEq] at h
      subst h
      exact ⟨r.1, k σ f l (fun _ z => z) rfl fun _ _ => rfl⟩
    | cons v vs => simp [setAll] at h
  | i :: is, P, H, ρ, σ, f, vs, Us, ρ', Q, l, r, h, k => by
    cases vs with
    | nil => simp [setAll] at h
    | cons v vs =>
      simp only [Rs] at r
      obtain ⟨U, Us', f1, f2, rfl, r1, r2, _, e⟩ := r
      have e1 : f1 = emp := eq_emp fun b z => (show emp b from by rw [e]; exact .inl z)
      have e2 : f2 = emp := eq_emp fun b z => (show emp b from by rw [e]; exact .inr z)
      subst e1 e2
      simp only [setAll] at h
      by_cases hi : i < ρ.length
      · rw [if_pos hi] at h
        obtain ⟨f', l', s⟩ := l.set hi r1 (emp_dis _)
        refine ⟨U, Us', rfl, go_names l' r2 h fun σ' f'' l'' s'' hl hj => k σ' f'' l'' (fun b z => (s b (s'' b z)).elim id fun z => z.elim) (by rw [hl]; simp) fun j nj => ?_⟩
        simp only [List.mem_cons, not_or] at nj
        rw [hj j nj.2, List.getElem?_set_ne (Ne.symm nj.1)]
      · rw [if_neg hi] at h; cases h
theorem go_tup (is : List Nat) : GOk K Cl (gTup K is.length (gNames is)) (.tup is) := by
  intro P H ρ σ f v U ρ' Q l r h k
  cases v with
  | node t vs =>
    cases t with
    | tup =>
      obtain ⟨a, Ws, g, rfl, hh, rs, sub⟩ := r.tseq
      have eg : g = emp := eq_emp fun b z => sub b z
      subst eg
      have hlen : Ws.length = is.length := by
        rw [← rs.length]
        have : ∀ {is : List Nat} {vs : List Val} {ρ ρ' : Env}, setAll is vs ρ = some ρ' → vs.length = is.length := fun {is} => by
          induction is with
          | nil => intro vs ρ ρ' h; cases vs with
            | nil => rfl
            | cons v vs => simp [setAll] at h
          | cons i is ih => intro vs ρ ρ' h; cases vs with
            | nil => simp [setAll] at h
            | cons v vs =>
              simp only [setAll] at h
              split at h
              · simp [ih h]
              · cases h
        exact this h
      exact ⟨a, Ws, rfl, hh, hlen, go_names l rs h k⟩
    | _ => simp [bindTg] at h
  | _ => simp [bindTg] at h
/-! ### a comprehension's own names -/
theorem wipe_get : ∀ {vs : List Nat} {σ : L2.St} {j : Nat}, (wipe σ vs)[j]? = if j ∈ vs ∧ j < σ.length then some none else σ[j]?
  | [], σ, j => by simp [wipe]
  | v :: vs, σ, j => by
    simp only [wipe]
    by_cases e : v = j
    · subst e
      by_cases hl : v < σ.length
      · rw [List.getElem?_set_self (by rw [wipe_length]; exact hl), if_pos ⟨List.mem_cons_self, hl⟩]
      · rw [List.getElem?_eq_none (by simp [wipe_length]; omega), if_neg (fun z => hl z.2), List.getElem?_eq_none (by omega)]
    · rw [List.getElem?_set_ne e, wipe_get]
      simp only [List.mem_cons, Ne.symm e, false_or]
theorem wipe_eq {vs : List Nat} {σ σ' : L2.St} (hl : σ'.length = σ.length) (h : ∀ j, j ∉ vs → σ'[j]? = σ[j]?) : wipe σ' vs = wipe σ vs := by
  refine List.ext_getElem? fun j => ?_
  rw [wipe_get, wipe_get, hl]
  by_cases hj : j ∈ vs
  · by_cases hl' : j < σ.length
    · rw [if_pos ⟨hj, hl'⟩, if_pos ⟨hj, hl'⟩]
    · rw [if_neg (fun z => hl' z.2), if_neg (fun z => hl' z.2), List.getElem?_eq_none (by omega), List.getElem?_eq_none (by omega)]
  · rw [if_neg (fun z => hj z.1), if_neg (fun z => hj z.1), h j hj]
theorem wipe_wipe (σ : L2.St) (vs : List Nat) : wipe (wipe σ vs) vs = wipe σ vs := wipe_eq (wipe_length _ _) fun j hj => by rw [wipe_get, if_neg (fun z => hj z.1)]
theorem RE.wipe : ∀ {vs : List Nat} {ρ : Env} {σ : L2.St} {f : Ps}, RE K Cl P H ρ σ f → ∃ f', RE K Cl P H (wipeE ρ vs) (L2.wipe σ vs) f' ∧ ∀ b, f' b → f b
  | [], _, _, f, l => ⟨f, l, fun _ z => z⟩
  | v :: vs, _, _, f, l => by
    obtain ⟨f', l', s⟩ := RE.wipe (vs := vs) l
    obtain ⟨g, s2, t⟩ := l'.drop (i := v)
    exact ⟨g, t none, fun b z => s b (s2 b z)⟩
theorem RE.any : ∀ {ρ : Env} {σ σ' : L2.St} {f : Ps}, RE K Cl P H ρ σ f → σ'.length = σ.length → (∀ j : Nat, ρ[j]? ≠ some none → σ'[j]? = σ[j]?) → RE K Cl P H ρ σ' f
  | [], [], σ', f, h, hl, _ => by
    have : σ' = [] := List.eq_nil_of_length_eq_zero (by simpa using hl)
    subst this
    exact h
  | [], _ :: _, _, _, h, _, _ => h.elim
  | none :: ρ, [], _, f, h, _, _ => by simp only [RE] at h
  | some v :: ρ, [], _, f, h, _, _ => by simp only [RE] at h
  | none :: ρ, x :: σ, σ', f, h, hl, k => by
    cases σ' with
    | nil => simp at hl
    | cons y σ' =>
      simp only [RE] at h ⊢
      exact h.any (by simpa using hl) fun j hj => by simpa using k (j + 1) (by simpa using hj)
  | some v :: ρ, x :: σ, σ', f, h, hl, k => by
    cases σ' with
    | nil => simp at hl
    | cons y σ' =>
      simp only [RE] at h ⊢
      obtain ⟨W, f1, f2, rfl, h1, h2, hd, rfl⟩ := h
      have := k 0 (by simp)
      simp at this
      subst this
      exact ⟨W, f1, f2, rfl, h1, h2.any (by simpa using hl) (fun j hj => by simpa using k (j + 1) (by simpa using hj)), hd, rfl⟩
theorem wipeE_get : ∀ {vs : List Nat} {ρ : Env} {j : Nat}, j ∈ vs → (wipeE ρ vs)[j]? = some none ∨ (wipeE ρ vs)[j]? = none
  | v :: vs, ρ, j, h => by
    simp only [wipeE]
    by_cases e : v = j
    · subst e
      by_cases hl : v < (wipeE ρ vs).length
      · exact .inl (List.getElem?_set_self hl)
      · exact .inr (List.getElem?_eq_none (by simpa using hl))
    · rw [List.getElem?_set_ne e]
      exact wipeE_get (by
        cases h with
        | head => exact absurd rfl e
        | tail _ h => exact h)
theorem RE.back {ρ0 : Env} {P0 : Ps} {H0 : Hp} {f0 w : Ps} (l0 : RE K Cl P0 H0 ρ0 σ f0) (t : Tr P0 H0 w P H) (pw : dis P0 w) : ∀ {vs : List Nat} {ρ : Env} {f : Ps}, RE K Cl P H ρ σ f → ∃ f', RE K Cl P H (backE ρ0 ρ vs) σ f' ∧ ∀ b, f' b → f b
  | [], ρ, f, l => ⟨f, l, fun _ z => z⟩
  | v :: vs, ρ, f, l => by
    obtain ⟨f', l', s⟩ := RE.back l0 t pw (vs := vs) l
    simp only [backE]
    cases e : ρ0[v]? with
    | none => exact ⟨f', l', s⟩
    | some o =>
      cases o with
      | none => exact ⟨f', l', s⟩
      | some x =>
        dsimp only
        by_cases hp : x.pure = true
        · rw [if_pos hp]
          obtain ⟨U, f1, g, e1, r, d, rfl, _⟩ := l0.pick e
          have := r.pure_emp hp
          subst this
          have hv : v < (backE ρ0 ρ vs).length := by
            rw [l'.length]
            exact (List.getElem?_eq_some_iff.mp e1).1
          obtain ⟨f2, l2, s2⟩ := l'.set hv (r.tr t (emp_dis _) pw) (emp_dis _)
          rw [set_self e1] at l2
          exact ⟨f2, l2, fun b z => (s2 b z).elim (s b) fun z => z.elim⟩
        · rw [if_neg hp]; exact ⟨f', l', s⟩
/-! ### tests -/
def tVB (K : PySem.W.Frag) (Cl ClX : Nat → Addr) (W : WX) (e : Bool) (s : Env → Res Bool) : TT := fun σ H Q => ∃ P ρ f, RE K Cl P H ρ σ f ∧ Lv P H ∧ WT K Cl ClX W P H f σ e Q (s ρ)
theorem PTs.le {es : List Expr} {t t' : TT} (h : PTs X es t) (i : ∀ σ H Q, t' σ H Q → t σ H Q) : PTs X es t' := ⟨fun pins s σ H Q I q => h.run pins s σ H Q I (i _ _ _ q)⟩
theorem tb_nil : PTs X [] (tVB K Cl ClX W false fun ρ => .ok true ρ) := PTs.le pts_nil fun σ H Q ⟨P, ρ, f, l, lv, q⟩ => q P H f (Out.refl l lv)
theorem tb_one {e : Bool} {s : Env → Res (Val × Src)} {c : Expr} (h : PT X c (tVT K Cl ClX W e s)) : PTs X [c] (tVB K Cl ClX W e fun ρ => (s ρ).test) := PTs.le (pts_one h) fun σ H Q q => tvt_iff.mpr q
theorem compR_ok {hd : Env → Bool} {bind : Val → Env → Option Env} {vs : List Nat} {test : Env → Res Bool} {elt : Env → Res (Val × Src)} : ∀ {xs : List Val} {ρ : Env} {acc : List Val} {x : Xc} {ρ' : Env}, compRH hd bind vs test elt xs ρ acc ≠ .exc x ρ'
  | [], ρ, acc, x, ρ', h => by
    simp only [compRH] at h
    split at h <;> cases h
  | v :: xs, ρ, acc, x, ρ', h => by
    simp only [compRH] at h
    split at h
    · split at h
      · cases h
      · split at h
        · split at h
          · split at h
            · exact compR_ok h
            · cases h
          · cases h
        · exact compR_ok h
        · cases h
    · cases h
end
end VS

namespace VS
open PySem L2
section
variable {K : PySem.W.Frag} {Cl ClX : Nat → Addr} {X : Cx} {W : WX}
def W0 : WX := fun _ _ _ _ => False
/-- the state between two turns of a comprehension -/
structure CInv (P1 : Ps) (H1 : Hp) (f1 : Ps) (σw : L2.St) (D : Addr) (ρ : Env) (acc : List Val) (Hh : Hp) : Prop where
  ex : ∃ Pi fi Av ga, Tr P1 H1 f1 Pi Hh ∧ RE K Cl Pi Hh ρ σw fi ∧ Sub H1 fi f1 ∧ Lv Pi Hh ∧ Hh D = some (.lst Av) ∧ Rs K Cl Pi Hh acc Av ga ∧ dis ga fi ∧ ¬ ga D ∧ ¬ fi D ∧ ¬ Pi D ∧ Sub H1 ga f1
theorem comp_main {hd : Env → Bool} {tg : Tg} {items : List Val} {test : Env → Res Bool} {elt : Env → Res (Val × Src)} {et ee : Bool} {g : TG} {tt : TT} {te : TE} (gok : GOk K Cl g tg)
    (htt : ∀ σ H Q, tVB K Cl ClX W0 et test σ H Q → tt σ H Q) (hte : ∀ σ H Q, tV K Cl ClX W0 ee elt σ H Q → te σ H Q) {σ : L2.St} {H : Hp} {P f : Ps} {ρ1 : Env} {Q : VK}
    (q : match ((compRH hd (bindTg tg) tg.slots test elt items (wipeE ρ1 tg.slots) []).bind fun vs ρ2 => .ok (.node (.lst false) vs, .tmp) (backE ρ1 ρ2 tg.slots) : Res (Val × Src)) with
      | .ok (v, sr) ρ' => ∀ V H', Out1 K Cl P H f true ρ' σ v sr V H' → Q V H'
      | .exc x ρ' => ∀ c d H', OutX K Cl ClX P H f true ρ' σ x c d H' → W c d σ H'
      | .bad => False) {J : It} {H1 : Hp} {P1 f1 : Ps} (o1 : Out K Cl P H f true ρ1 σ P1 H1 f1)
    (wk : ∀ Pi Hi ρi fi, Tr P1 H1 f1 Pi Hi → Lv Pi Hi → RE K Cl Pi Hi ρi (wipe σ tg.slots) fi → hd ρi = true → Wk K Cl J items Pi Hi) (D : Addr) (hD : H1 D = none) :
    ∃ W : Nat → Nat → Hp → Prop, (∃ m, W 0 m (upd H1 D (.lst []))) ∧ ∀ i m H, W i m H →
  (J.stop i H ∧ Q (.ref D) H) ∨ (J.go i H ∧ ∃ Nx : Hp → Prop, (∀ H', Nx H' → ∃ m', m' < m ∧ W (i + 1) m' H') ∧ ∀ x H', J.yld i H x H' → g x (wipe σ tg.slots) H' fun σ2 H2 => wipe σ2 tg.slots = wipe σ tg.slots ∧ tt σ2 H2 fun b H3 =>
    if b = true then te σ2 H3 fun y H4 => ∃ acc, H4 D = some (.lst acc) ∧ acc.length < sizeLine ∧ Nx (upd H4 D (.lst (acc ++ [y]))) else Nx H3) := by
  cases hr : compRH hd (bindTg tg) tg.slots test elt items (wipeE ρ1 tg.slots) [] with
  | bad => rw [hr] at q; exact q.elim
  | exc x ρ2 => exact absurd hr compR_ok
  | ok vsF ρF =>
    rw [hr] at q
    simp only [Res.bind_ok] at q
    have pd1 : dis P1 f1 := lv_dis o1.re
    obtain ⟨fw, lw, sw⟩ := o1.re.wipe (vs := tg.slots)
    have nD : ¬ P1 D := fun z => o1.lv D z hD
    have nfD : ¬ f1 D := fun z => (o1.re.live D z).1 hD
    -- the invariant
    let Iv : Nat → Hp → Prop := fun i Hh => ∃ ρi acc, compRH hd (bindTg tg) tg.slots test elt (items.drop i) ρi acc = .ok vsF ρF ∧ (∃ ρ0, ρi = wipeE ρ0 tg.slots) ∧ CInv (K := K) (Cl := Cl) P1 H1 f1 (wipe σ tg.slots) D ρi acc Hh
    refine ⟨fun i m Hh => m = items.length - i ∧ i ≤ items.length ∧ Iv i Hh, ⟨items.length, rfl, Nat.zero_le _, ?_⟩, ?_⟩
    · refine ⟨wipeE ρ1 tg.slots, [], by rw [List.drop_zero]; exact hr, ⟨ρ1, rfl⟩, ⟨P1, fw, [], emp, ?_, ?_, fun b z => .inl (sw b z), lv_upd o1.lv, upd_same, ⟨rfl, rfl⟩, emp_dis _, fun z => z.elim, fun z => nfD (sw D z), nD, fun _ z => z.elim⟩⟩
      · exact (tr_upd hD).weak fun b z => z.elim
      · exact lw.tr (tr_upd hD) (dis_emp _) (dis_emp _)
    · rintro i m Hh ⟨rfl, hil, ρi, acc, hc, ⟨ρ0, e0⟩, ⟨Pi, fi, Av, ga, ti, li, si, lvi, hDi, ra, dga, ngD, nfiD, nPiD, sga⟩⟩
      have hhd : hd ρi = true := by
        cases z : hd ρi with
        | true => rfl
        | false => cases y : items.drop i <;> rw [y] at hc <;> simp [compRH, z] at hc
      have wkh := wk Pi Hh ρi fi ti lvi li hhd
      by_cases hlt : i < items.length
      · right
        obtain ⟨go, yl⟩ := wkh.1 i items[i] (by simp [hlt])
        refine ⟨go, Iv (i + 1), fun H' z => ⟨items.length - (i + 1), by omega, rfl, hlt, z⟩, fun x H' y => ?_⟩
        obtain ⟨Pj, tri, rU, lvj⟩ := yl x H' y
        have tj := ti.trans tri fun b z => z.elim
        have lj := li.tr tri (dis_emp _) (dis_emp _)
        have hDj := tri.keep D _ hDi fun z => z
        have raj := ra.tr tri (dis_emp _) (dis_emp _)
        have nPjD : ¬ Pj D := fun z => (tri.pn D z).elim nPiD fun z => z.elim (fun z => z.elim) fun z => by rw [hDi] at z; cases z
        have ed : items.drop i = items[i] :: items.drop (i + 1) := List.drop_eq_getElem_cons hlt
        rw [ed] at hc
        simp only [compRH] at hc
        rw [if_pos hhd] at hc
        cases hb : bindTg tg items[i] ρi with
        | none => rw [hb] at hc; cases hc
        | some ρ1' =>
          rw [hb] at hc
          dsimp only at hc
          refine gok lj rU hb fun σ' f' l' s' hl hj => ⟨?_, ?_⟩
          · exact (wipe_eq hl hj).trans (wipe_wipe _ _)
          have ew : wipe σ' tg.slots = wipe σ tg.slots := (wipe_eq hl hj).trans (wipe_wipe _ _)
          refine htt _ _ _ ⟨Pj, ρ1', f', l', lvj, ?_⟩
          cases hT : test ρ1' with
          | bad => rw [hT] at hc; cases hc
          | exc x ρ2 => rw [hT] at hc; cases hc
          | ok c ρ2 =>
            rw [hT] at hc
            intro P2 H2 f2 o2
            have pdi : dis Pj (wr et f') := wr_dis l' et
            have nw2 : ∀ b, wr et f' b → fi b := fun b z => s' b (wr_sub _ _ b z)
            have t2 : Tr P1 H1 f1 P2 H2 := tj.trans o2.tr fun b z => si b (nw2 b z)
            have hD2 : H2 D = some (.lst Av) := o2.tr.keep D _ hDj fun z => nfiD (nw2 D z)
            have ra2 : Rs K Cl P2 H2 acc Av ga := raj.tr o2.tr (fun b z y => dga b z (nw2 b y)) pdi
            have s2 : Sub H1 f2 f1 := fun b z => by
              rcases o2.sub b z with z | z
              · exact si b (s' b z)
              · by_cases hw : f1 b
                · exact .inl hw
                · refine .inr ?_
                  cases y : H1 b with
                  | none => rfl
                  | some o => have := tj.keep b o y hw; rw [z] at this; cases this
            have dg2 : dis ga f2 := fun b z y => by
              rcases o2.sub b y with y | y
              · exact dga b z (s' b y)
              · exact (raj.live b z).1 y
            have nf2 : ¬ f2 D := fun z => by
              rcases o2.sub D z with z | z
              · exact nfiD (s' D z)
              · rw [hDj] at z; cases z
            have nP2 : ¬ P2 D := fun z => by
              rcases o2.tr.pn D z with z | z | z
              · exact nPjD z
              · exact nfiD (nw2 D z)
              · rw [hDj] at z; cases z
            cases c with
            | false =>
              dsimp only at hc
              rw [if_neg (by simp)]
              obtain ⟨f3, l3, s3⟩ := o2.re.wipe (vs := tg.slots)
              rw [ew] at l3
              exact ⟨wipeE ρ2 tg.slots, acc, hc, ⟨ρ2, rfl⟩, ⟨P2, f3, Av, ga, t2, l3, fun b z => s2 b (s3 b z), o2.lv, hD2, ra2, fun b z y => dg2 b z (s3 b y), ngD, fun z => nf2 (s3 D z), nP2, sga⟩⟩
            | true =>
              dsimp only at hc
              rw [if_pos rfl]
              refine hte _ _ _ ⟨P2, ρ2, f2, o2.re, o2.lv, ?_⟩
              cases hE : elt ρ2 with
              | bad => rw [hE] at hc; cases hc
              | exc x ρ3 => rw [hE] at hc; cases hc
              | ok a ρ3 =>
                obtain ⟨v, sr⟩ := a
                rw [hE] at hc
                cases sr with
                | brw => cases hc
                | plc j p => cases hc
                | tmp =>
                  dsimp only at hc
                  by_cases hz : decide (acc.length < 16777216) = true
                  case neg => rw [if_neg hz] at hc; cases hc
                  rw [if_pos hz] at hc
                  intro Y H3 ⟨P3, f3, fv, o3, rY, dv, sv⟩
                  have dv : dis fv f3 := dv
                  have pd2 : dis P2 (wr ee f2) := wr_dis o2.re ee
                  have hD3 : H3 D = some (.lst Av) := o3.tr.keep D _ hD2 fun z => nf2 (wr_sub _ _ D z)
                  have ra3 : Rs K Cl P3 H3 acc Av ga := ra2.tr o3.tr (fun b z y => dg2 b z (wr_sub _ _ b y)) pd2
                  have nvD : ¬ fv D := fun z => by
                    rcases sv D z with z | z
                    · exact nf2 z
                    · rw [hD2] at z; cases z
                  have dgv : dis ga fv := fun b z y => by
                    rcases sv b y with y | y
                    · exact dg2 b z y
                    · exact (ra2.live b z).1 y
                  have nP3 : ¬ P3 D := fun z => by
                    rcases o3.tr.pn D z with z | z | z
                    · exact nP2 z
                    · exact nf2 (wr_sub _ _ D z)
                    · rw [hD2] at z; cases z
                  have t3 : Tr P1 H1 f1 P3 H3 := t2.trans o3.tr fun b z => s2 b (wr_sub _ _ b z)
                  have keepN : ∀ b, H2 b = none → f1 b ∨ H1 b = none := fun b z => by
                    by_cases hw : f1 b
                    · exact .inl hw
                    · refine .inr ?_
                      cases y : H1 b with
                      | none => rfl
                      | some o => have := t2.keep b o y hw; rw [z] at this; cases this
                  refine ⟨Av, hD3, ?_, ?_⟩
                  · rw [← raj.length, sizeLine_eq]
                    exact of_decide_eq_true hz
                  · obtain ⟨f4, l4, s4⟩ := o3.re.wipe (vs := tg.slots)
                    rw [ew] at l4
                    have nf4 : ¬ f4 D := fun z => by
                      rcases o3.sub D (s4 D z) with z | z
                      · exact nf2 z
                      · rw [hD2] at z; cases z
                    have rn : Rs K Cl P3 H3 (acc ++ [v]) (Av ++ [Y]) (uni ga fv) := by
                      have r1 : Rs K Cl P3 H3 [v] [Y] fv := ⟨Y, [], fv, emp, rfl, rY, ⟨rfl, rfl⟩, dis_emp _, (uni_emp _).symm⟩
                      exact ra3.app r1 dgv
                    have nuD : ¬ (uni ga fv) D := fun z => z.elim ngD nvD
                    have tu : Tr P3 H3 (one D) P3 (upd H3 D (.lst (Av ++ [Y]))) := ⟨fun b o e n => by rw [upd_ne n]; exact e, fun _ z => z, fun _ z => .inl z⟩
                    have hb3 : ∀ b, fv b → f1 b ∨ H1 b = none := fun b z => (sv b z).elim (s2 b) (keepN b)
                    refine ⟨wipeE ρ3 tg.slots, acc ++ [v], hc, ⟨ρ3, rfl⟩, ⟨P3, f4, Av ++ [Y], uni ga fv, ?_, ?_, ?_, lv_upd o3.lv, upd_same, ?_, ?_, nuD, nf4, nP3, ?_⟩⟩
                    · exact t3.trans tu fun b z => by rw [show b = D from z]; exact .inr hD
                    · exact l4.tr tu (fun b z y => nf4 (by rw [← show b = D from y]; exact z)) (fun b z y => nP3 (by rw [← show b = D from y]; exact z))
                    · exact fun b z => (o3.sub b (s4 b z)).elim (s2 b) (keepN b)
                    · exact rn.tr tu (fun b z y => nuD (by rw [← show b = D from y]; exact z)) (fun b z y => nP3 (by rw [← show b = D from y]; exact z))
                    · intro b z y
                      rcases z with z | z
                      · rcases o3.sub b (s4 b y) with y | y
                        · exact dg2 b z y
                        · exact (ra2.live b z).1 y
                      · exact dv b z (s4 b y)
                    · exact fun b z => z.elim (sga b) (hb3 b)
      · left
        have hie : i = items.length := by omega
        subst hie
        refine ⟨wkh.2, ?_⟩
        rw [List.drop_length] at hc
        simp only [compRH] at hc
        rw [if_pos hhd, Res.ok.injEq] at hc
        obtain ⟨rfl, rfl⟩ := hc
        -- the names as they were
        have lany : RE K Cl Pi Hh ρi σ fi := li.any (by rw [wipe_length]) fun j hj => by
          rw [wipe_get]
          by_cases hm : j ∈ tg.slots ∧ j < σ.length
          · exfalso
            rw [e0] at hj
            rcases wipeE_get (ρ := ρ0) hm.1 with z | z
            · exact hj z
            · have hlen := li.length
              rw [wipe_length, e0] at hlen
              have h2 := List.getElem?_eq_none_iff.mp z
              omega
          · rw [if_neg hm]
        obtain ⟨fb, lb, sb⟩ := RE.back o1.re ti pd1 (vs := tg.slots) lany
        refine q (.ref D) Hh ⟨Pi, fb, uni (one D) ga, ⟨(o1.tr).trans ti o1.sub, lb, fun b z => ?_, fun z => (by cases z), lvi⟩, ?_, ?_, ?_⟩
        · exact (o1.sub.trans si o1.tr fun _ z => z) b (sb b z)
        · refine ⟨D, Av, one D, ga, rfl, ⟨hDi, rfl⟩, ra, ?_⟩
          rw [if_pos (show (Tag.lst false).own = true from rfl)]
          exact ⟨rfl, fun b z y => ngD (by rw [← show b = D from z]; exact y), fun b z => by rw [show b = D from z]; exact nPiD⟩
        · intro b z y
          rcases z with z | z
          · exact nfiD (by rw [← show b = D from z]; exact sb b y)
          · exact dga b z (sb b y)
        · intro b z
          rcases z with z | z
          · rw [show b = D from z]
            by_cases hw : f D
            · exact .inl hw
            · refine .inr ?_
              cases y : H D with
              | none => rfl
              | some o => have := o1.tr.keep D o y hw; rw [hD] at this; cases this
          · exact (o1.sub.trans sga o1.tr fun _ z => z) b z
theorem comp_core {k : ItK} {tg : Tg} {its : Env → Res (List (Val × Src))} {test : Env → Res Bool} {elt : Env → Res (Val × Src)} {et ee : Bool} {g : TG} {wi : TI} {tt : TT} {te : TE} (gok : GOk K Cl g tg) (hwi : ∀ σ H R, tI K Cl ClX W k its σ H R → wi σ H R)
    (htt : ∀ σ H Q, tVB K Cl ClX W0 et test σ H Q → tt σ H Q) (hte : ∀ σ H Q, tV K Cl ClX W0 ee elt σ H Q → te σ H Q) {σ : L2.St} {H : Hp} {Q : VK}
    (h : tV K Cl ClX W true (fun ρ => (its ρ).bind fun as ρ1 => if allTmp as = true then (match itemsOf k (as.map (·.1)) with
      | some xs => (compR (bindTg tg) tg.slots test elt xs (wipeE ρ1 tg.slots) []).bind fun vs ρ2 => .ok (.node (.lst false) vs, .tmp) (backE ρ1 ρ2 tg.slots)
      | none => .bad) else .bad) σ H Q) : tLc wi g tt te tg.slots σ H Q := by
  obtain ⟨P, ρ, f, l, lv, q⟩ := h
  refine hwi _ _ _ ⟨P, ρ, f, l, lv, ?_⟩
  dsimp only at q
  cases hs : its ρ with
  | bad => rw [hs] at q; exact q
  | exc x ρ1 => rw [hs] at q; exact q
  | ok as ρ1 =>
    rw [hs] at q
    simp only [Res.bind_ok] at q
    by_cases ht : allTmp as = true
    case neg => rw [if_neg ht] at q; exact q.elim
    rw [if_pos ht] at q
    cases hi : itemsOf k (as.map (·.1)) with
    | none => rw [hi] at q; exact q.elim
    | some items =>
      rw [hi] at q
      dsimp only at q
      exact ⟨ht, items, hi, fun J H1 P1 f1 o1 wk D hD => comp_main gok htt hte q o1 (fun Pi Hi ρi fi t lvi _ _ => wk Pi Hi t lvi) D hD⟩
theorem lstAt_inv {ρ : Env} {i : Nat} {xs : List Val} (h : lstAt ρ i = some xs) : ρ[i]? = some (some (.node (.lst false) xs)) ∧ pures xs = true := by
  unfold lstAt at h
  split at h
  · rename_i ys e
    by_cases hp : pures ys = true
    · rw [if_pos hp] at h; cases h; exact ⟨e, hp⟩
    · rw [if_neg hp] at h; cases h
  · cases h
/-- the list in a name, walked as it stands there -/
theorem wk_slot {i : Nat} {xs : List Val} {P P1 f f1 : Ps} {H H1 : Hp} {ρ ρ1 : Env} {σ σ1 : L2.St} {a : Addr} (hp : pures xs = true) (e : ρ[i]? = some (some (.node (.lst false) xs))) (l : RE K Cl P H ρ σ f) (ea : σ[i]? = some (some (.ref a)))
    (t : Tr P H f P1 H1) (lv1 : Lv P1 H1) (l1 : RE K Cl P1 H1 ρ1 σ1 f1) (e1 : ρ1[i]? = some (some (.node (.lst false) xs))) (es : σ1[i]? = some (some (.ref a))) : Wk K Cl (Itl K a) xs P1 H1 := by
  obtain ⟨W, g, g', ew, r, _, _, _⟩ := l1.pick e1
  rw [es] at ew
  cases ew
  obtain ⟨b, Ws, gg, eb, hb, rs, _, _, _⟩ := r.lst_open
  cases eb
  exact wk_of (walk_l (SqL.of hb)) (rs.emp hp) lv1
theorem compP_core {i : Nat} {tg : Tg} {test : Env → Res Bool} {elt : Env → Res (Val × Src)} {et ee : Bool} {g : TG} {tt : TT} {te : TE} (gok : GOk K Cl g tg)
    (htt : ∀ σ H Q, tVB K Cl ClX W0 et test σ H Q → tt σ H Q) (hte : ∀ σ H Q, tV K Cl ClX W0 ee elt σ H Q → te σ H Q) {σ : L2.St} {H : Hp} {Q : VK}
    (h : tV K Cl ClX W true (fun ρ => match lstAt ρ i with
      | some xs => if (!tg.slots.contains i) = true then (compRH (holdsB i (.node (.lst false) xs)) (bindTg tg) tg.slots test elt xs (wipeE ρ tg.slots) []).bind fun vs ρ2 => .ok (.node (.lst false) vs, .tmp) (backE ρ ρ2 tg.slots) else .bad
      | none => .bad) σ H Q) : tLc (iList K (tVar i)) g tt te tg.slots σ H Q := by
  obtain ⟨P, ρ, f, l, lv, q⟩ := h
  dsimp only at q
  cases hx : lstAt ρ i with
  | none => rw [hx] at q; exact q.elim
  | some xs =>
    rw [hx] at q
    dsimp only at q
    by_cases hn : (!tg.slots.contains i) = true
    case neg => rw [if_neg hn] at q; exact q.elim
    rw [if_pos hn] at q
    obtain ⟨e, hp⟩ := lstAt_inv hx
    obtain ⟨W0', g0, g1, ew, r, _, _, _⟩ := l.pick e
    obtain ⟨a, Ws, gg, rfl, ha, rs, _, _, _⟩ := r.lst_open
    have hni : i ∉ tg.slots := by simpa using hn
    have es : (wipe σ tg.slots)[i]? = some (some (.ref a)) := by rw [wipe_get, if_neg fun z => hni z.1, ew]
    exact ⟨_, ew, a, rfl, ⟨Ws, SqL.of ha⟩, fun D hD => comp_main gok htt hte q (Out.refl l lv) (fun Pi Hi ρi fi t lvi li hhd => wk_slot hp e l ew t lvi li (of_holdsB hhd) es) D hD⟩
end
end VS

namespace VS
open PySem L2
section
variable (K : PySem.W.Frag) (Cl ClX : Nat → Addr)
/-- from one state to another, the slots pr as they were -/
structure OutS (pr : List Nat) (P : Ps) (H : Hp) (f : Ps) (σ : L2.St) (ρ' : Env) (σ' : L2.St) (P' : Ps) (H' : Hp) (f' : Ps) : Prop where
  tr : Tr P H f P' H'
  re : RE K Cl P' H' ρ' σ' f'
  sub : Sub H f' f
  lv : Lv P' H'
  len : σ'.length = σ.length
  kp : ∀ j ∈ pr, σ'[j]? = σ[j]?
/-- what is wanted of a flow -/
def WF (W : WX) (pr : List Nat) (P : Ps) (H : Hp) (f : Ps) (σ : L2.St) (D : Ends) : Flow → Prop
  | .next ρ' => ∀ σ' P' H' f', OutS K Cl pr P H f σ ρ' σ' P' H' f' → D.nx σ' H'
  | .ret v ρ' => ∀ σ' U P' H' f' fv, OutS K Cl pr P H f σ ρ' σ' P' H' f' → R K Cl P' H' v U fv → dis fv f' → Sub H fv f → D.rt U H'
  | .exc x ρ' => ∀ c d σ' P' H' f', OutS K Cl pr P H f σ ρ' σ' P' H' f' → XcOk ClX H' x c d → W c d σ' H'
  | .bad => False
def tS (W : WX) (pr : List Nat) (s : Env → Flow) : TS := fun D σ H => ∃ P ρ f, RE K Cl P H ρ σ f ∧ Lv P H ∧ WF K Cl ClX W pr P H f σ D (s ρ)
end
section
variable {K : PySem.W.Frag} {Cl ClX : Nat → Addr} {X : Cx} {W : WX} {pr : List Nat} {P P1 P' : Ps} {H H1 H' : Hp} {f f1 f' : Ps} {σ σ1 σ' : L2.St} {ρ ρ1 ρ' : Env} {D : Ends}
theorem OutS.refl (l : RE K Cl P H ρ σ f) (lv : Lv P H) : OutS K Cl pr P H f σ ρ σ P H f := ⟨Tr.refl _ _ _, l, Sub.refl _ _, lv, rfl, fun _ _ => rfl⟩
theorem OutS.of {e : Bool} (o : Out K Cl P H f e ρ' σ P' H' f') : OutS K Cl pr P H f σ ρ' σ P' H' f' := ⟨o.tr.weak (wr_sub _ _), o.re, o.sub, o.lv, rfl, fun _ _ => rfl⟩
theorem OutS.trans (a : OutS K Cl pr P H f σ ρ1 σ1 P1 H1 f1) (b : OutS K Cl pr P1 H1 f1 σ1 ρ' σ' P' H' f') : OutS K Cl pr P H f σ ρ' σ' P' H' f' :=
  ⟨a.tr.trans b.tr a.sub, b.re, a.sub.trans b.sub a.tr fun _ z => z, b.lv, b.len.trans a.len, fun j hj => (b.kp j hj).trans (a.kp j hj)⟩
theorem wf_out {r : Flow} (o : OutS K Cl pr P H f σ ρ1 σ1 P1 H1 f1) (h : WF K Cl ClX W pr P H f σ D r) : WF K Cl ClX W pr P1 H1 f1 σ1 D r := by
  cases r with
  | bad => exact h
  | next ρ' => exact fun σ' P' H' f' o' => h σ' P' H' f' (o.trans o')
  | ret v ρ' => exact fun σ' U P' H' f' fv o' r d s => h σ' U P' H' f' fv (o.trans o') r d (o.sub.trans s o.tr fun _ z => z)
  | exc x ρ' => exact fun c d σ' P' H' f' o' xo => h c d σ' P' H' f' (o.trans o') xo
/-- a statement, then the rest -/
def sSeq (a b : Env → Flow) : Env → Flow := fun ρ => match a ρ with
  | .next ρ1 => b ρ1
  | r => r
theorem ts_nil : PSs X [] (tS K Cl ClX W pr fun ρ => .next ρ) := PSs.le pss_nil fun D σ H ⟨P, ρ, f, l, lv, q⟩ => q σ P H f (OutS.refl l lv)
theorem ts_cons {s : Stmt} {rest : List Stmt} {a b : Env → Flow} (ha : PS X s (tS K Cl ClX W pr a)) (hb : PSs X rest (tS K Cl ClX W pr b)) : PSs X (s :: rest) (tS K Cl ClX W pr (sSeq a b)) := PSs.le (pss_cons ha hb) fun D σ H ⟨P, ρ, f, l, lv, q⟩ => by
  refine ⟨P, ρ, f, l, lv, ?_⟩
  unfold sSeq at q
  cases h : a ρ with
  | bad => rw [h] at q; exact q
  | next ρ1 =>
    rw [h] at q
    exact fun σ' P' H' f' o => ⟨P', ρ1, f', o.re, o.lv, wf_out o q⟩
  | ret v ρ1 => rw [h] at q; exact q
  | exc x ρ1 => rw [h] at q; exact q
/-- an expression's value, then a statement's end -/
theorem flow_ok {e : Bool} {s : Env → Res (Val × Src)} {k : (Val × Src) → Env → Flow} {Q : VK} (h : tS K Cl ClX W pr (fun ρ => (s ρ).flow k) D σ H)
    (hk : ∀ P f v sr ρ1 U H1, Out1 K Cl P H f e ρ1 σ v sr U H1 → WF K Cl ClX W pr P H f σ D (k (v, sr) ρ1) → Q U H1) : tV K Cl ClX W e s σ H Q := by
  obtain ⟨P, ρ, f, l, lv, q⟩ := h
  refine ⟨P, ρ, f, l, lv, ?_⟩
  dsimp only at q
  cases hs : s ρ with
  | bad => rw [hs] at q; exact q
  | exc x ρ1 =>
    rw [hs] at q
    exact fun c d H' ⟨P', f', o, xo⟩ => q c d σ P' H' f' (OutS.of o) xo
  | ok a ρ1 =>
    rw [hs] at q
    exact fun U H1 o => hk P f a.1 a.2 ρ1 U H1 o q
def sSet (pr : List Nat) (i : Nat) (s : Env → Res (Val × Src)) : Env → Flow := fun ρ => (s ρ).flow fun a ρ1 => (match a with
    | (v, .tmp) => if (decide (i < ρ1.length) && free pr [i]) = true then .next (ρ1.set i (some v)) else .bad
    | _ => .bad)
theorem free_ne {is : List Nat} (h : free pr is = true) {j i : Nat} (hj : j ∈ pr) (hi : i ∈ is) : i ≠ j := by
  rintro rfl
  have := List.all_eq_true.mp h i hi
  simp only [Bool.not_eq_true', List.contains_eq_mem, decide_eq_false_iff_not] at this
  exact this hj
theorem set_core {e : Bool} {s : Env → Res (Val × Src)} {i : Nat} (h : tS K Cl ClX W pr (sSet pr i s) D σ H) : tV K Cl ClX W e s σ H fun x H1 => gName i x σ H1 D.nx :=
  flow_ok h fun P f v sr ρ1 U H1 ⟨P1, f1, fv, o, r, so, sb⟩ q => by
    cases sr with
    | brw => exact q.elim
    | plc j p => exact q.elim
    | tmp =>
      dsimp only at q
      by_cases hc : (decide (i < ρ1.length) && free pr [i]) = true
      case neg => rw [if_neg hc] at q; exact q.elim
      rw [if_pos hc] at q
      simp only [Bool.and_eq_true, decide_eq_true_eq] at hc
      obtain ⟨f2, l2, s2⟩ := o.re.set hc.1 r so
      refine q _ P1 H1 f2 ⟨o.tr.weak (wr_sub _ _), l2, fun b z => (s2 b z).elim (o.sub b) (sb b), o.lv, by simp, fun j hj => ?_⟩
      rw [List.getElem?_set_ne (free_ne hc.2 hj List.mem_cons_self)]
theorem ts_set {e : Bool} {s : Env → Res (Val × Src)} {i : Nat} {x : Str} {a : Expr} {pos pos' : Pos} (hN : X.N.Nodup) (hi : X.N[i]? = some x) (hx : Loc X.env.scope x) (hf : X.fn x = true) (ha : PE X a (tV K Cl ClX W e s)) (hs : swapsWith a (some (.Name x pos')) pos.line X.env = pure false) :
    PS X (.Assign [.Name x pos'] a pos) (tS K Cl ClX W pr (sSet pr i s)) := PS.le (ps_set hN hi hx ha hs (hf := .inl hf)) fun D σ H h => set_core h
def sUnp (pr is : List Nat) (s : Env → Res (Val × Src)) : Env → Flow := fun ρ => (s ρ).flow fun a ρ1 => (match a with
    | (v, .tmp) => if (v.pure && free pr is) = true then (match bindTg (.tup is) v ρ1 with
      | some ρ2 => .next ρ2
      | none => .bad) else .bad
    | _ => .bad)
theorem unp_core {e : Bool} {s : Env → Res (Val × Src)} {is : List Nat} (h : tS K Cl ClX W pr (sUnp pr is s) D σ H) : tV K Cl ClX W e s σ H fun x H1 => gTup K is.length (gNames is) x σ H1 D.nx :=
  flow_ok h fun P f v sr ρ1 U H1 ⟨P1, f1, fv, o, r, so, sb⟩ q => by
    cases sr with
    | brw => exact q.elim
    | plc j p => exact q.elim
    | tmp =>
      dsimp only at q
      by_cases hc : (v.pure && free pr is) = true
      case neg => rw [if_neg hc] at q; exact q.elim
      rw [if_pos hc] at q
      simp only [Bool.and_eq_true] at hc
      cases hb : bindTg (.tup is) v ρ1 with
      | none => rw [hb] at q; exact q.elim
      | some ρ2 =>
        rw [hb] at q
        rw [r.pure_emp hc.1] at r
        refine go_tup is o.re r hb fun σ' f2 l2 s2 hl hj => q σ' P1 H1 f2 ⟨o.tr.weak (wr_sub _ _), l2, fun b z => o.sub b (s2 b z), o.lv, hl, fun j hp => hj j fun hm => free_ne hc.2 hp hm rfl⟩
def sExpr (s : Env → Res (Val × Src)) : Env → Flow := fun ρ => (s ρ).flow fun _ ρ1 => .next ρ1
theorem ts_expr {e : Bool} {s : Env → Res (Val × Src)} {a : Expr} {pos : Pos} (ha : PE X a (tV K Cl ClX W e s)) (hs : swapsWith a none pos.line X.env = pure false) : PS X (.Expr a pos) (tS K Cl ClX W pr (sExpr s)) :=
  PS.le (ps_expr ha hs) fun D σ H h => flow_ok h fun P f v sr ρ1 U H1 ⟨P1, f1, fv, o, r, so, sb⟩ q => q σ P1 H1 f1 (OutS.of o)
def sRetE (s : Env → Res (Val × Src)) : Env → Flow := fun ρ => (s ρ).flow sRet
theorem ts_ret {e : Bool} {s : Env → Res (Val × Src)} {a : Expr} {pos : Pos} (ha : PE X a (tV K Cl ClX W e s)) : PS X (.Return (some a) pos) (tS K Cl ClX W pr (sRetE s)) :=
  PS.le (ps_ret ha) fun D σ H h => flow_ok h fun P f v sr ρ1 U H1 ⟨P1, f1, fv, o, r, so, sb⟩ q => by
    cases sr with
    | brw => exact q.elim
    | tmp => exact q σ U P1 H1 f1 fv (OutS.of o) r so sb
    | plc i p =>
      obtain ⟨v0, W0, q1, q2, q3, q4⟩ := so
      obtain ⟨W1, g1, g, e1, r1, d1, rfl, t⟩ := o.re.pick q1
      rw [q2] at e1
      cases e1
      obtain ⟨fx, rx, subx, _⟩ := r1.focus q3 q4
      have l2 := t (some W0)
      rw [set_self q2] at l2
      exact q σ U P1 H1 g fx ⟨o.tr.weak (wr_sub _ _), l2, fun b z => o.sub b (.inr z), o.lv, rfl, fun _ _ => rfl⟩ rx (fun b z y => d1 b (subx b z) y) (fun b z => o.sub b (.inl (subx b z)))
theorem ts_retN {pos : Pos} : PS X (.Return none pos) (tS K Cl ClX W pr fun ρ => .ret .non ρ) := PS.le ps_retN fun D σ H ⟨P, ρ, f, l, lv, q⟩ => q σ .non P H f emp (OutS.refl l lv) ⟨rfl, rfl⟩ (emp_dis _) fun _ z => z.elim
theorem ts_pass {pos : Pos} : PS X (.Pass pos) (tS K Cl ClX W pr fun ρ => .next ρ) := PS.le ps_pass fun D σ H ⟨P, ρ, f, l, lv, q⟩ => q σ P H f (OutS.refl l lv)
def sIfs (s : Env → Res (Val × Src)) (a b : Env → Flow) : Env → Flow := fun ρ => (s ρ).test.flow fun c ρ1 => if c = true then a ρ1 else b ρ1
/-- a test, then a statement -/
theorem test_flow {e : Bool} {r : Res Bool} {k : Bool → Env → Flow} {Q : Bool → Hp → Prop} (h : WF K Cl ClX W pr P H f σ D (r.flow k))
    (hk : ∀ c ρ1 P1 H1 f1, Out K Cl P H f e ρ1 σ P1 H1 f1 → WF K Cl ClX W pr P1 H1 f1 σ D (k c ρ1) → Q c H1) : WT K Cl ClX W P H f σ e Q r := by
  cases r with
  | bad => exact h
  | exc x ρ1 => exact fun c d H' ⟨P', f', o, xo⟩ => h c d σ P' H' f' (OutS.of o) xo
  | ok c ρ1 => exact fun P' H' f' o => hk c ρ1 P' H' f' o (wf_out (OutS.of o) h)
theorem ts_if {e : Bool} {s : Env → Res (Val × Src)} {c : Expr} {a b : List Stmt} {pos : Pos} {sa sb : Env → Flow} (hc : PT X c (tVT K Cl ClX W e s)) (ha : PSs X a (tS K Cl ClX W pr sa)) (hb : PSs X b (tS K Cl ClX W pr sb)) :
    PS X (.If c a b pos) (tS K Cl ClX W pr (sIfs s sa sb)) := PS.le (ps_if hc ha hb) fun D σ H ⟨P, ρ, f, l, lv, q⟩ => tvt_iff.mpr ⟨P, ρ, f, l, lv, test_flow q fun c ρ1 P1 H1 f1 o q => by
      cases c with
      | true => exact ⟨P1, ρ1, f1, o.re, o.lv, q⟩
      | false => exact ⟨P1, ρ1, f1, o.re, o.lv, q⟩⟩
theorem ts_while {e : Bool} {N : Nat} {s : Env → Res (Val × Src)} {c : Expr} {body : List Stmt} {pos : Pos} {sb : Env → Flow} (hp : PassesOwn (model X.prog X.w) X.A X.env X.xe) (hc : PT X c (tVT K Cl ClX W e s)) (hb : PSs X body (tS K Cl ClX W pr sb)) :
    PS X (.While c body [] pos) (tS K Cl ClX W pr fun ρ => whileR (fun ρ => (s ρ).test) sb N ρ) := PS.le (ps_while hp hc hb) fun D σ0 H0 ⟨P, ρ, f, l, lv, q⟩ => by
  refine ⟨fun m σ H => ∃ P ρ f, RE K Cl P H ρ σ f ∧ Lv P H ∧ WF K Cl ClX W pr P H f σ D (whileR (fun ρ => (s ρ).test) sb m ρ), ⟨N, P, ρ, f, l, lv, q⟩, ?_⟩
  rintro m σ H ⟨P, ρ, f, l, lv, q⟩
  cases m with
  | zero => exact q.elim
  | succ n =>
    refine tvt_iff.mpr ⟨P, ρ, f, l, lv, ?_⟩
    simp only [whileR] at q
    cases hs : (s ρ).test with
    | bad => rw [hs] at q; exact q
    | exc x ρ1 =>
      rw [hs] at q
      exact fun c d H' ⟨P', f', o, xo⟩ => q c d σ P' H' f' (OutS.of o) xo
    | ok c ρ1 =>
      rw [hs] at q
      intro P1 H1 f1 o
      cases c with
      | false => exact q σ P1 H1 f1 (OutS.of o)
      | true =>
        dsimp only at q
        refine ⟨fun σ H => ∃ P ρ f, RE K Cl P H ρ σ f ∧ Lv P H ∧ WF K Cl ClX W pr P H f σ D (whileR (fun ρ => (s ρ).test) sb n ρ), fun σ' H' z => ⟨n, Nat.lt_succ_self n, z⟩, P1, ρ1, f1, o.re, o.lv, ?_⟩
        cases hb' : sb ρ1 with
        | bad => rw [hb'] at q; exact q
        | next ρ2 =>
          rw [hb'] at q
          exact fun σ2 P2 H2 f2 o2 => ⟨P2, ρ2, f2, o2.re, o2.lv, wf_out ((OutS.of o).trans o2) q⟩
        | ret v ρ2 =>
          rw [hb'] at q
          exact wf_out (D := D) (r := .ret v ρ2) (OutS.of o) q
        | exc x ρ2 =>
          rw [hb'] at q
          exact wf_out (D := D) (r := .exc x ρ2) (OutS.of o) q
end
end VS

namespace VS
open PySem L2
section
variable {K : PySem.W.Frag} {Cl ClX : Nat → Addr} {X : Cx} {W : WX} {pr : List Nat}
def sFor (pr : List Nat) (tg : Tg) (k : ItK) (its : Env → Res (List (Val × Src))) (sb : Env → Flow) : Env → Flow := fun ρ => (its ρ).flow fun as ρ1 => if (allTmp as && free pr tg.slots) = true then (match itemsOf k (as.map (·.1)) with
    | some xs => forR (bindTg tg) sb xs ρ1
    | none => .bad) else .bad
theorem wf_more {pr pr' : List Nat} {P : Ps} {H : Hp} {f : Ps} {σ : L2.St} {D : Ends} (hs : ∀ j ∈ pr, j ∈ pr') {r : Flow} (h : WF K Cl ClX W pr P H f σ D r) : WF K Cl ClX W pr' P H f σ D r := by
  have go : ∀ {ρ' σ' P' H' f'}, OutS K Cl pr' P H f σ ρ' σ' P' H' f' → OutS K Cl pr P H f σ ρ' σ' P' H' f' := fun o => ⟨o.tr, o.re, o.sub, o.lv, o.len, fun j hj => o.kp j (hs j hj)⟩
  cases r with
  | bad => exact h
  | next ρ' => exact fun σ' P' H' f' o' => h σ' P' H' f' (go o')
  | ret v ρ' => exact fun σ' U P' H' f' fv o' r d s => h σ' U P' H' f' fv (go o') r d s
  | exc x ρ' => exact fun c d σ' P' H' f' o' xo => h c d σ' P' H' f' (go o') xo
theorem for_main {hd : Env → Bool} {tg : Tg} {items : List Val} {sb : Env → Flow} {g : TG} {D : Ends} (gok : GOk X.K Cl g tg) (hfree : free pr tg.slots = true) {J : It} {H1 : Hp} {P1 f1 : Ps} {ρ1 : Env} {σ0 : L2.St} (re : RE X.K Cl P1 H1 ρ1 σ0 f1) (lv1 : Lv P1 H1)
    (q1 : WF X.K Cl ClX W pr P1 H1 f1 σ0 D (forRH hd (bindTg tg) sb items ρ1)) (wk : ∀ Pi Hi ρi σi fi, OutS X.K Cl pr P1 H1 f1 σ0 ρi σi Pi Hi fi → hd ρi = true → Wk X.K Cl J items Pi Hi) :
    ∃ W' : Nat → Nat → L2.St → Hp → Prop, (∃ m, W' 0 m σ0 H1) ∧ ∀ i m σ H, W' i m σ H →
  (J.stop i H ∧ D.nx σ H) ∨ (J.go i H ∧ ∃ N : L2.St → Hp → Prop, (∀ σ' H', N σ' H' → ∃ m', m' < m ∧ W' (i + 1) m' σ' H') ∧ ∀ x H', J.yld i H x H' → g x σ H' fun σ2 H2 => tS X.K Cl ClX W pr sb { D with nx := N, ct := N, bk := D.nx } σ2 H2) := by
  let Iv : Nat → L2.St → Hp → Prop := fun i σ Hh => ∃ ρi Pi fi, OutS X.K Cl pr P1 H1 f1 σ0 ρi σ Pi Hh fi ∧ WF X.K Cl ClX W pr Pi Hh fi σ D (forRH hd (bindTg tg) sb (items.drop i) ρi)
  refine ⟨fun i m σ Hh => m = items.length - i ∧ i ≤ items.length ∧ Iv i σ Hh, ⟨items.length, rfl, Nat.zero_le _, ρ1, P1, f1, OutS.refl re lv1, by rw [List.drop_zero]; exact q1⟩, ?_⟩
  rintro i m σ Hh ⟨rfl, hil, ρi, Pi, fi, oi, qi⟩
  have hhd : hd ρi = true := by
    cases z : hd ρi with
    | true => rfl
    | false => exact (by cases y : items.drop i <;> rw [y] at qi <;> simp only [forRH, z, Bool.false_eq_true, if_false] at qi <;> exact qi.elim)
  have wkh := wk Pi Hh ρi σ fi oi hhd
  by_cases hlt : i < items.length
  · right
    obtain ⟨go, yl⟩ := wkh.1 i items[i] (by simp [hlt])
    refine ⟨go, Iv (i + 1), fun σ' H' z => ⟨items.length - (i + 1), by omega, rfl, hlt, z⟩, fun x H' y => ?_⟩
    obtain ⟨Pj, tri, rU, lvj⟩ := yl x H' y
    have ed : items.drop i = items[i] :: items.drop (i + 1) := List.drop_eq_getElem_cons hlt
    have oj : OutS X.K Cl pr Pi Hh fi σ ρi σ Pj H' fi := ⟨tri.weak fun _ z => z.elim, oi.re.tr tri (dis_emp _) (dis_emp _), Sub.refl _ _, lvj, rfl, fun _ _ => rfl⟩
    rw [ed] at qi
    simp only [forRH] at qi
    rw [if_pos hhd] at qi
    cases hb : bindTg tg items[i] ρi with
    | none => rw [hb] at qi; exact qi.elim
    | some ρ1' =>
      rw [hb] at qi
      dsimp only at qi
      refine gok oj.re rU hb fun σ' f' l' s' hl hj => ?_
      have og : OutS X.K Cl pr Pi Hh fi σ ρ1' σ' Pj H' f' := oj.trans ⟨Tr.refl _ _ _, l', fun b z => .inl (s' b z), lvj, hl, fun j hp => hj j fun hm => free_ne hfree hp hm rfl⟩
      refine ⟨Pj, ρ1', f', l', lvj, ?_⟩
      cases hb' : sb ρ1' with
      | bad => rw [hb'] at qi; exact qi
      | next ρ2 =>
        rw [hb'] at qi
        exact fun σ2 P2 H2 f2 o2 => ⟨ρ2, P2, f2, oi.trans (og.trans o2), wf_out (og.trans o2) qi⟩
      | ret v ρ2 =>
        rw [hb'] at qi
        exact wf_out (D := D) (r := .ret v ρ2) og qi
      | exc x ρ2 =>
        rw [hb'] at qi
        exact wf_out (D := D) (r := .exc x ρ2) og qi
  · left
    have hie : i = items.length := by omega
    subst hie
    refine ⟨wkh.2, ?_⟩
    rw [List.drop_length] at qi
    simp only [forRH] at qi
    rw [if_pos hhd] at qi
    exact qi σ Pi Hh fi (OutS.refl oi.re oi.lv)
theorem ts_for {k : ItK} {tg : Tg} {its : Env → Res (List (Val × Src))} {sb : Env → Flow} {g : TG} {te iter : Expr} {body : List Stmt} {pos : Pos} (gok : GOk X.K Cl g tg) (hp : PassesOwn (model X.prog X.w) X.A X.env X.xe) (hc : X.calm = true)
    (hi : PI X te iter (tI X.K Cl ClX W k its)) (hg : PG X te g) (hb : PSs X body (tS X.K Cl ClX W pr sb)) (hs : ∀ x, foldedSetIterable iter X.env x = pure x) : PS X (.For te iter body [] pos) (tS X.K Cl ClX W pr (sFor pr tg k its sb)) :=
  PS.le (ps_for hp hc hi hg hb hs) fun D σ0 H0 ⟨P, ρ, f, l, lv, q⟩ => by
    refine ⟨P, ρ, f, l, lv, ?_⟩
    unfold sFor at q
    cases hs : its ρ with
    | bad => rw [hs] at q; exact q
    | exc x ρ1 =>
      rw [hs] at q
      exact fun c d H' ⟨P', f', o, xo⟩ => q c d σ0 P' H' f' (OutS.of o) xo
    | ok as ρ1 =>
      rw [hs] at q
      simp only [Res.flow] at q
      by_cases ht : (allTmp as && free pr tg.slots) = true
      case neg => rw [if_neg ht] at q; exact q.elim
      rw [if_pos ht] at q
      simp only [Bool.and_eq_true] at ht
      cases hi : itemsOf k (as.map (·.1)) with
      | none => rw [hi] at q; exact q.elim
      | some items =>
        rw [hi] at q
        dsimp only at q
        exact ⟨ht.1, items, hi, fun J H1 P1 f1 o1 wk => for_main gok ht.2 o1.re o1.lv (wf_out (OutS.of o1) q) fun Pi Hi ρi σi fi o _ => wk Pi Hi o.tr o.lv⟩
noncomputable def sForP (pr : List Nat) (tg : Tg) (i : Nat) (sb : Env → Flow) : Env → Flow := fun ρ => match lstAt ρ i with
  | some xs => if (!tg.slots.contains i && free pr tg.slots) = true then forRH (holdsB i (.node (.lst false) xs)) (bindTg tg) sb xs ρ else .bad
  | none => .bad
theorem ts_forP {i : Nat} {tg : Tg} {sb : Env → Flow} {g : TG} {te iter : Expr} {body : List Stmt} {pos : Pos} (gok : GOk X.K Cl g tg) (hp : PassesOwn (model X.prog X.w) X.A X.env X.xe) (hc : X.calm = true)
    (hi : PE X iter (tVar i)) (hg : PG X te g) (hb : PSs X body (tS X.K Cl ClX W (i :: pr) sb)) (hs : ∀ x, foldedSetIterable iter X.env x = pure x) : PS X (.For te iter body [] pos) (tS X.K Cl ClX W pr (sForP pr tg i sb)) :=
  PS.le (ps_for hp hc (pi_list hi) hg hb hs) fun D σ0 H0 ⟨P, ρ, f, l, lv, q⟩ => by
    unfold sForP at q
    cases hx : lstAt ρ i with
    | none => rw [hx] at q; exact q.elim
    | some xs =>
      rw [hx] at q
      dsimp only at q
      by_cases ht : (!tg.slots.contains i && free pr tg.slots) = true
      case neg => rw [if_neg ht] at q; exact q.elim
      rw [if_pos ht] at q
      simp only [Bool.and_eq_true] at ht
      obtain ⟨e, hpu⟩ := lstAt_inv hx
      obtain ⟨W0', g0, g1, ew, r, _, _, _⟩ := l.pick e
      obtain ⟨a, Ws, gg, rfl, ha, rs, _, _, _⟩ := r.lst_open
      have hni : i ∉ tg.slots := by simpa using ht.1
      have hfree : free (i :: pr) tg.slots = true := by
        refine List.all_eq_true.mpr fun j hj => ?_
        have h2 := List.all_eq_true.mp ht.2 j hj
        have hne : j ≠ i := fun z => hni (z ▸ hj)
        simp only [Bool.not_eq_true', List.contains_eq_mem, decide_eq_false_iff_not] at h2 ⊢
        exact fun z => (List.mem_cons.mp z).elim hne h2
      exact ⟨_, ew, a, rfl, ⟨Ws, SqL.of ha⟩, for_main gok hfree l lv (wf_more (fun j hj => List.mem_cons_of_mem _ hj) q) fun Pi Hi ρi σi fi o hhd => wk_slot hpu e l ew o.tr o.lv o.re (of_holdsB hhd) ((o.kp i List.mem_cons_self).trans ew)⟩
/-! ### a def -/
theorem fins_rs {P : Ps} {H : Hp} : ∀ {ms : List Bool} {as : List Val} {ρ : Env} {fin : List Val} {Vs : List V} {σ : L2.St} {f : Ps} {i : Nat}, fins ms as ρ = some fin → RE K Cl P H ρ σ f → (∀ j : Nat, ms[j]? = some true → σ[j]? = (Vs[j]?).map some) →
    (∀ (j : Nat) a, ms[j]? = some false → as[j]? = some a → ∃ U, Vs[j]? = some U ∧ R K Cl P H a U emp) → Vs.length = ms.length → ∃ ff, Rs K Cl P H fin Vs ff ∧ ∀ b, ff b → f b
  | [], [], ρ, fin, Vs, σ, f, i, h, l, k, m, e => by
    cases ρ <;> simp only [fins, Option.some.injEq] at h <;> subst h
    all_goals
      have : Vs = [] := List.eq_nil_of_length_eq_zero (by simpa using e)
      subst this
      exact ⟨emp, ⟨rfl, rfl⟩, fun _ z => z.elim⟩
  | [], a :: as, ρ, fin, Vs, σ, f, i, h, _, _, _, _ => by simp [fins] at h
  | true :: ms, [], ρ, fin, Vs, σ, f, i, h, _, _, _, _ => by simp [fins] at h
  | false :: ms, [], ρ, fin, Vs, σ, f, i, h, _, _, _, _ => by simp [fins] at h
  | true :: ms, a :: as, [], fin, Vs, σ, f, i, h, _, _, _, _ => by simp [fins] at h
  | false :: ms, a :: as, [], fin, Vs, σ, f, i, h, _, _, _, _ => by simp [fins] at h
  | true :: ms, a :: as, none :: ρ, fin, Vs, σ, f, i, h, _, _, _, _ => by simp [fins] at h
  | true :: ms, a :: as, some v :: ρ, fin, Vs, [], f, i, h, l, _, _, _ => by simp only [RE] at l
  | true :: ms, a :: as, some v :: ρ, fin, Vs, x :: σ, f, i, h, l, k, m, e => by
    simp only [fins, Option.map_eq_some_iff] at h
    obtain ⟨r, h, rfl⟩ := h
    simp only [RE] at l
    obtain ⟨W, f1, f2, rfl, h1, h2, hd, rfl⟩ := l
    cases Vs with
    | nil => simp at e
    | cons U Vs =>
      have k0 := k 0 (by simp)
      simp at k0
      subst k0
      obtain ⟨ff, rs, s⟩ := fins_rs (i := i) h h2 (fun j hj => by simpa using k (j + 1) (by simpa using hj)) (fun j a hj ha => by simpa using m (j + 1) a (by simpa using hj) (by simpa using ha)) (by simpa using e)
      exact ⟨uni f1 ff, ⟨_, _, f1, ff, rfl, h1, rs, fun b x y => hd b x (s b y), rfl⟩, fun b z => z.imp id (s b)⟩
  | false :: ms, a :: as, o :: ρ, fin, Vs, [], f, i, h, l, _, _, _ => by cases o <;> simp only [RE] at l
  | false :: ms, a :: as, o :: ρ, fin, Vs, x :: σ, f, i, h, l, k, m, e => by
    simp only [fins, Option.map_eq_some_iff] at h
    obtain ⟨r, h, rfl⟩ := h
    cases Vs with
    | nil => simp at e
    | cons U Vs =>
      obtain ⟨U', e', ra⟩ := m 0 a (by simp) (by simp)
      simp at e'
      subst e'
      have hl : ∃ f2, RE K Cl P H ρ σ f2 ∧ ∀ b, f2 b → f b := by
        cases o with
        | none => exact ⟨f, by simpa only [RE] using l, fun _ z => z⟩
        | some w =>
          simp only [RE] at l
          obtain ⟨W, f1, f2, _, _, h2, _, rfl⟩ := l
          exact ⟨f2, h2, fun b z => .inr z⟩
      obtain ⟨f2, h2, s2⟩ := hl
      obtain ⟨ff, rs, s⟩ := fins_rs (i := i) h h2 (fun j hj => by simpa using k (j + 1) (by simpa using hj)) (fun j a hj ha => by simpa using m (j + 1) a (by simpa using hj) (by simpa using ha)) (by simpa using e)
      exact ⟨ff, ⟨_, _, emp, ff, rfl, ra, rs, emp_dis _, (emp_uni _).symm⟩, fun b z => s2 b (s b z)⟩
theorem prot_mem : ∀ {ms : List Bool} {i j : Nat}, ms[j]? = some true → i + j ∈ prot i ms
  | [], _, _, h => by simp at h
  | true :: ms, i, 0, _ => by simp [prot]
  | true :: ms, i, j + 1, h => by
    simp only [prot]
    refine .tail _ ?_
    have := prot_mem (i := i + 1) (j := j) (ms := ms) (by simpa using h)
    rwa [show i + 1 + j = i + (j + 1) by omega] at this
  | false :: ms, i, 0, h => by simp at h
  | false :: ms, i, j + 1, h => by
    simp only [prot]
    have := prot_mem (i := i + 1) (j := j) (ms := ms) (by simpa using h)
    rwa [show i + 1 + j = i + (j + 1) by omega] at this
theorem re_start {P : Ps} {H : Hp} : ∀ {as : List Val} {Vs : List V} {f : Ps} {n : Nat}, Rs K Cl P H as Vs f → RE K Cl P H (as.map some ++ List.replicate n none) (Vs.map some ++ List.replicate n none) f
  | [], Vs, f, n, h => by
    obtain ⟨rfl, rfl⟩ := h
    simp only [List.map_nil, List.nil_append]
    induction n with
    | zero => rfl
    | succ n ih => simp only [List.replicate_succ, RE]; exact ih
  | a :: as, Vs, f, n, h => by
    simp only [Rs] at h
    obtain ⟨U, Vs', f1, f2, rfl, h1, h2, hd, rfl⟩ := h
    simp only [List.map_cons, List.cons_append, RE]
    exact ⟨U, f1, f2, rfl, h1, re_start h2, hd, rfl⟩
theorem nPure_at {P : Ps} {H : Hp} : ∀ {ms : List Bool} {as : List Val} {Vs : List V} {f : Ps}, nPure ms as = true → Rs K Cl P H as Vs f → ∀ (j : Nat) a, ms[j]? = some false → as[j]? = some a → ∃ U, Vs[j]? = some U ∧ R K Cl P H a U emp
  | [], _, _, _, _, _, j, a, h, _ => by simp at h
  | true :: ms, [], _, _, h, _, _, _, _, _ => by simp [nPure] at h
  | false :: ms, [], _, _, h, _, _, _, _, _ => by simp [nPure] at h
  | true :: ms, a :: as, _, _, h, r, j, b, e1, e2 => by
    simp only [Rs] at r
    obtain ⟨U, Vs', f1, f2, rfl, h1, h2, hd, rfl⟩ := r
    cases j with
    | zero => simp at e1
    | succ j => simpa using nPure_at (ms := ms) h h2 j b (by simpa using e1) (by simpa using e2)
  | false :: ms, a :: as, _, _, h, r, j, b, e1, e2 => by
    simp only [Rs] at r
    obtain ⟨U, Vs', f1, f2, rfl, h1, h2, hd, rfl⟩ := r
    simp only [nPure, Bool.and_eq_true] at h
    cases j with
    | zero =>
      simp at e2
      subst e2
      rw [h1.pure_emp h.1] at h1
      exact ⟨U, by simp, h1⟩
    | succ j => simpa using nPure_at (ms := ms) h.2 h2 j b (by simpa using e1) (by simpa using e2)
theorem nPure_len : ∀ {ms : List Bool} {as : List Val}, nPure ms as = true → as.length = ms.length
  | [], [], _ => rfl
  | [], _ :: _, h => by simp [nPure] at h
  | true :: ms, [], h => by simp [nPure] at h
  | false :: ms, [], h => by simp [nPure] at h
  | true :: ms, a :: as, h => by simp only [nPure] at h; simp [nPure_len h]
  | false :: ms, a :: as, h => by simp only [nPure, Bool.and_eq_true] at h; simp [nPure_len h.2]
/-- from a body's flow to the promise -/
theorem body_spec {ms : List Bool} {run : Env → Flow} {F : List Val → FRes} {n : Nat} {Vs : List V} {H : Hp} {Q : VK} {E : XK} (hn : ms.length ≤ n) (hF : ∀ as, as.length = ms.length → F as = (match run (as.map some ++ List.replicate (n - as.length) none) with
      | .next ρ => (match fins ms as ρ with | some r => .ok .non r | none => .bad)
      | .ret v ρ => (match fins ms as ρ with | some r => .ok v r | none => .bad)
      | .exc x ρ => (match fins ms as ρ with | some r => .exc x r | none => .bad)
      | .bad => .bad)) (h : spOf K Cl ClX ms F Vs H Q E) : Vs.length = ms.length ∧
    tS K Cl ClX (fun c d _ H => E c d H) (prot 0 ms) run { nx := fun _ H' => Q .non H', rt := Q } (Vs.map some ++ List.replicate (n - Vs.length) none) H := by
  obtain ⟨P, f, as, rs, lv, np, q⟩ := h
  have hl : as.length = ms.length := nPure_len np
  have hv : Vs.length = ms.length := by rw [← rs.length, hl]
  refine ⟨hv, P, _, f, re_start (n := n - Vs.length) rs, lv, ?_⟩
  rw [show n - Vs.length = n - as.length from by rw [hv, hl]]
  rw [hF as hl] at q
  -- the finals
  have fin : ∀ {ρ' : Env} {σ' : L2.St} {P' : Ps} {H' : Hp} {f' : Ps} {r : List Val}, OutS K Cl (prot 0 ms) P H f (Vs.map some ++ List.replicate (n - as.length) none) ρ' σ' P' H' f' → fins ms as ρ' = some r → ∃ ff, Rs K Cl P' H' r Vs ff ∧ ∀ b, ff b → f' b := fun {ρ' σ' P' H' f' r} o hf => by
    refine fins_rs (i := 0) hf o.re (fun j hj => ?_) (fun j a h1 h2 => ?_) hv
    · have hp : j ∈ prot 0 ms := by
        have := prot_mem (i := 0) hj
        rwa [Nat.zero_add] at this
      rw [o.kp j hp]
      have hj' : j < Vs.length := by rw [hv]; exact (List.getElem?_eq_some_iff.mp hj).1
      rw [List.getElem?_append_left (by simpa using hj'), List.getElem?_map]
    · obtain ⟨U, e, ra⟩ := nPure_at np rs j a h1 h2
      exact ⟨U, e, ra.tr o.tr (emp_dis _) fun b x y => (rs.live b y).2 x⟩
  cases hr : run (as.map some ++ List.replicate (n - as.length) none) with
  | bad => rw [hr] at q; exact q
  | next ρ' =>
    rw [hr] at q
    dsimp only at q
    cases hf : fins ms as ρ' with
    | none => rw [hf] at q; exact q.elim
    | some r =>
      rw [hf] at q
      intro σ' P' H' f' o
      obtain ⟨ff, rf, s⟩ := fin o hf
      exact q .non H' P' emp ff o.tr rf ⟨rfl, rfl⟩ (emp_dis _) (fun b z => o.sub b (s b z)) (fun _ z => z.elim) o.lv
  | ret v ρ' =>
    rw [hr] at q
    dsimp only at q
    cases hf : fins ms as ρ' with
    | none => rw [hf] at q; exact q.elim
    | some r =>
      rw [hf] at q
      intro σ' U P' H' f' fv o rv dv sv
      obtain ⟨ff, rf, s⟩ := fin o hf
      exact q U H' P' fv ff o.tr rf rv (fun b x y => dv b x (s b y)) (fun b z => o.sub b (s b z)) sv o.lv
  | exc x ρ' =>
    rw [hr] at q
    dsimp only at q
    cases hf : fins ms as ρ' with
    | none => rw [hf] at q; exact q.elim
    | some r =>
      rw [hf] at q
      intro c d σ' P' H' f' o xo
      obtain ⟨ff, rf, s⟩ := fin o hf
      exact q c d H' P' ff o.tr rf (fun b z => o.sub b (s b z)) o.lv xo
end
end VS

/-! dicts: read, copied, made -/
namespace VS
open PySem L2
section
variable {κ : Type} [DecidableEq κ]
theorem idxK_lt : ∀ {ks : List κ} {k : κ} {i : Nat}, idxK ks k = some i → i < ks.length
  | j :: ks, k, i, h => by
    simp only [idxK] at h
    split at h
    · cases h; simp
    · obtain ⟨q, hq, rfl⟩ := Option.map_eq_some_iff.mp h
      have := idxK_lt hq
      simp; omega
theorem idxK_none : ∀ {ks : List κ} {k : κ}, idxK ks k = none → k ∉ ks
  | [], _, _ => by simp
  | j :: ks, k, h => by
    simp only [idxK] at h
    split at h
    · cases h
    · rename_i hne
      simp only [Option.map_eq_none_iff] at h
      intro hm
      rcases List.mem_cons.mp hm with rfl | hm
      · exact hne rfl
      · exact idxK_none h hm
theorem valV_idx : ∀ {ks : List κ} {Vs : List V} {k : κ}, ks.length = Vs.length → valV (ks.zip Vs) k = (idxK ks k).bind fun i => Vs[i]?
  | [], Vs, k, h => by simp [idxK]; rfl
  | j :: ks, [], k, h => by simp at h
  | j :: ks, W :: Vs, k, h => by
    simp only [List.zip_cons_cons, idxK]
    by_cases e : j = k
    · rw [if_pos e, valV_pos (p := (j, W)) e]; rfl
    · rw [if_neg e, valV_neg (p := (j, W)) e, valV_idx (by simpa using h)]
      cases idxK ks k <;> simp
theorem putVs_len {α : Type} {ks : List κ} {vs : List α} {k : κ} {v : α} (h : ks.length = vs.length) : (putKs ks k).length = (putVs ks vs k v).length := by
  unfold putKs putVs
  cases idxK ks k <;> simp [h]
theorem putKs_nodup {ks : List κ} {k : κ} (h : ks.Nodup) : (putKs ks k).Nodup := by
  unfold putKs
  cases e : idxK ks k with
  | some i => exact h
  | none =>
    rw [List.nodup_append]
    refine ⟨h, by simp, fun a ha b hb z => ?_⟩
    rw [List.mem_singleton.mp hb] at z
    exact idxK_none e (z ▸ ha)
theorem any_idx : ∀ {ks : List κ} {Vs : List V} {k : κ}, ks.length = Vs.length → ((ks.zip Vs).any fun kv => decide (kv.1 = k)) = (idxK ks k).isSome
  | [], Vs, k, h => by simp [idxK]
  | j :: ks, [], k, h => by simp at h
  | j :: ks, W :: Vs, k, h => by
    simp only [List.zip_cons_cons, List.any_cons, idxK, any_idx (ks := ks) (Vs := Vs) (k := k) (by simpa using h)]
    by_cases e : j = k <;> simp [e]
theorem map_absent : ∀ {ks : List κ} {Vs : List V} {k : κ} {W : V}, k ∉ ks → (ks.zip Vs).map (fun kv => if kv.1 = k then (kv.1, W) else kv) = ks.zip Vs
  | [], _, _, _, _ => rfl
  | j :: ks, [], _, _, _ => rfl
  | j :: ks, U :: Vs, k, W, h => by
    simp only [List.mem_cons, not_or] at h
    simp only [List.zip_cons_cons, List.map_cons, map_absent h.2]
    rw [if_neg (Ne.symm h.1)]
theorem putK_zip : ∀ {ks : List κ} {Vs : List V} {k : κ} {W : V}, ks.Nodup → ks.length = Vs.length → putK (ks.zip Vs) k W = (putKs ks k).zip (putVs ks Vs k W) := by
  intro ks Vs k W nd h
  unfold putK putKs putVs
  rw [any_idx h]
  cases e : idxK ks k with
  | none =>
    simp only [Option.isSome_none, Bool.false_eq_true, if_false]
    rw [List.zip_append h]
    rfl
  | some i =>
    simp only [Option.isSome_some, if_true]
    clear h
    induction ks generalizing Vs i with
    | nil => cases e
    | cons j ks ih =>
      have nd2 := List.nodup_cons.mp nd
      cases Vs with
      | nil => rfl
      | cons U Vs =>
        simp only [idxK] at e
        by_cases hj : j = k
        · rw [if_pos hj] at e
          cases e
          subst hj
          simp only [List.zip_cons_cons, List.map_cons, if_true, List.set_cons_zero, map_absent nd2.1]
        · rw [if_neg hj] at e
          obtain ⟨q, hq, rfl⟩ := Option.map_eq_some_iff.mp e
          simp only [List.zip_cons_cons, List.map_cons, List.set_cons_succ]
          rw [if_neg hj, ih nd2.2 _ hq]
end
theorem intKs_map : ∀ {ks : List Key} {ns : List Int}, intKs ks = some ns → ks = ns.map Sum.inl
  | [], ns, h => by cases h; rfl
  | .inl i :: ks, ns, h => by
    simp only [intKs, Option.map_eq_some_iff] at h
    obtain ⟨ms, h, rfl⟩ := h
    rw [intKs_map h]; rfl
  | .inr _ :: ks, ns, h => by simp [intKs] at h
section
variable {K : PySem.W.Frag} {Cl ClX : Nat → Addr} {X : Cx} {W : WX} {P P' : Ps} {H H' : Hp}
theorem R.dct_open {z : Bool} {ks : List Key} {vs : List Val} {U : V} {f : Ps} (h : R K Cl P H (.node (.dct z ks) vs) U f) : ∃ a Ws g, U = .ref a ∧ H a = some (.dK (ks.zip Ws)) ∧ ks.length = Ws.length ∧ ks.Nodup ∧ Rs K Cl P H vs Ws g ∧ ∀ b, g b → f b := by
  obtain ⟨a, Ws, x, g, rfl, ⟨h1, h2, h3, _⟩, rs, sub⟩ := h.node_items
  exact ⟨a, Ws, g, rfl, h1, h2, h3, rs, sub⟩
theorem R.dtt_open {z : Bool} {ks : List (List Key)} {vs : List Val} {U : V} {f : Ps} (h : R K Cl P H (.node (.dtt z ks) vs) U f) : ∃ a Ws g, U = .ref a ∧ H a = some (.dT (ks.zip Ws)) ∧ ks.length = Ws.length ∧ ks.Nodup ∧ Rs K Cl P H vs Ws g ∧ ∀ b, g b → f b := by
  obtain ⟨a, Ws, x, g, rfl, ⟨h1, h2, h3, _⟩, rs, sub⟩ := h.node_items
  exact ⟨a, Ws, g, rfl, h1, h2, h3, rs, sub⟩
theorem pr_lenD : PrimOk K Cl (fun xs H Q => ∃ a kvs, xs = [V.ref a] ∧ H a = some (.dK kvs) ∧ Q (.int kvs.length) H) gLenD := by
  intro P H vs Vs Q v hw lv hg n
  unfold gLenD at hg
  split at hg
  · cases hg
    obtain ⟨X, f, rfl, h⟩ := hw.one
    obtain ⟨a, Ws, g, rfl, h1, h2, h3, rs, _⟩ := h.dct_open
    refine ⟨a, _, rfl, h1, ?_⟩
    rw [List.length_zip, h2, Nat.min_self, ← rs.length]
    exact n.int lv
  · cases hg
theorem pr_sortedD : PrimOk K Cl (fun xs H Q => ∃ (a : Addr) (kvs : List (Key × V)) (ks : List Int), xs = [.ref a] ∧ Rd H a (.dK kvs) ∧ kvs.map (·.1) = ks.map Sum.inl ∧ ∀ (ys : List Int) (p : Addr), ys.Perm ks → ys.Pairwise (· ≤ ·) → H p = none → Q (.ref p) (upd H p (.lst (ys.map V.int)))) gSortedD := by
  intro P H vs Vs Q v hw lv hg n
  unfold gSortedD at hg
  split at hg
  · rename_i z ks ws
    obtain ⟨ns, hi, rfl⟩ := Option.map_eq_some_iff.mp hg
    obtain ⟨X, f, rfl, h⟩ := hw.one
    obtain ⟨a, Ws, g, rfl, h1, h2, h3, rs, _⟩ := h.dct_open
    refine ⟨a, _, ns, rfl, .inl h1, by rw [List.map_fst_zip (by omega), intKs_map hi], fun ys p hp hs np => ?_⟩
    rw [sorted_srt hp hs]
    exact n.lst lv (rs_ints P H _) np
  · cases hg
/-- a new dict of pure values -/
theorem Nw.dct {ks : List Key} {vs : List Val} {Vs : List V} {Q : VK} (n : Nw K Cl P H (.node (.dct false ks) vs) Q) (lv : Lv P H) (r : Rs K Cl P H vs Vs emp) (hl : ks.length = Vs.length) (nd : ks.Nodup) {p : Addr} (h : H p = none) : Q (.ref p) (upd H p (.dK (ks.zip Vs))) := by
  refine n (.ref p) P _ (one p) (tr_upd h) ⟨p, Vs, one p, emp, rfl, ⟨upd_same, hl, nd, rfl⟩, r.tr (tr_upd h) (dis_emp _) (dis_emp _), ?_⟩ (fun b z => by rw [show b = p from z]; exact h) (lv_upd lv)
  rw [if_pos (show (Tag.dct false ks).own = true from rfl)]
  exact ⟨(uni_emp _).symm, dis_emp _, fun b z y => lv b y (by rw [show b = p from z]; exact h)⟩
theorem pr_dictD : PrimOk K Cl (fun xs H Q => ∃ (a : Addr) (kvs : List (Key × V)), xs = [.ref a] ∧ Rd H a (.dK kvs) ∧ ∀ p, H p = none → Q (.ref p) (upd H p (.dK kvs))) gDictD := by
  intro P H vs Vs Q v hw lv hg n
  unfold gDictD at hg
  split at hg
  · rename_i z ks ws
    by_cases hp : pures ws = true
    · rw [if_pos hp] at hg
      cases hg
      obtain ⟨X, f, rfl, h⟩ := hw.one
      obtain ⟨a, Ws, g, rfl, h1, h2, h3, rs, _⟩ := h.dct_open
      exact ⟨a, _, rfl, .inl h1, fun p np => n.dct lv (rs.emp hp) h2 h3 np⟩
    · rw [if_neg hp] at hg; cases hg
  · cases hg
theorem Rs.set1 {vs : List Val} {Ws : List V} {i : Nat} {v : Val} {W : V} (h : Rs K Cl P H vs Ws VS.emp) (r : R K Cl P H v W VS.emp) : Rs K Cl P H (vs.set i v) (Ws.set i W) VS.emp := by
  induction vs generalizing Ws i with
  | nil => simp only [Rs] at h; rw [h.1]; exact ⟨rfl, rfl⟩
  | cons u vs ih =>
    simp only [Rs] at h
    obtain ⟨U, Ws', f1, f2, rfl, h1, h2, hd, e⟩ := h
    have e1 : f1 = VS.emp := eq_emp fun b z => (show VS.emp b from by rw [e]; exact .inl z)
    have e2 : f2 = VS.emp := eq_emp fun b z => (show VS.emp b from by rw [e]; exact .inr z)
    subst e1 e2
    cases i with
    | zero => exact ⟨_, _, _, _, rfl, r, h2, dis_emp _, (uni_emp _).symm⟩
    | succ i => exact ⟨_, _, _, _, rfl, h1, ih h2, dis_emp _, (uni_emp _).symm⟩
theorem merge_rs : ∀ {qs : List Key} {ws : List Val} {Us : List V} {ks : List Key} {vs : List Val} {Ws : List V}, Rs K Cl P H ws Us emp → Rs K Cl P H vs Ws emp → qs.length = Us.length → ks.length = Ws.length → ks.Nodup →
    ∃ Ws', Rs K Cl P H (mergeP ks vs qs ws).2 Ws' emp ∧ (mergeP ks vs qs ws).1.length = Ws'.length ∧ (mergeP ks vs qs ws).1.Nodup ∧ mergeK (ks.zip Ws) (qs.zip Us) = (mergeP ks vs qs ws).1.zip Ws'
  | [], ws, Us, ks, vs, Ws, rw_, rv, hq, hk, nd => by
    have : Us = [] := List.eq_nil_of_length_eq_zero (by simpa using hq.symm)
    subst this
    have : ws = [] := List.eq_nil_of_length_eq_zero (by rw [rw_.length]; rfl)
    subst this
    exact ⟨Ws, rv, hk, nd, rfl⟩
  | q :: qs, [], Us, ks, vs, Ws, rw_, rv, hq, hk, nd => by
    simp only [Rs] at rw_
    rw [rw_.1] at hq; simp at hq
  | q :: qs, w :: ws, Us, ks, vs, Ws, rw_, rv, hq, hk, nd => by
    simp only [Rs] at rw_
    obtain ⟨U, Us', f1, f2, rfl, h1, h2, hd, e⟩ := rw_
    have e1 : f1 = emp := eq_emp fun b z => (show emp b from by rw [e]; exact .inl z)
    have e2 : f2 = emp := eq_emp fun b z => (show emp b from by rw [e]; exact .inr z)
    subst e1 e2
    have rp : Rs K Cl P H (putVs ks vs q w) (putVs ks Ws q U) emp := by
      unfold putVs
      cases idxK ks q with
      | some i => exact rv.set1 h1
      | none => exact rv.append ⟨_, _, emp, emp, rfl, h1, ⟨rfl, rfl⟩, dis_emp _, (uni_emp _).symm⟩
    obtain ⟨Ws', r1, r2, r3, r4⟩ := merge_rs (qs := qs) (ks := putKs ks q) h2 rp (by simpa using hq) (putVs_len hk) (putKs_nodup nd)
    refine ⟨Ws', r1, r2, r3, ?_⟩
    show mergeK (putK (ks.zip Ws) q U) (qs.zip Us') = (mergeP (putKs ks q) (putVs ks vs q w) qs ws).1.zip Ws'
    rw [← r4, putK_zip nd hk]
theorem pairs_rs : ∀ {xs : List Val} {Ws : List V} {g : Ps} {p : List Key × List Val}, Rs K Cl P H xs Ws g → pairsOf xs = some p → pures p.2 = true → ∃ (ps : List Addr) (Us : List V), Ws = ps.map V.ref ∧ p.1.length = Us.length ∧ Rs K Cl P H p.2 Us emp ∧ Paired (fun a (kv : Key × V) => SqT K H a [kV kv.1, kv.2]) ps (p.1.zip Us)
  | [], Ws, g, p, h, e, _ => by
    cases e
    simp only [Rs] at h
    exact ⟨[], [], h.1, rfl, ⟨rfl, rfl⟩, .nil⟩
  | .node .tup [k, v] :: xs, Ws, g, p, h, e, hp0 => by
    simp only [pairsOf, Option.bind_eq_some_iff, Option.map_eq_some_iff] at e
    obtain ⟨q, hq, p', hp, rfl⟩ := e
    simp only [pures, Bool.and_eq_true] at hp0
    simp only [Rs] at h
    obtain ⟨U, Ws', f1, f2, rfl, h1, h2, hd, rfl⟩ := h
    obtain ⟨a, Vs, g1, rfl, ha, rs, _⟩ := h1.tseq
    simp only [Rs] at rs
    obtain ⟨Uk, r1, k1, k2, rfl, rk, ⟨Uv, r2, k3, k4, rfl, rv, ⟨rfl, _⟩, _, _⟩, hd2, _⟩ := rs
    obtain ⟨ps, Us, rfl, hl, rr, pp⟩ := pairs_rs h2 hp hp0.2
    have hk := rk.key hq
    subst hk
    rw [rv.pure_emp hp0.1] at rv
    exact ⟨a :: ps, Uv :: Us, rfl, by simp [hl], ⟨Uv, Us, emp, emp, rfl, rv, rr, dis_emp _, (uni_emp _).symm⟩, .cons ha pp⟩
  | .non :: xs, Ws, g, p, h, e, _ => by simp [pairsOf] at e
  | .bl _ :: xs, Ws, g, p, h, e, _ => by simp [pairsOf] at e
  | .int _ :: xs, Ws, g, p, h, e, _ => by simp [pairsOf] at e
  | .str _ :: xs, Ws, g, p, h, e, _ => by simp [pairsOf] at e
  | .node .tup [] :: xs, Ws, g, p, h, e, _ => by simp [pairsOf] at e
  | .node .tup [_] :: xs, Ws, g, p, h, e, _ => by simp [pairsOf] at e
  | .node .tup (_ :: _ :: _ :: _) :: xs, Ws, g, p, h, e, _ => by simp [pairsOf] at e
  | .node .ktup _ :: xs, Ws, g, p, h, e, _ => by simp [pairsOf] at e
  | .node .ptup _ :: xs, Ws, g, p, h, e, _ => by simp [pairsOf] at e
  | .node .rol _ :: xs, Ws, g, p, h, e, _ => by simp [pairsOf] at e
  | .node (.lst _) _ :: xs, Ws, g, p, h, e, _ => by simp [pairsOf] at e
  | .node (.dct _ _) _ :: xs, Ws, g, p, h, e, _ => by simp [pairsOf] at e
  | .node (.dtt _ _) _ :: xs, Ws, g, p, h, e, _ => by simp [pairsOf] at e
  | .node (.ins _ _ _) _ :: xs, Ws, g, p, h, e, _ => by simp [pairsOf] at e
end
end VS

/-! dicts: items, get, stores; list items stored -/
namespace VS
open PySem L2
section
variable {K : PySem.W.Frag} {Cl ClX : Nat → Addr} {X : Cx} {W : WX} {P P' : Ps} {H H' : Hp} {σ : L2.St}
theorem isD_of {v : Val} {U : V} {f : Ps} (h : R K Cl P H v U f) (m : isDct v = true) : ∃ a, U = .ref a ∧ IsD H a := by
  unfold isDct at m
  split at m
  · obtain ⟨a, Ws, g, rfl, h1, _⟩ := h.dct_open
    exact ⟨a, rfl, .inl ⟨_, .inl h1⟩⟩
  · obtain ⟨a, Ws, g, rfl, h1, _⟩ := h.dtt_open
    exact ⟨a, rfl, .inr ⟨_, .inl h1⟩⟩
  · cases m
theorem dix_node {x k : Val} {t : Tag} {vs : List Val} {i : Nat} (h : dixOf x k = some (t, vs, i)) : x = .node t vs := by
  unfold dixOf at h
  split at h
  · simp only [Option.bind_eq_some_iff, Option.map_eq_some_iff] at h
    obtain ⟨q, _, j, _, e⟩ := h
    cases e; rfl
  · simp only [Option.bind_eq_some_iff, Option.map_eq_some_iff] at h
    obtain ⟨q, _, j, _, e⟩ := h
    cases e; rfl
  · cases h
theorem dix_get {x k : Val} {t : Tag} {vs : List Val} {i : Nat} {U' : V} {fy : Ps} {a : Addr} {Ws : List V} {xx : Ps} {U1 : V} (h : dixOf x k = some (t, vs, i)) (ry : R K Cl P H k U' fy) (hh : Hold K Cl H t a Ws xx) (e : Ws[i]? = some U1) : DGet H a U' (some U1) := by
  unfold dixOf at h
  split at h
  · simp only [Option.bind_eq_some_iff, Option.map_eq_some_iff] at h
    obtain ⟨q, hq, j, hj, e'⟩ := h
    cases e'
    obtain ⟨h1, h2, h3, _⟩ := hh
    have := DGet.k (k := q) h1
    rw [valV_idx h2, hj, Option.bind_some, e] at this
    rw [ry.key hq]
    exact this
  · simp only [Option.bind_eq_some_iff, Option.map_eq_some_iff] at h
    obtain ⟨q, hq, j, hj, e'⟩ := h
    cases e'
    obtain ⟨h1, h2, h3, _⟩ := hh
    obtain ⟨b, rfl, hb⟩ := ry.tkey hq
    have := DGet.t (k := q) h1 hb
    rw [valV_idx h2, hj, Option.bind_some, e] at this
    exact this
  · cases h
theorem sDx_inv {as : List (Val × Src)} {ρ : Env} : sDx as ρ = .bad ∨ ∃ x s y s' t vs k v, as = [(x, s), (y, s')] ∧ dixOf x y = some (t, vs, k) ∧ vs[k]? = some v ∧ sDx as ρ = .ok (v, childSrc s t k v) ρ := by
  rcases as with _ | ⟨⟨x, s⟩, _ | ⟨⟨y, s'⟩, _ | ⟨z, r⟩⟩⟩
  · exact .inl rfl
  · exact .inl rfl
  · cases e : dixOf x y with
    | none => left; simp only [sDx, e]
    | some tv =>
      obtain ⟨t, vs, k⟩ := tv
      cases e2 : vs[k]? with
      | none => left; simp only [sDx, e, e2]
      | some v => right; exact ⟨x, s, y, s', t, vs, k, v, rfl, e, e2, by simp only [sDx, e, e2]⟩
  · exact .inl rfl
theorem tv_ixd {e1 e2 : Bool} {s1 s2 : Env → Res (Val × Src)} {a b : Expr} {pos : Pos} (hu : X.A.units + 1 < cLine) (q2 : Quiet e2 s2) (ha : PE X a (tV X.K Cl ClX W e1 s1)) (hb : PE X b (tV X.K Cl ClX W e2 s2)) (hs : NoSl b) :
    PE X (.Subscript a b pos) (tV X.K Cl ClX W (e1 || (e2 || false)) (sThen (argsCons (!(e2 || false)) s1 (argsCons (!false) s2 argsNil)) sDx)) := PE.le (pe_dget hu ha hb hs) fun σ H Q h => by
  rw [show (e1 || (e2 || false)) = ((e1 || (e2 || false)) || false) from by simp] at h
  have h2 := then_ok (Q1 := fun Vs H2 => ∃ x y, Vs = [x, y] ∧ ∃ a v, x = .ref a ∧ DGet H2 a y (some v) ∧ Q v H2) false h ?_
  · exact tv_mono (two_args q2 h2) fun x H1 h1 => tv_mono h1 fun y H2 ⟨x', y', e, z⟩ => by cases e; exact z
  · intro as ρ1 P H0 f P1 H1 f1 F Vs o1 a1 d1 sb q
    rcases sDx_inv (as := as) (ρ := ρ1) with hk | ⟨x, s, y, s', t, vs, k, v, rfl, e, ev, hk⟩
    · rw [hk] at q; exact q.elim
    · rw [hk] at q
      obtain ⟨U, U', fx, fy, rfl, rx, ry, hsrc⟩ := args2 a1
      obtain rfl := dix_node e
      obtain ⟨b, Ws, xx, g, rfl, hh, rs, sub⟩ := rx.node_items
      obtain ⟨U1, g1, g2, e3, r1, _, rfl, _⟩ := rs.pick ev
      have sub1 : ∀ b, g1 b → fx b := fun b z => sub b (.inl z)
      have sb1 : SbOk H0 g1 f (childSrc s t k v) := by
        unfold childSrc
        by_cases hp : v.pure = true
        · rw [if_pos hp, r1.pure_emp hp]
          exact fun _ z => z.elim
        · rw [if_neg hp]
          cases s with
          | tmp => exact fun c z => sb c (hsrc.2 c (sub1 c z))
          | brw => trivial
          | plc i p => by_cases ho : t.own = true <;> simp only [ho] <;> trivial
      have so : SrcOk X.K Cl H1 ρ1 σ f1 g1 v U1 (childSrc s t k v) := child_src (fx := fx) hh ev e3 r1 sub1 (by
        cases s with
        | tmp => exact ⟨hsrc.1, trivial⟩
        | brw => trivial
        | plc i p => exact hsrc)
      exact ⟨_, _, rfl, b, U1, rfl, dix_get e ry hh e3, q U1 H1 ⟨P1, f1, g1, o1.up false, r1, so, sb1⟩⟩
/-! get -/
theorem get_ok {x k d : Val} {U' U2 : V} {fx fy fz : Ps} {a : Addr} {v : Val} {Q : VK} (rx : R K Cl P H x (.ref a) fx) (ry : R K Cl P H k U' fy) (rz : R K Cl P H d U2 fz) (lv : Lv P H) (hg : gGet2 [x, k, d] = some v) (n : Nw K Cl P H v Q) : ∃ o, DGet H a U' o ∧ Q (o.getD U2) H := by
  have fin : ∀ {ks : Nat} {vs : List Val} {Ws : List V} {g : Ps} (o : Option Nat), Rs K Cl P H vs Ws g → (match o.bind fun i => vs[i]? with
      | some v => if v.pure = true then some v else none
      | none => if d.pure = true then some d else none) = some v → Q ((o.bind fun i => Ws[i]?).getD U2) H := by
    intro ks vs Ws g o rs hv
    have hn : ∀ i, vs[i]? = none → Ws[i]? = none := fun i hi => by
      rw [List.getElem?_eq_none_iff] at hi ⊢
      rw [← rs.length]; exact hi
    cases o with
    | none =>
      simp only [Option.bind_none] at hv
      by_cases hp : d.pure = true
      · rw [if_pos hp] at hv; cases hv
        rw [rz.pure_emp hp] at rz
        exact n.sc lv rz
      · rw [if_neg hp] at hv; cases hv
    | some i =>
      simp only [Option.bind_some] at hv ⊢
      cases hi : vs[i]? with
      | none =>
        rw [hi] at hv
        rw [hn i hi]
        dsimp only at hv
        by_cases hp : d.pure = true
        · rw [if_pos hp] at hv; cases hv
          rw [rz.pure_emp hp] at rz
          exact n.sc lv rz
        · rw [if_neg hp] at hv; cases hv
      | some w =>
        rw [hi] at hv
        dsimp only at hv
        obtain ⟨U1, g1, g2, e3, r1, _⟩ := rs.pick hi
        by_cases hp : w.pure = true
        · rw [if_pos hp] at hv; cases hv
          rw [r1.pure_emp hp] at r1
          rw [e3]
          exact n.sc lv r1
        · rw [if_neg hp] at hv; cases hv
  unfold gGet2 at hg
  dsimp only at hg
  split at hg
  · simp only [Option.bind_eq_some_iff] at hg
    obtain ⟨q, hq, hg⟩ := hg
    obtain ⟨a', Ws, g, e, h1, h2, h3, rs, _⟩ := rx.dct_open
    cases e
    refine ⟨_, by rw [ry.key hq]; exact DGet.k h1, ?_⟩
    rw [valV_idx h2]
    exact fin (ks := 0) _ rs hg
  · split at hg
    · simp only [Option.bind_eq_some_iff] at hg
      obtain ⟨q, hq, hg⟩ := hg
      obtain ⟨a', Ws, g, e, h1, h2, h3, rs, _⟩ := rx.dtt_open
      cases e
      obtain ⟨b, rfl, hb⟩ := ry.tkey hq
      refine ⟨_, DGet.t h1 hb, ?_⟩
      rw [valV_idx h2]
      exact fin (ks := 0) _ rs hg
    · cases hg
  · cases hg
theorem pr_get2 : PrimOk K Cl (fun Vs H Q => ∃ x y z a, Vs = [x, y, z] ∧ x = .ref a ∧ ∃ o, DGet H a y o ∧ Q (o.getD z) H) gGet2 := by
  intro P H vs Vs Q v hw lv hg n
  rcases vs with _ | ⟨x, _ | ⟨k, _ | ⟨d, _ | ⟨_, _⟩⟩⟩⟩
  · cases hg
  · cases hg
  · cases hg
  · obtain ⟨U, r, fx, rfl, rx, U', r', fy, rfl, ry, U2, r2, fz, rfl, rz, rfl⟩ := hw
    have hx : isDct x = true := by
      unfold gGet2 at hg
      dsimp only at hg
      split at hg
      · rfl
      · rfl
      · cases hg
    obtain ⟨a, rfl, _⟩ := isD_of rx hx
    exact ⟨_, _, _, a, rfl, rfl, get_ok rx ry rz lv hg n⟩
  · cases hg
theorem pr_get1 : PrimOk K Cl (fun Vs H Q => ∃ x y a, Vs = [x, y] ∧ x = .ref a ∧ ∃ o, DGet H a y o ∧ Q (o.getD .non) H) gGet1 := by
  intro P H vs Vs Q v hw lv hg n
  rcases vs with _ | ⟨x, _ | ⟨k, _ | ⟨_, _⟩⟩⟩
  · cases hg
  · cases hg
  · obtain ⟨U, r, fx, rfl, rx, U', r', fy, rfl, ry, rfl⟩ := hw
    have hg : gGet2 [x, k, .non] = some v := hg
    have hx : isDct x = true := by
      unfold gGet2 at hg
      dsimp only at hg
      split at hg
      · rfl
      · rfl
      · cases hg
    obtain ⟨a, rfl, _⟩ := isD_of rx hx
    exact ⟨_, _, a, rfl, rfl, get_ok rx ry (d := .non) (U2 := .non) (fz := emp) ⟨rfl, rfl⟩ lv hg n⟩
  · cases hg
theorem tv_get2 {e1 e2 e3 : Bool} {s1 s2 s3 : Env → Res (Val × Src)} {o a b : Expr} {apos cpos : Pos} (hu : X.A.units + 1 < cLine) (q2 : Quiet e2 s2) (q3 : Quiet e3 s3) (ho : PE X o (tV X.K Cl ClX W e1 s1)) (ha : PE X a (tV X.K Cl ClX W e2 s2)) (hb : PE X b (tV X.K Cl ClX W e3 s3)) (m : M2 X o "get" apos a b cpos) :
    PE X (.Call (.Attribute o "get" apos) [a, b] [] cpos) (tV X.K Cl ClX W (e1 || (e2 || (e3 || false))) (prim gGet2 (argsCons (!(e2 || (e3 || false))) (sMid isDct s1) (argsCons (!(e3 || false)) s2 (argsCons (!false) s3 argsNil))))) :=
  PE.le (pe_dget2 hu ho ha hb m) fun σ H Q h =>
    tv_mono (mid_ok (three_args q2 q3 (prim_ok pr_get2 h))) fun x H1 ⟨⟨v, P1, f1, hm, rv⟩, h1⟩ => by
      obtain ⟨a, rfl, hd⟩ := isD_of rv hm
      exact ⟨a, rfl, hd, tv_mono h1 fun y H2 h2 => tv_mono h2 fun z H3 ⟨x', y', z', a', e, e2, o, g, q⟩ => by cases e; cases e2; exact ⟨o, g, q⟩⟩
theorem tv_get1 {e1 e2 : Bool} {s1 s2 : Env → Res (Val × Src)} {o a : Expr} {apos cpos : Pos} (hu : X.A.units + 1 < cLine) (q2 : Quiet e2 s2) (ho : PE X o (tV X.K Cl ClX W e1 s1)) (ha : PE X a (tV X.K Cl ClX W e2 s2)) (m : M1 X o "get" apos a cpos) :
    PE X (.Call (.Attribute o "get" apos) [a] [] cpos) (tV X.K Cl ClX W (e1 || (e2 || false)) (prim gGet1 (argsCons (!(e2 || false)) (sMid isDct s1) (argsCons (!false) s2 argsNil)))) :=
  PE.le (pe_dget1 hu ho ha m) fun σ H Q h =>
    tv_mono (mid_ok (two_args q2 (prim_ok pr_get1 h))) fun x H1 ⟨⟨v, P1, f1, hm, rv⟩, h1⟩ => by
      obtain ⟨a, rfl, hd⟩ := isD_of rv hm
      exact ⟨a, rfl, hd, tv_mono h1 fun y H2 ⟨x', y', a', e, e2, o, g, q⟩ => by cases e; cases e2; exact ⟨o, g, q⟩⟩
/-! new ones -/
theorem pr_newK : PrimOk K Cl (fun Vs H Q => Vs = [] ∧ ∀ p, H p = none → Q (.ref p) (upd H p (.dK []))) gNewK := by
  intro P H vs Vs Q v hw lv hg n
  unfold gNewK at hg
  split at hg
  · cases hg
    exact ⟨hw, fun p np => n.dct (ks := []) (vs := []) (Vs := []) lv ⟨rfl, rfl⟩ rfl List.nodup_nil np⟩
  · cases hg
theorem pr_newT : PrimOk K Cl (fun Vs H Q => Vs = [] ∧ ∀ p, H p = none → Q (.ref p) (upd H p (.dT []))) gNewT := by
  intro P H vs Vs Q v hw lv hg n
  unfold gNewT at hg
  split at hg
  · cases hg
    refine ⟨hw, fun p h => n (.ref p) P _ (one p) (tr_upd h) ⟨p, [], one p, emp, rfl, ⟨upd_same, rfl, List.nodup_nil, rfl⟩, ⟨rfl, rfl⟩, ?_⟩ (fun b z => by rw [show b = p from z]; exact h) (lv_upd lv)⟩
    rw [if_pos (show (Tag.dtt false []).own = true from rfl)]
    exact ⟨(uni_emp _).symm, dis_emp _, fun b z y => lv b y (by rw [show b = p from z]; exact h)⟩
  · cases hg
theorem tv_new {t : TE} {pe : Expr} {g : List Val → Option Val} {r : List V → Hp → VK → Prop} (h : PE X pe t) (pr : PrimOk X.K Cl r g) (hr : ∀ σ H Q, r [] H Q → t σ H Q) : PE X pe (tV X.K Cl ClX W false (prim g argsNil)) :=
  PE.le h fun σ H Q h => by
    obtain ⟨P, ρ, f, l, lv, q⟩ := prim_ok pr h
    exact hr _ _ _ (q [] H ⟨P, f, emp, Out.refl l lv, ⟨rfl, rfl⟩, emp_dis _, fun _ z => z.elim⟩)
/-! ### a change at an object -/
theorem node_close {t : Tag} {xs : List Val} {Ws : List V} {a : Addr} {x0 g : Ps} {o : HO} (ho : t.own = true) (hh : Hold K Cl (upd H a o) t a Ws x0) (h : Rs K Cl P H xs Ws g) (ha : x0 a) (na : ∀ b, x0 b → ¬ g b) (np : ∀ b, x0 b → ¬ P b) : R K Cl P (upd H a o) (.node t xs) (.ref a) (uni x0 g) := by
  simp only [R]
  refine ⟨a, Ws, x0, g, rfl, hh, h.frame (fun b o e z => ?_) (fun b _ => Iff.rfl), ?_⟩
  · rw [upd_ne]
    · exact e
    · rintro rfl
      exact z.elim (np _ ha) (na _ ha)
  · rw [if_pos ho]
    exact ⟨rfl, fun b x y => na b x y, fun b x => np b x⟩
theorem mu_finG {x x' : Val} {s : Src} {ρ1 : Env} {f1 F : Ps} {Q : VK} {fz : Ps} {e : Bool} {P0 : Ps} {H0 : Hp} {fx gA : Ps} {a : Addr} {o' : HO} {x0 g' : Ps} {v : Val} {Y : V} {fv : Ps} {g : Ps}
    (o1 : Out K Cl P0 H0 fz e ρ1 σ P H f1) (sF : Sub H0 F fz) (dF : dis F f1) (rx : R K Cl P H x (.ref a) fx) (hx : fx = uni x0 g) (ha0 : x0 a) (na : ∀ b, x0 b → ¬ g b) (np : ∀ b, x0 b → ¬ P b) (sx : match s with
      | .tmp => ∀ b, fx b → F b
      | .brw => False
      | .plc i p => PlcOk K Cl H ρ1 σ x (.ref a) i p) (sA : ∀ b, gA b → F b) (dA : dis gA fx) (r' : R K Cl P (upd H a o') x' (.ref a) (uni x0 g')) (rv : R K Cl P H v Y fv) (hg : ∀ b, g' b → g b ∨ gA b) (hv : ∀ b, fv b → g b ∨ gA b) (dv : dis fv g')
    (q : ∀ ρ' U H', (match s with
      | .plc i p => ρ' = putAt ρ1 i p x'
      | _ => ρ' = ρ1) → Out1 K Cl P0 H0 fz true ρ' σ v .tmp U H' → Q U H') : Q Y (upd H a o') := by
  have nA : ∀ b, x0 b → ¬ gA b := fun b z y => dA b y (by rw [hx]; exact .inl z)
  have ng' : ∀ b, x0 b → ¬ g' b := fun b z y => (hg b y).elim (na b z) (nA b z)
  have nv : ∀ b, x0 b → ¬ fv b := fun b z y => (hv b y).elim (na b z) (nA b z)
  have rv' : R K Cl P (upd H a o') v Y fv := rv.upd (nv a ha0) (np a ha0)
  have t : Tr P H (one a) P (upd H a o') := ⟨fun b o e n => by rw [upd_ne n]; exact e, fun _ z => z, fun _ z => .inl z⟩
  have lv' : Lv P (upd H a o') := lv_upd o1.lv
  have h0 : ∀ b, fx b → fz b ∨ H0 b = none := fun b z => by
    cases s with
    | tmp => exact sF b (sx b z)
    | brw => exact sx.elim
    | plc i p =>
      have := (plc_put (P' := P) (H' := H) o1.re sx rx (fun _ _ e _ => e) (fun _ _ => Iff.rfl) rx (fun _ z _ => z)).1 b z
      exact o1.sub b this
  have hv0 : Sub H0 fv fz := fun b z => (hv b z).elim (fun z => h0 b (by rw [hx]; exact .inr z)) fun z => sF b (sA b z)
  have t0 : Tr P0 H0 fz P (upd H a o') := (o1.tr.weak (wr_sub _ _)).trans t fun b z => h0 b (by rw [hx, show b = a from z]; exact .inl ha0)
  cases s with
  | brw => exact sx.elim
  | tmp =>
    have l' : RE K Cl P (upd H a o') ρ1 σ f1 := o1.re.tr t (fun b x y => dF a (sx a (by rw [hx]; exact .inl ha0)) (by rw [← show b = a from y]; exact x)) (fun b x y => np a ha0 (by rw [← show b = a from y]; exact x))
    refine q ρ1 Y _ rfl ⟨P, f1, fv, ⟨t0, l', o1.sub, fun z => (by cases z), lv'⟩, rv', fun b z y => ?_, hv0⟩
    rcases hv b z with z | z
    · exact dF b (sx b (by rw [hx]; exact .inr z)) y
    · exact dF b (sA b z) y
  | plc i p =>
    have hgf : ∀ b, g b → fx b := fun b z => by rw [hx]; exact .inr z
    obtain ⟨sub, f2, l2, e2⟩ := plc_put (P' := P) (H' := upd H a o') (v' := x') (fv' := uni x0 g') o1.re sx rx (fun b o e z => by
        rw [upd_ne]
        · exact e
        · rintro rfl
          rcases z with z | z
          · exact np _ ha0 z
          · exact z.2 (by rw [hx]; exact .inl ha0)) (fun _ _ => Iff.rfl) r' (fun b z y => by
        rcases z with z | z
        · rw [hx]; exact .inl z
        · rcases hg b z with z | z
          · exact hgf b z
          · exact (dF b (sA b z) y).elim)
    refine q _ Y _ rfl ⟨P, f2, fv, ⟨t0, l2, fun b z => ?_, fun z => (by cases z), lv'⟩, rv', fun b z y => ?_, hv0⟩
    · rcases (e2 b).mp z with z | z | z
      · exact o1.sub b z.1
      · exact h0 b (by rw [hx]; exact .inl z)
      · exact (hg b z).elim (fun z => h0 b (hgf b z)) fun z => sF b (sA b z)
    · rcases (e2 b).mp y with y | y | y
      · rcases hv b z with z | z
        · exact y.2 (hgf b z)
        · exact dF b (sA b z) y.1
      · exact nv b y z
      · exact dv b z y
end
end VS

/-! d[k] = v, xs[i] = v -/
namespace VS
open PySem L2
section
variable {K : PySem.W.Frag} {Cl ClX : Nat → Addr} {X : Cx} {W : WX} {pr : List Nat}
theorem flow_args {e : Bool} {s : Env → Res (List (Val × Src))} {k : List (Val × Src) → Env → Flow} {σ : L2.St} {H : Hp} {D : Ends} {Q1 : List V → Hp → Prop} (h : tS K Cl ClX W pr (fun ρ => (s ρ).flow k) D σ H)
    (hk : ∀ as ρ1 P H0 f P1 H1 f1 F Vs, Out K Cl P H0 f e ρ1 σ P1 H1 f1 → ArgsOk K Cl P1 H1 ρ1 σ f1 as Vs F → dis F f1 → Sub H0 F f → WF K Cl ClX W pr P H0 f σ D (k as ρ1) → Q1 Vs H1) : tVs K Cl ClX W e s σ H Q1 := by
  obtain ⟨P, ρ, f, l, lv, q⟩ := h
  refine ⟨P, ρ, f, l, lv, ?_⟩
  dsimp only at q
  cases hs : s ρ with
  | bad => rw [hs] at q; exact q
  | exc x ρ1 =>
    rw [hs] at q
    exact fun c d H' ⟨P', f', o', xo⟩ => q c d σ P' H' f' (OutS.of o') xo
  | ok as ρ1 =>
    rw [hs] at q
    exact fun Vs H1 ⟨P1, f1, F, o1, a1, d1, sb⟩ => hk as ρ1 P H f P1 H1 f1 F Vs o1 a1 d1 sb q
/-- what a store is asked by the values -/
def PutOk (K : PySem.W.Frag) (Cl : Nat → Addr) (g : Val → Val → Val → Option Val) (r : V → V → V → Hp → (Hp → Prop) → Prop) : Prop := ∀ {P : Ps} {H : Hp} {x k v x' : Val} {U Uk Uv : V} {fx fk fv : Ps} {Q : Hp → Prop},
  g x k v = some x' → R K Cl P H x U fx → R K Cl P H k Uk fk → R K Cl P H v Uv fv → dis fv fx →
  (∀ a o' x0 gg g', U = .ref a → fx = uni x0 gg → x0 a → (∀ b, x0 b → ¬ gg b) → (∀ b, x0 b → ¬ P b) → R K Cl P (upd H a o') x' (.ref a) (uni x0 g') → (∀ b, g' b → gg b ∨ fv b) → Q (upd H a o')) → r U Uk Uv H Q
theorem put_core {g : Val → Val → Val → Option Val} {r : V → V → V → Hp → (Hp → Prop) → Prop} (pk : PutOk K Cl g r) {e : Bool} {s : Env → Res (List (Val × Src))} {σ : L2.St} {H : Hp} {D : Ends} (h : tS K Cl ClX W pr (fun ρ => (s ρ).flow (sPut g)) D σ H) :
    tVs K Cl ClX W e s σ H fun Vs H1 => ∃ v x k, Vs = [v, x, k] ∧ r x k v H1 fun H2 => D.nx σ H2 := by
  refine flow_args h fun as ρ1 P H0 f P1 H1 f1 F Vs o1 a1 d1 sb q => ?_
  rcases as with _ | ⟨⟨v, sv⟩, _ | ⟨⟨x, sx⟩, _ | ⟨⟨k, sk⟩, _ | ⟨_, _⟩⟩⟩⟩
  · exact q.elim
  · cases sv <;> exact q.elim
  · cases sv <;> exact q.elim
  · cases sv with
    | brw => exact q.elim
    | plc i p => exact q.elim
    | tmp =>
      simp only [sPut] at q
      cases hg : g x k v with
      | none => rw [hg] at q; exact q.elim
      | some x' =>
        rw [hg] at q
        dsimp only at q
        simp only [ArgsOk] at a1
        obtain ⟨Uv, V1, fv, g1, rfl, rv, ⟨U, V2, fx, g2, rfl, rx, ⟨Uk, V3, fk, g3, rfl, rk, ⟨rfl, rfl⟩, kk⟩, xx⟩, vf, vg, rfl⟩ := a1
        refine ⟨Uv, U, Uk, rfl, ?_⟩
        cases sx with
        | brw => exact q.elim
        | tmp =>
          obtain ⟨x1, x2, rfl⟩ := xx
          have dvx : dis fv fx := fun b y z => vg b y (.inl z)
          refine pk hg rx rk rv dvx fun a o' x0 gg g' e1 e2 e3 e4 e5 e6 e7 => ?_
          subst e1
          have := mu_finG (K := K) (Cl := Cl) (s := .tmp) (F := uni fv (uni fx g2)) (v := .non) (Y := .non) (fv := emp) (gA := fv) (Q := fun _ H' => D.nx σ H') o1 sb d1 rx e2 e3 e4 e5 (fun b z => .inr (.inl z)) (fun b z => .inl z) dvx e6 ⟨rfl, rfl⟩ e7 (fun _ z => z.elim) (emp_dis _) fun ρ' U H' e z => ?_
          · exact this
          · subst e
            obtain ⟨P', f', fv', o, _⟩ := z
            exact q σ P' H' f' (OutS.of o)
        | plc i p =>
          obtain ⟨pl, rfl⟩ := xx
          have hsub := (plc_put (P' := P1) (H' := H1) o1.re pl rx (fun _ _ e _ => e) (fun _ _ => Iff.rfl) rx (fun _ z _ => z)).1
          have dvx : dis fv fx := fun b y z => d1 b (.inl y) (hsub b z)
          refine pk hg rx rk rv dvx fun a o' x0 gg g' e1 e2 e3 e4 e5 e6 e7 => ?_
          subst e1
          have := mu_finG (K := K) (Cl := Cl) (s := .plc i p) (F := uni fv g1) (v := .non) (Y := .non) (fv := emp) (gA := fv) (Q := fun _ H' => D.nx σ H') o1 sb d1 rx e2 e3 e4 e5 pl (fun b z => .inl z) dvx e6 ⟨rfl, rfl⟩ e7 (fun _ z => z.elim) (emp_dis _) fun ρ' U H' e z => ?_
          · exact this
          · subst e
            obtain ⟨P', f', fv', o, _⟩ := z
            exact q σ P' H' f' (OutS.of o)
  · cases sv <;> exact q.elim
theorem Rs.setW {P : Ps} {H : Hp} {vs : List Val} {Ws : List V} {g : Ps} {i : Nat} {v w : Val} {W : V} {fv : Ps} (h : Rs K Cl P H vs Ws g) (e : vs[i]? = some w) (r : R K Cl P H v W fv) (d : dis fv g) : ∃ g', Rs K Cl P H (vs.set i v) (Ws.set i W) g' ∧ ∀ b, g' b → g b ∨ fv b := by
  obtain ⟨W1, f1, g1, e1, r1, d1, rfl, put⟩ := h.pick e
  exact ⟨_, put (fun _ _ e _ => e) (fun _ _ => Iff.rfl) r fun b x y => d b x (.inr y), fun b z => z.elim .inr fun z => .inl (.inr z)⟩
theorem put_rs {κ : Type} [DecidableEq κ] {P : Ps} {H : Hp} {ks : List κ} {q : κ} {vs : List Val} {Ws : List V} {g : Ps} {v : Val} {W : V} {fv : Ps} (h : Rs K Cl P H vs Ws g) (hl : ks.length = Ws.length) (r : R K Cl P H v W fv) (d : dis fv g) : ∃ g', Rs K Cl P H (putVs ks vs q v) (putVs ks Ws q W) g' ∧ ∀ b, g' b → g b ∨ fv b := by
  unfold putVs
  cases e : idxK ks q with
  | none => exact ⟨uni g fv, h.app ⟨W, [], fv, emp, rfl, r, ⟨rfl, rfl⟩, dis_emp _, (uni_emp _).symm⟩ d.symm, fun _ z => z⟩
  | some i =>
    have hi := idxK_lt e
    have : i < vs.length := by rw [h.length]; omega
    exact h.setW (List.getElem?_eq_getElem this) r d
theorem po_put : PutOk K Cl putOf fun x k v H Q => ∃ a H', x = .ref a ∧ DPut H a k v H' ∧ Q H' := by
  intro P H x k v x' U Uk Uv fx fk fv Q hg rx rk rv d kq
  unfold putOf at hg
  split at hg
  · rename_i ks vs
    simp only [Option.bind_eq_some_iff] at hg
    obtain ⟨q, hq, hg⟩ := hg
    by_cases hl : decide (vs.length < 16777216) = true
    case neg => rw [if_neg hl] at hg; cases hg
    rw [if_pos hl] at hg
    cases hg
    simp only [R] at rx
    obtain ⟨a, Ws, x0, gg, rfl, ⟨h1, h2, h3, rfl⟩, rs, hf⟩ := rx
    rw [if_pos (show (Tag.dct false ks).own = true from rfl)] at hf
    obtain ⟨rfl, dd, np⟩ := hf
    obtain ⟨g', rs', sg⟩ := put_rs (ks := ks) (q := q) rs h2 rv fun b y z => d b y (.inr z)
    have hlen := of_decide_eq_true hl
    have hput := DPut.k (v := Uv) h1 (k := q) (by rw [List.length_zip, h2, Nat.min_self, ← rs.length, sizeLine_eq]; exact hlen)
    refine ⟨a, _, rfl, by rw [rk.key hq]; exact hput, ?_⟩
    have na : ∀ b, one a b → ¬ gg b := dd
    have na' : ∀ b, one a b → ¬ g' b := fun b z y => (sg b y).elim (dd b z) fun y => d b y (.inl z)
    refine kq a _ (one a) gg g' rfl rfl rfl na np ?_ sg
    refine node_close (t := .dct false (putKs ks q)) rfl ⟨?_, putVs_len h2, putKs_nodup h3, rfl⟩ rs' rfl na' np
    rw [upd_same, putK_zip h3 h2]
  · rename_i ks vs xs
    simp only [Option.bind_eq_some_iff] at hg
    obtain ⟨q, hq, hg⟩ := hg
    by_cases hl : decide (vs.length < 16777216) = true
    case neg => rw [if_neg hl] at hg; cases hg
    rw [if_pos hl] at hg
    cases hg
    simp only [R] at rx
    obtain ⟨a, Ws, x0, gg, rfl, ⟨h1, h2, h3, rfl⟩, rs, hf⟩ := rx
    rw [if_pos (show (Tag.dtt false ks).own = true from rfl)] at hf
    obtain ⟨rfl, dd, np⟩ := hf
    obtain ⟨g', rs', sg⟩ := put_rs (ks := ks) (q := q) rs h2 rv fun b y z => d b y (.inr z)
    have hlen := of_decide_eq_true hl
    obtain ⟨b, rfl, hb⟩ := R.tkey rk hq
    have hput := DPut.t (v := Uv) h1 (k := q) hb (by rw [List.length_zip, h2, Nat.min_self, ← rs.length, sizeLine_eq]; exact hlen)
    refine ⟨a, _, rfl, hput, ?_⟩
    have na : ∀ b, one a b → ¬ gg b := dd
    have na' : ∀ b, one a b → ¬ g' b := fun b z y => (sg b y).elim (dd b z) fun y => d b y (.inl z)
    refine kq a _ (one a) gg g' rfl rfl rfl na np ?_ sg
    refine node_close (t := .dtt false (putKs ks q)) rfl ⟨?_, putVs_len h2, putKs_nodup h3, rfl⟩ rs' rfl na' np
    rw [upd_same, putK_zip h3 h2]
  · cases hg
theorem po_lput : PutOk K Cl lputOf fun x k v H Q => rSetL x k v H Q := by
  intro P H x k v x' U Uk Uv fx fk fv Q hg rx rk rv d kq
  unfold lputOf at hg
  split at hg
  · rename_i vs i
    obtain ⟨j, hj, rfl⟩ := Option.map_eq_some_iff.mp hg
    obtain ⟨a, Ws, gg, rfl, ha, rs, rfl, na, np⟩ := rx.lst_open
    simp only [R] at rk
    have hjl : j < vs.length := (ixN_seq hj).2.1
    obtain ⟨g', rs', sg⟩ := rs.setW (List.getElem?_eq_getElem hjl) rv fun b y z => d b y (.inr z)
    refine ⟨a, Ws, i, j, rfl, rk.1, ha, by rw [← rs.length]; exact hj, ?_⟩
    have na' : ¬ g' a := fun z => (sg a z).elim na fun y => d a y (.inl rfl)
    exact kq a _ (one a) gg g' rfl rfl rfl (fun b z y => na (by rw [← show b = a from z]; exact y)) (fun b z y => np (by rw [← show b = a from z]; exact y)) (lst_close (o := .lst (Ws.set j Uv)) rs' na' np) sg
  · cases hg
theorem ts_dput {e1 e2 e3 : Bool} {s1 s2 s3 : Env → Res (Val × Src)} {o i value : Expr} {pos pos' : Pos} (hu : X.A.units + 1 < cLine) (q2 : Quiet e2 s2) (q3 : Quiet e3 s3) (hv : PE X value (tV X.K Cl ClX W e1 s1)) (ho : PE X o (tV X.K Cl ClX W e2 s2)) (hi : PE X i (tV X.K Cl ClX W e3 s3)) (hs : swapsWith value (some (.Subscript o i pos')) pos.line X.env = pure false) :
    PS X (.Assign [.Subscript o i pos'] value pos) (tS X.K Cl ClX W pr fun ρ => (argsCons (!(e2 || (e3 || false))) s1 (argsCons (!(e3 || false)) s2 (argsCons (!false) s3 argsNil)) ρ).flow (sPut putOf)) :=
  PS.le (ps_dput hu ho hi hv hs) fun D σ H h =>
    tv_mono (three_args q2 q3 (put_core po_put h)) fun v H1 h1 => tv_mono h1 fun x H2 h2 => tv_mono h2 fun k H3 ⟨v', x', k', e, a, H4, e1, g, q⟩ => by
      cases e
      exact ⟨a, H4, e1, g, q⟩
theorem ts_lput {e1 e2 e3 : Bool} {s1 s2 s3 : Env → Res (Val × Src)} {o i value : Expr} {pos pos' : Pos} (q2 : Quiet e2 s2) (q3 : Quiet e3 s3) (hv : PE X value (tV X.K Cl ClX W e1 s1)) (ho : PE X o (tV X.K Cl ClX W e2 s2)) (hi : PE X i (tV X.K Cl ClX W e3 s3)) (hs : swapsWithSole [.Subscript o i pos'] value pos.line X.env = pure false) (hw : swappedStores [.Subscript o i pos'] value X.env = pure none) (ha : ∀ v, assign (.Subscript o i pos') X.env v = (do
      let ov ← holding [v] (eval o X.env)
      let iv ← holding [v, ov] (eval i X.env)
      standAt pos'
      holding [v, ov, iv] (setItem ov iv v)
      release [v, ov, iv] [])) :
    PS X (.Assign [.Subscript o i pos'] value pos) (tS X.K Cl ClX W pr fun ρ => (argsCons (!(e2 || (e3 || false))) s1 (argsCons (!(e3 || false)) s2 (argsCons (!false) s3 argsNil)) ρ).flow (sPut lputOf)) :=
  PS.le (ps_asg hv (pg_sub ho hi set_list ha) hs hw) fun D σ H h =>
    tv_mono (three_args q2 q3 (put_core po_lput h)) fun v H1 h1 => tv_mono h1 fun x H2 h2 => tv_mono h2 fun k H3 ⟨v', x', k', e, g⟩ => by
      cases e
      exact g
end
end VS

/-! sorted(d) of any number of whole numbers -/
namespace VS
open PySem PySem.Spec PyProof.Rows L2
section
variable {X : Cx}
theorem cr_sortedDL (hcalm : X.calm = true) : CallR X (.builtin "sorted") (fun xs H Q => ∃ (a : Addr) (kvs : List (Key × V)) (ks : List Int), xs = [.ref a] ∧ Rd H a (.dK kvs) ∧ kvs.map (·.1) = ks.map Sum.inl ∧
    ∀ (ys : List Int) (p : Addr), ys.Perm ks → ys.Pairwise (· ≤ ·) → H p = none → Q (.ref p) (upd H p (.lst (ys.map V.int)))) := by
  intro pins s σ H xs us Q I r ⟨a, kvs, ks, ex, hd, hks, q⟩
  subst ex
  obtain ⟨u, eu, rx⟩ := vals1 r
  subst eu
  cases rx
  obtain ⟨z, lo, vs, rel, dd⟩ := dk_rd I.hok hd
  obtain ⟨ep, hat⟩ := dd.dictAt
  have hkeys : vs.map (·.1) = ks.map Sum.inl := rel.keys.symm.trans hks
  have hl : vs.length = ks.length := by simpa using congrArg List.length hkeys
  have hz : vs.length ≤ sizeLine := by rw [← rel.length]; exact z
  refine Calls.call_function_entry kind_sorted plain_sorted entry_sorted (args_sorted1 _) ?_
  unfold Builtin.«sorted»
  refine wpAny_bind (m := checkCount "sorted" 1 1 _) (wpAny_pure ?_)
  refine wpAny_bind (PySem.W.kdu_collect (A := X.A.in1) (PySem.W.kdl_dict (knd := mixKind X.prog X.w) (kvs := vs) (ep := ep) lo) (I.ok.hd hcalm) hat hz fun h' tk acc hk hacc => ?_)
  have hal : acc.toList.length = ks.length := by rw [Array.length_toList, hacc.1, hl]
  have hS : IntsAre acc.toList ks := ints_each hal fun j v e => by
    obtain ⟨k, x, e1, e2⟩ := hacc.2 j v (by rw [← Array.getElem?_toList]; exact e)
    have e3 : (vs.map (·.1))[j]? = some k := by rw [List.getElem?_map, e1]; rfl
    rw [hkeys, List.getElem?_map] at e3
    obtain ⟨y, e4, e5⟩ := Option.map_eq_some_iff.mp e3
    subst e5
    rcases keyIs_shape (show keyIs (Sum.inl y) v = true from e2) with ⟨i, t, ek, ev⟩ | ⟨z, t, ek, ev⟩
    · cases ek
      exact ⟨y, t, e4, ev⟩
    · cases ek
  have hz2 : acc.toList.length ≤ sizeLine := by rw [hal, ← hl]; exact hz
  have I1 : Inv X pins σ H { s with heap := h', toks := tk } := I.kept hk
  refine wpAny_bind (wpAny_newList ?_ hz2)
  have hoL : (h'.push (seqObj "list" acc.toList.toArray 0)).get? h'.objs.size = some (seqObj "list" acc.toList.toArray 0) := Heap.get?_push_size _ rfl
  show wpAny _ _ _ _ _ { s with heap := h'.push (seqObj "list" acc.toList.toArray 0), toks := tk }
  refine wpAny_bind (wpAny_holding (wpAny_call_entry PyProof.Rows.slot_list_sort ⟨_, hoL, rfl⟩ PyProof.Rows.entry_list_sort
    (SrtO.list_sort_ord (s := { s with heap := h'.push (seqObj "list" acc.toList.toArray 0), toks := tk }) SrtO.swo_int hoL hz2 (fun h2 => SrtO.ints_sortable hS h2) fun out h1 h2 => ⟨_, rfl, ?_⟩) (PyProof.Rows.args_list_sort _)))
  obtain ⟨k1, k2, k3⟩ := SrtO.ints_out hS h1 h2
  obtain ⟨e', he'⟩ := PyProof.Rows.sortedHeap_at (vs := acc.toList) (out := out.toArray) hoL
  have hlen : ((out.map SrtO.iv).map V.int).length ≤ sizeLine := by rw [List.length_map, k2.length_eq, ← hal]; exact hz2
  refine wpAny_pure ⟨_, rfl, .ref h'.objs.size, upd H h'.objs.size (.lst ((out.map SrtO.iv).map V.int)), I1.laid (t' := tk) (fun b u e => ?_) (Nat.le_refl _) ⟨hlen, out, e', vals_of_ints k1, he'⟩, rfl, q _ _ k2 k3 (I1.hok.fresh (Nat.le_refl _))⟩
  have hb : b < h'.objs.size := Heap.lt_size e
  rw [PyProof.Rows.sortedHeap_old (Nat.ne_of_lt hb) (by rw [size_push']; exact Nat.lt_succ_of_lt hb)]
  exact Heap.get?_push_of_some _ e
end
end VS

/-! repr(x) of data -/
namespace VS
open PySem PySem.Spec PyProof.Rows L2
theorem showable_all {d : PyData} : ∀ {ds : List PyData}, d ∈ ds → PyData.showableAll ds = true → d.showable = true
  | _ :: _, h, e => by
    simp only [PyData.showableAll, Bool.and_eq_true] at e
    rcases List.mem_cons.mp h with rfl | h
    · exact e.1
    · exact showable_all h e.2
section
variable {X : Cx}
mutual
theorem dp_noDict {K : PySem.W.Frag} {H : Hp} : ∀ (d : PyData) (v : V), Dp K H v d → d.hasDict = false
  | .none, _, _ => rfl
  | .bool _, _, _ => rfl
  | .int _, _, _ => rfl
  | .str _, _, _ => rfl
  | .list ds, _, h => by
    cases h with
    | lst _ ha => simp only [PyData.hasDict]; exact dp_noDictAll ds _ ha
  | .tuple ds, _, h => by
    cases h with
    | tup _ ha => simp only [PyData.hasDict]; exact dp_noDictAll ds _ ha
  | .dict _, _, h => by cases h
theorem dp_noDictAll {K : PySem.W.Frag} {H : Hp} : ∀ (ds : List PyData) (vs : List V), DpAll K H vs ds → PyData.hasDictAll ds = false
  | [], _, _ => rfl
  | d :: ds, _, h => by
    cases h with
    | cons h1 h2 => simp only [PyData.hasDictAll, dp_noDict d _ h1, dp_noDictAll ds _ h2, Bool.or_self]
end
theorem cr_repr (g : X.A.guards = some []) (hu : X.A.units + 64 < cLine) : CallR X (.builtin "repr") (fun xs H Q => ∃ x d, xs = [x] ∧ Dp X.K H x d ∧ d.showable = true ∧ d.depth ≤ 60 ∧ d.shown.length ≤ sizeLine ∧ Q (.str d.shown) H) := by
  intro pins s σ H xs us Q I r ⟨x, d, ex, hd, hs, hdp, hz, q⟩
  subst ex
  obtain ⟨u, eu, rx⟩ := vals1 r
  subst eu
  have nd := dp_noDict d x hd
  have away : (∃ a, u = .ref a) → wpAny (model X.prog X.w) X.A (call (.builtin "repr") [u]) (EP X pins σ Q) X.xe s := fun ⟨a, e⟩ => by
    subst e
    obtain ⟨as, rd⟩ := Dp.reads I d x _ hd rx
    exact repr_of_reads' rd hs (fun e => by rw [nd] at e; cases e) g (by omega) (fun _ _ e => e) (fun h' u tk hk => ⟨.str d.shown, H, I.kept hk, ⟨_, rfl⟩, q⟩) hz
  cases d with
  | none => cases hd; cases rx; exact P.repr_of_none ⟨.str _, H, I.tok _, ⟨_, rfl⟩, q⟩
  | bool b => cases hd; cases rx; exact P.repr_of_bool ⟨.str _, H, I.tok _, ⟨_, rfl⟩, by simpa only [PyData.shown] using q⟩
  | int i =>
    cases hd
    obtain ⟨t, rfl⟩ := rx
    exact P.repr_of_int (by simpa only [PyData.showable, decide_eq_true_eq] using hs) ⟨.str _, H, I.tok _, ⟨_, rfl⟩, by simpa only [PyData.shown] using q⟩
  | str y =>
    cases hd
    obtain ⟨t, rfl⟩ := rx
    exact P.repr_of_str ⟨.str _, H, I.tok _, ⟨_, rfl⟩, by simpa only [PyData.shown] using q⟩ (by simpa only [PyData.shown] using hz)
  | list ds =>
    cases hd
    cases rx
    exact away ⟨_, rfl⟩
  | tuple ds =>
    cases hd
    cases rx
    exact away ⟨_, rfl⟩
  | dict _ => cases hd
variable {K : PySem.W.Frag} {Cl ClX : Nat → Addr}
theorem pr_repr : PrimOk K Cl (fun xs H Q => ∃ x d, xs = [x] ∧ Dp K H x d ∧ d.showable = true ∧ d.depth ≤ 60 ∧ d.shown.length ≤ sizeLine ∧ Q (.str d.shown) H) gRepr := by
  intro P H vs Vs Q v hw lv hg n
  unfold gRepr at hg
  split at hg
  · rename_i x
    obtain ⟨d, hd, hg⟩ := Option.bind_eq_some_iff.mp hg
    by_cases hl : reprB d = true
    · rw [if_pos hl] at hg
      cases hg
      unfold reprB at hl
      simp only [Bool.and_eq_true, decide_eq_true_eq] at hl
      obtain ⟨V0, f, rfl, h⟩ := hw.one
      exact ⟨_, d, rfl, h.dp hd, hl.1.1, hl.1.2, by rw [sizeLine_eq]; omega, n.str lv⟩
    · rw [if_neg hl] at hg; cases hg
  · cases hg
theorem pr_band : PrimOk K Cl (op2 (rI0 fun i j => .int (Builtin.bitAnd i j))) gBand := by
  intro P H vs Vs Q v hw lv hg n
  unfold gBand at hg
  split at hg
  · cases hg
    obtain ⟨x, y, f1, f2, rfl, h1, h2⟩ := hw.two
    simp only [R] at h1 h2
    obtain ⟨rfl, _⟩ := h1
    obtain ⟨rfl, _⟩ := h2
    exact ⟨_, _, rfl, _, _, rfl, rfl, n.int lv⟩
  · cases hg
theorem pr_shr : PrimOk K Cl (op2 (rI (fun _ j => 0 ≤ j) fun i j => .int (i / 2 ^ j.toNat))) gShr := by
  intro P H vs Vs Q v hw lv hg n
  unfold gShr at hg
  split at hg
  · rename_i i j
    by_cases hj : decide (0 ≤ j) = true
    case neg => rw [if_neg hj] at hg; cases hg
    rw [if_pos hj] at hg
    cases hg
    obtain ⟨x, y, f1, f2, rfl, h1, h2⟩ := hw.two
    simp only [R] at h1 h2
    obtain ⟨rfl, _⟩ := h1
    obtain ⟨rfl, _⟩ := h2
    exact ⟨_, _, rfl, _, _, rfl, rfl, of_decide_eq_true hj, n.int lv⟩
  · cases hg
theorem pr_eqS : PrimOk K Cl (op2 rEq) (gEqS false) := by
  intro P H vs Vs Q v hw lv hg n
  unfold gEqS at hg
  split at hg
  · cases hg
    obtain ⟨x, y, f1, f2, rfl, h1, h2⟩ := hw.two
    simp only [R] at h1 h2
    obtain ⟨rfl, _⟩ := h1
    obtain ⟨rfl, _⟩ := h2
    refine ⟨_, _, rfl, rfl, ?_⟩
    have := n.bl lv
    simpa using this
  · cases hg
theorem pr_neS : PrimOk K Cl (op2 rNe) (gEqS true) := by
  intro P H vs Vs Q v hw lv hg n
  unfold gEqS at hg
  split at hg
  · cases hg
    obtain ⟨x, y, f1, f2, rfl, h1, h2⟩ := hw.two
    simp only [R] at h1 h2
    obtain ⟨rfl, _⟩ := h1
    obtain ⟨rfl, _⟩ := h2
    refine ⟨_, _, rfl, rfl, ?_⟩
    have := n.bl lv
    simpa using this
  · cases hg
end
end VS

/-! instances: fields read and stored, methods, made -/
namespace VS
open PySem L2
section
theorem meth_ev {o : Expr} {m : Str} {apos pos : Pos} {es : List Expr} {env : PySem.Env} (hb : attributeBase o m env (eval o env) = eval o env) (hl : (apos.endLine == pos.line) = true) (hf : methodCallForm (es.length + ([] : List Keyword).length) (backTo pos (starEach es env)) (backToKw pos (keywordEach [] env)) = true) :
   ∃ pl, eval (.Call (.Attribute o m apos) es [] pos) env = (do
      let ov ← eval o env
      standAt apos.atName
      let (f, first) ← holding [ov] (getMethod ov m pl)
      callWith pos f first (backTo pos (starEach es env)) (backToKw pos (keywordEach [] env))) := by
  refine ⟨(do return (← importBound o env).getD true), ?_⟩
  show (do
      let ov ← attributeBase o m env (eval o env)
      standAt apos.atName
      methodCall o m apos pos env ov (es.length + ([] : List Keyword).length) (backTo pos (starEach es env)) (backToKw pos (keywordEach [] env))) = _
  rw [hb]
  unfold methodCall calleeOf methodCallPos
  rw [hf]
  simp only [if_true, Bool.not_true, Bool.false_or, hl, pure_bind]
theorem form_of {es : List Expr} {pos : Pos} {env : PySem.Env} (h : (backTo pos (starEach es env)).all (fun x => !x.1) = true) (hl : decide (es.length < 30) = true) : methodCallForm (es.length + ([] : List Keyword).length) (backTo pos (starEach es env)) (backToKw pos (keywordEach [] env)) = true := by
  unfold methodCallForm
  rw [h]
  exact hl
end
section
variable {X : Cx} {CX : CXT} {k : Nat} {f C : Addr} {fd : FuncData} {ps : List Str} {sp : Sp} {E : L2.St → XK} {x m : Str} {p pos apos : Pos} {o e : Expr} {es : List Expr} {ta : TE} {t : TA}
def tMethG (C : Addr) (m : Str) (sp : Sp) (E : L2.St → XK) (ta : TE) (t : TA) : TE := fun σ H Q => ta σ H fun x H1 => ∃ a dx fs, x = .ref a ∧ H1 a = some (.ins C dx fs) ∧ fs.lookup m = none ∧ t σ H1 fun vs H2 => sp (x :: vs) H2 Q (E σ)
/-- o.m(e, ..) -/
theorem pe_methG {pl : Sem Bool} (he : PE X o ta) (c : Cls X.K C) (hm : Meth X.K C m f) (F : FnG X.prog X.w X.K X.mg X.base CX k f fd ps sp) (g : X.A.guards = some []) (hr : Room (2 * k) X.A) (hb : Binds X.K fd ps []) (hx : ∀ σ, PassesAt CX X σ (E σ)) (ha : PA X (e :: es) t)
    (hst : starEach (e :: es) X.env = (false, eval e X.env) :: starEach es X.env) (hpl : (backTo pos (starEach es X.env)).any (·.1) = false)
    (ht : eval (.Call (.Attribute o m apos) (e :: es) [] pos) X.env = (do
      let ov ← eval o X.env
      standAt apos.atName
      let (f, first) ← holding [ov] (getMethod ov m pl)
      callWith pos f first (backTo pos (starEach (e :: es) X.env)) (backToKw pos (keywordEach [] X.env)))) : PE X (.Call (.Attribute o m apos) (e :: es) [] pos) (tMethG C m sp E ta t) := by
  refine ⟨fun pins s σ H Q I h => PySem.W.methodCall_KW (pl := pl) (thn (he.run pins s σ H _ I h) fun u s1 ⟨x, H1, I1, rx, a, dx, fs, ex, ea, l, q⟩ => ?_) ht⟩
  subst ex
  obtain rfl : u = Value.ref a := rx
  refine getmeth_ok I1 ea c hm l (PySem.W.callWith_K (first := [.ref a]) (h₀ := X.base) I1.ok.mod.kin hm.kp (thn (ha.run pos pins s1 σ H1 _ I1 q) fun us s2 ⟨vs, H2, I2, r, q2⟩ => ⟨I2.kIn, ?_⟩) hst hpl)
  exact run_G (us := .ref a :: us) (vs := .ref a :: vs) F g hr hb (hx σ) I2 (.cons rfl r) q2
/-- o.m() -/
theorem pe_methG0 {pl : Sem Bool} (he : PE X o ta) (c : Cls X.K C) (hm : Meth X.K C m f) (F : FnG X.prog X.w X.K X.mg X.base CX k f fd ps sp) (g : X.A.guards = some []) (hr : Room (2 * k) X.A) (hb : Binds X.K fd ps []) (hx : ∀ σ, PassesAt CX X σ (E σ))
    (ht : eval (.Call (.Attribute o m apos) [] [] pos) X.env = (do
      let ov ← eval o X.env
      standAt apos.atName
      let (f, first) ← holding [ov] (getMethod ov m pl)
      callWith pos f first (backTo pos (starEach [] X.env)) (backToKw pos (keywordEach [] X.env)))) : PE X (.Call (.Attribute o m apos) [] [] pos) (tMethG C m sp E ta tNil) := by
  refine ⟨fun pins s σ H Q I h => PySem.W.methodCall_KW (pl := pl) (thn (he.run pins s σ H _ I h) fun u s1 ⟨x, H1, I1, rx, a, dx, fs, ex, ea, l, q⟩ => ?_) ht⟩
  subst ex
  obtain rfl : u = Value.ref a := rx
  exact getmeth_ok I1 ea c hm l (PySem.W.callWith_K0 (first := [.ref a]) I1.kIn hm.kp (run_G (us := [.ref a]) (vs := [.ref a]) F g hr hb (hx σ) I1 (.cons rfl .nil) q))
def tMakeG (C : Addr) (sp : Sp) (E : L2.St → XK) (t : TA) : TE := fun σ H Q => t σ H fun vs H1 => ∀ x dx, H1 x = none → H1 dx = none → dx ≠ x →
  sp (.ref x :: vs) (upd (upd H1 dx (.own x)) x (.ins C dx [])) (fun v H2 => v = .non ∧ Q (.ref x) H2) (E σ)
theorem guards_make {A : Around} {C : Addr} {us : List Value} {kw : List (Str × Value)} (g : A.guards = some []) : (A.under (.builtin "type.__call__" ⟨.ref C :: us, kw⟩)).guards = some [] := by
  simp [Around.under, g, Code.guards, Code.isGuard, pushGuards, guardIds]
theorem run_makeG {pins : List (Addr × Obj)} {σ : L2.St} {H : Hp} {s : Shared} {Q : VK} {us : List Value} {vs : List V} {C f : Addr} (M : Mk X.K C f) (F : FnG X.prog X.w X.K X.mg X.base CX k f fd ps sp) (g : X.A.guards = some []) (hr : Room (2 * k + 1) X.A) (hb : Binds X.K fd ps [])
    (hx : ∀ σ, PassesAt CX X σ (E σ)) (I : Inv X pins σ H s) (r : Vals vs us)
    (h : ∀ x dx, H x = none → H dx = none → dx ≠ x → sp (.ref x :: vs) (upd (upd H dx (.own x)) x (.ins C dx [])) (fun v H2 => v = .non ∧ Q (.ref x) H2) (E σ)) :
    wpAny (model X.prog X.w) X.A (call (.ref C) us) (EP X pins σ Q) X.xe s := by
  have hq := h (s.heap.objs.size + 1) s.heap.objs.size (I.hok.fresh (Nat.le_succ _)) (I.hok.fresh (Nat.le_refl _)) (Nat.ne_of_lt (Nat.lt_succ_self _))
  have I2 := Inv.made (C := C) I
  have r2 : Vals (V.ref (s.heap.objs.size + 1) :: vs) (Value.ref (s.heap.objs.size + 1) :: us) := .cons rfl r
  have hl : (Value.ref (s.heap.objs.size + 1) :: us).length = ps.length := by rw [← r2.length]; exact F.len _ _ _ _ hq
  have b := hb _ (Value.ref (s.heap.objs.size + 1) :: us) I2.kIn (by rw [List.append_nil]; exact hl)
  rw [List.append_nil] at b
  refine wpAny_call (make_map (f := f) I.kIn M.makes M.init (beq_iff_eq.mp M.fn) (codeAny_mono (F.run _ (guards_make g) X.stack _ _ ⟨Value.ref (s.heap.objs.size + 1) :: us, []⟩ _ _ _ (E σ) (Room.make (show Room (2 * k + 1) X.A from hr) C us [])
    (I2.env0.make C us []) b r2 hq) fun q s' hq' => ?_))
  match q, hq' with
  | .error e, hq' => exact hx σ pins _ _ e s' I2 hq'
  | .ok .next, hq' => exact hq'.elim
  | .ok .brk, hq' => exact hq'.elim
  | .ok .cont, hq' => exact hq'.elim
  | .ok (.ret u), hq' =>
    obtain ⟨v, H', I3, rv, ev, q3⟩ := I2.after hq'
    subst ev
    exact ⟨rv, ⟨V.ref (s.heap.objs.size + 1), H', I3, rfl, q3⟩⟩
theorem pe_makeG {C f : Addr} (M : Mk X.K C f) (F : FnG X.prog X.w X.K X.mg X.base CX k f fd ps sp) (g : X.A.guards = some []) (hr : Room (2 * k + 1) X.A) (hg : Gl X x) (hm : X.mg x = some (.ref C)) (hb : Binds X.K fd ps []) (hx : ∀ σ, PassesAt CX X σ (E σ))
    (ha : PA X (e :: es) t) (hdb : (x == ("__debug__" : Str)) = false) (he : starEach (e :: es) X.env = (false, eval e X.env) :: starEach es X.env) (hpl : (backTo pos (starEach es X.env)).any (·.1) = false) :
    PE X (.Call (.Name x p) (e :: es) [] pos) (tMakeG C sp E t) :=
  ⟨fun pins s σ H Q I h => wpAny_Call_Name_kw (ld_glob I hg hm (PySem.W.callWith_K (h₀ := X.base) I.ok.mod.kin M.kp (thn (ha.run pos pins s σ H _ I h) fun us s1 ⟨vs, H1, I1, r, q⟩ => ⟨I1.kIn, run_makeG M F g hr hb hx I1 r q⟩) he hpl) hdb)⟩
theorem pe_makeG0 {C f : Addr} (M : Mk X.K C f) (F : FnG X.prog X.w X.K X.mg X.base CX k f fd ps sp) (g : X.A.guards = some []) (hr : Room (2 * k + 1) X.A) (hg : Gl X x) (hm : X.mg x = some (.ref C)) (hb : Binds X.K fd ps []) (hx : ∀ σ, PassesAt CX X σ (E σ))
    (hdb : (x == ("__debug__" : Str)) = false) : PE X (.Call (.Name x p) [] [] pos) (tMakeG C sp E tNil) :=
  ⟨fun pins s σ H Q I h => wpAny_Call_Name_kw (ld_glob I hg hm (PySem.W.callWith_K0 I.kIn M.kp (run_makeG (us := []) M F g hr hb hx I .nil h)) hdb)⟩
end
end VS

/-! instances, by their trees */ -/
namespace VS
open PySem L2
section
variable {K : PySem.W.Frag} {Cl ClX : Nat → Addr} {X : Cx} {W : WX} {P P' : Ps} {H H' : Hp} {σ : L2.St}
theorem lookup_idx : ∀ {fs : List Str} {Ws : List V} {f : Str}, fs.length = Ws.length → (fs.zip Ws).lookup f = (idxK fs f).bind fun i => Ws[i]?
  | [], Ws, f, _ => by simp [idxK]
  | g :: fs, [], f, h => by simp at h
  | g :: fs, W :: Ws, f, h => by
    simp only [List.zip_cons_cons, List.lookup, idxK]
    by_cases e : g = f
    · subst e; simp
    · rw [if_neg e, show (f == g) = false from beq_eq_false_iff_ne.mpr fun z => e z.symm]
      have ih := lookup_idx (fs := fs) (Ws := Ws) (f := f) (by simpa using h)
      rw [ih]
      cases idxK fs f <;> simp
theorem lookup_no {fs : List Str} {Ws : List V} {f : Str} (h : fs.length = Ws.length) (n : f ∉ fs) : (fs.zip Ws).lookup f = none := by
  rw [lookup_idx h]
  cases e : idxK fs f with
  | none => rfl
  | some i =>
    exfalso
    have : ∀ {fs : List Str} {i : Nat}, idxK fs f = some i → f ∈ fs := fun {fs} => by
      induction fs with
      | nil => intro i e; simp [idxK] at e
      | cons g fs ih =>
        intro i e
        simp only [idxK] at e
        by_cases q : g = f
        · rw [q]; exact List.mem_cons_self
        · rw [if_neg q] at e
          obtain ⟨j, hj, _⟩ := Option.map_eq_some_iff.mp e
          exact List.mem_cons_of_mem _ (ih hj)
    exact n (this e)
theorem putF_zip : ∀ {fs : List Str} {Ws : List V} {f : Str} {W : V}, fs.length = Ws.length → putF f W (fs.zip Ws) = (putKs fs f).zip (putVs fs Ws f W)
  | [], [], f, W, _ => by simp [putKs, putVs, idxK, putF]
  | [], _ :: _, f, W, h => by simp at h
  | g :: fs, [], f, W, h => by simp at h
  | g :: fs, U :: Ws, f, W, h => by
    have ih := putF_zip (fs := fs) (Ws := Ws) (f := f) (W := W) (by simpa using h)
    simp only [List.zip_cons_cons, putF]
    by_cases e : g = f
    · rw [if_pos e]
      simp [putKs, putVs, idxK, e]
    · rw [if_neg e, ih]
      simp only [putKs, putVs, idxK, if_neg e]
      cases idxK fs f <;> simp
theorem sFld_inv {c : Nat} {f : Str} {a : Val × Src} {ρ : Env} : sFld c f a ρ = .bad ∨ ∃ z fs vs s i v, a = (.node (.ins z c fs) vs, s) ∧ idxK fs f = some i ∧ vs[i]? = some v ∧ sFld c f a ρ = .ok (v, childSrc s (.ins z c fs) i v) ρ := by
  obtain ⟨x, s⟩ := a
  cases x with
  | node t vs =>
    cases t with
    | ins z c' fs =>
      simp only [sFld]
      by_cases hc : c' = c
      · subst hc
        rw [if_pos rfl]
        cases hi : idxK fs f with
        | none => exact .inl rfl
        | some i =>
          cases hv : vs[i]? with
          | none => exact .inl (by simp only [hv])
          | some v => exact .inr ⟨z, fs, vs, s, i, v, rfl, hi, hv, by simp only [hv]⟩
      · rw [if_neg hc]; exact .inl rfl
    | _ => exact .inl rfl
  | _ => exact .inl rfl
/-- e.f -/
theorem tv_fld {c : Nat} {f : Str} {e : Bool} {s : Env → Res (Val × Src)} {pe : Expr} {pos : Pos} (cl : Cls X.K (Cl c)) (na : NoAttr X.K (Cl c) f) (h : PE X pe (tV X.K Cl ClX W e s)) (hb : attributeBase pe f X.env (eval pe X.env) = eval pe X.env) :
    PE X (.Attribute pe f pos) (tV X.K Cl ClX W e fun ρ => (s ρ).bind (sFld c f)) := PE.le (pe_fld h hb) fun σ H Q ⟨P, ρ, f0, l, lv, q⟩ => by
  refine ⟨P, ρ, f0, l, lv, ?_⟩
  dsimp only at q
  cases hs : s ρ with
  | bad => rw [hs] at q; exact q
  | exc x ρ1 => rw [hs] at q; exact q
  | ok a ρ1 =>
    rw [hs] at q
    simp only [Res.bind_ok] at q
    rcases sFld_inv (c := c) (f := f) (a := a) (ρ := ρ1) with hk | ⟨z, fs, vs, sr, i, v, rfl, hi, hv, hk⟩
    · rw [hk] at q; exact q.elim
    · rw [hk] at q
      intro U H1 ⟨P1, f1, fx, o, rx, so, sb⟩
      obtain ⟨b, Ws, xx, g, rfl, hh, rs, sub⟩ := rx.node_items
      obtain ⟨U1, g1, g2, e3, r1, _, rfl, _⟩ := rs.pick hv
      have sub1 : ∀ b, g1 b → fx b := fun b z => sub b (.inl z)
      obtain ⟨dx, h1, h2, h3, h4, h5⟩ := id hh
      refine ⟨b, Cl c, dx, fs.zip Ws, U1, rfl, h1, cl, na, by rw [lookup_idx h4, hi]; exact e3, q U1 H1 ⟨P1, f1, g1, o, r1, child_src (fx := fx) hh hv e3 r1 sub1 ?_, ?_⟩⟩
      · cases sr with
        | tmp => exact ⟨so, trivial⟩
        | brw => trivial
        | plc i p => exact so
      · unfold childSrc
        by_cases hp : v.pure = true
        · rw [if_pos hp, r1.pure_emp hp]
          exact fun _ z => z.elim
        · rw [if_neg hp]
          cases sr with
          | tmp => exact fun c z => sb c (sub1 c z)
          | brw => trivial
          | plc i p => by_cases ho : (Tag.ins z c fs).own = true <;> simp only [ho] <;> trivial
theorem R.ins_open {z : Bool} {c : Nat} {fs : List Str} {vs : List Val} {U : V} {f : Ps} (h : R K Cl P H (.node (.ins z c fs) vs) U f) : ∃ a dx Ws, U = .ref a ∧ H a = some (.ins (Cl c) dx (fs.zip Ws)) ∧ fs.length = Ws.length := by
  obtain ⟨a, Ws, x, g, rfl, hh, rs, sub⟩ := h.node_items
  obtain ⟨dx, h1, h2, h3, h4, h5⟩ := hh
  exact ⟨a, dx, Ws, rfl, h1, h4⟩
theorem isIns_of {c : Nat} {m : Str} {v : Val} {U : V} {f : Ps} (h : R K Cl P H v U f) (i : isIns c m v = true) : ∃ a dx fs, U = .ref a ∧ H a = some (.ins (Cl c) dx fs) ∧ fs.lookup m = none := by
  cases v with
  | node t vs =>
    cases t with
    | ins z c' fs =>
      simp only [isIns, Bool.and_eq_true, decide_eq_true_eq] at i
      obtain ⟨rfl, n⟩ := i
      obtain ⟨a, dx, Ws, e, h1, h2⟩ := h.ins_open
      exact ⟨a, dx, _, e, h1, lookup_no h2 n⟩
    | _ => cases i
  | _ => cases i
/-- a method's call, self before the others -/
theorem meth_args {sp : Sp} {c : Nat} {m : Str} {e1 e2 : Bool} {s1 : Env → Res (Val × Src)} {rr : Env → Res (List (Val × Src))} (qr : Quiet e2 rr) {E : L2.St → XK} {Q : VK} {σ : L2.St} {H : Hp}
    (h : tVs K Cl ClX W (e1 || e2) (argsCons (!e2) (sMid (isIns c m) s1) rr) σ H fun Vs H1 => sp Vs H1 Q (E σ)) : tMethG (Cl c) m sp E (tV K Cl ClX W e1 s1) (tVs K Cl ClX W e2 rr) σ H Q :=
  tv_mono (mid_ok (cons_mono qr h fun x H1 h1 => h1)) fun x H1 ⟨⟨v, P1, f, hm, rv⟩, h1⟩ => by
    obtain ⟨a, dx, fs, e, ha, hl⟩ := isIns_of rv hm
    exact ⟨a, dx, fs, e, ha, hl, h1⟩
theorem call_then {D : Defs} {f : Nat} {e : Bool} {s : Env → Res (List (Val × Src))} {σ : L2.St} {H : Hp} {Q : VK} (hl : ∀ ρ as ρ1, s ρ = .ok as ρ1 → (D.modes f).length = as.length) (h : tV K Cl ClX W e (sThen s (sCall D f)) σ H Q) : tVs K Cl ClX W e s σ H fun Vs H1 => spOf K Cl ClX (D.modes f) (D.run f) Vs H1 Q (WE W σ) := by
  obtain ⟨P, ρ, f0, l, lv, q⟩ := h
  refine ⟨P, ρ, f0, l, lv, ?_⟩
  unfold sThen at q
  cases hs : s ρ with
  | bad => rw [hs] at q; exact q
  | exc x ρ1 => rw [hs] at q; exact q
  | ok as ρ1 =>
    rw [hs] at q
    intro Vs H1 ⟨P1, f1, F, o1, a1, d1, sb⟩
    exact call_ok (hl _ _ _ hs) o1 a1 q
theorem callM_then {D : Defs} {f : Nat} {e : Bool} {s : Env → Res (List (Val × Src))} {σ : L2.St} {H : Hp} {Q : VK} (hl : ∀ ρ as ρ1, s ρ = .ok as ρ1 → (D.modes f).length = as.length) (h : tV K Cl ClX W true (sThen s (sCallM D f)) σ H Q) : tVs K Cl ClX W e s σ H fun Vs H1 => spOf K Cl ClX (D.modes f) (D.run f) Vs H1 Q (WE W σ) := by
  obtain ⟨P, ρ, f0, l, lv, q⟩ := h
  refine ⟨P, ρ, f0, l, lv, ?_⟩
  unfold sThen at q
  cases hs : s ρ with
  | bad => rw [hs] at q; exact q
  | exc x ρ1 =>
    rw [hs] at q
    exact fun c d H' ⟨P', f', o', xo⟩ => q c d H' ⟨P', f', o'.up' true (fun _ => rfl), xo⟩
  | ok as ρ1 =>
    rw [hs] at q
    intro Vs H1 ⟨P1, f1, F, o1, a1, d1, sb⟩
    exact callM_ok (hl _ _ _ hs) o1 a1 d1 sb q
/-- an instance made -/
theorem make_ok {D : Defs} {c f : Nat} {as : List (Val × Src)} {ρ1 : Env} {f1 F : Ps} {Vs : List V} {Q : VK} {E : XK} {fz : Ps} {e : Bool} {P0 : Ps} {H0 : Hp} {x dx : Addr} (o1 : Out K Cl P0 H0 fz e ρ1 σ P H f1) (a1 : ArgsOk K Cl P H ρ1 σ f1 as Vs F) (hx : H x = none) (hd : H dx = none) (hne : dx ≠ x)
    (q : match sMake D c f as ρ1 with
      | .ok (v, sr) ρ' => ∀ U H', Out1 K Cl P0 H0 fz e ρ' σ v sr U H' → Q U H'
      | .exc x ρ' => ∀ c d H', OutX K Cl ClX P0 H0 fz e ρ' σ x c d H' → E c d H'
      | .bad => False) : spOf K Cl ClX (D.modes f) (D.run f) (.ref x :: Vs) (upd (upd H dx (.own x)) x (.ins (Cl c) dx [])) (fun v H2 => v = .non ∧ Q (.ref x) H2) E := by
  unfold sMake at q
  obtain ⟨ms, hm⟩ : ∃ ms, D.modes f = true :: ms := by
    cases hm : D.modes f with
    | nil => rw [hm] at q; exact q.elim
    | cons b ms =>
      cases b with
      | false => rw [hm] at q; exact q.elim
      | true => exact ⟨ms, rfl⟩
  rw [hm] at q
  dsimp only at q
  by_cases hc : (!ms.any id && allTmp as && pures (as.map (·.1)) && decide (ms.length = as.length)) = true
  case neg => rw [if_neg hc] at q; exact q.elim
  rw [if_pos hc] at q
  simp only [Bool.and_eq_true, Bool.not_eq_true', decide_eq_true_eq] at hc
  obtain ⟨⟨⟨h1, h2⟩, h3⟩, h4⟩ := hc
  have rs := args_tmp h2 a1
  have Fe := rs.pure_emp h3
  subst Fe
  have old : ∀ b o, H b = some o → upd (upd H dx (.own x)) x (.ins (Cl c) dx []) b = some o := fun b o e => by
    rw [upd_ne (by rintro rfl; rw [hx] at e; cases e), upd_ne (by rintro rfl; rw [hd] at e; cases e)]
    exact e
  have rs' : Rs K Cl P (upd (upd H dx (.own x)) x (.ins (Cl c) dx [])) (as.map (·.1)) Vs VS.emp := rs.frame (fun b o e _ => old b o e) fun _ _ => Iff.rfl
  have nP : ∀ b, uni (one x) (one dx) b → ¬ P b := fun b z y => by
    rcases z with z | z
    · exact o1.lv b y (by rw [show b = x from z]; exact hx)
    · exact o1.lv b y (by rw [show b = dx from z]; exact hd)
  have new : ∀ b, uni (one x) (one dx) b → H b = none := fun b z => by
    rcases z with z | z
    · rw [show b = x from z]; exact hx
    · rw [show b = dx from z]; exact hd
  have r0 : R K Cl P (upd (upd H dx (.own x)) x (.ins (Cl c) dx [])) (.node (.ins false c []) []) (.ref x) (uni (one x) (one dx)) := by
    simp only [R]
    refine ⟨x, [], uni (one x) (one dx), VS.emp, rfl, ⟨dx, upd_same .., by rw [upd_ne hne]; exact upd_same .., hne, rfl, rfl⟩, ⟨rfl, rfl⟩, ?_⟩
    rw [if_pos (show (Tag.ins false c []).own = true from rfl)]
    exact ⟨(uni_emp _).symm, dis_emp _, nP⟩
  have alloc : Tr P H VS.emp P (upd (upd H dx (.own x)) x (.ins (Cl c) dx [])) := ⟨fun b o e _ => old b o e, fun _ z => z, fun _ z => .inl z⟩
  refine ⟨P, uni (one x) (one dx), .node (.ins false c []) [] :: as.map (·.1), ⟨.ref x, Vs, uni (one x) (one dx), VS.emp, rfl, r0, rs', dis_emp _, (uni_emp _).symm⟩, fun b z => ?_, ?_, ?_⟩
  · cases e : H b with
    | none => exact absurd e (o1.lv b z)
    | some o => rw [old b o e]; simp
  · rw [hm]
    show nPure ms (as.map (·.1)) = true
    exact nPure_all h1 h3 (by rw [List.length_map]; exact h4)
  have back : ∀ {P' : Ps} {H' : Hp}, Tr P (upd (upd H dx (.own x)) x (.ins (Cl c) dx [])) (uni (one x) (one dx)) P' H' → Lv P' H' → Out K Cl P0 H0 fz e ρ1 σ P' H' f1 := fun {P' H'} t lv => by
    have t2 : Tr P H VS.emp P' H' := alloc.trans t fun b z => .inr (new b z)
    have o2 : Out K Cl P H f1 false ρ1 σ P' H' f1 := ⟨t2, o1.re.tr t2 (dis_emp _) (dis_emp _), Sub.refl _ _, fun _ => rfl, lv⟩
    have := o1.trans o2
    rwa [Bool.or_false] at this
  cases hr : D.run f (.node (.ins false c []) [] :: as.map (·.1)) with
  | bad => rw [hr] at q; exact q
  | exc y fin =>
    rw [hr] at q
    exact fun c d H' P' ff t rs sb lv xo => q c d H' ⟨_, f1, back t lv, xo⟩
  | ok v0 fin =>
    rw [hr] at q
    cases v0 with
    | non =>
      cases fin with
      | nil => exact q.elim
      | cons v rest =>
        intro U H' P' fv ff t rsf rv d sb sbv lv
        simp only [R] at rv
        refine ⟨rv.1, ?_⟩
        simp only [Rs] at rsf
        obtain ⟨V1, Vs', g1, g2, e1, r1, r2, d1, e2⟩ := rsf
        cases e1
        subst e2
        have nw : ∀ b, g1 b → H b = none := fun b z => (sb b (.inl z)).elim (new b) fun n => by
          cases e : H b with
          | none => rfl
          | some o => rw [old b o e] at n; cases n
        refine q (.ref x) H' ⟨P', f1, g1, back t lv, r1, fun b y z => (o1.re.live b z).1 (nw b y), fun b y => ?_⟩
        by_cases hw : wr e fz b
        · exact .inl (wr_sub _ _ b hw)
        · refine .inr ?_
          cases z : H0 b with
          | none => rfl
          | some o' => have := o1.tr.keep b o' z hw; rw [nw b y] at this; cases this
    | _ => exact q.elim
theorem make_then {D : Defs} {c f : Nat} {e : Bool} {s : Env → Res (List (Val × Src))} {σ : L2.St} {H : Hp} {Q : VK} (h : tV K Cl ClX W e (sThen s (sMake D c f)) σ H Q) : tMakeG (Cl c) (spOf K Cl ClX (D.modes f) (D.run f)) (WE W) (tVs K Cl ClX W e s) σ H Q := by
  obtain ⟨P, ρ, f0, l, lv, q⟩ := h
  refine ⟨P, ρ, f0, l, lv, ?_⟩
  unfold sThen at q
  cases hs : s ρ with
  | bad => rw [hs] at q; exact q
  | exc x ρ1 => rw [hs] at q; exact q
  | ok as ρ1 =>
    rw [hs] at q
    intro Vs H1 ⟨P1, f1, F, o1, a1, d1, sb⟩ x dx hx hd hne
    exact make_ok o1 a1 hx hd hne q
end
end VS

/-! o.f = v -/
namespace VS
open PySem L2
section
variable {K : PySem.W.Frag} {Cl ClX : Nat → Addr} {X : Cx} {W : WX} {pr : List Nat}
theorem fput_inv {c : Nat} {f : Str} {x v x' : Val} (h : fputOf c f x v = some x') : ∃ fs vs, x = .node (.ins false c fs) vs ∧ vs.length < 1000 ∧ x' = .node (.ins false c (putKs fs f)) (putVs fs vs f v) := by
  cases x with
  | node t vs =>
    cases t with
    | ins z c' fs =>
      cases z with
      | true => cases h
      | false =>
        simp only [fputOf] at h
        by_cases hc : (decide (c' = c) && decide (vs.length < 1000)) = true
        · rw [if_pos hc] at h
          simp only [Bool.and_eq_true, decide_eq_true_eq] at hc
          obtain ⟨rfl, hl⟩ := hc
          cases h
          exact ⟨fs, vs, rfl, hl, rfl⟩
        · rw [if_neg hc] at h; cases h
    | _ => cases h
  | _ => cases h
theorem fput_core {c : Nat} {f : Str} (cl : Cls K (Cl c)) (nat : NoAttr K (Cl c) f) {e : Bool} {s : Env → Res (List (Val × Src))} {σ : L2.St} {H : Hp} {D : Ends} (h : tS K Cl ClX W pr (fun ρ => (s ρ).flow (sFput c f)) D σ H) :
    tVs K Cl ClX W e s σ H fun Vs H1 => ∃ v x, Vs = [v, x] ∧ ∃ a C dx fs, x = .ref a ∧ H1 a = some (.ins C dx fs) ∧ Cls K C ∧ NoAttr K C f ∧ fs.length < 1000 ∧ D.nx σ (upd H1 a (.ins C dx (putF f v fs))) := by
  refine flow_args h fun as ρ1 P H0 f0 P1 H1 f1 F Vs o1 a1 d1 sb q => ?_
  rcases as with _ | ⟨⟨v, sv⟩, _ | ⟨⟨x, sx⟩, _ | ⟨_, _⟩⟩⟩
  · exact q.elim
  · cases sv <;> exact q.elim
  · cases sv with
    | brw => exact q.elim
    | plc i p => exact q.elim
    | tmp =>
      simp only [sFput] at q
      cases hg : fputOf c f x v with
      | none => rw [hg] at q; exact q.elim
      | some x' =>
        rw [hg] at q
        dsimp only at q
        obtain ⟨fs, vs, rfl, hl, rfl⟩ := fput_inv hg
        simp only [ArgsOk] at a1
        obtain ⟨Uv, V1, fv, g1, rfl, rv, ⟨U, V2, fx, g2, rfl, rx, ⟨rfl, rfl⟩, xx⟩, vf, vg, rfl⟩ := a1
        have rx0 := rx
        simp only [R] at rx0
        obtain ⟨a, Ws, x0, gg, rfl, ⟨dx, h1, h2, h3, h4, rfl⟩, rs, hf⟩ := rx0
        rw [if_pos (show (Tag.ins false c fs).own = true from rfl)] at hf
        obtain ⟨rfl, dd, np⟩ := hf
        have main : ∀ sy : Src, dis fv (uni (uni (one a) (one dx)) gg) → (∀ b, fv b → (uni fv g1) b) → (match sy with
            | .tmp => ∀ b, uni (uni (one a) (one dx)) gg b → (uni fv g1) b
            | .brw => False
            | .plc i p => PlcOk K Cl H1 ρ1 σ (.node (.ins false c fs) vs) (.ref a) i p) → (match sy with
            | .plc i p => WF K Cl ClX W pr P H0 f0 σ D (.next (putAt ρ1 i p (.node (.ins false c (putKs fs f)) (putVs fs vs f v))))
            | _ => WF K Cl ClX W pr P H0 f0 σ D (.next ρ1)) → D.nx σ (upd H1 a (.ins (Cl c) dx (putF f Uv (fs.zip Ws)))) := fun sy dvx sA sxx qq => by
          obtain ⟨g', rs', sg⟩ := put_rs (ks := fs) (q := f) rs h4 rv fun b y z => dvx b y (.inr z)
          have ng' : ∀ b, uni (one a) (one dx) b → ¬ g' b := fun b z y => (sg b y).elim (dd b z) fun y => dvx b y (.inl z)
          have r' : R K Cl P1 (upd H1 a (.ins (Cl c) dx (putF f Uv (fs.zip Ws)))) (.node (.ins false c (putKs fs f)) (putVs fs vs f v)) (.ref a) (uni (uni (one a) (one dx)) g') :=
            node_close (t := .ins false c (putKs fs f)) rfl ⟨dx, by rw [upd_same, putF_zip h4], by rw [upd_ne h3]; exact h2, h3, putVs_len h4, rfl⟩ rs' (.inl rfl) ng' np
          have := mu_finG (K := K) (Cl := Cl) (s := sy) (F := uni fv g1) (v := .non) (Y := .non) (fv := emp) (gA := fv) (Q := fun _ H' => D.nx σ H') o1 sb d1 rx rfl (.inl rfl) dd np sxx sA dvx r' ⟨rfl, rfl⟩ sg (fun _ z => z.elim) (emp_dis _) fun ρ' U H' e z => ?_
          · exact this
          · obtain ⟨P', f', fv', o, _⟩ := z
            cases sy with
            | brw => exact sxx.elim
            | tmp => subst e; exact qq σ P' H' f' (OutS.of o)
            | plc i p => subst e; exact qq σ P' H' f' (OutS.of o)
        refine ⟨Uv, .ref a, rfl, a, Cl c, dx, fs.zip Ws, rfl, h1, cl, nat, by rw [List.length_zip, h4, Nat.min_self, ← rs.length]; exact hl, ?_⟩
        cases sx with
        | brw => exact q.elim
        | tmp =>
          obtain ⟨x1, x2, rfl⟩ := xx
          exact main .tmp (fun b y z => vg b y (.inl z)) (fun b z => .inl z) (fun b z => .inr (.inl z)) q
        | plc i p =>
          obtain ⟨pl, rfl⟩ := xx
          have hsub := (plc_put (P' := P1) (H' := H1) o1.re pl rx (fun _ _ e _ => e) (fun _ _ => Iff.rfl) rx (fun _ z _ => z)).1
          exact main (.plc i p) (fun b y z => d1 b (.inl y) (hsub b z)) (fun b z => .inl z) pl q
  · cases sv <;> exact q.elim
theorem ts_fput {c : Nat} {f : Str} (cl : Cls X.K (Cl c)) (nat : NoAttr X.K (Cl c) f) {e1 e2 : Bool} {s1 s2 : Env → Res (Val × Src)} {o value : Expr} {pos pos' : Pos} (q2 : Quiet e2 s2) (hv : PE X value (tV X.K Cl ClX W e1 s1)) (ho : PE X o (tV X.K Cl ClX W e2 s2)) (hs : swapsWith value (some (.Attribute o f pos')) pos.line X.env = pure false) :
    PS X (.Assign [.Attribute o f pos'] value pos) (tS X.K Cl ClX W pr fun ρ => (argsCons (!(e2 || false)) s1 (argsCons (!false) s2 argsNil) ρ).flow (sFput c f)) :=
  PS.le (ps_fld ho hv hs) fun D σ H h => tv_mono (two_args q2 (fput_core cl nat h)) fun v H1 h1 => tv_mono h1 fun x H2 ⟨v', x', e, z⟩ => by
    cases e
    exact z
end
end VS

namespace VS
open PySem L2

/-! ### the tree against the text -/
def notStar : Expr → Bool
  | .Starred _ _ => false
  | _ => true
def notComp : Expr → Bool
  | .ListComp _ _ _ _ => false
  | .SetComp _ _ _ _ => false
  | .DictComp _ _ _ _ _ => false
  | _ => true
def notSlice : Expr → Bool
  | .Slice _ _ _ _ => false
  | _ => true
def notSet : Expr → Bool
  | .Set _ _ _ => false
  | _ => true
def notIfx : Expr → Bool
  | .IfExp _ _ _ _ => false
  | _ => true
def plainT : Expr → Bool
  | .UnaryOp .Not _ _ => false
  | .BoolOp _ _ _ => false
  | .IfExp _ _ _ _ => false
  | .Compare _ _ _ _ => false
  | _ => true
def notTup : Expr → Bool
  | .Tuple _ _ _ => false
  | .List _ _ => false
  | _ => true
/-- o in o.m: not a call of a bare name without arguments (super()) -/
def notCall0 : Expr → Bool
  | .Call (.Name _ _) [] [] _ => false
  | _ => true
theorem star_of {a : Expr} (h : notStar a = true) (es : List Expr) (env : PySem.Env) : starEach (a :: es) env = (false, eval a env) :: starEach es env := by
  cases a <;> first | rfl | cases h
theorem star_all {es : List Expr} {pos : Pos} {env : PySem.Env} (h : es.all notStar = true) : (backTo pos (starEach es env)).any (·.1) = false := by
  induction es with
  | nil => rfl
  | cons a es ih =>
    simp only [List.all_cons, Bool.and_eq_true] at h
    rw [star_of h.1]
    show (false || (backTo pos (starEach es env)).any (·.1)) = false
    rw [ih h.2]
    rfl
theorem star_all2 {es : List Expr} {pos : Pos} {env : PySem.Env} (h : es.all notStar = true) : (backTo pos (starEach es env)).all (fun x => !x.1) = true := by
  induction es with
  | nil => rfl
  | cons a es ih =>
    simp only [List.all_cons, Bool.and_eq_true] at h
    rw [star_of h.1]
    show (true && (backTo pos (starEach es env)).all (fun x => !x.1)) = true
    rw [ih h.2]
    rfl
theorem swaps_of {a : Expr} (h : notComp a = true) (t : Option Expr) (n : Nat) (env : PySem.Env) : swapsWith a t n env = pure false := by
  cases a <;> first | rfl | cases h
theorem swaps_name {a : Expr} {is : List Expr} {k : Nat} {p : Pos} (h : notComp a = true) (n : Nat) (env : PySem.Env) : swapsWithSole [.Tuple is k p] a n env = pure false := by
  cases a <;> first | rfl | cases h
theorem swapped_of {a : Expr} {is : List Expr} {k : Nat} {p : Pos} (h : notTup a = true) (env : PySem.Env) : swappedStores [.Tuple is k p] a env = pure none := by
  cases a <;> first | rfl | cases h
theorem plain_of {b : Expr} (h : notSlice b = true) : PlainIx b := fun o i => by
  cases b <;> first | rfl | cases h
theorem fold_of {b : Expr} (h : notSet b = true) (env : PySem.Env) : ∀ x, foldedSetIterable b env x = pure x := fun x => by
  cases b <;> first | rfl | cases h
theorem base_of {o : Expr} (h : notCall0 o = true) (m : Str) (env : PySem.Env) (t : Sem Value) : attributeBase o m env t = t := by
  unfold attributeBase
  split
  · cases h
  · rfl

def visB (sc : Scope) (x : Str) : Bool := match sc.names.lookup x with
  | some .local => true
  | some .cell => true
  | some .free => true
  | _ => false
def locB (sc : Scope) (x : Str) : Bool := match sc.names.lookup x with
  | some .local => true
  | some .cell => true
  | _ => false
def glB (sc : Scope) (x : Str) : Bool := decide (sc.names.lookup x = some .globalImplicit)
def okName (x : Str) : Bool := !(x == ("__debug__" : Str)) && !(x == ("__classdict__" : Str)) && decide (x ≠ "__name__")
theorem visB_ok {sc : Scope} {x : Str} (h : visB sc x = true) : Vis sc x := by
  unfold visB at h
  unfold Vis
  split at h <;> simp_all
theorem locB_ok {sc : Scope} {x : Str} (h : locB sc x = true) : L2.Loc sc x := by
  unfold locB at h
  unfold L2.Loc
  split at h <;> simp_all
def opB : Bin → Operator → Bool
  | .add, .Add => true
  | .sub, .Sub => true
  | .mul, .Mult => true
  | .fdiv, .FloorDiv => true
  | .mod, .Mod => true
  | .pow, .Pow => true
  | .band, .BitAnd => true
  | .shr, .RShift => true
  | .rep, .Mult => true
  | _, _ => false
def cmpB : Cmp → CmpOp → Bool
  | .eq, .Eq => true
  | .ne, .NotEq => true
  | .lt, .Lt => true
  | .le, .LtE => true
  | .gt, .Gt => true
  | .ge, .GtE => true
  | .is, .Is => true
  | .isnot, .IsNot => true
  | .inn, .In => true
  | .notin, .NotIn => true
  | .eqS, .Eq => true
  | .neS, .NotEq => true
  | _, _ => false
def opI : Cmp → CmpOp → Bool
  | .lt, .Lt => true
  | .le, .LtE => true
  | .gt, .Gt => true
  | .ge, .GtE => true
  | _, _ => false
def biName : Bi → Str
  | .len => "len" | .list => "list" | .tuple => "tuple" | .sorted => "sorted" | .sum => "sum" | .all => "all" | .any => "any" | .min2 => "min" | .max2 => "max" | .int => "int" | .max1 => "max" | .min1 => "min" | .lenD => "len" | .sortedD => "sorted" | .dictD => "dict" | .dictP => "dict" | .repr => "repr" | .tupleP => "tuple"
def biArity : Bi → Nat
  | .min2 => 2
  | .max2 => 2
  | _ => 1
def Exs.len : Exs → Nat
  | .nil => 0
  | .cons _ es => es.len + 1
def muName : Mu → Str
  | .append => "append" | .pop => "pop" | .clear => "clear" | .remove => "remove" | .popAt => "pop" | .reverse => "reverse" | .extend => "extend"
def q1Name : Q1 → Str
  | .lindex => "index" | .lcount => "count"
def muDone : Mu → Bool
  | _ => true
def muArity : Mu → Nat
  | .append => 1
  | .remove => 1
  | .popAt => 1
  | .extend => 1
  | _ => 0
/-- the def that tells an exception's kinds: its name, its parameter, its classes; the answers, by the exception's class; the class that is caught -/
structure KnT where
  name : Str
  qual : Str
  par : Str
  cs : List Str
  tb : List (List Bool)
  base : Str
  st : Stmt
/-- what the text's names mean: the defs by their numbers, with the number of their parameters -/
structure Voc where
  fn : Nat → Option (Str × Nat)
  N : List Str
  /-- names whose cells are made at the entry -/
  own : Str → Bool
  /-- the fields of a class -/
  fld : Nat → Str → Bool := fun _ _ => false
  /-- methods: their class, name, number of parameters -/
  mt : Nat → Option (Nat × Str × Nat) := fun _ => none
  /-- classes that are made: name, __init__, number of its parameters -/
  mkn : Nat → Option (Str × Nat × Nat) := fun _ => none
  /-- exception classes, by name -/
  xc : Nat → Option Str := fun _ => none
  kn : Option KnT := none
def tgB (V : Voc) (sc : Scope) : Tg → Expr → Bool
  | .name i, .Name x _ => decide (V.N[i]? = some x) && locB sc x && (V.own x || decide (sc.names.lookup x = some .local))
  | .tup is, .Tuple es _ _ => go is es
  | _, _ => false
where go : List Nat → List Expr → Bool
  | [], [] => true
  | i :: is, .Name x _ :: es => decide (V.N[i]? = some x) && locB sc x && (V.own x || decide (sc.names.lookup x = some .local)) && go is es
  | _, _ => false
/-- a comprehension's own vocabulary -/
def Voc.blk (V : Voc) (scope : Scope) : Voc := { V with own := fun x => scope.names.lookup x == some .cell }
def ownOf (N : List Str) (is : List Nat) : List (Str × Nat) := is.map fun i => (N.getD i "", i)
def isNonE : Ex → Bool
  | .non => true
  | _ => false
def isIntE : Ex → Bool
  | .asInt _ => true
  | _ => false
/-- a walk of new pairs wants a pair of names -/
def enumOk : ItK → Tg → Bool
  | .enum, .name _ => false
  | _, _ => true
def chkI0 (k : ItK) (f : List Expr → Bool) (sc : Scope) (pe : Expr) : Bool := match k, pe with
  | .range1, .Call (.Name x _) [a] [] _ => decide (x = "range") && glB sc x && notStar a && f [a]
  | .range2, .Call (.Name x _) [a, b] [] _ => decide (x = "range") && glB sc x && notStar a && notStar b && f [a, b]
  | .rev, .Call (.Name x _) [a] [] _ => decide (x = "reversed") && glB sc x && notStar a && f [a]
  | .enum, .Call (.Name x _) [a] [] _ => decide (x = "enumerate") && glB sc x && notStar a && f [a]
  | .range3, .Call (.Name x _) [a, b, c] [] _ => decide (x = "range") && glB sc x && notStar a && notStar b && notStar c && f [a, b, c]
  | .seq, pe => f [pe]
  | _, _ => false
mutual
def chkE (V : Voc) : Ex → Scope → Expr → Bool
  | .non => fun _ pe => match pe with
    | .Constant .none _ _ => true
    | _ => false
  | .bl b => fun _ pe => match pe with
    | .Constant (.bool c) _ _ => b == c
    | _ => false
  | .int i => fun _ pe => match pe with
    | .Constant (.int j) _ _ => decide (i = j)
    | _ => false
  | .str x => fun _ pe => match pe with
    | .Constant (.str y) _ _ => decide (x = y)
    | _ => false
  | .var i => fun sc pe => match pe with
    | .Name x _ => decide (V.N[i]? = some x) && visB sc x && okName x
    | _ => false
  | .mv i => fun sc pe => match pe with
    | .Name x _ => decide (V.N[i]? = some x) && visB sc x && okName x
    | _ => false
  | .own e => fun sc pe => (plainT pe && notComp pe) && chkE V e sc pe
  | .frz e => fun sc pe => (plainT pe && notComp pe) && chkE V e sc pe
  | .glo y => fun sc pe => match pe with
    | .Name x _ => decide (x = y) && glB sc x && okName x
    | _ => false
  | .bin op a b => fun sc pe => match pe with
    | .BinOp l o r _ => opB op o && chkE V a sc l && chkE V b sc r
    | _ => false
  | .neg a => fun sc pe => match pe with
    | .UnaryOp .USub l _ => chkE V a sc l
    | _ => false
  | .cmp op a b => fun sc pe => match pe with
    | .Compare l [o] [r] _ => cmpB op o && notSet r && chkE V a sc l && chkE V b sc r
    | _ => false
  | .chain op op' a b c => fun sc pe => match pe with
    | .Compare l [o, o'] [r, r'] _ => opI op o && opI op' o' && notSet r && notSet r' && chkE V a sc l && chkE V b sc r && chkE V c sc r'
    | _ => false
  | .chain3 op op' op'' a b c d => fun sc pe => match pe with
    | .Compare l [o, o', o''] [r, r', r''] _ => opI op o && opI op' o' && opI op'' o'' && notSet r && notSet r' && notSet r'' && chkE V a sc l && chkE V b sc r && chkE V c sc r' && chkE V d sc r''
    | _ => false
  | .and a b => fun sc pe => match pe with
    | .BoolOp .And (x :: y :: []) _ => notIfx x && notIfx y && chkE V a sc x && chkE V b sc y
    | .BoolOp .And (x :: y :: z :: rest) pos => notIfx x && chkE V a sc x && chkE V b sc (.BoolOp .And (y :: z :: rest) pos)
    | _ => false
  | .or a b => fun sc pe => match pe with
    | .BoolOp .Or (x :: y :: []) _ => notIfx x && notIfx y && chkE V a sc x && chkE V b sc y
    | .BoolOp .Or (x :: y :: z :: rest) pos => notIfx x && chkE V a sc x && chkE V b sc (.BoolOp .Or (y :: z :: rest) pos)
    | _ => false
  | .not a => fun sc pe => match pe with
    | .UnaryOp .Not l _ => notIfx l && chkE V a sc l
    | _ => false
  | .ifx c a b => fun sc pe => match pe with
    | .IfExp t x y _ => notIfx t && chkE V c sc t && chkE V a sc x && chkE V b sc y
    | _ => false
  | .bi f es => fun sc pe => match pe with
    | .Call (.Name x _) (a :: as) [] _ => decide (x = biName f) && glB sc x && okName x && decide (es.len = biArity f) && chkEs V es sc (a :: as)
    | _ => false
  | .isi T e => fun sc pe => match pe with
    | .Call (.Name f _) [a, .Name t _] [] _ => decide (f = "isinstance") && glB sc f && decide (t = Str.ofString T) && glB sc t && okName t && decide (T ∈ ["bool", "int", "str", "tuple", "list"]) && notStar a && chkE V e sc a
    | _ => false
  | .ix a i => fun sc pe => match pe with
    | .Subscript v s _ => notSlice s && chkE V a sc v && chkE V i sc s
    | _ => false
  | .asInt e => fun sc pe => (plainT pe && notComp pe) && chkE V e sc pe
  | .slc a lo hi => fun sc pe => match pe with
    | .Subscript v (.Slice l u none _) _ => chkE V a sc v && (match l with
      | none => isNonE lo
      | some p => isIntE lo && chkE V lo sc p) && (match u with
      | none => isNonE hi
      | some p => isIntE hi && chkE V hi sc p)
    | _ => false
  | .fld c e f => fun sc pe => match pe with
    | .Attribute v g _ => decide (g = f) && notCall0 v && V.fld c f && chkE V e sc v
    | _ => false
  | .meth f c m o es => fun sc pe => match pe with
    | .Call (.Attribute v g apos) as [] cpos => decide (g = m) && decide (V.mt f = some (c, m, es.len + 1)) && notCall0 v && (apos.endLine == cpos.line) && decide (as.length < 30) && chkE V o sc v && chkEs V es sc as
    | _ => false
  | .methM f c m o es => fun sc pe => match pe with
    | .Call (.Attribute v g apos) as [] cpos => decide (g = m) && decide (V.mt f = some (c, m, es.len + 1)) && notCall0 v && (apos.endLine == cpos.line) && decide (as.length < 30) && chkE V o sc v && chkEs V es sc as
    | _ => false
  | .make c f es => fun sc pe => match pe with
    | .Call (.Name x _) as [] _ => decide (V.mkn c = some (x, f, es.len + 1)) && glB sc x && okName x && chkEs V es sc as
    | _ => false
  | .tup es => fun sc pe => match pe with
    | .Tuple as _ _ => chkEs V es sc as
    | _ => false
  | .lst es => fun sc pe => match pe with
    | .List as _ => chkEs V es sc as
    | _ => false
  | .call f es => fun sc pe => match pe with
    | .Call (.Name x _) (a :: as) [] _ => decide (V.fn f = some (x, es.len)) && glB sc x && okName x && chkEs V es sc (a :: as)
    | _ => false
  | .callM f es => fun sc pe => match pe with
    | .Call (.Name x _) (a :: as) [] _ => decide (V.fn f = some (x, es.len)) && glB sc x && okName x && chkEs V es sc (a :: as)
    | _ => false
  | .mu m o es => fun sc pe => match pe with
    | .Call (.Attribute v name apos) as [] cpos => decide (name = muName m) && muDone m && notCall0 v && (apos.endLine == cpos.line) && decide (es.len = muArity m) && decide (as.length = muArity m) && chkE V o sc v && chkEs V es sc as
    | _ => false
  | .comp tg k its tests elt => fun sc pe => match pe with
    | .ListComp pelt [⟨ptg, iter, ifs, 0⟩] scope _ => enumOk k tg && chkI0 k (fun as => chkEs V its sc as) sc iter && notSet iter && blkC V.N sc scope (ownOf V.N tg.slots) && tgB (V.blk scope) (relS scope sc) tg ptg && chkT V tests scope (relS scope sc) ifs && chkE V elt (relS scope sc) pelt
    | _ => false
  | .compQ tg i tests elt => fun sc pe => match pe with
    | .ListComp pelt [⟨ptg, .Name x p, ifs, 0⟩] scope _ => (decide (V.N[i]? = some x) && visB sc x && okName x) && blkC V.N sc scope (ownOf V.N tg.slots) && tgB (V.blk scope) (relS scope sc) tg ptg && chkT V tests scope (relS scope sc) ifs && chkE V elt (relS scope sc) pelt && !effs tests && !eff elt
    | _ => false
  | .compP tg i tests elt => fun sc pe => match pe with
    | .ListComp pelt [⟨ptg, .Name x p, ifs, 0⟩] scope _ => (decide (V.N[i]? = some x) && visB sc x && okName x) && blkC V.N sc scope (ownOf V.N tg.slots) && tgB (V.blk scope) (relS scope sc) tg ptg && chkT V tests scope (relS scope sc) ifs && chkE V elt (relS scope sc) pelt
    | _ => false
  | .listrev e => fun sc pe => match pe with
    | .Call (.Name x _) [.Call (.Name y _) [a] [] _] [] _ => decide (x = "list") && glB sc x && decide (y = "reversed") && glB sc y && notStar a && chkE V e sc a
    | _ => false
  | .sset e => fun sc pe => match pe with
    | .Call (.Name x _) [.Call (.Name y _) [a] [] _] [] _ => decide (x = "sorted") && glB sc x && decide (y = "set") && glB sc y && notStar a && chkE V e sc a
    | _ => false
  | .lrng a b => fun sc pe => match pe with
    | .Call (.Name x _) [.Call (.Name y _) [pa, pb] [] _] [] _ => decide (x = "list") && glB sc x && decide (y = "range") && glB sc y && notStar pa && notStar pb && chkE V a sc pa && chkE V b sc pb
    | _ => false
  | .bitlen e => fun sc pe => match pe with
    | .Call (.Attribute v name apos) [] [] cpos => decide (name = "bit_length") && notCall0 v && (apos.endLine == cpos.line) && chkE V e sc v
    | _ => false
  | .ixd a i => fun sc pe => match pe with
    | .Subscript v s _ => notSlice s && chkE V a sc v && chkE V i sc s
    | _ => false
  | .q1 m o a => fun sc pe => match pe with
    | .Call (.Attribute v name apos) [b] [] cpos => decide (name = q1Name m) && notCall0 v && (apos.endLine == cpos.line) && notStar b && chkE V o sc v && chkE V a sc b
    | _ => false
  | .get1 o a => fun sc pe => match pe with
    | .Call (.Attribute v name apos) [b] [] cpos => decide (name = "get") && notCall0 v && (apos.endLine == cpos.line) && notStar b && chkE V o sc v && chkE V a sc b
    | _ => false
  | .get2 o a b => fun sc pe => match pe with
    | .Call (.Attribute v name apos) [c, d] [] cpos => decide (name = "get") && notCall0 v && (apos.endLine == cpos.line) && notStar c && notStar d && chkE V o sc v && chkE V a sc c && chkE V b sc d
    | _ => false
  | .dnew _ => fun _ pe => match pe with
    | .Dict [] [] _ => true
    | _ => false
  | .ddis es => fun sc pe => match pe with
    | .Dict keys values _ => decide (keys.length ≤ 15) && decide (keys.length = values.length) && (keys.all (·.isSome)) && !keys.isEmpty && chkDs V es sc keys values
    | _ => false
  | .nevE => fun _ pe => plainT pe && notComp pe
def chkDs (V : Voc) : Exs → Scope → List (Option Expr) → List Expr → Bool
  | .nil => fun _ ks vs => match ks, vs with
    | [], [] => true
    | _, _ => false
  | .cons k .nil => fun _ _ _ => false
  | .cons k (.cons v es) => fun sc ks vs => match ks, vs with
    | some ke :: ks, ve :: vs => chkE V k sc ke && chkE V v sc ve && chkDs V es sc ks vs
    | _, _ => false
def chkEs (V : Voc) : Exs → Scope → List Expr → Bool
  | .nil => fun _ es => match es with
    | [] => true
    | _ => false
  | .cons e es => fun sc as => match as with
    | a :: as => notStar a && chkE V e sc a && chkEs V es sc as
    | [] => false
def chkT (V : Voc) : Exs → Scope → Scope → List Expr → Bool
  | .nil => fun _ _ es => match es with
    | [] => true
    | _ => false
  | .cons e .nil => fun _ sc es => match es with
    | [a] => notIfx a && chkE V e sc a
    | _ => false
  | .cons _ (.cons _ _) => fun _ _ _ => false
end
def chkI (V : Voc) (k : ItK) (es : Exs) (sc : Scope) (pe : Expr) : Bool := chkI0 k (fun as => chkEs V es sc as) sc pe
end VS

namespace VS
open PySem L2
/-! ### what changes nothing -/
theorem quiet_prim {e : Bool} {g : List Val → Option Val} {s : Env → Res (List (Val × Src))} (h : Quiet e s) : Quiet e (prim g s) := fun z ρ => by
  have h1 := h z ρ
  unfold prim
  cases hs : s ρ with
  | bad => trivial
  | exc x ρ1 => rw [hs] at h1; exact h1
  | ok as ρ1 =>
    rw [hs] at h1
    simp only [Res.bind_ok]
    cases g (as.map (·.1)) with
    | none => trivial
    | some v => exact h1
theorem quiet_then {e : Bool} {s : Env → Res (List (Val × Src))} {k : List (Val × Src) → Env → Res (Val × Src)} (h : Quiet e s) (hk : ∀ as ρ, match k as ρ with
    | .ok _ ρ' => ρ' = ρ
    | .exc _ ρ' => ρ' = ρ
    | .bad => True) : Quiet e (sThen s k) := fun z ρ => by
  have h1 := h z ρ
  unfold sThen
  cases hs : s ρ with
  | bad => trivial
  | exc x ρ1 => rw [hs] at h1; exact h1
  | ok as ρ1 =>
    rw [hs] at h1
    subst h1
    have h2 := hk as ρ1
    simp only [Res.bind_ok]
    cases hk2 : k as ρ1 <;> rw [hk2] at h2 <;> exact h2
theorem quiet_test {e : Bool} {s : Env → Res (Val × Src)} (h : Quiet e s) : Quiet e fun ρ => (s ρ).test := fun z ρ => by
  have h1 := h z ρ
  dsimp only
  cases hs : s ρ with
  | bad => trivial
  | exc x ρ1 => rw [hs] at h1; exact h1
  | ok a ρ1 =>
    rw [hs] at h1
    obtain ⟨v, sr⟩ := a
    cases v <;> first | exact h1 | trivial
theorem quiet_bind {α β : Type} {e1 e2 : Bool} {s : Env → Res α} {k : α → Env → Res β} (h : Quiet e1 s) (hk : e2 = false → ∀ a ρ, match k a ρ with
    | .ok _ ρ' => ρ' = ρ
    | .exc _ ρ' => ρ' = ρ
    | .bad => True) : Quiet (e1 || e2) fun ρ => (s ρ).bind k := fun z ρ => by
  simp only [Bool.or_eq_false_iff] at z
  have h1 := h z.1 ρ
  dsimp only
  cases hs : s ρ with
  | bad => trivial
  | exc x ρ1 => rw [hs] at h1; exact h1
  | ok a ρ1 =>
    rw [hs] at h1
    subst h1
    have h2 := hk z.2 a ρ1
    simp only [Res.bind_ok]
    cases hk2 : k a ρ1 <;> rw [hk2] at h2 <;> exact h2
theorem quiet_lift {α : Type} {e : Bool} {s : Env → Res α} (h : Quiet e s) (z : e = false) (ρ : Env) : match s ρ with
    | .ok _ ρ' => ρ' = ρ
    | .exc _ ρ' => ρ' = ρ
    | .bad => True := h z ρ
theorem quiet_int1 {e : Bool} {s : Env → Res (Val × Src)} (h : Quiet e s) : Quiet e fun ρ => (s ρ).bind sInt1 := fun z ρ => by
  have h1 := h z ρ
  dsimp only
  cases hs : s ρ with
  | bad => trivial
  | exc x ρ1 => rw [hs] at h1; exact h1
  | ok a ρ1 =>
    rw [hs] at h1
    obtain ⟨v, sr⟩ := a
    cases v <;> first | exact h1 | trivial
theorem quiet_link {e1 e2 : Bool} {s : Env → Res (Val × Src)} {c : (Val × Src) → Bool} {k : (Val × Src) → Env → Res (Val × Src)} (h : Quiet e1 s) (hk : ∀ a, Quiet e2 (k a)) : Quiet (e1 || e2) fun ρ => ((s ρ).bind sInt1).bind fun y ρ1 => if c y = true then k y ρ1 else .ok (.bl false, .tmp) ρ1 := quiet_bind (quiet_int1 h) fun z a ρ => by
  by_cases hc : c a = true
  · rw [if_pos hc]; exact hk a z ρ
  · rw [if_neg hc]
mutual
theorem ev_quiet (D : Defs) (G : Str → Option Val) : ∀ e : Ex, Quiet (eff e) (ev D G e)
  | .non => fun _ ρ => by rfl
  | .bl b => fun _ ρ => by rfl
  | .int i => fun _ ρ => by rfl
  | .str x => fun _ ρ => by rfl
  | .var i => fun _ ρ => by
    simp only [ev, sVar]
    cases ρ[i]? with
    | none => trivial
    | some o => cases o <;> trivial
  | .mv i => fun h => by cases h
  | .own e => fun h => by cases h
  | .frz e => fun h => by cases h
  | .glo x => fun _ ρ => by
    simp only [ev]
    cases G x <;> trivial
  | .bin op a b => by
    simp only [ev, eff]
    exact quiet_prim (Quiet.cons (ev_quiet D G a) (Quiet.cons (ev_quiet D G b) quiet_nil))
  | .neg a => by
    simp only [ev, eff]
    exact quiet_prim (Quiet.cons (ev_quiet D G a) quiet_nil)
  | .cmp op a b => by
    simp only [ev, eff]
    exact quiet_prim (Quiet.cons (ev_quiet D G a) (Quiet.cons (ev_quiet D G b) quiet_nil))
  | .chain op op' a b c => by
    simp only [ev, eff]
    refine quiet_bind (quiet_int1 (ev_quiet D G a)) fun z x ρ => ?_
    simp only [Bool.or_eq_false_iff] at z
    have h2 := quiet_int1 (ev_quiet D G b) z.1 ρ
    dsimp only at h2
    cases hs : (ev D G b ρ).bind sInt1 with
    | bad => trivial
    | exc y ρ1 => rw [hs] at h2; exact h2
    | ok y ρ1 =>
      rw [hs] at h2
      subst h2
      simp only [Res.bind_ok]
      by_cases hc : cmpV op x.1 y.1 = true
      · rw [if_pos hc]
        have h3 := quiet_int1 (ev_quiet D G c) z.2 ρ1
        dsimp only at h3
        cases hs3 : (ev D G c ρ1).bind sInt1 with
        | bad => trivial
        | exc w ρ2 => rw [hs3] at h3; exact h3
        | ok w ρ2 => rw [hs3] at h3; exact h3
      · rw [if_neg hc]
  | .chain3 op op' op'' a b c d => by
    simp only [ev, eff]
    refine quiet_bind (quiet_int1 (ev_quiet D G a)) fun z x ρ => ?_
    refine quiet_link (ev_quiet D G b) (fun y => quiet_link (ev_quiet D G c) fun w => ?_) z ρ
    have := quiet_bind (e2 := false) (quiet_int1 (ev_quiet D G d)) (k := fun u ρ1 => (.ok (.bl (cmpV op'' w.1 u.1), .tmp) ρ1 : Res (Val × Src))) fun z c ρ => rfl
    rwa [Bool.or_false] at this
  | .and a b => by
    simp only [ev, eff]
    refine quiet_bind (quiet_test (ev_quiet D G a)) fun z c ρ => ?_
    cases c with
    | false => simp
    | true =>
      simp only [if_true]
      have h2 := quiet_test (ev_quiet D G b) z ρ
      dsimp only at h2
      cases hs : (ev D G b ρ).test with
      | bad => trivial
      | exc x ρ1 => rw [hs] at h2; exact h2
      | ok c ρ1 => rw [hs] at h2; exact h2
  | .or a b => by
    simp only [ev, eff]
    refine quiet_bind (quiet_test (ev_quiet D G a)) fun z c ρ => ?_
    cases c with
    | true => simp
    | false =>
      simp only [Bool.false_eq_true, if_false]
      have h2 := quiet_test (ev_quiet D G b) z ρ
      dsimp only at h2
      cases hs : (ev D G b ρ).test with
      | bad => trivial
      | exc x ρ1 => rw [hs] at h2; exact h2
      | ok c ρ1 => rw [hs] at h2; exact h2
  | .not a => by
    simp only [ev, eff]
    have := quiet_bind (e2 := false) (quiet_test (ev_quiet D G a)) (k := fun c ρ1 => (.ok (.bl (!c), .tmp) ρ1 : Res (Val × Src))) fun z c ρ => rfl
    rwa [Bool.or_false] at this
  | .ifx c a b => by
    simp only [ev, eff]
    refine quiet_bind (quiet_test (ev_quiet D G c)) fun z c ρ => ?_
    simp only [Bool.or_eq_false_iff] at z
    cases c with
    | true => simp only [if_true]; exact ev_quiet D G a z.1 ρ
    | false => simp only [Bool.false_eq_true, if_false]; exact ev_quiet D G b z.2 ρ
  | .bi f es => by
    simp only [ev, eff]
    exact quiet_prim (evs_quiet D G es)
  | .isi T e => by
    simp only [ev, eff]
    exact quiet_prim (Quiet.cons (ev_quiet D G e) quiet_nil)
  | .ix a i => by
    simp only [ev, eff]
    refine quiet_then (Quiet.cons (ev_quiet D G a) (Quiet.cons (ev_quiet D G i) quiet_nil)) fun as ρ => ?_
    rcases sIx_inv (as := as) (ρ := ρ) with h | ⟨x, s, j, s', t, vs, k, v, _, _, _, _, h⟩
    · rw [h]; trivial
    · rw [h]
  | .asInt e => by
    simp only [ev, eff]
    exact quiet_int (ev_quiet D G e)
  | .slc a lo hi => by
    simp only [ev, eff]
    exact quiet_prim (Quiet.cons (ev_quiet D G a) (Quiet.cons (ev_quiet D G lo) (Quiet.cons (ev_quiet D G hi) quiet_nil)))
  | .fld c e f => by
    simp only [ev, eff]
    have h := ev_quiet D G e
    intro z ρ
    have h1 := h z ρ
    dsimp only
    cases hs : ev D G e ρ with
    | bad => trivial
    | exc x ρ1 => rw [hs] at h1; exact h1
    | ok a ρ1 =>
      rw [hs] at h1
      simp only [Res.bind_ok]
      rcases sFld_inv (c := c) (f := f) (a := a) (ρ := ρ1) with hk | ⟨_, _, _, _, _, _, _, _, _, hk⟩
      · rw [hk]; trivial
      · rw [hk]; exact h1
  | .meth f c m o es => by
    simp only [ev, eff]
    refine quiet_then (Quiet.cons (quiet_mid (ev_quiet D G o)) (evs_quiet D G es)) fun as ρ => ?_
    unfold sCall
    by_cases h : (D.modes f).any id = true
    · rw [if_pos h]; trivial
    · rw [if_neg h]
      cases D.run f (freezes (as.map (·.1))) with
      | bad => trivial
      | exc x fin => rfl
      | ok v fin =>
        dsimp only
        by_cases h : (pures (as.map (·.1)) || v.nofz) = true
        · rw [if_pos h]
        · rw [if_neg h]; trivial
  | .methM f c m o es => fun h => by cases h
  | .make c f es => by
    simp only [ev, eff]
    refine quiet_then (evs_quiet D G es) fun as ρ => ?_
    unfold sMake
    cases D.modes f with
    | nil => trivial
    | cons b ms =>
      cases b with
      | false => trivial
      | true =>
        dsimp only
        by_cases h : (!ms.any id && allTmp as && pures (as.map (·.1)) && decide (ms.length = as.length)) = true
        · rw [if_pos h]
          cases D.run f (.node (.ins false c []) [] :: as.map (·.1)) with
          | bad => trivial
          | exc x fin => rfl
          | ok v fin => cases v <;> cases fin <;> first | trivial | rfl
        · rw [if_neg h]; trivial
  | .tup es => by
    simp only [ev, eff]
    refine quiet_then (evs_quiet D G es) fun as ρ => ?_
    unfold sNode
    by_cases h : (allTmp as && lineB as.length) = true
    · rw [if_pos h]
    · rw [if_neg h]; trivial
  | .lst es => by
    simp only [ev, eff]
    refine quiet_then (evs_quiet D G es) fun as ρ => ?_
    unfold sNode
    by_cases h : (allTmp as && lineB as.length) = true
    · rw [if_pos h]
    · rw [if_neg h]; trivial
  | .call f es => by
    simp only [ev, eff]
    refine quiet_then (evs_quiet D G es) fun as ρ => ?_
    unfold sCall
    by_cases h : (D.modes f).any id = true
    · rw [if_pos h]; trivial
    · rw [if_neg h]
      cases D.run f (freezes (as.map (·.1))) with
      | bad => trivial
      | exc x fin => rfl
      | ok v fin =>
        dsimp only
        by_cases h : (pures (as.map (·.1)) || v.nofz) = true
        · rw [if_pos h]
        · rw [if_neg h]; trivial
  | .callM f es => fun h => by cases h
  | .mu m o es => fun h => by cases h
  | .comp tg k its tests elt => fun h => by cases h
  | .compP tg i tests elt => fun h => by cases h
  | .compQ tg i tests elt => fun _ ρ => by
    simp only [ev]
    cases seqAt ρ i with
    | none => trivial
    | some xs =>
      dsimp only
      cases hr : compRH noHd (bindTg tg) tg.slots (fun ρ => tst D G tests ρ) (fun ρ => ev D G elt ρ) xs (wipeE ρ tg.slots) [] with
      | bad => rw [show compR (bindTg tg) tg.slots (fun ρ => tst D G tests ρ) (fun ρ => ev D G elt ρ) xs (wipeE ρ tg.slots) [] = _ from hr]; trivial
      | exc x ρ2 => exact absurd hr compR_ok
      | ok vs ρ2 => rw [show compR (bindTg tg) tg.slots (fun ρ => tst D G tests ρ) (fun ρ => ev D G elt ρ) xs (wipeE ρ tg.slots) [] = _ from hr]; rfl
  | .listrev e => by
    simp only [ev, eff]
    exact quiet_prim (Quiet.cons (ev_quiet D G e) quiet_nil)
  | .sset e => by
    simp only [ev, eff]
    exact quiet_prim (Quiet.cons (ev_quiet D G e) quiet_nil)
  | .lrng a b => by
    simp only [ev, eff]
    exact quiet_prim (Quiet.cons (ev_quiet D G a) (Quiet.cons (ev_quiet D G b) quiet_nil))
  | .bitlen e => by
    simp only [ev, eff]
    exact quiet_prim (Quiet.cons (ev_quiet D G e) quiet_nil)
  | .ixd a i => by
    simp only [ev, eff]
    refine quiet_then (Quiet.cons (ev_quiet D G a) (Quiet.cons (ev_quiet D G i) quiet_nil)) fun as ρ => ?_
    rcases sDx_inv (as := as) (ρ := ρ) with h | ⟨x, s, y, s', t, vs, k, v, _, _, _, h⟩
    · rw [h]; trivial
    · rw [h]
  | .get1 o a => by
    simp only [ev, eff]
    exact quiet_prim (Quiet.cons (quiet_mid (ev_quiet D G o)) (Quiet.cons (ev_quiet D G a) quiet_nil))
  | .q1 m o a => by
    simp only [ev, eff]
    exact quiet_prim (Quiet.cons (quiet_mid (ev_quiet D G o)) (Quiet.cons (ev_quiet D G a) quiet_nil))
  | .get2 o a b => by
    simp only [ev, eff]
    exact quiet_prim (Quiet.cons (quiet_mid (ev_quiet D G o)) (Quiet.cons (ev_quiet D G a) (Quiet.cons (ev_quiet D G b) quiet_nil)))
  | .dnew t => by
    simp only [ev, eff]
    exact quiet_prim quiet_nil
  | .ddis es => by
    simp only [ev, eff]
    exact quiet_prim (evs_quiet D G es)
  | .nevE => fun _ ρ => by simp only [ev]
theorem evs_quiet (D : Defs) (G : Str → Option Val) : ∀ es : Exs, Quiet (effs es) (evs D G es)
  | .nil => by simp only [evs, effs]; exact quiet_nil
  | .cons e es => by simp only [evs, effs]; exact Quiet.cons (ev_quiet D G e) (evs_quiet D G es)
end
end VS

namespace VS
open PySem L2
section
variable {K : PySem.W.Frag} {Cl ClX : Nat → Addr} {X : Cx} {W : WX}
theorem pr_listrev : PrimOk K Cl (fun Vs H Q => ∃ x, Vs = [x] ∧ ∃ (a : Addr) (xs : List V), x = .ref a ∧ SqL K H a xs ∧ ∀ q, H q = none → Q (.ref q) (upd H q (.lst xs.reverse))) gListrev := by
  intro P H vs Vs Q v hw lv hg n
  have key : ∀ x ys, lseqOf x = some ys → vs = [x] → pures ys = true → v = .node (.lst false) ys.reverse → ∃ x, Vs = [x] ∧ ∃ (a : Addr) (xs : List V), x = .ref a ∧ SqL K H a xs ∧ ∀ q, H q = none → Q (.ref q) (upd H q (.lst xs.reverse)) := by
    rintro x ys e rfl hp rfl
    obtain ⟨X, f, rfl, h⟩ := hw.one
    obtain ⟨a, Ws, g, rfl, hh, r, _⟩ := h.lseq e
    exact ⟨_, rfl, a, Ws, rfl, hh, fun l hl => n.lst lv (Rs.rev (r.emp hp)) hl⟩
  unfold gListrev at hg
  split at hg
  · split at hg
    · cases hg; exact key _ _ rfl rfl (by assumption) rfl
    · cases hg
  · split at hg
    · cases hg; exact key _ _ rfl rfl (by assumption) rfl
    · cases hg
  · cases hg
theorem pr_bitlen : PrimOk K Cl (fun Vs H Q => ∃ x, Vs = [x] ∧ ∃ i, x = .int i ∧ Q (.int (Builtin.Int.intBits i : Nat)) H) gBitlen := by
  intro P H vs Vs Q v hw lv hg n
  unfold gBitlen at hg
  split at hg
  · cases hg
    obtain ⟨x, f, rfl, h⟩ := hw.one
    simp only [R] at h
    rw [h.1]
    exact ⟨_, rfl, _, rfl, n.int lv⟩
  · cases hg
theorem one_prim {e1 : Bool} {s : Env → Res (Val × Src)} {g : List Val → Option Val} {r : List V → Hp → VK → Prop} (pr : PrimOk K Cl r g) {σ : L2.St} {H : Hp} {Q : VK} (h : tV K Cl ClX W (e1 || false) (prim g (argsCons (!false) s argsNil)) σ H Q) :
    tV K Cl ClX W e1 s σ H fun x H1 => r [x] H1 Q := one_args (prim_ok pr h)
theorem tv_listrev {e1 : Bool} {s : Env → Res (Val × Src)} {a : Expr} {p p2 pos pos2 : Pos} (hc : X.calm = true) (hg : Gl X "list") (hm : X.mg "list" = none) (hg2 : Gl X "reversed") (hm2 : X.mg "reversed" = none) (he : starEach [a] X.env = (false, eval a X.env) :: starEach [] X.env) (ha : PE X a (tV X.K Cl ClX W e1 s)) :
    PE X (.Call (.Name "list" p) [.Call (.Name "reversed" p2) [a] [] pos2] [] pos) (tV X.K Cl ClX W (e1 || false) (prim gListrev (argsCons (!false) s argsNil))) :=
  PE.le (VRv.pe_listRev hc hg hm hg2 hm2 ha he) fun σ H Q h => tv_mono (one_prim pr_listrev h) fun x H1 ⟨y, e, q⟩ => by
    cases e
    exact q
theorem tv_bitlen {e1 : Bool} {s : Env → Res (Val × Src)} {a : Expr} {apos pos : Pos} (hbase : attributeBase a "bit_length" X.env (eval a X.env) = eval a X.env) (hline : (apos.endLine == pos.line) = true) (ha : PE X a (tV X.K Cl ClX W e1 s)) :
    PE X (.Call (.Attribute a "bit_length" apos) [] [] pos) (tV X.K Cl ClX W (e1 || false) (prim gBitlen (argsCons (!false) s argsNil))) :=
  PE.le (pe_bits ha hbase hline) fun σ H Q h => tv_mono (one_prim pr_bitlen h) fun x H1 ⟨y, e, q⟩ => by
    cases e
    exact q
end
end VS

/-! sorted(set(xs)) of whole numbers -/
namespace VS
open PySem PySem.Spec PyProof.Rows L2
abbrev nset (w : World) : Obj := { cls := .type "set", dict := none, data := .set #[] 0 (.fresh 0 0 (!w.params.followText "set-order")) }
section
variable {P : Program} {w : World} {A : Around} {E : Value → Shared → Prop} {s : Shared}
 set_option maxHeartbeats 3200000 in
theorem set_of_list {l : Addr} {items : Array Value} (ns : List Int) {Q : Value → Shared → Prop} (hh : A.handled = none) (hl : s.heap.IsList l items) (hit : IntsAre items.toList ns) (hb : ns.length + 1 < scanBound)
    (fin : ∀ (h' : Heap) (tk c : Nat), SetR w h' s.heap.objs.size (fun j => decide (j ∈ ns)) c → c ≤ ns.length → (∀ b o, s.heap.get? b = some o → h'.get? b = some o) → Q (.ref s.heap.objs.size) { s with heap := h', toks := tk }) :
    wpAny (model P w) A (call (.type "set") [.ref l]) Q E s := by
  have hisz : items.size = ns.length := by have q := IntsAre.length hit; rwa [Array.length_toList] at q
  obtain ⟨mc, mt, hmro⟩ := F.called_set.mro; have hmade := F.called_set.made; have hsub := F.called_set.sub
  refine wpAny_call (codeAny_of_tree ?_); show wpAny _ _ (callAny (.type "set") _) _ _ _
  refine wpAny_pure ⟨Code.quiet_builtin _ (by decide +kernel), codeAny_builtin F.entry_type_call ?_⟩; rw [Around.under_plain (weight_type_call_type "set" [.ref l] []) rfl]
  have h1 := F.called_set.notType; have h2 := F.called_set.canCreate; have hct := F.typeCall_set_1 (.ref l)
  repeat (any_goals first | assumption | wp_step)
  refine codeAny_mono (code_set_led1 (.ref l) (E := E) (Q₁ := fun obj s₁ => obj = .ref s.heap.objs.size ∧ s₁ = { s with heap := s.heap.push (nset w) }) ⟨rfl, rfl⟩) fun r s₁ hr => ?_
  rcases r with e | fl
  · exact hr
  cases fl with
  | ret obj =>
    obtain ⟨rfl, rfl⟩ := hr
    have hS : (s.heap.push (nset w)).get? s.heap.objs.size = some (nset w) := Heap.get?_push_size _ rfl
    have hT : Shared.TypeIs { s with heap := s.heap.push (nset w) } (.ref s.heap.objs.size) "set" := ⟨_, hS, rfl⟩
    have hli := F.called_set.init.lookup; have hbi := F.called_set.init.bind (.ref s.heap.objs.size)
    repeat (any_goals first | assumption | wp_step)
    refine codeAny_mono (codeAny_call_builtin (R := wants (fun r s₂ => r = .none ∧ ∃ h' tk c, s₂ = { s with heap := h', toks := tk } ∧ SetR w h' s.heap.objs.size (fun j => decide (j ∈ ns)) c ∧ c ≤ ns.length ∧ (∀ b o, s.heap.get? b = some o → h'.get? b = some o)) E)
      F.called_set.init.plain F.entry_set_init (check_set_init_1 hT ?_)) fun r₂ s₂ hr₂ => ?_
    · obtain ⟨⟨ocls, odict, odata, oslots⟩, hol, hcl, nl, hdl⟩ := hl
      simp only at hcl hdl; subst hcl; subst hdl
      have hl1 : (s.heap.push (nset w)).IsList l items := ⟨_, Heap.get?_push_of_some _ hol, rfl, nl, rfl⟩
      have hol' : (s.heap.push (nset w)).get? l = some { cls := .type "list", dict := odict, data := .seq items nl, slots := oslots } := Heap.get?_push_of_some _ hol
      have hsls := F.sub_list_set; have hslf := F.sub_list_frozenset; have hne : (Value.type "list" == Value.type "dict") = false := by decide
      unfold Builtin.«set.__init__» noKeywords Builtin.Frozenset.updateFrom
      generalize hPI : pyIter = PI; wp_walk; subst hPI
      refine wpAny_pyIter_list hl1 ?_; refine wpAny_bind (wpAny_runValue ?_)
      have hlS : l < s.heap.objs.size := Heap.lt_size hol
      have hh3 : A.in1.in1.in1.handled = none := by simp [hh]
      have hz1 : (s.heap.push (nset w)).objs.size = s.heap.objs.size + 1 := Heap.size_push ..
      have hneI : l ≠ (s.heap.push (nset w)).objs.size := by rw [hz1]; exact Nat.ne_of_lt (Nat.lt_succ_of_lt hlS)
      have hSf : s.heap.objs.size ∉ [(s.heap.push (nset w)).objs.size, l] := by
        rw [hz1]; intro z; rcases List.mem_cons.mp z with z | z
        · exact absurd z (Nat.ne_of_lt (Nat.lt_succ_self _))
        · exact absurd (List.mem_singleton.mp z) (Nat.ne_of_gt hlS)
      refine set_update_ints ((Walks.list hh3 _ l hneI items).toS) s.heap.objs.size hSf ns hisz hb (fun i v hv => ?_) (items.size - 0) 0 _ (by omega) (Nat.zero_le _) ⟨⟨_, Heap.get?_push_size _ rfl, rfl, rfl⟩, (hl1.push _)⟩ ⟨0, Nat.le_refl 0, setR_new_at (Heap.get?_push_of_some _ hS)⟩ fun s' c' hm hc' hS' => ?_
      · have hi : i < ns.length := by rw [← hisz]; exact (Array.getElem?_eq_some_iff.mp hv).1
        obtain ⟨t, e⟩ := PyProof.Rows.IntsAre.int_at hit i v (by rw [Array.getElem?_toList]; exact hv)
        exact ⟨ns[i], t, List.getElem?_eq_getElem hi, by rw [e, List.getD_eq_getElem?_getD, List.getElem?_eq_getElem hi] <;> rfl⟩
      · obtain ⟨h', g2, d', tk', os'⟩ := s'
        obtain rfl : g2 = s.gens := hm.gens
        obtain rfl : d' = s.drawn := hm.drawn
        obtain rfl : os' = s.os := hm.os
        refine wpAny_pure ?_; show wpAny _ _ (ret Value.none) _ _ _
        refine wpAny_pure ⟨rfl, h', tk', c', rfl, hS', by rw [hisz] at hc'; exact hc', fun b o e => ?_⟩
        have hb0 : b < s.heap.objs.size := Heap.lt_size e
        refine hm.heap b o (fun z => ?_) (Heap.get?_push_of_some _ (Heap.get?_push_of_some _ e))
        rcases List.mem_cons.mp z with z | z
        · exact absurd z (Nat.ne_of_lt hb0)
        · exact absurd (List.mem_singleton.mp z) (by rw [hz1]; exact Nat.ne_of_lt (Nat.lt_succ_of_lt hb0))
    · rcases r₂ with e | fl₂
      · exact hr₂
      cases fl₂ with
      | ret r =>
        obtain ⟨rfl, h', tk, c', rfl, hS', hc', hk'⟩ := hr₂
        repeat (any_goals first | assumption | wp_step)
        exact fin _ _ _ hS' hc' hk'
      | _ => exact hr₂.elim
  | _ => exact hr.elim
end
theorem mem_uniqI {k : Int} : ∀ {ns : List Int}, k ∈ uniqI ns ↔ k ∈ ns
  | [] => Iff.rfl
  | x :: xs => by
    unfold uniqI
    by_cases h : x ∈ uniqI xs
    · rw [if_pos h, mem_uniqI (ns := xs), List.mem_cons]
      exact ⟨.inr, fun z => z.elim (fun z => by rw [z]; exact mem_uniqI.mp h) id⟩
    · rw [if_neg h, List.mem_cons, List.mem_cons, mem_uniqI (ns := xs)]
theorem nodup_uniqI : ∀ (ns : List Int), (uniqI ns).Nodup
  | [] => .nil
  | x :: xs => by
    unfold uniqI
    by_cases h : x ∈ uniqI xs
    · rw [if_pos h]; exact nodup_uniqI xs
    · rw [if_neg h]; exact List.nodup_cons.mpr ⟨h, nodup_uniqI xs⟩
theorem mem_sset {k : Int} {ns : List Int} : k ∈ sset ns ↔ k ∈ ns := (srt_perm _).mem_iff.trans mem_uniqI
theorem sset_lt (ns : List Int) : (sset ns).Pairwise (· < ·) := by
  have h1 := srt_sorted (uniqI ns)
  have h2 : (sset ns).Nodup := (srt_perm _).nodup_iff.mpr (nodup_uniqI ns)
  refine (h1.and h2).imp fun ⟨a, b⟩ => ?_
  omega
theorem rising_eq : ∀ {xs ys : List Int}, xs.Pairwise (· < ·) → ys.Pairwise (· < ·) → (∀ k, k ∈ xs ↔ k ∈ ys) → xs = ys := by
  intro xs ys h1 h2 h
  have n1 : xs.Nodup := h1.imp fun z => by omega
  have n2 : ys.Nodup := h2.imp fun z => by omega
  exact sorted_eq ((List.perm_ext_iff_of_nodup n1 n2).mpr h) (h1.imp fun z => by omega) (h2.imp fun z => by omega)
section
variable {X : Cx} {K : PySem.W.Frag} {Cl ClX : Nat → Addr} {W : WX}
theorem cr_setL (hc : X.calm = true) : CallR X (.type "set") (fun vs H Q => ∃ (a : Addr) (ns : List Int), vs = [.ref a] ∧ SqL X.K H a (ns.map V.int) ∧ ns.length < 64 ∧ ∀ p c, c ≤ ns.length → H p = none → Q (.ref p) (upd H p (SetO X.w p (fun j => decide (j ∈ ns)) c))) := by
  intro pins s σ H xs us Q I r ⟨a, ns, e, hq, hl, q⟩
  subst e
  rw [Vals.ref1 r]
  obtain ⟨its, rv, pl, hz⟩ := I.list hq
  refine set_of_list ns (I.ok.hd hc) pl.isList (ints_of_vals rv) (by unfold scanBound; omega) fun h' tk c R1 hcn k => ?_
  exact ⟨.ref _, _, I.laid (t' := tk) k (Nat.le_refl _) (setO_new R1), rfl, q _ c hcn (I.hok.fresh (Nat.le_refl _))⟩
abbrev rSset (K : PySem.W.Frag) : List V → Hp → VK → Prop := fun vs H Q => ∃ (a : Addr) (ns : List Int), vs = [.ref a] ∧ SqL K H a (ns.map V.int) ∧ ns.length < 64 ∧
  ∀ p (o : HO) q, H p = none → upd H p o q = none → Q (.ref q) (upd (upd H p o) q (.lst ((sset ns).map V.int)))
theorem pr_sset : PrimOk K Cl (rSset K) gSset := by
  intro P H vs Vs Q v hw lv hg n
  unfold gSset at hg
  split at hg
  · rename_i x
    obtain ⟨ys, hy, hg⟩ := Option.bind_eq_some_iff.mp hg
    obtain ⟨ns, hn, hg⟩ := Option.bind_eq_some_iff.mp hg
    by_cases hl : decide (ns.length < 64) = true
    case neg => rw [if_neg hl] at hg; cases hg
    rw [if_pos hl] at hg
    cases hg
    obtain ⟨V0, f, rfl, h⟩ := hw.one
    obtain ⟨a, Ws, g, rfl, hh, r, _⟩ := h.lseq hy
    have := r.ints hn
    subst this
    refine ⟨a, ns, rfl, hh, of_decide_eq_true hl, fun p o q hp hq => ?_⟩
    have t : Tr P H VS.emp P (upd (upd H p o) q (.lst ((sset ns).map V.int))) := (tr_upd hp).trans (tr_upd hq) fun _ z => z.elim
    have hq' : H q = none := by
      cases e : H q with
      | none => rfl
      | some u => rw [(tr_upd (P := P) hp).keep q u e (fun z => z)] at hq; cases hq
    refine n (.ref q) P _ (one q) t ⟨q, _, one q, VS.emp, rfl, ⟨upd_same, rfl⟩, rs_ints P _ _, ?_⟩ (fun b z => by rw [show b = q from z]; exact hq') (lv_upd (lv_upd lv))
    rw [if_pos (show (Tag.lst false).own = true from rfl)]
    exact ⟨(uni_emp _).symm, dis_emp _, fun b z y => lv b y (by rw [show b = q from z]; exact hq')⟩
  · cases hg
theorem tv_sset {e1 : Bool} {s : Env → Res (Val × Src)} {a : Expr} {p p2 pos pos2 : Pos} (hc : X.calm = true) (hg : Gl X "sorted") (hm : X.mg "sorted" = none) (hg2 : Gl X "set") (hm2 : X.mg "set" = none) (he : starEach [a] X.env = (false, eval a X.env) :: starEach [] X.env) (ha : PE X a (tV X.K Cl ClX W e1 s)) :
    PE X (.Call (.Name "sorted" p) [.Call (.Name "set" p2) [a] [] pos2] [] pos) (tV X.K Cl ClX W (e1 || false) (prim gSset (argsCons (!false) s argsNil))) := by
  refine PE.le (pe_callB (cr_sortedSet hc) hg hm (by decide +kernel) (pa_cons (pe_callTy (cr_setL hc) hg2 hm2 PyProof.Rows.boot_set (pa_cons ha pa_nil he) (by decide) (by decide) he) pa_nil)) fun σ H Q h => ?_
  refine tv_mono (one_prim pr_sset h) fun x H1 ⟨b, ns, e, hq, hl, q⟩ => ?_
  cases e
  refine ⟨b, ns, rfl, hq, hl, fun p0 c hc0 hp => ⟨p0, _, c, rfl, upd_same, by omega, fun ms q0 h1 h2 h3 h4 => ?_⟩⟩
  have : ms = sset ns := rising_eq h1 (sset_lt ns) fun k => by rw [h2, decide_eq_true_eq, mem_sset]
  rw [this]
  exact q p0 _ q0 hp h4
end
end VS

/-! list(range(i, j)), a < b < c -/
namespace VS
open PySem PySem.Spec PyProof.Rows L2
section
variable {X : Cx} {K : PySem.W.Frag} {Cl ClX : Nat → Addr} {W : WX}
theorem rangeL_rg (P : Ps) (H : Hp) (i j : Int) : Rs K Cl P H (rangeL i (j - i).toNat) (rgV i j) emp := by
  obtain ⟨Ws, h, l, g⟩ := rangeL_rs (K := K) (Cl := Cl) P H (j - i).toNat i
  have : Ws = rgV i j := by
    refine List.ext_getElem? fun m => ?_
    by_cases hm : m < (j - i).toNat
    · rw [g m hm]
      unfold rgV
      rw [List.getElem?_map, List.getElem?_range hm]
      rfl
    · rw [List.getElem?_eq_none (by omega), List.getElem?_eq_none (by rw [rgV_length]; omega)]
  rw [this] at h
  exact h
abbrev rLrng : List V → Hp → VK → Prop := fun Vs H Q => ∃ i j, Vs = [.int i, .int j] ∧ RgOk i j ∧ ∀ q, H q = none → Q (.ref q) (upd H q (.lst (rgV i j)))
theorem pr_lrng : PrimOk K Cl rLrng gLrng := by
  intro P H vs Vs Q v hw lv hg n
  unfold gLrng at hg
  split at hg
  · rename_i i j
    by_cases hl : decide (-(2 ^ 62) ≤ i ∧ i < 2 ^ 62 ∧ -(2 ^ 62) ≤ j ∧ j < 2 ^ 62 ∧ (j - i).toNat ≤ 16777216) = true
    case neg => rw [if_neg hl] at hg; cases hg
    rw [if_pos hl] at hg
    cases hg
    obtain ⟨x, y, f1, f2, rfl, h1, h2⟩ := hw.two
    simp only [R] at h1 h2
    obtain ⟨rfl, _⟩ := h1
    obtain ⟨rfl, _⟩ := h2
    have hl2 := of_decide_eq_true hl
    exact ⟨i, j, rfl, ⟨hl2.1, hl2.2.1, hl2.2.2.1, hl2.2.2.2.1, hl2.2.2.2.2⟩, fun q hq => n.lst lv (rangeL_rg P H i j) hq⟩
  · cases hg
theorem tv_lrng {e1 e2 : Bool} {s1 s2 : Env → Res (Val × Src)} {a b : Expr} {p p2 pos pos2 : Pos} (hc : X.calm = true) (hg : Gl X "list") (hm : X.mg "list" = none) (hg2 : Gl X "range") (hm2 : X.mg "range" = none) (na : notStar a = true) (nb : notStar b = true) (q2 : Quiet e2 s2)
    (ha : PE X a (tV X.K Cl ClX W e1 s1)) (hb : PE X b (tV X.K Cl ClX W e2 s2)) :
    PE X (.Call (.Name "list" p) [.Call (.Name "range" p2) [a, b] [] pos2] [] pos) (tV X.K Cl ClX W (e1 || (e2 || false)) (prim gLrng (argsCons (!(e2 || false)) s1 (argsCons (!false) s2 argsNil)))) :=
  PE.le (pe_listRg hc hg hm (prg_2 hg2 hm2 ha hb (star_of na _ _) (star_of nb _ _) (star_all (by simp only [List.all_cons, nb]; rfl)))) fun σ H Q h => tv_mono (two_args q2 (prim_ok pr_lrng h)) fun x H1 h1 => tv_mono h1 fun y H2 ⟨i, j, e, q⟩ => by
    cases e
    exact ⟨i, j, rfl, rfl, q⟩
/-- an expression that is a whole number, then what follows -/
theorem tv_int_bind {e1 e2 : Bool} {s : Env → Res (Val × Src)} {k : (Val × Src) → Env → Res (Val × Src)} {σ : L2.St} {H : Hp} {Q : VK} {Q2 : V → Hp → Prop} (h : tV K Cl ClX W (e1 || e2) (fun ρ => ((s ρ).bind sInt1).bind k) σ H Q)
    (hk : ∀ i H1, tV K Cl ClX W e2 (k (.int i, .tmp)) σ H1 Q → Q2 (.int i) H1) : tV K Cl ClX W e1 (sInt s) σ H Q2 := by
  obtain ⟨P, ρ, f, l, lv, q⟩ := h
  refine ⟨P, ρ, f, l, lv, ?_⟩
  dsimp only at q
  unfold sInt
  cases hs : s ρ with
  | bad => rw [hs] at q; exact q
  | exc x ρ1 =>
    rw [hs] at q
    exact fun c d H' ⟨P', f', o, xo⟩ => q c d H' ⟨P', f', ⟨o.tr.weak fun b z => (by cases e1 with | false => exact (show False from z).elim | true => exact z), o.re, o.sub, fun z => o.same (by simp only [Bool.or_eq_false_iff] at z; exact z.1), o.lv⟩, xo⟩
  | ok a ρ1 =>
    rw [hs] at q
    obtain ⟨v, sr⟩ := a
    cases v with
    | int i =>
      simp only [Res.bind_ok, sInt1] at q
      intro U H1 ⟨P1, f1, fv, o, r, so, sb⟩
      obtain ⟨rfl, rfl⟩ := id r
      refine hk i H1 ⟨P1, ρ1, f1, o.re, o.lv, ?_⟩
      cases hk2 : k (.int i, .tmp) ρ1 with
      | bad => rw [hk2] at q; exact q
      | exc x ρ2 =>
        rw [hk2] at q
        exact fun c d H' ⟨P', f', o', xo⟩ => q c d H' ⟨P', f', o.trans o', xo⟩
      | ok b ρ2 =>
        rw [hk2] at q
        obtain ⟨w, sw⟩ := b
        intro Y H2 ⟨P2, f2, fw, o2, r2, so2, sb2⟩
        refine q Y H2 ⟨P2, f2, fw, o.trans o2, r2, so2, ?_⟩
        cases sw <;> first | trivial | exact o.sub.trans sb2 o.tr (wr_sub _ _)
    | _ => exact q.elim
theorem opI_ok {op : Cmp} {o : CmpOp} (h : opI op o = true) : OpR X (compareOp o) (rI0 fun i j => .bl (cmpI op i j)) := by
  cases op <;> cases o <;> first | exact absurd h (by decide) | exact op_lt | exact op_le | exact op_gt | exact op_ge
theorem tv_done {v : Val} {σ : L2.St} {H : Hp} {Q : VK} {e : Bool} {V : V} (r : ∀ P H, R K Cl P H v V emp) (h : tV K Cl ClX W e (fun ρ => .ok (v, .tmp) ρ) σ H Q) : Q V H := by
  obtain ⟨P, ρ, f, l, lv, q⟩ := h
  exact q V H ⟨P, f, emp, Out.refl l lv, r P H, emp_dis _, fun _ z => z.elim⟩
abbrev chainS (op op' : Cmp) (s1 s2 s3 : Env → Res (Val × Src)) : Env → Res (Val × Src) := fun ρ => ((s1 ρ).bind sInt1).bind fun x ρ1 => ((s2 ρ1).bind sInt1).bind fun y ρ2 => if cmpV op x.1 y.1 = true then ((s3 ρ2).bind sInt1).bind fun z ρ3 => .ok (.bl (cmpV op' y.1 z.1), .tmp) ρ3 else .ok (.bl false, .tmp) ρ2
theorem chain_core {op op' : Cmp} {e1 e2 e3 : Bool} {s1 s2 s3 : Env → Res (Val × Src)} {σ : L2.St} {H : Hp} {Q : VK} (h : tV K Cl ClX W (e1 || (e2 || e3)) (chainS op op' s1 s2 s3) σ H Q) :
    tChain (rI0 fun i j => .bl (cmpI op i j)) (rI0 fun i j => .bl (cmpI op' i j)) (tV K Cl ClX W e1 (sInt s1)) (tV K Cl ClX W e2 (sInt s2)) (tV K Cl ClX W e3 (sInt s3)) σ H Q := by
  refine tv_int_bind h fun i H1 h1 => ?_
  refine tv_int_bind h1 fun j H2 h2 => ?_
  refine ⟨i, j, rfl, rfl, cmpI op i j, rfl, ?_⟩
  replace h2 : tV K Cl ClX W e3 (fun ρ2 => if cmpI op i j = true then ((s3 ρ2).bind sInt1).bind fun z ρ3 => (.ok (.bl (cmpV op' (.int j) z.1), .tmp) ρ3 : Res (Val × Src)) else .ok (.bl false, .tmp) ρ2) σ H2 Q := h2
  by_cases hc : cmpI op i j = true
  · rw [if_pos hc]
    have h3 : tV K Cl ClX W (e3 || false) (fun ρ => ((s3 ρ).bind sInt1).bind fun z ρ3 => (.ok (.bl (cmpV op' (.int j) z.1), .tmp) ρ3 : Res (Val × Src))) σ H2 Q := by
      rw [Bool.or_false]
      obtain ⟨P, ρ, f, l, lv, q⟩ := h2
      dsimp only at q
      rw [if_pos hc] at q
      exact ⟨P, ρ, f, l, lv, q⟩
    refine tv_int_bind h3 fun k H3 h4 => ⟨j, k, rfl, rfl, ?_⟩
    exact tv_done (v := .bl (cmpI op' j k)) (fun _ _ => ⟨rfl, rfl⟩) h4
  · rw [if_neg hc]
    have h3 : tV K Cl ClX W e3 (fun ρ => (.ok (.bl false, .tmp) ρ : Res (Val × Src))) σ H2 Q := by
      obtain ⟨P, ρ, f, l, lv, q⟩ := h2
      dsimp only at q
      rw [if_neg hc] at q
      exact ⟨P, ρ, f, l, lv, q⟩
    exact tv_done (v := .bl false) (fun _ _ => ⟨rfl, rfl⟩) h3
theorem tvt_of_tv {e : Bool} {s : Env → Res (Val × Src)} {σ : L2.St} {H : Hp} {Q : Bool → Hp → Prop} (hb : ∀ ρ v sr ρ1, s ρ = .ok (v, sr) ρ1 → ∃ c, v = .bl c ∧ sr = .tmp) (h : tVT K Cl ClX W e s σ H Q) : tV K Cl ClX W e s σ H fun v H1 => ∃ c, v = .bl c ∧ Q c H1 := by
  obtain ⟨P, ρ, f, l, lv, q⟩ := h
  refine ⟨P, ρ, f, l, lv, ?_⟩
  cases hs : s ρ with
  | bad => rw [hs] at q; exact q
  | exc x ρ1 => rw [hs] at q; exact q
  | ok a ρ1 =>
    rw [hs] at q
    obtain ⟨v, sr⟩ := a
    obtain ⟨c, rfl, rfl⟩ := hb _ _ _ _ hs
    obtain ⟨c', e, q⟩ := q
    cases e
    intro U H1 ⟨P1, f1, fv, o, r, so, sb⟩
    obtain ⟨rfl, rfl⟩ := id r
    exact ⟨c, rfl, q P1 H1 f1 o⟩
theorem chain_bl {op op' : Cmp} {s1 s2 s3 : Env → Res (Val × Src)} {ρ ρ1 : Env} {v : Val} {sr : Src} (h : chainS op op' s1 s2 s3 ρ = .ok (v, sr) ρ1) : ∃ c, v = .bl c ∧ sr = .tmp := by
  unfold chainS at h
  cases h1 : (s1 ρ).bind sInt1 with
  | bad => rw [h1] at h; cases h
  | exc x ρ2 => rw [h1] at h; cases h
  | ok x ρ2 =>
    rw [h1] at h
    simp only [Res.bind_ok] at h
    cases h2 : (s2 ρ2).bind sInt1 with
    | bad => rw [h2] at h; cases h
    | exc x ρ3 => rw [h2] at h; cases h
    | ok y ρ3 =>
      rw [h2] at h
      simp only [Res.bind_ok] at h
      by_cases hc : cmpV op x.1 y.1 = true
      · rw [if_pos hc] at h
        cases h3 : (s3 ρ3).bind sInt1 with
        | bad => rw [h3] at h; cases h
        | exc x ρ4 => rw [h3] at h; cases h
        | ok z ρ4 => rw [h3] at h; cases h; exact ⟨_, rfl, rfl⟩
      · rw [if_neg hc] at h; cases h; exact ⟨_, rfl, rfl⟩
theorem tv_asIntK {e1 : Bool} {s : Env → Res (Val × Src)} {a : Expr} (h : PE X a (tV X.K Cl ClX W e1 s)) : PE X a (tV X.K Cl ClX W e1 (sInt s)) := PE.le h fun σ H Q ⟨P, ρ, f, l, lv, q⟩ => by
  refine ⟨P, ρ, f, l, lv, ?_⟩
  unfold sInt at q
  cases hs : s ρ with
  | bad => rw [hs] at q; exact q
  | exc x ρ1 => rw [hs] at q; exact q
  | ok a ρ1 =>
    rw [hs] at q
    obtain ⟨v, sr⟩ := a
    cases v with
    | int i =>
      intro U H' ⟨P1, f1, fv, o, r, so, sb⟩
      obtain ⟨rfl, rfl⟩ := id r
      exact q _ _ ⟨P1, f1, emp, o, ⟨rfl, rfl⟩, emp_dis _, fun _ z => z.elim⟩
    | _ => exact q.elim
theorem last_of {b c : Expr} {o o' : CmpOp} (h : notSet b = true) (h2 : notSet c = true) : lastMarks [o, o'] [b, c] = false := by
  show behindInMarks o' c = false
  cases c <;> first | rfl | cases h2
theorem tv_chain {op op' : Cmp} {o o' : CmpOp} {e1 e2 e3 : Bool} {s1 s2 s3 : Env → Res (Val × Src)} {a b c : Expr} {pos : Pos} (h : opI op o = true) (h' : opI op' o' = true) (nb : notSet b = true) (nc : notSet c = true) (ha : PE X a (tV X.K Cl ClX W e1 s1)) (hb : PE X b (tV X.K Cl ClX W e2 s2)) (hc : PE X c (tV X.K Cl ClX W e3 s3)) :
    PE X (.Compare a [o, o'] [b, c] pos) (tV X.K Cl ClX W (e1 || (e2 || e3)) (chainS op op' s1 s2 s3)) ∧ PT X (.Compare a [o, o'] [b, c] pos) (tVT X.K Cl ClX W (e1 || (e2 || e3)) (chainS op op' s1 s2 s3)) :=
  ⟨PE.le (pe_chain (opI_ok h) (opI_ok h') (tv_asIntK ha) (tv_asIntK hb) (tv_asIntK hc) (last_of nb nc)) fun σ H Q h => chain_core h,
   PT.le (pt_chain (opI_ok h) (opI_ok h') (tv_asIntK ha) (tv_asIntK hb) (tv_asIntK hc) (last_of nb nc)) fun σ H Q h => chain_core (tvt_of_tv (fun _ _ _ _ e => chain_bl e) h)⟩
/-- a op1 b op2 c op3 d -/
def tChain3 (r r' r'' : R2) (ta tb tc td : TE) : TE := fun σ H Q => ta σ H fun x H1 => tb σ H1 fun y H2 => r x y H2 fun z H3 => ∃ k, z = .bl k ∧
  (if k = true then tc σ H3 fun w H4 => r' y w H4 fun z' H5 => ∃ k', z' = .bl k' ∧ (if k' = true then td σ H5 fun u H6 => r'' w u H6 Q else Q (.bl false) H5) else Q (.bl false) H3)
theorem pe_chain3 {op op' op'' : CmpOp} {r r' r'' : R2} {a b c d : Expr} {ta tb tc td : TE} {pos : Pos} (ho : OpR X (compareOp op) r) (ho' : OpR X (compareOp op') r') (ho'' : OpR X (compareOp op'') r'') (ha : PE X a ta) (hb : PE X b tb) (hc : PE X c tc) (hd : PE X d td)
    (hm : lastMarks [op, op', op''] [b, c, d] = false) : PE X (.Compare a [op, op', op''] [b, c, d] pos) (tChain3 r r' r'' ta tb tc td) := by
  refine ⟨fun pins s σ H Q I h => ?_⟩
  refine Compare_chain (thn (ha.run pins s σ H _ I h) fun v s1 ⟨x, H1, I1, r1, q1⟩ => chain_link (thn (hb.run pins s1 σ H1 _ I1 q1) fun u s2 ⟨y, H2, I2, r2, q2⟩ =>
    thn (ho pins s2 σ H2 x y v u _ I2 r1 r2 q2) fun d s3 ⟨z, H3, I3, r3, k, e, q3⟩ => ?_)) hm
  subst e
  cases r3
  refine wpAny_truthy_bool ?_
  cases k with
  | false => exact ite_ff ⟨.bl false, H3, I3, rfl, q3⟩
  | true =>
    refine ite_tt (chain_link (thn (hc.run pins s3 σ H3 _ I3 q3) fun w' s4 ⟨z', H4, I4, r4, q4⟩ => thn (ho' pins s4 σ H4 y z' u w' _ I4 r2 r4 q4) fun d' s5 ⟨z2, H5, I5, r5, k2, e2, q5⟩ => ?_))
    subst e2
    cases r5
    refine wpAny_truthy_bool ?_
    cases k2 with
    | false => exact ite_ff ⟨.bl false, H5, I5, rfl, q5⟩
    | true => exact ite_tt (chain_last (thn (hd.run pins s5 σ H5 _ I5 q5) fun w2 s6 ⟨z3, H6, I6, r6, q6⟩ => ho'' pins s6 σ H6 z' z3 w' w2 Q I6 r4 r6 q6))
theorem pt_chain3 {op op' op'' : CmpOp} {r r' r'' : R2} {a b c d : Expr} {ta tb tc td : TE} {pos : Pos} (ho : OpR X (compareOp op) r) (ho' : OpR X (compareOp op') r') (ho'' : OpR X (compareOp op'') r'') (ha : PE X a ta) (hb : PE X b tb) (hc : PE X c tc) (hd : PE X d td)
    (hm : lastMarks [op, op', op''] [b, c, d] = false) : PT X (.Compare a [op, op', op''] [b, c, d] pos) (tTest (tChain3 r r' r'' ta tb tc td)) := by
  refine ⟨fun pins s σ H Q I h => ?_⟩
  refine isTrue_chain (thn (ha.run pins s σ H _ I h) fun v s1 ⟨x, H1, I1, r1, q1⟩ => test_link (thn (hb.run pins s1 σ H1 _ I1 q1) fun u s2 ⟨y, H2, I2, r2, q2⟩ =>
    thn (ho pins s2 σ H2 x y v u _ I2 r1 r2 q2) fun d s3 ⟨z, H3, I3, r3, k, e, q3⟩ => ?_)) hm
  subst e
  cases r3
  refine wpAny_truthy_bool ?_
  cases k with
  | false =>
    obtain ⟨k', e', q'⟩ := q3
    cases e'
    exact ite_ff ⟨H3, I3, q'⟩
  | true =>
    refine ite_tt (test_link (thn (hc.run pins s3 σ H3 _ I3 q3) fun w' s4 ⟨z', H4, I4, r4, q4⟩ => thn (ho' pins s4 σ H4 y z' u w' _ I4 r2 r4 q4) fun d' s5 ⟨z2, H5, I5, r5, k2, e2, q5⟩ => ?_))
    subst e2
    cases r5
    refine wpAny_truthy_bool ?_
    cases k2 with
    | false =>
      obtain ⟨k', e', q'⟩ := q5
      cases e'
      exact ite_ff ⟨H5, I5, q'⟩
    | true =>
      refine ite_tt (test_last (thn (hd.run pins s5 σ H5 _ I5 q5) fun w2 s6 ⟨z3, H6, I6, r6, q6⟩ => thn (ho'' pins s6 σ H6 z' z3 w' w2 _ I6 r4 r6 q6) fun d3 s7 ⟨z4, H7, I7, r7, k3, e3, q7⟩ => ?_))
      subst e3
      cases r7
      exact wpAny_truthy_bool ⟨H7, I7, q7⟩
abbrev chain3S (op op' op'' : Cmp) (s1 s2 s3 s4 : Env → Res (Val × Src)) : Env → Res (Val × Src) := fun ρ => ((s1 ρ).bind sInt1).bind fun x ρ1 => ((s2 ρ1).bind sInt1).bind fun y ρ2 => if cmpV op x.1 y.1 = true then ((s3 ρ2).bind sInt1).bind fun z ρ3 => if cmpV op' y.1 z.1 = true then ((s4 ρ3).bind sInt1).bind fun w ρ4 => .ok (.bl (cmpV op'' z.1 w.1), .tmp) ρ4 else .ok (.bl false, .tmp) ρ3 else .ok (.bl false, .tmp) ρ2
theorem tv_ifS {e : Bool} {c : Bool} {s1 s2 : Env → Res (Val × Src)} {σ : L2.St} {H : Hp} {Q : VK} (h : tV K Cl ClX W e (fun ρ => if c = true then s1 ρ else s2 ρ) σ H Q) : if c = true then tV K Cl ClX W e s1 σ H Q else tV K Cl ClX W e s2 σ H Q := by
  obtain ⟨P, ρ, f, l, lv, q⟩ := h
  by_cases hc : c = true
  · rw [if_pos hc]
    exact ⟨P, ρ, f, l, lv, by dsimp only at q; rw [if_pos hc] at q; exact q⟩
  · rw [if_neg hc]
    exact ⟨P, ρ, f, l, lv, by dsimp only at q; rw [if_neg hc] at q; exact q⟩
theorem chain3_core {op op' op'' : Cmp} {e1 e2 e3 e4 : Bool} {s1 s2 s3 s4 : Env → Res (Val × Src)} {σ : L2.St} {H : Hp} {Q : VK} (h : tV K Cl ClX W (e1 || (e2 || (e3 || e4))) (chain3S op op' op'' s1 s2 s3 s4) σ H Q) :
    tChain3 (rI0 fun i j => .bl (cmpI op i j)) (rI0 fun i j => .bl (cmpI op' i j)) (rI0 fun i j => .bl (cmpI op'' i j)) (tV K Cl ClX W e1 (sInt s1)) (tV K Cl ClX W e2 (sInt s2)) (tV K Cl ClX W e3 (sInt s3)) (tV K Cl ClX W e4 (sInt s4)) σ H Q := by
  refine tv_int_bind h fun i H1 h1 => ?_
  refine tv_int_bind h1 fun j H2 h2 => ?_
  refine ⟨i, j, rfl, rfl, cmpI op i j, rfl, ?_⟩
  have h3 := tv_ifS (c := cmpI op i j) h2
  by_cases hc : cmpI op i j = true
  · rw [if_pos hc] at h3 ⊢
    refine tv_int_bind h3 fun k H3 h4 => ⟨j, k, rfl, rfl, cmpI op' j k, rfl, ?_⟩
    have h5 := tv_ifS (c := cmpI op' j k) h4
    by_cases hc2 : cmpI op' j k = true
    · rw [if_pos hc2] at h5 ⊢
      refine tv_int_bind (e2 := false) (by rw [Bool.or_false]; exact h5) fun l H4 h6 => ⟨k, l, rfl, rfl, ?_⟩
      exact tv_done (v := .bl (cmpI op'' k l)) (fun _ _ => ⟨rfl, rfl⟩) h6
    · rw [if_neg hc2] at h5 ⊢
      exact tv_done (v := .bl false) (fun _ _ => ⟨rfl, rfl⟩) h5
  · rw [if_neg hc] at h3 ⊢
    exact tv_done (v := .bl false) (fun _ _ => ⟨rfl, rfl⟩) h3
theorem bl_int {s : Env → Res (Val × Src)} {k : (Val × Src) → Env → Res (Val × Src)} {ρ ρ1 : Env} {v : Val} {sr : Src} (hk : ∀ a ρ v sr ρ1, k a ρ = .ok (v, sr) ρ1 → ∃ c, v = .bl c ∧ sr = .tmp) (h : ((s ρ).bind sInt1).bind k = .ok (v, sr) ρ1) : ∃ c, v = .bl c ∧ sr = .tmp := by
  cases h1 : (s ρ).bind sInt1 with
  | bad => rw [h1] at h; cases h
  | exc x ρ2 => rw [h1] at h; cases h
  | ok x ρ2 => rw [h1] at h; exact hk _ _ _ _ _ h
theorem chain3_bl {op op' op'' : Cmp} {s1 s2 s3 s4 : Env → Res (Val × Src)} {ρ ρ1 : Env} {v : Val} {sr : Src} (h : chain3S op op' op'' s1 s2 s3 s4 ρ = .ok (v, sr) ρ1) : ∃ c, v = .bl c ∧ sr = .tmp := by
  refine bl_int (fun a ρ v sr ρ1 h => ?_) h
  refine bl_int (fun b ρ v sr ρ1 h => ?_) h
  split at h
  · refine bl_int (fun c ρ v sr ρ1 h => ?_) h
    split at h
    · refine bl_int (fun d ρ v sr ρ1 h => ?_) h
      cases h; exact ⟨_, rfl, rfl⟩
    · cases h; exact ⟨_, rfl, rfl⟩
  · cases h; exact ⟨_, rfl, rfl⟩
theorem last_of3 {b c d : Expr} {o o' o'' : CmpOp} (h : notSet d = true) : lastMarks [o, o', o''] [b, c, d] = false := by
  show behindInMarks o'' d = false
  cases d <;> first | rfl | cases h
theorem tv_chain3 {op op' op'' : Cmp} {o o' o'' : CmpOp} {e1 e2 e3 e4 : Bool} {s1 s2 s3 s4 : Env → Res (Val × Src)} {a b c d : Expr} {pos : Pos} (h : opI op o = true) (h' : opI op' o' = true) (h'' : opI op'' o'' = true) (nd : notSet d = true) (ha : PE X a (tV X.K Cl ClX W e1 s1)) (hb : PE X b (tV X.K Cl ClX W e2 s2)) (hc : PE X c (tV X.K Cl ClX W e3 s3)) (hd : PE X d (tV X.K Cl ClX W e4 s4)) :
    PE X (.Compare a [o, o', o''] [b, c, d] pos) (tV X.K Cl ClX W (e1 || (e2 || (e3 || e4))) (chain3S op op' op'' s1 s2 s3 s4)) ∧ PT X (.Compare a [o, o', o''] [b, c, d] pos) (tVT X.K Cl ClX W (e1 || (e2 || (e3 || e4))) (chain3S op op' op'' s1 s2 s3 s4)) :=
  ⟨PE.le (pe_chain3 (opI_ok h) (opI_ok h') (opI_ok h'') (tv_asIntK ha) (tv_asIntK hb) (tv_asIntK hc) (tv_asIntK hd) (last_of3 nd)) fun σ H Q h => chain3_core h,
   PT.le (pt_chain3 (opI_ok h) (opI_ok h') (opI_ok h'') (tv_asIntK ha) (tv_asIntK hb) (tv_asIntK hc) (tv_asIntK hd) (last_of3 nd)) fun σ H Q h => chain3_core (tvt_of_tv (fun _ _ _ _ e => chain3_bl e) h)⟩
end
section
variable {K : PySem.W.Frag} {Cl ClX : Nat → Addr} {X : Cx} {W : WX} {P : Ps} {H : Hp}
theorem tv_frz {e : Bool} {s : Env → Res (Val × Src)} {pe : Expr} (h : PE X pe (tV K Cl ClX W e s)) : PE X pe (tV K Cl ClX W true fun ρ => (s ρ).bind frz1) := PE.le h fun σ H Q ⟨P, ρ, f, l, lv, q⟩ => by
  refine ⟨P, ρ, f, l, lv, ?_⟩
  dsimp only at q
  have up : ∀ {ρ' : Env} {P' : Ps} {H' : Hp} {f' : Ps}, Out K Cl P H f e ρ' σ P' H' f' → Out K Cl P H f true ρ' σ P' H' f' := fun o => ⟨o.tr.weak (wr_sub _ _), o.re, o.sub, fun z => (by cases z), o.lv⟩
  cases hs : s ρ with
  | bad => rw [hs] at q; exact q
  | exc x ρ1 =>
    rw [hs] at q
    exact fun c d H' ⟨P', f', o, xo⟩ => q c d H' ⟨P', f', up o, xo⟩
  | ok a ρ1 =>
    obtain ⟨v, sr⟩ := a
    rw [hs] at q
    simp only [Res.bind_ok] at q
    intro U H1 ⟨P1, f1, fv, o1, r1, s1, sb1⟩
    have rf : R K Cl (uni P1 fv) H1 v.freeze U emp := r1.frz fun b z => z
    have lv2 : Lv (uni P1 fv) H1 := fun b z => z.elim (o1.lv b) fun z => (r1.live b z).1
    cases sr with
    | tmp =>
      simp only [frz1] at q
      have o2 := up o1
      have l2 : RE K Cl (uni P1 fv) H1 ρ1 σ f1 := o1.re.frame (fun b o e _ => e) fun b z => ⟨fun y => y.elim id fun y => z.elim id fun z => (s1 b y z).elim, .inl⟩
      exact q U H1 ⟨uni P1 fv, f1, emp, ⟨⟨o2.tr.keep, fun b z => .inl (o2.tr.pm b z), fun b z => z.elim (o2.tr.pn b) fun z => .inr (sb1 b z)⟩, l2, o2.sub, fun z => (by cases z), lv2⟩, rf, emp_dis _, fun _ z => z.elim⟩
    | brw => exact q.elim
    | plc i p =>
      simp only [frz1] at q
      obtain ⟨sub, f2, l2, e2⟩ := plc_put (P' := uni P1 fv) (H' := H1) (fv' := emp) o1.re s1 r1 (fun b o e _ => e) (fun b z => ⟨fun y => y.elim id fun y => (z.elim id fun z => (z.2 y).elim), .inl⟩) rf (fun b z => z.elim)
      have t2 : Tr P1 H1 f1 (uni P1 fv) H1 := ⟨fun _ _ e _ => e, fun _ z => .inl z, fun b z => z.elim .inl fun z => .inr (.inl (sub b z))⟩
      have o2 : Out K Cl P1 H1 f1 true (putAt ρ1 i p v.freeze) σ (uni P1 fv) H1 f2 := ⟨t2, l2, fun b z => .inl (((e2 b).mp z).elim (fun z => z.1) fun z => z.elim), fun z => (by cases z), lv2⟩
      have o3 := o1.trans o2
      rw [Bool.or_true] at o3
      exact q U H1 ⟨_, f2, emp, o3, rf, emp_dis _, fun _ z => z.elim⟩
/-- a statement, then a name's value frozen -/
theorem ts_aft {i : Nat} {pr : List Nat} {s : Env → Flow} {st : Stmt} (h : PS X st (tS K Cl ClX W pr s)) : PS X st (tS K Cl ClX W pr fun ρ => aftK i (s ρ)) := PS.le h fun D σ H ⟨P, ρ, f, l, lv, q⟩ => by
  refine ⟨P, ρ, f, l, lv, ?_⟩
  dsimp only at q
  cases hs : s ρ with
  | bad => rw [hs] at q; exact q
  | ret v ρ1 => rw [hs] at q; exact q
  | exc x ρ1 => rw [hs] at q; exact q
  | next ρ1 =>
    rw [hs] at q
    intro σ' P' H' f' o
    simp only [aftK, frzAt] at q
    cases e : ρ1[i]? with
    | none => rw [e] at q; exact q _ _ _ _ o
    | some y =>
      cases y with
      | none => rw [e] at q; exact q _ _ _ _ o
      | some v =>
        rw [e] at q
        dsimp only at q
        obtain ⟨U, f1, g, e1, r, d, hf, _⟩ := o.re.pick e
        have rf : R K Cl (uni P' f1) H' v.freeze U emp := r.frz fun b z => z
        have lv2 : Lv (uni P' f1) H' := fun b z => z.elim (o.lv b) fun z => (r.live b z).1
        obtain ⟨sub, f2, l2, e2⟩ := plc_put (p := []) (P' := uni P' f1) (H' := H') (fv' := emp) o.re ⟨v, U, e, e1, rfl, rfl⟩ r (fun b o e _ => e) (fun b z => ⟨fun y => y.elim id fun y => (z.elim id fun z => (z.2 y).elim), .inl⟩) rf (fun b z => z.elim)
        have t2 : Tr P' H' f' (uni P' f1) H' := ⟨fun _ _ e _ => e, fun _ z => .inl z, fun b z => z.elim .inl fun z => .inr (.inl (sub b z))⟩
        exact q _ _ _ _ (o.trans ⟨t2, l2, fun b z => .inl (((e2 b).mp z).elim (fun z => z.1) fun z => z.elim), lv2, rfl, fun _ _ => rfl⟩)
end
section
variable {K : PySem.W.Frag} {Cl ClX : Nat → Addr} {X : Cx} {W : WX}
theorem seqAt_inv {ρ : Env} {i : Nat} {xs : List Val} (h : seqAt ρ i = some xs) : ∃ t, ρ[i]? = some (some (.node t xs)) ∧ pures xs = true ∧ (t = .tup ∨ t = .rol ∨ ∃ z, t = .lst z) := by
  unfold seqAt at h
  split at h
  · rename_i ys e
    by_cases hp : pures ys = true
    · rw [if_pos hp] at h; cases h; exact ⟨_, e, hp, .inl rfl⟩
    · rw [if_neg hp] at h; cases h
  · rename_i ys e
    by_cases hp : pures ys = true
    · rw [if_pos hp] at h; cases h; exact ⟨_, e, hp, .inr (.inl rfl)⟩
    · rw [if_neg hp] at h; cases h
  · rename_i z ys e
    by_cases hp : pures ys = true
    · rw [if_pos hp] at h; cases h; exact ⟨_, e, hp, .inr (.inr ⟨z, rfl⟩)⟩
    · rw [if_neg hp] at h; cases h
  · cases h
/-- the state between two turns of a comprehension that writes nothing -/
structure CInvQ (P1 : Ps) (H1 : Hp) (f1 : Ps) (σw : L2.St) (D : Addr) (ρ : Env) (acc : List Val) (Hh : Hp) : Prop where
  ex : ∃ Pi fi Av ga, Tr P1 H1 emp Pi Hh ∧ RE K Cl Pi Hh ρ σw fi ∧ (∀ b, fi b → f1 b) ∧ Lv Pi Hh ∧ Hh D = some (.lst Av) ∧ Rs K Cl Pi Hh acc Av ga ∧ (∀ b, ga b → H1 b = none) ∧ ¬ ga D ∧ ¬ Pi D
theorem comp_mainQ {tg : Tg} {items : List Val} {test : Env → Res Bool} {elt : Env → Res (Val × Src)} {g : TG} {tt : TT} {te : TE} (gok : GOk K Cl g tg)
    (htt : ∀ σ H Q, tVB K Cl ClX W0 false test σ H Q → tt σ H Q) (hte : ∀ σ H Q, tV K Cl ClX W0 false elt σ H Q → te σ H Q) {σ : L2.St} {H1 : Hp} {P1 f1 : Ps} {ρ1 : Env} {Q : VK} (l : RE K Cl P1 H1 ρ1 σ f1) (lv : Lv P1 H1)
    (q : match ((compR (bindTg tg) tg.slots test elt items (wipeE ρ1 tg.slots) []).bind fun vs _ => .ok (.node (.lst false) vs, .tmp) ρ1 : Res (Val × Src)) with
      | .ok (v, sr) ρ' => ∀ V H', Out1 K Cl P1 H1 f1 false ρ' σ v sr V H' → Q V H'
      | .exc x ρ' => ∀ c d H', OutX K Cl ClX P1 H1 f1 false ρ' σ x c d H' → W c d σ H'
      | .bad => False) {J : It}
    (wk : ∀ Pi Hi, Tr P1 H1 emp Pi Hi → Lv Pi Hi → Wk K Cl J items Pi Hi) (D : Addr) (hD : H1 D = none) :
    ∃ W : Nat → Nat → Hp → Prop, (∃ m, W 0 m (upd H1 D (.lst []))) ∧ ∀ i m H, W i m H →
  (J.stop i H ∧ Q (.ref D) H) ∨ (J.go i H ∧ ∃ Nx : Hp → Prop, (∀ H', Nx H' → ∃ m', m' < m ∧ W (i + 1) m' H') ∧ ∀ x H', J.yld i H x H' → g x (wipe σ tg.slots) H' fun σ2 H2 => wipe σ2 tg.slots = wipe σ tg.slots ∧ tt σ2 H2 fun b H3 =>
    if b = true then te σ2 H3 fun y H4 => ∃ acc, H4 D = some (.lst acc) ∧ acc.length < sizeLine ∧ Nx (upd H4 D (.lst (acc ++ [y]))) else Nx H3) := by
  cases hr : compRH noHd (bindTg tg) tg.slots test elt items (wipeE ρ1 tg.slots) [] with
  | bad => rw [show compR (bindTg tg) tg.slots test elt items (wipeE ρ1 tg.slots) [] = _ from hr] at q; exact q.elim
  | exc x ρ2 => exact absurd hr compR_ok
  | ok vsF ρF =>
    rw [show compR (bindTg tg) tg.slots test elt items (wipeE ρ1 tg.slots) [] = _ from hr] at q
    simp only [Res.bind_ok] at q
    obtain ⟨fw, lw, sw⟩ := l.wipe (vs := tg.slots)
    have nD : ¬ P1 D := fun z => lv D z hD
    have nfD : ¬ f1 D := fun z => (l.live D z).1 hD
    let Iv : Nat → Hp → Prop := fun i Hh => ∃ ρi acc, compRH noHd (bindTg tg) tg.slots test elt (items.drop i) ρi acc = .ok vsF ρF ∧ CInvQ (K := K) (Cl := Cl) P1 H1 f1 (wipe σ tg.slots) D ρi acc Hh
    refine ⟨fun i m Hh => m = items.length - i ∧ i ≤ items.length ∧ Iv i Hh, ⟨items.length, rfl, Nat.zero_le _, ?_⟩, ?_⟩
    · refine ⟨wipeE ρ1 tg.slots, [], by rw [List.drop_zero]; exact hr, ⟨P1, fw, [], emp, tr_upd hD, lw.tr (tr_upd hD) (dis_emp _) (dis_emp _), sw, lv_upd lv, upd_same, ⟨rfl, rfl⟩, fun b z => z.elim, fun z => z.elim, nD⟩⟩
    · rintro i m Hh ⟨rfl, hil, ρi, acc, hc, ⟨Pi, fi, Av, ga, ti, li, si, lvi, hDi, ra, nga, ngD, nPiD⟩⟩
      have wkh := wk Pi Hh ti lvi
      have nfiD : ¬ fi D := fun z => nfD (si D z)
      by_cases hlt : i < items.length
      · right
        obtain ⟨go, yl⟩ := wkh.1 i items[i] (by simp [hlt])
        refine ⟨go, Iv (i + 1), fun H' z => ⟨items.length - (i + 1), by omega, rfl, hlt, z⟩, fun x H' y => ?_⟩
        obtain ⟨Pj, tri, rU, lvj⟩ := yl x H' y
        have tj : Tr P1 H1 emp Pj H' := ti.trans tri fun b z => z.elim
        have lj := li.tr tri (dis_emp _) (dis_emp _)
        have hDj := tri.keep D _ hDi fun z => z
        have raj := ra.tr tri (dis_emp _) (dis_emp _)
        have ed : items.drop i = items[i] :: items.drop (i + 1) := List.drop_eq_getElem_cons hlt
        rw [ed] at hc
        simp only [compRH, noHd] at hc
        rw [if_pos trivial] at hc
        cases hb : bindTg tg items[i] ρi with
        | none => rw [hb] at hc; cases hc
        | some ρ1' =>
          rw [hb] at hc
          dsimp only at hc
          refine gok lj rU hb fun σ' f' l' s' hl hj => ⟨?_, ?_⟩
          · exact (wipe_eq hl hj).trans (wipe_wipe _ _)
          have ew : wipe σ' tg.slots = wipe σ tg.slots := (wipe_eq hl hj).trans (wipe_wipe _ _)
          refine htt _ _ _ ⟨Pj, ρ1', f', l', lvj, ?_⟩
          cases hT : test ρ1' with
          | bad => rw [hT] at hc; cases hc
          | exc x ρ2 => rw [hT] at hc; cases hc
          | ok c ρ2 =>
            rw [hT] at hc
            intro P2 H2 f2 o2
            have e2 : f2 = f' := o2.same rfl
            subst e2
            have u2 : Tr Pj H' emp P2 H2 := o2.tr.weak fun b z => z
            have t2 : Tr P1 H1 emp P2 H2 := tj.trans u2 fun b z => z.elim
            have hD2 : H2 D = some (.lst Av) := u2.keep D _ hDj fun z => z
            have ra2 : Rs K Cl P2 H2 acc Av ga := raj.tr u2 (dis_emp _) (dis_emp _)
            have sf : ∀ b, f2 b → f1 b := fun b z => si b (s' b z)
            have keepN : ∀ b, H2 b = none → H1 b = none := fun b z => by
              cases y : H1 b with
              | none => rfl
              | some o => have := t2.keep b o y fun z => z; rw [z] at this; cases this
            have nP2 : ¬ P2 D := fun z => by
              rcases t2.pn D z with z | z | z
              · exact nD z
              · exact z
              · rcases u2.pn D ‹P2 D› with z | z | z
                · rcases tri.pn D z with z | z | z
                  · exact nPiD z
                  · exact z
                  · rw [hDi] at z; cases z
                · exact z
                · rw [hDj] at z; cases z
            cases c with
            | false =>
              dsimp only at hc
              rw [if_neg (by simp)]
              obtain ⟨f3, l3, s3⟩ := o2.re.wipe (vs := tg.slots)
              rw [ew] at l3
              exact ⟨wipeE ρ2 tg.slots, acc, hc, ⟨P2, f3, Av, ga, t2, l3, fun b z => sf b (s3 b z), o2.lv, hD2, ra2, nga, ngD, nP2⟩⟩
            | true =>
              dsimp only at hc
              rw [if_pos rfl]
              refine hte _ _ _ ⟨P2, ρ2, f2, o2.re, o2.lv, ?_⟩
              cases hE : elt ρ2 with
              | bad => rw [hE] at hc; cases hc
              | exc x ρ3 => rw [hE] at hc; cases hc
              | ok a ρ3 =>
                obtain ⟨v, sr⟩ := a
                rw [hE] at hc
                cases sr with
                | brw => cases hc
                | plc j p => cases hc
                | tmp =>
                  dsimp only at hc
                  by_cases hz : decide (acc.length < 16777216) = true
                  case neg => rw [if_neg hz] at hc; cases hc
                  rw [if_pos hz] at hc
                  intro Y H3 ⟨P3, f3, fv, o3, rY, dv, sv⟩
                  have e3 : f3 = f2 := o3.same rfl
                  subst e3
                  have dv : dis fv f3 := dv
                  have u3 : Tr P2 H2 emp P3 H3 := o3.tr.weak fun b z => z
                  have hD3 : H3 D = some (.lst Av) := u3.keep D _ hD2 fun z => z
                  have ra3 : Rs K Cl P3 H3 acc Av ga := ra2.tr u3 (dis_emp _) (dis_emp _)
                  have nv : ∀ b, fv b → H2 b = none := fun b z => (sv b z).elim (fun y => (dv b z y).elim) id
                  have nvD : ¬ fv D := fun z => by have := nv D z; rw [hD2] at this; cases this
                  have dgv : dis ga fv := fun b z y => (ra2.live b z).1 (nv b y)
                  have nP3 : ¬ P3 D := fun z => by
                    rcases u3.pn D z with z | z | z
                    · exact nP2 z
                    · exact z
                    · rw [hD2] at z; cases z
                  have t3 : Tr P1 H1 emp P3 H3 := t2.trans u3 fun b z => z.elim
                  refine ⟨Av, hD3, ?_, ?_⟩
                  · rw [← raj.length, sizeLine_eq]
                    exact of_decide_eq_true hz
                  · obtain ⟨f4, l4, s4⟩ := o3.re.wipe (vs := tg.slots)
                    rw [ew] at l4
                    have nf4 : ¬ f4 D := fun z => nfD (sf D (s4 D z))
                    have rn : Rs K Cl P3 H3 (acc ++ [v]) (Av ++ [Y]) (uni ga fv) := by
                      have r1 : Rs K Cl P3 H3 [v] [Y] fv := ⟨Y, [], fv, emp, rfl, rY, ⟨rfl, rfl⟩, dis_emp _, (uni_emp _).symm⟩
                      exact ra3.app r1 dgv
                    have nuD : ¬ (uni ga fv) D := fun z => z.elim ngD nvD
                    have tu : Tr P3 H3 (one D) P3 (upd H3 D (.lst (Av ++ [Y]))) := ⟨fun b o e n => by rw [upd_ne n]; exact e, fun _ z => z, fun _ z => .inl z⟩
                    refine ⟨wipeE ρ3 tg.slots, acc ++ [v], hc, ⟨P3, f4, Av ++ [Y], uni ga fv, ?_, ?_, fun b z => sf b (s4 b z), lv_upd o3.lv, upd_same, ?_, ?_, nuD, nP3⟩⟩
                    · exact t3.trans tu fun b z => by rw [show b = D from z]; exact .inr hD
                    · exact l4.tr tu (fun b z y => nf4 (by rw [← show b = D from y]; exact z)) (fun b z y => nP3 (by rw [← show b = D from y]; exact z))
                    · exact rn.tr tu (fun b z y => nuD (by rw [← show b = D from y]; exact z)) (fun b z y => nP3 (by rw [← show b = D from y]; exact z))
                    · exact fun b z => z.elim (nga b) fun z => keepN b (nv b z)
      · left
        have hie : i = items.length := by omega
        subst hie
        refine ⟨wkh.2, ?_⟩
        rw [List.drop_length] at hc
        simp only [compRH, noHd] at hc
        rw [if_pos trivial, Res.ok.injEq] at hc
        obtain ⟨rfl, rfl⟩ := hc
        refine q (.ref D) Hh ⟨Pi, f1, uni (one D) ga, ⟨ti.weak fun b z => z.elim, l.tr ti (dis_emp _) (dis_emp _), Sub.refl _ _, fun _ => rfl, lvi⟩, ?_, ?_, ?_⟩
        · refine ⟨D, Av, one D, ga, rfl, ⟨hDi, rfl⟩, ra, ?_⟩
          rw [if_pos (show (Tag.lst false).own = true from rfl)]
          exact ⟨rfl, fun b z y => ngD (by rw [← show b = D from z]; exact y), fun b z => by rw [show b = D from z]; exact nPiD⟩
        · intro b z y
          rcases z with z | z
          · exact nfD (by rw [← show b = D from z]; exact y)
          · exact (l.live b y).1 (nga b z)
        · intro b z
          rcases z with z | z
          · rw [show b = D from z]; exact .inr hD
          · exact .inr (nga b z)
theorem compQ_core {i : Nat} {tg : Tg} {test : Env → Res Bool} {elt : Env → Res (Val × Src)} {et ee : Bool} (e1 : et = false) (e2 : ee = false) {g : TG} {tt : TT} {te : TE} (gok : GOk K Cl g tg)
    (htt : ∀ σ H Q, tVB K Cl ClX W0 et test σ H Q → tt σ H Q) (hte : ∀ σ H Q, tV K Cl ClX W0 ee elt σ H Q → te σ H Q) {σ : L2.St} {H : Hp} {Q : VK}
    (h : tV K Cl ClX W false (fun ρ => match seqAt ρ i with
      | some xs => (compR (bindTg tg) tg.slots test elt xs (wipeE ρ tg.slots) []).bind fun vs _ => .ok (.node (.lst false) vs, .tmp) ρ
      | none => .bad) σ H Q) : tLc (fun σ H R => iList K (tVar i) σ H R ∨ iTup K (tVar i) σ H R) g tt te tg.slots σ H Q := by
  subst e1 e2
  obtain ⟨P, ρ, f, l, lv, q⟩ := h
  dsimp only at q
  cases hx : seqAt ρ i with
  | none => rw [hx] at q; exact q.elim
  | some xs =>
    rw [hx] at q
    dsimp only at q
    obtain ⟨t, e, hp, ht⟩ := seqAt_inv hx
    obtain ⟨W0', g0, g1, ew, r, _, _, _⟩ := l.pick e
    obtain ⟨a, Ws, x, gg, rfl, hh, rs, _⟩ := r.node_items
    -- what stands in the name stands there as long as nothing is written
    have same : ∀ Pi Hi, Tr P H emp Pi Hi → ∃ Wi x, Hold K Cl Hi t a Wi x ∧ Rs K Cl Pi Hi xs Wi emp := fun Pi Hi tr => by
      obtain ⟨W2, g2, g3, ew2, r2, _, _, _⟩ := (l.tr tr (dis_emp _) (dis_emp _)).pick e
      rw [ew] at ew2
      cases ew2
      obtain ⟨a2, Wi, x2, gg2, ea, hh2, rs2, _⟩ := r2.node_items
      cases ea
      exact ⟨Wi, x2, hh2, rs2.emp hp⟩
    by_cases et : t = .tup
    · refine .inr ⟨_, ew, a, rfl, ⟨Ws, sqT_keep (by rw [et]; rfl) hh fun _ _ e _ => e⟩, fun D hD => comp_mainQ gok htt hte l lv q (fun Pi Hi tr lvi => ?_) D hD⟩
      obtain ⟨Wi, x2, hh2, rs2⟩ := same Pi Hi tr
      exact wk_of (walk_t (sqT_keep (by rw [et]; rfl) hh2 fun _ _ e _ => e)) rs2 lvi
    · have ht' : t = .rol ∨ ∃ z, t = .lst z := ht.elim (fun z => absurd z et) id
      refine .inl ⟨_, ew, a, rfl, ⟨Ws, sqL_keep ht' hh fun _ _ e _ => e⟩, fun D hD => comp_mainQ gok htt hte l lv q (fun Pi Hi tr lvi => ?_) D hD⟩
      obtain ⟨Wi, x2, hh2, rs2⟩ := same Pi Hi tr
      exact wk_of (walk_l (sqL_keep ht' hh2 fun _ _ e _ => e)) rs2 lvi
end
end VS

/-! lists again and again, dict displays, two things of a list turned about -/
namespace VS
open PySem L2
section
variable {K : PySem.W.Frag} {Cl ClX : Nat → Addr} {P P' : Ps} {H H' : Hp}
theorem rs_rep {xs : List Val} {As : List V} (h : Rs K Cl P H xs As emp) : ∀ n : Nat, Rs K Cl P H (List.replicate n xs).flatten (List.replicate n As).flatten emp
  | 0 => ⟨rfl, rfl⟩
  | n + 1 => by
    rw [List.replicate_succ, List.replicate_succ, List.flatten_cons, List.flatten_cons]
    exact Rs.append h (rs_rep h n)
theorem pr_rep : PrimOk K Cl (op2 rRep) gRep := by
  intro P H vs Vs Q v hw lv hg n
  unfold gRep at hg
  split at hg
  · rename_i z xs k
    split at hg
    · rename_i hc
      cases hg
      obtain ⟨c1, c2, c3⟩ := and3 hc
      obtain ⟨x, y, f1, f2, rfl, h1, h2⟩ := hw.two
      obtain ⟨a, As, xa, ga, rfl, ha, ra, _⟩ := h1.node_items
      simp only [R] at h2
      have ck := of_decide_eq_true c2
      have l3 := lineB_ok c3
      rw [ra.length] at l3
      exact ⟨_, _, rfl, a, k, As, rfl, h2.1, ha.1, by omega, by omega, l3, fun p hp => n.lst lv (rs_rep (ra.emp c1) _) hp⟩
    · cases hg
  · cases hg
/-! dict displays -/
def flatP : List (V × V) → List V
  | [] => []
  | (x, y) :: r => x :: y :: flatP r
theorem dis_ws : ∀ {vals : List Val} {ps : List (V × V)} {q : List Key × List Val}, Ws K Cl P H vals (flatP ps) → disOf vals = some q → pures q.2 = true → ∃ Us : List V, q.1.length = Us.length ∧ ps = (q.1.zip Us).map (fun kv => (kV kv.1, kv.2)) ∧ Rs K Cl P H q.2 Us emp
  | [], [], q, h, e, _ => by
    simp only [disOf, Option.some.injEq] at e
    subst e
    exact ⟨[], rfl, rfl, rfl, rfl⟩
  | [], (x, y) :: ps, q, h, e, _ => by simp only [Ws, flatP] at h; cases h
  | [v], ps, q, h, e, _ => by simp [disOf] at e
  | k :: v :: r, [], q, h, e, _ => by
    simp only [Ws, flatP] at h
    obtain ⟨_, _, _, e1, _⟩ := h
    cases e1
  | k :: v :: r, (x, y) :: ps, q, h, e, hp => by
    simp only [disOf, Option.bind_eq_some_iff, Option.map_eq_some_iff] at e
    obtain ⟨kk, hk, q', hq, rfl⟩ := e
    simp only [Ws, flatP] at h
    obtain ⟨V1, R1, f1, e1, h1, V2, R2, f2, e2, h2, hr⟩ := h
    cases e1
    cases e2
    simp only [pures, Bool.and_eq_true] at hp
    obtain ⟨Us, l1, l2, l3⟩ := dis_ws hr hq hp.2
    have hx : x = kV kk := by
      cases k with
      | int i => simp only [keyOf, Option.some.injEq] at hk; subst hk; simp only [R] at h1; exact h1.1
      | str i => simp only [keyOf, Option.some.injEq] at hk; subst hk; simp only [R] at h1; exact h1.1
      | non => simp [keyOf] at hk
      | bl b => simp [keyOf] at hk
      | node t vs => simp [keyOf] at hk
    refine ⟨y :: Us, by simp [l1], ?_, ?_⟩
    · rw [hx, l2]; rfl
    · have := h2.pure_emp hp.1
      subst this
      exact ⟨_, _, emp, emp, rfl, h2, l3, dis_emp _, (uni_emp _).symm⟩
theorem dis_core {W : WX} {e : Bool} {s : Env → Res (List (Val × Src))} {σ : L2.St} {Q : VK} {p : Addr} (hp : H p = none) (h : tV K Cl ClX W e (prim gDis s) σ H Q) :
    tVs K Cl ClX W e s σ (upd H p (.dK [])) fun Vs H2 => ∀ ps, Vs = flatP ps → H2 p = some (.dK []) ∧ ∃ kvs : List (Key × V), ps = kvs.map (fun kv => (kV kv.1, kv.2)) ∧ kvs.length ≤ 15 ∧ Q (.ref p) (upd H2 p (.dK (mergeK [] kvs))) := by
  obtain ⟨P, ρ, f, l, lv, q⟩ := h
  have t0 : Tr P H emp P (upd H p (.dK [])) := tr_upd hp
  have o0 : Out K Cl P H f false ρ σ P (upd H p (.dK [])) f := ⟨t0, l.tr t0 (dis_emp _) (dis_emp _), Sub.refl _ _, fun _ => rfl, lv_upd lv⟩
  refine ⟨P, ρ, f, o0.re, o0.lv, ?_⟩
  unfold prim at q
  cases hs : s ρ with
  | bad => rw [hs] at q; exact q
  | exc x ρ1 =>
    rw [hs] at q
    intro c d H' ⟨P', f', o', xo⟩
    have := o0.trans o'
    rw [Bool.false_or] at this
    exact q c d H' ⟨P', f', this, xo⟩
  | ok as ρ1 =>
    rw [hs] at q
    simp only [Res.bind_ok] at q
    intro Vs H2 ⟨P2, f2, F, o1, a1, d1, sb1⟩ ps e1
    have oo := o0.trans o1
    rw [Bool.false_or] at oo
    have nf : ¬ f p := fun z => (l.live p z).1 hp
    have nP : ¬ P p := fun z => lv p z hp
    have h1p : (upd H p (.dK [])) p = some (.dK []) := upd_same
    have h2p : H2 p = some (.dK []) := o1.tr.keep p _ h1p fun z => nf (wr_sub _ _ p z)
    have nf2 : ¬ f2 p := fun z => by
      rcases o1.sub p z with y | y
      · exact nf y
      · rw [h1p] at y; cases y
    have nP2 : ¬ P2 p := fun z => by
      rcases o1.tr.pn p z with y | y | y
      · exact nP y
      · exact nf (wr_sub _ _ p y)
      · rw [h1p] at y; cases y
    refine ⟨h2p, ?_⟩
    cases hg : gDis (as.map (·.1)) with
    | none => rw [hg] at q; exact q.elim
    | some v =>
      rw [hg] at q
      unfold gDis at hg
      obtain ⟨qq, hq, hg⟩ := Option.bind_eq_some_iff.mp hg
      by_cases hpu0 : (pures qq.2 && decide (qq.1.length ≤ 15)) = true
      case neg => rw [if_neg hpu0] at hg; cases hg
      rw [if_pos hpu0] at hg
      cases hg
      simp only [Bool.and_eq_true, decide_eq_true_eq] at hpu0
      obtain ⟨hpu, h15⟩ := hpu0
      have hw := a1.ws
      rw [e1] at hw
      obtain ⟨Us, l1, l2, l3⟩ := dis_ws hw hq hpu
      obtain ⟨Ws', m1, m2, m3, m4⟩ := merge_rs (ks := []) (vs := []) (Ws := []) l3 ⟨rfl, rfl⟩ l1 rfl List.nodup_nil
      have m4' : mergeK [] (qq.1.zip Us) = (mergeP [] [] qq.1 qq.2).1.zip Ws' := m4
      refine ⟨qq.1.zip Us, l2, by rw [List.length_zip]; omega, ?_⟩
      rw [m4']
      have tW : Tr P2 H2 (one p) P2 (upd H2 p (.dK ((mergeP [] [] qq.1 qq.2).1.zip Ws'))) := ⟨fun b o e n => by rw [upd_ne n]; exact e, fun _ z => z, fun _ z => .inl z⟩
      have df : dis f2 (one p) := fun b z y => nf2 (by rw [← show b = p from y]; exact z)
      have dP : dis P2 (one p) := fun b z y => nP2 (by rw [← show b = p from y]; exact z)
      refine q (.ref p) _ ⟨P2, f2, one p, ⟨⟨fun b o hb nw => ?_, oo.tr.pm, oo.tr.pn⟩, oo.re.tr tW df dP, oo.sub, oo.same, lv_upd oo.lv⟩, ?_, fun b z y => nf2 (by rw [← show b = p from z]; exact y), fun b z => .inr (by rw [show b = p from z]; exact hp)⟩
      · rw [upd_ne (ne_of_none hb hp)]
        exact oo.tr.keep b o hb nw
      · refine ⟨p, Ws', one p, emp, rfl, ⟨upd_same, m2, m3, rfl⟩, m1.tr tW (emp_dis _) dP, ?_⟩
        rw [if_pos (show (Tag.dct false (mergeP [] [] qq.1 qq.2).1).own = true from rfl)]
        exact ⟨(uni_emp _).symm, dis_emp _, fun b z y => nP2 (by rw [← show b = p from z]; exact y)⟩
theorem pairs_nil {W : WX} {σ : L2.St} {Kk : List (V × V) → Hp → Prop} (h : tVs K Cl ClX W false argsNil σ H fun Vs H' => ∀ ps, Vs = flatP ps → Kk ps H') : tPairs [] σ H Kk := by
  obtain ⟨P, ρ, f, l, lv, q⟩ := h
  exact q [] H ⟨P, f, emp, Out.refl l lv, ⟨rfl, rfl⟩, emp_dis _, fun b z => z.elim⟩ [] rfl
/-! two things of a list turned about -/
theorem put1_core {W : WX} {pr : List Nat} {g : Val → Val → Val → Option Val} {r : V → V → V → Hp → (Hp → Prop) → Prop} (pk : PutOk K Cl g r) {e : Bool} {s : Env → Res (List (Val × Src))} {σ : L2.St} {D : Ends} {f : Ps} {ρ : Env} {u : Val} {Uu : V}
    (l : RE K Cl P H ρ σ f) (lv : Lv P H) (ru : R K Cl P H u Uu emp) (q : WF K Cl ClX W pr P H f σ D ((s ρ).flow (sPutC g u))) :
    tVs K Cl ClX W e s σ H fun Vs H1 => ∃ x k, Vs = [x, k] ∧ r x k Uu H1 fun H2 => D.nx σ H2 := by
  refine ⟨P, ρ, f, l, lv, ?_⟩
  cases hs : s ρ with
  | bad => rw [hs] at q; exact q
  | exc x ρ1 =>
    rw [hs] at q
    exact fun c d H' ⟨P', f', o', xo⟩ => q c d σ P' H' f' (OutS.of o') xo
  | ok as ρ1 =>
    rw [hs] at q
    intro Vs H1 ⟨P1, f1, F, o1, a1, d1, sb⟩
    rcases as with _ | ⟨⟨x, sx⟩, _ | ⟨⟨k, sk⟩, _ | ⟨_, _⟩⟩⟩
    · exact q.elim
    · cases sx <;> exact q.elim
    · cases sx with
      | tmp => exact q.elim
      | brw => exact q.elim
      | plc i p =>
        have q : WF K Cl ClX W pr P H f σ D (sPutC g u [(x, .plc i p), (k, sk)] ρ1) := q
        simp only [sPutC] at q
        cases hg : g x k u with
        | none => rw [hg] at q; exact q.elim
        | some x' =>
          rw [hg] at q
          dsimp only at q
          simp only [ArgsOk] at a1
          obtain ⟨U, V2, fx, g2, rfl, rx, ⟨Uk, V3, fk, g3, rfl, rk, ⟨rfl, rfl⟩, kk⟩, ⟨pl, rfl⟩⟩ := a1
          refine ⟨U, Uk, rfl, ?_⟩
          have ru1 : R K Cl P1 H1 u Uu emp := ru.tr o1.tr (emp_dis _) (wr_dis l e)
          refine pk hg rx rk ru1 (emp_dis _) fun a o' x0 gg g' e1 e2 e3 e4 e5 e6 e7 => ?_
          subst e1
          have := mu_finG (K := K) (Cl := Cl) (s := .plc i p) (F := F) (v := .non) (Y := .non) (fv := emp) (gA := emp) (Q := fun _ H' => D.nx σ H') o1 sb d1 rx e2 e3 e4 e5 pl (fun b z => z.elim) (emp_dis _) e6 ⟨rfl, rfl⟩ e7 (fun _ z => z.elim) (emp_dis _) fun ρ' U H' e z => ?_
          · exact this
          · subst e
            obtain ⟨P', f', fv', o, _⟩ := z
            exact q σ P' H' f' (OutS.of o)
    · cases sx <;> exact q.elim
theorem swp_core {W : WX} {pr : List Nat} {e e1 e2 : Bool} {s s0 t1 t2 : Env → Res (Val × Src)} (q1 : Quiet e1 t1) (q2 : Quiet e2 t2) {σ : L2.St} {D : Ends}
    (h : tS K Cl ClX W pr (fun ρ => (s ρ).flow (swpK (argsCons (!(e1 || false)) s0 (argsCons (!false) t1 argsNil)) (argsCons (!(e2 || false)) s0 (argsCons (!false) t2 argsNil)))) D σ H) :
    tV K Cl ClX W e s σ H fun x H1 => gTup K 2 (gCons (L2.gSub (tV K Cl ClX W false s0) (tV K Cl ClX W e1 t1) rSetL) (gCons (L2.gSub (tV K Cl ClX W false s0) (tV K Cl ClX W e2 t2) rSetL) gNil)) x σ H1 D.nx :=
  flow_ok h fun P f v sr ρ1 U H1 ⟨P1, f1, fv, o, r, so, sb⟩ q => by
    unfold swpK at q
    split at q
    · rename_i ρ1 _ _ u w eq _
      cases eq
      by_cases hc : (u.pure && w.pure) = true
      case neg => rw [if_neg hc] at q; exact q.elim
      rw [if_pos hc] at q
      simp only [Bool.and_eq_true] at hc
      simp only [R] at r
      obtain ⟨a, Vs, x, g, rfl, hh, rs, _⟩ := r
      simp only [Rs] at rs
      obtain ⟨Vu, R1, fu, g1, rfl, ru, ⟨Vw, R2, fw, g2, rfl, rw', ⟨rfl, _⟩, _⟩, _⟩ := rs
      have z1 := ru.pure_emp hc.1
      have z2 := rw'.pure_emp hc.2
      subst z1 z2
      refine ⟨a, [Vu, Vw], rfl, SqT.of hh.1, rfl, Vu, [Vw], rfl, ?_⟩
      have l1 := o.re
      have q := wf_out (OutS.of o) q
      have key := put1_core (e := false || (e1 || false)) (D := { D with nx := fun σ' H' => gCons (L2.gSub (tV K Cl ClX W false s0) (tV K Cl ClX W e2 t2) rSetL) gNil [Vw] σ' H' D.nx }) po_lput l1 o.lv ru (s := argsCons (!(e1 || false)) s0 (argsCons (!false) t1 argsNil)) (W := W) (pr := pr) (ClX := ClX) ?_
      · exact tv_mono (two_args q1 key) fun x H2 h2 => tv_mono h2 fun k H3 ⟨x', k', e, g⟩ => by
          cases e
          exact g
      · revert q
        cases hf : Res.flow (argsCons (!(e1 || false)) s0 (argsCons (!false) t1 argsNil) ρ1) (sPutC lputOf u) with
        | next ρ2 =>
          intro q σ' P' H' f' o'
          refine ⟨Vw, [], rfl, ?_⟩
          have rw2 : R K Cl P' H' w Vw emp := rw'.tr o'.tr (emp_dis _) (lv_dis l1)
          have key2 := put1_core (e := false || (e2 || false)) (D := { D with nx := fun σ' H' => gNil [] σ' H' D.nx }) po_lput o'.re o'.lv rw2 (s := argsCons (!(e2 || false)) s0 (argsCons (!false) t2 argsNil)) (W := W) (pr := pr) (ClX := ClX) ?_
          · exact tv_mono (two_args q2 key2) fun x H2 h2 => tv_mono h2 fun k H3 ⟨x', k', e, g⟩ => by
              cases e
              exact g
          · have q' : WF K Cl ClX W pr P' H' f' σ' D ((argsCons (!(e2 || false)) s0 (argsCons (!false) t2 argsNil) ρ2).flow (sPutC lputOf w)) := wf_out o' q
            revert q'
            cases hf2 : Res.flow (argsCons (!(e2 || false)) s0 (argsCons (!false) t2 argsNil) ρ2) (sPutC lputOf w) with
            | next ρ3 => exact fun q' σ3 P3 H3 f3 o3 => ⟨rfl, q' σ3 P3 H3 f3 o3⟩
            | ret v ρ3 => exact fun q' => q'
            | exc x ρ3 => exact fun q' => q'
            | bad => exact fun q' => q'
        | ret v ρ2 => exact fun q => q
        | exc x ρ2 => exact fun q => q
        | bad => exact fun q => q
    · exact q.elim
end
theorem swp_none {a b c d pe : Expr} {q1 q2 pp : Pos} {kk : Nat} (env : PySem.Env) : swappedStores [.Tuple [.Subscript a b q1, .Subscript c d q2] kk pp] pe env = pure none := by
  cases pe <;> first | rfl | (simp only [swappedStores, List.filterMap_cons, List.filterMap_nil]; split <;> first | rfl | (split <;> first | rfl | (split <;> rfl)))
end VS

/-! a tuple made of a list, its object told; a dict of such a tuple of pairs -/
namespace VS
open PySem PySem.Spec PyProof.Rows L2
section
variable {K : PySem.W.Frag} {Cl ClX : Nat → Addr} {P P' : Ps} {H H' : Hp} {X : Cx}
theorem call_tupleP : CallR X (.type "tuple") (fun xs H Q => ∃ p ys, xs = [.ref p] ∧ SqL X.K H p ys ∧ ∀ l (o : Obj), H l = none → o.dict = none → Q (.ref l) (upd H l (.frz o (.tup ys)))) := by
  intro pins s σ H xs us Q I r h
  obtain ⟨p, ys, rfl, hq, q⟩ := h
  obtain ⟨u, rfl, rx⟩ := vals1 r
  cases rx
  obtain ⟨its, r', pl, hz⟩ := I.list hq
  have hlen := r'.length
  refine call_tuple_list pl.isList (fun h' kp => ?_) (by simp only [List.size_toArray] <;> omega)
  have I1 : Inv X pins σ H { s with heap := h' } := I.kept (t' := s.toks) kp
  have I2 : Inv X pins σ (upd H h'.objs.size (.frz { cls := .type "tuple", data := .seq its.toArray } (.tup ys))) { s with heap := h'.push { cls := .type "tuple", data := .seq its.toArray } } :=
    I1.laid (t' := s.toks) (fun b o e => Heap.get?_push_of_some _ e) (Nat.le_refl _) (show ObjOk X.prog X.w _ _ _ (.frz { cls := .type "tuple", data := .seq its.toArray } (.tup ys)) from ⟨Heap.get?_push_size _ rfl, hz, its, r', IsTup.new _ _⟩)
  exact ⟨.ref h'.objs.size, _, I2, rfl, q _ _ (I1.hok.fresh (Nat.le_refl _)) rfl⟩
theorem pairs_list {h : Heap} : ∀ {prs : List (Key × Value)} {ps : List Addr}, prs.length = ps.length → (∀ (j : Nat) (q : Key × Value), prs[j]? = some q → ∃ (b : Addr) (u : Value), ps[j]? = some b ∧ IsTup h b #[u, q.2] ∧ keyIs q.1 u = true) →
    ∃ qs : List (Value × Value), qs.length = ps.length ∧ ∀ (j : Nat) (k v : Value), qs[j]? = some (k, v) → ∃ (b : Addr) (key : Key), ps[j]? = some b ∧ IsTup h b #[k, v] ∧ prs[j]? = some (key, v) ∧ keyIs key k = true
  | [], [], _, _ => ⟨[], rfl, fun j k v e => by simp at e⟩
  | [], _ :: _, e, _ => by simp at e
  | _ :: _, [], e, _ => by simp at e
  | q :: prs, p :: ps, e, f => by
    obtain ⟨qs, h1, h2⟩ := pairs_list (prs := prs) (ps := ps) (by simpa using e) (fun j q' e' => by
      obtain ⟨b, u, e1, e2, e3⟩ := f (j + 1) q' (by simpa using e')
      exact ⟨b, u, by simpa using e1, e2, e3⟩)
    obtain ⟨b, u, e1, e2, e3⟩ := f 0 q rfl
    refine ⟨(u, q.2) :: qs, by simp [h1], fun j k v e' => ?_⟩
    cases j with
    | zero => cases e'; exact ⟨b, q.1, e1, e2, rfl, e3⟩
    | succ j =>
      obtain ⟨b, key, z1, z2, z3, z4⟩ := h2 j k v (by simpa using e')
      exact ⟨b, key, by simpa using z1, z2, by simpa using z3, z4⟩
theorem call_dictT (hcalm : X.calm = true) : CallR X (.type "dict") (fun xs H Q => ∃ (a : Addr) (ps : List Addr) (kvs : List (Key × V)), xs = [.ref a] ∧ (∃ o, H a = some (.frz o (.tup (ps.map V.ref))) ∧ o.dict = none) ∧ Paired (fun p kv => SqT X.K H p [kV kv.1, kv.2]) ps kvs ∧
    ∀ p, H p = none → Q (.ref p) (upd H p (.dK (mergeK [] kvs)))) := by
  intro pins s σ H xs us Q I r q
  obtain ⟨a, ps, kvs, ex, ⟨o, ho, hd⟩, hp, q⟩ := q
  subst ex
  obtain ⟨u, eu, rx⟩ := vals1 r
  subst eu
  cases rx
  obtain ⟨hg, hz, its, rv, o', ho', hc, n, hdat⟩ := (show ObjOk X.prog X.w H s.heap a (.frz o (.tup (ps.map V.ref))) from I.hok a _ ho)
  rw [hg] at ho'
  cases ho'
  have ei := refs_at rv
  subst ei
  obtain ⟨prs, rel, hl, hpr⟩ := pairs_of I hp
  have hz' : ps.length ≤ sizeLine := by
    have := rv.length
    simp only [List.length_map] at hz this ⊢
    omega
  obtain ⟨qs, hq1, hq2⟩ := pairs_list hl hpr
  refine PySem.call_dict_pairs (knd := mixKind X.prog X.w) (PairArg.tuple a (ps.map Value.ref).toArray (fun j => ps[j]?.getD 0) qs) (I.ok.hd hcalm) ⟨⟨o, n, hg, hc, hd, hdat⟩, by simp [hq1], fun j k v e => ?_⟩ ⟨by rw [hl, hq1], fun i k v e => ?_⟩ (by rw [hq1]; exact hz') fun h' tk hd' k => ?_
  · obtain ⟨b, key, z1, z2, z3, z4⟩ := hq2 j k v e
    refine ⟨by simp [z1], .inl ?_⟩
    show s.heap.IsTuple (ps[j]?.getD 0) #[k, v]
    rw [z1]
    exact z2
  · obtain ⟨b, key, z1, z2, z3, z4⟩ := hq2 i k v e
    exact ⟨key, z3, z4⟩
  · have hm : (s.heap.objs.size == sysModules) = false := beq_eq_false_iff_ne.mpr (Nat.ne_of_gt I.big)
    have hlen : (mergeK [] kvs).length ≤ sizeLine := by
      refine Nat.le_trans (length_mergeK kvs []) ?_
      rw [List.length_nil, Nat.zero_add, rel.length, hl]
      exact hz'
    exact ⟨.ref s.heap.objs.size, upd H s.heap.objs.size (.dK (mergeK [] kvs)), I.laid (t' := tk) (fun b o e => k b o (fun z => nomatch z) e) (Nat.le_refl _) (show ObjOk X.prog X.w _ _ _ (.dK (mergeK [] kvs)) from ⟨hlen, hm, merged [] prs, KV.merge rel .nil, hd'⟩), rfl, q _ (I.hok.fresh (Nat.le_refl _))⟩
/-- a new tuple of pure items, its object told -/
theorem Nw.ptup {vs : List Val} {Vs : List V} {Q : VK} (n : Nw K Cl P H (.node .ptup vs) Q) (lv : Lv P H) (r : Rs K Cl P H vs Vs emp) {p : Addr} (h : H p = none) {o : Obj} (ho : o.dict = none) : Q (.ref p) (upd H p (.frz o (.tup Vs))) := by
  refine n (.ref p) _ _ emp (tr_updP h) ⟨p, Vs, one p, emp, rfl, ⟨⟨o, upd_same, ho⟩, rfl⟩, r.tr (tr_updP h) (dis_emp _) (dis_emp _), ?_⟩ (fun b z => z.elim) fun b z => ?_
  · rw [if_neg (by simp [Tag.own])]
    exact ⟨rfl, fun b z => .inr z⟩
  · rcases z with z | z
    · exact lv_upd lv b z
    · rw [show b = p from z, upd_same]; simp
theorem pr_tupleP : PrimOk K Cl (fun xs H Q => ∃ p ys, xs = [.ref p] ∧ SqL K H p ys ∧ ∀ l (o : Obj), H l = none → o.dict = none → Q (.ref l) (upd H l (.frz o (.tup ys)))) gTupleP := by
  intro P H vs Vs Q v hw lv hg n
  unfold gTupleP at hg
  split at hg
  · split at hg
    · rename_i xs hp
      cases hg
      obtain ⟨X, f, rfl, h⟩ := hw.one
      obtain ⟨a, Ws, g, rfl, hh, r, _⟩ := h.lseq rfl
      exact ⟨a, Ws, rfl, hh, fun l o hl ho => n.ptup lv (r.emp hp) hl ho⟩
    · cases hg
  · cases hg
def rDictL (K : PySem.W.Frag) (xs : List V) (H : Hp) (Q : VK) : Prop := ∃ (a : Addr) (ps : List Addr) (kvs : List (Key × V)), xs = [.ref a] ∧ SqL K H a (ps.map V.ref) ∧ Paired (fun p kv => SqT K H p [kV kv.1, kv.2]) ps kvs ∧ ∀ p, H p = none → Q (.ref p) (upd H p (.dK (mergeK [] kvs)))
def rDictT (K : PySem.W.Frag) (xs : List V) (H : Hp) (Q : VK) : Prop := ∃ (a : Addr) (ps : List Addr) (kvs : List (Key × V)), xs = [.ref a] ∧ (∃ o, H a = some (.frz o (.tup (ps.map V.ref))) ∧ o.dict = none) ∧ Paired (fun p kv => SqT K H p [kV kv.1, kv.2]) ps kvs ∧ ∀ p, H p = none → Q (.ref p) (upd H p (.dK (mergeK [] kvs)))
theorem call_dictPT (hcalm : X.calm = true) : CallR X (.type "dict") (fun xs H Q => rDictL X.K xs H Q ∨ rDictT X.K xs H Q) := by
  intro pins s σ H xs us Q I r q
  rcases q with q | q
  · exact call_dictP hcalm _ _ _ _ _ _ _ I r q
  · exact call_dictT hcalm _ _ _ _ _ _ _ I r q
theorem lpOf_inv {x : Val} {xs : List Val} (h : lpOf x = some xs) : x = .node .ptup xs ∨ lseqOf x = some xs := by
  unfold lpOf at h
  split at h <;> first | (cases h; first | exact .inl rfl | exact .inr rfl) | cases h
theorem pr_dictP : PrimOk K Cl (fun xs H Q => rDictL K xs H Q ∨ rDictT K xs H Q) gDictP := by
  intro P H vs Vs Q v hw lv hg n
  unfold gDictP at hg
  split at hg
  · rename_i x
    simp only [Option.bind_eq_some_iff] at hg
    obtain ⟨xs, hx, p, hp, hg⟩ := hg
    by_cases hpu : pures p.2 = true
    · rw [if_pos hpu] at hg
      cases hg
      obtain ⟨X, f, rfl, h⟩ := hw.one
      rcases lpOf_inv hx with rfl | hx
      · obtain ⟨a, Ws, g, rfl, hh, rs, _⟩ := h.pseq
        obtain ⟨ps, Us, rfl, hl, rr, pp⟩ := pairs_rs rs hp hpu
        obtain ⟨Ws', m1, m2, m3, m4⟩ := merge_rs (ks := []) (vs := []) (Ws := []) rr ⟨rfl, rfl⟩ hl rfl List.nodup_nil
        refine .inr ⟨a, ps, _, rfl, hh, pp, fun q nq => ?_⟩
        have m4' : mergeK [] (p.1.zip Us) = (mergeP [] [] p.1 p.2).1.zip Ws' := m4
        rw [m4']
        exact n.dct lv m1 m2 m3 nq
      · obtain ⟨a, Ws, g, rfl, hh, rs, _⟩ := h.lseq hx
        obtain ⟨ps, Us, rfl, hl, rr, pp⟩ := pairs_rs rs hp hpu
        obtain ⟨Ws', m1, m2, m3, m4⟩ := merge_rs (ks := []) (vs := []) (Ws := []) rr ⟨rfl, rfl⟩ hl rfl List.nodup_nil
        refine .inl ⟨a, ps, _, rfl, hh, pp, fun q nq => ?_⟩
        have m4' : mergeK [] (p.1.zip Us) = (mergeP [] [] p.1 p.2).1.zip Ws' := m4
        rw [m4']
        exact n.dct lv m1 m2 m3 nq
    · rw [if_neg hpu] at hg; cases hg
  · cases hg
end
end VS

/-! an exception at hand in an except suite: what its class is, asked there or by a def that is handed it -/
namespace VS
open PySem PySem.Spec PyProof.Rows L2
section
variable {X : Cx}
/-- isinstance(e, c), e an exception that is pinned -/
theorem call_isP {a D : Addr} {oe : Obj} (hp : (a, oe) ∈ X.pn) (C : ExcC X.K D) (hz : Zc (.ref D) none oe) (hf : ∃ vs, oe.data = .fields vs) : CallR X (.builtin "isinstance") (rIsE X.K D a) := by
  intro pins s σ H xs us Q I r h
  obtain ⟨c, cv, b, rfl, hcv, e, q⟩ := h
  obtain ⟨u1, u2, rfl, rx, rt⟩ := vals2 r
  cases rx
  obtain rfl := hcv _ rt
  have hget := (I.pin (a, oe) (List.mem_append_left _ hp)).1
  obtain ⟨vs, hv⟩ := hf
  have J : PySem.W.InstAt s.heap a oe D none := by
    obtain ⟨oc, od, oda, osl⟩ := oe
    obtain ⟨h1, h2⟩ := hz
    dsimp only at h1 h2 hv
    subst h1 h2 hv
    exact ⟨hget, rfl, rfl, trivial⟩
  exact PySem.W.kia_one (PySem.W.handS_kitx_exc C.hg C.hk C.hs C.hd C.ha C.hn C.ht C.hm) I.kIn J e (fun z => nomatch z) fun tk => ⟨.bl b, H, I.kept (t' := tk) fun _ _ z => z, rfl, q⟩
theorem cxn {P : Program} {w : World} {l : List PySem.Env} {H : Hp} {s : Shared} {e : Value} {s' : Shared} (h : L2.CX P w l H s (fun _ _ _ => False) e s') : False := by
  obtain ⟨_, _, _, _, _, _, _, _, _, _, _, _, z⟩ := h
  exact z
/-- a def that is handed a pinned object, and raises nothing -/
theorem call_pinned {x qual : Str} {params : Arguments} {body : List Stmt} {scope : Scope} {f : Addr} {fd : FuncData} {N ps : List Str} {p : Addr × Obj} {pins : List (Addr × Obj)} {σ : L2.St} {H : Hp} {s : Shared} {us : List Value} {vs : List V} {Q : VK}
    (hp : p ∈ X.pn) (F : FunD X.K x qual params body scope [] [] f fd) (S : FnScope N ps scope) (hb : Binds X.K fd ps []) (hd : X.A.depth < recursionLimit) (I : Inv X pins σ H s) (r : Vals vs us) (hl : vs.length = ps.length)
    (hbody : ∀ cdv, ∃ t, PSs (L2H.cxH (L2.CX X.prog X.w) X.prog X.w X.K X.mg X.base N qual scope f cdv X.A X.stack s H (fun _ _ _ => False) p) body t ∧ t { nx := fun _ H' => Q .non H', rt := Q } (L2.start N vs) H) :
    wpAny (model X.prog X.w) X.A (call (.ref f) us) (EP X pins σ Q) X.xe s := by
  obtain ⟨oc, od, dV, kV, doc, pm, an, cdv, ct, osl, rfl, lk, hcd, _, _⟩ := F.ex
  have b := hb s us I.kIn (by rw [List.append_nil, ← r.length, hl])
  rw [List.append_nil] at b
  have P1 := I.pin p (List.mem_append_left _ hp)
  have hpin : L2H.PinOk X.stack H s p := ⟨P1.1, P1.2.1, fun hm => (List.mem_cons.mp (I.stkSub p.1 hm)).elim P1.2.2.1 P1.2.2.2.1, P1.2.2.2.2⟩
  have e0 := I.env0
  have old : ∀ b o, X.base.get? b = some o → s.heap.get? b = some o := fun b o e => (e0.bs b o e).1
  have kinds : ∀ y ∈ ps.zip us, scope.names.lookup y.1 = some .local ∨ (scope.names.lookup y.1 = some .cell ∧ ((cellsFrom (s.heap.objs.size + 1) scope.names []).lookup y.1).isSome = true) := fun y hy =>
    (S.par y.1 (List.of_mem_zip (show (y.1, y.2) ∈ ps.zip us from hy)).1).imp id fun q => ⟨q, PySem.W.cellsFrom_some _ _ _ (.inl q)⟩
  refine wpAny_call ?_
  refine codeAny_call_function hd (I.kIn _ _ lk) rfl S.co S.gen rfl (PySem.W.codeRec_of I.kIn hcd) (b _ _ _ _ (wpAny_newFunctionEnv_cells S.kind kinds fun env he s1 y => ?_))
  subst he
  refine ⟨(e0.mod.nolimit.keeps old).keeps y.toInCall.keep, codeAny_func ?_⟩
  obtain ⟨t, ht, hq⟩ := hbody cdv
  refine wpAny_mono (ht.run [] s1 (L2.start N vs) H _ (L2H.inv_startH S hpin e0 hl r y) hq) (fun fl s' hs => ?_) fun e s' hs => ?_
  · cases fl with
    | ret u => obtain ⟨v, σ', H', J, rv, q⟩ := hs; exact I.after ⟨v, H', J.os, J.bare, J.base, J.hok, rv, q⟩
    | next => obtain ⟨σ', H', J, q⟩ := hs; exact I.after ⟨.non, H', J.os, J.bare, J.base, J.hok, rfl, q⟩
    | brk => obtain ⟨_, _, _, q⟩ := hs; exact q.elim
    | cont => obtain ⟨_, _, _, q⟩ := hs; exact q.elim
  · exact wpAny_mono hs (fun _ _ z => (cxn z).elim) fun _ _ z => (cxn z).elim
/-! ### a def of one parameter that answers what its exception is -/
/-- [isinstance(e, C), ..]: the classes' names -/
def isiB (sc : Scope) (y : Str) : List Str → List Expr → Bool
  | [], [] => true
  | c :: cs, .Call (.Name f _) [.Name y2 _, .Name c2 _] [] _ :: es => decide (f = "isinstance") && decide (y2 = y) && decide (c2 = c) && glB sc "isinstance" && glB sc c && visB sc y && okName y && okName c && isiB sc y cs es
  | _, _ => false
/-- what is known of the classes: those asked for, by name, and the exception's own -/
def KitA (K : PySem.W.Frag) (mg : Str → Option Value) (D : Addr) (c : Str) (b : Bool) : Prop := (∃ A, mg c = some (.ref A) ∧ PySem.W.kitOne K (.ref D) (.ref A) = some b) ∨ (mg c = none ∧ c ≠ "__name__" ∧ ∃ T, bootBuiltins c = some (.type T) ∧ PySem.W.kitOne K (.ref D) (.type T) = some b)
def Kit (K : PySem.W.Frag) (mg : Str → Option Value) (D : Addr) (cs : List Str) (bs : List Bool) : Prop := Paired (KitA K mg D) cs bs
theorem pa_isi {a D : Addr} {oe : Obj} {sc : Scope} {y : Str} {i : Nat} (hp : (a, oe) ∈ X.pn) (C : ExcC X.K D) (hz : Zc (.ref D) none oe) (hf : ∃ vs, oe.data = .fields vs) (hN : X.N[i]? = some y) (hsc : X.env.scope = sc) (hb : X.mg "isinstance" = none) :
    ∀ {cs : List Str} {bs : List Bool} {es : List Expr}, Kit X.K X.mg D cs bs → isiB sc y cs es = true → PA X es (fun σ H Q => σ[i]? = some (some (.ref a)) ∧ Q (bs.map V.bl) H)
  | _, _, [], .nil, _ => PA.le pa_nil fun σ H Q h => h.2
  | _, _, _ :: _, .nil, h => by simp [isiB] at h
  | _, _, [], .cons _ _, h => by simp [isiB] at h
  | c :: cs, b :: bs, e :: es, .cons hk ht, h => by
    unfold isiB at h
    split at h
    · rename_i e1 e2; cases e1
    · rename_i c' cs' f p y2 p2 c2 p3 pos es' e1 e2
      cases e1
      cases e2
      simp only [Bool.and_eq_true, decide_eq_true_eq] at h
      obtain ⟨⟨⟨⟨⟨⟨⟨⟨rfl, rfl⟩, rfl⟩, h4⟩, h5⟩, h6⟩, h7⟩, h8⟩, h9⟩ := h
      have gl : ∀ {z : Str}, glB sc z = true → Gl X z := fun {z} h => by
        unfold Gl PySem.Env.kindOf
        rw [hsc]
        exact of_decide_eq_true h
      have q1 : PE X (.Name y2 p2) (tVar i) := pe_var hN (by rw [hsc]; exact visB_ok h6) (by
        unfold okName at h7
        simp only [Bool.and_eq_true, Bool.not_eq_true', decide_eq_true_eq] at h7
        exact h7.1.1) (by
        unfold okName at h7
        simp only [Bool.and_eq_true, Bool.not_eq_true', decide_eq_true_eq] at h7
        exact h7.1.2)
      have hdb : (c2 == ("__debug__" : Str)) = false := by
        unfold okName at h8
        simp only [Bool.and_eq_true, Bool.not_eq_true', decide_eq_true_eq] at h8
        exact h8.1.1
      obtain ⟨v, cv, q2, hcv, hk⟩ : ∃ v cv, PE X (.Name c2 p3) (tC v) ∧ (∀ u, RelV v u → u = cv) ∧ PySem.W.kitOne X.K (.ref D) cv = some b := by
        rcases hk with ⟨A, hm, hk⟩ | ⟨hm, hn, T, hv, hk⟩
        · exact ⟨.ref A, .ref A, pe_glob (gl h5) hm rfl hdb, fun u r => r, hk⟩
        · exact ⟨.ty T, .type T, pe_bltn (gl h5) hm hv rfl hn hdb, fun u r => r, hk⟩
      have q3 := pe_callB (p := p) (pos := pos) (call_isP hp C hz hf) (gl h4) hb (by decide +kernel) (pa_cons q1 (pa_cons q2 pa_nil)) (by decide) (by decide)
      refine PA.le (pa_cons q3 (pa_isi hp C hz hf hN hsc hb ht h9)) fun σ H Q hh => ?_
      obtain ⟨h1, h2⟩ := hh
      refine ⟨_, h1, ?_⟩
      exact ⟨_, _, b, rfl, hcv, hk, h1, h2⟩
    · cases h
/-- kinds(e) where e is pinned: the def's body is `return [isinstance(y, C), ..]` -/
def kndB (y : Str) (cs : List Str) (sc : Scope) : List Stmt → Bool
  | [.Return (some (.List es _)) _] => isiB sc y cs es
  | _ => false
theorem call_kinds {x qual y : Str} {params : Arguments} {body : List Stmt} {scope : Scope} {f : Addr} {fd : FuncData} {a D : Addr} {oe : Obj} {cs : List Str} {bs : List Bool}
    (hp : (a, oe) ∈ X.pn) (F : FunD X.K x qual params body scope [] [] f fd) (S : FnScope [y] [y] scope) (hb : Binds X.K fd [y] []) (hd : X.A.depth < recursionLimit) (C : ExcC X.K D) (hz : Zc (.ref D) none oe) (hf : ∃ vs, oe.data = .fields vs)
    (hi : X.mg "isinstance" = none) (hk : Kit X.K X.mg D cs bs) (hc : kndB y cs scope body = true) (hl : bs.length ≤ sizeLine) :
    CallR X (.ref f) (fun xs H Q => xs = [.ref a] ∧ ∀ p, H p = none → Q (.ref p) (upd H p (.lst (bs.map V.bl)))) := by
  intro pins s σ H xs us Q I r h
  obtain ⟨rfl, q⟩ := h
  refine call_pinned hp F S hb hd I r rfl fun cdv => ?_
  unfold kndB at hc
  split at hc
  · rename_i es p1 p2
    refine ⟨_, pss_one (ps_ret (pe_lst (pa_isi (X := L2H.cxH (L2.CX X.prog X.w) X.prog X.w X.K X.mg X.base [y] qual scope f cdv X.A X.stack s H (fun _ _ _ => False) (a, oe)) (i := 0) List.mem_cons_self C hz hf rfl rfl hi hk hc))), ?_⟩
    exact ⟨rfl, by rw [List.length_map]; exact hl, q⟩
  · cases hc
end
end VS

/-! try: ..; except X as e: x = kinds(e) -/
namespace VS
open PySem PySem.Spec PyProof.Rows L2
section
variable {X : Cx} {f : Addr} {r : List V → Hp → VK → Prop} {x : Str} {p pos : Pos} {e : Expr} {es : List Expr} {t : TA}
/-- f(e, ..), f by a rule of its own -/
theorem pe_callOwn (hc : CallR X (.ref f) r) (hg : Gl X x) (hm : X.mg x = some (.ref f)) (hk : PySem.W.keepIn X.K (.ref f) = true)
    (ha : PA X (e :: es) t) (hdb : (x == ("__debug__" : Str)) = false) (he : starEach (e :: es) X.env = (false, eval e X.env) :: starEach es X.env) (hpl : (backTo pos (starEach es X.env)).any (·.1) = false) :
    PE X (.Call (.Name x p) (e :: es) [] pos) (tCB r t) :=
  ⟨fun pins s σ H Q I h => wpAny_Call_Name_kw (ld_glob I hg hm (PySem.W.callWith_K (h₀ := X.base) I.ok.mod.kin hk (thn (ha.run pos pins s σ H _ I h) fun us s1 ⟨vs, H1, I1, r, q⟩ => ⟨I1.kIn, hc pins s1 σ H1 vs us Q I1 r q⟩) he hpl) hdb)⟩
end
section
variable {K : PySem.W.Frag} {Cl ClX : Nat → Addr} {X : Cx} {W : WX}
/-- the suite `x = kinds(e)` -/
def tKnd (K : PySem.W.Frag) (mg : Str → Option Value) (cs : List Str) (j i : Nat) (a : Addr) (cls : Value) (d : Option Addr) : TS := fun D σ H => ∃ (C : Addr) (bs : List Bool), cls = .ref C ∧ d = none ∧ ExcC K C ∧ Kit K mg C cs bs ∧ bs.length ≤ sizeLine ∧ σ[j]? = some (some (.ref a)) ∧
  ∀ p, H p = none → D.nx (σ.set i (some (.ref p))) (upd H p (.lst (bs.map V.bl)))
theorem pss_knd {x y n qual par : Str} {params : Arguments} {body : List Stmt} {scope : Scope} {f : Addr} {fd : FuncData} {cs : List Str} {j i : Nat} {p1 p2 p3 p4 pos : Pos} {a : Addr} {oe : Obj} {cls : Value} {d : Option Addr} {pn : List (Addr × Obj)}
    (F : FunD X.K x qual params body scope [] [] f fd) (S : FnScope [par] [par] scope) (hb : Binds X.K fd [par] []) (hm : X.mg x = some (.ref f)) (hk : PySem.W.keepIn X.K (.ref f) = true) (hc : kndB par cs scope body = true) (hi : X.mg "isinstance" = none) (hd : X.A.depth < recursionLimit)
    (hN : X.N.Nodup) (hj : X.N[j]? = some n) (hv : Vis X.env.scope n) (hdn : (n == ("__debug__" : Str)) = false) (hcn : (n == ("__classdict__" : Str)) = false) (hy : X.N[i]? = some y) (hly : Loc X.env.scope y) (hfn : X.fn y = true) (hg : Gl X x) (hdx : (x == ("__debug__" : Str)) = false)
    (hz : Zc cls d oe) (hf : ∃ vs, oe.data = .fields vs) :
    PSs (X.suite a ((a, oe) :: pn)) [.Assign [.Name y p1] (.Call (.Name x p2) [.Name n p3] [] p4) pos] (tKnd X.K X.mg cs j i a cls d) := by
  refine ⟨fun pins s σ H D I ⟨C, bs, e1, e2, c, k, l, e3, q⟩ => ?_⟩
  subst e1 e2
  have hcall : CallR (X.suite a ((a, oe) :: pn)) (.ref f) _ := call_kinds (X := X.suite a ((a, oe) :: pn)) List.mem_cons_self F S hb hd c hz hf hi k hc l
  have q1 : PE (X.suite a ((a, oe) :: pn)) (.Name n p3) (tVar j) := pe_var hj hv hdn hcn
  have q2 := pe_callOwn (X := X.suite a ((a, oe) :: pn)) (p := p2) (pos := p4) hcall hg hm hk (pa_cons q1 pa_nil) hdx rfl rfl
  have q3 := ps_set (X := X.suite a ((a, oe) :: pn)) (pos := pos) (pos' := p1) hN hy hly q2 (by rfl) (.inl hfn)
  exact (pss_one q3).run pins s σ H D I ⟨_, e3, rfl, fun p hp => q p hp⟩
end
end VS

/-! l.index(x), l.count(x) of plain things -/
namespace VS
open PySem PySem.Spec PyProof.Rows L2
section
variable {X : Cx} {K : PySem.W.Frag} {Cl ClX : Nat → Addr} {W : WX}
def rCountF (K : PySem.W.Frag) : V → List V → Hp → VK → Prop := fun x xs H Q => ∃ (a : Addr) (ys : List V) (y : V), x = V.ref a ∧ xs = [y] ∧ SqL K H a ys ∧ flatV y = true ∧ ys.all flatV = true ∧ Q (.int ((ys.countP fun z => eqV z y : Nat) : Int)) H
theorem countP_eqU {y : V} : ∀ {us : List Value} {ys : List V}, Vals ys us → ys.all flatV = true → us.countP (eqU y) = ys.countP fun z => eqV z y
  | _, _, .nil, _ => rfl
  | _, _, .cons r t, f => by
    rw [List.all_cons, Bool.and_eq_true] at f
    rw [List.countP_cons, List.countP_cons, countP_eqU t f.2, eqU_of r f.1]
theorem mt_lcountF : MtR X "list.count" (rCountF X.K) := by
  intro pins s σ H x xs v us Q I rx rxs h
  obtain ⟨a, ys, y, rfl, rfl, hs, fy, fys, q⟩ := h
  cases rx
  cases rxs with
  | cons ry rt =>
    rename_i uy ut
    cases rt
    obtain ⟨its, rv, ⟨⟨cls, dd, data, sl⟩, n, ho, hc, hdn, hd⟩, hlen⟩ := I.list hs
    simp only at hc hd
    subst hc hd
    refine call_meets PySem.F.slot_list_count ⟨_, ho, rfl⟩ PySem.F.entry_list_count (PySem.F.args_list_count_2 _ _)
      (SeqAt.list_countAt a its.toArray n dd sl uy (eqU y)) ⟨ho, fun u' hu' => mem_eqAt ry fy rv fys u' (by simpa using hu'), ?_⟩
    have ec : its.toArray.toList.countP (eqU y) = ys.countP fun z => eqV z y := countP_eqU rv fys
    refine ⟨.int ((ys.countP fun z => eqV z y : Nat) : Int), H, I.tok _, ⟨s.toks, ?_⟩, q⟩
    show Value.int ((its.toArray.toList.countP (eqU y) : Nat) : Int) s.toks = Value.int ((ys.countP fun z => eqV z y : Nat) : Int) s.toks
    rw [ec]
theorem flat_pts {P : Ps} {H : Hp} : ∀ {ys : List Val} {Ws : List V} {g : Ps} {x : Val} {V : V} {f : Ps} {d : PyData} {ds : List PyData}, R K Cl P H x V f → Rs K Cl P H ys Ws g → flatVal x = true → ys.all flatVal = true → toD x = some d → toDs ys = some ds →
    flatV V = true ∧ Ws.all flatV = true ∧ Ws.map (fun w => eqV w V) = ds.map fun z => PyData.eqv z d
  | [], _, _, _, _, _, _, _, h1, h2, fx, _, e1, e => by
    simp only [Rs] at h2
    simp only [toDs, Option.some.injEq] at e
    subst e
    rw [h2.1]
    exact ⟨(eqV_eqv h1 h1 fx fx e1 e1).2.1, rfl, rfl⟩
  | y :: ys, _, _, _, _, _, _, _, h1, h2, fx, fy, e1, e => by
    simp only [Rs] at h2
    obtain ⟨W, Ws', f1, f2, rfl, r1, r2, hd, rfl⟩ := h2
    simp only [toDs, Option.bind_eq_some_iff, Option.map_eq_some_iff] at e
    obtain ⟨d', e2, ds', e3, rfl⟩ := e
    simp only [List.all_cons, Bool.and_eq_true] at fy
    obtain ⟨q1, q2, q3⟩ := eqV_eqv r1 h1 fy.1 fx e2 e1
    obtain ⟨p0, p1, p2⟩ := flat_pts h1 r2 fx fy.2 e1 e3
    exact ⟨p0, by simp [q2, p1], by rw [List.map_cons, List.map_cons, q1, p2]⟩
theorem pr_lcount : PrimOk K Cl (op2 fun x y H Q => rCountF K x [y] H Q) (gQ1 .lcount) := by
  intro P H vs Vs Q v hw lv hg n
  unfold gQ1 at hg
  split at hg
  · rename_i x k
    simp only [Option.bind_eq_some_iff] at hg
    obtain ⟨ys, hys, hg⟩ := hg
    obtain ⟨X, Y, f1, f2, rfl, h1, h2⟩ := hw.two
    split at hg
    · rename_i hc
      simp only [Bool.and_eq_true] at hc
      split at hg
      · rename_i d ds hd hds
        cases hg
        obtain ⟨a, Ws, g, rfl, hh, r, _⟩ := h1.lseq hys
        obtain ⟨p0, p1, p2⟩ := flat_pts h2 r hc.1 hc.2 hd hds
        refine ⟨_, _, rfl, a, Ws, _, rfl, rfl, hh, p0, p1, ?_⟩
        have e : (Ws.countP fun z => eqV z Y) = ds.countP fun z => PyData.eqv z d := by
          have := congrArg (List.countP id) p2
          rwa [List.countP_map, List.countP_map] at this
        rw [e]
        exact n.sc lv (v := .int _) ⟨rfl, rfl⟩
      · cases hg
    · cases hg
  · cases hg
theorem pr_lindex : PrimOk K Cl (op2 fun x y H Q => rIndex K x [y] H Q) (gQ1 .lindex) := by
  intro P H vs Vs Q v hw lv hg n
  unfold gQ1 at hg
  split at hg
  · rename_i x k
    simp only [Option.bind_eq_some_iff] at hg
    obtain ⟨ys, hys, hg⟩ := hg
    obtain ⟨X, Y, f1, f2, rfl, h1, h2⟩ := hw.two
    split at hg
    · rename_i hc
      simp only [Bool.and_eq_true] at hc
      split at hg
      · rename_i d ds hd hds
        simp only [Option.map_eq_some_iff] at hg
        obtain ⟨j, hj, rfl⟩ := hg
        obtain ⟨a, Ws, g, rfl, hh, r, _⟩ := h1.lseq hys
        obtain ⟨p0, p1, p2⟩ := flat_pts h2 r hc.1 hc.2 hd hds
        obtain ⟨hl, ht, hn⟩ := List.findIdx?_eq_some_iff_getElem.mp hj
        have at_ : ∀ (m : Nat) (z' : V), Ws[m]? = some z' → ∃ z, ds[m]? = some z ∧ eqV z' Y = PyData.eqv z d := fun m z' hz => by
          have := congrArg (fun l : List Bool => l[m]?) p2
          simp only [List.getElem?_map, hz, Option.map_some] at this
          cases hd2 : ds[m]? with
          | none => rw [hd2] at this; cases this
          | some z => rw [hd2] at this; exact ⟨z, rfl, Option.some.inj this⟩
        have len : Ws.length = ds.length := by have := congrArg List.length p2; rwa [List.length_map, List.length_map] at this
        have hz : Ws[j]? = some Ws[j] := List.getElem?_eq_getElem (by omega)
        refine ⟨_, _, rfl, a, Ws, Y, j, Ws[j], rfl, rfl, hh, p0, p1, hz, ?_, fun m z' hm hz' => ?_, ?_⟩
        · obtain ⟨z, e1, e2⟩ := at_ j _ hz
          rw [List.getElem?_eq_getElem hl] at e1
          cases e1
          rw [e2]; exact ht
        · obtain ⟨z, e1, e2⟩ := at_ m _ hz'
          have hm2 : m < ds.length := by omega
          rw [List.getElem?_eq_getElem hm2] at e1
          cases e1
          rw [e2]
          simpa using hn m hm
        · exact n.sc lv (v := .int _) ⟨rfl, rfl⟩
      · cases hg
    · cases hg
  · cases hg
theorem ty_lq {v : Val} {P : Ps} {H : Hp} {U : V} {f : Ps} (h : R K Cl P H v U f) (m : isLq v = true) : tyV K "list" U H := by
  unfold isLq at m
  split at m
  · obtain ⟨a, Vs, g, rfl, q, _⟩ := h.lseq rfl
    exact .inl ⟨rfl, Vs, q⟩
  · obtain ⟨a, Vs, g, rfl, q, _⟩ := h.lseq rfl
    exact .inl ⟨rfl, Vs, q⟩
  · cases m
theorem tv_q1 {m : Q1} {id : String} {name : Str} {r : V → List V → Hp → VK → Prop} (slot : Slot "list" name id) (hty : typeOf (.builtin id) = pure (.type "method_descriptor")) (hm : MtR X id r) (hp : PrimOk X.K Cl (op2 fun x y H Q => r x [y] H Q) (gQ1 m)) {e1 e2 : Bool} {s1 s2 : Env → Res (Val × Src)} {o a : Expr} {apos cpos : Pos} (q2 : Quiet e2 s2)
    (ho : PE X o (tV X.K Cl ClX W e1 s1)) (ha : PE X a (tV X.K Cl ClX W e2 s2)) (hbase : attributeBase o name X.env (eval o X.env) = eval o X.env) (hline : (apos.endLine == cpos.line) = true) (hst : starEach [a] X.env = (false, eval a X.env) :: starEach [] X.env) :
    PE X (.Call (.Attribute o name apos) [a] [] cpos) (tV X.K Cl ClX W (e1 || (e2 || false)) (prim (gQ1 m) (argsCons (!(e2 || false)) (sMid isLq s1) (argsCons (!false) s2 argsNil)))) :=
  PE.le (pe_bm PySem.F.plainAttrs_list slot hty hm ho (pa_cons ha pa_nil (hs := hst)) hbase (by rw [hst]; rfl) hline hst rfl) fun σ H Q h =>
    tv_mono (mid_ok (two_args q2 (prim_ok hp h))) fun x H1 ⟨⟨v, P1, f1, hm, rv⟩, h1⟩ => ⟨ty_lq rv hm, tv_mono h1 fun y H2 ⟨x', y', e, q⟩ => by cases e; exact q⟩
end
end VS

/-! xs[k] += c -/
namespace VS
open PySem PySem.Spec PyProof.Rows L2
section
variable {X : Cx} {K : PySem.W.Frag} {Cl ClX : Nat → Addr} {W : WX} {pr : List Nat}
def rGetL : V → V → Hp → VK → Prop := fun o i H Q => ∃ p xs k v, o = .ref p ∧ i = .int k ∧ 0 ≤ k ∧ k < 2 ^ 63 ∧ H p = some (.lst xs) ∧ xs[k.toNat]? = some v ∧ Q v H
theorem get_list : PGet X rGetL := by
  intro pins s σ H o i ov iv Q I ro ri h
  obtain ⟨p, xs, k, v, rfl, rfl, h0, h63, hp, hv, q⟩ := h
  cases ro
  obtain ⟨t, rfl⟩ := ri
  obtain ⟨its, r, pl, hz⟩ := I.list (SqL.of hp)
  obtain ⟨w, ew, rw'⟩ := r.get hv
  exact wpAny_getItem_list pl.isList h0 h63 (x := w) (by simpa using ew) ⟨v, H, I, rw', q⟩
def rIncL : V → V → V → Hp → (Hp → Prop) → Prop := fun o i u H Q => ∃ p xs k j n c, o = .ref p ∧ i = .int k ∧ u = .int c ∧ 0 ≤ k ∧ k < 2 ^ 63 ∧ H p = some (.lst xs) ∧ ixN xs.length k = some j ∧ j = k.toNat ∧ xs[j]? = some (V.int n) ∧ Q (upd H p (.lst (xs.set j (.int (n + c)))))
theorem ixN_nat {n j : Nat} {k : Int} (h : ixN n k = some j) (h0 : 0 ≤ k) : j = k.toNat ∧ j < n := by
  unfold ixN at h
  split at h
  · split at h
    · cases h; omega
    · cases h
  · omega
theorem po_linc : PutOk K Cl lincOf fun x k v H Q => rIncL x k v H Q := by
  intro P H x k v x' U Uk Uv fx fk fv Q hg rx rk rv d kq
  unfold lincOf at hg
  split at hg
  · rename_i vs i c
    obtain ⟨j, hj, hg⟩ := Option.bind_eq_some_iff.mp hg
    by_cases h0 : decide (0 ≤ i ∧ i < 1000) = true
    case neg => rw [if_neg h0] at hg; cases hg
    rw [if_pos h0] at hg
    obtain ⟨h0, h1000⟩ := of_decide_eq_true h0
    cases hv : vs[j]? with
    | none => rw [hv] at hg; cases hg
    | some w =>
      rw [hv] at hg
      cases w with
      | int n =>
        cases hg
        obtain ⟨a, Ws, gg, rfl, ha, rs, rfl, na, np⟩ := rx.lst_open
        simp only [R] at rk rv
        obtain ⟨hjk, hjl⟩ := ixN_nat hj h0
        have hlen := rs.length
        obtain ⟨W1, f1, g1, e1, r1, _⟩ := rs.pick hv
        simp only [R] at r1
        obtain ⟨g', rs', sg⟩ := rs.setW hv (show R K Cl P H (.int (n + c)) (.int (n + c)) emp from ⟨rfl, rfl⟩) fun b y z => y.elim
        have hi63 : i < 2 ^ 63 := by omega
        refine ⟨a, Ws, i, j, n, c, rfl, rk.1, rv.1, h0, hi63, ha, by rw [← rs.length]; exact hj, hjk, by rw [e1, r1.1], ?_⟩
        have sg2 : ∀ b, g' b → gg b := fun b z => (sg b z).elim id fun y => y.elim
        have na' : ¬ g' a := fun z => na (sg2 a z)
        exact kq a _ (one a) gg g' rfl rfl rfl (fun b z y => na (by rw [← show b = a from z]; exact y)) (fun b z y => np (by rw [← show b = a from z]; exact y)) (lst_close (o := .lst (Ws.set j (.int (n + c)))) rs' na' np) fun b z => .inl (sg2 b z)
      | _ => cases hg
  · cases hg
theorem augS_of {i : Expr} (h : notSlice i = true) : ∀ ov iv new, augStore i ov iv new = (do holding [new, ov, iv] (setItem ov iv new); release [new, ov, iv] []; pure .next) := by
  intro ov iv new
  cases i <;> first | rfl | cases h
theorem ts_linc {c : Int} {kk : Nat} {e1 e2 : Bool} {s1 s2 : Env → Res (Val × Src)} {o i : Expr} {pos tpos p2 : Pos} (q2 : Quiet e2 s2) (ho : PE X o (tV X.K Cl ClX W e1 s1)) (hi : PE X i (tV X.K Cl ClX W e2 s2)) (hs : notSlice i = true) :
    PS X (.AugAssign (.Subscript o i tpos) .Add (.Constant (.int c) kk p2) pos) (tS X.K Cl ClX W pr fun ρ => (argsCons (!(e2 || false)) s1 (argsCons (!false) s2 argsNil) ρ).flow (sPutC lincOf (.int c))) :=
  PS.le (ps_augS ho hi get_list (pe_int (i := c)) ip_add set_list (augS_of hs)) fun D σ H ⟨P, ρ, f, l, lv, q⟩ => by
    have key := put1_core (e := e1 || (e2 || false)) po_linc l lv (u := .int c) (Uu := .int c) ⟨rfl, rfl⟩ q (s := argsCons (!(e2 || false)) s1 (argsCons (!false) s2 argsNil))
    exact tv_mono (two_args q2 key) fun x H1 h1 => tv_mono h1 fun k H2 ⟨x', k', e, p, xs, kk, j, n, c', e1, e2, e3, h0, h63, hp, hj, hjk, hn, z⟩ => by
      cases e
      cases e1
      cases e2
      cases e3
      subst hjk
      exact ⟨p, xs, kk, .int n, rfl, rfl, h0, h63, hp, hn, n, c, rfl, rfl, p, xs, kk, _, rfl, rfl, hp, hj, z⟩
end
end VS

namespace VS
open PySem L2
/-- builtins that the texts call by name -/
def bltNames : List Str := ["len", "list", "tuple", "sorted", "sum", "all", "any", "min", "max", "int", "isinstance", "range", "reversed", "bool", "str", "dict", "repr", "set", "enumerate"]
/-- what is known of the exception classes -/
structure XF (K : PySem.W.Frag) (mg : Str → Option Value) (ClX : Nat → Addr) (xc : Nat → Option Str) (kn : Option KnT) : Prop where
  xcd : ∀ c x, xc c = some x → mg x = some (.ref (ClX c)) ∧ PySem.W.excIn K (ClX c) He.veBase "ValueError.__new__" = true ∧ PySem.W.keepIn K (.ref (ClX c)) = true ∧ PySem.W.subIn K (.ref (ClX c)) (.type "BaseException") = some true ∧ PySem.W.typeIn K (.ref (ClX c)) = some (.type "type")
  knd : ∀ q, kn = some q → ∃ fa fd params body scope B, FunD K q.name q.qual params body scope [] [] fa fd ∧ FnScope [q.par] [q.par] scope ∧ Binds K fd [q.par] [] ∧ mg q.name = some (.ref fa) ∧ PySem.W.keepIn K (.ref fa) = true ∧ kndB q.par q.cs scope body = true ∧
    mg q.base = some (.ref B) ∧ ∀ c bs, q.tb[c]? = some bs → ExcC K (ClX c) ∧ PySem.W.exmOne K (.ref (ClX c)) (.ref B) = some true ∧ Kit K mg (ClX c) q.cs bs ∧ bs.length ≤ sizeLine
/-- where a text's piece runs, and what its names mean there -/
structure Sit (X : Cx) (Cl ClX : Nat → Addr) (W : WX) (sc : Scope) (V : Voc) (D : Defs) (G : Str → Option Val) (k : Nat) : Prop where
  N : X.N = V.N
  nd : X.N.Nodup
  sc : X.env.scope = sc
  calm : X.calm = true
  tk : Takes X W
  room : Room (2 * k + 1) X.A
  gu : X.A.guards = some []
  bl : ∀ x ∈ bltNames, X.mg x = none
  dfn : ∀ f x n, V.fn f = some (x, n) → ∃ fa fd ps, FnG X.prog X.w X.K X.mg X.base (L2.CX X.prog X.w) k fa fd ps (spOf X.K Cl ClX (D.modes f) (D.run f)) ∧ X.mg x = some (.ref fa) ∧ PySem.W.keepIn X.K (.ref fa) = true ∧ Binds X.K fd ps [] ∧ (D.modes f).length = n
  glo : ∀ y v, G y = some v → ∃ u U, X.mg y = some u ∧ RelV U u ∧ ∀ P H, R X.K Cl P H v U emp
  cfld : ∀ c f, V.fld c f = true → Cls X.K (Cl c) ∧ NoAttr X.K (Cl c) f
  mtd : ∀ f c m n, V.mt f = some (c, m, n) → ∃ fa fd ps, FnG X.prog X.w X.K X.mg X.base (L2.CX X.prog X.w) k fa fd ps (spOf X.K Cl ClX (D.modes f) (D.run f)) ∧ Cls X.K (Cl c) ∧ Meth X.K (Cl c) m fa ∧ Binds X.K fd ps [] ∧ (D.modes f).length = n
  mkd : ∀ c x f n, V.mkn c = some (x, f, n) → ∃ fa fd ps, FnG X.prog X.w X.K X.mg X.base (L2.CX X.prog X.w) k fa fd ps (spOf X.K Cl ClX (D.modes f) (D.run f)) ∧ Mk X.K (Cl c) fa ∧ X.mg x = some (.ref (Cl c)) ∧ Binds X.K fd ps [] ∧ (D.modes f).length = n
  xf : XF X.K X.mg ClX V.xc V.kn
section
variable {X : Cx} {Cl ClX : Nat → Addr} {W : WX} {sc : Scope} {V : Voc} {D : Defs} {G : Str → Option Val} {k : Nat}
theorem Sit.ix (S : Sit X Cl ClX W sc V D G k) {i : Nat} {x : Str} (h : V.N[i]? = some x) : X.N[i]? = some x := by rw [S.N]; exact h
theorem Sit.vis (S : Sit X Cl ClX W sc V D G k) {x : Str} (h : visB sc x = true) : Vis X.env.scope x := by rw [S.sc]; exact visB_ok h
theorem Sit.loc (S : Sit X Cl ClX W sc V D G k) {x : Str} (h : locB sc x = true) : L2.Loc X.env.scope x := by rw [S.sc]; exact locB_ok h
theorem Sit.gl (S : Sit X Cl ClX W sc V D G k) {x : Str} (h : glB sc x = true) : Gl X x := by
  unfold Gl PySem.Env.kindOf
  rw [S.sc]
  exact of_decide_eq_true h
theorem Sit.tr {W' : WX} (S : Sit X Cl ClX W sc V D G k) (pn : List (Addr × Obj)) (xe : Value → Shared → Prop) (tk : Takes (X.tr pn xe) W') : Sit (X.tr pn xe) Cl ClX W' sc V D G k := ⟨S.N, S.nd, S.sc, S.calm, tk, S.room, S.gu, S.bl, S.dfn, S.glo, S.cfld, S.mtd, S.mkd, S.xf⟩
theorem Sit.own (S : Sit X Cl ClX W sc V D G k) (o : Str → Bool) : Sit X Cl ClX W sc { V with own := o } D G k := ⟨S.N, S.nd, S.sc, S.calm, S.tk, S.room, S.gu, S.bl, S.dfn, S.glo, S.cfld, S.mtd, S.mkd, S.xf⟩
theorem Sit.fnl (S : Sit X Cl ClX W sc V D G k) (hf : ∀ x, V.own x = true → X.fn x = true) {x : Str} (h : (V.own x || decide (sc.names.lookup x = some .local)) = true) : X.fn x = true ∨ X.env.scope.names.lookup x = some .local := by
  rw [S.sc]
  simp only [Bool.or_eq_true, decide_eq_true_eq] at h
  exact h.imp (hf x) id
theorem Sit.blk (S : Sit X Cl ClX W sc V D G k) (s : Shared) (H : Hp) (scope : Scope) (C : Addr) (cl : List (Str × Addr)) (fp : List Addr) :
    Sit (X.blk s H scope (compEnvC scope cl C X.env) fp) Cl ClX W0 (relS scope sc) V D G k :=
  ⟨S.N, S.nd, by rw [← S.sc]; rfl, S.calm, takes0, S.room, S.gu, S.bl, S.dfn, S.glo, S.cfld, S.mtd, S.mkd, S.xf⟩
/-! ### builtins -/
theorem ok3 {x : Str} (h : okName x = true) : (x == ("__debug__" : Str)) = false ∧ (x == ("__classdict__" : Str)) = false ∧ x ≠ "__name__" := by
  unfold okName at h
  simp only [Bool.and_eq_true, Bool.not_eq_true', decide_eq_true_eq] at h
  exact ⟨h.1.1, h.1.2, h.2⟩
theorem biName_mem (f : Bi) : biName f ∈ bltNames := by cases f <;> decide
theorem bi_ok (S : Sit X Cl ClX W sc V D G k) (f : Bi) {e1 : Bool} {s : Env → Res (List (Val × Src))} {a : Expr} {es : List Expr} {p pos : Pos} (hg : glB sc (biName f) = true)
    (ha : PA X (a :: es) (tVs X.K Cl ClX W e1 s)) (he : (a :: es).all notStar = true) : PE X (.Call (.Name (biName f) p) (a :: es) [] pos) (tV X.K Cl ClX W e1 (prim (gBi f) s)) := by
  have hm := S.bl _ (biName_mem f)
  have hg := S.gl hg
  have h1 : starEach (a :: es) X.env = (false, eval a X.env) :: starEach es X.env := star_of (by simp only [List.all_cons, Bool.and_eq_true] at he; exact he.1) _ _
  have h2 : (backTo pos (starEach es X.env)).any (·.1) = false := star_all (by simp only [List.all_cons, Bool.and_eq_true] at he; exact he.2)
  cases f with
  | len => exact tv_callB call_len hg hm (by decide +kernel) (by decide) (by decide) h1 h2 ha pr_len
  | list => exact tv_callTy call_list_of hg hm (by decide +kernel) (by decide) (by decide) h1 h2 ha pr_list
  | tuple => exact tv_callTy call_tuple_of hg hm (by decide +kernel) (by decide) (by decide) h1 h2 ha pr_tuple
  | sorted => exact tv_callB cr_sortedI hg hm (by decide +kernel) (by decide) (by decide) h1 h2 ha pr_sorted
  | sum => exact tv_callB (cr_sumA S.calm) hg hm (by decide +kernel) (by decide) (by decide) h1 h2 ha pr_sum
  | all => exact tv_callB (cr_all S.calm) hg hm (by decide +kernel) (by decide) (by decide) h1 h2 ha pr_all
  | any => exact tv_callB (cr_any S.calm) hg hm (by decide +kernel) (by decide) (by decide) h1 h2 ha pr_any
  | min2 => exact tv_callB (call_min2 S.calm) hg hm (by decide +kernel) (by decide) (by decide) h1 h2 ha pr_min2
  | max2 => exact tv_callB (call_max2 S.calm) hg hm (by decide +kernel) (by decide) (by decide) h1 h2 ha pr_max2
  | max1 => exact tv_callB (cr_max S.calm) hg hm (by decide +kernel) (by decide) (by decide) h1 h2 ha pr_max1
  | min1 => exact tv_callB (cr_min S.calm) hg hm (by decide +kernel) (by decide) (by decide) h1 h2 ha pr_min1
  | repr => exact tv_callB (cr_repr S.gu (by have := S.room.un; omega)) hg hm (by decide +kernel) (by decide) (by decide) h1 h2 ha pr_repr
  | lenD => exact tv_callB call_lenD hg hm (by decide +kernel) (by decide) (by decide) h1 h2 ha pr_lenD
  | sortedD => exact tv_callB (cr_sortedDL S.calm) hg hm (by decide +kernel) (by decide) (by decide) h1 h2 ha pr_sortedD
  | dictD => exact tv_callTy call_dictD hg hm (by decide +kernel) (by decide) (by decide) h1 h2 ha pr_dictD
  | dictP => exact tv_callTy (call_dictPT S.calm) hg hm (by decide +kernel) (by decide) (by decide) h1 h2 ha pr_dictP
  | tupleP => exact tv_callTy call_tupleP hg hm (by decide +kernel) (by decide) (by decide) h1 h2 ha pr_tupleP
  | int => exact tv_callTy call_int1 hg hm (by decide +kernel) (by decide) (by decide) h1 h2 ha pr_int
theorem ty_ok (S : Sit X Cl ClX W sc V D G k) {T : String} (hT : T ∈ ["bool", "int", "str", "tuple", "list"]) {p : Pos} (hg : glB sc (Str.ofString T) = true) : PE X (.Name (Str.ofString T) p) (tC (.ty T)) := by
  have hg := S.gl hg
  simp only [List.mem_cons, List.mem_nil_iff, or_false] at hT
  rcases hT with rfl | rfl | rfl | rfl | rfl
  · exact pe_bltn hg (S.bl _ (by decide)) (by decide +kernel) rfl (by decide) (by decide)
  · exact pe_bltn hg (S.bl _ (by decide)) (by decide +kernel) rfl (by decide) (by decide)
  · exact pe_bltn hg (S.bl _ (by decide)) (by decide +kernel) rfl (by decide) (by decide)
  · exact pe_bltn hg (S.bl _ (by decide)) (by decide +kernel) rfl (by decide) (by decide)
  · exact pe_bltn hg (S.bl _ (by decide)) (by decide +kernel) rfl (by decide) (by decide)
/-! ### tests -/
theorem plainT_ok {pe : Expr} (h : plainT pe = true) (env : PySem.Env) (whole : Sem Value)  : PySem.isTrue pe env whole = (do let v ← whole; standAt pe.pos; holding [v] (truthy v)) := by
  unfold PySem.isTrue
  split <;> first | cases h | rfl
/-- what is shown of an expression: its value; as a test, but for a conditional; and a chain of and/or as a test whatever stands for its value -/
structure Good (X : Cx) (Cl ClX : Nat → Addr) (W : WX) (e : Bool) (s : Env → Res (Val × Src)) (pe : Expr) : Prop where
  v : PE X pe (tV X.K Cl ClX W e s)
  t : notIfx pe = true → PT X pe (tVT X.K Cl ClX W e s)
  w : ∀ op vs p, pe = .BoolOp op vs p → PW X pe (tVT X.K Cl ClX W e s)
theorem Good.of {e : Bool} {s : Env → Res (Val × Src)} {pe : Expr} (h : PE X pe (tV X.K Cl ClX W e s)) (ht : plainT pe = true) : Good X Cl ClX W e s pe :=
  ⟨h, fun _ => tvt_val h (plainT_ok ht X.env), fun op vs p z => by subst z; cases ht⟩
end
end VS

namespace VS
open PySem L2
section
variable {Cl ClX : Nat → Addr} {D : Defs} {G : Str → Option Val} {k : Nat}
theorem chkEs_star {V : Voc} : ∀ {es : Exs} {sc : Scope} {as : List Expr}, chkEs V es sc as = true → as.all notStar = true
  | .nil, sc, as, h => by
    simp only [chkEs] at h
    split at h
    · rfl
    · cases h
  | .cons e es, sc, as, h => by
    simp only [chkEs] at h
    split at h
    · simp only [Bool.and_eq_true] at h
      simp only [List.all_cons, Bool.and_eq_true]
      exact ⟨h.1.1, chkEs_star h.2⟩
    · cases h
theorem argsCons_len {q : Bool} {s : Env → Res (Val × Src)} {r : Env → Res (List (Val × Src))} {n : Nat} (hr : ∀ ρ as ρ1, r ρ = .ok as ρ1 → as.length = n) : ∀ ρ as ρ1, argsCons q s r ρ = .ok as ρ1 → as.length = n + 1 := by
  intro ρ as ρ1 h
  unfold argsCons at h
  cases hs : s ρ with
  | bad => rw [hs] at h; cases h
  | exc x ρ2 => rw [hs] at h; cases h
  | ok a ρ2 =>
    rw [hs] at h
    simp only [Res.bind_ok] at h
    split at h
    · cases hr2 : r ρ2 with
      | bad => rw [hr2] at h; cases h
      | exc x ρ3 => rw [hr2] at h; cases h
      | ok as2 ρ3 =>
        rw [hr2] at h
        simp only [Res.bind_ok] at h
        have := hr _ _ _ hr2
        split at h
        · cases h; simp only [List.length_cons, this]
        · cases h
    · cases h
theorem evs_len : ∀ {es : Exs} {ρ : Env} {as : List (Val × Src)} {ρ1 : Env}, evs D G es ρ = .ok as ρ1 → as.length = es.len
  | .nil, ρ, as, ρ1, h => by
    simp only [evs, argsNil] at h
    cases h
    rfl
  | .cons e es, ρ, as, ρ1, h => by
    simp only [evs] at h
    exact argsCons_len (fun ρ as ρ1 h => evs_len h) ρ as ρ1 h
theorem tg_go {X : Cx} {W : WX} {sc : Scope} {V : Voc} (S : Sit X Cl ClX W sc V D G k) (hf : ∀ x, V.own x = true → X.fn x = true) : ∀ {is : List Nat} {es : List Expr}, tgB.go V sc is es = true → PGs X es (gNames is) ∧ (assignEach es X.env).length = is.length ∧ (assignEach es X.env).findIdx? (·.1) = none
  | [], [], _ => ⟨pgs_nil, rfl, rfl⟩
  | [], _ :: _, h => by simp [tgB.go] at h
  | i :: is, [], h => by simp [tgB.go] at h
  | i :: is, e :: es, h => by
    cases e with
    | Name x p =>
      simp only [tgB.go, Bool.and_eq_true, decide_eq_true_eq] at h
      obtain ⟨⟨⟨h1, h2⟩, h3⟩, h4⟩ := h
      obtain ⟨g1, g2, g3⟩ := tg_go S hf h4
      refine ⟨pgs_cons (pg_name S.nd (S.ix h1) (S.loc h2) (S.fnl hf h3)) g1, ?_, ?_⟩
      · simp only [assignEach, List.length_cons, g2]
      · simp only [assignEach, List.findIdx?_cons, Bool.false_eq_true, if_false, g3, Option.map_none]
    | _ => simp [tgB.go] at h
theorem tg_ok {X : Cx} {W : WX} {sc : Scope} {V : Voc} (S : Sit X Cl ClX W sc V D G k) (hf : ∀ x, V.own x = true → X.fn x = true) {tg : Tg} {pe : Expr} (h : tgB V sc tg pe = true) : ∃ g, PG X pe g ∧ GOk X.K Cl g tg := by
  cases tg with
  | name i =>
    cases pe with
    | Name x p =>
      simp only [tgB, Bool.and_eq_true, decide_eq_true_eq] at h
      exact ⟨gName i, pg_name S.nd (S.ix h.1.1) (S.loc h.1.2) (S.fnl hf h.2), go_name i⟩
    | _ => simp [tgB] at h
  | tup is =>
    cases pe with
    | Tuple es n p =>
      simp only [tgB] at h
      obtain ⟨g1, g2, g3⟩ := tg_go S hf h
      exact ⟨gTup X.K is.length (gNames is), pg_tup S.calm g1 g2 g3, go_tup is⟩
    | _ => simp [tgB] at h
theorem lc_tg {X : Cx} {W : WX} {sc : Scope} {V : Voc} (S : Sit X Cl ClX W sc V D G k) {tg : Tg} {ptg : Expr} {scope : Scope} (hg : tgB (V.blk scope) (relS scope sc) tg ptg = true) : ∃ g, GOk X.K Cl g tg ∧ ∀ (s : Shared) (H : Hp) (C : Addr) (cl : List (Str × Addr)) (fp : List Addr), PG (X.blk s H scope (compEnvC scope cl C X.env) fp) ptg g := by
  refine ⟨(match tg with | .name i => gName i | .tup is => gTup X.K is.length (gNames is)), by cases tg with | name i => exact go_name i | tup is => exact go_tup is, fun s H C cl fp => ?_⟩
  have S2 := (S.blk s H scope C cl fp).own (V.blk scope).own
  have hf2 : ∀ x, (V.blk scope).own x = true → (X.blk s H scope (compEnvC scope cl C X.env) fp).fn x = true := fun _ h => h
  cases tg with
  | name i =>
    cases ptg with
    | Name x p =>
      simp only [tgB, Bool.and_eq_true, decide_eq_true_eq] at hg
      exact pg_name S2.nd (S2.ix hg.1.1) (S2.loc hg.1.2) (S2.fnl hf2 hg.2)
    | _ => simp [tgB] at hg
  | tup is =>
    cases ptg with
    | Tuple es n p =>
      simp only [tgB] at hg
      obtain ⟨g1, g2, g3⟩ := tg_go S2 hf2 hg
      exact pg_tup S2.calm g1 g2 g3
    | _ => simp [tgB] at hg
theorem own_slots {V : Voc} {tg : Tg} : (ownOf V.N tg.slots).map (·.2) = tg.slots := by
  unfold ownOf
  rw [List.map_map]
  exact List.map_id _
/-- what a comprehension is made of -/
def LcP (Cl ClX : Nat → Addr) (D : Defs) (G : Str → Option Val) (X : Cx) (W : WX) (V : Voc) (tg : Tg) (pelt ptg iter : Expr) (ifs : List Expr) (scope : Scope) (e : Ex) : Prop := ∃ (wi : TI) (g : TG) (tt : TT) (te : TE), PI X ptg iter wi ∧ BlkOk X.N X.env.scope scope (ownOf V.N tg.slots) ∧
      (∀ (s : Shared) (H : Hp) (C : Addr) (cl : List (Str × Addr)) (fp : List Addr), PG (X.blk s H scope (compEnvC scope cl C X.env) fp) ptg g) ∧
      (∀ (s : Shared) (H : Hp) (C : Addr) (cl : List (Str × Addr)) (fp : List Addr), PTs (X.blk s H scope (compEnvC scope cl C X.env) fp) ifs tt) ∧
      (∀ (s : Shared) (H : Hp) (C : Addr) (cl : List (Str × Addr)) (fp : List Addr), PE (X.blk s H scope (compEnvC scope cl C X.env) fp) pelt te) ∧
      (ownOf V.N tg.slots).map (·.2) = tg.slots ∧ ∀ σ H Q, tV X.K Cl ClX W true (ev D G e) σ H Q → tLc wi g tt te tg.slots σ H Q
theorem LcP.pe {X : Cx} {W : WX} {sc : Scope} {V : Voc} (S : Sit X Cl ClX W sc V D G k) {tg : Tg} {pelt ptg iter : Expr} {ifs : List Expr} {scope : Scope} {e : Ex} {pos : Pos} (h : LcP Cl ClX D G X W V tg pelt ptg iter ifs scope e) (hn : notSet iter = true) :
    PE X (.ListComp pelt [⟨ptg, iter, ifs, 0⟩] scope pos) (tV X.K Cl ClX W true (ev D G e)) := by
  obtain ⟨wi, g, tt, te, p1, p2, p3, p4, p5, p6, p7⟩ := h
  have := pe_lc (pos := pos) S.calm S.nd p1 p2 p3 p4 p5 (fold_of hn X.env)
  rw [p6] at this
  exact PE.le this p7
/-- a comprehension -/
theorem lc_ok {X : Cx} {W : WX} {sc : Scope} {V : Voc} (S : Sit X Cl ClX W sc V D G k) {tg : Tg} {ik : ItK} {its tests : Exs} {elt : Ex} {pelt ptg iter : Expr} {ifs : List Expr} {scope : Scope}
    (hi : PI X ptg iter (tI X.K Cl ClX W ik (evs D G its))) (hb : blkC V.N sc scope (ownOf V.N tg.slots) = true) (hg : tgB (V.blk scope) (relS scope sc) tg ptg = true)
    (ht : ∀ X2 : Cx, Sit X2 Cl ClX W0 (relS scope sc) V D G k → PTs X2 ifs (tVB X2.K Cl ClX W0 (effs tests) fun ρ => tst D G tests ρ))
    (he : ∀ X2 : Cx, Sit X2 Cl ClX W0 (relS scope sc) V D G k → PE X2 pelt (tV X2.K Cl ClX W0 (eff elt) (ev D G elt))) :
    LcP Cl ClX D G X W V tg pelt ptg iter ifs scope (.comp tg ik its tests elt) := by
  obtain ⟨g, gok, pg⟩ := lc_tg S hg
  refine ⟨_, g, tVB X.K Cl ClX W0 (effs tests) (fun ρ => tst D G tests ρ), tV X.K Cl ClX W0 (eff elt) (ev D G elt), hi, by rw [S.N, S.sc]; exact blkOk_by hb, pg, fun s H C cl fp => ht _ (S.blk s H scope C cl fp), fun s H C cl fp => he _ (S.blk s H scope C cl fp), own_slots, fun σ H Q h => ?_⟩
  simp only [ev] at h
  exact comp_core (et := effs tests) (ee := eff elt) gok (fun _ _ _ h => h) (fun _ _ _ h => h) (fun _ _ _ h => h) h
theorem lcP_ok {X : Cx} {W : WX} {sc : Scope} {V : Voc} (S : Sit X Cl ClX W sc V D G k) {tg : Tg} {i : Nat} {tests : Exs} {elt : Ex} {pelt ptg iter : Expr} {ifs : List Expr} {scope : Scope}
    (hi : PE X iter (tVar i)) (hb : blkC V.N sc scope (ownOf V.N tg.slots) = true) (hg : tgB (V.blk scope) (relS scope sc) tg ptg = true)
    (ht : ∀ X2 : Cx, Sit X2 Cl ClX W0 (relS scope sc) V D G k → PTs X2 ifs (tVB X2.K Cl ClX W0 (effs tests) fun ρ => tst D G tests ρ))
    (he : ∀ X2 : Cx, Sit X2 Cl ClX W0 (relS scope sc) V D G k → PE X2 pelt (tV X2.K Cl ClX W0 (eff elt) (ev D G elt))) :
    LcP Cl ClX D G X W V tg pelt ptg iter ifs scope (.compP tg i tests elt) := by
  obtain ⟨g, gok, pg⟩ := lc_tg S hg
  refine ⟨_, g, tVB X.K Cl ClX W0 (effs tests) (fun ρ => tst D G tests ρ), tV X.K Cl ClX W0 (eff elt) (ev D G elt), pi_list hi, by rw [S.N, S.sc]; exact blkOk_by hb, pg, fun s H C cl fp => ht _ (S.blk s H scope C cl fp), fun s H C cl fp => he _ (S.blk s H scope C cl fp), own_slots, fun σ H Q h => ?_⟩
  simp only [ev] at h
  exact compP_core (et := effs tests) (ee := eff elt) gok (fun _ _ _ h => h) (fun _ _ _ h => h) h
theorem lcQ_ok {X : Cx} {W : WX} {sc : Scope} {V : Voc} (S : Sit X Cl ClX W sc V D G k) {tg : Tg} {i : Nat} {tests : Exs} {elt : Ex} {pelt ptg iter : Expr} {ifs : List Expr} {scope : Scope}
    (hi : PE X iter (tVar i)) (hb : blkC V.N sc scope (ownOf V.N tg.slots) = true) (hg : tgB (V.blk scope) (relS scope sc) tg ptg = true) (hn : notSet iter = true) {pos : Pos} (q1 : effs tests = false) (q2 : eff elt = false)
    (ht : ∀ X2 : Cx, Sit X2 Cl ClX W0 (relS scope sc) V D G k → PTs X2 ifs (tVB X2.K Cl ClX W0 (effs tests) fun ρ => tst D G tests ρ))
    (he : ∀ X2 : Cx, Sit X2 Cl ClX W0 (relS scope sc) V D G k → PE X2 pelt (tV X2.K Cl ClX W0 (eff elt) (ev D G elt))) :
    PE X (.ListComp pelt [⟨ptg, iter, ifs, 0⟩] scope pos) (tV X.K Cl ClX W false (ev D G (.compQ tg i tests elt))) := by
  obtain ⟨g, gok, pg⟩ := lc_tg S hg
  have hb2 : BlkOk X.N X.env.scope scope (ownOf V.N tg.slots) := by rw [S.N, S.sc]; exact blkOk_by hb
  have h4 : ∀ (s : Shared) (H : Hp) (C : Addr) (cl : List (Str × Addr)) (fp : List Addr), PTs (X.blk s H scope (compEnvC scope cl C X.env) fp) ifs (tVB X.K Cl ClX W0 (effs tests) fun ρ => tst D G tests ρ) := fun s H C cl fp => ht _ (S.blk s H scope C cl fp)
  have h5 : ∀ (s : Shared) (H : Hp) (C : Addr) (cl : List (Str × Addr)) (fp : List Addr), PE (X.blk s H scope (compEnvC scope cl C X.env) fp) pelt (tV X.K Cl ClX W0 (eff elt) (ev D G elt)) := fun s H C cl fp => he _ (S.blk s H scope C cl fp)
  have := pe_lc (pos := pos) S.calm S.nd (PI.or (pi_list hi) (pi_tup hi)) hb2 pg h4 h5 (fold_of hn X.env)
  rw [own_slots] at this
  refine PE.le this fun σ H Q h => ?_
  simp only [ev] at h
  exact compQ_core (et := effs tests) (ee := eff elt) q1 q2 gok (fun _ _ _ h => h) (fun _ _ _ h => h) h
theorem enum_tg {V : Voc} {sc : Scope} {ik : ItK} {tg : Tg} {ptg : Expr} (hk : enumOk ik tg = true) (hg : tgB V sc tg ptg = true) : ik ≠ .enum ∨ ∃ es n p, ptg = .Tuple es n p := by
  cases ik with
  | enum =>
    cases tg with
    | name i => cases hk
    | tup is =>
      cases ptg with
      | Tuple es n p => exact .inr ⟨_, _, _, rfl⟩
      | _ => simp [tgB] at hg
  | seq => exact .inl nofun
  | range1 => exact .inl nofun
  | range2 => exact .inl nofun
  | range3 => exact .inl nofun
  | rev => exact .inl nofun
theorem len1 {α : Type} {as : List α} (h : as.length = 1) : ∃ a, as = [a] := by
  match as, h with
  | [a], _ => exact ⟨a, rfl⟩
theorem tv_asInt {X : Cx} {W : WX} {e1 : Bool} {s : Env → Res (Val × Src)} {a : Expr} (h : PE X a (tV X.K Cl ClX W e1 s)) : PE X a (tV X.K Cl ClX W e1 (sInt s)) := PE.le h fun σ H Q ⟨P, ρ, f, l, lv, q⟩ => by
  refine ⟨P, ρ, f, l, lv, ?_⟩
  unfold sInt at q
  cases hs : s ρ with
  | bad => rw [hs] at q; exact q
  | exc x ρ1 => rw [hs] at q; exact q
  | ok a ρ1 =>
    rw [hs] at q
    obtain ⟨v, sr⟩ := a
    cases v with
    | int i =>
      intro U H' ⟨P1, f1, fv, o, r, so, sb⟩
      obtain ⟨rfl, rfl⟩ := id r
      exact q _ _ ⟨P1, f1, emp, o, ⟨rfl, rfl⟩, emp_dis _, fun _ z => z.elim⟩
    | _ => exact q.elim
theorem sInt_sInt (s : Env → Res (Val × Src)) : sInt (sInt s) = sInt s := by
  funext ρ
  unfold sInt
  cases s ρ with
  | bad => rfl
  | exc x ρ1 => rfl
  | ok a ρ1 =>
    obtain ⟨v, sr⟩ := a
    cases v <;> rfl
theorem pt_ok {X : Cx} {W : WX} {e : Ex} {p : Expr} (h : PE X p (tV X.K Cl ClX W (eff e) (ev D G e))) (hi : isIntE e = true) : PO X (some p) (tPt (tV X.K Cl ClX W (eff e) (ev D G e))) ∧ PtRes (ev D G e) := by
  cases e <;> first | cases hi | skip
  case asInt e =>
    have h1 : ev D G (.asInt e) = sInt (ev D G e) := by
      simp only [ev]
      rfl
    rw [h1] at h ⊢
    have h2 := po_int h
    rw [sInt_sInt] at h2
    exact ⟨h2, pt_int⟩
theorem tmeth_nil {X : Cx} {W : WX} {C : Addr} {m : Str} {sp : Sp} {E : L2.St → XK} {ta' : Env → Res (Val × Src)} {e : Bool} {σ : L2.St} {H : Hp} {Q : VK} (h : tMethG C m sp E (tV X.K Cl ClX W e ta') (tVs X.K Cl ClX W false argsNil) σ H Q) : tMethG C m sp E (tV X.K Cl ClX W e ta') tNil σ H Q :=
  tv_mono h fun x H1 ⟨a, dx, fs, e1, e2, e3, z⟩ => ⟨a, dx, fs, e1, e2, e3, by
    obtain ⟨P, ρ, f, l, lv, q⟩ := z
    exact q [] H1 ⟨P, f, emp, Out.refl l lv, ⟨rfl, rfl⟩, emp_dis _, fun _ z => z.elim⟩⟩
theorem tmake_nil {X : Cx} {W : WX} {C : Addr} {sp : Sp} {E : L2.St → XK} {e : Bool} {σ : L2.St} {H : Hp} {Q : VK} (h : tMakeG C sp E (tVs X.K Cl ClX W e argsNil) σ H Q) : tMakeG C sp E tNil σ H Q := by
  obtain ⟨P, ρ, f, l, lv, q⟩ := h
  exact q [] H ⟨P, f, emp, Out.refl l lv, ⟨rfl, rfl⟩, emp_dis _, fun _ z => z.elim⟩
theorem few1 {a : Expr} {p : Pos} {env : PySem.Env} (h : notStar a = true) : ((backTo p (starEach [a] env)).all (fun x => !x.1) && (backToKw p (keywordEach [] env)).all (fun x => x.1.isSome)
    && decide (([a] : List Expr).length + ([] : List Keyword).length + (if ([] : List Keyword).isEmpty then 0 else 1) < 30)) = true := by
  rw [star_of h]; rfl
theorem few2 {a b : Expr} {p : Pos} {env : PySem.Env} (h : notStar a = true) (h2 : notStar b = true) : ((backTo p (starEach [a, b] env)).all (fun x => !x.1) && (backToKw p (keywordEach [] env)).all (fun x => x.1.isSome)
    && decide (([a, b] : List Expr).length + ([] : List Keyword).length + (if ([] : List Keyword).isEmpty then 0 else 1) < 30)) = true := by
  rw [star_of h, star_of h2]; rfl
mutual
theorem chkE_ok : ∀ (e : Ex) {X : Cx} {W : WX} {sc : Scope} {V : Voc}, Sit X Cl ClX W sc V D G k → ∀ {pe : Expr}, chkE V e sc pe = true → Good X Cl ClX W (eff e) (ev D G e) pe
  | .non, X, W, sc, V, S, pe, h => by
    simp only [chkE] at h
    split at h
    · exact .of (tv_cst (v := .non) (fun P H => ⟨rfl, rfl⟩) pe_non) rfl
    · cases h
  | .bl b, X, W, sc, V, S, pe, h => by
    simp only [chkE] at h
    split at h
    · simp only [beq_iff_eq] at h
      subst h
      exact .of (tv_cst (v := (.bl b)) (fun P H => ⟨rfl, rfl⟩) pe_bl) rfl
    · cases h
  | .int i, X, W, sc, V, S, pe, h => by
    simp only [chkE] at h
    split at h
    · simp only [decide_eq_true_eq] at h
      subst h
      exact .of (tv_cst (v := (.int i)) (fun P H => ⟨rfl, rfl⟩) pe_int) rfl
    · cases h
  | .str x, X, W, sc, V, S, pe, h => by
    simp only [chkE] at h
    split at h
    · simp only [decide_eq_true_eq] at h
      subst h
      exact .of (tv_cst (v := (.str x)) (fun P H => ⟨rfl, rfl⟩) pe_str) rfl
    · cases h
  | .var i, X, W, sc, V, S, pe, h => by
    simp only [chkE] at h
    split at h
    · simp only [Bool.and_eq_true, decide_eq_true_eq] at h
      exact .of (tv_var (pe_var (S.ix h.1.1) (S.vis h.1.2) (ok3 h.2).1 (ok3 h.2).2.1)) rfl
    · cases h
  | .mv i, X, W, sc, V, S, pe, h => by
    simp only [chkE] at h
    split at h
    · simp only [Bool.and_eq_true, decide_eq_true_eq] at h
      exact .of (tv_mv (pe_var (S.ix h.1.1) (S.vis h.1.2) (ok3 h.2).1 (ok3 h.2).2.1)) rfl
    · cases h
  | .own e, X, W, sc, V, S, pe, h => by
    simp only [chkE, Bool.and_eq_true] at h
    exact .of (tv_own (chkE_ok e S h.2).v) h.1.1
  | .frz e, X, W, sc, V, S, pe, h => by
    simp only [chkE, Bool.and_eq_true] at h
    exact .of (tv_frz (chkE_ok e S h.2).v) h.1.1
  | .glo y, X, W, sc, V, S, pe, h => by
    simp only [chkE] at h
    split at h
    · rename_i x p
      simp only [Bool.and_eq_true, decide_eq_true_eq] at h
      obtain ⟨⟨rfl, h1⟩, h2⟩ := h
      refine .of ?_ rfl
      simp only [ev, eff]
      cases hg : G x with
      | none => exact ⟨fun pins s σ H Q I ⟨P, ρ, f, l, lv, q⟩ => q.elim⟩
      | some v =>
        obtain ⟨u, U, hm, r, hr⟩ := S.glo x v hg
        exact tv_cst hr (pe_glob (S.gl h1) hm r (ok3 h2).1)
    · cases h
  | .bin op a b, X, W, sc, V, S, pe, h => by
    simp only [chkE] at h
    split at h
    · rename_i l o r pos
      simp only [Bool.and_eq_true] at h
      obtain ⟨⟨ho, ha⟩, hb⟩ := h
      have ga := (chkE_ok a S ha).v
      have gb := (chkE_ok b S hb).v
      have qb := ev_quiet D G b
      refine .of ?_ rfl
      simp only [ev, eff]
      cases op <;> cases o <;> first | exact absurd ho (by decide) | skip
      · exact tv_bin qb ga gb op_addAll pr_add
      · exact tv_bin qb ga gb op_sub pr_sub
      · exact tv_bin qb ga gb op_mul pr_mul
      · exact tv_bin qb ga gb op_fdiv pr_fdiv
      · exact tv_bin qb ga gb op_mod pr_mod
      · exact tv_bin qb ga gb op_pow pr_pow
      · exact tv_bin qb ga gb op_and pr_band
      · exact tv_bin qb ga gb op_shr pr_shr
      · exact tv_bin qb ga gb op_rep pr_rep
    · cases h
  | .neg a, X, W, sc, V, S, pe, h => by
    simp only [chkE] at h
    split at h
    · refine .of ?_ rfl
      simp only [ev, eff]
      exact tv_un (chkE_ok a S h).v un_neg pr_neg
    · cases h
  | .cmp op a b, X, W, sc, V, S, pe, h => by
    simp only [chkE] at h
    split at h
    · rename_i l o r pos
      simp only [Bool.and_eq_true] at h
      obtain ⟨⟨⟨ho, hn⟩, ha⟩, hb⟩ := h
      have ga := (chkE_ok a S ha).v
      have gb := (chkE_ok b S hb).v
      have qb := ev_quiet D G b
      have hm : behindInMarks o r = false := by cases r <;> first | rfl | cases hn
      have hu : X.A.units + 65 < cLine := by have := S.room.un; omega
      simp only [ev, eff]
      suffices hs : PE X (.Compare l [o] [r] pos) (tV X.K Cl ClX W (eff a || (eff b || false)) (prim (gCmpo op) (argsCons (!(eff b || false)) (ev D G a) (argsCons (!false) (ev D G b) argsNil)))) ∧ PT X (.Compare l [o] [r] pos) (tVT X.K Cl ClX W (eff a || (eff b || false)) (prim (gCmpo op) (argsCons (!(eff b || false)) (ev D G a) (argsCons (!false) (ev D G b) argsNil)))) from
        ⟨hs.1, fun _ => hs.2, fun _ _ _ z => by cases z⟩
      cases op <;> cases o <;> first | exact absurd ho (by decide) | skip
      · exact ⟨tv_cmp qb ga gb (op_eqD (by omega)) hm pr_eq, tvt_cmp qb ga gb (op_eqD (by omega)) hm pr_eq⟩
      · exact ⟨tv_cmp qb ga gb (op_neD (by omega)) hm pr_ne, tvt_cmp qb ga gb (op_neD (by omega)) hm pr_ne⟩
      · exact ⟨tv_cmp qb ga gb op_lt hm (pr_cmp _), tvt_cmp qb ga gb op_lt hm (pr_cmp _)⟩
      · exact ⟨tv_cmp qb ga gb op_le hm (pr_cmp _), tvt_cmp qb ga gb op_le hm (pr_cmp _)⟩
      · exact ⟨tv_cmp qb ga gb op_gt hm (pr_cmp _), tvt_cmp qb ga gb op_gt hm (pr_cmp _)⟩
      · exact ⟨tv_cmp qb ga gb op_ge hm (pr_cmp _), tvt_cmp qb ga gb op_ge hm (pr_cmp _)⟩
      · exact ⟨tv_cmp qb ga gb op_isAll hm pr_is, tvt_cmp qb ga gb op_isAll hm pr_is⟩
      · exact ⟨tv_cmp qb ga gb op_isnAll hm pr_isnot, tvt_cmp qb ga gb op_isnAll hm pr_isnot⟩
      · exact ⟨tv_cmp qb ga gb (op_inAll hu) hm (pr_in _), tvt_cmp qb ga gb (op_inAll hu) hm (pr_in _)⟩
      · exact ⟨tv_cmp qb ga gb (op_notInAll hu) hm (pr_in _), tvt_cmp qb ga gb (op_notInAll hu) hm (pr_in _)⟩
      · exact ⟨tv_cmp qb ga gb op_eq hm pr_eqS, tvt_cmp qb ga gb op_eq hm pr_eqS⟩
      · exact ⟨tv_cmp qb ga gb op_ne hm pr_neS, tvt_cmp qb ga gb op_ne hm pr_neS⟩
    · cases h
  | .chain op op' a b c, X, W, sc, V, S, pe, h => by
    simp only [chkE] at h
    split at h
    · simp only [Bool.and_eq_true] at h
      obtain ⟨⟨⟨⟨⟨⟨h1, h2⟩, h3⟩, h4⟩, ha⟩, hb⟩, hc⟩ := h
      simp only [ev, eff]
      exact ⟨(tv_chain h1 h2 h3 h4 (chkE_ok a S ha).v (chkE_ok b S hb).v (chkE_ok c S hc).v).1, fun _ => (tv_chain h1 h2 h3 h4 (chkE_ok a S ha).v (chkE_ok b S hb).v (chkE_ok c S hc).v).2, fun _ _ _ z => by cases z⟩
    · cases h
  | .chain3 op op' op'' a b c d, X, W, sc, V, S, pe, h => by
    simp only [chkE] at h
    split at h
    · simp only [Bool.and_eq_true] at h
      obtain ⟨⟨⟨⟨⟨⟨⟨⟨⟨h1, h2⟩, h3⟩, n1⟩, n2⟩, n3⟩, ha⟩, hb⟩, hc⟩, hd⟩ := h
      simp only [ev, eff]
      exact ⟨(tv_chain3 h1 h2 h3 n3 (chkE_ok a S ha).v (chkE_ok b S hb).v (chkE_ok c S hc).v (chkE_ok d S hd).v).1, fun _ => (tv_chain3 h1 h2 h3 n3 (chkE_ok a S ha).v (chkE_ok b S hb).v (chkE_ok c S hc).v (chkE_ok d S hd).v).2, fun _ _ _ z => by cases z⟩
    · cases h
  | .and a b, X, W, sc, V, S, pe, h => by
    simp only [chkE] at h
    split at h
    · rename_i x y pos
      simp only [Bool.and_eq_true] at h
      obtain ⟨⟨⟨nx, ny⟩, ha⟩, hb⟩ := h
      have ga := chkE_ok a S ha
      have gb := chkE_ok b S hb
      simp only [ev, eff]
      have hw := tw_and (pos := pos) (ga.t nx) (tw_and1 (gb.t ny))
      exact ⟨tv_and ga.v (pe_one gb.v), fun _ => hw.pt, fun op vs p z => by cases z; exact hw⟩
    · rename_i x y z rest pos
      simp only [Bool.and_eq_true] at h
      obtain ⟨⟨nx, ha⟩, hb⟩ := h
      have ga := chkE_ok a S ha
      have gb := chkE_ok b S hb
      simp only [ev, eff]
      have hw := tw_and (pos := pos) (ga.t nx) (gb.w _ _ _ rfl)
      exact ⟨tv_and ga.v gb.v, fun _ => hw.pt, fun op vs p z => by cases z; exact hw⟩
    · cases h
  | .or a b, X, W, sc, V, S, pe, h => by
    simp only [chkE] at h
    split at h
    · rename_i x y pos
      simp only [Bool.and_eq_true] at h
      obtain ⟨⟨⟨nx, ny⟩, ha⟩, hb⟩ := h
      have ga := chkE_ok a S ha
      have gb := chkE_ok b S hb
      simp only [ev, eff]
      have hw := tw_or (pos := pos) (ga.t nx) (tw_or1 (gb.t ny))
      exact ⟨tv_or ga.v (pe_one gb.v), fun _ => hw.pt, fun op vs p z => by cases z; exact hw⟩
    · rename_i x y z rest pos
      simp only [Bool.and_eq_true] at h
      obtain ⟨⟨nx, ha⟩, hb⟩ := h
      have ga := chkE_ok a S ha
      have gb := chkE_ok b S hb
      simp only [ev, eff]
      have hw := tw_or (pos := pos) (ga.t nx) (gb.w _ _ _ rfl)
      exact ⟨tv_or ga.v gb.v, fun _ => hw.pt, fun op vs p z => by cases z; exact hw⟩
    · cases h
  | .not a, X, W, sc, V, S, pe, h => by
    simp only [chkE] at h
    split at h
    · simp only [Bool.and_eq_true] at h
      have ga := chkE_ok a S h.2
      simp only [ev, eff]
      exact ⟨tv_not ga.v, fun _ => tvt_not (ga.t h.1), fun op vs p z => by cases z⟩
    · cases h
  | .ifx c a b, X, W, sc, V, S, pe, h => by
    simp only [chkE] at h
    split at h
    · simp only [Bool.and_eq_true] at h
      obtain ⟨⟨⟨nt, hc⟩, ha⟩, hb⟩ := h
      simp only [ev, eff]
      exact ⟨tv_ifx ((chkE_ok c S hc).t nt) (chkE_ok a S ha).v (chkE_ok b S hb).v, fun z => (by cases z), fun op vs p z => (by cases z)⟩
    · cases h
  | .bi f es, X, W, sc, V, S, pe, h => by
    simp only [chkE] at h
    split at h
    · simp only [Bool.and_eq_true, decide_eq_true_eq] at h
      obtain ⟨⟨⟨⟨rfl, h1⟩, h2⟩, h3⟩, h4⟩ := h
      simp only [ev, eff]
      exact .of (bi_ok S f h1 (chkEs_ok es S h4) (chkEs_star h4)) rfl
    · cases h
  | .isi T e, X, W, sc, V, S, pe, h => by
    simp only [chkE] at h
    split at h
    · simp only [Bool.and_eq_true, decide_eq_true_eq] at h
      obtain ⟨⟨⟨⟨⟨⟨⟨rfl, h1⟩, rfl⟩, h2⟩, h3⟩, hT⟩, h4⟩, h5⟩ := h
      simp only [ev, eff]
      exact .of (tv_isi hT (S.gl h1) (S.bl _ (by decide)) (ty_ok S hT h2) (star_of h4 _ _) rfl rfl (chkE_ok e S h5).v) rfl
    · cases h
  | .ix a i, X, W, sc, V, S, pe, h => by
    simp only [chkE] at h
    split at h
    · simp only [Bool.and_eq_true] at h
      obtain ⟨⟨h1, ha⟩, hi⟩ := h
      simp only [ev, eff]
      exact .of (tv_ix (ev_quiet D G i) (chkE_ok a S ha).v (chkE_ok i S hi).v (plain_of h1)) rfl
    · cases h
  | .asInt e, X, W, sc, V, S, pe, h => by
    simp only [chkE, Bool.and_eq_true] at h
    exact .of (tv_asInt (chkE_ok e S h.2).v) h.1.1
  | .slc a lo hi, X, W, sc, V, S, pe, h => by
    simp only [chkE] at h
    split at h
    · rename_i v l u p2 pos
      simp only [Bool.and_eq_true] at h
      obtain ⟨⟨ha, hl⟩, hu⟩ := h
      have gl : PO X l (tPt (tV X.K Cl ClX W (eff lo) (ev D G lo))) ∧ PtRes (ev D G lo) := by
        cases l with
        | none => cases lo <;> first | exact ⟨po_abs, pt_non⟩ | cases hl
        | some p =>
          simp only [Bool.and_eq_true] at hl
          exact pt_ok (chkE_ok lo S hl.2).v hl.1
      have gu : PO X u (tPt (tV X.K Cl ClX W (eff hi) (ev D G hi))) ∧ PtRes (ev D G hi) := by
        cases u with
        | none => cases hi <;> first | exact ⟨po_abs, pt_non⟩ | cases hu
        | some p =>
          simp only [Bool.and_eq_true] at hu
          exact pt_ok (chkE_ok hi S hu.2).v hu.1
      refine .of ?_ rfl
      simp only [ev, eff]
      exact tv_slc (ev_quiet D G lo) (ev_quiet D G hi) gl.2 gu.2 (chkE_ok a S ha).v gl.1 gu.1
    · cases h
  | .fld c e f, X, W, sc, V, S, pe, h => by
    simp only [chkE] at h
    split at h
    · simp only [Bool.and_eq_true, decide_eq_true_eq] at h
      obtain ⟨⟨⟨rfl, h2⟩, h3⟩, h4⟩ := h
      simp only [ev, eff]
      exact .of (tv_fld (S.cfld _ _ h3).1 (S.cfld _ _ h3).2 (chkE_ok e S h4).v (base_of h2 _ X.env _)) rfl
    · cases h
  | .meth f c m o es, X, W, sc, V, S, pe, h => by
    simp only [chkE] at h
    split at h
    · rename_i v g apos as cpos
      simp only [Bool.and_eq_true, decide_eq_true_eq] at h
      obtain ⟨⟨⟨⟨⟨⟨rfl, h1⟩, h2⟩, h3⟩, h4⟩, h5⟩, h6⟩ := h
      obtain ⟨fa, fd, ps, F, hc, hm, hb, hl⟩ := S.mtd _ _ _ _ h1
      have hst := chkEs_star h6
      obtain ⟨pl, ht⟩ := meth_ev (m := g) (apos := apos) (pos := cpos) (es := as) (base_of h2 g X.env (eval v X.env)) h3 (form_of (star_all2 hst) (decide_eq_true h4))
      have hlen : ∀ ρ bs ρ1, argsCons (!effs es) (sMid (isIns c g) (ev D G o)) (evs D G es) ρ = .ok bs ρ1 → (D.modes f).length = bs.length := fun ρ bs ρ1 e => by rw [hl]; exact (argsCons_len (fun _ _ _ h => evs_len h) ρ bs ρ1 e).symm
      simp only [ev, eff]
      refine .of ?_ rfl
      cases as with
      | nil =>
        cases es with
        | cons _ _ => simp [chkEs] at h6
        | nil => exact PE.le (pe_methG0 (chkE_ok o S h5).v hc hm F S.gu (S.room.mono (Nat.le_succ _)) hb (fun σ => passAt S.tk σ) ht) fun σ H Q h => tmeth_nil (meth_args quiet_nil (call_then hlen h))
      | cons a as =>
        simp only [List.all_cons, Bool.and_eq_true] at hst
        exact PE.le (pe_methG (chkE_ok o S h5).v hc hm F S.gu (S.room.mono (Nat.le_succ _)) hb (fun σ => passAt S.tk σ) (chkEs_ok es S h6) (star_of hst.1 _ _) (star_all hst.2) ht) fun σ H Q h => meth_args (evs_quiet D G es) (call_then hlen h)
    · cases h
  | .methM f c m o es, X, W, sc, V, S, pe, h => by
    simp only [chkE] at h
    split at h
    · rename_i v g apos as cpos
      simp only [Bool.and_eq_true, decide_eq_true_eq] at h
      obtain ⟨⟨⟨⟨⟨⟨rfl, h1⟩, h2⟩, h3⟩, h4⟩, h5⟩, h6⟩ := h
      obtain ⟨fa, fd, ps, F, hc, hm, hb, hl⟩ := S.mtd _ _ _ _ h1
      have hst := chkEs_star h6
      obtain ⟨pl, ht⟩ := meth_ev (m := g) (apos := apos) (pos := cpos) (es := as) (base_of h2 g X.env (eval v X.env)) h3 (form_of (star_all2 hst) (decide_eq_true h4))
      have hlen : ∀ ρ bs ρ1, argsCons (!effs es) (sMid (isIns c g) (ev D G o)) (evs D G es) ρ = .ok bs ρ1 → (D.modes f).length = bs.length := fun ρ bs ρ1 e => by rw [hl]; exact (argsCons_len (fun _ _ _ h => evs_len h) ρ bs ρ1 e).symm
      simp only [ev, eff]
      refine .of ?_ rfl
      cases as with
      | nil =>
        cases es with
        | cons _ _ => simp [chkEs] at h6
        | nil => exact PE.le (pe_methG0 (chkE_ok o S h5).v hc hm F S.gu (S.room.mono (Nat.le_succ _)) hb (fun σ => passAt S.tk σ) ht) fun σ H Q h => tmeth_nil (meth_args quiet_nil (callM_then (e := eff o || false) hlen h))
      | cons a as =>
        simp only [List.all_cons, Bool.and_eq_true] at hst
        exact PE.le (pe_methG (chkE_ok o S h5).v hc hm F S.gu (S.room.mono (Nat.le_succ _)) hb (fun σ => passAt S.tk σ) (chkEs_ok es S h6) (star_of hst.1 _ _) (star_all hst.2) ht) fun σ H Q h => meth_args (evs_quiet D G es) (callM_then (e := eff o || effs es) hlen h)
    · cases h
  | .make c f es, X, W, sc, V, S, pe, h => by
    simp only [chkE] at h
    split at h
    · rename_i x p as cpos
      simp only [Bool.and_eq_true, decide_eq_true_eq] at h
      obtain ⟨⟨⟨h1, h2⟩, h3⟩, h6⟩ := h
      obtain ⟨fa, fd, ps, F, hk, hm, hb, hl⟩ := S.mkd _ _ _ _ h1
      have hst := chkEs_star h6
      simp only [ev, eff]
      refine .of ?_ rfl
      cases as with
      | nil =>
        cases es with
        | cons _ _ => simp [chkEs] at h6
        | nil => exact PE.le (pe_makeG0 hk F S.gu S.room (S.gl h2) hm hb (fun σ => passAt S.tk σ) (ok3 h3).1) fun σ H Q h => tmake_nil (make_then (e := effs .nil) h)
      | cons a as =>
        simp only [List.all_cons, Bool.and_eq_true] at hst
        exact PE.le (pe_makeG hk F S.gu S.room (S.gl h2) hm hb (fun σ => passAt S.tk σ) (chkEs_ok es S h6) (ok3 h3).1 (star_of hst.1 _ _) (star_all hst.2)) fun σ H Q h => make_then h
    · cases h
  | .tup es, X, W, sc, V, S, pe, h => by
    simp only [chkE] at h
    split at h
    · simp only [ev, eff]
      exact .of (tv_tup (chkEs_ok es S h)) rfl
    · cases h
  | .lst es, X, W, sc, V, S, pe, h => by
    simp only [chkE] at h
    split at h
    · simp only [ev, eff]
      exact .of (tv_lst (chkEs_ok es S h)) rfl
    · cases h
  | .call f es, X, W, sc, V, S, pe, h => by
    simp only [chkE] at h
    split at h
    · simp only [Bool.and_eq_true, decide_eq_true_eq] at h
      obtain ⟨⟨⟨h1, h2⟩, h3⟩, h4⟩ := h
      obtain ⟨fa, fd, ps, F, hm, hk, hb, hl⟩ := S.dfn _ _ _ h1
      have hst := chkEs_star h4
      simp only [List.all_cons, Bool.and_eq_true] at hst
      simp only [ev, eff]
      exact .of (tv_call F S.gu (S.room.mono (Nat.le_succ _)) (S.gl h2) hm hk hb S.tk (fun ρ as ρ1 e => by rw [hl, evs_len e]) (chkEs_ok es S h4) (ok3 h3).1 (star_of hst.1 _ _) (star_all hst.2)) rfl
    · cases h
  | .callM f es, X, W, sc, V, S, pe, h => by
    simp only [chkE] at h
    split at h
    · simp only [Bool.and_eq_true, decide_eq_true_eq] at h
      obtain ⟨⟨⟨h1, h2⟩, h3⟩, h4⟩ := h
      obtain ⟨fa, fd, ps, F, hm, hk, hb, hl⟩ := S.dfn _ _ _ h1
      have hst := chkEs_star h4
      simp only [List.all_cons, Bool.and_eq_true] at hst
      simp only [ev, eff]
      exact .of (tv_callM F S.gu (S.room.mono (Nat.le_succ _)) (S.gl h2) hm hk hb S.tk (fun ρ as ρ1 e => by rw [hl, evs_len e]) (chkEs_ok es S h4) (ok3 h3).1 (star_of hst.1 _ _) (star_all hst.2)) rfl
    · cases h
  | .mu m o es, X, W, sc, V, S, pe, h => by
    simp only [chkE] at h
    split at h
    · rename_i v name apos as cpos
      simp only [Bool.and_eq_true, decide_eq_true_eq] at h
      obtain ⟨⟨⟨⟨⟨⟨⟨rfl, h1⟩, h2⟩, h3⟩, h4⟩, h5⟩, ho⟩, hs⟩ := h
      have go := (chkE_ok o S ho).v
      have ga := chkEs_ok es S hs
      have hst := chkEs_star hs
      have hbase := base_of (o := v) h2 (muName m) X.env (eval v X.env)
      simp only [ev, eff]
      refine .of ?_ rfl
      cases m with
      | append =>
        obtain ⟨a, rfl⟩ := len1 h5
        have hst1 := hst
        simp only [List.all_cons, Bool.and_eq_true] at hst1
        exact tv_mu mo_append (evs_quiet D G es) PySem.F.slot_list_append PySem.F.type_list_append mt_append go ga hbase (by rw [star_all2 hst]; rfl) h3 (star_of hst1.1 _ _) rfl
      | pop =>
        cases es with
        | nil =>
          have : as = [] := List.length_eq_zero_iff.mp h5
          subst this
          exact tv_mu0 mo_pop PySem.F.slot_list_pop PySem.F.type_list_pop mt_pop go hbase h3
        | cons e es => simp [Exs.len, muArity] at h4
      | clear =>
        cases es with
        | nil =>
          have : as = [] := List.length_eq_zero_iff.mp h5
          subst this
          exact tv_mu0 mo_clear PySem.F.slot_list_clear PySem.F.type_list_clear mt_clear go hbase h3
        | cons e es => simp [Exs.len, muArity] at h4
      | remove =>
        obtain ⟨a, rfl⟩ := len1 h5
        have hst1 := hst
        simp only [List.all_cons, Bool.and_eq_true] at hst1
        exact tv_mu mo_remove (evs_quiet D G es) PySem.F.slot_list_remove PySem.F.type_list_remove mt_remove go ga hbase (by rw [star_all2 hst]; rfl) h3 (star_of hst1.1 _ _) rfl
      | popAt =>
        obtain ⟨a, rfl⟩ := len1 h5
        have hst1 := hst
        simp only [List.all_cons, Bool.and_eq_true] at hst1
        exact tv_mu mo_popAt (evs_quiet D G es) PySem.F.slot_list_pop PySem.F.type_list_pop mt_popAt go ga hbase (by rw [star_all2 hst]; rfl) h3 (star_of hst1.1 _ _) rfl
      | extend =>
        obtain ⟨a, rfl⟩ := len1 h5
        have hst1 := hst
        simp only [List.all_cons, Bool.and_eq_true] at hst1
        exact tv_mu mo_extend (evs_quiet D G es) PySem.F.slot_list_extend PySem.F.type_list_extend mt_extend go ga hbase (by rw [star_all2 hst]; rfl) h3 (star_of hst1.1 _ _) rfl
      | reverse =>
        cases es with
        | nil =>
          have : as = [] := List.length_eq_zero_iff.mp h5
          subst this
          exact tv_mu0 mo_reverse PySem.F.slot_list_reverse PySem.F.type_list_reverse mt_reverse go hbase h3
        | cons e es => simp [Exs.len, muArity] at h4
    · cases h
  | .comp tg ik its tests elt, X, W, sc, V, S, pe, h => by
    simp only [chkE] at h
    split at h
    · rename_i pelt ptg iter ifs scope pos
      simp only [Bool.and_eq_true] at h
      obtain ⟨⟨⟨⟨⟨⟨hk, hi⟩, hn⟩, hb⟩, hg⟩, ht⟩, he⟩ := h
      exact .of ((lc_ok (tests := tests) (elt := elt) S (chkI_ok its S hi ptg (enum_tg hk hg)) hb hg (fun X2 S2 => chkT_ok tests S2 ht) fun X2 S2 => (chkE_ok elt S2 he).v).pe S hn) rfl
    · cases h
  | .compQ tg i tests elt, X, W, sc, V, S, pe, h => by
    simp only [chkE] at h
    split at h
    · rename_i pelt ptg x p ifs scope pos
      simp only [Bool.and_eq_true, decide_eq_true_eq, Bool.not_eq_true'] at h
      obtain ⟨⟨⟨⟨⟨⟨⟨⟨h1, h2⟩, h3⟩, hb⟩, hg⟩, ht⟩, he⟩, q1⟩, q2⟩ := h
      exact .of (lcQ_ok (tests := tests) (elt := elt) S (pe_var (S.ix h1) (S.vis h2) (ok3 h3).1 (ok3 h3).2.1) hb hg rfl q1 q2 (fun X2 S2 => chkT_ok tests S2 ht) fun X2 S2 => (chkE_ok elt S2 he).v) rfl
    · cases h
  | .compP tg i tests elt, X, W, sc, V, S, pe, h => by
    simp only [chkE] at h
    split at h
    · rename_i pelt ptg x p ifs scope pos
      simp only [Bool.and_eq_true, decide_eq_true_eq] at h
      obtain ⟨⟨⟨⟨⟨⟨h1, h2⟩, h3⟩, hb⟩, hg⟩, ht⟩, he⟩ := h
      exact .of ((lcP_ok (tests := tests) (elt := elt) S (pe_var (S.ix h1) (S.vis h2) (ok3 h3).1 (ok3 h3).2.1) hb hg (fun X2 S2 => chkT_ok tests S2 ht) fun X2 S2 => (chkE_ok elt S2 he).v).pe S rfl) rfl
    · cases h
  | .listrev e, X, W, sc, V, S, pe, h => by
    simp only [chkE] at h
    split at h
    · simp only [Bool.and_eq_true, decide_eq_true_eq] at h
      obtain ⟨⟨⟨⟨⟨rfl, h1⟩, rfl⟩, h2⟩, h3⟩, h4⟩ := h
      simp only [ev, eff]
      exact .of (tv_listrev S.calm (S.gl h1) (S.bl _ (by decide)) (S.gl h2) (S.bl _ (by decide)) (star_of h3 _ _) (chkE_ok e S h4).v) rfl
    · cases h
  | .sset e, X, W, sc, V, S, pe, h => by
    simp only [chkE] at h
    split at h
    · simp only [Bool.and_eq_true, decide_eq_true_eq] at h
      obtain ⟨⟨⟨⟨⟨rfl, h1⟩, rfl⟩, h2⟩, h3⟩, h4⟩ := h
      simp only [ev, eff]
      exact .of (tv_sset S.calm (S.gl h1) (S.bl _ (by decide)) (S.gl h2) (S.bl _ (by decide)) (star_of h3 _ _) (chkE_ok e S h4).v) rfl
    · cases h
  | .lrng a b, X, W, sc, V, S, pe, h => by
    simp only [chkE] at h
    split at h
    · simp only [Bool.and_eq_true, decide_eq_true_eq] at h
      obtain ⟨⟨⟨⟨⟨⟨⟨rfl, h1⟩, rfl⟩, h2⟩, h3⟩, h3'⟩, h4⟩, h5⟩ := h
      simp only [ev, eff]
      exact .of (tv_lrng S.calm (S.gl h1) (S.bl _ (by decide)) (S.gl h2) (S.bl _ (by decide)) h3 h3' (ev_quiet D G b) (chkE_ok a S h4).v (chkE_ok b S h5).v) rfl
    · cases h
  | .bitlen e, X, W, sc, V, S, pe, h => by
    simp only [chkE] at h
    split at h
    · simp only [Bool.and_eq_true, decide_eq_true_eq] at h
      obtain ⟨⟨⟨rfl, h1⟩, h2⟩, h3⟩ := h
      simp only [ev, eff]
      exact .of (tv_bitlen (base_of h1 _ X.env _) h2 (chkE_ok e S h3).v) rfl
    · cases h
  | .ixd a i, X, W, sc, V, S, pe, h => by
    simp only [chkE] at h
    split at h
    · simp only [Bool.and_eq_true] at h
      obtain ⟨⟨h1, ha⟩, hi⟩ := h
      simp only [ev, eff]
      have hu : X.A.units + 1 < cLine := by have := S.room.un; omega
      exact .of (tv_ixd hu (ev_quiet D G i) (chkE_ok a S ha).v (chkE_ok i S hi).v (plain_of h1)) rfl
    · cases h
  | .q1 m o a, X, W, sc, V, S, pe, h => by
    simp only [chkE] at h
    split at h
    · simp only [Bool.and_eq_true, decide_eq_true_eq] at h
      obtain ⟨⟨⟨⟨⟨rfl, h1⟩, h2⟩, h3⟩, ho⟩, ha⟩ := h
      simp only [ev, eff]
      cases m with
      | lindex => exact .of (tv_q1 (m := .lindex) PySem.F.slot_list_index PySem.F.type_list_index mt_index pr_lindex (ev_quiet D G a) (chkE_ok o S ho).v (chkE_ok a S ha).v (base_of h1 _ X.env _) h2 (star_of h3 _ _)) rfl
      | lcount => exact .of (tv_q1 (m := .lcount) PySem.F.slot_list_count PySem.F.type_list_count mt_lcountF pr_lcount (ev_quiet D G a) (chkE_ok o S ho).v (chkE_ok a S ha).v (base_of h1 _ X.env _) h2 (star_of h3 _ _)) rfl
    · cases h
  | .get1 o a, X, W, sc, V, S, pe, h => by
    simp only [chkE] at h
    split at h
    · simp only [Bool.and_eq_true, decide_eq_true_eq] at h
      obtain ⟨⟨⟨⟨⟨rfl, h1⟩, h2⟩, h3⟩, ho⟩, ha⟩ := h
      simp only [ev, eff]
      have hu : X.A.units + 1 < cLine := by have := S.room.un; omega
      exact .of (tv_get1 hu (ev_quiet D G a) (chkE_ok o S ho).v (chkE_ok a S ha).v ⟨base_of h1 _ X.env _, few1 h3, h2, by rw [star_of h3]; rfl⟩) rfl
    · cases h
  | .get2 o a b, X, W, sc, V, S, pe, h => by
    simp only [chkE] at h
    split at h
    · simp only [Bool.and_eq_true, decide_eq_true_eq] at h
      obtain ⟨⟨⟨⟨⟨⟨⟨rfl, h1⟩, h2⟩, h3⟩, h4⟩, ho⟩, ha⟩, hb⟩ := h
      simp only [ev, eff]
      have hu : X.A.units + 1 < cLine := by have := S.room.un; omega
      exact .of (tv_get2 hu (ev_quiet D G a) (ev_quiet D G b) (chkE_ok o S ho).v (chkE_ok a S ha).v (chkE_ok b S hb).v ⟨base_of h1 _ X.env _, few2 h3 h4, h2, by rw [star_of h3, star_of h4]; rfl⟩) rfl
    · cases h
  | .dnew t, X, W, sc, V, S, pe, h => by
    simp only [chkE] at h
    split at h
    · simp only [ev, eff]
      cases t with
      | false => exact .of (tv_new pe_dnewK pr_newK fun σ H Q h => h.2) rfl
      | true => exact .of (tv_new pe_dnewT pr_newT fun σ H Q h => h.2) rfl
    · cases h
  | .ddis es, X, W, sc, V, S, pe, h => by
    simp only [chkE] at h
    split at h
    · simp only [Bool.and_eq_true, decide_eq_true_eq, Bool.not_eq_true'] at h
      obtain ⟨⟨⟨⟨h1, h2⟩, h3⟩, h4⟩, h5⟩ := h
      rename_i keys values pos
      obtain ⟨trs, hp, ht⟩ := chkDs_ok es S h5 (pos := pos)
      have h0 : keys ≠ [] := fun z => by rw [z] at h4; cases h4
      simp only [ev, eff]
      exact .of (PE.le (pe_disp hp h3 h2 h0 h1) fun σ H Q z p hp' => ht _ _ _ (tvs_mono (dis_core hp' z) fun Vs H2 w ps e => by
        obtain ⟨w1, kvs, w2, w3⟩ := w ps e
        exact ⟨w1, kvs, w2, w3⟩)) rfl
    · cases h
  | .nevE, X, W, sc, V, S, pe, h => by
    simp only [chkE, Bool.and_eq_true] at h
    simp only [ev, eff]
    exact .of ⟨fun pins s σ H Q I ⟨P, ρ, f, l, lv, q⟩ => q.elim⟩ h.1
theorem chkDs_ok : ∀ (es : Exs) {X : Cx} {W : WX} {sc : Scope} {V : Voc}, Sit X Cl ClX W sc V D G k → ∀ {ks : List (Option Expr)} {vs : List Expr} {pos : Pos}, chkDs V es sc ks vs = true → ∃ trs, PPs X pos ks vs trs ∧ ∀ σ H Kk, tVs X.K Cl ClX W (effs es) (evs D G es) σ H (fun Vs H' => ∀ ps, Vs = flatP ps → Kk ps H') → tPairs trs σ H Kk
  | .nil, X, W, sc, V, S, ks, vs, pos, h => by
    simp only [chkDs] at h
    split at h
    · refine ⟨[], pps_nil, fun σ H Kk z => ?_⟩
      simp only [evs, effs] at z
      exact pairs_nil z
    · cases h
  | .cons k .nil, X, W, sc, V, S, ks, vs, pos, h => by simp [chkDs] at h
  | .cons k (.cons v es), X, W, sc, V, S, ks, vs, pos, h => by
    simp only [chkDs] at h
    split at h
    · simp only [Bool.and_eq_true] at h
      obtain ⟨trs, hp, ht⟩ := chkDs_ok es S h.2 (pos := pos)
      refine ⟨_, pps_cons (chkE_ok k S h.1.1).v (chkE_ok v S h.1.2).v hp, fun σ H Kk z => ?_⟩
      have z1 := cons_ok (evs_quiet D G (.cons v es)) (by simp only [evs, effs] at z ⊢; exact z)
      exact tv_mono z1 fun x H1 z2 => by
        simp only [evs, effs] at z2
        exact tv_mono (cons_ok (evs_quiet D G es) z2) fun y H2 z3 => ht _ _ _ (tvs_mono z3 fun Vs H3 w ps e => w ((x, y) :: ps) (by rw [e]; rfl))
    · cases h
theorem chkEs_ok : ∀ (es : Exs) {X : Cx} {W : WX} {sc : Scope} {V : Voc}, Sit X Cl ClX W sc V D G k → ∀ {as : List Expr}, chkEs V es sc as = true → PA X as (tVs X.K Cl ClX W (effs es) (evs D G es))
  | .nil, X, W, sc, V, S, as, h => by
    simp only [chkEs] at h
    split at h
    · simp only [evs, effs]
      exact vs_nil
    · cases h
  | .cons e es, X, W, sc, V, S, as, h => by
    simp only [chkEs] at h
    split at h
    · simp only [Bool.and_eq_true] at h
      simp only [evs, effs]
      exact pa_vs (evs_quiet D G es) (chkE_ok e S h.1.2).v (chkEs_ok es S h.2) (star_of h.1.1 _ _)
    · cases h
theorem chkI_ok : ∀ (es : Exs) {X : Cx} {W : WX} {sc : Scope} {V : Voc}, Sit X Cl ClX W sc V D G k → ∀ {ik : ItK} {pe : Expr}, chkI V ik es sc pe = true → ∀ tg : Expr, (ik ≠ .enum ∨ ∃ es n p, tg = .Tuple es n p) → PI X tg pe (tI X.K Cl ClX W ik (evs D G es))
  | .nil, X, W, sc, V, S, ik, pe, h => fun tg htg => by
    unfold chkI chkI0 at h
    split at h
    · simp only [chkEs, Bool.and_eq_true, Bool.false_eq_true, and_false] at h
    · simp only [chkEs, Bool.and_eq_true, Bool.false_eq_true, and_false] at h
    · simp only [chkEs, Bool.and_eq_true, Bool.false_eq_true, and_false] at h
    · simp only [chkEs, Bool.and_eq_true, Bool.false_eq_true, and_false] at h
    · simp only [chkEs, Bool.and_eq_true, Bool.false_eq_true, and_false] at h
    · simp only [chkEs, Bool.false_eq_true] at h
    · cases h
  | .cons e es, X, W, sc, V, S, ik, pe, h => fun tg htg => by
    unfold chkI chkI0 at h
    split at h
    · rename_i x p a pos
      simp only [Bool.and_eq_true, decide_eq_true_eq] at h
      obtain ⟨⟨⟨rfl, h1⟩, h2⟩, h3⟩ := h
      have ga : PA X [a] (tVs X.K Cl ClX W (effs (.cons e es)) (evs D G (.cons e es))) := by
        simp only [chkEs, Bool.and_eq_true] at h3
        simp only [evs, effs]
        exact pa_vs (evs_quiet D G es) (chkE_ok e S h3.1.2).v (chkEs_ok es S h3.2) (star_of h3.1.1 _ _)
      exact ti_range1 (S.gl h1) (S.bl _ (by decide)) ga (star_of h2 _ _)
    · rename_i x p a b pos
      simp only [Bool.and_eq_true, decide_eq_true_eq] at h
      obtain ⟨⟨⟨⟨rfl, h1⟩, h2⟩, h2'⟩, h3⟩ := h
      have ga : PA X [a, b] (tVs X.K Cl ClX W (effs (.cons e es)) (evs D G (.cons e es))) := by
        simp only [chkEs, Bool.and_eq_true] at h3
        simp only [evs, effs]
        exact pa_vs (evs_quiet D G es) (chkE_ok e S h3.1.2).v (chkEs_ok es S h3.2) (star_of h3.1.1 _ _)
      exact ti_range2 (S.gl h1) (S.bl _ (by decide)) ga (by rw [star_of h2, star_of h2']; rfl) (star_of h2' _ _)
    · rename_i x p a pos
      simp only [Bool.and_eq_true, decide_eq_true_eq] at h
      obtain ⟨⟨⟨rfl, h1⟩, h2⟩, h3⟩ := h
      have ga : PA X [a] (tVs X.K Cl ClX W (effs (.cons e es)) (evs D G (.cons e es))) := by
        simp only [chkEs, Bool.and_eq_true] at h3
        simp only [evs, effs]
        exact pa_vs (evs_quiet D G es) (chkE_ok e S h3.1.2).v (chkEs_ok es S h3.2) (star_of h3.1.1 _ _)
      exact ti_rev (S.gl h1) (S.bl _ (by decide)) ga (star_of h2 _ _)
    · rename_i x p a pos
      simp only [Bool.and_eq_true, decide_eq_true_eq] at h
      obtain ⟨⟨⟨rfl, h1⟩, h2⟩, h3⟩ := h
      have ga : PA X [a] (tVs X.K Cl ClX W (effs (.cons e es)) (evs D G (.cons e es))) := by
        simp only [chkEs, Bool.and_eq_true] at h3
        simp only [evs, effs]
        exact pa_vs (evs_quiet D G es) (chkE_ok e S h3.1.2).v (chkEs_ok es S h3.2) (star_of h3.1.1 _ _)
      obtain ⟨es', n', p', rfl⟩ := htg.resolve_left fun z => z rfl
      exact ti_enum (S.gl h1) (S.bl _ (by decide)) ga (star_of h2 _ _)
    · rename_i x p a b c pos
      simp only [Bool.and_eq_true, decide_eq_true_eq] at h
      obtain ⟨⟨⟨⟨⟨rfl, h1⟩, h2⟩, h2'⟩, h2''⟩, h3⟩ := h
      have ga : PA X [a, b, c] (tVs X.K Cl ClX W (effs (.cons e es)) (evs D G (.cons e es))) := by
        simp only [chkEs, Bool.and_eq_true] at h3
        simp only [evs, effs]
        exact pa_vs (evs_quiet D G es) (chkE_ok e S h3.1.2).v (chkEs_ok es S h3.2) (star_of h3.1.1 _ _)
      exact ti_range3 (S.gl h1) (S.bl _ (by decide)) ga (star_of h2 _ _) (star_all (by simp only [List.all_cons, h2', h2'']; rfl))
    · cases es with
      | nil =>
        simp only [chkEs, Bool.and_eq_true] at h
        simp only [evs, effs]
        exact ti_seq (chkE_ok e S h.1.2).v
      | cons e2 es => simp only [chkEs, Bool.and_eq_true, Bool.false_eq_true, and_false] at h
    · cases h
theorem chkT_ok : ∀ (es : Exs) {X : Cx} {W : WX} {sc sc0 : Scope} {V : Voc}, Sit X Cl ClX W sc V D G k → ∀ {ifs : List Expr}, chkT V es sc0 sc ifs = true → PTs X ifs (tVB X.K Cl ClX W (effs es) fun ρ => tst D G es ρ)
  | .nil, X, W, sc, sc0, V, S, ifs, h => by
    simp only [chkT] at h
    split at h
    · simp only [tst, effs]
      exact tb_nil
    · cases h
  | .cons e .nil, X, W, sc, sc0, V, S, ifs, h => by
    simp only [chkT] at h
    split at h
    · simp only [Bool.and_eq_true] at h
      simp only [tst, effs]
      have := tb_one ((chkE_ok e S h.2).t h.1)
      simpa only [Bool.or_false] using this
    · cases h
  | .cons _ (.cons _ _), X, W, sc, sc0, V, S, ifs, h => by simp only [chkT] at h; cases h
end
end
end VS

namespace VS
open PySem L2
/-! ### statements against the text -/
/-- a comprehension set to a name: 0 no comprehension; 1 swapped in place; 2 not swapped; 3 not known -/
def swapB (sc : Scope) (x : Str) (px : Pos) (line : Nat) : Expr → Nat
  | .ListComp _ [_] s p => if (decide (sc.names.lookup x = some .local) && px.line == p.line) = true then (if (s.names.any fun (n, k) => n == x && (k == .local || k == .cell)) = true then 2 else 1) else 2
  | e => if notComp e = true then 0 else 3
def notQ : Ex → Bool
  | .compQ _ _ _ _ => false
  | _ => true
mutual
def chkS (V : Voc) : St → Scope → Stmt → Bool
  | .set i e => fun sc st => match st with
    | .Assign [.Name x px] pe pos => decide (V.N[i]? = some x) && locB sc x && chkE V e sc pe && notQ e && (match swapB sc x px pos.line pe with
      | 0 => true
      | 1 => true
      | 2 => true
      | _ => false)
    | _ => false
  | .unp is e => fun sc st => match st with
    | .Assign [.Tuple es k p] pe _ => tgB V sc (.tup is) (.Tuple es k p) && notComp pe && notTup pe && chkE V e sc pe
    | _ => false
  | .expr e => fun sc st => match st with
    | .Expr pe _ => notComp pe && chkE V e sc pe
    | _ => false
  | .ret e => fun sc st => match st with
    | .Return (some pe) _ => chkE V e sc pe
    | _ => false
  | .retN => fun _ st => match st with
    | .Return none _ => true
    | _ => false
  | .ifs c a b => fun sc st => match st with
    | .If pc pa pb _ => notIfx pc && chkE V c sc pc && chkSs V a sc pa && chkSs V b sc pb
    | _ => false
  | .fors tg ik its body => fun sc st => match st with
    | .For ptg iter pb [] _ => enumOk ik tg && tgB V sc tg ptg && notSet iter && chkI V ik its sc iter && chkSs V body sc pb
    | _ => false
  | .forsP tg i body => fun sc st => match st with
    | .For ptg (.Name x _) pb [] _ => (decide (V.N[i]? = some x) && visB sc x && okName x) && tgB V sc tg ptg && chkSs V body sc pb
    | _ => false
  | .whiles c body => fun sc st => match st with
    | .While pc pb [] _ => notIfx pc && chkE V c sc pc && chkSs V body sc pb
    | _ => false
  | .pass => fun _ st => match st with
    | .Pass _ => true
    | _ => false
  | .dput e o k => fun sc st => match st with
    | .Assign [.Subscript po pk _] pe _ => notSlice pk && notComp pe && chkE V e sc pe && chkE V o sc po && chkE V k sc pk
    | _ => false
  | .lput e o k => fun sc st => match st with
    | .Assign [.Subscript po pk _] pe _ => notSlice pk && notComp pe && chkE V e sc pe && chkE V o sc po && chkE V k sc pk
    | _ => false
  | .linc c o k => fun sc st => match st with
    | .AugAssign (.Subscript po pk _) .Add (.Constant (.int c') _ _) _ => decide (c' = c) && notSlice pk && chkE V o sc po && chkE V k sc pk
    | _ => false
  | .fput c f e o => fun sc st => match st with
    | .Assign [.Attribute po g _] pe _ => decide (g = f) && notComp pe && V.fld c f && chkE V e sc pe && chkE V o sc po
    | _ => false
  | .nev => fun _ _ => true
  | .rais c => fun sc st => match st with
    | .Raise (some (.Call (.Name x _) [.Constant (.str _) _ _] [] _)) none _ => decide (V.xc c = some x) && glB sc x && okName x
    | _ => false
  | .tryk b j i tb => fun sc st => match st with
    | .Try body [.ExceptHandler (some (.Name x _)) (some n) [.Assign [.Name y _] (.Call (.Name g _) [.Name n2 _] [] _) _] _] [] [] _ =>
      (match V.kn with
      | some q => decide (q.tb = tb) && decide (q.base = x) && decide (q.name = g)
      | none => false) && decide (n2 = n) && decide (V.N[j]? = some n) && decide (V.N[i]? = some y) && decide (sc.names.lookup n = some .local) && locB sc y && visB sc n && okName n && okName g && okName x && glB sc g && glB sc x && chkSs V b sc body
    | _ => false
  | .swp i e k1 k2 => fun sc st => match st with
    | .Assign [.Tuple [.Subscript (.Name x _) pk1 _, .Subscript (.Name y _) pk2 _] _ _] pe _ => decide (V.N[i]? = some x) && decide (V.N[i]? = some y) && visB sc x && visB sc y && okName x && okName y && notSlice pk1 && notSlice pk2 && notComp pe && chkE V e sc pe && chkE V k1 sc pk1 && chkE V k2 sc pk2
    | _ => false
  | .aft _ s => chkS V s
def chkSs (V : Voc) : Blk → Scope → List Stmt → Bool
  | .nil => fun _ ss => match ss with
    | [] => true
    | _ => false
  | .cons s b => fun sc ss => match ss with
    | st :: rest => chkS V s sc st && chkSs V b sc rest
    | [] => false
end
/-- a def's own piece: it runs in its own frame -/
structure SitF (X : Cx) (Cl ClX : Nat → Addr) (W : WX) (sc : Scope) (V : Voc) (D : Defs) (G : Str → Option Val) (k : Nat) : Prop where
  s : Sit X Cl ClX W sc V D G k
  fn : ∀ x, X.fn x = true
  po : PassesOwn (model X.prog X.w) X.A X.env X.xe
  bk : X.env.blockKind = .function
  stk : X.stack = X.env :: X.outer
  frm : X.env.frame = some X.env.locals
section
variable {Cl ClX : Nat → Addr} {D : Defs} {G : Str → Option Val} {k : Nat} {X : Cx} {W : WX} {sc : Scope} {V : Voc} {pr : List Nat}
theorem rs_bls {K : PySem.W.Frag} (P : Ps) (H : Hp) : ∀ ns : List Bool, Rs K Cl P H (ns.map .bl) (ns.map .bl) emp
  | [] => ⟨rfl, rfl⟩
  | n :: ns => by
    simp only [List.map_cons, Rs]
    exact ⟨_, _, emp, emp, rfl, ⟨rfl, rfl⟩, rs_bls P H ns, dis_emp _, (uni_emp _).symm⟩
theorem try_ok {body : List Stmt} {run : Env → Flow} {n y : Str} {j i : Nat} {q : KnT} {p1 p2 p3 p4 p5 p6 p7 pos : Pos} (S : Sit X Cl ClX W sc V D G k) (hs : X.stack = X.env :: X.outer) (hf : X.env.frame = some X.env.locals) (hq : V.kn = some q)
    (hb : ∀ (W' : WX) (pn : List (Addr × Obj)) (xe : Value → Shared → Prop), Takes (X.tr pn xe) W' → PassesOwn (model X.prog X.w) X.A X.env xe → PSs (X.tr pn xe) body (tS X.K Cl ClX W' pr run))
    (h1 : V.N[j]? = some n) (h2 : V.N[i]? = some y) (h3 : sc.names.lookup n = some .local) (h4 : locB sc y = true) (h5 : visB sc n = true) (hfn : X.fn y = true) (h6 : (n == ("__debug__" : Str)) = false ∧ (n == ("__classdict__" : Str)) = false ∧ n ≠ "__name__") (h7 : (q.name == ("__debug__" : Str)) = false ∧ (q.name == ("__classdict__" : Str)) = false ∧ q.name ≠ "__name__") (h8 : (q.base == ("__debug__" : Str)) = false ∧ (q.base == ("__classdict__" : Str)) = false ∧ q.base ≠ "__name__") (h9 : glB sc q.name = true) (h10 : glB sc q.base = true) :
    PS X (.Try body [.ExceptHandler (some (.Name q.base p1)) (some n) [.Assign [.Name y p2] (.Call (.Name q.name p3) [.Name n p4] [] p5) p6] p7] [] [] pos) (tS X.K Cl ClX W pr fun ρ => tryK pr j i q.tb (run ρ)) := by
  obtain ⟨fa, fd, params, bd, scope, B, F, SS, Bd, hm, hk, hc, hB, ht⟩ := S.xf.knd q hq
  have hd : X.A.depth < recursionLimit := S.room.depth
  refine PS.le (ps_try_as hs hf S.nd (S.ix h1) (by unfold PySem.Env.kindOf; rw [S.sc]; exact h3) ⟨S.gl h10, h8.1, .inl hB⟩ S.tk hb (fun a oe cls d pn hz hv => pss_knd (cs := q.cs) F SS Bd hm hk hc (S.bl _ (by decide)) hd S.nd (S.ix h1) (S.vis h5) h6.1 h6.2.1 (S.ix h2) (S.loc h4) hfn (S.gl h9) h7.1 hz hv)) fun D' σ H ⟨P, ρ, f, l, lv, w⟩ => ⟨P, ρ, f, l, lv, ?_⟩
  dsimp only at w
  cases hr : run ρ with
  | bad => rw [hr] at w; exact w
  | next ρ1 => rw [hr] at w; exact w
  | ret v ρ1 => rw [hr] at w; exact w
  | exc e ρ1 =>
    rw [hr] at w
    simp only [tryK] at w
    split at w
    · rename_i hc2
      simp only [Bool.and_eq_true, decide_eq_true_eq] at hc2
      obtain ⟨⟨c1, c2, cn⟩, c3, c4⟩ := hc2
      cases hb2 : q.tb[e.c]? with
      | none => rw [hb2] at w; exact w.elim
      | some bs =>
        rw [hb2] at w
        intro c d σ1 P1 H1 f1 o xo
        obtain ⟨k1, k2, k3, k4⟩ := ht _ _ hb2
        obtain ⟨rfl, xd⟩ := xo
        have hsl : e.slot = none := Option.isNone_iff_eq_none.mp c3
        rw [hsl] at xd
        obtain rfl : d = none := xd
        have hl := o.re.length
        refine ⟨true, k2, fun _ a na => ⟨_, bs, rfl, rfl, k1, k3, k4, by rw [List.getElem?_set_self (by omega)], fun p hp => ?_⟩, fun z => by cases z⟩
        obtain ⟨g, s, t⟩ := o.re.drop (i := j)
        have T := tr_upd (P := P1) (o := .lst (bs.map L2.V.bl)) hp
        have l2 := (t none).tr T (dis_emp _) (dis_emp _)
        have hR : R X.K Cl P1 (upd H1 p (.lst (bs.map L2.V.bl))) (.node (.lst false) (bs.map .bl)) (.ref p) (one p) := by
          refine ⟨p, bs.map L2.V.bl, one p, emp, rfl, ⟨upd_same, rfl⟩, rs_bls _ _ bs, ?_⟩
          rw [if_pos (show (Tag.lst false).own = true from rfl)]
          exact ⟨(uni_emp _).symm, dis_emp _, fun b z y => o.lv b y (by rw [show b = p from z]; exact hp)⟩
        obtain ⟨f3, l3, s3⟩ := l2.set (i := i) (by rw [List.length_set]; exact c1) hR (fun b z y => (o.re.live b (s b y)).1 (by rw [show b = p from z]; exact hp))
        have es : ((σ1.set j (some (L2.V.ref a))).set i (some (.ref p))).set j none = (σ1.set j none).set i (some (.ref p)) := by
          rw [List.set_comm _ _ cn, List.set_set]
        show D'.nx (((σ1.set j (some (L2.V.ref a))).set i (some (.ref p))).set j none) _
        rw [es]
        refine w _ P1 _ f3 (o.trans ⟨T.weak (fun b z => z.elim), l3, fun b z => (s3 b z).elim (fun y => .inl (s b y)) fun y => .inr (by rw [show b = p from y]; exact hp), lv_upd o.lv, by simp, fun k hk => ?_⟩)
        rw [List.getElem?_set_ne (free_ne c4 hk (by simp)), List.getElem?_set_ne (free_ne c4 hk (by simp))]
    · exact w.elim
theorem swap_ok (S : SitF X Cl ClX W sc V D G k) {x : Str} {px : Pos} {pos : Pos} {pe : Expr} {i : Nat} {e : Ex} (hi : X.N[i]? = some x) (hx : L2.Loc X.env.scope x) (h : (match swapB sc x px pos.line pe with
      | 0 => true
      | 1 => true
      | 2 => true
      | _ => false) = true) (he : chkE V e sc pe = true) (hq : notQ e = true) : PS X (.Assign [.Name x px] pe pos) (tS X.K Cl ClX W pr (sSet pr i (ev D G e))) := by
  have ge := (chkE_ok e S.s he).v
  by_cases hc : notComp pe = true
  · exact ts_set S.s.nd hi hx (S.fn x) ge (swaps_of hc _ _ _)
  · cases pe <;> first | exact absurd rfl hc | skip
    case ListComp pelt gens scope p =>
      match gens, h with
      | [], h => simp [swapB, notComp] at h
      | _ :: _ :: _, h => simp [swapB, notComp] at h
      | [g], h =>
        simp only [swapB] at h
        have hsw : swapsWith (.ListComp pelt [g] scope p) (some (.Name x px)) pos.line X.env = pure (decide (sc.names.lookup x = some .local) && px.line == p.line && !(scope.names.any fun (n, k) => n == x && (k == .local || k == .cell))) := by
          unfold swapsWith
          have hk : X.env.kindOf x = sc.names.lookup x := by rw [← S.s.sc]; rfl
          simp only [pure_bind, S.bk, hk]
          congr 1
          by_cases hl : sc.names.lookup x = some .local
          · simp [hl]; rfl
          · simp [hl]
        by_cases hsv : (decide (sc.names.lookup x = some .local) && px.line == p.line && !(scope.names.any fun (n, k) => n == x && (k == .local || k == .cell))) = true
        · rw [hsv] at hsw
          have hl : sc.names.lookup x = some .local := by
            simp only [Bool.and_eq_true, decide_eq_true_eq] at hsv
            exact hsv.1.1
          cases e with
          | comp tg ik its tests elt =>
            simp only [chkE] at he
            split at he
            · rename_i pelt2 ptg iter ifs scope2 pos2 heq
              cases heq
              simp only [Bool.and_eq_true] at he
              obtain ⟨⟨⟨⟨⟨⟨hk, h1⟩, hn⟩, hb⟩, hg⟩, ht⟩, hee⟩ := he
              obtain ⟨wi, g, tt, te, p1, p2, p3, p4, p5, p6, p7⟩ := lc_ok (tests := tests) (elt := elt) S.s (chkI_ok its S.s h1 ptg (enum_tg hk hg)) hb hg (fun X2 S2 => chkT_ok tests S2 ht) fun X2 S2 => (chkE_ok elt S2 hee).v
              have := ps_setLc (py := px) (spos := pos) S.s.calm S.s.nd hi (by rw [S.s.sc]; exact hl) hsw p1 p2 p3 p4 p5 (fold_of hn X.env)
              rw [p6] at this
              exact PS.le this fun D' σ H h => p7 _ _ _ (set_core (e := true) h)
            · cases he
          | compP tg i tests elt =>
            simp only [chkE] at he
            split at he
            · rename_i pelt2 ptg y p ifs scope2 pos2 heq
              cases heq
              simp only [Bool.and_eq_true, decide_eq_true_eq] at he
              obtain ⟨⟨⟨⟨⟨⟨h1, h2⟩, h3⟩, hb⟩, hg⟩, ht⟩, hee⟩ := he
              obtain ⟨wi, g, tt, te, p1, p2, p3, p4, p5, p6, p7⟩ := lcP_ok (tests := tests) (elt := elt) S.s (pe_var (S.s.ix h1) (S.s.vis h2) (ok3 h3).1 (ok3 h3).2.1) hb hg (fun X2 S2 => chkT_ok tests S2 ht) fun X2 S2 => (chkE_ok elt S2 hee).v
              have := ps_setLc (py := px) (spos := pos) S.s.calm S.s.nd hi (by rw [S.s.sc]; exact hl) hsw p1 p2 p3 p4 p5 (fold_of rfl X.env)
              rw [p6] at this
              exact PS.le this fun D' σ H h => p7 _ _ _ (set_core (e := true) h)
            · cases he
          | compQ tg i tests elt => cases hq
          | _ => simp [chkE, plainT, notComp] at he
        · rw [Bool.not_eq_true] at hsv
          rw [hsv] at hsw
          exact ts_set S.s.nd hi hx (S.fn x) ge hsw
    all_goals simp [swapB, notComp] at h
theorem swaps_sub {a o i : Expr} {p : Pos} (h : notComp a = true) (n : Nat) (env : PySem.Env) : swapsWithSole [.Subscript o i p] a n env = pure false := by
  cases a <;> first | rfl | cases h
theorem swapped_sub {a o i : Expr} {p : Pos} (env : PySem.Env) : swappedStores [.Subscript o i p] a env = pure none := by
  cases a <;> rfl
theorem asgSub_of {o i : Expr} {p : Pos} (h : notSlice i = true) (v : Value) : assign (.Subscript o i p) X.env v = (do
      let ov ← holding [v] (eval o X.env)
      let iv ← holding [v, ov] (eval i X.env)
      standAt p
      holding [v, ov, iv] (setItem ov iv v)
      release [v, ov, iv] []) := by
  cases i <;> first | rfl | cases h
mutual
theorem chkS_ok {N : Nat} : ∀ (s : St) {X : Cx} {W : WX} (S : SitF X Cl ClX W sc V D G k) {pr : List Nat} {st : Stmt}, chkS V s sc st = true → PS X st (tS X.K Cl ClX W pr (ex D G N pr s))
  | .set i e, X, W, S, pr, st, h => by
    simp only [chkS] at h
    split at h
    · simp only [Bool.and_eq_true, decide_eq_true_eq] at h
      obtain ⟨⟨⟨⟨h1, h2⟩, h3⟩, hq⟩, h4⟩ := h
      simp only [ex]
      exact swap_ok S (S.s.ix h1) (S.s.loc h2) h4 h3 hq
    · cases h
  | .unp is e, X, W, S, pr, st, h => by
    simp only [chkS] at h
    split at h
    · simp only [Bool.and_eq_true, tgB] at h
      obtain ⟨⟨⟨h1, h2⟩, h3⟩, h4⟩ := h
      obtain ⟨g1, g2, g3⟩ := tg_go S.s (fun x _ => S.fn x) h1
      simp only [ex]
      exact PS.le (ps_asg (chkE_ok e S.s h4).v (pg_tup S.s.calm g1 g2 g3) (swaps_name h2 _ _) (swapped_of h3 _)) fun D' σ H h => unp_core h
    · cases h
  | .expr e, X, W, S, pr, st, h => by
    simp only [chkS] at h
    split at h
    · simp only [Bool.and_eq_true] at h
      simp only [ex]
      exact ts_expr (chkE_ok e S.s h.2).v (swaps_of h.1 _ _ _)
    · cases h
  | .ret e, X, W, S, pr, st, h => by
    simp only [chkS] at h
    split at h
    · simp only [ex]
      exact ts_ret (chkE_ok e S.s h).v
    · cases h
  | .retN, X, W, S, pr, st, h => by
    simp only [chkS] at h
    split at h
    · simp only [ex]
      exact ts_retN
    · cases h
  | .ifs c a b, X, W, S, pr, st, h => by
    simp only [chkS] at h
    split at h
    · simp only [Bool.and_eq_true] at h
      obtain ⟨⟨⟨h1, h2⟩, h3⟩, h4⟩ := h
      simp only [ex]
      exact ts_if ((chkE_ok c S.s h2).t h1) (chkSs_ok a S h3) (chkSs_ok b S h4)
    · cases h
  | .fors tg ik its body, X, W, S, pr, st, h => by
    simp only [chkS] at h
    split at h
    · simp only [Bool.and_eq_true] at h
      obtain ⟨⟨⟨⟨hk, h1⟩, h2⟩, h3⟩, h4⟩ := h
      obtain ⟨g, pg, gok⟩ := tg_ok S.s (fun x _ => S.fn x) h1
      simp only [ex]
      exact ts_for gok S.po S.s.calm (chkI_ok its S.s h3 _ (enum_tg hk h1)) pg (chkSs_ok body S h4) (fold_of h2 _)
    · cases h
  | .forsP tg i body, X, W, S, pr, st, h => by
    simp only [chkS] at h
    split at h
    · simp only [Bool.and_eq_true, decide_eq_true_eq] at h
      obtain ⟨⟨⟨⟨h1, h2⟩, h3⟩, h4⟩, h5⟩ := h
      obtain ⟨g, pg, gok⟩ := tg_ok S.s (fun x _ => S.fn x) h4
      simp only [ex]
      exact ts_forP gok S.po S.s.calm (pe_var (S.s.ix h1) (S.s.vis h2) (ok3 h3).1 (ok3 h3).2.1) pg (chkSs_ok body S h5) (fold_of rfl _)
    · cases h
  | .aft i s, X, W, S, pr, st, h => by
    simp only [chkS] at h
    simp only [ex]
    exact ts_aft (chkS_ok s S h)
  | .whiles c body, X, W, S, pr, st, h => by
    simp only [chkS] at h
    split at h
    · simp only [Bool.and_eq_true] at h
      obtain ⟨⟨h1, h2⟩, h3⟩ := h
      simp only [ex]
      exact ts_while S.po ((chkE_ok c S.s h2).t h1) (chkSs_ok body S h3)
    · cases h
  | .pass, X, W, S, pr, st, h => by
    simp only [chkS] at h
    split at h
    · simp only [ex]
      exact ts_pass
    · cases h
  | .dput e o k, X, W, S, pr, st, h => by
    simp only [chkS] at h
    split at h
    · simp only [Bool.and_eq_true] at h
      obtain ⟨⟨⟨⟨h1, h2⟩, h3⟩, h4⟩, h5⟩ := h
      have hu : X.A.units + 1 < cLine := by have := S.s.room.un; omega
      simp only [ex]
      exact ts_dput hu (ev_quiet D G o) (ev_quiet D G k) (chkE_ok e S.s h3).v (chkE_ok o S.s h4).v (chkE_ok k S.s h5).v (swaps_of h2 _ _ _)
    · cases h
  | .lput e o k, X, W, S, pr, st, h => by
    simp only [chkS] at h
    split at h
    · simp only [Bool.and_eq_true] at h
      obtain ⟨⟨⟨⟨h1, h2⟩, h3⟩, h4⟩, h5⟩ := h
      simp only [ex]
      exact ts_lput (ev_quiet D G o) (ev_quiet D G k) (chkE_ok e S.s h3).v (chkE_ok o S.s h4).v (chkE_ok k S.s h5).v (swaps_sub h2 _ _) (swapped_sub _) (asgSub_of h1)
    · cases h
  | .linc c o k, X, W, S, pr, st, h => by
    simp only [chkS] at h
    split at h
    · simp only [Bool.and_eq_true, decide_eq_true_eq] at h
      obtain ⟨⟨⟨rfl, h1⟩, h2⟩, h3⟩ := h
      simp only [ex]
      exact ts_linc (ev_quiet D G k) (chkE_ok o S.s h2).v (chkE_ok k S.s h3).v h1
    · cases h
  | .fput c f e o, X, W, S, pr, st, h => by
    simp only [chkS] at h
    split at h
    · simp only [Bool.and_eq_true, decide_eq_true_eq] at h
      obtain ⟨⟨⟨⟨rfl, h1⟩, h2⟩, h3⟩, h4⟩ := h
      simp only [ex]
      exact ts_fput (S.s.cfld _ _ h2).1 (S.s.cfld _ _ h2).2 (ev_quiet D G o) (chkE_ok e S.s h3).v (chkE_ok o S.s h4).v (swaps_of h1 _ _ _)
    · cases h
  | .swp i e k1 k2, X, W, S, pr, st, h => by
    simp only [chkS] at h
    split at h
    · simp only [Bool.and_eq_true, decide_eq_true_eq] at h
      obtain ⟨⟨⟨⟨⟨⟨⟨⟨⟨⟨⟨h1, h1'⟩, h2⟩, h2'⟩, h3⟩, h3'⟩, h4⟩, h5⟩, h6⟩, h7⟩, h8⟩, h9⟩ := h
      simp only [ex, evs, effs, eff]
      exact PS.le (ps_asg (chkE_ok e S.s h7).v (pg_tup S.s.calm (pgs_cons (pg_sub (tv_var (pe_var (S.s.ix h1) (S.s.vis h2) (ok3 h3).1 (ok3 h3).2.1)) (chkE_ok k1 S.s h8).v set_list (asgSub_of h4)) (pgs_cons (pg_sub (tv_var (pe_var (S.s.ix h1') (S.s.vis h2') (ok3 h3').1 (ok3 h3').2.1)) (chkE_ok k2 S.s h9).v set_list (asgSub_of h5)) pgs_nil))) (swaps_name h6 _ _) (swp_none _)) fun D' σ H h => swp_core (ev_quiet D G k1) (ev_quiet D G k2) h
    · cases h
  | .rais c, X, W, S, pr, st, h => by
    simp only [chkS] at h
    split at h
    · simp only [Bool.and_eq_true, decide_eq_true_eq] at h
      obtain ⟨⟨h1, h2⟩, h3⟩ := h
      obtain ⟨x1, x2, x3, x4, x5⟩ := S.s.xf.xcd _ _ h1
      simp only [ex]
      exact PS.le (ps_raise S.s.calm S.s.tk (pmk_own PySem.F.excBase_ValueError x2 x1 x3 (raises_own x4 x5) (S.s.gl h2) (ok3 h3).1)) fun D' σ H ⟨P, ρ, f, l, lv, q⟩ => q _ _ σ P H f (OutS.refl l lv) ⟨rfl, rfl⟩
    · cases h
  | .tryk b j i tb, X, W, S, pr, st, h => by
    simp only [chkS] at h
    split at h
    · simp only [Bool.and_eq_true, decide_eq_true_eq] at h
      obtain ⟨⟨⟨⟨⟨⟨⟨⟨⟨⟨⟨⟨h0, rfl⟩, h1⟩, h2⟩, h3⟩, h4⟩, h5⟩, h6⟩, h7⟩, h8⟩, h9⟩, h10⟩, h11⟩ := h
      split at h0
      · rename_i q hq
        simp only [Bool.and_eq_true, decide_eq_true_eq] at h0
        obtain ⟨⟨rfl, rfl⟩, rfl⟩ := h0
        simp only [ex]
        exact try_ok S.s S.stk S.frm hq (fun W' pn xe tk po => chkSs_ok b (X := X.tr pn xe) (W := W') ⟨S.s.tr pn xe tk, S.fn, po, S.bk, S.stk, S.frm⟩ h11) h1 h2 h3 h4 h5 (S.fn _) (ok3 h6) (ok3 h7) (ok3 h8) h9 h10
      · cases h0
    · cases h
  | .nev, X, W, S, pr, st, h => by
    simp only [ex]
    exact ⟨fun pins s σ H Q I ⟨P, ρ, f, l, lv, q⟩ => q.elim⟩
theorem chkSs_ok {N : Nat} : ∀ (b : Blk) {X : Cx} {W : WX} (S : SitF X Cl ClX W sc V D G k) {pr : List Nat} {ss : List Stmt}, chkSs V b sc ss = true → PSs X ss (tS X.K Cl ClX W pr (exs D G N pr b))
  | .nil, X, W, S, pr, ss, h => by
    simp only [chkSs] at h
    split at h
    · simp only [exs]
      exact ts_nil
    · cases h
  | .cons s b, X, W, S, pr, ss, h => by
    simp only [chkSs] at h
    split at h
    · simp only [Bool.and_eq_true] at h
      have h1 := chkS_ok (N := N) s S (pr := pr) h.1
      have h2 := chkSs_ok (N := N) b S (pr := pr) h.2
      simp only [exs]
      exact ts_cons h1 h2
    · cases h
end
end
end VS

namespace VS
open PySem L2
/-! ### defs against the text, n calls deep -/
/-- a def: its name, its statement in the text, its names (parameters first), its tree -/
structure DefT where
  name : Str
  st : Stmt
  N : List Str
  a : DefA
  /-- of a class: its number, its name -/
  cls : Option (Nat × Str)
  qual : Str
/-- a class: its name, its fields, its __init__ -/
structure ClsT where
  name : Str
  flds : List Str
  init : Option Nat
/-- the exception classes of a text -/
structure XcT where
  xs : List Str := []
  kn : Option KnT := none
  /-- global tuples of texts -/
  gts : List (Str × List Str) := []
theorem XF.nil {K : PySem.W.Frag} {mg : Str → Option Value} {ClX : Nat → Addr} : XF K mg ClX (fun c => (XcT.mk [] none []).xs[c]?) (XcT.mk [] none []).kn := ⟨fun c x h => by simp at h, fun q h => by cases h⟩
def DefT.ps (t : DefT) : List Str := t.N.take t.a.modes.length
def vocOf (ts : List DefT) (cs : List ClsT) (xt : XcT) (N : List Str) : Voc where
  xc := fun c => xt.xs[c]?
  kn := xt.kn
  fn := fun f => (ts[f]?).bind fun t => match t.cls with
    | none => some (t.name, t.a.modes.length)
    | some _ => none
  N := N
  own := fun _ => true
  fld := fun c f => match cs[c]? with
    | some q => q.flds.contains f
    | none => false
  mt := fun f => (ts[f]?).bind fun t => t.cls.map fun q => (q.1, t.name, t.a.modes.length)
  mkn := fun c => (cs[c]?).bind fun q => q.init.bind fun f => (ts[f]?).map fun t => (q.name, f, t.a.modes.length)
def fnScopeB (N P : List Str) (sc : Scope) : Bool := (match sc.kind with
  | .function => true
  | _ => false) && !sc.isCoroutine && !sc.isGenerator && decide N.Nodup && decide (N.take P.length = P) && (P.all fun x => decide (sc.names.lookup x = some .local ∨ sc.names.lookup x = some .cell)) && (sc.names.all fun y => decide (y.2 ≠ .free))
theorem fnScope_ok {N P : List Str} {sc : Scope} (h : fnScopeB N P sc = true) : FnScope N P sc := by
  unfold fnScopeB at h
  simp only [Bool.and_eq_true, Bool.not_eq_true', decide_eq_true_eq, List.all_eq_true] at h
  obtain ⟨⟨⟨⟨⟨⟨h1, h2⟩, h3⟩, h4⟩, h5⟩, h6⟩, h7⟩ := h
  refine ⟨?_, h2, h3, h4, h5, h6, h7⟩
  split at h1
  · assumption
  · cases h1
def chkD (ts : List DefT) (cs : List ClsT) (xt : XcT) (t : DefT) : Bool := decide (t.a.nslots = t.N.length) && decide (t.a.modes.length ≤ t.N.length) && fnScopeB t.N t.ps (defScope t.st) && chkSs (vocOf ts cs xt t.N) t.a.body (defScope t.st) (defBody t.st)
/-- what the text's top holds of a def -/
structure DefF (K : PySem.W.Frag) (Cl : Nat → Addr) (mg : Str → Option Value) (t : DefT) (fa : Addr) (fd : FuncData) : Prop where
  F : FunD K t.name t.qual (defArgs t.st) (defBody t.st) (defScope t.st) [] [] fa fd
  hm : t.cls = none → mg t.name = some (.ref fa)
  hc : ∀ c x, t.cls = some (c, x) → Cls K (Cl c) ∧ Meth K (Cl c) t.name fa
  bd : Binds K fd t.ps []
/-- what the text's top holds of its classes -/
structure ClsF (K : PySem.W.Frag) (Cl : Nat → Addr) (mg : Str → Option Value) (ts : List DefT) (c : Nat) (q : ClsT) : Prop where
  cls : Cls K (Cl c)
  noat : ∀ f ∈ q.flds, NoAttr K (Cl c) f
  hm : mg q.name = some (.ref (Cl c))
  mki : ∀ i, q.init = some i → ∀ t, ts[i]? = some t → ∃ fa fd, DefF K Cl mg t fa fd ∧ Mk K (Cl c) fa
section
variable {P : Program} {w : World} {K : PySem.W.Frag} {mg : Str → Option Value} {base : Heap} {Cl ClX : Nat → Addr} {G : Str → Option Val} {M : Nat}
theorem ps_len {t : DefT} (h : t.a.modes.length ≤ t.N.length) : t.ps.length = t.a.modes.length := by
  unfold DefT.ps
  rw [List.length_take]
  omega
theorem sp_len {ms : List Bool} {F : List Val → FRes} {Vs : List V} {H : Hp} {Q : VK} {E : XK} (h : spOf K Cl ClX ms F Vs H Q E) : Vs.length = ms.length := by
  obtain ⟨P, f, as, rs, lv, np, _⟩ := h
  rw [← rs.length, nPure_len np]
theorem mo_at (G : Str → Option Val) (M n : Nat) {ts : List DefT} {f : Nat} {t : DefT} (h : ts[f]? = some t) : (defsAt G M (ts.map (·.a)) n).modes f = t.a.modes := by
  cases n <;> simp only [defsAt, List.getElem?_map, h, Option.map_some, Option.getD_some]
theorem defs_ok {ts : List DefT} (bl : ∀ x ∈ bltNames, mg x = none) (glo : ∀ y v, G y = some v → ∃ u U, mg y = some u ∧ RelV U u ∧ ∀ P H, R K Cl P H v U emp) {cs : List ClsT} {xt : XcT} (xf : XF K mg ClX (fun c => xt.xs[c]?) xt.kn) (hc : ∀ t ∈ ts, chkD ts cs xt t = true) (hf : ∀ t ∈ ts, ∃ fa fd, DefF K Cl mg t fa fd) (hq : ∀ c q, cs[c]? = some q → ClsF K Cl mg ts c q) :
    ∀ (n : Nat) (i : Nat) (t : DefT), ts[i]? = some t → ∀ fa fd, DefF K Cl mg t fa fd → FnG P w K mg base (L2.CX P w) n fa fd t.ps (spOf K Cl ClX t.a.modes ((defsAt G M (ts.map (·.a)) n).run i))
  | 0, i, t, hi, fa, fd, d => by
    have hcd := hc t (List.mem_of_getElem? hi)
    unfold chkD at hcd
    simp only [Bool.and_eq_true, decide_eq_true_eq] at hcd
    obtain ⟨⟨⟨h1, h2⟩, h3⟩, h4⟩ := hcd
    refine ⟨fun vs H Q E h => by rw [sp_len h, ps_len h2], fun A gu outer s H args us vs Q E hr e0 hb hv h => ?_⟩
    obtain ⟨P, f, as, rs, lv, np, z⟩ := h
    exact z.elim
  | n + 1, i, t, hi, fa, fd, d => by
    have hcd := hc t (List.mem_of_getElem? hi)
    unfold chkD at hcd
    simp only [Bool.and_eq_true, decide_eq_true_eq] at hcd
    obtain ⟨⟨⟨h1, h2⟩, h3⟩, h4⟩ := hcd
    have S := fnScope_ok h3
    refine fnG d.F S (fun vs H Q E h => by rw [sp_len h, ps_len h2]) fun cdv A outer s H vs Q E gu hr h => ?_
    have hrun : ∀ as, (defsAt G M (ts.map (·.a)) (n + 1)).run i as = runDef (defsAt G M (ts.map (·.a)) n) G M t.a as := fun as => by
      simp only [defsAt, List.getElem?_map, hi, Option.map_some]
    obtain ⟨hl, hts⟩ := body_spec (n := t.N.length) (run := exs (defsAt G M (ts.map (·.a)) n) G M (prot 0 t.a.modes) t.a.body) h2 (fun as ha => by
      rw [hrun as]
      unfold runDef
      rw [if_pos ha, h1]
      try rfl) h
    refine ⟨_, chkSs_ok (Cl := Cl) (ClX := ClX) (D := defsAt G M (ts.map (·.a)) n) (G := G) (N := M) (pr := prot 0 t.a.modes) (W := fun c d _ H => E c d H) (k := n) (sc := defScope t.st) (V := vocOf ts cs xt t.N) t.a.body ?_ h4, ?_⟩
    · refine ⟨⟨rfl, S.nd, rfl, rfl, takes_of rfl rfl rfl rfl, hr, gu, bl, ?_, glo, ?_, ?_, ?_, xf⟩, fun _ => rfl, passes_of rfl, ?_, rfl, rfl⟩
      · intro f x m hfx
        simp only [vocOf, Option.bind_eq_some_iff] at hfx
        obtain ⟨t', ht', e⟩ := hfx
        cases hcl : t'.cls with
        | some q => rw [hcl] at e; cases e
        | none =>
        rw [hcl] at e
        cases e
        obtain ⟨fa', fd', d'⟩ := hf t' (List.mem_of_getElem? ht')
        have := defs_ok bl glo xf hc hf hq n f t' ht' fa' fd' d'
        have hm := mo_at G M n ht'
        exact ⟨fa', fd', t'.ps, by rw [hm]; exact this, d'.hm hcl, d'.F.kp, d'.bd, by rw [hm]⟩
      · intro c f hcf
        simp only [vocOf] at hcf
        cases hcs : cs[c]? with
        | none => rw [hcs] at hcf; cases hcf
        | some q =>
          rw [hcs] at hcf
          have z := hq c q hcs
          exact ⟨z.cls, z.noat f (by simpa using hcf)⟩
      · intro f c m k hfx
        simp only [vocOf, Option.bind_eq_some_iff, Option.map_eq_some_iff] at hfx
        obtain ⟨t', ht', ⟨c', x'⟩, hcl, e⟩ := hfx
        cases e
        obtain ⟨fa', fd', d'⟩ := hf t' (List.mem_of_getElem? ht')
        have := defs_ok bl glo xf hc hf hq n f t' ht' fa' fd' d'
        have hm := mo_at G M n ht'
        exact ⟨fa', fd', t'.ps, by rw [hm]; exact this, (d'.hc _ _ hcl).1, (d'.hc _ _ hcl).2, d'.bd, by rw [hm]⟩
      · intro c x f k hfx
        simp only [vocOf, Option.bind_eq_some_iff, Option.map_eq_some_iff] at hfx
        obtain ⟨q, hcs, f', hi', t', ht', e⟩ := hfx
        cases e
        have z := hq c q hcs
        obtain ⟨fa', fd', d', hmk⟩ := z.mki _ hi' t' ht'
        have := defs_ok bl glo xf hc hf hq n f t' ht' fa' fd' d'
        have hm := mo_at G M n ht'
        exact ⟨fa', fd', t'.ps, by rw [hm]; exact this, hmk, z.hm, d'.bd, by rw [hm]⟩
      · show (if (defScope t.st).kind.isAnnotationScope then _ else (defScope t.st).kind) = _
        rw [S.kind]
        rfl
    · exact hts
end
end VS

namespace VS
open PySem L2
/-! ### the top's facts, without lists -/
def noLst (K : PySem.W.Frag) : PySem.W.Frag := K.filter fun p => !(p.2.cls == .type "list")
theorem lookup_mem {α : Type} {K : List (Addr × α)} {a : Addr} {o : α} : K.lookup a = some o → (a, o) ∈ K := by
  induction K with
  | nil => intro h; cases h
  | cons p r ih =>
    intro h
    obtain ⟨b, u⟩ := p
    simp only [List.lookup_cons] at h
    cases e : a == b with
    | true =>
      rw [e] at h
      cases h
      rw [eq_of_beq e]
      exact List.mem_cons_self
    | false =>
      rw [e] at h
      exact List.mem_cons_of_mem _ (ih h)
def atOf (t : DefT) : Str × Option Str := match t.cls with
  | none => (t.name, none)
  | some (_, x) => (x, some t.name)
def dOf (t : DefT) : He.DefD := ⟨atOf t, t.name, t.qual, defArgs t.st, defBody t.st, defScope t.st, [], []⟩
def faT (t : DefT) : List He.Fa := match t.cls with
  | none => [.glo t.name]
  | some (_, x) => [.meth x t.name]
def faC (q : ClsT) : List He.Fa := [.glo q.name, .cls q.name] ++ ((match q.init with
  | some _ => [.mkr q.name]
  | none => []) ++ q.flds.map (.noat q.name))
def faOf (ts : List DefT) (cs : List ClsT) : List He.Fa := ts.flatMap faT ++ (bltNames.map .free ++ cs.flatMap faC)
/-- the classes' addresses -/
def clOf (cs : List ClsT) (K : PySem.W.Frag) (c : Nat) : Addr := He.ga K (((cs[c]?).map (·.name)).getD "")
def okCls (ts : List DefT) (cs : List ClsT) : Bool := (ts.all fun t => match t.cls with
  | none => true
  | some (c, x) => decide ((cs[c]?).map (·.name) = some x)) && ((List.range cs.length).all fun c => match cs[c]? with
  | none => true
  | some q => match q.init with
    | none => true
    | some i => match ts[i]? with
      | none => true
      | some t => decide (t.cls = some (c, q.name)) && decide (t.name = "__init__"))
/-! ### the exception classes -/
def dK (q : KnT) : He.DefD := ⟨(q.name, none), q.name, q.qual, defArgs q.st, defBody q.st, defScope q.st, [], []⟩
def fnX (ts : List DefT) (xt : XcT) : List He.DefD := ts.map dOf ++ xt.kn.toList.map dK
/-- isinstance asks the class's instances rightly -/
def excB (K : PySem.W.Frag) (D : Addr) : Bool := He.eqO (PySem.W.findIn K (.ref D) "__getattribute__") (some (some (.builtin "BaseException.__getattribute__"))) && (He.eqO (PySem.W.findIn K (.ref D) "__getattr__") (some none) && (decide (PySem.W.subIn K (.ref D) (.type "BaseException") = some true) && (PySem.W.hasDictIn K D && (He.eqO (PySem.W.findIn K (.ref D) "__class__") (some (some (.builtin "object.__class__"))) && (He.eqO (PySem.W.specialIn K (.builtin "object.__class__") "__get__") (some (some (.builtin "getset_descriptor.__get__"))) && (decide (PySem.W.takesIn K (.builtin "object.__class__") = some true) && decide (PySem.W.mroIn K D (.type "object") = some true)))))))
theorem excB_ok {K : PySem.W.Frag} {D : Addr} (h : excB K D = true) : ExcC K D := by
  unfold excB at h
  simp only [Bool.and_eq_true, decide_eq_true_eq] at h
  obtain ⟨h1, h2, h3, h4, h5, h6, h7, h8⟩ := h
  exact ⟨He.eqO_ok h1, He.eqO_ok h2, h3, h4, He.eqO_ok h5, He.eqO_ok h6, h7, h8⟩
def kitAB (K : PySem.W.Frag) (D : Addr) (c : Str) (b : Bool) : Bool := ((He.Fa.glo c).ok K && decide (PySem.W.kitOne K (.ref D) (.ref (He.ga K c)) = some b)) || ((He.Fa.free c).ok K && (decide (c ≠ "__name__") && (match bootBuiltins c with
  | some (.type T) => decide (PySem.W.kitOne K (.ref D) (.type T) = some b)
  | _ => false)))
def kitsB (K : PySem.W.Frag) (D : Addr) : List Str → List Bool → Bool
  | [], [] => true
  | c :: cs, b :: bs => kitAB K D c b && kitsB K D cs bs
  | _, _ => false
def strsB : List Value → List Str → Bool
  | [], [] => true
  | .str x _ :: vs, y :: ys => decide (x = y) && strsB vs ys
  | _, _ => false
theorem strs_ok : ∀ {vs : List Value} {ys : List Str}, strsB vs ys = true → Vals (ys.map V.str) vs
  | [], [], _ => .nil
  | [], _ :: _, h => by simp [strsB] at h
  | v :: vs, [], h => by cases v <;> simp [strsB] at h
  | v :: vs, y :: ys, h => by
    cases v with
    | str x t =>
      simp only [strsB, Bool.and_eq_true, decide_eq_true_eq] at h
      obtain ⟨rfl, h2⟩ := h
      exact .cons ⟨t, rfl⟩ (strs_ok h2)
    | _ => simp [strsB] at h
/-- a global tuple of texts -/
def gtB (K : PySem.W.Frag) (p : Str × List Str) : Bool := (He.Fa.glo p.1).ok K && (match K.lookup (He.ga K p.1) with
  | some o => decide (o.cls = .type "tuple") && (match o.data with
    | .seq its _ => decide (its.size ≤ 1000) && strsB its.toList p.2
    | _ => false)
  | none => false)
def gtV (ys : List Str) : Val := .node .ktup (ys.map .str)
theorem gt_ok {K : PySem.W.Frag} {Cl : Nat → Addr} {h : Heap} {mg : Str → Option Value} {p : Str × List Str} (KX : K.In h) (Gn : h.Ns mainGlobals mg) (e : gtB K p = true) : ∃ u U, mg p.1 = some u ∧ RelV U u ∧ ∀ P H, R K Cl P H (gtV p.2) U emp := by
  unfold gtB at e
  simp only [Bool.and_eq_true] at e
  obtain ⟨h1, h2⟩ := e
  cases hl : K.lookup (He.ga K p.1) with
  | none => rw [hl] at h2; cases h2
  | some o =>
    rw [hl] at h2
    simp only [Bool.and_eq_true, decide_eq_true_eq] at h2
    obtain ⟨h3, h4⟩ := h2
    cases hd : o.data with
    | seq its n =>
      rw [hd] at h4
      simp only [Bool.and_eq_true, decide_eq_true_eq] at h4
      have vs := strs_ok h4.2
      refine ⟨_, .ref (He.ga K p.1), He.glo_ok KX Gn h1, rfl, fun P H => ⟨_, p.2.map V.str, emp, emp, rfl, ⟨.inr ⟨o, its, n, hl, h3, hd, by rw [sizeLine_eq]; omega, vs⟩, rfl⟩, ?_, rfl, fun b z => z.elim⟩⟩
      have : ∀ ys : List Str, Rs K Cl P H (ys.map .str) (ys.map V.str) emp := fun ys => by
        induction ys with
        | nil => exact ⟨rfl, rfl⟩
        | cons y r ih => exact ⟨_, _, emp, emp, rfl, ⟨rfl, rfl⟩, ih, emp_dis _, (uni_emp _).symm⟩
      exact this p.2
    | _ => rw [hd] at h4; cases h4
def exB (xt : XcT) (K : PySem.W.Frag) : Bool := xt.gts.all (gtB K) && ((xt.xs.all fun x => (He.Fa.glo x).ok K && (He.Fa.exc x).ok K) && (match xt.kn with
  | none => true
  | some q => (He.Fa.glo q.base).ok K && ((He.Fa.glo q.name).ok K && (fnScopeB [q.par] [q.par] (defScope q.st) && (kndB q.par q.cs (defScope q.st) (defBody q.st) && ((List.range q.tb.length).all fun c => match q.tb[c]?, xt.xs[c]? with
    | some bs, some x => excB K (He.ga K x) && (decide (PySem.W.exmOne K (.ref (He.ga K x)) (.ref (He.ga K q.base)) = some true) && (kitsB K (He.ga K x) q.cs bs && decide (bs.length ≤ 100)))
    | _, _ => false))))))
def clX (xt : XcT) (K : PySem.W.Frag) (c : Nat) : Addr := He.ga K ((xt.xs[c]?).getD "")
def BindK (q : KnT) : Prop := ∀ (kV doc pm : Value) (an : Option Addr) (cdv ct : Value) (us : List Value), us.length = [q.par].length → bindArgs (PySem.W.fnOf q.name q.qual (defArgs q.st) (defBody q.st) (defScope q.st) .none kV doc pm an cdv ct) ⟨us, []⟩ = pure ([q.par].zip us)
theorem kits_ok {K : PySem.W.Frag} {h : Heap} {mg : Str → Option Value} {D : Addr} (KX : K.In h) (Gn : h.Ns mainGlobals mg) : ∀ {cs : List Str} {bs : List Bool}, kitsB K D cs bs = true → Kit K mg D cs bs
  | [], [], _ => .nil
  | [], _ :: _, h => by simp [kitsB] at h
  | _ :: _, [], h => by simp [kitsB] at h
  | c :: cs, b :: bs, h => by
    simp only [kitsB, Bool.and_eq_true] at h
    refine .cons ?_ (kits_ok KX Gn h.2)
    have h1 := h.1
    unfold kitAB at h1
    simp only [Bool.or_eq_true, Bool.and_eq_true, decide_eq_true_eq] at h1
    rcases h1 with ⟨h1, h2⟩ | ⟨h1, h2, h3⟩
    · exact .inl ⟨_, He.glo_ok KX Gn h1, h2⟩
    · refine .inr ⟨He.free_ok KX Gn h1, h2, ?_⟩
      split at h3
      · rename_i T e
        exact ⟨T, e, by simpa using h3⟩
      · cases h3
theorem xf_of {K : PySem.W.Frag} {h : Heap} {mg : Str → Option Value} {fa : List He.Fa} {ts : List DefT} {xt : XcT} (KX : K.In h) (Gn : h.Ns mainGlobals mg) (c : He.SaysD fa (fnX ts xt) K) (e : exB xt K = true) (hb : ∀ q, xt.kn = some q → BindK q) : XF K mg (clX xt K) (fun c => xt.xs[c]?) xt.kn := by
  unfold exB at e
  simp only [Bool.and_eq_true, List.all_eq_true] at e
  obtain ⟨_, e1, e2⟩ := e
  refine ⟨fun i x hi => ?_, fun q hq => ?_⟩
  · obtain ⟨h1, h2⟩ := e1 x (List.mem_of_getElem? hi)
    have hc : clX xt K i = He.ga K x := by unfold clX; rw [hi]; rfl
    have h3 : (PySem.W.excIn K (He.ga K x) He.veBase "ValueError.__new__" && (PySem.W.keepIn K (.ref (He.ga K x)) && (decide (PySem.W.subIn K (.ref (He.ga K x)) (.type "BaseException") = some true) && decide (PySem.W.typeIn K (.ref (He.ga K x)) = some (.type "type"))))) = true := h2
    simp only [Bool.and_eq_true, decide_eq_true_eq] at h3
    rw [hc]
    exact ⟨He.glo_ok KX Gn h1, h3.1, h3.2.1, h3.2.2.1, h3.2.2.2⟩
  · rw [hq] at e2
    simp only [Bool.and_eq_true, List.all_eq_true] at e2
    obtain ⟨h1, h2, h3, h4, h5⟩ := e2
    have hm : dK q ∈ fnX ts xt := List.mem_append_right _ (by rw [hq]; exact List.mem_cons_self)
    obtain ⟨i, hi⟩ := List.mem_iff_getElem?.mp hm
    obtain ⟨fd, F⟩ := c.def_ i hi
    have F' : FunD K q.name q.qual (defArgs q.st) (defBody q.st) (defScope q.st) [] [] (He.ga K q.name) fd := F
    refine ⟨_, fd, _, _, _, _, F', fnScope_ok h3, FunD.bindsN F' (hb q hq), He.glo_ok KX Gn h2, F'.kp, h4, He.glo_ok KX Gn h1, fun i bs hi => ?_⟩
    have h6 := h5 i (List.mem_range.mpr (List.getElem?_eq_some_iff.mp hi).1)
    rw [hi] at h6
    split at h6
    · rename_i bs' x eb ex
      cases eb
      simp only [Bool.and_eq_true, decide_eq_true_eq] at h6
      obtain ⟨k1, k2, k3, k4⟩ := h6
      have hc : clX xt K i = He.ga K x := by unfold clX; rw [ex]; rfl
      rw [hc]
      exact ⟨excB_ok k1, k2, kits_ok KX Gn k3, Nat.le_trans k4 (by rw [sizeLine_eq]; decide)⟩
    · cases h6
def obsN (n : Nat) (fa : List He.Fa) (fn : List He.DefD) (xt : XcT) (g : Addr → Option Obj) : He.AlD × Bool := (He.obsD fa fn (noLst (He.frG g (He.asD g n))), exB xt (noLst (He.frG g (He.asD g n))))
theorem noLst_in {h : Heap} {as : List Addr} : PySem.W.Frag.In (noLst (He.frG h.get? as)) h := fun b o e => by
  have m := lookup_mem e
  unfold noLst at m
  have m2 := (List.mem_filter.mp m).1
  unfold He.frG at m2
  obtain ⟨c, _, hc⟩ := List.mem_filterMap.mp m2
  cases hg : h.get? c with
  | none => rw [hg] at hc; cases hc
  | some u =>
    rw [hg] at hc
    cases hc
    exact hg
def hookN (n : Nat) (fa : List He.Fa) (fn : List He.DefD) (xt : XcT) : PySem.W.Hook where
  α := He.AlD × Bool
  obs := fun s => obsN n fa fn xt s.heap.get?
  val := fun _ => (He.valD fn, true)
  says := fun _ h => ∃ K : PySem.W.Frag, K.In h ∧ (He.SaysD fa fn K ∧ exB xt K = true) ∧ ∀ p ∈ K, p.2.cls ≠ .type "list"
  of := fun _ _ e => ⟨_, noLst_in, ⟨congrArg (fun z : He.AlD × Bool => z.1) e, congrArg (fun z : He.AlD × Bool => z.2) e⟩, fun p hp => by
    have := (List.mem_filter.mp hp).2
    intro z
    rw [z] at this
    exact absurd this (by decide)⟩
  keeps := fun _ _ _ ⟨K, hK, c⟩ k => ⟨K, PySem.W.Frag.In.keeps hK k, c⟩
def BindT (t : DefT) : Prop := ∀ (kV doc pm : Value) (an : Option Addr) (cdv ct : Value) (us : List Value), us.length = t.ps.length → bindArgs (PySem.W.fnOf t.name t.qual (defArgs t.st) (defBody t.st) (defScope t.st) .none kV doc pm an cdv ct) ⟨us, []⟩ = pure (t.ps.zip us)
/-- THE LAW'S END: the run of the law's tree on every script answers True -/
theorem law_ok {fa : List He.Fa} {l : PySem.W.OpenLaw} {ts : List DefT} {cs : List ClsT} {li : Nat} {tl : DefT} {x : Str} {n m M : Nat} {w : World} {G : Str → Option Val} (hli : ts[li]? = some tl) (hx : tl.ps = [x]) (hm : tl.a.modes = [false]) (hcl : tl.cls = none) (hcs : okCls ts cs = true) {xt : XcT} (hc : ∀ t ∈ ts, chkD ts cs xt t = true) (hb : ∀ t ∈ ts, BindT t)
    (hbk : ∀ q, xt.kn = some q → BindK q)
    (hfa : ∀ f ∈ faOf ts cs, f ∈ fa) (glo : ∀ (K : PySem.W.Frag) (h : Heap) (mg : Str → Option Value), K.In h → h.Ns mainGlobals mg → He.SaysD fa (fnX ts xt) K → exB xt K = true → ∀ y v, G y = some v → ∃ u U, mg y = some u ∧ RelV U u ∧ ∀ P H, R K (clOf cs K) P H v U emp)
    (hrun : ∀ ns : List Int, ns.length ≤ m → ∃ fin, (defsAt G M (ts.map (·.a)) n).run li [.node .rol (ns.map .int)] = .ok (.bl true) fin) {k : Nat} {mg : Str → Option Value} {ad : Addr} {h : Heap} (Y : (hookN k fa (fnX ts xt) xt).says w h) (Gn : h.Ns mainGlobals mg) (hmg : mg tl.name = some (.ref ad)) :
    ∃ (K : PySem.W.Frag) (fd : FuncData) (sp : Sp), K.In h ∧ (∀ p ∈ K, p.2.cls ≠ .type "list") ∧ (∀ (s : Shared) (u : Value), BindsTo s fd ⟨[u], []⟩ [(x, u)]) ∧
        (∀ (H : Hp) (a : Addr) (ns : List Int), ns.length ≤ m → Only H → SqL K H a (ns.map V.int) → sp [.ref a] H (fun v _ => v = .bl true) fun _ _ _ => False) ∧
        ∀ base : Heap, K.In base → base.Ns mainGlobals mg → FnG l.prog w K mg base (L2.CX l.prog w) n ad fd [x] sp := by
  obtain ⟨K, KX, ⟨c, cx⟩, nl⟩ := Y
  have fact : ∀ f ∈ faOf ts cs, f.ok K = true := fun f hf => by
    obtain ⟨i, hi⟩ := List.mem_iff_getElem?.mp (hfa f hf)
    exact c.fact i hi
  have fdef : ∀ t ∈ ts, ∀ f ∈ faT t, f.ok K = true := fun t ht f hf => fact f (List.mem_append_left _ (List.mem_flatMap.mpr ⟨t, ht, hf⟩))
  have fcls : ∀ q ∈ cs, ∀ f ∈ faC q, f.ok K = true := fun q hq f hf => fact f (List.mem_append_right _ (List.mem_append_right _ (List.mem_flatMap.mpr ⟨q, hq, hf⟩)))
  have bl : ∀ y ∈ bltNames, mg y = none := fun y hy => He.free_ok KX Gn (fact (.free y) (List.mem_append_right _ (List.mem_append_left _ (List.mem_map_of_mem hy))))
  have defs : ∀ t ∈ ts, ∃ fd, FunD K t.name t.qual (defArgs t.st) (defBody t.st) (defScope t.st) [] [] (He.fAd K (atOf t)) fd := fun t ht => by
    obtain ⟨i, hi⟩ := List.mem_iff_getElem?.mp ht
    exact c.def_ i (d := dOf t) (by unfold fnX; rw [List.getElem?_append_left (by rw [List.length_map]; exact (List.getElem?_eq_some_iff.mp hi).1), List.getElem?_map, hi]; rfl)
  unfold okCls at hcs
  simp only [Bool.and_eq_true, List.all_eq_true] at hcs
  have clat : ∀ (c : Nat) (q : ClsT), cs[c]? = some q → clOf cs K c = He.ga K q.name := fun c q h => by unfold clOf; rw [h]; rfl
  have df : ∀ t ∈ ts, ∃ fd, DefF K (clOf cs K) mg t (He.fAd K (atOf t)) fd := fun t ht => by
    obtain ⟨fd, F⟩ := defs t ht
    refine ⟨fd, F, fun z => ?_, fun c x z => ?_, FunD.bindsN F (hb t ht)⟩
    · have e : atOf t = (t.name, none) := by unfold atOf; rw [z]
      rw [e]
      exact He.glo_ok KX Gn (fdef t ht (.glo t.name) (by unfold faT; rw [z]; exact List.mem_cons_self))
    · have e : atOf t = (x, some t.name) := by unfold atOf; rw [z]
      have o := hcs.1 t ht
      rw [z] at o
      simp only [decide_eq_true_eq, Option.map_eq_some_iff] at o
      obtain ⟨q, hq, hn⟩ := o
      rw [e, clat c q hq, hn]
      refine ⟨?_, He.meth_ok (fdef t ht (.meth x t.name) (by unfold faT; rw [z]; exact List.mem_cons_self))⟩
      rw [← hn]
      exact He.cls_ok (fcls q (List.mem_of_getElem? hq) (.cls q.name) (by simp [faC]))
  have cf : ∀ c q, cs[c]? = some q → ClsF K (clOf cs K) mg ts c q := fun c q hq => by
    have hqm := List.mem_of_getElem? hq
    refine ⟨by rw [clat c q hq]; exact He.cls_ok (fcls q hqm (.cls q.name) (by simp [faC])), fun f hf => by rw [clat c q hq]; exact He.noat_ok (fcls q hqm (.noat q.name f) (by simp [faC, hf])),
      by rw [clat c q hq]; exact He.glo_ok KX Gn (fcls q hqm (.glo q.name) (by simp [faC])), fun i hi t ht => ?_⟩
    obtain ⟨fd, d⟩ := df t (List.mem_of_getElem? ht)
    refine ⟨_, fd, d, ?_⟩
    have o := hcs.2 c (List.mem_range.mpr (List.getElem?_eq_some_iff.mp hq).1)
    rw [hq] at o
    dsimp only at o
    rw [hi] at o
    dsimp only at o
    rw [ht] at o
    simp only [Bool.and_eq_true, decide_eq_true_eq] at o
    have e : atOf t = (q.name, some (Str.ofString "__init__")) := by unfold atOf; rw [o.1, o.2]
    rw [e, clat c q hq]
    exact He.mkr_ok (fcls q hqm (.mkr q.name) (by simp [faC, hi]))
  have htl := List.mem_of_getElem? hli
  obtain ⟨fd, F⟩ := defs tl htl
  have ea : atOf tl = (tl.name, none) := by unfold atOf; rw [hcl]
  rw [ea] at F
  have gtl := He.glo_ok KX Gn (fdef tl htl (.glo tl.name) (by unfold faT; rw [hcl]; exact List.mem_cons_self))
  have e := hmg.symm.trans gtl
  cases e
  refine ⟨K, fd, spOf K (clOf cs K) (clX xt K) tl.a.modes ((defsAt G M (ts.map (·.a)) n).run li), KX, nl, fun s u => ?_, fun H a ns hl ho hs => ?_, fun base kb nb => ?_⟩
  · have b := FunD.bindsA (ps := tl.ps) F (hb tl htl) s [u] (by rw [hx]; rfl)
    rw [hx] at b
    exact b
  · have rd : Rd H a (.lst (ns.map V.int)) := hs.elim id fun ⟨o, its, q, lk, hcl, _⟩ => (nl _ (lookup_mem lk) hcl).elim
    obtain ⟨fin, hr⟩ := hrun ns hl
    have live : H a ≠ none := by
      rcases rd with z | ⟨o, z⟩ <;> rw [z] <;> simp
    have items : ∀ ns : List Int, Rs K (clOf cs K) (one a) H (ns.map .int) (ns.map V.int) emp := fun ns => by
      induction ns with
      | nil => exact ⟨rfl, rfl⟩
      | cons i r ih => exact ⟨_, _, emp, emp, rfl, ⟨rfl, rfl⟩, ih, emp_dis _, (uni_emp _).symm⟩
    refine ⟨one a, emp, [.node .rol (ns.map .int)], ⟨_, _, emp, emp, rfl, ⟨a, _, one a, emp, rfl, ⟨rd, rfl⟩, items ns, rfl, fun _ z => z⟩, ⟨rfl, rfl⟩, emp_dis _, (uni_emp _).symm⟩, fun b z => by cases z; exact live, ?_, ?_⟩
    · rw [hm]
      have hp : ∀ ns : List Int, pures (ns.map Val.int) = true := fun ns => by
        induction ns with
        | nil => rfl
        | cons i r ih => simp only [List.map_cons, pures, Val.pure, ih, Bool.and_self]
      simp [nPure, Val.pure, Tag.own, hp]
    · rw [hr]
      intro U H' P' fv ff t rf rv d s1 s2 lv
      exact rv.1
  · rw [← hx]
    exact defs_ok (Cl := clOf cs K) (ClX := clX xt K) bl (glo K h mg KX Gn c cx) (xf_of KX Gn c cx hbk) hc (fun t ht => let ⟨fd, d⟩ := df t ht; ⟨_, fd, d⟩) cf n li tl hli _ fd ⟨F, fun _ => gtl, fun c x z => absurd (hcl.symm.trans z) (by simp), FunD.bindsN F (hb tl htl)⟩
theorem cx_no {P : Program} {w : World} {H : Hp} {s : Shared} {e : Value} {s' : Shared} (h : L2.CX P w [] H s (fun _ _ _ => False) e s') : False := by
  obtain ⟨_, _, _, _, _, _, _, _, _, _, _, _, z⟩ := h
  exact z
/-- the call by the test's runner -/
theorem walk_vs {l : PySem.W.OpenLaw} {m n : Nat} {q : Program} {lo : List Str} {XP : (Str → Option Value) → Heap → Prop} {YP : World → Heap → Prop} {d : DefRec} {x : Str} (hm : l.most = some m) (hm2 : m ≤ sizeLine) (hd : d.params.defaults = []) (hr : Room (2 * n) callerA)
    (F : ∀ (w : World) (mg : Str → Option Value) (ad : Addr) (h : Heap), YP w h → h.Ns mainGlobals mg → mg d.name = some (.ref ad) →
      ∃ (K : PySem.W.Frag) (fd : FuncData) (sp : Sp), K.In h ∧ (∀ p ∈ K, p.2.cls ≠ .type "list") ∧ (∀ (s : Shared) (u : Value), BindsTo s fd ⟨[u], []⟩ [(x, u)]) ∧
        (∀ (H : Hp) (a : Addr) (ns : List Int), ns.length ≤ m → Only H → SqL K H a (ns.map V.int) → sp [.ref a] H (fun v _ => v = .bl true) fun _ _ _ => False) ∧
        ∀ base : Heap, K.In base → base.Ns mainGlobals mg → FnG l.prog w K mg base (L2.CX l.prog w) n ad fd [x] sp) :
    PySem.W.WalkO q lo XP YP l.row.toRowW d [] (fun f vs => PySem.call f vs) := by
  refine Att.attach_call hm hd fun w z0 z1 mg mb ad o pm cd doc a vs ns GG YY h1 h2 h3 h4 h5 hin hl hg => ?_
  obtain ⟨K, fd, sp, kx, nl, b, p, f⟩ := F w mg ad _ YY GG.T.g h4
  have la : K.lookup a = none := by
    cases e : K.lookup a with
    | none => rfl
    | some o =>
      have e2 := kx a o e
      rw [h5] at e2
      cases e2
      exact (nl _ (lookup_mem e) rfl).elim
  exact law_callG kx GG.T.g GG.T.b GG.T.builtins GG.T.nolimit hg h5 hin (Nat.le_trans hl hm2) hr la f b (fun H o z => p H a ns hl o z) fun H e s' z => cx_no z
end VS

/-! the evaluator step by step: each rule fires only at an environment that is there -/
namespace VS
open PySem L2
section
variable {D : Defs} {G : Str → Option Val} {N : Nat} {pr : List Nat} {ρ : Env}
def primK (g : List Val → Option Val) (as : List (Val × Src)) (ρ : Env) : Res (Val × Src) := match g (as.map (·.1)) with
  | some v => .ok (v, .tmp) ρ
  | none => .bad
def acA (a : Val × Src) (as : List (Val × Src)) (ρ : Env) : Res (List (Val × Src)) := match cur ρ a with
  | some b => .ok (b :: as) ρ
  | none => .bad
def acK (q : Bool) (r : Env → Res (List (Val × Src))) (a : Val × Src) (ρ : Env) : Res (List (Val × Src)) := if okSrc a.2 q = true then (r ρ).bind (acA a) else .bad
def andK (s : Env → Res (Val × Src)) (c : Bool) (ρ : Env) : Res (Val × Src) := if c = true then (s ρ).test.bind fun d ρ2 => .ok (.bl d, .tmp) ρ2 else .ok (.bl false, .tmp) ρ
def orK (s : Env → Res (Val × Src)) (c : Bool) (ρ : Env) : Res (Val × Src) := if c = true then .ok (.bl true, .tmp) ρ else (s ρ).test.bind fun d ρ2 => .ok (.bl d, .tmp) ρ2
def notK (c : Bool) (ρ : Env) : Res (Val × Src) := .ok (.bl (!c), .tmp) ρ
def ifxK (s t : Env → Res (Val × Src)) (c : Bool) (ρ : Env) : Res (Val × Src) := if c = true then s ρ else t ρ
def gloK : Option Val → Env → Res (Val × Src)
  | some v, ρ => .ok (v, .tmp) ρ
  | none, _ => .bad
def midK (m : Val → Bool) (a : Val × Src) (ρ : Env) : Res (Val × Src) := if m a.1 = true then .ok a ρ else .bad
noncomputable def compW (D : Defs) (G : Str → Option Val) (tg : Tg) (tests : Exs) (elt : Ex) (ρ1 : Env) (vs : List Val) (ρ2 : Env) : Res (Val × Src) := .ok (.node (.lst false) vs, .tmp) (backE ρ1 ρ2 tg.slots)
noncomputable def compI (D : Defs) (G : Str → Option Val) (tg : Tg) (tests : Exs) (elt : Ex) (ρ1 : Env) : Option (List Val) → Res (Val × Src)
  | some xs => (compR (bindTg tg) tg.slots (tst D G tests) (ev D G elt) xs (wipeE ρ1 tg.slots) []).bind (compW D G tg tests elt ρ1)
  | none => .bad
noncomputable def compK (D : Defs) (G : Str → Option Val) (tg : Tg) (k : ItK) (tests : Exs) (elt : Ex) (as : List (Val × Src)) (ρ1 : Env) : Res (Val × Src) := if allTmp as = true then compI D G tg tests elt ρ1 (itemsOf k (as.map (·.1))) else .bad
theorem ev_non : ev D G .non ρ = .ok (.non, .tmp) ρ := rfl
theorem ev_bl (b : Bool) : ev D G (.bl b) ρ = .ok (.bl b, .tmp) ρ := rfl
theorem ev_int (i : Int) : ev D G (.int i) ρ = .ok (.int i, .tmp) ρ := rfl
theorem ev_str (x : Str) : ev D G (.str x) ρ = .ok (.str x, .tmp) ρ := rfl
theorem ev_var (i : Nat) : ev D G (.var i) ρ = sVar i ρ := rfl
theorem ev_mv (i : Nat) : ev D G (.mv i) ρ = sMv i ρ := rfl
noncomputable def compQK (D : Defs) (G : Str → Option Val) (tg : Tg) (tests : Exs) (elt : Ex) (ρ : Env) : Option (List Val) → Res (Val × Src)
  | some xs => (compR (bindTg tg) tg.slots (fun ρ => tst D G tests ρ) (fun ρ => (ev D G elt ρ)) xs (wipeE ρ tg.slots) []).bind fun vs _ => .ok (.node (.lst false) vs, .tmp) ρ
  | none => .bad
theorem ev_compQ (tg : Tg) (i : Nat) (tests : Exs) (elt : Ex) : ev D G (.compQ tg i tests elt) ρ = compQK D G tg tests elt ρ (seqAt ρ i) := by
  simp only [ev]
  cases seqAt ρ i <;> rfl
theorem ev_ddis (es : Exs) : ev D G (.ddis es) ρ = (evs D G es ρ).bind (primK gDis) := rfl
theorem ev_frz (e : Ex) : ev D G (.frz e) ρ = (ev D G e ρ).bind frz1 := rfl
theorem ev_own (e : Ex) : ev D G (.own e) ρ = (ev D G e ρ).bind own1 := rfl
theorem ev_glo (x : Str) : ev D G (.glo x) ρ = gloK (G x) ρ := by
  simp only [ev]
  cases G x <;> rfl
theorem ev_bin (op : Bin) (a b : Ex) : ev D G (.bin op a b) ρ = (argsCons (!(eff b || false)) (ev D G a) (argsCons true (ev D G b) argsNil) ρ).bind (primK (gBin op)) := rfl
theorem ev_neg (a : Ex) : ev D G (.neg a) ρ = (argsCons true (ev D G a) argsNil ρ).bind (primK gNeg) := rfl
theorem ev_cmp (op : Cmp) (a b : Ex) : ev D G (.cmp op a b) ρ = (argsCons (!(eff b || false)) (ev D G a) (argsCons true (ev D G b) argsNil) ρ).bind (primK (gCmpo op)) := rfl
theorem ev_and (a b : Ex) : ev D G (.and a b) ρ = (ev D G a ρ).test.bind (andK (ev D G b)) := rfl
theorem ev_or (a b : Ex) : ev D G (.or a b) ρ = (ev D G a ρ).test.bind (orK (ev D G b)) := rfl
theorem ev_not (a : Ex) : ev D G (.not a) ρ = (ev D G a ρ).test.bind notK := rfl
theorem ev_ifx (c a b : Ex) : ev D G (.ifx c a b) ρ = (ev D G c ρ).test.bind (ifxK (ev D G a) (ev D G b)) := rfl
theorem ev_bi (f : Bi) (es : Exs) : ev D G (.bi f es) ρ = (evs D G es ρ).bind (primK (gBi f)) := rfl
theorem ev_isi (T : String) (e : Ex) : ev D G (.isi T e) ρ = (argsCons true (ev D G e) argsNil ρ).bind (primK (gIsi T)) := rfl
theorem ev_ix (a i : Ex) : ev D G (.ix a i) ρ = (argsCons (!(eff i || false)) (ev D G a) (argsCons true (ev D G i) argsNil) ρ).bind sIx := rfl
theorem ev_asInt (e : Ex) : ev D G (.asInt e) ρ = (ev D G e ρ).bind sInt1 := rfl
theorem ev_slc (a lo hi : Ex) : ev D G (.slc a lo hi) ρ = (argsCons (!(eff lo || (eff hi || false))) (ev D G a) (argsCons (!(eff hi || false)) (ev D G lo) (argsCons true (ev D G hi) argsNil)) ρ).bind (primK gSlice) := rfl
theorem ev_tup (es : Exs) : ev D G (.tup es) ρ = (evs D G es ρ).bind (sNode .tup) := rfl
theorem ev_lst (es : Exs) : ev D G (.lst es) ρ = (evs D G es ρ).bind (sNode (.lst false)) := rfl
theorem ev_call (f : Nat) (es : Exs) : ev D G (.call f es) ρ = (evs D G es ρ).bind (sCall D f) := rfl
theorem ev_callM (f : Nat) (es : Exs) : ev D G (.callM f es) ρ = (evs D G es ρ).bind (sCallM D f) := rfl
theorem ev_mu (m : Mu) (o : Ex) (es : Exs) : ev D G (.mu m o es) ρ = (argsCons (!effs es) (sMid isLst (ev D G o)) (evs D G es) ρ).bind (sMu m) := rfl
theorem ev_comp (tg : Tg) (k : ItK) (its tests : Exs) (elt : Ex) : ev D G (.comp tg k its tests elt) ρ = (evs D G its ρ).bind (compK D G tg k tests elt) := by
  simp only [ev]
  refine congrArg _ (funext fun as => funext fun ρ1 => ?_)
  unfold compK
  by_cases h : allTmp as = true
  · rw [if_pos h, if_pos h]
    cases itemsOf k (as.map (·.1)) <;> rfl
  · rw [if_neg h, if_neg h]
noncomputable def compPK (D : Defs) (G : Str → Option Val) (tg : Tg) (i : Nat) (tests : Exs) (elt : Ex) (ρ : Env) : Option (List Val) → Res (Val × Src)
  | some xs => if (!tg.slots.contains i) = true then (compRH (holdsB i (.node (.lst false) xs)) (bindTg tg) tg.slots (tst D G tests) (ev D G elt) xs (wipeE ρ tg.slots) []).bind (compW D G tg tests elt ρ) else .bad
  | none => .bad
theorem ev_compP (tg : Tg) (i : Nat) (tests : Exs) (elt : Ex) : ev D G (.compP tg i tests elt) ρ = compPK D G tg i tests elt ρ (lstAt ρ i) := by
  simp only [ev]
  cases lstAt ρ i <;> rfl
theorem ev_lrng (a b : Ex) : ev D G (.lrng a b) ρ = (argsCons (!(eff b || false)) (ev D G a) (argsCons true (ev D G b) argsNil) ρ).bind (primK gLrng) := rfl
theorem ev_sset (e : Ex) : ev D G (.sset e) ρ = (argsCons true (ev D G e) argsNil ρ).bind (primK gSset) := rfl
theorem ev_listrev (e : Ex) : ev D G (.listrev e) ρ = (argsCons true (ev D G e) argsNil ρ).bind (primK gListrev) := rfl
theorem ev_bitlen (e : Ex) : ev D G (.bitlen e) ρ = (argsCons true (ev D G e) argsNil ρ).bind (primK gBitlen) := rfl
theorem ev_ixd (a i : Ex) : ev D G (.ixd a i) ρ = (argsCons (!(eff i || false)) (ev D G a) (argsCons true (ev D G i) argsNil) ρ).bind sDx := rfl
theorem ev_get1 (o a : Ex) : ev D G (.get1 o a) ρ = (argsCons (!(eff a || false)) (sMid isDct (ev D G o)) (argsCons true (ev D G a) argsNil) ρ).bind (primK gGet1) := rfl
theorem ev_get2 (o a b : Ex) : ev D G (.get2 o a b) ρ = (argsCons (!(eff a || (eff b || false))) (sMid isDct (ev D G o)) (argsCons (!(eff b || false)) (ev D G a) (argsCons true (ev D G b) argsNil)) ρ).bind (primK gGet2) := rfl
theorem ev_dnew (t : Bool) : ev D G (.dnew t) ρ = (Res.ok [] ρ).bind (primK (if t = true then gNewT else gNewK)) := rfl
theorem ev_fld (c : Nat) (e : Ex) (f : Str) : ev D G (.fld c e f) ρ = (ev D G e ρ).bind (sFld c f) := rfl
theorem ev_meth (f c : Nat) (m : Str) (o : Ex) (es : Exs) : ev D G (.meth f c m o es) ρ = (argsCons (!effs es) (sMid (isIns c m) (ev D G o)) (evs D G es) ρ).bind (sCall D f) := rfl
theorem ev_methM (f c : Nat) (m : Str) (o : Ex) (es : Exs) : ev D G (.methM f c m o es) ρ = (argsCons (!effs es) (sMid (isIns c m) (ev D G o)) (evs D G es) ρ).bind (sCallM D f) := rfl
theorem ev_make (c f : Nat) (es : Exs) : ev D G (.make c f es) ρ = (evs D G es ρ).bind (sMake D c f) := rfl
theorem evs_nil : evs D G .nil ρ = .ok [] ρ := rfl
theorem evs_cons (e : Ex) (es : Exs) : evs D G (.cons e es) ρ = argsCons (!effs es) (ev D G e) (evs D G es) ρ := rfl
theorem argsCons_ap (q : Bool) (s : Env → Res (Val × Src)) (r : Env → Res (List (Val × Src))) : argsCons q s r ρ = (s ρ).bind (acK q r) := rfl
theorem argsNil_ap : argsNil ρ = .ok [] ρ := rfl
theorem sMid_ap (m : Val → Bool) (s : Env → Res (Val × Src)) : sMid m s ρ = (s ρ).bind (midK m) := rfl
theorem tst_nil : tst D G .nil ρ = .ok true ρ := rfl
theorem tst_cons (e : Ex) (es : Exs) : tst D G (.cons e es) ρ = (ev D G e ρ).test := rfl
theorem test_bl (b : Bool) (s : Src) : (Res.ok (Val.bl b, s) ρ).test = .ok b ρ := rfl
theorem test_exc (x : Xc) : (Res.exc x ρ : Res (Val × Src)).test = .exc x ρ := rfl
theorem sVar_some {i : Nat} {v : Val} (h : ρ[i]? = some (some v)) : sVar i ρ = .ok (v, if v.pure = true then .tmp else .plc i []) ρ := by
  unfold sVar
  rw [h]
theorem cur_tmp (v : Val) : cur ρ (v, .tmp) = some (v, .tmp) := rfl
theorem cur_plc {i : Nat} {v w : Val} (h : ρ[i]? = some (some w)) : cur ρ (v, .plc i []) = some (w, .plc i []) := by
  simp only [cur, h]
/-! statements -/
def setK (pr : List Nat) (i : Nat) : (Val × Src) → Env → Flow
  | (v, .tmp), ρ1 => if (decide (i < ρ1.length) && free pr [i]) = true then .next (ρ1.set i (some v)) else .bad
  | _, _ => .bad
def unpK1 (is : List Nat) (v : Val) (ρ1 : Env) : Flow := match bindTg (.tup is) v ρ1 with
  | some ρ2 => .next ρ2
  | none => .bad
def unpK (pr is : List Nat) : (Val × Src) → Env → Flow
  | (v, .tmp), ρ1 => if (v.pure && free pr is) = true then unpK1 is v ρ1 else .bad
  | _, _ => .bad
def dropK (_ : Val × Src) (ρ1 : Env) : Flow := .next ρ1
def ifK (a b : Env → Flow) (c : Bool) (ρ1 : Env) : Flow := if c = true then a ρ1 else b ρ1
def forI (tg : Tg) (body : Env → Flow) (ρ1 : Env) : Option (List Val) → Flow
  | some xs => forR (bindTg tg) body xs ρ1
  | none => .bad
def forK (pr : List Nat) (tg : Tg) (k : ItK) (body : Env → Flow) (as : List (Val × Src)) (ρ1 : Env) : Flow := if (allTmp as && free pr tg.slots) = true then forI tg body ρ1 (itemsOf k (as.map (·.1))) else .bad
def seqK (k : Env → Flow) : Flow → Flow
  | .next ρ1 => k ρ1
  | r => r
noncomputable def forPK (D : Defs) (G : Str → Option Val) (N : Nat) (pr : List Nat) (tg : Tg) (i : Nat) (body : Blk) (ρ : Env) : Option (List Val) → Flow
  | some xs => if (!tg.slots.contains i && free pr tg.slots) = true then forRH (holdsB i (.node (.lst false) xs)) (bindTg tg) (exs D G N (i :: pr) body) xs ρ else .bad
  | none => .bad
theorem ex_forsP (tg : Tg) (i : Nat) (body : Blk) : ex D G N pr (.forsP tg i body) ρ = forPK D G N pr tg i body ρ (lstAt ρ i) := by
  simp only [ex]
  cases lstAt ρ i <;> rfl
theorem ex_aft (i : Nat) (s : St) : ex D G N pr (.aft i s) ρ = aftK i (ex D G N pr s ρ) := by simp only [ex]
theorem ex_set (i : Nat) (e : Ex) : ex D G N pr (.set i e) ρ = (ev D G e ρ).flow (setK pr i) := by
  simp only [ex]
  refine congrArg _ (funext fun a => funext fun ρ1 => ?_)
  obtain ⟨v, sr⟩ := a
  cases sr <;> rfl
theorem ex_unp (is : List Nat) (e : Ex) : ex D G N pr (.unp is e) ρ = (ev D G e ρ).flow (unpK pr is) := by
  simp only [ex]
  refine congrArg _ (funext fun a => funext fun ρ1 => ?_)
  obtain ⟨v, sr⟩ := a
  cases sr <;> rfl
theorem ex_dput (e o k : Ex) : ex D G N pr (.dput e o k) ρ = (argsCons (!(eff o || (eff k || false))) (ev D G e) (argsCons (!(eff k || false)) (ev D G o) (argsCons true (ev D G k) argsNil)) ρ).flow (sPut putOf) := rfl
theorem ex_linc (c : Int) (o k : Ex) : ex D G N pr (.linc c o k) ρ = (argsCons (!(eff k || false)) (ev D G o) (argsCons true (ev D G k) argsNil) ρ).flow (sPutC lincOf (.int c)) := rfl
theorem ex_lput (e o k : Ex) : ex D G N pr (.lput e o k) ρ = (argsCons (!(eff o || (eff k || false))) (ev D G e) (argsCons (!(eff k || false)) (ev D G o) (argsCons true (ev D G k) argsNil)) ρ).flow (sPut lputOf) := rfl
theorem ex_swp (i : Nat) (e k1 k2 : Ex) : ex D G N pr (.swp i e k1 k2) ρ = (ev D G e ρ).flow (swpK (evs D G (.cons (.var i) (.cons k1 .nil))) (evs D G (.cons (.var i) (.cons k2 .nil)))) := rfl
theorem ex_fput (c : Nat) (f : Str) (e o : Ex) : ex D G N pr (.fput c f e o) ρ = (argsCons (!(eff o || false)) (ev D G e) (argsCons true (ev D G o) argsNil) ρ).flow (sFput c f) := rfl
theorem ex_expr (e : Ex) : ex D G N pr (.expr e) ρ = (ev D G e ρ).flow dropK := rfl
theorem ex_ret (e : Ex) : ex D G N pr (.ret e) ρ = (ev D G e ρ).flow sRet := rfl
theorem ex_retN : ex D G N pr .retN ρ = .ret .non ρ := rfl
theorem ex_ifs (c : Ex) (a b : Blk) : ex D G N pr (.ifs c a b) ρ = (ev D G c ρ).test.flow (ifK (exs D G N pr a) (exs D G N pr b)) := rfl
theorem ex_fors (tg : Tg) (k : ItK) (its : Exs) (body : Blk) : ex D G N pr (.fors tg k its body) ρ = (evs D G its ρ).flow (forK pr tg k (exs D G N pr body)) := by
  simp only [ex]
  refine congrArg _ (funext fun as => funext fun ρ1 => ?_)
  unfold forK
  by_cases h : (allTmp as && free pr tg.slots) = true
  · rw [if_pos h, if_pos h]
    cases itemsOf k (as.map (·.1)) <;> rfl
  · rw [if_neg h, if_neg h]
noncomputable def tesK (D : Defs) (G : Str → Option Val) (c : Ex) (ρ : Env) : Res Bool := (ev D G c ρ).test
theorem tesK_ap (c : Ex) : tesK D G c ρ = (ev D G c ρ).test := rfl
theorem ex_whiles (c : Ex) (body : Blk) : ex D G N pr (.whiles c body) ρ = whileR (tesK D G c) (exs D G N pr body) N ρ := rfl
theorem ex_pass : ex D G N pr .pass ρ = .next ρ := rfl
theorem exs_nil : exs D G N pr .nil ρ = .next ρ := rfl
theorem exs_cons (s : St) (b : Blk) : exs D G N pr (.cons s b) ρ = seqK (exs D G N pr b) (ex D G N pr s ρ) := by
  simp only [exs]
  cases ex D G N pr s ρ <;> rfl
theorem seqK_next (k : Env → Flow) : seqK k (.next ρ) = k ρ := rfl
theorem seqK_ret (k : Env → Flow) (v : Val) : seqK k (.ret v ρ) = .ret v ρ := rfl
theorem seqK_exc (k : Env → Flow) (x : Xc) : seqK k (.exc x ρ) = .exc x ρ := rfl
theorem seqK_if (k : Env → Flow) (c : Prop) [Decidable c] (a b : Flow) : seqK k (if c then a else b) = if c then seqK k a else seqK k b := by
  by_cases h : c <;> simp [h]
theorem flow_ok1 {α : Type} (a : α) (k : α → Env → Flow) : (Res.ok a ρ).flow k = k a ρ := rfl
theorem flow_exc1 {α : Type} (x : Xc) (k : α → Env → Flow) : (Res.exc x ρ : Res α).flow k = .exc x ρ := rfl
/-- a def's end -/
def endK (ms : List Bool) (as : List Val) : Flow → FRes
  | .next ρ => (match fins ms as ρ with
    | some r => .ok .non r
    | none => .bad)
  | .ret v ρ => (match fins ms as ρ with
    | some r => .ok v r
    | none => .bad)
  | .exc x ρ => (match fins ms as ρ with
    | some r => .exc x r
    | none => .bad)
  | .bad => .bad
theorem runDef_eq (d : DefA) (as : List Val) (h : as.length = d.modes.length) : runDef D G N d as = endK d.modes as (exs D G N (prot 0 d.modes) d.body (as.map some ++ List.replicate (d.nslots - as.length) none)) := by
  unfold runDef
  rw [if_pos h]
  cases exs D G N (prot 0 d.modes) d.body (as.map some ++ List.replicate (d.nslots - as.length) none) <;> rfl
/-! loops -/
theorem forR_nil {b : Val → Env → Option Env} {body : Env → Flow} : forR b body [] ρ = .next ρ := rfl
theorem forRH_nil {hd : Env → Bool} {b : Val → Env → Option Env} {body : Env → Flow} (h0 : hd ρ = true) : forRH hd b body [] ρ = .next ρ := by
  simp only [forRH, h0, if_true]
theorem forRH_cons {hd : Env → Bool} {b : Val → Env → Option Env} {body : Env → Flow} {x : Val} {xs : List Val} {ρ1 : Env} (h0 : hd ρ = true) (h : b x ρ = some ρ1) : forRH hd b body (x :: xs) ρ = seqK (forRH hd b body xs) (body ρ1) := by
  simp only [forRH, h0, if_true, h]
  cases body ρ1 <;> rfl
theorem forR_cons {b : Val → Env → Option Env} {body : Env → Flow} {x : Val} {xs : List Val} {ρ1 : Env} (h : b x ρ = some ρ1) : forR b body (x :: xs) ρ = seqK (forR b body xs) (body ρ1) := forRH_cons rfl h
/-- a loop that always goes on keeps an invariant -/
theorem forR_inv {b : Val → Env → Option Env} {body : Env → Flow} (I : List Val → Env → Prop) : ∀ {xs : List Val} {ρ : Env}, I xs ρ → (∀ x xs ρ, I (x :: xs) ρ → ∃ ρ1 ρ2, b x ρ = some ρ1 ∧ body ρ1 = .next ρ2 ∧ I xs ρ2) → ∃ ρ', forR b body xs ρ = .next ρ' ∧ I [] ρ'
  | [], ρ, h, _ => ⟨ρ, rfl, h⟩
  | x :: xs, ρ, h, k => by
    obtain ⟨ρ1, ρ2, h1, h2, h3⟩ := k x xs ρ h
    obtain ⟨ρ', h4, h5⟩ := forR_inv I h3 k
    exact ⟨ρ', by rw [forR_cons h1, h2, seqK_next, h4], h5⟩
theorem whileR_go {c : Env → Res Bool} {body : Env → Flow} {n : Nat} {ρ1 : Env} (h : c ρ = .ok true ρ1) : whileR c body (n + 1) ρ = seqK (whileR c body n) (body ρ1) := by
  simp only [whileR, h]
  cases body ρ1 <;> rfl
theorem whileR_end {c : Env → Res Bool} {body : Env → Flow} {n : Nat} {ρ1 : Env} (h : c ρ = .ok false ρ1) : whileR c body (n + 1) ρ = .next ρ1 := by
  simp only [whileR, h]
theorem compR_nil {b : Val → Env → Option Env} {vs : List Nat} {t : Env → Res Bool} {e : Env → Res (Val × Src)} {acc : List Val} : compR b vs t e [] ρ acc = .ok acc ρ := rfl
theorem compR_yes {b : Val → Env → Option Env} {vs : List Nat} {t : Env → Res Bool} {e : Env → Res (Val × Src)} {acc : List Val} {x : Val} {xs : List Val} {ρ1 ρ2 ρ3 : Env} {v : Val} (h1 : b x ρ = some ρ1) (h2 : t ρ1 = .ok true ρ2) (h3 : e ρ2 = .ok (v, .tmp) ρ3) (h4 : acc.length < 16777216) :
    compR b vs t e (x :: xs) ρ acc = compR b vs t e xs (wipeE ρ3 vs) (acc ++ [v]) := by
  simp only [compR, compRH, noHd, h1, h2, h3, decide_eq_true h4, if_true]
theorem compR_no {b : Val → Env → Option Env} {vs : List Nat} {t : Env → Res Bool} {e : Env → Res (Val × Src)} {acc : List Val} {x : Val} {xs : List Val} {ρ1 ρ2 : Env} (h1 : b x ρ = some ρ1) (h2 : t ρ1 = .ok false ρ2) :
    compR b vs t e (x :: xs) ρ acc = compR b vs t e xs (wipeE ρ2 vs) acc := by
  simp only [compR, compRH, noHd, h1, h2, if_true]
theorem compRH_nil {hd : Env → Bool} {b : Val → Env → Option Env} {vs : List Nat} {t : Env → Res Bool} {e : Env → Res (Val × Src)} {acc : List Val} (h0 : hd ρ = true) : compRH hd b vs t e [] ρ acc = .ok acc ρ := by
  simp only [compRH, h0, if_true]
theorem compRH_yes {hd : Env → Bool} {b : Val → Env → Option Env} {vs : List Nat} {t : Env → Res Bool} {e : Env → Res (Val × Src)} {acc : List Val} {x : Val} {xs : List Val} {ρ1 ρ2 ρ3 : Env} {v : Val} (h0 : hd ρ = true) (h1 : b x ρ = some ρ1) (h2 : t ρ1 = .ok true ρ2) (h3 : e ρ2 = .ok (v, .tmp) ρ3) (h4 : acc.length < 16777216) :
    compRH hd b vs t e (x :: xs) ρ acc = compRH hd b vs t e xs (wipeE ρ3 vs) (acc ++ [v]) := by
  simp only [compRH, h0, h1, h2, h3, decide_eq_true h4, if_true]
theorem compRH_no {hd : Env → Bool} {b : Val → Env → Option Env} {vs : List Nat} {t : Env → Res Bool} {e : Env → Res (Val × Src)} {acc : List Val} {x : Val} {xs : List Val} {ρ1 ρ2 : Env} (h0 : hd ρ = true) (h1 : b x ρ = some ρ1) (h2 : t ρ1 = .ok false ρ2) :
    compRH hd b vs t e (x :: xs) ρ acc = compRH hd b vs t e xs (wipeE ρ2 vs) acc := by
  simp only [compRH, h0, h1, h2, if_true]
end
end VS

/-! the operations at ints and lists of ints -/
namespace VS
open PySem L2
theorem pures_int (xs : List Int) : pures (xs.map Val.int) = true := by
  induction xs with
  | nil => rfl
  | cons i r ih => simp only [List.map_cons, pures, Val.pure, ih, Bool.and_self]
theorem nofzs_int (xs : List Int) : nofzs (xs.map Val.int) = true := by
  induction xs with
  | nil => rfl
  | cons i r ih => simp only [List.map_cons, nofzs, Val.nofz, ih, Bool.and_self]
theorem freezes_int (xs : List Int) : freezes (xs.map Val.int) = xs.map Val.int := by
  induction xs with
  | nil => rfl
  | cons i r ih => simp only [List.map_cons, freezes, Val.freeze, ih]
theorem intsOf_int (xs : List Int) : intsOf (xs.map Val.int) = some xs := by
  induction xs with
  | nil => rfl
  | cons i r ih => simp only [List.map_cons, intsOf, ih, Option.map_some]
theorem toDs_int (xs : List Int) : toDs (xs.map Val.int) = some (xs.map PyData.int) := by
  induction xs with
  | nil => rfl
  | cons i r ih => simp only [List.map_cons, toDs, toD, ih, Option.map_some, Option.bind_some]
theorem blsOf_bl (xs : List Bool) : blsOf (xs.map Val.bl) = some xs := by
  induction xs with
  | nil => rfl
  | cons i r ih => simp only [List.map_cons, blsOf, ih, Option.map_some]
theorem shaped_int (i : Int) : SeqAt.shaped (.int i) = true := by
  unfold SeqAt.shaped
  simp [PyData.canLay0, PyData.depth]
theorem can_ints (xs : List Int) : PyData.canLayAll0 (xs.map PyData.int) = true := by
  induction xs with
  | nil => rfl
  | cons i r ih => simp only [List.map_cons, PyData.canLayAll0, PyData.canLay0, ih, Bool.and_self]
theorem depth_ints (xs : List Int) : PyData.depthAll (xs.map PyData.int) ≤ 1 := by
  induction xs with
  | nil => simp only [List.map_nil, PyData.depthAll]; omega
  | cons i r ih => simp only [List.map_cons, PyData.depthAll, PyData.depth]; omega
theorem shaped_ints (xs : List Int) : SeqAt.shaped (.list (xs.map PyData.int)) = true := by
  unfold SeqAt.shaped
  have h := depth_ints xs
  simp only [PyData.canLay0, can_ints, PyData.depth, Bool.true_and, decide_eq_true_eq]
  exact decide_eq_true (Nat.le_trans (Nat.add_le_add_right h 1) (show 1 + 1 ≤ 64 by decide))
theorem gEq_ii (i j : Int) : gEq [.int i, .int j] = some (.bl (decide (i = j))) := by
  simp only [gEq, toD, shaped_int, Bool.and_self, if_true, PyData.eqv]
  rfl
theorem gNe_ii (i j : Int) : gNe [.int i, .int j] = some (.bl (decide (i ≠ j))) := by
  simp only [gNe, toD, shaped_int, Bool.and_self, if_true, PyData.eqv]
  by_cases h : i = j <;> simp [h]
theorem gIs_i (i : Int) : gIs false [.int i, .non] = some (.bl false) := rfl
theorem gIs_n : gIs false [.non, .non] = some (.bl true) := rfl
theorem gIs_l (t : Tag) (xs : List Val) : gIs false [.node t xs, .non] = some (.bl false) := rfl
theorem gIs_b (b : Bool) : gIs false [.bl b, .non] = some (.bl false) := rfl
theorem gIs_bb (a b : Bool) : gIs false [.bl a, .bl b] = some (.bl (a == b)) := rfl
theorem gNis_i (i : Int) : gIs true [.int i, .non] = some (.bl true) := rfl
theorem gNis_n : gIs true [.non, .non] = some (.bl false) := rfl
theorem any_ints (i : Int) (xs : List Int) : ((xs.map PyData.int).any fun z => PyData.eqv z (.int i)) = decide (i ∈ xs) := by
  induction xs with
  | nil => rfl
  | cons j r ih =>
    simp only [List.map_cons, List.any_cons, ih, PyData.eqv, List.mem_cons]
    by_cases h : j = i
    · subst h; simp
    · have h2 : ¬ i = j := fun e => h e.symm
      simp [h, h2]
theorem gIn_l (neg : Bool) (i : Int) (z : Bool) (xs : List Int) : gIn neg [.int i, .node (.lst z) (xs.map .int)] = some (.bl (if neg = true then !decide (i ∈ xs) else decide (i ∈ xs))) := by
  simp only [gIn, inData, toD, toDs_int, shaped_int, shaped_ints, Bool.and_self, if_true, any_ints, Option.map_some]
theorem gSorted_l (z : Bool) (xs : List Int) : gSorted [.node (.lst z) (xs.map .int)] = some (.node (.lst false) ((srt xs).map .int)) := by
  simp only [gSorted, intsOf_int, Option.map_some]
theorem gSum_l (z : Bool) (xs : List Int) : gSum [.node (.lst z) (xs.map .int)] = some (.int xs.sum) := by
  simp only [gSum, intsOf_int, Option.map_some]
theorem gAll_l (z : Bool) (xs : List Bool) : gAll [.node (.lst z) (xs.map .bl)] = some (.bl (xs.all id)) := by
  simp only [gAll, blsOf_bl, Option.map_some]
theorem gAny_l (z : Bool) (xs : List Bool) : gAny [.node (.lst z) (xs.map .bl)] = some (.bl (xs.any id)) := by
  simp only [gAny, blsOf_bl, Option.map_some]
theorem gAdd_ll (y z : Bool) (xs ys : List Int) (h : xs.length + ys.length ≤ 16777216) : gAdd [.node (.lst y) (xs.map .int), .node (.lst z) (ys.map .int)] = some (.node (.lst false) ((xs ++ ys).map .int)) := by
  simp only [gAdd, pures_int, Bool.true_and, List.length_map, lineB, decide_eq_true h, if_true, List.map_append]
theorem cutL_map {α β : Type} (f : α → β) (xs : List α) (lo hi : Option Int) : cutL (xs.map f) lo hi = (cutL xs lo hi).map f := by
  unfold cutL
  rw [List.length_map, List.map_take, List.map_drop]
theorem gSlice_rol (xs : List Int) (l u : Val) (lo hi : Option Int) (h1 : partOf l = some lo) (h2 : partOf u = some hi) : gSlice [.node .rol (xs.map .int), l, u] = some (.node (.lst false) ((cutL xs lo hi).map .int)) := by
  simp only [gSlice, h1, h2, cutL_map, pures_int, if_true]
theorem gSlice_lst (z : Bool) (xs : List Int) (l u : Val) (lo hi : Option Int) (h1 : partOf l = some lo) (h2 : partOf u = some hi) : gSlice [.node (.lst z) (xs.map .int), l, u] = some (.node (.lst false) ((cutL xs lo hi).map .int)) := by
  simp only [gSlice, h1, h2, cutL_map, pures_int, if_true]
theorem gListrev_l (z : Bool) (xs : List Int) : gListrev [.node (.lst z) (xs.map .int)] = some (.node (.lst false) (xs.reverse.map .int)) := by
  simp only [gListrev, pures_int, if_true, List.map_reverse]
theorem gList_l (z : Bool) (xs : List Int) : gList [.node (.lst z) (xs.map .int)] = some (.node (.lst false) (xs.map .int)) := by
  simp only [gList, pures_int, if_true]
theorem gList_t (xs : List Int) : gList [.node .tup (xs.map .int)] = some (.node (.lst false) (xs.map .int)) := by
  simp only [gList, pures_int, if_true]
theorem gTuple_l (z : Bool) (xs : List Int) : gTuple [.node (.lst z) (xs.map .int)] = some (.node .tup (xs.map .int)) := by
  simp only [gTuple, pures_int, if_true]
/-! isinstance -/
theorem isi_non_bool : gIsi "bool" [.non] = some (.bl false) := rfl
theorem isi_non_int : gIsi "int" [.non] = some (.bl false) := rfl
theorem isi_non_str : gIsi "str" [.non] = some (.bl false) := rfl
theorem isi_non_tuple : gIsi "tuple" [.non] = some (.bl false) := rfl
theorem isi_non_list : gIsi "list" [.non] = some (.bl false) := rfl
theorem isi_bl_bool (b : Bool) : gIsi "bool" [(.bl b)] = some (.bl true) := rfl
theorem isi_bl_int (b : Bool) : gIsi "int" [(.bl b)] = some (.bl true) := rfl
theorem isi_bl_str (b : Bool) : gIsi "str" [(.bl b)] = some (.bl false) := rfl
theorem isi_bl_tuple (b : Bool) : gIsi "tuple" [(.bl b)] = some (.bl false) := rfl
theorem isi_bl_list (b : Bool) : gIsi "list" [(.bl b)] = some (.bl false) := rfl
theorem isi_int_bool (i : Int) : gIsi "bool" [(.int i)] = some (.bl false) := rfl
theorem isi_int_int (i : Int) : gIsi "int" [(.int i)] = some (.bl true) := rfl
theorem isi_int_str (i : Int) : gIsi "str" [(.int i)] = some (.bl false) := rfl
theorem isi_int_tuple (i : Int) : gIsi "tuple" [(.int i)] = some (.bl false) := rfl
theorem isi_int_list (i : Int) : gIsi "list" [(.int i)] = some (.bl false) := rfl
theorem isi_str_bool (x : Str) : gIsi "bool" [(.str x)] = some (.bl false) := rfl
theorem isi_str_int (x : Str) : gIsi "int" [(.str x)] = some (.bl false) := rfl
theorem isi_str_str (x : Str) : gIsi "str" [(.str x)] = some (.bl true) := rfl
theorem isi_str_tuple (x : Str) : gIsi "tuple" [(.str x)] = some (.bl false) := rfl
theorem isi_str_list (x : Str) : gIsi "list" [(.str x)] = some (.bl false) := rfl
theorem isi_tup_bool (xs : List Val) : gIsi "bool" [(.node .tup xs)] = some (.bl false) := rfl
theorem isi_tup_int (xs : List Val) : gIsi "int" [(.node .tup xs)] = some (.bl false) := rfl
theorem isi_tup_str (xs : List Val) : gIsi "str" [(.node .tup xs)] = some (.bl false) := rfl
theorem isi_tup_tuple (xs : List Val) : gIsi "tuple" [(.node .tup xs)] = some (.bl true) := rfl
theorem isi_tup_list (xs : List Val) : gIsi "list" [(.node .tup xs)] = some (.bl false) := rfl
theorem isi_ktup_bool (xs : List Val) : gIsi "bool" [(.node .ktup xs)] = some (.bl false) := rfl
theorem isi_ktup_int (xs : List Val) : gIsi "int" [(.node .ktup xs)] = some (.bl false) := rfl
theorem isi_ktup_str (xs : List Val) : gIsi "str" [(.node .ktup xs)] = some (.bl false) := rfl
theorem isi_ktup_tuple (xs : List Val) : gIsi "tuple" [(.node .ktup xs)] = some (.bl true) := rfl
theorem isi_ktup_list (xs : List Val) : gIsi "list" [(.node .ktup xs)] = some (.bl false) := rfl
theorem isi_lst_bool (z : Bool) (xs : List Val) : gIsi "bool" [(.node (.lst z) xs)] = some (.bl false) := rfl
theorem isi_lst_int (z : Bool) (xs : List Val) : gIsi "int" [(.node (.lst z) xs)] = some (.bl false) := rfl
theorem isi_lst_str (z : Bool) (xs : List Val) : gIsi "str" [(.node (.lst z) xs)] = some (.bl false) := rfl
theorem isi_lst_tuple (z : Bool) (xs : List Val) : gIsi "tuple" [(.node (.lst z) xs)] = some (.bl false) := rfl
theorem isi_lst_list (z : Bool) (xs : List Val) : gIsi "list" [(.node (.lst z) xs)] = some (.bl true) := rfl
/-! methods that change -/
theorem gMu_pop (xs : List Int) (x : Int) : gMu .pop (.node (.lst false) ((xs ++ [x]).map .int)) [] = some (.int x, .node (.lst false) (xs.map .int)) := by
  have h1 : ((xs ++ [x]).map Val.int)[((xs ++ [x]).map Val.int).length - 1]? = some (.int x) := by simp
  have h2 : ((xs ++ [x]).map Val.int).dropLast = xs.map .int := by simp
  simp only [gMu, h1, h2]
theorem gMu_append (xs : List Val) (v : Val) (h : xs.length < 16777216) : gMu .append (.node (.lst false) xs) [v] = some (.non, .node (.lst false) (xs ++ [v])) := by
  simp only [gMu, decide_eq_true h, if_true]
theorem gMu_clear (xs : List Val) : gMu .clear (.node (.lst false) xs) [] = some (.non, .node (.lst false) []) := rfl
/-! a def's end -/
def endR (ok : List Val → FRes) : Option (List Val) → FRes
  | some r => ok r
  | none => .bad
theorem endK_next (ms : List Bool) (as : List Val) (ρ : Env) : endK ms as (.next ρ) = endR (.ok .non) (fins ms as ρ) := by
  simp only [endK]
  first | done | (cases fins ms as ρ <;> rfl)
theorem endK_ret (ms : List Bool) (as : List Val) (v : Val) (ρ : Env) : endK ms as (.ret v ρ) = endR (.ok v) (fins ms as ρ) := by
  simp only [endK]
  first | done | (cases fins ms as ρ <;> rfl)
theorem endK_exc (ms : List Bool) (as : List Val) (x : Xc) (ρ : Env) : endK ms as (.exc x ρ) = endR (.exc x) (fins ms as ρ) := by
  simp only [endK]
  first | done | (cases fins ms as ρ <;> rfl)
theorem endR_some (ok : List Val → FRes) (r : List Val) : endR ok (some r) = ok r := rfl
/-! calls -/
def callK (b : Bool) (ρ : Env) : FRes → Res (Val × Src)
  | .ok v _ => if (b || v.nofz) = true then .ok (v, .tmp) ρ else .bad
  | .exc x _ => .exc x ρ
  | .bad => .bad
theorem sCall_ap (D : Defs) (f : Nat) (as : List (Val × Src)) (ρ : Env) (h : (D.modes f).any id = false) : sCall D f as ρ = callK (pures (as.map (·.1))) ρ (D.run f (freezes (as.map (·.1)))) := by
  unfold sCall callK
  rw [if_neg (by rw [h]; decide)]
  first | done | (cases D.run f (freezes (as.map (·.1))) <;> rfl)
def callMK (ms : List Bool) (as : List (Val × Src)) (ρ : Env) : FRes → Res (Val × Src)
  | .ok v fin => if (mPure ms as || (v.nofz && mKeep ms as fin)) = true then .ok (v, .tmp) (mPut ms as fin ρ) else .bad
  | .exc x fin => if (mPure ms as || mKeep ms as fin) = true then .exc x (mPut ms as fin ρ) else .bad
  | .bad => .bad
theorem sCallM_ap (D : Defs) (f : Nat) (as : List (Val × Src)) (ρ : Env) : sCallM D f as ρ = if (nodupB (mSlots (D.modes f) as) && mArgs (mSlots (D.modes f) as) (D.modes f) as) = true then callMK (D.modes f) as ρ (D.run f (mVals (D.modes f) as)) else .bad := by
  unfold sCallM callMK
  dsimp only
  first
    | done
    | (by_cases h : (nodupB (mSlots (D.modes f) as) && mArgs (mSlots (D.modes f) as) (D.modes f) as) = true
       · rw [if_pos h, if_pos h]
         first | done | (cases D.run f (mVals (D.modes f) as) <;> rfl)
       · rw [if_neg h, if_neg h])
end VS

/-! walks over whole numbers -/
namespace VS
open PySem L2
theorem snoc_map (xs : List Int) (e : Int) : xs.map Val.int ++ [Val.int e] = (xs ++ [e]).map Val.int := by simp
theorem cons_map (xs : List Int) (e : Int) : Val.int e :: xs.map Val.int = (e :: xs).map Val.int := by simp
theorem app_map (xs ys : List Int) : xs.map Val.int ++ ys.map Val.int = (xs ++ ys).map Val.int := by simp
theorem items_l (z : Bool) (xs : List Int) : itemsOf .seq [.node (.lst z) (xs.map .int)] = some (xs.map .int) := by
  simp only [itemsOf, freezes_int]
theorem items_t (xs : List Int) : itemsOf .seq [.node .tup (xs.map .int)] = some (xs.map .int) := by
  simp only [itemsOf, freezes_int]
/-- the numbers from lo, n of them -/
def ivals (lo : Int) : Nat → List Int
  | 0 => []
  | n + 1 => lo :: ivals (lo + 1) n
theorem rangeL_ivals : ∀ (n : Nat) (lo : Int), rangeL lo n = (ivals lo n).map .int
  | 0, _ => rfl
  | n + 1, lo => by simp only [rangeL, ivals, List.map_cons, rangeL_ivals n]
theorem mem_ivals : ∀ {n : Nat} {lo i : Int}, i ∈ ivals lo n ↔ lo ≤ i ∧ i < lo + n
  | 0, lo, i => by simp only [ivals, List.not_mem_nil, false_iff]; omega
  | n + 1, lo, i => by
    simp only [ivals, List.mem_cons, mem_ivals (n := n)]
    omega
theorem len_ivals : ∀ (n : Nat) (lo : Int), (ivals lo n).length = n
  | 0, _ => rfl
  | n + 1, lo => by simp only [ivals, List.length_cons, len_ivals n]
theorem sorted_ivals : ∀ (n : Nat) (lo : Int), (ivals lo n).Pairwise (· < ·)
  | 0, _ => .nil
  | n + 1, lo => .cons (fun i hi => by have := mem_ivals.mp hi; omega) (sorted_ivals n _)
theorem items_n1 (j : Int) (h : j < 4611686018427387904) (h2 : -4611686018427387904 ≤ j) : itemsOf .range1 [.int j] = some ((ivals 0 j.toNat).map .int) := by
  have : decide (-(2 ^ 62) ≤ j ∧ j < 2 ^ 62) = true := by
    simp only [decide_eq_true_eq]
    omega
  simp only [itemsOf, this, if_true, rangeL_ivals]
theorem items_n2 (i j : Int) (h : -4611686018427387904 ≤ i ∧ i < 4611686018427387904) (h2 : -4611686018427387904 ≤ j ∧ j < 4611686018427387904) : itemsOf .range2 [.int i, .int j] = some ((ivals i (j - i).toNat).map .int) := by
  have : decide (-(2 ^ 62) ≤ i ∧ i < 2 ^ 62 ∧ -(2 ^ 62) ≤ j ∧ j < 2 ^ 62) = true := by
    simp only [decide_eq_true_eq]
    omega
  simp only [itemsOf, this, if_true, rangeL_ivals]
/-- a comprehension over whole numbers, tested -/
theorem compR_filter {b : Val → Env → Option Env} {vs : List Nat} {t : Env → Res Bool} {e : Env → Res (Val × Src)} {ρw : Env} {p : Int → Bool} {f : Int → Val} : ∀ {xs : List Int} {acc : List Val},
    (∀ x ∈ xs, ∃ ρ1 ρ2, b (.int x) ρw = some ρ1 ∧ t ρ1 = .ok (p x) ρ2 ∧ (p x = true → ∃ ρ3, e ρ2 = .ok (f x, .tmp) ρ3 ∧ wipeE ρ3 vs = ρw) ∧ (p x = false → wipeE ρ2 vs = ρw)) →
    acc.length + xs.length ≤ 16777216 → compR b vs t e (xs.map .int) ρw acc = .ok (acc ++ (xs.filter p).map f) ρw
  | [], acc, _, _ => by simp only [List.map_nil, compR_nil, List.filter_nil, List.append_nil]
  | x :: xs, acc, h, hl => by
    obtain ⟨ρ1, ρ2, h1, h2, h3, h4⟩ := h x List.mem_cons_self
    rw [List.map_cons]
    simp only [List.length_cons] at hl
    cases hp : p x with
    | true =>
      rw [hp] at h2
      obtain ⟨ρ3, h5, h6⟩ := h3 hp
      rw [compR_yes h1 h2 h5 (by omega), h6, compR_filter (fun y hy => h y (List.mem_cons_of_mem _ hy)) (by simp only [List.length_append, List.length_cons, List.length_nil]; omega), List.filter_cons_of_pos hp, List.map_cons, List.append_assoc]
      rfl
    | false =>
      rw [hp] at h2
      rw [compR_no h1 h2, h4 hp, compR_filter (fun y hy => h y (List.mem_cons_of_mem _ hy)) (by omega), List.filter_cons_of_neg (by rw [hp]; decide)]
end VS

/-! typed outcomes, and how a tree's run keeps to them -/
namespace VS
open PySem L2
inductive O (σ ρ φ : Type) where
  | nx (s : σ)
  | rt (r : ρ) (f : φ)
  | ex (x : Xc) (f : φ)
  | bad
inductive FO (ρ φ : Type) where
  | ok (r : ρ) (f : φ)
  | ex (x : Xc) (f : φ)
  | bad
section
variable {σ τ ρ φ ρ' φ' α β : Type}
def O.bind : O σ ρ φ → (σ → O τ ρ φ) → O τ ρ φ
  | .nx s, k => k s
  | .rt r f, _ => .rt r f
  | .ex x f, _ => .ex x f
  | .bad, _ => .bad
def O.fo (d : ρ) : O φ ρ φ → FO ρ φ
  | .nx f => .ok d f
  | .rt r f => .ok r f
  | .ex x f => .ex x f
  | .bad => .bad
def O.foN : O σ ρ φ → FO ρ φ
  | .rt r f => .ok r f
  | .ex x f => .ex x f
  | _ => .bad
@[simp] theorem O.foN_rt (r : ρ) (f : φ) : (O.rt r f : O σ ρ φ).foN = .ok r f := rfl
@[simp] theorem O.foN_ex (x : Xc) (f : φ) : (O.ex x f : O σ ρ φ).foN = .ex x f := rfl
def FO.cl : FO ρ' φ' → (ρ' → φ' → O σ ρ φ) → (Xc → φ' → O σ ρ φ) → O σ ρ φ
  | .ok r f, k, _ => k r f
  | .ex x f, _, h => h x f
  | .bad, _, _ => .bad
def FO.val : FO ρ φ → Option ρ
  | .ok r _ => some r
  | _ => none
def gd (c : Bool) (m : O σ ρ φ) : O σ ρ φ := if c = true then m else .bad
def gdo (c : Bool) (m : Option α) : Option α := if c = true then m else none
def un (o : Option α) (k : α → O σ ρ φ) : O σ ρ φ := match o with
  | some x => k x
  | none => .bad
def letO (v : α) (k : α → O σ ρ φ) : O σ ρ φ := k v
def ifE (t : Bool × τ) (m1 m2 : τ → O σ ρ φ) : O σ ρ φ := if t.1 = true then m1 t.2 else m2 t.2
def forO (f : α → σ → O σ ρ φ) : List α → σ → O σ ρ φ
  | [], s => .nx s
  | x :: xs, s => (f x s).bind (forO f xs)
def whileO (c : σ → O (Bool × σ) ρ φ) (f : σ → O σ ρ φ) : Nat → σ → O σ ρ φ
  | 0, _ => .bad
  | n + 1, s => (c s).bind fun b => if b.1 = true then (f b.2).bind (whileO c f n) else .nx b.2
def cmpO (t : α → Option Bool) (f : α → Option β) : List α → Option (List β)
  | [] => some []
  | x :: xs => (t x).bind fun b => if b = true then (f x).bind fun y => (cmpO t f xs).map fun ys => y :: ys else cmpO t f xs
@[simp] theorem O.bind_nx (s : σ) (k : σ → O τ ρ φ) : (O.nx s : O σ ρ φ).bind k = k s := rfl
@[simp] theorem O.bind_rt (r : ρ) (f : φ) (k : σ → O τ ρ φ) : (O.rt r f : O σ ρ φ).bind k = .rt r f := rfl
@[simp] theorem O.bind_ex (x : Xc) (f : φ) (k : σ → O τ ρ φ) : (O.ex x f : O σ ρ φ).bind k = .ex x f := rfl
@[simp] theorem O.bind_bad (k : σ → O τ ρ φ) : (O.bad : O σ ρ φ).bind k = .bad := rfl
@[simp] theorem O.fo_nx (d : ρ) (f : φ) : (O.nx f : O φ ρ φ).fo d = .ok d f := rfl
@[simp] theorem O.fo_rt (d r : ρ) (f : φ) : (O.rt r f : O φ ρ φ).fo d = .ok r f := rfl
@[simp] theorem O.fo_ex (d : ρ) (x : Xc) (f : φ) : (O.ex x f : O φ ρ φ).fo d = .ex x f := rfl
@[simp] theorem FO.cl_ok (r : ρ') (f : φ') (k : ρ' → φ' → O σ ρ φ) (h : Xc → φ' → O σ ρ φ) : (FO.ok r f).cl k h = k r f := rfl
@[simp] theorem FO.cl_ex (x : Xc) (f : φ') (k : ρ' → φ' → O σ ρ φ) (h : Xc → φ' → O σ ρ φ) : (FO.ex x f).cl k h = h x f := rfl
@[simp] theorem un_some (x : α) (k : α → O σ ρ φ) : un (some x) k = k x := rfl
@[simp] theorem forO_nil (f : α → σ → O σ ρ φ) (s : σ) : forO f [] s = .nx s := rfl
@[simp] theorem forO_cons (f : α → σ → O σ ρ φ) (x : α) (xs : List α) (s : σ) : forO f (x :: xs) s = (f x s).bind (forO f xs) := rfl
theorem gd_pos {c : Bool} (m : O σ ρ φ) (h : c = true) : gd c m = m := if_pos h
theorem gdo_pos {c : Bool} (m : Option α) (h : c = true) : gdo c m = m := if_pos h
theorem gdo_inv {c : Bool} {m : Option α} {x : α} (h : gdo c m = some x) : c = true ∧ m = some x := by
  unfold gdo at h
  split at h
  · exact ⟨by assumption, h⟩
  · cases h
theorem cmpO_pure (p : α → Bool) (f : α → β) : ∀ xs : List α, cmpO (fun x => some (p x)) (fun x => some (f x)) xs = some ((xs.filter p).map f)
  | [] => rfl
  | x :: xs => by
    simp only [cmpO, Option.bind_some, cmpO_pure p f xs, List.filter_cons]
    cases p x <;> simp

/-! ### the run keeps to the outcome -/
structure RK (ρ φ : Type) where
  ms : List Bool
  as : List Val
  eR : ρ → Val
  eF : φ → List Val
  /-- whether the arguments are told where the def raises -/
  xf : Bool
/-- the arguments, where the def raises -/
def FinX (k : RK ρ φ) (f : φ) (ρ' : Env) : Prop := ∃ r, fins k.ms k.as ρ' = some r ∧ (k.xf = true → r = k.eF f)
@[irreducible] def Sim (k : RK ρ φ) (E : σ → Env → Prop) (m : O σ ρ φ) (fl : Flow) : Prop := match m with
  | .nx s => ∃ ρ', fl = .next ρ' ∧ E s ρ'
  | .rt r f => ∃ ρ', fl = .ret (k.eR r) ρ' ∧ fins k.ms k.as ρ' = some (k.eF f)
  | .ex x f => ∃ ρ', fl = .exc x ρ' ∧ FinX k f ρ'
  | .bad => True
@[irreducible] def FSim (eR : ρ → Val) (eF : φ → List Val) (m : FO ρ φ) (r : FRes) : Prop := match m with
  | .ok x f => r = .ok (eR x) (eF f)
  | .ex x f => r = .exc x (eF f)
  | .bad => True
/-- as FSim, the arguments not told where the def raises -/
@[irreducible] def FSimI (eR : ρ → Val) (eF : φ → List Val) (m : FO ρ φ) (r : FRes) : Prop := match m with
  | .ok x f => r = .ok (eR x) (eF f)
  | .ex x _ => ∃ fin, r = .exc x fin
  | .bad => True
/-- a test that may change names -/
@[irreducible] def TSim (k : RK ρ φ) (E : σ → Env → Prop) (m : O (Bool × σ) ρ φ) (r : Res Bool) : Prop := match m with
  | .nx s => ∃ ρ', r = .ok s.1 ρ' ∧ E s.2 ρ'
  | .rt _ _ => False
  | .ex x f => ∃ ρ', r = .exc x ρ' ∧ FinX k f ρ'
  | .bad => True
def NoE : σ → Env → Prop := fun _ _ => False
def FinE (k : RK ρ φ) : φ → Env → Prop := fun f ρ => fins k.ms k.as ρ = some (k.eF f)
theorem Sim.nx {k : RK ρ φ} {E : σ → Env → Prop} {s : σ} {fl : Flow} : Sim k E (.nx s) fl ↔ ∃ ρ', fl = .next ρ' ∧ E s ρ' := by unfold Sim; exact Iff.rfl
theorem Sim.rt {k : RK ρ φ} {E : σ → Env → Prop} {r : ρ} {f : φ} {fl : Flow} : Sim k E (.rt r f) fl ↔ ∃ ρ', fl = .ret (k.eR r) ρ' ∧ fins k.ms k.as ρ' = some (k.eF f) := by unfold Sim; exact Iff.rfl
theorem Sim.ex {k : RK ρ φ} {E : σ → Env → Prop} {x : Xc} {f : φ} {fl : Flow} : Sim k E (.ex x f) fl ↔ ∃ ρ', fl = .exc x ρ' ∧ FinX k f ρ' := by unfold Sim; exact Iff.rfl
theorem Sim.bad {k : RK ρ φ} {E : σ → Env → Prop} {fl : Flow} : Sim k E .bad fl := by unfold Sim; exact True.intro
theorem FSim.ok {eR : ρ → Val} {eF : φ → List Val} {x : ρ} {f : φ} {r : FRes} : FSim eR eF (.ok x f) r ↔ r = .ok (eR x) (eF f) := by unfold FSim; exact Iff.rfl
theorem FSim.ex {eR : ρ → Val} {eF : φ → List Val} {x : Xc} {f : φ} {r : FRes} : FSim eR eF (.ex x f) r ↔ r = .exc x (eF f) := by unfold FSim; exact Iff.rfl
theorem FSim.bad {eR : ρ → Val} {eF : φ → List Val} {r : FRes} : FSim eR eF .bad r := by unfold FSim; exact True.intro
theorem TSim.nx {k : RK ρ φ} {E : σ → Env → Prop} {s : Bool × σ} {r : Res Bool} : TSim k E (.nx s) r ↔ ∃ ρ', r = .ok s.1 ρ' ∧ E s.2 ρ' := by unfold TSim; exact Iff.rfl
theorem TSim.rt {k : RK ρ φ} {E : σ → Env → Prop} {x : ρ} {f : φ} {r : Res Bool} : ¬ TSim k E (.rt x f) r := by unfold TSim; exact id
theorem TSim.ex {k : RK ρ φ} {E : σ → Env → Prop} {x : Xc} {f : φ} {r : Res Bool} : TSim k E (.ex x f) r ↔ ∃ ρ', r = .exc x ρ' ∧ FinX k f ρ' := by unfold TSim; exact Iff.rfl
theorem TSim.bad {k : RK ρ φ} {E : σ → Env → Prop} {r : Res Bool} : TSim k E .bad r := by unfold TSim; exact True.intro
variable {k : RK ρ φ} {E : σ → Env → Prop} {E1 : τ → Env → Prop} {m : O σ ρ φ} {fl : Flow} {D : Defs} {G : Str → Option Val} {N : Nat} {pr : List Nat} {ρ0 ρ1 ρ2 : Env} {b : Blk} {e : Ex} {v : Val}
theorem fsim_def {d : ρ} {m : O φ ρ φ} (hx : k.xf = true) (hd : k.eR d = .non) (h : Sim k (FinE k) m fl) : FSim k.eR k.eF (m.fo d) (endK k.ms k.as fl) := by
  cases m with
  | nx f => obtain ⟨ρ', rfl, e⟩ := Sim.nx.mp h; exact FSim.ok.mpr (by rw [endK_next, e, endR_some, hd])
  | rt r f => obtain ⟨ρ', rfl, e⟩ := Sim.rt.mp h; exact FSim.ok.mpr (by rw [endK_ret, e, endR_some])
  | ex x f => obtain ⟨ρ', rfl, r, e, q⟩ := Sim.ex.mp h; exact FSim.ex.mpr (by rw [endK_exc, e, endR_some, q hx])
  | bad => exact FSim.bad
/-- a body that never falls off its end -/
theorem fsim_ret {d : ρ} {m : O φ ρ φ} (hx : k.xf = true) (h : Sim k NoE m fl) : FSim k.eR k.eF (m.fo d) (endK k.ms k.as fl) := by
  cases m with
  | nx f => obtain ⟨ρ', rfl, e⟩ := Sim.nx.mp h; exact e.elim
  | rt r f => obtain ⟨ρ', rfl, e⟩ := Sim.rt.mp h; exact FSim.ok.mpr (by rw [endK_ret, e, endR_some])
  | ex x f => obtain ⟨ρ', rfl, r, e, q⟩ := Sim.ex.mp h; exact FSim.ex.mpr (by rw [endK_exc, e, endR_some, q hx])
  | bad => exact FSim.bad
theorem fsim_foN {m : O σ ρ φ} (hx : k.xf = true) (h : Sim k NoE m fl) : FSim k.eR k.eF m.foN (endK k.ms k.as fl) := by
  cases m with
  | nx f => exact FSim.bad
  | rt r f => obtain ⟨ρ', rfl, e⟩ := Sim.rt.mp h; exact FSim.ok.mpr (by rw [endK_ret, e, endR_some])
  | ex x f => obtain ⟨ρ', rfl, r, e, q⟩ := Sim.ex.mp h; exact FSim.ex.mpr (by rw [endK_exc, e, endR_some, q hx])
  | bad => exact FSim.bad
theorem FSimI.ok {eR : ρ → Val} {eF : φ → List Val} {x : ρ} {f : φ} {r : FRes} : FSimI eR eF (.ok x f) r ↔ r = .ok (eR x) (eF f) := by unfold FSimI; exact Iff.rfl
theorem FSimI.ex {eR : ρ → Val} {eF : φ → List Val} {x : Xc} {f : φ} {r : FRes} : FSimI eR eF (.ex x f) r ↔ ∃ fin, r = .exc x fin := by unfold FSimI; exact Iff.rfl
theorem FSimI.bad {eR : ρ → Val} {eF : φ → List Val} {r : FRes} : FSimI eR eF .bad r := by unfold FSimI; exact True.intro
theorem fsimI_def {d : ρ} {m : O φ ρ φ} (hd : k.eR d = .non) (h : Sim k (FinE k) m fl) : FSimI k.eR k.eF (m.fo d) (endK k.ms k.as fl) := by
  cases m with
  | nx f => obtain ⟨ρ', rfl, e⟩ := Sim.nx.mp h; exact FSimI.ok.mpr (by rw [endK_next, e, endR_some, hd])
  | rt r f => obtain ⟨ρ', rfl, e⟩ := Sim.rt.mp h; exact FSimI.ok.mpr (by rw [endK_ret, e, endR_some])
  | ex x f => obtain ⟨ρ', rfl, r, e, q⟩ := Sim.ex.mp h; exact FSimI.ex.mpr ⟨r, by rw [endK_exc, e, endR_some]⟩
  | bad => exact FSimI.bad
theorem fsimI_foN {m : O σ ρ φ} (h : Sim k NoE m fl) : FSimI k.eR k.eF m.foN (endK k.ms k.as fl) := by
  cases m with
  | nx f => exact FSimI.bad
  | rt r f => obtain ⟨ρ', rfl, e⟩ := Sim.rt.mp h; exact FSimI.ok.mpr (by rw [endK_ret, e, endR_some])
  | ex x f => obtain ⟨ρ', rfl, r, e, q⟩ := Sim.ex.mp h; exact FSimI.ex.mpr ⟨r, by rw [endK_exc, e, endR_some]⟩
  | bad => exact FSimI.bad
theorem FinX.of {k : RK ρ φ} {f : φ} {ρ' : Env} (h : fins k.ms k.as ρ' = some (k.eF f)) : FinX k f ρ' := ⟨_, h, fun _ => rfl⟩
theorem sim_clI {eR : ρ' → Val} {eF : φ' → List Val} {m : FO ρ' φ'} {r0 : FRes} {kf : ρ' → φ' → O σ ρ φ} {hx : Xc → φ' → O σ ρ φ} (hF : FSimI eR eF m r0) (h1 : ∀ r f, m = .ok r f → r0 = .ok (eR r) (eF f) → Sim k E (kf r f) fl) (h2 : ∀ x f fin, m = .ex x f → r0 = .exc x fin → Sim k E (hx x f) fl) : Sim k E (m.cl kf hx) fl := by
  cases m with
  | ok r f => exact h1 r f rfl (FSimI.ok.mp hF)
  | ex x f => obtain ⟨fin, e⟩ := FSimI.ex.mp hF; exact h2 x f fin rfl e
  | bad => exact Sim.bad
theorem sim_clI1 {eR : ρ' → Val} {eF : φ' → List Val} {m : FO ρ' φ'} {r0 : FRes} {kf : ρ' → φ' → O σ ρ φ} (hF : FSimI eR eF m r0) (h1 : ∀ r f, m = .ok r f → r0 = .ok (eR r) (eF f) → Sim k E (kf r f) fl) : Sim k E (m.cl kf fun _ _ => .bad) fl := sim_clI hF h1 fun _ _ _ _ _ => Sim.bad
theorem sim_gd {c : Bool} (h : c = true → Sim k E m fl) : Sim k E (gd c m) fl := by
  unfold gd
  split
  · exact h (by assumption)
  · exact Sim.bad
theorem sim_un {o : Option α} {kf : α → O σ ρ φ} (h : ∀ x, o = some x → Sim k E (kf x) fl) : Sim k E (un o kf) fl := by
  cases o with
  | none => exact Sim.bad
  | some x => exact h x rfl
theorem sim_cl {eR : ρ' → Val} {eF : φ' → List Val} {m : FO ρ' φ'} {r0 : FRes} {kf : ρ' → φ' → O σ ρ φ} {hx : Xc → φ' → O σ ρ φ} (hF : FSim eR eF m r0) (h1 : ∀ r f, m = .ok r f → r0 = .ok (eR r) (eF f) → Sim k E (kf r f) fl) (h2 : ∀ x f, m = .ex x f → r0 = .exc x (eF f) → Sim k E (hx x f) fl) : Sim k E (m.cl kf hx) fl := by
  cases m with
  | ok r f => exact h1 r f rfl (FSim.ok.mp hF)
  | ex x f => exact h2 x f rfl (FSim.ex.mp hF)
  | bad => exact Sim.bad
/-- a call that raises nothing -/
def FO.cl1 (m : FO ρ' φ') (kf : ρ' → φ' → O σ ρ φ) : O σ ρ φ := m.cl kf fun _ _ => .bad
@[simp] theorem FO.cl1_ok (r : ρ') (f : φ') (k : ρ' → φ' → O σ ρ φ) : (FO.ok r f).cl1 k = k r f := rfl
theorem sim_cl1 {eR : ρ' → Val} {eF : φ' → List Val} {m : FO ρ' φ'} {r0 : FRes} {kf : ρ' → φ' → O σ ρ φ} (hF : FSim eR eF m r0) (h1 : ∀ r f, m = .ok r f → r0 = .ok (eR r) (eF f) → Sim k E (kf r f) fl) : Sim k E (m.cl1 kf) fl :=
  sim_cl hF h1 fun _ _ _ _ => Sim.bad
theorem fsim_val {eR : ρ' → Val} {eF : φ' → List Val} {m : FO ρ' φ'} {r0 : FRes} {r : ρ'} (hF : FSim eR eF m r0) (h : m.val = some r) : ∃ f, r0 = .ok (eR r) (eF f) := by
  cases m with
  | ok r' f => cases h; exact ⟨f, FSim.ok.mp hF⟩
  | ex x f => cases h
  | bad => cases h
theorem sim_bind {m1 : O τ ρ φ} {kf : τ → O σ ρ φ} {K : Env → Flow} (h1 : Sim k E1 m1 fl) (h2 : ∀ s ρ', E1 s ρ' → Sim k E (kf s) (K ρ')) : Sim k E (m1.bind kf) (seqK K fl) := by
  cases m1 with
  | nx s => obtain ⟨ρ', rfl, e⟩ := Sim.nx.mp h1; exact h2 s ρ' e
  | rt r f => obtain ⟨ρ', rfl, e⟩ := Sim.rt.mp h1; exact Sim.rt.mpr ⟨ρ', rfl, e⟩
  | ex x f => obtain ⟨ρ', rfl, e⟩ := Sim.ex.mp h1; exact Sim.ex.mpr ⟨ρ', rfl, e⟩
  | bad => exact Sim.bad
theorem sim_no {K : Env → Flow} (h : Sim k NoE m fl) : Sim k E m (seqK K fl) := by
  cases m with
  | nx s => obtain ⟨ρ', rfl, e⟩ := Sim.nx.mp h; exact e.elim
  | rt r f => obtain ⟨ρ', rfl, e⟩ := Sim.rt.mp h; exact Sim.rt.mpr ⟨ρ', rfl, e⟩
  | ex x f => obtain ⟨ρ', rfl, e⟩ := Sim.ex.mp h; exact Sim.ex.mpr ⟨ρ', rfl, e⟩
  | bad => exact Sim.bad
theorem seqK_nil {fl : Flow} : seqK (exs D G N pr .nil) fl = fl := by cases fl <;> rfl
theorem sim_nilk {K : Env → Flow} (h : Sim k E m (K ρ0)) : Sim k E m (seqK K (exs D G N pr .nil ρ0)) := h
theorem sim_nil {s : σ} (h : E s ρ0) : Sim k E (.nx s) (exs D G N pr .nil ρ0) := Sim.nx.mpr ⟨ρ0, rfl, h⟩
theorem sim_set {i : Nat} (he : ev D G e ρ0 = .ok (v, .tmp) ρ1) (hi : (decide (i < ρ1.length) && free pr [i]) = true) (e2 : ρ1.set i (some v) = ρ2) (h : Sim k E m (exs D G N pr b ρ2)) : Sim k E m (exs D G N pr (.cons (.set i e) b) ρ0) := by
  rw [exs_cons, ex_set, he, flow_ok1]
  have : setK pr i (v, .tmp) ρ1 = .next ρ2 := by
    unfold setK
    dsimp only
    rw [if_pos hi, e2]
  rw [this]
  exact h
/-- set to a name, and frozen there -/
theorem sim_setF {i : Nat} (he : ev D G e ρ0 = .ok (v, .tmp) ρ1) (hf : v.freeze = w) (hi : (decide (i < ρ1.length) && free pr [i]) = true) (e2 : ρ1.set i (some w) = ρ2) (h : Sim k E m (exs D G N pr b ρ2)) : Sim k E m (exs D G N pr (.cons (.aft i (.set i e)) b) ρ0) := by
  rw [exs_cons, ex_aft, ex_set, he, flow_ok1]
  have : aftK i (setK pr i (v, .tmp) ρ1) = .next ρ2 := by
    unfold setK
    dsimp only
    rw [if_pos hi]
    simp only [Bool.and_eq_true, decide_eq_true_eq] at hi
    show Flow.next (frzAt i (ρ1.set i (some v))) = .next ρ2
    unfold frzAt
    rw [List.getElem?_set_self hi.1]
    dsimp only
    unfold putAt
    rw [List.getElem?_set_self hi.1]
    dsimp only
    rw [List.set_set, hf, ← e2]
    rfl
  rw [this]
  exact h
theorem sim_unp {is : List Nat} {vs : List Val} (he : ev D G e ρ0 = .ok (.node .tup vs, .tmp) ρ1) (hp : (Val.node .tup vs).pure = true) (hf : free pr is = true) (e2 : setAll is vs ρ1 = some ρ2) (h : Sim k E m (exs D G N pr b ρ2)) : Sim k E m (exs D G N pr (.cons (.unp is e) b) ρ0) := by
  rw [exs_cons, ex_unp, he, flow_ok1]
  have h1 : bindTg (.tup is) (.node .tup vs) ρ1 = some ρ2 := e2
  have : unpK pr is (.node .tup vs, .tmp) ρ1 = .next ρ2 := by
    unfold unpK
    dsimp only
    rw [if_pos (by rw [hp, hf]; rfl)]
    unfold unpK1
    rw [h1]
  rw [this]
  exact h
/-- two things of a list turned about -/
theorem sim_swp {i : Nat} {k1 k2 : Ex} {u w x1 y1 x2 y2 : Val} {i1 i2 : Nat} {p1 p2 : List Nat} {w1 w2 : Val × Src} {ρ3 ρ4 ρ5 : Env} (he : ev D G e ρ0 = .ok (.node .tup [u, w], .tmp) ρ1) (hp : (u.pure && w.pure) = true) (h1 : evs D G (.cons (.var i) (.cons k1 .nil)) ρ1 = .ok [(x1, .plc i1 p1), w1] ρ2) (g1 : lputOf x1 w1.1 u = some y1) (e1 : putAt ρ2 i1 p1 y1 = ρ3)
    (h2 : evs D G (.cons (.var i) (.cons k2 .nil)) ρ3 = .ok [(x2, .plc i2 p2), w2] ρ4) (g2 : lputOf x2 w2.1 w = some y2) (e2 : putAt ρ4 i2 p2 y2 = ρ5) (h : Sim k E m (exs D G N pr b ρ5)) : Sim k E m (exs D G N pr (.cons (.swp i e k1 k2) b) ρ0) := by
  rw [exs_cons, ex_swp, he, flow_ok1]
  have : swpK (evs D G (.cons (.var i) (.cons k1 .nil))) (evs D G (.cons (.var i) (.cons k2 .nil))) (.node .tup [u, w], .tmp) ρ1 = .next ρ5 := by
    simp only [swpK, hp, if_true, h1, flow_ok1]
    obtain ⟨w1, s1⟩ := w1
    obtain ⟨w2, s2⟩ := w2
    simp only [sPutC, g1, e1, h2, flow_ok1, g2, e2]
  rw [this]
  exact h
theorem sim_expr {a : Val × Src} (he : ev D G e ρ0 = .ok a ρ1) (h : Sim k E m (exs D G N pr b ρ1)) : Sim k E m (exs D G N pr (.cons (.expr e) b) ρ0) := by
  rw [exs_cons, ex_expr, he, flow_ok1]
  exact h
theorem sim_ret {r : ρ} {f : φ} (he : ev D G e ρ0 = .ok (k.eR r, .tmp) ρ1) (hf : fins k.ms k.as ρ1 = some (k.eF f)) : Sim k E (.rt r f) (exs D G N pr (.cons (.ret e) b) ρ0) := by
  rw [exs_cons, ex_ret, he, flow_ok1]
  exact Sim.rt.mpr ⟨ρ1, rfl, hf⟩
theorem sim_retP {r : ρ} {f : φ} {i : Nat} {p : List Nat} (he : ev D G e ρ0 = .ok (k.eR r, .plc i p) ρ1) (hf : fins k.ms k.as (ρ1.set i none) = some (k.eF f)) : Sim k E (.rt r f) (exs D G N pr (.cons (.ret e) b) ρ0) := by
  rw [exs_cons, ex_ret, he, flow_ok1]
  exact Sim.rt.mpr ⟨ρ1.set i none, rfl, hf⟩
theorem sim_retN {r : ρ} {f : φ} (hr : k.eR r = .non) (hf : fins k.ms k.as ρ0 = some (k.eF f)) : Sim k E (.rt r f) (exs D G N pr (.cons .retN b) ρ0) := by
  rw [exs_cons, ex_retN]
  exact Sim.rt.mpr ⟨ρ0, by rw [hr]; rfl, hf⟩
theorem sim_pass (h : Sim k E m (exs D G N pr b ρ0)) : Sim k E m (exs D G N pr (.cons .pass b) ρ0) := h
theorem ex_ifs_at {t : Bool} {s : Src} {A B : Blk} (hc : ev D G e ρ0 = .ok (.bl t, s) ρ1) : ex D G N pr (.ifs e A B) ρ0 = if t = true then exs D G N pr A ρ1 else exs D G N pr B ρ1 := by
  rw [ex_ifs, hc]
  cases t <;> rfl
/-- both ways go on -/
theorem sim_if {t : Bool} {s : Src} {A B : Blk} {m1 m2 : O τ ρ φ} {kf : τ → O σ ρ φ} (hc : ev D G e ρ0 = .ok (.bl t, s) ρ1) (h1 : t = true → Sim k E1 m1 (exs D G N pr A ρ1)) (h2 : t = false → Sim k E1 m2 (exs D G N pr B ρ1)) (hk : ∀ s ρ', E1 s ρ' → Sim k E (kf s) (exs D G N pr b ρ')) :
    Sim k E ((if t = true then m1 else m2).bind kf) (exs D G N pr (.cons (.ifs e A B) b) ρ0) := by
  rw [exs_cons, ex_ifs_at hc]
  refine sim_bind (E1 := E1) ?_ hk
  cases t with
  | true => exact h1 rfl
  | false => exact h2 rfl
theorem sim_if2 {t : Bool} {s : Src} {A B : Blk} {m1 m2 : O σ ρ φ} (hc : ev D G e ρ0 = .ok (.bl t, s) ρ1) (h1 : t = true → Sim k E m1 (seqK (exs D G N pr b) (exs D G N pr A ρ1))) (h2 : t = false → Sim k E m2 (seqK (exs D G N pr b) (exs D G N pr B ρ1))) :
    Sim k E (if t = true then m1 else m2) (exs D G N pr (.cons (.ifs e A B) b) ρ0) := by
  rw [exs_cons, ex_ifs_at hc]
  cases t with
  | true => exact h1 rfl
  | false => exact h2 rfl
/-- the first way ends -/
theorem sim_ifL {t : Bool} {s : Src} {A B : Blk} {m1 m2 : O σ ρ φ} (hc : ev D G e ρ0 = .ok (.bl t, s) ρ1) (h1 : t = true → Sim k NoE m1 (exs D G N pr A ρ1)) (h2 : t = false → Sim k E m2 (seqK (exs D G N pr b) (exs D G N pr B ρ1))) :
    Sim k E (if t = true then m1 else m2) (exs D G N pr (.cons (.ifs e A B) b) ρ0) := by
  rw [exs_cons, ex_ifs_at hc]
  cases t with
  | true => exact sim_no (h1 rfl)
  | false => exact h2 rfl
theorem sim_ifR {t : Bool} {s : Src} {A B : Blk} {m1 m2 : O σ ρ φ} (hc : ev D G e ρ0 = .ok (.bl t, s) ρ1) (h1 : t = true → Sim k E m1 (seqK (exs D G N pr b) (exs D G N pr A ρ1))) (h2 : t = false → Sim k NoE m2 (exs D G N pr B ρ1)) :
    Sim k E (if t = true then m1 else m2) (exs D G N pr (.cons (.ifs e A B) b) ρ0) := by
  rw [exs_cons, ex_ifs_at hc]
  cases t with
  | true => exact h1 rfl
  | false => exact sim_no (h2 rfl)
/-- at the end of a block -/
theorem sim_ifT {t : Bool} {s : Src} {A B : Blk} {m1 m2 : O σ ρ φ} (hc : ev D G e ρ0 = .ok (.bl t, s) ρ1) (h1 : t = true → Sim k E m1 (exs D G N pr A ρ1)) (h2 : t = false → Sim k E m2 (exs D G N pr B ρ1)) :
    Sim k E (if t = true then m1 else m2) (exs D G N pr (.cons (.ifs e A B) .nil) ρ0) := by
  rw [exs_cons, seqK_nil, ex_ifs_at hc]
  cases t with
  | true => exact h1 rfl
  | false => exact h2 rfl
/-- a test that may change names: its answer and what it changes are told first -/
theorem sim_ifE0 {A B : Blk} {mt : O (Bool × τ) ρ φ} {kf : Bool × τ → O σ ρ φ} (hc : TSim k E1 mt (ev D G e ρ0).test) (h1 : ∀ t s ρ', E1 s ρ' → Sim k E (kf (t, s)) (seqK (exs D G N pr b) (if t = true then exs D G N pr A ρ' else exs D G N pr B ρ'))) :
    Sim k E (mt.bind kf) (exs D G N pr (.cons (.ifs e A B) b) ρ0) := by
  rw [exs_cons, ex_ifs]
  cases mt with
  | nx s =>
    obtain ⟨t, s⟩ := s
    obtain ⟨ρ', e1, q⟩ := TSim.nx.mp hc
    rw [e1]
    have := h1 t s ρ' q
    cases t with
    | true => exact this
    | false => exact this
  | rt r f => exact (TSim.rt hc).elim
  | ex x f =>
    obtain ⟨ρ', e1, q⟩ := TSim.ex.mp hc
    rw [e1]
    exact Sim.ex.mpr ⟨ρ', rfl, q⟩
  | bad => exact Sim.bad
theorem sim_ifEJ {θ : Type} {E2 : θ → Env → Prop} {A B : Blk} {mt : O (Bool × τ) ρ φ} {m1 m2 : τ → O θ ρ φ} {kf : θ → O σ ρ φ} (hc : TSim k E1 mt (ev D G e ρ0).test) (h1 : ∀ s ρ', E1 s ρ' → Sim k E2 (m1 s) (exs D G N pr A ρ')) (h2 : ∀ s ρ', E1 s ρ' → Sim k E2 (m2 s) (exs D G N pr B ρ')) (hk : ∀ s ρ', E2 s ρ' → Sim k E (kf s) (exs D G N pr b ρ')) :
    Sim k E (mt.bind fun t => (ifE t m1 m2).bind kf) (exs D G N pr (.cons (.ifs e A B) b) ρ0) :=
  sim_ifE0 hc fun t s ρ' q => sim_bind (E1 := E2) (by
    cases t with
    | true => exact h1 s ρ' q
    | false => exact h2 s ρ' q) hk
theorem sim_ifEL {A B : Blk} {mt : O (Bool × τ) ρ φ} {m1 m2 : τ → O σ ρ φ} (hc : TSim k E1 mt (ev D G e ρ0).test) (h1 : ∀ s ρ', E1 s ρ' → Sim k NoE (m1 s) (exs D G N pr A ρ')) (h2 : ∀ s ρ', E1 s ρ' → Sim k E (m2 s) (seqK (exs D G N pr b) (exs D G N pr B ρ'))) :
    Sim k E (mt.bind fun t => ifE t m1 m2) (exs D G N pr (.cons (.ifs e A B) b) ρ0) :=
  sim_ifE0 hc fun t s ρ' q => by
    cases t with
    | true => exact sim_no (h1 s ρ' q)
    | false => exact h2 s ρ' q
theorem sim_ifER {A B : Blk} {mt : O (Bool × τ) ρ φ} {m1 m2 : τ → O σ ρ φ} (hc : TSim k E1 mt (ev D G e ρ0).test) (h1 : ∀ s ρ', E1 s ρ' → Sim k E (m1 s) (seqK (exs D G N pr b) (exs D G N pr A ρ'))) (h2 : ∀ s ρ', E1 s ρ' → Sim k NoE (m2 s) (exs D G N pr B ρ')) :
    Sim k E (mt.bind fun t => ifE t m1 m2) (exs D G N pr (.cons (.ifs e A B) b) ρ0) :=
  sim_ifE0 hc fun t s ρ' q => by
    cases t with
    | true => exact h1 s ρ' q
    | false => exact sim_no (h2 s ρ' q)
theorem sim_ifET {A B : Blk} {mt : O (Bool × τ) ρ φ} {m1 m2 : τ → O σ ρ φ} (hc : TSim k E1 mt (ev D G e ρ0).test) (h1 : ∀ s ρ', E1 s ρ' → Sim k E (m1 s) (exs D G N pr A ρ')) (h2 : ∀ s ρ', E1 s ρ' → Sim k E (m2 s) (exs D G N pr B ρ')) :
    Sim k E (mt.bind fun t => ifE t m1 m2) (exs D G N pr (.cons (.ifs e A B) .nil) ρ0) :=
  sim_ifE0 hc fun t s ρ' q => by
    rw [seqK_nil]
    cases t with
    | true => exact h1 s ρ' q
    | false => exact h2 s ρ' q
theorem forR_sim {bd : Val → Env → Option Env} {body : Env → Flow} {enc : α → Val} {f : α → τ → O τ ρ φ} (hb : ∀ x s ρ', E1 s ρ' → ∃ ρ2, bd (enc x) ρ' = some ρ2 ∧ Sim k E1 (f x s) (body ρ2)) : ∀ {xs : List α} {s0 : τ} {ρ0 : Env}, E1 s0 ρ0 → Sim k E1 (forO f xs s0) (forR bd body (xs.map enc) ρ0)
  | [], s0, ρ0, h0 => Sim.nx.mpr ⟨ρ0, rfl, h0⟩
  | x :: xs, s0, ρ0, h0 => by
    obtain ⟨ρ2, e, h⟩ := hb x s0 ρ0 h0
    rw [List.map_cons, forR_cons e]
    exact sim_bind h fun s ρ' q => forR_sim hb q
theorem sim_for {enc : α → Val} {xs : List α} {as : List (Val × Src)} {its : Exs} {tg : Tg} {ik : ItK} {body : Blk} {f : α → τ → O τ ρ φ} {s0 : τ} {kf : τ → O σ ρ φ} (hits : evs D G its ρ0 = .ok as ρ1) (ha : (allTmp as && free pr tg.slots) = true) (hi : itemsOf ik (as.map (·.1)) = some (xs.map enc)) (h0 : E1 s0 ρ1)
    (hb : ∀ x s ρ', E1 s ρ' → ∃ ρ2, bindTg tg (enc x) ρ' = some ρ2 ∧ Sim k E1 (f x s) (exs D G N pr body ρ2)) (hk : ∀ s ρ', E1 s ρ' → Sim k E (kf s) (exs D G N pr b ρ')) : Sim k E ((forO f xs s0).bind kf) (exs D G N pr (.cons (.fors tg ik its body) b) ρ0) := by
  rw [exs_cons, ex_fors, hits, flow_ok1]
  unfold forK
  rw [if_pos ha, hi]
  exact sim_bind (forR_sim hb h0) hk
theorem whileR_sim {c : Env → Res Bool} {body : Env → Flow} {ct : τ → O (Bool × τ) ρ φ} {f : τ → O τ ρ φ} (hc : ∀ s ρ', E1 s ρ' → TSim k E1 (ct s) (c ρ')) (hb : ∀ s ρ', E1 s ρ' → Sim k E1 (f s) (body ρ')) : ∀ {n : Nat} {s0 : τ} {ρ0 : Env}, E1 s0 ρ0 → Sim k E1 (whileO ct f n s0) (whileR c body n ρ0)
  | 0, s0, ρ0, h0 => Sim.bad
  | n + 1, s0, ρ0, h0 => by
    have h := hc s0 ρ0 h0
    unfold whileO
    cases hs : ct s0 with
    | nx s =>
      rw [hs] at h
      obtain ⟨t, s⟩ := s
      obtain ⟨ρ', e1, q⟩ := TSim.nx.mp h
      cases t with
      | true =>
        rw [whileR_go e1]
        show Sim k E1 ((f s).bind (whileO ct f n)) _
        exact sim_bind (hb s ρ' q) fun s ρ' q => whileR_sim hc hb q
      | false =>
        rw [whileR_end e1]
        exact Sim.nx.mpr ⟨ρ', rfl, q⟩
    | rt r f => rw [hs] at h; exact (TSim.rt h).elim
    | ex x f =>
      rw [hs] at h
      obtain ⟨ρ', e1, q⟩ := TSim.ex.mp h
      have : whileR c body (n + 1) ρ0 = .exc x ρ' := by simp only [whileR, e1]
      rw [this]
      exact Sim.ex.mpr ⟨ρ', rfl, q⟩
    | bad => exact Sim.bad
theorem sim_while {c : Ex} {body : Blk} {ct : τ → O (Bool × τ) ρ φ} {f : τ → O τ ρ φ} {s0 : τ} {kf : τ → O σ ρ φ} (h0 : E1 s0 ρ0) (hc : ∀ s ρ', E1 s ρ' → TSim k E1 (ct s) (ev D G c ρ').test) (hb : ∀ s ρ', E1 s ρ' → Sim k E1 (f s) (exs D G N pr body ρ'))
    (hk : ∀ s ρ', E1 s ρ' → Sim k E (kf s) (exs D G N pr b ρ')) : Sim k E ((whileO ct f N s0).bind kf) (exs D G N pr (.cons (.whiles c body) b) ρ0) := by
  rw [exs_cons]
  have : ex D G N pr (.whiles c body) ρ0 = whileR (fun ρ => (ev D G c ρ).test) (fun ρ => exs D G N pr body ρ) N ρ0 := rfl
  rw [this]
  exact sim_bind (whileR_sim hc hb h0) hk
theorem sim_let {v : α} {kf : α → O σ ρ φ} (h : ∀ x, x = v → Sim k E (kf x) fl) : Sim k E (letO v kf) fl := h v rfl
theorem sim_ifTrue {s : Src} {A B : Blk} (hc : ev D G e ρ0 = .ok (.bl true, s) ρ1) (h : Sim k E m (seqK (exs D G N pr b) (exs D G N pr A ρ1))) : Sim k E m (exs D G N pr (.cons (.ifs e A B) b) ρ0) := by
  rw [exs_cons, ex_ifs_at hc, if_pos rfl]
  exact h
theorem sim_ifFalse {s : Src} {A B : Blk} (hc : ev D G e ρ0 = .ok (.bl false, s) ρ1) (h : Sim k E m (seqK (exs D G N pr b) (exs D G N pr B ρ1))) : Sim k E m (exs D G N pr (.cons (.ifs e A B) b) ρ0) := by
  rw [exs_cons, ex_ifs_at hc, if_neg (by decide)]
  exact h
theorem fsim_bad {eR : ρ → Val} {eF : φ → List Val} {r : FRes} : FSim eR eF FO.bad r := FSim.bad
/-! tests -/
theorem tsim_of {t : Bool} {s : Src} {s0 : τ} (hc : ev D G e ρ0 = .ok (.bl t, s) ρ1) (h : E1 s0 ρ1) : TSim k E1 (.nx (t, s0)) (ev D G e ρ0).test := TSim.nx.mpr ⟨ρ1, by rw [hc]; rfl, h⟩
theorem tsim_gd {c : Bool} {mt : O (Bool × τ) ρ φ} {r : Res Bool} (h : c = true → TSim k E1 mt r) : TSim k E1 (gd c mt) r := by
  unfold gd
  split
  · exact h (by assumption)
  · exact TSim.bad
theorem tsim_un {o : Option α} {kf : α → O (Bool × τ) ρ φ} {r : Res Bool} (h : ∀ x, o = some x → TSim k E1 (kf x) r) : TSim k E1 (un o kf) r := by
  cases o with
  | none => exact TSim.bad
  | some x => exact h x rfl
theorem tsim_cl1 {eR : ρ' → Val} {eF : φ' → List Val} {m : FO ρ' φ'} {r0 : FRes} {kf : ρ' → φ' → O (Bool × τ) ρ φ} {r : Res Bool} (hF : FSim eR eF m r0) (h1 : ∀ x f, m = .ok x f → r0 = .ok (eR x) (eF f) → TSim k E1 (kf x f) r) : TSim k E1 (m.cl1 kf) r := by
  cases m with
  | ok x f => exact h1 x f rfl (FSim.ok.mp hF)
  | ex x f => exact TSim.bad
  | bad => exact TSim.bad
theorem tsim_and {a c : Ex} {t : Bool} {s : Src} {mt : O (Bool × τ) ρ φ} {s1 : τ} (ha : ev D G a ρ0 = .ok (.bl t, s) ρ1) (h1 : t = true → TSim k E1 mt (ev D G c ρ1).test) (h2 : t = false → E1 s1 ρ1) : TSim k E1 (if t = true then mt else .nx (false, s1)) (ev D G (.and a c) ρ0).test := by
  have e : (ev D G (.and a c) ρ0).test = if t = true then (ev D G c ρ1).test else .ok false ρ1 := by
    rw [ev_and, ha]
    cases t with
    | false => rfl
    | true =>
      show (Res.bind (ev D G c ρ1).test fun d ρ2 => .ok (.bl d, .tmp) ρ2).test = (ev D G c ρ1).test
      cases (ev D G c ρ1).test <;> rfl
  rw [e]
  cases t with
  | true => exact h1 rfl
  | false => exact TSim.nx.mpr ⟨ρ1, rfl, h2 rfl⟩
theorem tsim_or {a c : Ex} {t : Bool} {s : Src} {mt : O (Bool × τ) ρ φ} {s1 : τ} (ha : ev D G a ρ0 = .ok (.bl t, s) ρ1) (h1 : t = false → TSim k E1 mt (ev D G c ρ1).test) (h2 : t = true → E1 s1 ρ1) : TSim k E1 (if t = true then .nx (true, s1) else mt) (ev D G (.or a c) ρ0).test := by
  have e : (ev D G (.or a c) ρ0).test = if t = true then .ok true ρ1 else (ev D G c ρ1).test := by
    rw [ev_or, ha]
    cases t with
    | true => rfl
    | false =>
      show (Res.bind (ev D G c ρ1).test fun d ρ2 => .ok (.bl d, .tmp) ρ2).test = (ev D G c ρ1).test
      cases (ev D G c ρ1).test <;> rfl
  rw [e]
  cases t with
  | true => exact TSim.nx.mpr ⟨ρ1, rfl, h2 rfl⟩
  | false => exact h1 rfl
end
end VS

/-! typed values as trees -/
namespace VS
open PySem L2
section
variable {α β γ δ : Type}
abbrev nE : Unit → Val := fun _ => .non
def oE (e : α → Val) : Option α → Val
  | none => .non
  | some x => e x
abbrev lE (z : Bool) (e : α → Val) : List α → Val := fun xs => .node (.lst z) (xs.map e)
abbrev rE (e : α → Val) : List α → Val := fun xs => .node .rol (xs.map e)
abbrev tE (e : α → Val) : List α → Val := fun xs => .node .tup (xs.map e)
abbrev pE (e : α → Val) : List α → Val := fun xs => .node .ptup (xs.map e)
abbrev t1 (e : α → Val) : α → Val := fun p => .node .tup [e p]
abbrev t2 (e : α → Val) (f : β → Val) : α × β → Val := fun p => .node .tup [e p.1, f p.2]
abbrev t3 (e : α → Val) (f : β → Val) (g : γ → Val) : α × β × γ → Val := fun p => .node .tup [e p.1, f p.2.1, g p.2.2]
abbrev t4 (e : α → Val) (f : β → Val) (g : γ → Val) (h : δ → Val) : α × β × γ × δ → Val := fun p => .node .tup [e p.1, f p.2.1, g p.2.2.1, h p.2.2.2]
@[simp] theorem oE_none (e : α → Val) : oE e none = .non := rfl
@[simp] theorem oE_some (e : α → Val) (x : α) : oE e (some x) = e x := rfl
/-- nothing of one's own in it -/
class Pu (e : α → Val) : Prop where
  p : ∀ x, (e x).pure = true
/-- frozen it is .. -/
class Fz (e : α → Val) (e' : outParam (α → Val)) : Prop where
  f : ∀ x, (e x).freeze = e' x
class Nf (e : α → Val) : Prop where
  n : ∀ x, (e x).nofz = true
/-- never None -/
class Nn (e : α → Val) : Prop where
  n : ∀ x, isNon (e x) = false
class Fl (e : α → Val) : Prop where
  n : ∀ x, flatVal (e x) = true
class Dt (e : α → Val) (d : outParam (α → PyData)) : Prop where
  d : ∀ x, toD (e x) = some (d x)
class Dq [DecidableEq α] (d : α → PyData) (n : outParam Nat) : Prop where
  lay : ∀ x, (d x).canLay0 = true
  dep : ∀ x, (d x).depth ≤ n
  eq : ∀ x y, PyData.eqv (d x) (d y) = decide (x = y)
class Dn (d : α → PyData) : Prop where
  l : ∀ x, PyData.eqv .none (d x) = false
  r : ∀ x, PyData.eqv (d x) .none = false
theorem pures_map {e : α → Val} (h : ∀ x, (e x).pure = true) : ∀ xs : List α, pures (xs.map e) = true
  | [] => rfl
  | x :: xs => by simp only [List.map_cons, pures, h x, pures_map h xs, Bool.and_self]
theorem nofzs_map {e : α → Val} (h : ∀ x, (e x).nofz = true) : ∀ xs : List α, nofzs (xs.map e) = true
  | [] => rfl
  | x :: xs => by simp only [List.map_cons, nofzs, h x, nofzs_map h xs, Bool.and_self]
theorem freezes_map {e e' : α → Val} (h : ∀ x, (e x).freeze = e' x) : ∀ xs : List α, freezes (xs.map e) = xs.map e'
  | [] => rfl
  | x :: xs => by simp only [List.map_cons, freezes, h x, freezes_map h xs]
theorem toDs_map {e : α → Val} {d : α → PyData} (h : ∀ x, toD (e x) = some (d x)) : ∀ xs : List α, toDs (xs.map e) = some (xs.map d)
  | [] => rfl
  | x :: xs => by simp only [List.map_cons, toDs, h x, toDs_map h xs, Option.bind_some, Option.map_some]
instance : Pu Val.int := ⟨fun _ => rfl⟩
instance : Pu Val.bl := ⟨fun _ => rfl⟩
instance : Pu Val.str := ⟨fun _ => rfl⟩
instance : Pu nE := ⟨fun _ => rfl⟩
instance {e : α → Val} [Pu e] : Pu (oE e) := ⟨fun x => by cases x; rfl; exact Pu.p (e := e) _⟩
instance {e : α → Val} [Pu e] : Pu (lE true e) := ⟨fun x => by simp only [Val.pure, Tag.own, pures_map (Pu.p (e := e))]; rfl⟩
instance {e : α → Val} [Pu e] : Pu (rE e) := ⟨fun x => by simp only [Val.pure, Tag.own, pures_map (Pu.p (e := e))]; rfl⟩
instance {e : α → Val} [Pu e] : Pu (tE e) := ⟨fun x => by simp only [Val.pure, Tag.own, pures_map (Pu.p (e := e))]; rfl⟩
instance {e : α → Val} [Pu e] : Pu (pE e) := ⟨fun x => by simp only [Val.pure, Tag.own, pures_map (Pu.p (e := e))]; rfl⟩
instance {e : α → Val} [Pu e] : Pu (t1 e) := ⟨fun x => by simp only [Val.pure, Tag.own, pures, Pu.p (e := e)]; rfl⟩
instance {e : α → Val} {f : β → Val} [Pu e] [Pu f] : Pu (t2 e f) := ⟨fun x => by simp only [Val.pure, Tag.own, pures, Pu.p (e := e), Pu.p (e := f)]; rfl⟩
instance {e : α → Val} {f : β → Val} {g : γ → Val} [Pu e] [Pu f] [Pu g] : Pu (t3 e f g) := ⟨fun x => by simp only [Val.pure, Tag.own, pures, Pu.p (e := e), Pu.p (e := f), Pu.p (e := g)]; rfl⟩
instance {e : α → Val} {f : β → Val} {g : γ → Val} {h : δ → Val} [Pu e] [Pu f] [Pu g] [Pu h] : Pu (t4 e f g h) := ⟨fun x => by simp only [Val.pure, Tag.own, pures, Pu.p (e := e), Pu.p (e := f), Pu.p (e := g), Pu.p (e := h)]; rfl⟩
instance : Fz Val.int Val.int := ⟨fun _ => rfl⟩
instance : Fz Val.bl Val.bl := ⟨fun _ => rfl⟩
instance : Fz Val.str Val.str := ⟨fun _ => rfl⟩
instance : Fz nE nE := ⟨fun _ => rfl⟩
instance {e e' : α → Val} [Fz e e'] : Fz (oE e) (oE e') := ⟨fun x => by cases x; rfl; exact Fz.f (e := e) (e' := e') _⟩
instance {z : Bool} {e e' : α → Val} [Fz e e'] : Fz (lE z e) (lE true e') := ⟨fun x => by simp only [Val.freeze, Tag.fz, freezes_map (Fz.f (e := e) (e' := e'))]⟩
instance {e e' : α → Val} [Fz e e'] : Fz (rE e) (rE e') := ⟨fun x => by simp only [Val.freeze, Tag.fz, freezes_map (Fz.f (e := e) (e' := e'))]⟩
instance {e e' : α → Val} [Fz e e'] : Fz (tE e) (tE e') := ⟨fun x => by simp only [Val.freeze, Tag.fz, freezes_map (Fz.f (e := e) (e' := e'))]⟩
instance {e e' : α → Val} [Fz e e'] : Fz (pE e) (pE e') := ⟨fun x => by simp only [Val.freeze, Tag.fz, freezes_map (Fz.f (e := e) (e' := e'))]⟩
instance {e e' : α → Val} [Fz e e'] : Fz (t1 e) (t1 e') := ⟨fun x => by simp only [Val.freeze, Tag.fz, freezes, Fz.f (e := e) (e' := e')]⟩
instance {e e' : α → Val} {f f' : β → Val} [Fz e e'] [Fz f f'] : Fz (t2 e f) (t2 e' f') := ⟨fun x => by simp only [Val.freeze, Tag.fz, freezes, Fz.f (e := e) (e' := e'), Fz.f (e := f) (e' := f')]⟩
instance {e e' : α → Val} {f f' : β → Val} {g g' : γ → Val} [Fz e e'] [Fz f f'] [Fz g g'] : Fz (t3 e f g) (t3 e' f' g') := ⟨fun x => by simp only [Val.freeze, Tag.fz, freezes, Fz.f (e := e) (e' := e'), Fz.f (e := f) (e' := f'), Fz.f (e := g) (e' := g')]⟩
instance {e e' : α → Val} {f f' : β → Val} {g g' : γ → Val} {h h' : δ → Val} [Fz e e'] [Fz f f'] [Fz g g'] [Fz h h'] : Fz (t4 e f g h) (t4 e' f' g' h') := ⟨fun x => by simp only [Val.freeze, Tag.fz, freezes, Fz.f (e := e) (e' := e'), Fz.f (e := f) (e' := f'), Fz.f (e := g) (e' := g'), Fz.f (e := h) (e' := h')]⟩
instance : Nf Val.int := ⟨fun _ => rfl⟩
instance : Nf Val.bl := ⟨fun _ => rfl⟩
instance : Nf Val.str := ⟨fun _ => rfl⟩
instance : Nf nE := ⟨fun _ => rfl⟩
instance {e : α → Val} [Nf e] : Nf (oE e) := ⟨fun x => by cases x; rfl; exact Nf.n (e := e) _⟩
instance {e : α → Val} [Nf e] : Nf (lE false e) := ⟨fun x => by simp only [Val.nofz, Tag.nofz, Tag.own, nofzs_map (Nf.n (e := e))]; rfl⟩
instance {e : α → Val} [Nf e] : Nf (tE e) := ⟨fun x => by simp only [Val.nofz, Tag.nofz, Tag.own, nofzs_map (Nf.n (e := e))]; rfl⟩
instance {e : α → Val} [Nf e] : Nf (t1 e) := ⟨fun x => by simp only [Val.nofz, Tag.nofz, nofzs, Nf.n (e := e)]; rfl⟩
instance {e : α → Val} {f : β → Val} [Nf e] [Nf f] : Nf (t2 e f) := ⟨fun x => by simp only [Val.nofz, Tag.nofz, nofzs, Nf.n (e := e), Nf.n (e := f)]; rfl⟩
instance {e : α → Val} {f : β → Val} {g : γ → Val} [Nf e] [Nf f] [Nf g] : Nf (t3 e f g) := ⟨fun x => by simp only [Val.nofz, Tag.nofz, nofzs, Nf.n (e := e), Nf.n (e := f), Nf.n (e := g)]; rfl⟩
instance {e : α → Val} {f : β → Val} {g : γ → Val} {h : δ → Val} [Nf e] [Nf f] [Nf g] [Nf h] : Nf (t4 e f g h) := ⟨fun x => by simp only [Val.nofz, Tag.nofz, nofzs, Nf.n (e := e), Nf.n (e := f), Nf.n (e := g), Nf.n (e := h)]; rfl⟩
instance : Nn Val.int := ⟨fun _ => rfl⟩
instance : Nn Val.bl := ⟨fun _ => rfl⟩
instance : Nn Val.str := ⟨fun _ => rfl⟩
instance {z : Bool} {e : α → Val} : Nn (lE z e) := ⟨fun _ => rfl⟩
instance {e : α → Val} : Nn (rE e) := ⟨fun _ => rfl⟩
instance {e : α → Val} : Nn (tE e) := ⟨fun _ => rfl⟩
instance {e : α → Val} : Nn (pE e) := ⟨fun _ => rfl⟩
instance {e : α → Val} : Nn (t1 e) := ⟨fun _ => rfl⟩
instance {e : α → Val} {f : β → Val} : Nn (t2 e f) := ⟨fun _ => rfl⟩
instance {e : α → Val} {f : β → Val} {g : γ → Val} : Nn (t3 e f g) := ⟨fun _ => rfl⟩
instance {e : α → Val} {f : β → Val} {g : γ → Val} {h : δ → Val} : Nn (t4 e f g h) := ⟨fun _ => rfl⟩
instance : Fl Val.int := ⟨fun _ => rfl⟩
instance : Fl Val.bl := ⟨fun _ => rfl⟩
instance : Fl Val.str := ⟨fun _ => rfl⟩
instance : Fl nE := ⟨fun _ => rfl⟩
instance {e : α → Val} [Fl e] : Fl (oE e) := ⟨fun x => by cases x; rfl; exact Fl.n (e := e) _⟩
def dO (d : α → PyData) : Option α → PyData
  | none => .none
  | some x => d x
abbrev dL (d : α → PyData) : List α → PyData := fun xs => .list (xs.map d)
abbrev dT (d : α → PyData) : List α → PyData := fun xs => .tuple (xs.map d)
abbrev d1 (d : α → PyData) : α → PyData := fun p => .tuple [d p]
abbrev d2 (d : α → PyData) (d' : β → PyData) : α × β → PyData := fun p => .tuple [d p.1, d' p.2]
abbrev d3 (d : α → PyData) (d' : β → PyData) (d'' : γ → PyData) : α × β × γ → PyData := fun p => .tuple [d p.1, d' p.2.1, d'' p.2.2]
abbrev d4 (d : α → PyData) (d' : β → PyData) (d'' : γ → PyData) (d3 : δ → PyData) : α × β × γ × δ → PyData := fun p => .tuple [d p.1, d' p.2.1, d'' p.2.2.1, d3 p.2.2.2]
instance : Dt Val.int PyData.int := ⟨fun _ => rfl⟩
instance : Dt Val.bl PyData.bool := ⟨fun _ => rfl⟩
instance : Dt Val.str PyData.str := ⟨fun _ => rfl⟩
instance : Dt nE (fun _ => PyData.none) := ⟨fun _ => rfl⟩
instance {e : α → Val} {d : α → PyData} [Dt e d] : Dt (oE e) (dO d) := ⟨fun x => by cases x; rfl; exact Dt.d (e := e) _⟩
instance {z : Bool} {e : α → Val} {d : α → PyData} [Dt e d] : Dt (lE z e) (dL d) := ⟨fun x => by simp only [toD, toDs_map (Dt.d (e := e) (d := d)), Option.map_some]⟩
instance {e : α → Val} {d : α → PyData} [Dt e d] : Dt (rE e) (dL d) := ⟨fun x => by simp only [toD, toDs_map (Dt.d (e := e) (d := d)), Option.map_some]⟩
instance {e : α → Val} {d : α → PyData} [Dt e d] : Dt (tE e) (dT d) := ⟨fun x => by simp only [toD, toDs_map (Dt.d (e := e) (d := d)), Option.map_some]⟩
instance {e : α → Val} {d : α → PyData} [Dt e d] : Dt (pE e) (dT d) := ⟨fun x => by simp only [toD, toDs_map (Dt.d (e := e) (d := d)), Option.map_some]⟩
instance {e : α → Val} {d : α → PyData} [Dt e d] : Dt (t1 e) (d1 d) := ⟨fun x => by simp only [toD, toDs, Dt.d (e := e) (d := d), Option.map_some, Option.bind_some]⟩
instance {e : α → Val} {d : α → PyData} {f : β → Val} {d' : β → PyData} [Dt e d] [Dt f d'] : Dt (t2 e f) (d2 d d') := ⟨fun x => by simp only [toD, toDs, Dt.d (e := e) (d := d), Dt.d (e := f) (d := d'), Option.map_some, Option.bind_some]⟩
instance {e : α → Val} {d : α → PyData} {f : β → Val} {d' : β → PyData} {g : γ → Val} {d'' : γ → PyData} [Dt e d] [Dt f d'] [Dt g d''] : Dt (t3 e f g) (d3 d d' d'') := ⟨fun x => by simp only [toD, toDs, Dt.d (e := e) (d := d), Dt.d (e := f) (d := d'), Dt.d (e := g) (d := d''), Option.map_some, Option.bind_some]⟩
instance {e : α → Val} {d : α → PyData} {f : β → Val} {d' : β → PyData} {g : γ → Val} {d'' : γ → PyData} {h : δ → Val} {q : δ → PyData} [Dt e d] [Dt f d'] [Dt g d''] [Dt h q] : Dt (t4 e f g h) (d4 d d' d'' q) := ⟨fun x => by simp only [toD, toDs, Dt.d (e := e) (d := d), Dt.d (e := f) (d := d'), Dt.d (e := g) (d := d''), Dt.d (e := h) (d := q), Option.map_some, Option.bind_some]⟩
instance : Dq PyData.int 0 := ⟨fun _ => rfl, fun _ => by simp [PyData.depth], fun x y => by simp only [PyData.eqv]; rfl⟩
instance : Dq PyData.bool 0 := ⟨fun _ => rfl, fun _ => by simp [PyData.depth], fun x y => by simp only [PyData.eqv]; cases x <;> cases y <;> rfl⟩
instance : Dn PyData.int := ⟨fun _ => by simp only [PyData.eqv], fun _ => by simp only [PyData.eqv]⟩
instance : Dn PyData.bool := ⟨fun _ => by simp only [PyData.eqv], fun _ => by simp only [PyData.eqv]⟩
instance : Dn PyData.str := ⟨fun _ => by simp only [PyData.eqv], fun _ => by simp only [PyData.eqv]⟩
instance {d : α → PyData} : Dn (dL d) := ⟨fun _ => by simp only [PyData.eqv], fun _ => by simp only [PyData.eqv]⟩
instance {d : α → PyData} : Dn (dT d) := ⟨fun _ => by simp only [PyData.eqv], fun _ => by simp only [PyData.eqv]⟩
instance {d : α → PyData} {d' : β → PyData} : Dn (d2 d d') := ⟨fun _ => by simp only [PyData.eqv], fun _ => by simp only [PyData.eqv]⟩
instance {d : α → PyData} {d' : β → PyData} {d'' : γ → PyData} : Dn (d3 d d' d'') := ⟨fun _ => by simp only [PyData.eqv], fun _ => by simp only [PyData.eqv]⟩
instance [DecidableEq α] {d : α → PyData} {n : Nat} [Dq d n] [Dn d] : Dq (dO d) n := ⟨fun x => by cases x; rfl; exact Dq.lay (d := d) _, fun x => by cases x; simp [dO, PyData.depth]; exact Dq.dep (d := d) _, fun x y => by
  cases x with
  | none => cases y with
    | none => simp [dO, PyData.eqv]
    | some y => simp only [dO, Dn.l (d := d)]; simp
  | some x => cases y with
    | none => simp only [dO, Dn.r (d := d)]; simp
    | some y => simp only [dO, Dq.eq (d := d)]; simp⟩
theorem can_map {d : α → PyData} (h : ∀ x, (d x).canLay0 = true) : ∀ xs : List α, PyData.canLayAll0 (xs.map d) = true
  | [] => rfl
  | x :: xs => by simp only [List.map_cons, PyData.canLayAll0, h x, can_map h xs, Bool.and_self]
theorem dep_map {d : α → PyData} {n : Nat} (h : ∀ x, (d x).depth ≤ n) : ∀ xs : List α, PyData.depthAll (xs.map d) ≤ n
  | [] => by simp [PyData.depthAll]
  | x :: xs => by
    have := h x
    have := dep_map h xs
    simp only [List.map_cons, PyData.depthAll]
    omega
theorem eqvAll_map [DecidableEq α] {d : α → PyData} (h : ∀ x y, PyData.eqv (d x) (d y) = decide (x = y)) : ∀ xs ys : List α, PyData.eqvAll (xs.map d) (ys.map d) = decide (xs = ys)
  | [], [] => rfl
  | [], y :: ys => by simp only [List.map_nil, List.map_cons, PyData.eqvAll]; simp
  | x :: xs, [] => by simp only [List.map_nil, List.map_cons, PyData.eqvAll]; simp
  | x :: xs, y :: ys => by
    simp only [List.map_cons, PyData.eqvAll, h, eqvAll_map h xs ys]
    by_cases a : x = y <;> by_cases b : xs = ys <;> simp [a, b]
instance [DecidableEq α] {d : α → PyData} {n : Nat} [Dq d n] : Dq (dL d) (n + 1) := ⟨fun x => by simp only [PyData.canLay0, can_map (Dq.lay (d := d))], fun x => by have := dep_map (Dq.dep (d := d)) x; simp only [PyData.depth]; omega, fun x y => by simp only [PyData.eqv, eqvAll_map (Dq.eq (d := d))]⟩
instance [DecidableEq α] {d : α → PyData} {n : Nat} [Dq d n] : Dq (dT d) (n + 1) := ⟨fun x => by simp only [PyData.canLay0, can_map (Dq.lay (d := d))], fun x => by have := dep_map (Dq.dep (d := d)) x; simp only [PyData.depth]; omega, fun x y => by simp only [PyData.eqv, eqvAll_map (Dq.eq (d := d))]⟩
instance [DecidableEq α] {d : α → PyData} {n : Nat} [Dq d n] : Dq (d1 d) (n + 1) := ⟨fun x => by simp only [PyData.canLay0, PyData.canLayAll0, Dq.lay (d := d), Bool.and_self], fun x => by have := Dq.dep (d := d) x; simp only [PyData.depth, PyData.depthAll]; omega, fun x y => by
  simp only [PyData.eqv, PyData.eqvAll, Dq.eq (d := d), Bool.and_true]⟩
instance [DecidableEq α] [DecidableEq β] {d : α → PyData} {d' : β → PyData} {n n' : Nat} [Dq d n] [Dq d' n'] : Dq (d2 d d') (n + n' + 1) := ⟨fun x => by simp only [PyData.canLay0, PyData.canLayAll0, Dq.lay (d := d), Dq.lay (d := d'), Bool.and_self], fun x => by have := Dq.dep (d := d) x.1; have := Dq.dep (d := d') x.2; simp only [PyData.depth, PyData.depthAll]; omega, fun x y => by
  obtain ⟨x1, x2⟩ := x
  obtain ⟨y1, y2⟩ := y
  simp only [PyData.eqv, PyData.eqvAll, Dq.eq (d := d), Dq.eq (d := d'), Bool.and_true, Prod.mk.injEq]
  by_cases a : x1 = y1 <;> by_cases b : x2 = y2 <;> simp [a, b]⟩
instance [DecidableEq α] [DecidableEq β] [DecidableEq γ] {d : α → PyData} {d' : β → PyData} {d'' : γ → PyData} {n n' n'' : Nat} [Dq d n] [Dq d' n'] [Dq d'' n''] : Dq (d3 d d' d'') (n + n' + n'' + 1) := ⟨fun x => by simp only [PyData.canLay0, PyData.canLayAll0, Dq.lay (d := d), Dq.lay (d := d'), Dq.lay (d := d''), Bool.and_self], fun x => by have := Dq.dep (d := d) x.1; have := Dq.dep (d := d') x.2.1; have := Dq.dep (d := d'') x.2.2; simp only [PyData.depth, PyData.depthAll]; omega, fun x y => by
  obtain ⟨x1, x2, x3⟩ := x
  obtain ⟨y1, y2, y3⟩ := y
  simp only [PyData.eqv, PyData.eqvAll, Dq.eq (d := d), Dq.eq (d := d'), Dq.eq (d := d''), Bool.and_true, Prod.mk.injEq]
  by_cases a : x1 = y1 <;> by_cases b : x2 = y2 <;> by_cases c : x3 = y3 <;> simp [a, b, c]⟩
theorem shaped_of [DecidableEq α] {d : α → PyData} {n : Nat} [Dq d n] (h : n ≤ 60) (x : α) : SeqAt.shaped (d x) = true := by
  unfold SeqAt.shaped
  have := Dq.dep (d := d) x
  simp only [Dq.lay (d := d), Bool.true_and, decide_eq_true_eq]
  omega
/-! a list or a tuple -/
abbrev qE (z : Bool) (e : α → Val) : Bool × List α → Val := fun p => .node (cond p.1 .tup (.lst z)) (p.2.map e)
abbrev dQ (d : α → PyData) : Bool × List α → PyData := fun p => cond p.1 (.tuple (p.2.map d)) (.list (p.2.map d))
instance {e : α → Val} [Pu e] : Pu (qE true e) := ⟨fun x => by obtain ⟨b, xs⟩ := x; cases b; exact Pu.p (e := lE true e) xs; exact Pu.p (e := tE e) xs⟩
instance {z : Bool} {e e' : α → Val} [Fz e e'] : Fz (qE z e) (qE true e') := ⟨fun x => by obtain ⟨b, xs⟩ := x; cases b; exact Fz.f (e := lE z e) (e' := lE true e') xs; exact Fz.f (e := tE e) (e' := tE e') xs⟩
instance {e : α → Val} [Nf e] : Nf (qE false e) := ⟨fun x => by obtain ⟨b, xs⟩ := x; cases b; exact Nf.n (e := lE false e) xs; exact Nf.n (e := tE e) xs⟩
instance {z : Bool} {e : α → Val} : Nn (qE z e) := ⟨fun x => by obtain ⟨b, xs⟩ := x; cases b <;> rfl⟩
instance {z : Bool} {e : α → Val} {d : α → PyData} [Dt e d] : Dt (qE z e) (dQ d) := ⟨fun x => by obtain ⟨b, xs⟩ := x; cases b; exact Dt.d (e := lE z e) (d := dL d) xs; exact Dt.d (e := tE e) (d := dT d) xs⟩
instance {d : α → PyData} : Dn (dQ d) := ⟨fun x => by obtain ⟨b, xs⟩ := x; cases b; exact Dn.l (d := dL d) xs; exact Dn.l (d := dT d) xs, fun x => by obtain ⟨b, xs⟩ := x; cases b; exact Dn.r (d := dL d) xs; exact Dn.r (d := dT d) xs⟩
instance [DecidableEq α] {d : α → PyData} {n : Nat} [Dq d n] : Dq (dQ d) (n + 1) := ⟨fun x => by obtain ⟨b, xs⟩ := x; cases b; exact Dq.lay (d := dL d) xs; exact Dq.lay (d := dT d) xs,
  fun x => by obtain ⟨b, xs⟩ := x; cases b; exact Dq.dep (d := dL d) xs; exact Dq.dep (d := dT d) xs, fun x y => by
  obtain ⟨b, xs⟩ := x
  obtain ⟨b', ys⟩ := y
  cases b <;> cases b'
  · exact (Dq.eq (d := dL d) xs ys).trans (by simp)
  · show PyData.eqv (.list _) (.tuple _) = _
    simp [PyData.eqv]
  · show PyData.eqv (.tuple _) (.list _) = _
    simp [PyData.eqv]
  · exact (Dq.eq (d := dT d) xs ys).trans (by simp)⟩
/-! ### operations on typed values -/
def ltB (n : Nat) : Bool := decide (n < 16777216)
def rgB (j : Int) : Bool := decide (j < 4611686018427387904 ∧ -4611686018427387904 ≤ j)
def posB (j : Int) : Bool := decide (0 < j)
def dvB (j : Int) : Bool := decide (0 < j ∧ j < 1073741824)
theorem g_eq [DecidableEq α] {e e' : α → Val} {d : α → PyData} {n : Nat} [Dt e d] [Dt e' d] [Dq d n] (h : n ≤ 60) (x y : α) : gEq [e x, e' y] = some (.bl (decide (x = y))) := by
  simp only [gEq, Dt.d (e := e) (d := d), Dt.d (e := e') (d := d), shaped_of h, Bool.and_self, if_true, Dq.eq (d := d)]
theorem g_ne [DecidableEq α] {e e' : α → Val} {d : α → PyData} {n : Nat} [Dt e d] [Dt e' d] [Dq d n] (h : n ≤ 60) (x y : α) : gNe [e x, e' y] = some (.bl (!decide (x = y))) := by
  simp only [gNe, Dt.d (e := e) (d := d), Dt.d (e := e') (d := d), shaped_of h, Bool.and_self, if_true, Dq.eq (d := d)]
/-- texts that may be compared -/
def shS (xs : List PySem.Str) : Bool := SeqAt.shaped (dL PyData.str xs)
theorem eqv_str (x y : PySem.Str) : PyData.eqv (.str x) (.str y) = decide (x = y) := by simp only [PyData.eqv]; rfl
theorem g_eqSs {z z' : Bool} (xs ys : List PySem.Str) (h : (shS xs && shS ys) = true) : gEq [lE z Val.str xs, lE z' Val.str ys] = some (.bl (decide (xs = ys))) := by
  simp only [gEq, Dt.d (e := lE z Val.str) (d := dL PyData.str), Dt.d (e := lE z' Val.str) (d := dL PyData.str)]
  unfold shS at h
  rw [if_pos h]
  simp only [PyData.eqv, eqvAll_map eqv_str]
theorem any_map [DecidableEq α] {d : α → PyData} (h : ∀ x y, PyData.eqv (d x) (d y) = decide (x = y)) (x : α) : ∀ ys : List α, ((ys.map d).any fun z => PyData.eqv z (d x)) = decide (x ∈ ys)
  | [] => rfl
  | y :: ys => by
    simp only [List.map_cons, List.any_cons, any_map h x ys, h, List.mem_cons]
    by_cases a : x = y
    · subst a; simp
    · have : ¬ y = x := fun z => a z.symm
      simp [a, this]
theorem g_in_l0 [DecidableEq α] {neg z : Bool} {e e' : α → Val} {d : α → PyData} {n : Nat} [Dt e d] [Dt e' d] [Dq d n] (h : n ≤ 59) (x : α) (ys : List α) : gIn neg [e x, lE z e' ys] = some (.bl (if neg = true then !decide (x ∈ ys) else decide (x ∈ ys))) := by
  have h2 : SeqAt.shaped (dL d ys) = true := shaped_of (d := dL d) (n := n + 1) (by omega) ys
  simp only [gIn, inData, Dt.d (e := e) (d := d), toDs_map (Dt.d (e := e') (d := d)), shaped_of (d := d) (n := n) (by omega) x, h2, Bool.and_self, if_true, any_map (Dq.eq (d := d)), Option.map_some]
theorem g_in_l [DecidableEq α] {z : Bool} {e e' : α → Val} {d : α → PyData} {n : Nat} [Dt e d] [Dt e' d] [Dq d n] (h : n ≤ 59) (x : α) (ys : List α) : gIn false [e x, lE z e' ys] = some (.bl (decide (x ∈ ys))) := g_in_l0 h x ys
theorem g_nin_l [DecidableEq α] {z : Bool} {e e' : α → Val} {d : α → PyData} {n : Nat} [Dt e d] [Dt e' d] [Dq d n] (h : n ≤ 59) (x : α) (ys : List α) : gIn true [e x, lE z e' ys] = some (.bl (!decide (x ∈ ys))) := g_in_l0 h x ys
theorem all_flat {e : α → Val} (h : ∀ x, flatVal (e x) = true) : ∀ xs : List α, (xs.map e).all flatVal = true
  | [] => rfl
  | x :: xs => by simp only [List.map_cons, List.all_cons, h x, all_flat h xs, Bool.and_self]
class De [DecidableEq α] (d : α → PyData) : Prop where
  eq : ∀ x y, PyData.eqv (d x) (d y) = decide (x = y)
instance : De PyData.int := ⟨Dq.eq (d := PyData.int)⟩
instance : De PyData.bool := ⟨Dq.eq (d := PyData.bool)⟩
instance : De PyData.str := ⟨eqv_str⟩
abbrev kE (e : α → Val) : List α → Val := fun xs => .node .ktup (xs.map e)
instance {e : α → Val} [Pu e] : Pu (kE e) := ⟨fun x => by simp only [Val.pure, Tag.own, pures_map (Pu.p (e := e))]; rfl⟩
theorem g_in_x0 [DecidableEq α] {neg : Bool} {e e' : α → Val} {d : α → PyData} [Dt e d] [Dt e' d] [De d] [Fl e] [Fl e'] (x : α) (ys : List α) : gIn neg [e x, tE e' ys] = some (.bl (if neg = true then !decide (x ∈ ys) else decide (x ∈ ys))) := by
  simp only [gIn, Fl.n (e := e), all_flat (Fl.n (e := e')), Dt.d (e := e) (d := d), toDs_map (Dt.d (e := e') (d := d)), Bool.and_self, if_true, any_map (De.eq (d := d))]
  first | done | (cases neg <;> rfl)
theorem g_in_k0 [DecidableEq α] {neg : Bool} {e e' : α → Val} {d : α → PyData} [Dt e d] [Dt e' d] [De d] [Fl e] [Fl e'] (x : α) (ys : List α) : gIn neg [e x, kE e' ys] = some (.bl (if neg = true then !decide (x ∈ ys) else decide (x ∈ ys))) := by
  simp only [gIn, Fl.n (e := e), all_flat (Fl.n (e := e')), Dt.d (e := e) (d := d), toDs_map (Dt.d (e := e') (d := d)), Bool.and_self, if_true, any_map (De.eq (d := d))]
  first | done | (cases neg <;> rfl)
/-- texts that may be compared, in a list -/
def shI (x : PySem.Str) (xs : List PySem.Str) : Bool := SeqAt.shaped (.str x) && SeqAt.shaped (dL PyData.str xs)
theorem g_in_s0 {neg z : Bool} (x : PySem.Str) (ys : List PySem.Str) (h : shI x ys = true) : gIn neg [Val.str x, lE z Val.str ys] = some (.bl (if neg = true then !decide (x ∈ ys) else decide (x ∈ ys))) := by
  unfold shI at h
  have h2 : (SeqAt.shaped (PyData.str x) && SeqAt.shaped (PyData.list (ys.map PyData.str))) = true := h
  simp only [gIn, inData, Dt.d (e := Val.str) (d := PyData.str), toDs_map (Dt.d (e := Val.str) (d := PyData.str)), h2, if_true, any_map eqv_str, Option.map_some]
theorem g_in_xt [DecidableEq α] {e e' : α → Val} {d : α → PyData} [Dt e d] [Dt e' d] [De d] [Fl e] [Fl e'] (x : α) (ys : List α) : gIn false [e x, tE e' ys] = some (.bl (decide (x ∈ ys))) := g_in_x0 x ys
theorem g_nin_xt [DecidableEq α] {e e' : α → Val} {d : α → PyData} [Dt e d] [Dt e' d] [De d] [Fl e] [Fl e'] (x : α) (ys : List α) : gIn true [e x, tE e' ys] = some (.bl (!decide (x ∈ ys))) := g_in_x0 x ys
theorem g_in_kt [DecidableEq α] {e e' : α → Val} {d : α → PyData} [Dt e d] [Dt e' d] [De d] [Fl e] [Fl e'] (x : α) (ys : List α) : gIn false [e x, kE e' ys] = some (.bl (decide (x ∈ ys))) := g_in_k0 x ys
theorem g_nin_kt [DecidableEq α] {e e' : α → Val} {d : α → PyData} [Dt e d] [Dt e' d] [De d] [Fl e] [Fl e'] (x : α) (ys : List α) : gIn true [e x, kE e' ys] = some (.bl (!decide (x ∈ ys))) := g_in_k0 x ys
theorem g_in_st {z : Bool} (x : PySem.Str) (ys : List PySem.Str) (h : shI x ys = true) : gIn false [Val.str x, lE z Val.str ys] = some (.bl (decide (x ∈ ys))) := g_in_s0 x ys h
theorem g_nin_st {z : Bool} (x : PySem.Str) (ys : List PySem.Str) (h : shI x ys = true) : gIn true [Val.str x, lE z Val.str ys] = some (.bl (!decide (x ∈ ys))) := g_in_s0 x ys h
theorem g_in_t0 [DecidableEq α] {neg : Bool} {e e' : α → Val} {d : α → PyData} {n : Nat} [Dt e d] [Dt e' d] [Dq d n] [Fl e] [Fl e'] (x : α) (ys : List α) : gIn neg [e x, tE e' ys] = some (.bl (if neg = true then !decide (x ∈ ys) else decide (x ∈ ys))) := by
  simp only [gIn, Fl.n (e := e), all_flat (Fl.n (e := e')), Dt.d (e := e) (d := d), toDs_map (Dt.d (e := e') (d := d)), Bool.and_self, if_true, any_map (Dq.eq (d := d))]
  first | done | (cases neg <;> rfl)
theorem g_in_t [DecidableEq α] {e e' : α → Val} {d : α → PyData} {n : Nat} [Dt e d] [Dt e' d] [Dq d n] [Fl e] [Fl e'] (x : α) (ys : List α) : gIn false [e x, tE e' ys] = some (.bl (decide (x ∈ ys))) := g_in_t0 x ys
theorem g_nin_t [DecidableEq α] {e e' : α → Val} {d : α → PyData} {n : Nat} [Dt e d] [Dt e' d] [Dq d n] [Fl e] [Fl e'] (x : α) (ys : List α) : gIn true [e x, tE e' ys] = some (.bl (!decide (x ∈ ys))) := g_in_t0 x ys
theorem g_is_o {e : α → Val} [Nn e] (o : Option α) : gIs false [oE e o, .non] = some (.bl o.isNone) := by
  cases o with
  | none => rfl
  | some x => simp only [oE, gIs, Nn.n (e := e)]; rfl
theorem g_nis_o {e : α → Val} [Nn e] (o : Option α) : gIs true [oE e o, .non] = some (.bl o.isSome) := by
  cases o with
  | none => rfl
  | some x => simp only [oE, gIs, Nn.n (e := e)]; rfl
theorem g_is_n {e : α → Val} [Nn e] (x : α) : gIs false [e x, .non] = some (.bl false) := by
  simp only [gIs, Nn.n (e := e)]; rfl
theorem g_nis_n {e : α → Val} [Nn e] (x : α) : gIs true [e x, .non] = some (.bl true) := by
  simp only [gIs, Nn.n (e := e)]; rfl
theorem g_len_l {z : Bool} {e : α → Val} (xs : List α) : gLen [lE z e xs] = some (.int xs.length) := by simp only [gLen, List.length_map]
theorem g_len_r {e : α → Val} (xs : List α) : gLen [rE e xs] = some (.int xs.length) := by simp only [gLen, List.length_map]
theorem g_len_t {e : α → Val} (xs : List α) : gLen [tE e xs] = some (.int xs.length) := by simp only [gLen, List.length_map]
theorem g_list_l {z : Bool} {e : α → Val} [Pu e] (xs : List α) : gList [lE z e xs] = some (lE false e xs) := by simp only [gList, pures_map (Pu.p (e := e)), if_true]
theorem g_list_r {e : α → Val} [Pu e] (xs : List α) : gList [rE e xs] = some (lE false e xs) := by simp only [gList, pures_map (Pu.p (e := e)), if_true]
theorem g_list_t {e : α → Val} [Pu e] (xs : List α) : gList [tE e xs] = some (lE false e xs) := by simp only [gList, pures_map (Pu.p (e := e)), if_true]
theorem g_tuple_l {z : Bool} {e : α → Val} [Pu e] (xs : List α) : gTuple [lE z e xs] = some (tE e xs) := by simp only [gTuple, pures_map (Pu.p (e := e)), if_true]
theorem g_tupleP_l {z : Bool} {e : α → Val} [Pu e] (xs : List α) : gTupleP [lE z e xs] = some (pE e xs) := by simp only [gTupleP, pures_map (Pu.p (e := e)), if_true]
theorem g_tuple_r {e : α → Val} [Pu e] (xs : List α) : gTuple [rE e xs] = some (tE e xs) := by simp only [gTuple, pures_map (Pu.p (e := e)), if_true]
theorem g_tuple_t {e : α → Val} [Pu e] (xs : List α) : gTuple [tE e xs] = some (tE e xs) := by simp only [gTuple, pures_map (Pu.p (e := e)), if_true]
theorem g_len_q {z : Bool} {e : α → Val} (p : Bool × List α) : gLen [qE z e p] = some (.int p.2.length) := by obtain ⟨b, xs⟩ := p; cases b; exact g_len_l xs; exact g_len_t xs
theorem g_list_q {z : Bool} {e : α → Val} [Pu e] (p : Bool × List α) : gList [qE z e p] = some (lE false e p.2) := by obtain ⟨b, xs⟩ := p; cases b; exact g_list_l xs; exact g_list_t xs
theorem g_tuple_q {z : Bool} {e : α → Val} [Pu e] (p : Bool × List α) : gTuple [qE z e p] = some (tE e p.2) := by obtain ⟨b, xs⟩ := p; cases b; exact g_tuple_l xs; exact g_tuple_t xs
theorem g_in_q [DecidableEq α] {z : Bool} {e e' : α → Val} {d : α → PyData} {n : Nat} [Dt e d] [Dt e' d] [Dq d n] [Fl e] [Fl e'] (h : n ≤ 59) (x : α) (p : Bool × List α) : gIn false [e x, qE z e' p] = some (.bl (decide (x ∈ p.2))) := by obtain ⟨b, xs⟩ := p; cases b; exact g_in_l h x xs; exact g_in_t x xs
theorem g_nin_q [DecidableEq α] {z : Bool} {e e' : α → Val} {d : α → PyData} {n : Nat} [Dt e d] [Dt e' d] [Dq d n] [Fl e] [Fl e'] (h : n ≤ 59) (x : α) (p : Bool × List α) : gIn true [e x, qE z e' p] = some (.bl (!decide (x ∈ p.2))) := by obtain ⟨b, xs⟩ := p; cases b; exact g_nin_l h x xs; exact g_nin_t x xs
theorem g_sorted_l {z : Bool} (xs : List Int) : gSorted [lE z Val.int xs] = some (lE false Val.int (srt xs)) := gSorted_l z xs
theorem g_sorted_r (xs : List Int) : gSorted [rE Val.int xs] = some (lE false Val.int (srt xs)) := by simp only [gSorted, intsOf_int, Option.map_some]
theorem g_sum_t (xs : List Int) : gSum [tE Val.int xs] = some (.int xs.sum) := by
  simp only [gSum, intsOf_int, Option.map_some]
theorem g_sum_l {z : Bool} (xs : List Int) : gSum [lE z Val.int xs] = some (.int xs.sum) := gSum_l z xs
theorem g_all_l {z : Bool} (xs : List Bool) : gAll [lE z Val.bl xs] = some (.bl (xs.all id)) := gAll_l z xs
theorem g_any_l {z : Bool} (xs : List Bool) : gAny [lE z Val.bl xs] = some (.bl (xs.any id)) := gAny_l z xs
theorem g_max1 {z : Bool} {xs : List Int} {m : Int} (h : maxL xs = some m) : gMax1 [lE z Val.int xs] = some (.int m) := by simp only [gMax1, intsOf_int, Option.bind_some, h, Option.map_some]
theorem g_min1 {z : Bool} {xs : List Int} {m : Int} (h : minL xs = some m) : gMin1 [lE z Val.int xs] = some (.int m) := by simp only [gMin1, intsOf_int, Option.bind_some, h, Option.map_some]
theorem g_add_ll {y z : Bool} {e : α → Val} [Pu e] (xs ys : List α) (h : lineB (xs.length + ys.length) = true) : gAdd [lE y e xs, lE z e ys] = some (lE false e (xs ++ ys)) := by
  simp only [gAdd, pures_map (Pu.p (e := e)), List.length_map, h, Bool.and_self, if_true, ← List.map_append]
theorem g_add_tt {e : α → Val} [Pu e] (xs ys : List α) (h : lineB (xs.length + ys.length) = true) : gAdd [tE e xs, tE e ys] = some (tE e (xs ++ ys)) := by
  simp only [gAdd, pures_map (Pu.p (e := e)), List.length_map, h, Bool.and_self, if_true, ← List.map_append]
theorem g_mul (i j : Int) (h : mulOk i j = true) : gMul [.int i, .int j] = some (.int (i * j)) := by simp only [gMul, h, if_true]
theorem mulOk_l {i j : Int} (h : -18446744073709551616 < i ∧ i < 18446744073709551616) : mulOk i j = true := decide_eq_true (.inl h)
theorem mulOk_r {i j : Int} (h : -18446744073709551616 < j ∧ j < 18446744073709551616) : mulOk i j = true := decide_eq_true (.inr h)
theorem g_fdiv (i j : Int) (h : dvB j = true) : gFdiv [.int i, .int j] = some (.int (i / j)) := if_pos h
theorem g_mod (i j : Int) (h : posB j = true) : gMod [.int i, .int j] = some (.int (i % j)) := if_pos h
theorem g_pow (i j : Int) (h : 0 ≤ j ∧ j ≤ 1000000 ∧ i.natAbs < 18446744073709551616) : gPow [.int i, .int j] = some (.int (i ^ j.toNat)) := by
  have : decide (0 ≤ j ∧ j ≤ 1000000 ∧ i.natAbs < 2 ^ 64) = true := decide_eq_true h
  simp only [gPow, this, if_true]
theorem g_lrev_l {z : Bool} {e : α → Val} [Pu e] (xs : List α) : gListrev [lE z e xs] = some (lE false e xs.reverse) := by simp only [gListrev, pures_map (Pu.p (e := e)), if_true, ← List.map_reverse]
theorem g_lrev_r {e : α → Val} [Pu e] (xs : List α) : gListrev [rE e xs] = some (lE false e xs.reverse) := by simp only [gListrev, pures_map (Pu.p (e := e)), if_true, ← List.map_reverse]
def lt64 (n : Nat) : Bool := decide (n < 64)
theorem g_sset_l {z : Bool} (xs : List Int) (h : lt64 xs.length = true) : gSset [lE z Val.int xs] = some (lE false Val.int (sset xs)) := by
  simp only [gSset, lseqOf, Option.bind_some, intsOf_int]
  exact if_pos h
theorem g_rep_l {z : Bool} {e : α → Val} [Pu e] (xs : List α) (k : Int) (h : (decide (0 ≤ k ∧ k ≤ 1000) && lineB (xs.length * k.toNat)) = true) : gRep [lE z e xs, .int k] = some (lE false e (List.replicate k.toNat xs).flatten) := by
  unfold gRep
  dsimp only
  rw [if_pos (by rw [pures_map (Pu.p (e := e)) xs, List.length_map, Bool.true_and]; exact h)]
  show _ = some (Val.node (.lst false) ((List.replicate k.toNat xs).flatten.map e))
  rw [List.map_flatten, List.map_replicate]
theorem g_shr (i j : Int) (h : 0 ≤ j) : gShr [.int i, .int j] = some (.int (i / 2 ^ j.toNat)) := if_pos (decide_eq_true h)
theorem g_slc_l {z : Bool} {e : α → Val} [Pu e] (xs : List α) {l u : Val} {lo hi : Option Int} (h1 : partOf l = some lo) (h2 : partOf u = some hi) : gSlice [lE z e xs, l, u] = some (lE false e (cutL xs lo hi)) := by
  simp only [gSlice, h1, h2, cutL_map, pures_map (Pu.p (e := e)), if_true]
theorem g_slc_r {e : α → Val} [Pu e] (xs : List α) {l u : Val} {lo hi : Option Int} (h1 : partOf l = some lo) (h2 : partOf u = some hi) : gSlice [rE e xs, l, u] = some (lE false e (cutL xs lo hi)) := by
  simp only [gSlice, h1, h2, cutL_map, pures_map (Pu.p (e := e)), if_true]
theorem g_slc_t {e : α → Val} [Pu e] (xs : List α) {l u : Val} {lo hi : Option Int} (h1 : partOf l = some lo) (h2 : partOf u = some hi) : gSlice [tE e xs, l, u] = some (tE e (cutL xs lo hi)) := by
  simp only [gSlice, h1, h2, cutL_map, pures_map (Pu.p (e := e)), if_true]
theorem part_o (o : Option Int) : partOf (oE Val.int o) = some o := by cases o <;> rfl
/-- an item by its number, from behind where it is below 0 -/
def atZ (xs : List α) (i : Int) : Option α := match L2.ixN xs.length i with
  | some k => xs[k]?
  | none => none
theorem ixZ {t : Tag} {e : α → Val} {xs : List α} {i : Int} {x : α} {s s' : Src} {ρ : Env} [Pu e] (ht : seqIx (.node t (xs.map e)) = some (t, xs.map e)) (h : atZ xs i = some x) : sIx [(.node t (xs.map e), s), (.int i, s')] ρ = .ok (e x, .tmp) ρ := by
  unfold atZ at h
  simp only [sIx, ht, List.length_map]
  cases hk : L2.ixN xs.length i with
  | none => rw [hk] at h; cases h
  | some k =>
    rw [hk] at h
    dsimp only at h
    simp only [List.getElem?_map, h, Option.map_some, childSrc, Pu.p (e := e), if_true]
theorem ixP {t : Tag} {e : α → Val} {xs : List α} {i : Int} {x : α} {q : Nat} {p : List Nat} {s' : Src} {ρ : Env} (ho : t.own = true) (hp : (e x).pure = false) (ht : seqIx (.node t (xs.map e)) = some (t, xs.map e)) (k : Nat) (hk : L2.ixN xs.length i = some k) (h : xs[k]? = some x) : sIx [(.node t (xs.map e), .plc q p), (.int i, s')] ρ = .ok (e x, .plc q (p ++ [k])) ρ := by
  simp only [sIx, ht, List.length_map, hk, List.getElem?_map, h, Option.map_some, childSrc, hp, ho, Bool.false_eq_true, if_false, if_true]
theorem ixT {vs : List Val} {i : Int} {k : Nat} {v : Val} {s s' : Src} {ρ : Env} (hk : L2.ixN vs.length i = some k) (hv : vs[k]? = some v) (hp : v.pure = true) : sIx [(.node .tup vs, s), (.int i, s')] ρ = .ok (v, .tmp) ρ := by
  simp only [sIx, seqIx, hk, hv, childSrc, hp, if_true]
end
end VS

/-! expressions, one rule a construct -/
namespace VS
open PySem L2
section
variable {D : Defs} {G : Str → Option Val} {ρ ρ1 ρ2 ρ3 : Env} {e a b c : Ex} {es : Exs} {as : List (Val × Src)} {v w : Val} {s s' : Src} {i : Nat} {p : List Nat}
theorem e_non : ev D G .non ρ = .ok (.non, .tmp) ρ := rfl
theorem e_bl {b : Bool} : ev D G (.bl b) ρ = .ok (.bl b, .tmp) ρ := rfl
theorem e_int {n : Int} : ev D G (.int n) ρ = .ok (.int n, .tmp) ρ := rfl
theorem e_str {x : Str} : ev D G (.str x) ρ = .ok (.str x, .tmp) ρ := rfl
theorem e_glo {x : Str} (h : G x = some v) : ev D G (.glo x) ρ = .ok (v, .tmp) ρ := by rw [ev_glo, h]; rfl
theorem e_var (h : ρ[i]? = some (some v)) (hp : v.pure = true) : ev D G (.var i) ρ = .ok (v, .tmp) ρ := by rw [ev_var, sVar_some h, if_pos hp]
theorem e_varP (h : ρ[i]? = some (some v)) (hp : v.pure = false) : ev D G (.var i) ρ = .ok (v, .plc i []) ρ := by rw [ev_var, sVar_some h, if_neg (by rw [hp]; decide)]
theorem e_mv (h : ρ[i]? = some (some v)) (e2 : ρ.set i none = ρ1) : ev D G (.mv i) ρ = .ok (v, .tmp) ρ1 := by
  rw [ev_mv, ← e2]
  unfold sMv
  rw [h]
theorem e_ownT (h : ev D G e ρ = .ok (v, .tmp) ρ1) : ev D G (.own e) ρ = .ok (v, .tmp) ρ1 := by rw [ev_own, h]; rfl
theorem e_ownP (h : ev D G e ρ = .ok (v, .plc i p) ρ1) (hf : v.freeze = w) (e2 : putAt ρ1 i p w = ρ2) : ev D G (.own e) ρ = .ok (w, .tmp) ρ2 := by
  rw [ev_own, h, ← e2, ← hf]; rfl
theorem e_frzT (h : ev D G e ρ = .ok (v, .tmp) ρ1) (hf : v.freeze = w) : ev D G (.frz e) ρ = .ok (w, .tmp) ρ1 := by rw [ev_frz, h, ← hf]; rfl
theorem e_frzP (h : ev D G e ρ = .ok (v, .plc i p) ρ1) (hf : v.freeze = w) (e2 : putAt ρ1 i p w = ρ2) : ev D G (.frz e) ρ = .ok (w, .tmp) ρ2 := by
  rw [ev_frz, h, ← e2, ← hf]; rfl
/-! arguments -/
theorem a_nil : evs D G .nil ρ = .ok [] ρ := rfl
theorem a_tmp (h : ev D G e ρ = .ok (v, .tmp) ρ1) (hs : evs D G es ρ1 = .ok as ρ2) : evs D G (.cons e es) ρ = .ok ((v, .tmp) :: as) ρ2 := by
  rw [evs_cons, argsCons_ap, h, Res.bind_ok]
  unfold acK
  have : okSrc Src.tmp (!effs es) = true := rfl
  rw [if_pos this, hs, Res.bind_ok]
  rfl
theorem a_plc (h : ev D G e ρ = .ok (v, .plc i []) ρ1) (hs : evs D G es ρ1 = .ok as ρ2) (hw : ρ2[i]? = some (some w)) : evs D G (.cons e es) ρ = .ok ((w, .plc i []) :: as) ρ2 := by
  rw [evs_cons, argsCons_ap, h, Res.bind_ok]
  unfold acK
  have : okSrc (Src.plc i []) (!effs es) = true := rfl
  rw [if_pos this, hs, Res.bind_ok]
  unfold acA
  simp only [cur, hw]
theorem a_path {j : Nat} (h : ev D G e ρ = .ok (v, .plc i (j :: p)) ρ1) (q : effs es = false) (hs : evs D G es ρ1 = .ok as ρ1) : evs D G (.cons e es) ρ = .ok ((v, .plc i (j :: p)) :: as) ρ1 := by
  rw [evs_cons, argsCons_ap, h, Res.bind_ok]
  unfold acK
  have : okSrc (Src.plc i (j :: p)) (!effs es) = true := by rw [q]; rfl
  rw [if_pos this, hs, Res.bind_ok]
  rfl
theorem a_brw (h : ev D G e ρ = .ok (v, .brw) ρ1) (q : effs es = false) (hs : evs D G es ρ1 = .ok as ρ1) : evs D G (.cons e es) ρ = .ok ((v, .brw) :: as) ρ1 := by
  rw [evs_cons, argsCons_ap, h, Res.bind_ok]
  unfold acK
  have : okSrc Src.brw (!effs es) = true := by rw [q]; rfl
  rw [if_pos this, hs, Res.bind_ok]
  rfl
theorem prim_at {g : List Val → Option Val} (h : evs D G es ρ = .ok as ρ1) (hg : g (as.map (·.1)) = some v) : (evs D G es ρ).bind (primK g) = .ok (v, .tmp) ρ1 := by
  rw [h, Res.bind_ok]
  unfold primK
  rw [hg]
theorem e_bin {op : Bin} (h : evs D G (.cons a (.cons b .nil)) ρ = .ok as ρ1) (hg : gBin op (as.map (·.1)) = some v) : ev D G (.bin op a b) ρ = .ok (v, .tmp) ρ1 := prim_at h hg
theorem e_cmp {op : Cmp} (h : evs D G (.cons a (.cons b .nil)) ρ = .ok as ρ1) (hg : gCmpo op (as.map (·.1)) = some v) : ev D G (.cmp op a b) ρ = .ok (v, .tmp) ρ1 := prim_at h hg
theorem e_neg (h : evs D G (.cons a .nil) ρ = .ok as ρ1) (hg : gNeg (as.map (·.1)) = some v) : ev D G (.neg a) ρ = .ok (v, .tmp) ρ1 := prim_at h hg
theorem e_bi {f : Bi} (h : evs D G es ρ = .ok as ρ1) (hg : gBi f (as.map (·.1)) = some v) : ev D G (.bi f es) ρ = .ok (v, .tmp) ρ1 := prim_at h hg
theorem e_isi {T : String} (h : evs D G (.cons a .nil) ρ = .ok as ρ1) (hg : gIsi T (as.map (·.1)) = some v) : ev D G (.isi T a) ρ = .ok (v, .tmp) ρ1 := prim_at h hg
theorem e_slc (h : evs D G (.cons a (.cons b (.cons c .nil))) ρ = .ok as ρ1) (hg : gSlice (as.map (·.1)) = some v) : ev D G (.slc a b c) ρ = .ok (v, .tmp) ρ1 := prim_at h hg
theorem e_lrev (h : evs D G (.cons a .nil) ρ = .ok as ρ1) (hg : gListrev (as.map (·.1)) = some v) : ev D G (.listrev a) ρ = .ok (v, .tmp) ρ1 := prim_at h hg
theorem e_ddis (h : evs D G es ρ = .ok as ρ1) (hg : gDis (as.map (·.1)) = some v) : ev D G (.ddis es) ρ = .ok (v, .tmp) ρ1 := prim_at h hg
theorem e_sset (h : evs D G (.cons a .nil) ρ = .ok as ρ1) (hg : gSset (as.map (·.1)) = some v) : ev D G (.sset a) ρ = .ok (v, .tmp) ρ1 := prim_at h hg
theorem e_lrng (h : evs D G (.cons a (.cons b .nil)) ρ = .ok as ρ1) (hg : gLrng (as.map (·.1)) = some v) : ev D G (.lrng a b) ρ = .ok (v, .tmp) ρ1 := prim_at h hg
theorem e_chain3 {d : Ex} {op op' op'' : Cmp} {i j k l : Int} {s1 s2 : Src} (ha : ev D G a ρ = .ok (.int i, s) ρ1) (hb : ev D G b ρ1 = .ok (.int j, s') ρ1) (hc : ev D G c ρ1 = .ok (.int k, s1) ρ1) (hd : ev D G d ρ1 = .ok (.int l, s2) ρ1) : ev D G (.chain3 op op' op'' a b c d) ρ = .ok (.bl (cmpI op i j && (cmpI op' j k && cmpI op'' k l)), .tmp) ρ1 := by
  show (((ev D G a ρ).bind sInt1).bind _) = _
  rw [ha]
  show (((ev D G b ρ1).bind sInt1).bind _) = _
  rw [hb]
  show (if cmpI op i j = true then _ else _) = _
  cases cmpI op i j with
  | false => rfl
  | true =>
    rw [if_pos rfl, hc]
    show (if cmpI op' j k = true then _ else _) = _
    cases cmpI op' j k with
    | false => rfl
    | true => rw [if_pos rfl, hd]; rfl
theorem e_chain {op op' : Cmp} {i j k : Int} {s'' : Src} (ha : ev D G a ρ = .ok (.int i, s) ρ1) (hb : ev D G b ρ1 = .ok (.int j, s') ρ1) (hc : cmpI op i j = true → ev D G c ρ1 = .ok (.int k, s'') ρ1) : ev D G (.chain op op' a b c) ρ = .ok (.bl (cmpI op i j && cmpI op' j k), .tmp) ρ1 := by
  show (((ev D G a ρ).bind sInt1).bind _) = _
  rw [ha]
  show (((ev D G b ρ1).bind sInt1).bind _) = _
  rw [hb]
  show (if cmpI op i j = true then _ else _) = _
  cases hcmp : cmpI op i j with
  | false => rfl
  | true =>
    show (((ev D G c ρ1).bind sInt1).bind _) = _
    rw [hc hcmp]
    rfl
theorem e_bitlen (h : evs D G (.cons a .nil) ρ = .ok as ρ1) (hg : gBitlen (as.map (·.1)) = some v) : ev D G (.bitlen a) ρ = .ok (v, .tmp) ρ1 := prim_at h hg
theorem e_asInt {n : Int} (h : ev D G e ρ = .ok (.int n, s) ρ1) : ev D G (.asInt e) ρ = .ok (.int n, .tmp) ρ1 := by rw [ev_asInt, h]; rfl
theorem e_ix (h : evs D G (.cons a (.cons b .nil)) ρ = .ok as ρ1) (hg : sIx as ρ1 = .ok (v, s) ρ1) : ev D G (.ix a b) ρ = .ok (v, s) ρ1 := by
  have : ev D G (.ix a b) ρ = (evs D G (.cons a (.cons b .nil)) ρ).bind sIx := rfl
  rw [this, h, Res.bind_ok, hg]
theorem e_tup (h : evs D G es ρ = .ok as ρ1) (hg : (allTmp as && lineB as.length) = true) (hv : Val.node .tup (as.map (·.1)) = v) : ev D G (.tup es) ρ = .ok (v, .tmp) ρ1 := by
  rw [ev_tup, h, Res.bind_ok, ← hv]
  unfold sNode
  rw [if_pos hg]
theorem e_lst (h : evs D G es ρ = .ok as ρ1) (hg : (allTmp as && lineB as.length) = true) (hv : Val.node (.lst false) (as.map (·.1)) = v) : ev D G (.lst es) ρ = .ok (v, .tmp) ρ1 := by
  rw [ev_lst, h, Res.bind_ok, ← hv]
  unfold sNode
  rw [if_pos hg]
theorem e_not {x : Bool} (h : ev D G a ρ = .ok (.bl x, s) ρ1) : ev D G (.not a) ρ = .ok (.bl (!x), .tmp) ρ1 := by rw [ev_not, h]; rfl
theorem e_and {x y : Bool} (h : ev D G a ρ = .ok (.bl x, s) ρ1) (h2 : x = true → ev D G b ρ1 = .ok (.bl y, s') ρ1) : ev D G (.and a b) ρ = .ok (.bl (x && y), .tmp) ρ1 := by
  rw [ev_and, h]
  cases x with
  | false => rfl
  | true =>
    show (Res.bind (ev D G b ρ1).test fun d ρ2 => (Res.ok (Val.bl d, Src.tmp) ρ2 : Res (Val × Src))) = _
    rw [h2 rfl]
    rfl
theorem e_or {x y : Bool} (h : ev D G a ρ = .ok (.bl x, s) ρ1) (h2 : x = false → ev D G b ρ1 = .ok (.bl y, s') ρ1) : ev D G (.or a b) ρ = .ok (.bl (x || y), .tmp) ρ1 := by
  rw [ev_or, h]
  cases x with
  | true => rfl
  | false =>
    show (Res.bind (ev D G b ρ1).test fun d ρ2 => (Res.ok (Val.bl d, Src.tmp) ρ2 : Res (Val × Src))) = _
    rw [h2 rfl]
    rfl
/-- the second one asked only where the first one is so -/
theorem e_orC {a b : Ex} {y : Bool} {s s' : Src} (ha : ev D G a ρ = .ok (.bl false, s) ρ1) (hb : ev D G b ρ1 = .ok (.bl y, s') ρ1) : ev D G (.or a b) ρ = .ok (.bl y, .tmp) ρ1 := e_or (x := false) ha fun _ => hb
theorem e_andC {a b : Ex} {y : Bool} {s s' : Src} (ha : ev D G a ρ = .ok (.bl true, s) ρ1) (hb : ev D G b ρ1 = .ok (.bl y, s') ρ1) : ev D G (.and a b) ρ = .ok (.bl y, .tmp) ρ1 := e_and (x := true) ha fun _ => hb
theorem e_andO {x y : Bool} {m : Option Bool} (h : ev D G a ρ = .ok (.bl x, s) ρ1) (hm : (if x = true then m else some false) = some y) (h2 : x = true → m = some y → ∃ s', ev D G b ρ1 = .ok (.bl y, s') ρ1) : ev D G (.and a b) ρ = .ok (.bl y, .tmp) ρ1 := by
  rw [ev_and, h]
  cases x with
  | false => cases hm; rfl
  | true =>
    show (Res.bind (ev D G b ρ1).test fun d ρ2 => (Res.ok (Val.bl d, Src.tmp) ρ2 : Res (Val × Src))) = _
    obtain ⟨s', e2⟩ := h2 rfl hm
    rw [e2]
    rfl
theorem e_orO {x y : Bool} {m : Option Bool} (h : ev D G a ρ = .ok (.bl x, s) ρ1) (hm : (if x = true then some true else m) = some y) (h2 : x = false → m = some y → ∃ s', ev D G b ρ1 = .ok (.bl y, s') ρ1) : ev D G (.or a b) ρ = .ok (.bl y, .tmp) ρ1 := by
  rw [ev_or, h]
  cases x with
  | true => cases hm; rfl
  | false =>
    show (Res.bind (ev D G b ρ1).test fun d ρ2 => (Res.ok (Val.bl d, Src.tmp) ρ2 : Res (Val × Src))) = _
    obtain ⟨s', e2⟩ := h2 rfl hm
    rw [e2]
    rfl
theorem e_ifxP {α : Type} {en : α → Val} {x : Bool} {v1 v2 : α} (h : ev D G c ρ = .ok (.bl x, s) ρ1) (h1 : x = true → ev D G a ρ1 = .ok (en v1, .tmp) ρ1) (h2 : x = false → ev D G b ρ1 = .ok (en v2, .tmp) ρ1) : ev D G (.ifx c a b) ρ = .ok (en (if x = true then v1 else v2), .tmp) ρ1 := by
  rw [ev_ifx, h]
  cases x with
  | true => exact h1 rfl
  | false => exact h2 rfl
theorem e_ifxT {r : Val × Src} (h : ev D G c ρ = .ok (.bl true, s) ρ1) (h1 : ev D G a ρ1 = .ok r ρ2) : ev D G (.ifx c a b) ρ = .ok r ρ2 := by
  rw [ev_ifx, h]
  exact h1
theorem e_ifxF {r : Val × Src} (h : ev D G c ρ = .ok (.bl false, s) ρ1) (h1 : ev D G b ρ1 = .ok r ρ2) : ev D G (.ifx c a b) ρ = .ok r ρ2 := by
  rw [ev_ifx, h]
  exact h1
theorem e_ifxO {α : Type} {en : α → Val} {x : Bool} {m1 m2 : Option α} {y : α} (h : ev D G c ρ = .ok (.bl x, s) ρ1) (hm : (if x = true then m1 else m2) = some y) (h1 : x = true → m1 = some y → ev D G a ρ1 = .ok (en y, .tmp) ρ1) (h2 : x = false → m2 = some y → ev D G b ρ1 = .ok (en y, .tmp) ρ1) : ev D G (.ifx c a b) ρ = .ok (en y, .tmp) ρ1 := by
  rw [ev_ifx, h]
  cases x with
  | true => exact h1 rfl hm
  | false => exact h2 rfl hm
theorem ev_some {α : Type} {en : α → Val} {o : Option α} {x : α} (h : ev D G e ρ = .ok (oE en o, s) ρ1) (hx : o = some x) : ev D G e ρ = .ok (en x, s) ρ1 := by subst hx; exact h
theorem fz_nil : freezes [] = [] := rfl
theorem fz_cons {v w : Val} {vs ws : List Val} (h : v.freeze = w) (hs : freezes vs = ws) : freezes (v :: vs) = w :: ws := by simp only [freezes, h, hs]
theorem pu_nil : pures [] = true := rfl
theorem pu_cons {v : Val} {vs : List Val} (h : v.pure = true) (hs : pures vs = true) : pures (v :: vs) = true := by simp only [pures, h, hs, Bool.and_self]
theorem or_l {a b : Bool} (h : a = true) : (a || b) = true := by rw [h]; rfl
theorem or_r {a b : Bool} (h : b = true) : (a || b) = true := by rw [h]; cases a <;> rfl
theorem mv_nil : mVals [] [] = [] := rfl
theorem mv_t {ms : List Bool} {vs : List Val} (hs : mVals ms as = vs) : mVals (true :: ms) ((v, s) :: as) = v :: vs := by rw [← hs]; rfl
theorem mv_f {ms : List Bool} {vs : List Val} (h : v.freeze = w) (hs : mVals ms as = vs) : mVals (false :: ms) ((v, s) :: as) = w :: vs := by rw [← hs, ← h]; rfl
theorem mp_nil : mPure [] [] = true := rfl
theorem mp_t {ms : List Bool} (hs : mPure ms as = true) : mPure (true :: ms) ((v, s) :: as) = true := hs
theorem mp_f {ms : List Bool} (h : v.pure = true) (hs : mPure ms as = true) : mPure (false :: ms) ((v, s) :: as) = true := by simp only [mPure, h, hs, Bool.and_self]
theorem ma_nil {sl : List Nat} : mArgs sl [] [] = true := rfl
theorem ma_tt {sl : List Nat} {ms : List Bool} (hs : mArgs sl ms as = true) : mArgs sl (true :: ms) ((v, .tmp) :: as) = true := by simp only [mArgs, hs]; rfl
theorem ma_tp {sl : List Nat} {ms : List Bool} (hs : mArgs sl ms as = true) : mArgs sl (true :: ms) ((v, .plc i p) :: as) = true := by simp only [mArgs, hs]; rfl
theorem ma_fp {sl : List Nat} {ms : List Bool} (h : v.pure = true) (hs : mArgs sl ms as = true) : mArgs sl (false :: ms) ((v, s) :: as) = true := by simp only [mArgs, h, hs]; rfl
theorem ma_ft {sl : List Nat} {ms : List Bool} (hs : mArgs sl ms as = true) : mArgs sl (false :: ms) ((v, .tmp) :: as) = true := by simp only [mArgs, hs]; cases v.pure <;> rfl
theorem ma_fq {sl : List Nat} {ms : List Bool} (h : sl.contains i = false) (hs : mArgs sl ms as = true) : mArgs sl (false :: ms) ((v, .plc i p) :: as) = true := by simp only [mArgs, hs, h]; cases v.pure <;> rfl
theorem and2 {a b : Bool} (h : a = true) (h2 : b = true) : (a && b) = true := by rw [h, h2]; rfl
theorem e_ifx {x : Bool} {v1 v2 : Val} (h : ev D G c ρ = .ok (.bl x, s) ρ1) (h1 : x = true → ev D G a ρ1 = .ok (v, .tmp) ρ1) (h2 : x = false → ev D G b ρ1 = .ok (v, .tmp) ρ1) : ev D G (.ifx c a b) ρ = .ok (v, .tmp) ρ1 := by
  rw [ev_ifx, h]
  cases x with
  | true => exact h1 rfl
  | false => exact h2 rfl
/-! calls -/
theorem e_call {f : Nat} {vs fin : List Val} (h : evs D G es ρ = .ok as ρ1) (hm : (D.modes f).any id = false) (hz : freezes (as.map (·.1)) = vs) (hr : D.run f vs = .ok v fin) (hp : (pures (as.map (·.1)) || v.nofz) = true) : ev D G (.call f es) ρ = .ok (v, .tmp) ρ1 := by
  rw [ev_call, h, Res.bind_ok, sCall_ap D f as ρ1 hm, hz, hr]
  unfold callK
  dsimp only
  rw [if_pos hp]
theorem x_call {f : Nat} {vs fin : List Val} {x : Xc} (h : evs D G es ρ = .ok as ρ1) (hm : (D.modes f).any id = false) (hz : freezes (as.map (·.1)) = vs) (hr : D.run f vs = .exc x fin) : ev D G (.call f es) ρ = .exc x ρ1 := by
  rw [ev_call, h, Res.bind_ok, sCall_ap D f as ρ1 hm, hz, hr]
  rfl
theorem e_callM {f : Nat} {ms : List Bool} {vs fin : List Val} (h : evs D G es ρ = .ok as ρ1) (hm : D.modes f = ms) (h1 : (nodupB (mSlots ms as) && mArgs (mSlots ms as) ms as) = true) (h2 : mVals ms as = vs) (hr : D.run f vs = .ok v fin) (h3 : (mPure ms as || (v.nofz && mKeep ms as fin)) = true) (h4 : mPut ms as fin ρ1 = ρ2) :
    ev D G (.callM f es) ρ = .ok (v, .tmp) ρ2 := by
  rw [ev_callM, h, Res.bind_ok, sCallM_ap, hm, if_pos h1, h2, hr]
  unfold callMK
  dsimp only
  rw [if_pos h3, h4]
theorem x_callM {f : Nat} {ms : List Bool} {vs fin : List Val} {x : Xc} (h : evs D G es ρ = .ok as ρ1) (hm : D.modes f = ms) (h1 : (nodupB (mSlots ms as) && mArgs (mSlots ms as) ms as) = true) (h2 : mVals ms as = vs) (hr : D.run f vs = .exc x fin) (h3 : (mPure ms as || mKeep ms as fin) = true) (h4 : mPut ms as fin ρ1 = ρ2) :
    ev D G (.callM f es) ρ = .exc x ρ2 := by
  rw [ev_callM, h, Res.bind_ok, sCallM_ap, hm, if_pos h1, h2, hr]
  unfold callMK
  dsimp only
  rw [if_pos h3, h4]
/-! lists changed -/
theorem e_mu {m : Mu} {o : Ex} {x x0 x' : Val} {s0 : Src} {ρ0 : Env} (h : ev D G o ρ = .ok (x0, s0) ρ0) (hl : isLst x0 = true) (ha : evs D G (.cons o es) ρ = .ok ((x, s) :: as) ρ1) (hs : sMu m ((x, s) :: as) ρ1 = .ok (v, .tmp) ρ2) : ev D G (.mu m o es) ρ = .ok (v, .tmp) ρ2 := by
  rw [ev_mu]
  rw [evs_cons, argsCons_ap, h, Res.bind_ok] at ha
  rw [argsCons_ap, sMid_ap, h, Res.bind_ok]
  have : midK isLst (x0, s0) ρ0 = .ok (x0, s0) ρ0 := by unfold midK; rw [if_pos hl]
  rw [this, Res.bind_ok, ha, Res.bind_ok, hs]
theorem mu_tmp {m : Mu} {x x' : Val} (ht : allTmp as = true) (hg : gMu m x (as.map (·.1)) = some (v, x')) : sMu m ((x, .tmp) :: as) ρ = .ok (v, .tmp) ρ := by
  simp only [sMu, ht, if_true, hg]
theorem mu_plc {m : Mu} {x x' : Val} (ht : allTmp as = true) (hg : gMu m x (as.map (·.1)) = some (v, x')) (e2 : putAt ρ i p x' = ρ1) : sMu m ((x, .plc i p) :: as) ρ = .ok (v, .tmp) ρ1 := by
  simp only [sMu, ht, if_true, hg, e2]
end
section
variable {α β : Type} {D : Defs} {G : Str → Option Val} {ρ ρ1 ρ2 ρw : Env} {its tests : Exs} {elt : Ex} {as : List (Val × Src)}
theorem g_append {e : α → Val} (xs : List α) (x : α) (h : ltB xs.length = true) : gMu .append (lE false e xs) [e x] = some (.non, lE false e (xs ++ [x])) := by
  have : decide ((xs.map e).length < 16777216) = true := by rw [List.length_map]; exact h
  simp only [gMu, this, if_true]
  rw [show xs.map e ++ [e x] = (xs ++ [x]).map e by simp]
def popZ (xs : List α) : Option (α × List α) := (xs[xs.length - 1]?).map fun x => (x, xs.dropLast)
theorem g_pop {e : α → Val} {xs : List α} {r : α × List α} (h : popZ xs = some r) : gMu .pop (lE false e xs) [] = some (e r.1, lE false e r.2) := by
  unfold popZ at h
  simp only [Option.map_eq_some_iff] at h
  obtain ⟨x, h1, rfl⟩ := h
  simp only [gMu, List.length_map, List.getElem?_map, h1, Option.map_some, ← List.map_dropLast]
theorem g_clear {e : α → Val} (xs : List α) : gMu .clear (lE false e xs) [] = some (.non, lE false e []) := rfl
theorem g_remove (xs : List Int) (i : Int) (h : decide (i ∈ xs) = true) : gMu .remove (lE false Val.int xs) [.int i] = some (.non, lE false Val.int (xs.erase i)) := by
  simp only [gMu, intsOf_int, of_decide_eq_true h, if_true]
def popI (xs : List α) (i : Int) : Option (α × List α) := if decide (-4611686018427387904 ≤ i ∧ i < 4611686018427387904) = true then (match L2.ixN xs.length i with
  | some k => (xs[k]?).map fun x => (x, xs.eraseIdx k)
  | none => none) else none
theorem map_eraseIdx {e : α → β} : ∀ (xs : List α) (k : Nat), (xs.map e).eraseIdx k = (xs.eraseIdx k).map e
  | [], _ => rfl
  | x :: xs, 0 => rfl
  | x :: xs, k + 1 => by simp only [List.map_cons, List.eraseIdx_cons_succ, map_eraseIdx xs k]
theorem g_popAt {e : α → Val} {xs : List α} {i : Int} {r : α × List α} (h : popI xs i = some r) : gMu .popAt (lE false e xs) [.int i] = some (e r.1, lE false e r.2) := by
  unfold popI at h
  by_cases hr : decide (-4611686018427387904 ≤ i ∧ i < 4611686018427387904) = true
  · rw [if_pos hr] at h
    simp only [gMu, List.length_map]
    rw [if_pos hr]
    cases hk : L2.ixN xs.length i with
    | none => rw [hk] at h; cases h
    | some k =>
      rw [hk] at h
      obtain ⟨x, hx, rfl⟩ := Option.map_eq_some_iff.mp h
      simp only [List.getElem?_map, hx, Option.map_some, map_eraseIdx]
  · rw [if_neg hr] at h; cases h
theorem g_extend {z : Bool} {e : α → Val} [Pu e] (xs ys : List α) (h : lineB (xs.length + ys.length) = true) : gMu .extend (lE false e xs) [lE z e ys] = some (.non, lE false e (xs ++ ys)) := by
  simp only [gMu, pures_map (Pu.p (e := e)), List.length_map, h, Bool.and_self, if_true, ← List.map_append]
theorem g_reverse {e : α → Val} (xs : List α) : gMu .reverse (lE false e xs) [] = some (.non, lE false e xs.reverse) := by
  simp only [gMu, ← List.map_reverse]
/-! walks -/
theorem i_l {z : Bool} {e e' : α → Val} [Fz e e'] (xs : List α) : itemsOf .seq [lE z e xs] = some (xs.map e') := by simp only [itemsOf, freezes_map (Fz.f (e := e) (e' := e'))]
theorem i_r {e e' : α → Val} [Fz e e'] (xs : List α) : itemsOf .seq [rE e xs] = some (xs.map e') := by simp only [itemsOf, freezes_map (Fz.f (e := e) (e' := e'))]
theorem i_p {e e' : α → Val} [Fz e e'] (xs : List α) : itemsOf .seq [pE e xs] = some (xs.map e') := by simp only [itemsOf, freezes_map (Fz.f (e := e) (e' := e'))]
theorem i_t {e e' : α → Val} [Fz e e'] (xs : List α) : itemsOf .seq [tE e xs] = some (xs.map e') := by simp only [itemsOf, freezes_map (Fz.f (e := e) (e' := e'))]
theorem i_q {z : Bool} {e e' : α → Val} [Fz e e'] (p : Bool × List α) : itemsOf .seq [qE z e p] = some (p.2.map e') := by obtain ⟨b, xs⟩ := p; cases b; exact i_l xs; exact i_t xs
theorem i_rg1 {j : Int} (h : rgB j = true) : itemsOf .range1 [.int j] = some ((ivals 0 j.toNat).map .int) := have h := of_decide_eq_true h; items_n1 j h.1 h.2
theorem i_rgL {j : Int} {xs : List Val} (h : rgB j = true) (e : (ivals 0 j.toNat).map Val.int = xs) : itemsOf .range1 [.int j] = some xs := e ▸ i_rg1 h
theorem i_rg2 {i j : Int} (h1 : rgB i = true) (h2 : rgB j = true) : itemsOf .range2 [.int i, .int j] = some ((ivals i (j - i).toNat).map .int) := have h1 := of_decide_eq_true h1; have h2 := of_decide_eq_true h2; items_n2 i j ⟨h1.2, h1.1⟩ ⟨h2.2, h2.1⟩
theorem i_rev_l {z : Bool} {e e' : α → Val} [Fz e e'] (xs : List α) : itemsOf .rev [lE z e xs] = some (xs.reverse.map e') := by simp only [itemsOf, ← List.map_reverse, freezes_map (Fz.f (e := e) (e' := e'))]
theorem i_rev_r {e e' : α → Val} [Fz e e'] (xs : List α) : itemsOf .rev [rE e xs] = some (xs.reverse.map e') := by simp only [itemsOf, ← List.map_reverse, freezes_map (Fz.f (e := e) (e' := e'))]
def enumI (k : Nat) : List α → List (Int × α)
  | [] => []
  | x :: xs => ((k : Int), x) :: enumI (k + 1) xs
theorem enumL_map {e : α → Val} : ∀ (xs : List α) (k : Nat), enumL k (xs.map e) = (enumI k xs).map (t2 Val.int e)
  | [], _ => rfl
  | x :: xs, k => by simp only [List.map_cons, enumL, enumI, enumL_map xs (k + 1)]
theorem i_enum_l {z : Bool} {e e' : α → Val} [Fz e e'] (xs : List α) : itemsOf .enum [lE z e xs] = some ((enumI 0 xs).map (t2 Val.int e')) := by simp only [itemsOf, freezes_map (Fz.f (e := e) (e' := e')), enumL_map]
theorem i_enum_r {e e' : α → Val} [Fz e e'] (xs : List α) : itemsOf .enum [rE e xs] = some ((enumI 0 xs).map (t2 Val.int e')) := by simp only [itemsOf, freezes_map (Fz.f (e := e) (e' := e')), enumL_map]
def ivalS (lo c : Int) : Nat → List Int
  | 0 => []
  | n + 1 => lo :: ivalS (lo + c) c n
def lrB (i j : Int) : Bool := decide (-(2 ^ 62) ≤ i ∧ i < 2 ^ 62 ∧ -(2 ^ 62) ≤ j ∧ j < 2 ^ 62 ∧ (j - i).toNat ≤ 16777216)
theorem rangeL_map : ∀ (n : Nat) (lo : Int), rangeL lo n = (ivals lo n).map .int
  | 0, _ => rfl
  | n + 1, lo => by simp only [rangeL, ivals, List.map_cons, rangeL_map n (lo + 1)]
theorem g_lrng {i j : Int} (h : lrB i j = true) : gLrng [.int i, .int j] = some (lE false Val.int (ivals i (j - i).toNat)) := by
  show (if lrB i j = true then _ else _) = _
  rw [if_pos h, rangeL_map]
theorem rangeS_map (c : Int) : ∀ (n : Nat) (lo : Int), rangeS lo c n = (ivalS lo c n).map .int
  | 0, _ => rfl
  | n + 1, lo => by simp only [rangeS, ivalS, List.map_cons, rangeS_map c n (lo + c)]
def rg3B (i j c : Int) : Bool := decide (0 < c ∧ c < 1073741824) && Builtin.Range.small i j c
theorem i_rg3 {i j c : Int} (h : rg3B i j c = true) : itemsOf .range3 [.int i, .int j, .int c] = some ((ivalS i c (Builtin.Range.rangeSize i j c).toNat).map .int) := by
  simp only [itemsOf]
  rw [show (decide (0 < c ∧ c < 1073741824) && Builtin.Range.small i j c) = true from h, if_pos rfl, rangeS_map]
/-! comprehensions -/
theorem compR_cmp {bd : Val → Env → Option Env} {vs : List Nat} {t : Env → Res Bool} {el : Env → Res (Val × Src)} {enc : α → Val} {enc2 : β → Val} {p : α → Option Bool} {f : α → Option β}
    (hb : ∀ x, ∃ ρ1, bd (enc x) ρw = some ρ1 ∧ wipeE ρ1 vs = ρw ∧ ∀ c, p x = some c → t ρ1 = .ok c ρ1 ∧ (c = true → ∀ y, f x = some y → el ρ1 = .ok (enc2 y, .tmp) ρ1)) : ∀ {xs : List α} {ys : List β} {acc : List Val}, cmpO p f xs = some ys → acc.length + xs.length ≤ 16777216 →
    compR bd vs t el (xs.map enc) ρw acc = .ok (acc ++ ys.map enc2) ρw
  | [], ys, acc, h, hl => by
    simp only [cmpO, Option.some.injEq] at h
    subst h
    simp only [List.map_nil, compR_nil, List.append_nil]
  | x :: xs, ys, acc, h, hl => by
    obtain ⟨ρ1, e1, e2, h3⟩ := hb x
    simp only [cmpO, Option.bind_eq_some_iff] at h
    obtain ⟨c, hc, h⟩ := h
    obtain ⟨h4, h5⟩ := h3 c hc
    simp only [List.length_cons] at hl
    rw [List.map_cons]
    cases c with
    | true =>
      simp only [if_true, Option.bind_eq_some_iff, Option.map_eq_some_iff] at h
      obtain ⟨y, hy, ys', hys, rfl⟩ := h
      rw [compR_yes e1 h4 (h5 rfl y hy) (by omega), e2, compR_cmp hb hys (by simp only [List.length_append, List.length_cons, List.length_nil]; omega), List.append_assoc]
      rfl
    | false =>
      simp only [Bool.false_eq_true, if_false] at h
      rw [compR_no e1 h4, e2, compR_cmp hb h (by omega)]
def bk : Option (Option Val) → Option Val
  | some (some x) => if x.pure = true then some x else none
  | _ => none
def backF (ρ0 ρ : Env) : List Nat → Env
  | [] => ρ
  | v :: vs => (backF ρ0 ρ vs).set v (bk ρ0[v]?)
def wiped (ρ : Env) : List Nat → Prop
  | [] => True
  | v :: vs => ρ[v]? = some none ∧ wiped ρ vs
theorem backF_at (ρ0 ρ : Env) (v : Nat) : ∀ vs : List Nat, ρ[v]? = some none → v ∉ vs → (backF ρ0 ρ vs)[v]? = some none
  | [], h, _ => h
  | w :: vs, h, hn => by
    have hne : w ≠ v := fun z => hn (z ▸ List.mem_cons_self)
    simp only [backF]
    rw [List.getElem?_set_ne hne]
    exact backF_at ρ0 ρ v vs h fun z => hn (List.mem_cons_of_mem _ z)
theorem back_eq (ρ0 ρ : Env) : ∀ vs : List Nat, vs.Nodup → wiped ρ vs → backE ρ0 ρ vs = backF ρ0 ρ vs
  | [], _, _ => rfl
  | v :: vs, hn, hw => by
    have hn2 := List.nodup_cons.mp hn
    have ih := back_eq ρ0 ρ vs hn2.2 hw.2
    have h0 := backF_at ρ0 ρ v vs hw.1 hn2.1
    simp only [backE, backF, ih]
    cases h : ρ0[v]? with
    | none => simp only [bk]; rw [set_self h0]
    | some o =>
      cases o with
      | none => simp only [bk]; rw [set_self h0]
      | some x =>
        simp only [bk]
        by_cases hp : x.pure = true
        · rw [if_pos hp, if_pos hp]
        · rw [if_neg hp, if_neg hp, set_self h0]
theorem e_comp {tg : Tg} {ik : ItK} {enc : α → Val} {enc2 : β → Val} {p : α → Option Bool} {f : α → Option β} {xs : List α} {ys : List β} (hits : evs D G its ρ = .ok as ρ1) (ha : allTmp as = true) (hi : itemsOf ik (as.map (·.1)) = some (xs.map enc)) (hw : wipeE ρ1 tg.slots = ρw)
    (hb : ∀ x, ∃ ρ1, bindTg tg (enc x) ρw = some ρ1 ∧ wipeE ρ1 tg.slots = ρw ∧ ∀ c, p x = some c → tst D G tests ρ1 = .ok c ρ1 ∧ (c = true → ∀ y, f x = some y → ev D G elt ρ1 = .ok (enc2 y, .tmp) ρ1)) (hl : lineB xs.length = true) (hc : cmpO p f xs = some ys) (hn : tg.slots.Nodup) (hwi : wiped ρw tg.slots) (e2 : backF ρ1 ρw tg.slots = ρ2) :
    ev D G (.comp tg ik its tests elt) ρ = .ok (lE false enc2 ys, .tmp) ρ2 := by
  have h4 := compR_cmp (acc := []) hb hc (by have := of_decide_eq_true hl; simpa using this)
  rw [ev_comp, hits, Res.bind_ok]
  unfold compK
  rw [if_pos ha, hi]
  simp only [compI, hw, h4, Res.bind_ok, compW, back_eq _ _ _ hn hwi, e2, List.nil_append]
/-- neither test nor item may fail -/
theorem e_compP {tg : Tg} {ik : ItK} {enc : α → Val} {enc2 : β → Val} {p : α → Bool} {f : α → β} {xs : List α} (hits : evs D G its ρ = .ok as ρ1) (ha : allTmp as = true) (hi : itemsOf ik (as.map (·.1)) = some (xs.map enc)) (hw : wipeE ρ1 tg.slots = ρw)
    (hb : ∀ x, ∃ ρ1, bindTg tg (enc x) ρw = some ρ1 ∧ wipeE ρ1 tg.slots = ρw ∧ tst D G tests ρ1 = .ok (p x) ρ1 ∧ (p x = true → ev D G elt ρ1 = .ok (enc2 (f x), .tmp) ρ1)) (hl : lineB xs.length = true) (hn : tg.slots.Nodup) (hwi : wiped ρw tg.slots) (e2 : backF ρ1 ρw tg.slots = ρ2) :
    ev D G (.comp tg ik its tests elt) ρ = .ok (lE false enc2 ((xs.filter p).map f), .tmp) ρ2 := by
  refine e_comp (p := fun x => some (p x)) (f := fun x => some (f x)) hits ha hi hw (fun x => ?_) hl (cmpO_pure p f xs) hn hwi e2
  obtain ⟨ρ1, h1, h2, h3, h4⟩ := hb x
  exact ⟨ρ1, h1, h2, fun c hc => by cases hc; exact ⟨h3, fun ht y hy => by cases hy; exact h4 ht⟩⟩
theorem e_compM {tg : Tg} {ik : ItK} {enc : α → Val} {enc2 : β → Val} {f : α → β} {xs : List α} (hits : evs D G its ρ = .ok as ρ1) (ha : allTmp as = true) (hi : itemsOf ik (as.map (·.1)) = some (xs.map enc)) (hw : wipeE ρ1 tg.slots = ρw)
    (hb : ∀ x, ∃ ρ1, bindTg tg (enc x) ρw = some ρ1 ∧ wipeE ρ1 tg.slots = ρw ∧ ev D G elt ρ1 = .ok (enc2 (f x), .tmp) ρ1) (hl : lineB xs.length = true) (hn : tg.slots.Nodup) (hwi : wiped ρw tg.slots) (e2 : backF ρ1 ρw tg.slots = ρ2) :
    ev D G (.comp tg ik its .nil elt) ρ = .ok (lE false enc2 (xs.map f), .tmp) ρ2 := by
  have := e_compP (D := D) (G := G) (tests := .nil) (elt := elt) (enc2 := enc2) (p := fun _ => true) (f := f) hits ha hi hw (fun x => ?_) hl hn hwi e2
  · rw [List.filter_eq_self.mpr (fun _ _ => rfl)] at this
    exact this
  · obtain ⟨ρ1, h1, h2, h3⟩ := hb x
    exact ⟨ρ1, h1, h2, rfl, fun _ => h3⟩
theorem e_compF {tg : Tg} {ik : ItK} {enc enc2 : α → Val} {p : α → Bool} {xs : List α} (hits : evs D G its ρ = .ok as ρ1) (ha : allTmp as = true) (hi : itemsOf ik (as.map (·.1)) = some (xs.map enc)) (hw : wipeE ρ1 tg.slots = ρw)
    (hb : ∀ x, ∃ ρ1, bindTg tg (enc x) ρw = some ρ1 ∧ wipeE ρ1 tg.slots = ρw ∧ tst D G tests ρ1 = .ok (p x) ρ1 ∧ (p x = true → ev D G elt ρ1 = .ok (enc2 x, .tmp) ρ1)) (hl : lineB xs.length = true) (hn : tg.slots.Nodup) (hwi : wiped ρw tg.slots) (e2 : backF ρ1 ρw tg.slots = ρ2) :
    ev D G (.comp tg ik its tests elt) ρ = .ok (lE false enc2 (xs.filter p), .tmp) ρ2 := by
  have := e_compP (D := D) (G := G) (tests := tests) (elt := elt) (enc2 := enc2) (p := p) (f := fun x => x) hits ha hi hw hb hl hn hwi e2
  rw [List.map_id'] at this
  exact this
/-! over the list that a name holds -/
theorem compRH_cmp {hd : Env → Bool} {bd : Val → Env → Option Env} {vs : List Nat} {t : Env → Res Bool} {el : Env → Res (Val × Src)} {enc : α → Val} {enc2 : β → Val} {p : α → Option Bool} {f : α → Option β} (h0 : hd ρw = true)
    (hb : ∀ x, ∃ ρ1, bd (enc x) ρw = some ρ1 ∧ wipeE ρ1 vs = ρw ∧ ∀ c, p x = some c → t ρ1 = .ok c ρ1 ∧ (c = true → ∀ y, f x = some y → el ρ1 = .ok (enc2 y, .tmp) ρ1)) : ∀ {xs : List α} {ys : List β} {acc : List Val}, cmpO p f xs = some ys → acc.length + xs.length ≤ 16777216 →
    compRH hd bd vs t el (xs.map enc) ρw acc = .ok (acc ++ ys.map enc2) ρw
  | [], ys, acc, h, hl => by
    simp only [cmpO, Option.some.injEq] at h
    subst h
    simp only [List.map_nil, compRH_nil h0, List.append_nil]
  | x :: xs, ys, acc, h, hl => by
    obtain ⟨ρ1, e1, e2, h3⟩ := hb x
    simp only [cmpO, Option.bind_eq_some_iff] at h
    obtain ⟨c, hc, h⟩ := h
    obtain ⟨h4, h5⟩ := h3 c hc
    simp only [List.length_cons] at hl
    rw [List.map_cons]
    cases c with
    | true =>
      simp only [if_true, Option.bind_eq_some_iff, Option.map_eq_some_iff] at h
      obtain ⟨y, hy, ys', hys, rfl⟩ := h
      rw [compRH_yes h0 e1 h4 (h5 rfl y hy) (by omega), e2, compRH_cmp h0 hb hys (by simp only [List.length_append, List.length_cons, List.length_nil]; omega), List.append_assoc]
      rfl
    | false =>
      simp only [Bool.false_eq_true, if_false] at h
      rw [compRH_no h0 e1 h4, e2, compRH_cmp h0 hb h (by omega)]
theorem lstAt_of {enc : α → Val} [Pu enc] {xs : List α} {i : Nat} {ρ : Env} (hx : ρ[i]? = some (some (lE false enc xs))) : lstAt ρ i = some (xs.map enc) := by
  unfold lstAt
  rw [hx]
  dsimp only
  rw [if_pos (pures_map (Pu.p (e := enc)) xs)]
theorem e_compS {tg : Tg} {i : Nat} {enc : α → Val} [Pu enc] {enc2 : β → Val} {p : α → Option Bool} {f : α → Option β} {xs : List α} {ys : List β} (hx : ρ[i]? = some (some (lE false enc xs))) (ha : (!tg.slots.contains i) = true) (hw : wipeE ρ tg.slots = ρw) (hxw : ρw[i]? = some (some (lE false enc xs)))
    (hb : ∀ x, ∃ ρ1, bindTg tg (enc x) ρw = some ρ1 ∧ wipeE ρ1 tg.slots = ρw ∧ ∀ c, p x = some c → tst D G tests ρ1 = .ok c ρ1 ∧ (c = true → ∀ y, f x = some y → ev D G elt ρ1 = .ok (enc2 y, .tmp) ρ1)) (hl : lineB xs.length = true) (hc : cmpO p f xs = some ys) (hn : tg.slots.Nodup) (hwi : wiped ρw tg.slots) (e2 : backF ρ ρw tg.slots = ρ2) :
    ev D G (.compP tg i tests elt) ρ = .ok (lE false enc2 ys, .tmp) ρ2 := by
  have h4 := compRH_cmp (hd := holdsB i (lE false enc xs)) (acc := []) (holdsB_of hxw) hb hc (by have := of_decide_eq_true hl; simpa using this)
  rw [ev_compP, lstAt_of hx]
  unfold compPK
  dsimp only
  rw [if_pos ha, hw]
  rw [show compRH (holdsB i (.node (.lst false) (xs.map enc))) (bindTg tg) tg.slots (tst D G tests) (ev D G elt) (xs.map enc) ρw [] = _ from h4]
  simp only [Res.bind_ok, compW, back_eq _ _ _ hn hwi, e2, List.nil_append]
theorem e_compSP {tg : Tg} {i : Nat} {enc : α → Val} [Pu enc] {enc2 : β → Val} {p : α → Bool} {f : α → β} {xs : List α} (hx : ρ[i]? = some (some (lE false enc xs))) (ha : (!tg.slots.contains i) = true) (hw : wipeE ρ tg.slots = ρw) (hxw : ρw[i]? = some (some (lE false enc xs)))
    (hb : ∀ x, ∃ ρ1, bindTg tg (enc x) ρw = some ρ1 ∧ wipeE ρ1 tg.slots = ρw ∧ tst D G tests ρ1 = .ok (p x) ρ1 ∧ (p x = true → ev D G elt ρ1 = .ok (enc2 (f x), .tmp) ρ1)) (hl : lineB xs.length = true) (hn : tg.slots.Nodup) (hwi : wiped ρw tg.slots) (e2 : backF ρ ρw tg.slots = ρ2) :
    ev D G (.compP tg i tests elt) ρ = .ok (lE false enc2 ((xs.filter p).map f), .tmp) ρ2 := by
  refine e_compS (p := fun x => some (p x)) (f := fun x => some (f x)) hx ha hw hxw (fun x => ?_) hl (cmpO_pure p f xs) hn hwi e2
  obtain ⟨ρ1, h1, h2, h3, h4⟩ := hb x
  exact ⟨ρ1, h1, h2, fun c hc => by cases hc; exact ⟨h3, fun ht y hy => by cases hy; exact h4 ht⟩⟩
theorem e_compSM {tg : Tg} {i : Nat} {enc : α → Val} [Pu enc] {enc2 : β → Val} {f : α → β} {xs : List α} (hx : ρ[i]? = some (some (lE false enc xs))) (ha : (!tg.slots.contains i) = true) (hw : wipeE ρ tg.slots = ρw) (hxw : ρw[i]? = some (some (lE false enc xs)))
    (hb : ∀ x, ∃ ρ1, bindTg tg (enc x) ρw = some ρ1 ∧ wipeE ρ1 tg.slots = ρw ∧ ev D G elt ρ1 = .ok (enc2 (f x), .tmp) ρ1) (hl : lineB xs.length = true) (hn : tg.slots.Nodup) (hwi : wiped ρw tg.slots) (e2 : backF ρ ρw tg.slots = ρ2) :
    ev D G (.compP tg i .nil elt) ρ = .ok (lE false enc2 (xs.map f), .tmp) ρ2 := by
  have := e_compSP (D := D) (G := G) (tests := .nil) (elt := elt) (enc2 := enc2) (p := fun _ => true) (f := f) hx ha hw hxw (fun x => ?_) hl hn hwi e2
  · rw [List.filter_eq_self.mpr (fun _ _ => rfl)] at this
    exact this
  · obtain ⟨ρ1, h1, h2, h3⟩ := hb x
    exact ⟨ρ1, h1, h2, rfl, fun _ => h3⟩
theorem e_compSF {tg : Tg} {i : Nat} {enc enc2 : α → Val} [Pu enc] {p : α → Bool} {xs : List α} (hx : ρ[i]? = some (some (lE false enc xs))) (ha : (!tg.slots.contains i) = true) (hw : wipeE ρ tg.slots = ρw) (hxw : ρw[i]? = some (some (lE false enc xs)))
    (hb : ∀ x, ∃ ρ1, bindTg tg (enc x) ρw = some ρ1 ∧ wipeE ρ1 tg.slots = ρw ∧ tst D G tests ρ1 = .ok (p x) ρ1 ∧ (p x = true → ev D G elt ρ1 = .ok (enc2 x, .tmp) ρ1)) (hl : lineB xs.length = true) (hn : tg.slots.Nodup) (hwi : wiped ρw tg.slots) (e2 : backF ρ ρw tg.slots = ρ2) :
    ev D G (.compP tg i tests elt) ρ = .ok (lE false enc2 (xs.filter p), .tmp) ρ2 := by
  have := e_compSP (D := D) (G := G) (tests := tests) (elt := elt) (enc2 := enc2) (p := p) (f := fun x => x) hx ha hw hxw hb hl hn hwi e2
  rw [List.map_id'] at this
  exact this
/-! over what a name holds, nothing else changed -/
theorem sq_l {z : Bool} {enc : α → Val} [Pu enc] {xs : List α} {i : Nat} {ρ : Env} (hx : ρ[i]? = some (some (lE z enc xs))) : seqAt ρ i = some (xs.map enc) := by
  unfold seqAt
  rw [hx]
  dsimp only
  rw [if_pos (pures_map (Pu.p (e := enc)) xs)]
theorem sq_r {enc : α → Val} [Pu enc] {xs : List α} {i : Nat} {ρ : Env} (hx : ρ[i]? = some (some (rE enc xs))) : seqAt ρ i = some (xs.map enc) := by
  unfold seqAt
  rw [hx]
  dsimp only
  rw [if_pos (pures_map (Pu.p (e := enc)) xs)]
theorem sq_t {enc : α → Val} [Pu enc] {xs : List α} {i : Nat} {ρ : Env} (hx : ρ[i]? = some (some (tE enc xs))) : seqAt ρ i = some (xs.map enc) := by
  unfold seqAt
  rw [hx]
  dsimp only
  rw [if_pos (pures_map (Pu.p (e := enc)) xs)]
theorem sq_q {z : Bool} {enc : α → Val} [Pu enc] {xs : Bool × List α} {i : Nat} {ρ : Env} (hx : ρ[i]? = some (some (qE z enc xs))) : seqAt ρ i = some (xs.2.map enc) := by
  obtain ⟨b, ys⟩ := xs
  cases b with
  | true => exact sq_t (xs := ys) hx
  | false => exact sq_l (z := z) (xs := ys) hx
theorem e_compQ {tg : Tg} {i : Nat} {enc : α → Val} {enc2 : β → Val} {p : α → Option Bool} {f : α → Option β} {xs : List α} {ys : List β} (hx : seqAt ρ i = some (xs.map enc)) (hw : wipeE ρ tg.slots = ρw)
    (hb : ∀ x, ∃ ρ1, bindTg tg (enc x) ρw = some ρ1 ∧ wipeE ρ1 tg.slots = ρw ∧ ∀ c, p x = some c → tst D G tests ρ1 = .ok c ρ1 ∧ (c = true → ∀ y, f x = some y → ev D G elt ρ1 = .ok (enc2 y, .tmp) ρ1)) (hl : lineB xs.length = true) (hc : cmpO p f xs = some ys) :
    ev D G (.compQ tg i tests elt) ρ = .ok (lE false enc2 ys, .tmp) ρ := by
  have h4 := compRH_cmp (hd := noHd) (acc := []) rfl hb hc (by have := of_decide_eq_true hl; simpa using this)
  rw [ev_compQ, hx]
  unfold compQK
  dsimp only
  rw [hw]
  rw [show compR (bindTg tg) tg.slots (fun ρ => tst D G tests ρ) (fun ρ => ev D G elt ρ) (xs.map enc) ρw [] = _ from h4]
  simp only [Res.bind_ok, List.nil_append]
theorem e_compQP {tg : Tg} {i : Nat} {enc : α → Val} {enc2 : β → Val} {p : α → Bool} {f : α → β} {xs : List α} (hx : seqAt ρ i = some (xs.map enc)) (hw : wipeE ρ tg.slots = ρw)
    (hb : ∀ x, ∃ ρ1, bindTg tg (enc x) ρw = some ρ1 ∧ wipeE ρ1 tg.slots = ρw ∧ tst D G tests ρ1 = .ok (p x) ρ1 ∧ (p x = true → ev D G elt ρ1 = .ok (enc2 (f x), .tmp) ρ1)) (hl : lineB xs.length = true) :
    ev D G (.compQ tg i tests elt) ρ = .ok (lE false enc2 ((xs.filter p).map f), .tmp) ρ := by
  refine e_compQ (p := fun x => some (p x)) (f := fun x => some (f x)) hx hw (fun x => ?_) hl (cmpO_pure p f xs)
  obtain ⟨ρ1, h1, h2, h3, h4⟩ := hb x
  exact ⟨ρ1, h1, h2, fun c hc => by cases hc; exact ⟨h3, fun ht y hy => by cases hy; exact h4 ht⟩⟩
theorem e_compQM {tg : Tg} {i : Nat} {enc : α → Val} {enc2 : β → Val} {f : α → β} {xs : List α} (hx : seqAt ρ i = some (xs.map enc)) (hw : wipeE ρ tg.slots = ρw)
    (hb : ∀ x, ∃ ρ1, bindTg tg (enc x) ρw = some ρ1 ∧ wipeE ρ1 tg.slots = ρw ∧ ev D G elt ρ1 = .ok (enc2 (f x), .tmp) ρ1) (hl : lineB xs.length = true) :
    ev D G (.compQ tg i .nil elt) ρ = .ok (lE false enc2 (xs.map f), .tmp) ρ := by
  have := e_compQP (D := D) (G := G) (tests := .nil) (elt := elt) (enc2 := enc2) (p := fun _ => true) (f := f) hx hw (fun x => ?_) hl
  · rw [List.filter_eq_self.mpr (fun _ _ => rfl)] at this
    exact this
  · obtain ⟨ρ1, h1, h2, h3⟩ := hb x
    exact ⟨ρ1, h1, h2, rfl, fun _ => h3⟩
theorem e_compQF {tg : Tg} {i : Nat} {enc enc2 : α → Val} {p : α → Bool} {xs : List α} (hx : seqAt ρ i = some (xs.map enc)) (hw : wipeE ρ tg.slots = ρw)
    (hb : ∀ x, ∃ ρ1, bindTg tg (enc x) ρw = some ρ1 ∧ wipeE ρ1 tg.slots = ρw ∧ tst D G tests ρ1 = .ok (p x) ρ1 ∧ (p x = true → ev D G elt ρ1 = .ok (enc2 x, .tmp) ρ1)) (hl : lineB xs.length = true) :
    ev D G (.compQ tg i tests elt) ρ = .ok (lE false enc2 (xs.filter p), .tmp) ρ := by
  have := e_compQP (D := D) (G := G) (tests := tests) (elt := elt) (enc2 := enc2) (p := p) (f := fun x => x) hx hw hb hl
  rw [List.map_id'] at this
  exact this
/-- a comprehension over a few told items, item by item -/
inductive CU (bd : Val → Env → Option Env) (vs : List Nat) (el : Env → Res (Val × Src)) (ρw : Env) : List Val → List Val → Prop
  | nil : CU bd vs el ρw [] []
  | cons {x v : Val} {xs ws : List Val} {ρ1 : Env} (h1 : bd x ρw = some ρ1) (h2 : wipeE ρ1 vs = ρw) (h3 : el ρ1 = .ok (v, .tmp) ρ1) (hs : CU bd vs el ρw xs ws) : CU bd vs el ρw (x :: xs) (v :: ws)
theorem CU.run {bd : Val → Env → Option Env} {vs : List Nat} {el : Env → Res (Val × Src)} : ∀ {xs ws acc : List Val}, CU bd vs el ρw xs ws → acc.length + xs.length ≤ 16777216 → compR bd vs (fun ρ => .ok true ρ) el xs ρw acc = .ok (acc ++ ws) ρw
  | _, _, acc, .nil, _ => by simp only [compR_nil, List.append_nil]
  | _, _, acc, .cons h1 h2 h3 hs, hl => by
    simp only [List.length_cons] at hl
    rw [compR_yes h1 rfl h3 (by omega), h2, hs.run (by simp only [List.length_append, List.length_cons, List.length_nil]; omega), List.append_assoc]
    rfl
theorem e_compU {tg : Tg} {ik : ItK} {xs ws : List Val} {v : Val} (hits : evs D G its ρ = .ok as ρ1) (ha : allTmp as = true) (hi : itemsOf ik (as.map (·.1)) = some xs) (hw : wipeE ρ1 tg.slots = ρw)
    (hc : CU (bindTg tg) tg.slots (fun ρ => ev D G elt ρ) ρw xs ws) (hl : lineB xs.length = true) (hv : Val.node (.lst false) ws = v) (hn : tg.slots.Nodup) (hwi : wiped ρw tg.slots) (e2 : backF ρ1 ρw tg.slots = ρ2) :
    ev D G (.comp tg ik its .nil elt) ρ = .ok (v, .tmp) ρ2 := by
  have h4 := hc.run (acc := []) (by have := of_decide_eq_true hl; simpa using this)
  rw [ev_comp, hits, Res.bind_ok]
  unfold compK
  rw [if_pos ha, hi]
  have h5 : compR (bindTg tg) tg.slots (fun ρ => tst D G .nil ρ) (fun ρ => ev D G elt ρ) xs ρw [] = .ok ([] ++ ws) ρw := h4
  simp only [compI, hw, h5, Res.bind_ok, compW, back_eq _ _ _ hn hwi, e2, List.nil_append, hv]
theorem t_nil : tst D G .nil ρ = .ok true ρ := rfl
theorem t_one {e : Ex} {es : Exs} {c : Bool} {s : Src} (h : ev D G e ρ = .ok (.bl c, s) ρ) : tst D G (.cons e es) ρ = .ok c ρ := by rw [tst_cons, h]; rfl
end
end VS

/-! dicts and mixed lists, typed -/
namespace VS
open PySem L2
section
variable {α β γ κ : Type}
abbrev kI : Int → Key := Sum.inl
abbrev kS : PySem.Str → Key := Sum.inr
/-- a dict as its pairs, in the order of their coming -/
abbrev dE (z : Bool) (ek : κ → Key) (e : α → Val) : List (κ × α) → Val := fun d => .node (.dct z (d.map fun p => ek p.1)) (d.map fun p => e p.2)
abbrev h1 (z : Bool) (e : α → Val) : α → Val := fun p => .node (.lst z) [e p]
abbrev h2 (z : Bool) (e : α → Val) (f : β → Val) : α × β → Val := fun p => .node (.lst z) [e p.1, f p.2]
abbrev h3 (z : Bool) (e : α → Val) (f : β → Val) (g : γ → Val) : α × β × γ → Val := fun p => .node (.lst z) [e p.1, f p.2.1, g p.2.2]
/-- what may be a key -/
class Ky (e : κ → Val) (ek : outParam (κ → Key)) : Prop where
  k : ∀ x, keyOf (e x) = some (ek x)
  inj : ∀ x y, ek x = ek y → x = y
instance : Ky Val.int kI := ⟨fun _ => rfl, fun _ _ h => Sum.inl.inj h⟩
instance : Ky Val.str kS := ⟨fun _ => rfl, fun _ _ h => Sum.inr.inj h⟩
section
variable [DecidableEq κ]
def dget : List (κ × α) → κ → Option α
  | [], _ => none
  | p :: d, k => if p.1 = k then some p.2 else dget d k
def dput : List (κ × α) → κ → α → List (κ × α)
  | [], k, v => [(k, v)]
  | p :: d, k, v => if p.1 = k then (p.1, v) :: d else p :: dput d k v
def dhas (d : List (κ × α)) (k : κ) : Bool := (dget d k).isSome
def dmerge (d : List (κ × α)) (xs : List (κ × α)) : List (κ × α) := xs.foldl (fun d p => dput d p.1 p.2) d
variable {ek : κ → Key} {e : α → Val}
theorem dget_ix (hi : ∀ x y, ek x = ek y → x = y) (k : κ) : ∀ d : List (κ × α), (idxK (d.map fun p => ek p.1) (ek k)).bind (fun i => (d.map fun p => e p.2)[i]?) = (dget d k).map e
  | [] => rfl
  | p :: d => by
    simp only [List.map_cons, idxK, dget]
    by_cases h : p.1 = k
    · rw [if_pos h, if_pos (by rw [h])]; rfl
    · rw [if_neg h, if_neg fun z => h (hi _ _ z), ← dget_ix hi k d]
      cases idxK (d.map fun p => ek p.1) (ek k) <;> simp
theorem put_ks (hi : ∀ x y, ek x = ek y → x = y) (k : κ) (v : α) : ∀ d : List (κ × α), putKs (d.map fun p => ek p.1) (ek k) = (dput d k v).map fun p => ek p.1
  | [] => rfl
  | p :: d => by
    have ih := put_ks hi k v d
    simp only [List.map_cons, putKs, idxK, dput] at ih ⊢
    by_cases h : p.1 = k
    · rw [if_pos h, if_pos (by rw [h])]; rfl
    · rw [if_neg h, if_neg fun z => h (hi _ _ z)]
      cases hx : idxK (d.map fun p => ek p.1) (ek k) with
      | none => rw [hx] at ih; simp only [Option.map_none, List.map_cons, List.cons_append, ← ih]
      | some i => rw [hx] at ih; simp only [Option.map_some, List.map_cons, ← ih]
theorem put_vs (hi : ∀ x y, ek x = ek y → x = y) (k : κ) (v : α) : ∀ d : List (κ × α), putVs (d.map fun p => ek p.1) (d.map fun p => e p.2) (ek k) (e v) = (dput d k v).map fun p => e p.2
  | [] => rfl
  | p :: d => by
    have ih := put_vs hi k v d
    simp only [List.map_cons, putVs, idxK, dput] at ih ⊢
    by_cases h : p.1 = k
    · rw [if_pos h, if_pos (by rw [h])]; rfl
    · rw [if_neg h, if_neg fun z => h (hi _ _ z)]
      cases hx : idxK (d.map fun p => ek p.1) (ek k) with
      | none => rw [hx] at ih; simp only [Option.map_none, List.map_cons, List.cons_append, ← ih]
      | some i => rw [hx] at ih; simp only [Option.map_some, List.map_cons, List.set_cons_succ, ← ih]
theorem has_k (hi : ∀ x y, ek x = ek y → x = y) (k : κ) : ∀ d : List (κ × α), hasK (d.map fun p => ek p.1) (ek k) = dhas d k
  | [] => rfl
  | p :: d => by
    have ih := has_k hi k d
    simp only [hasK, dhas, List.map_cons, List.any_cons, dget] at ih ⊢
    by_cases h : p.1 = k
    · rw [if_pos h, h]; simp
    · rw [if_neg h, ← ih, decide_eq_false fun z => h (hi _ _ z), Bool.false_or]
end
instance {ek : κ → Key} {e : α → Val} [Pu e] : Pu (dE true ek e) := ⟨fun d => by
  have := pures_map (e := fun p : κ × α => e p.2) (fun p => Pu.p (e := e) p.2) d
  simp only [Val.pure, Tag.own, this]; rfl⟩
instance {z : Bool} {ek : κ → Key} {e e' : α → Val} [Fz e e'] : Fz (dE z ek e) (dE true ek e') := ⟨fun d => by
  have := freezes_map (e := fun p : κ × α => e p.2) (e' := fun p : κ × α => e' p.2) (fun p => Fz.f (e := e) (e' := e') p.2) d
  simp only [Val.freeze, Tag.fz, this]⟩
instance {ek : κ → Key} {e : α → Val} [Nf e] : Nf (dE false ek e) := ⟨fun d => by
  have := nofzs_map (e := fun p : κ × α => e p.2) (fun p => Nf.n (e := e) p.2) d
  simp only [Val.nofz, Tag.nofz, Tag.own, this]; rfl⟩
instance {z : Bool} {ek : κ → Key} {e : α → Val} : Nn (dE z ek e) := ⟨fun _ => rfl⟩
instance {e : α → Val} [Pu e] : Pu (h1 true e) := ⟨fun x => by simp only [Val.pure, Tag.own, pures, Pu.p (e := e)]; rfl⟩
instance {e : α → Val} {f : β → Val} [Pu e] [Pu f] : Pu (h2 true e f) := ⟨fun x => by simp only [Val.pure, Tag.own, pures, Pu.p (e := e), Pu.p (e := f)]; rfl⟩
instance {e : α → Val} {f : β → Val} {g : γ → Val} [Pu e] [Pu f] [Pu g] : Pu (h3 true e f g) := ⟨fun x => by simp only [Val.pure, Tag.own, pures, Pu.p (e := e), Pu.p (e := f), Pu.p (e := g)]; rfl⟩
instance {z : Bool} {e e' : α → Val} [Fz e e'] : Fz (h1 z e) (h1 true e') := ⟨fun x => by simp only [Val.freeze, Tag.fz, freezes, Fz.f (e := e) (e' := e')]⟩
instance {z : Bool} {e e' : α → Val} {f f' : β → Val} [Fz e e'] [Fz f f'] : Fz (h2 z e f) (h2 true e' f') := ⟨fun x => by simp only [Val.freeze, Tag.fz, freezes, Fz.f (e := e) (e' := e'), Fz.f (e := f) (e' := f')]⟩
instance {z : Bool} {e e' : α → Val} {f f' : β → Val} {g g' : γ → Val} [Fz e e'] [Fz f f'] [Fz g g'] : Fz (h3 z e f g) (h3 true e' f' g') := ⟨fun x => by simp only [Val.freeze, Tag.fz, freezes, Fz.f (e := e) (e' := e'), Fz.f (e := f) (e' := f'), Fz.f (e := g) (e' := g')]⟩
instance {e : α → Val} [Nf e] : Nf (h1 false e) := ⟨fun x => by simp only [Val.nofz, Tag.nofz, Tag.own, nofzs, Nf.n (e := e)]; rfl⟩
instance {e : α → Val} {f : β → Val} [Nf e] [Nf f] : Nf (h2 false e f) := ⟨fun x => by simp only [Val.nofz, Tag.nofz, Tag.own, nofzs, Nf.n (e := e), Nf.n (e := f)]; rfl⟩
instance {e : α → Val} {f : β → Val} {g : γ → Val} [Nf e] [Nf f] [Nf g] : Nf (h3 false e f g) := ⟨fun x => by simp only [Val.nofz, Tag.nofz, Tag.own, nofzs, Nf.n (e := e), Nf.n (e := f), Nf.n (e := g)]; rfl⟩
instance {z : Bool} {e : α → Val} : Nn (h1 z e) := ⟨fun _ => rfl⟩
instance {z : Bool} {e : α → Val} {f : β → Val} : Nn (h2 z e f) := ⟨fun _ => rfl⟩
instance {z : Bool} {e : α → Val} {f : β → Val} {g : γ → Val} : Nn (h3 z e f g) := ⟨fun _ => rfl⟩
abbrev dl1 (d : α → PyData) : α → PyData := fun p => .list [d p]
abbrev dl2 (d : α → PyData) (d' : β → PyData) : α × β → PyData := fun p => .list [d p.1, d' p.2]
abbrev dl3 (d : α → PyData) (d' : β → PyData) (d'' : γ → PyData) : α × β × γ → PyData := fun p => .list [d p.1, d' p.2.1, d'' p.2.2]
instance {z : Bool} {e : α → Val} {d : α → PyData} [Dt e d] : Dt (h1 z e) (dl1 d) := ⟨fun x => by simp only [toD, toDs, Dt.d (e := e) (d := d), Option.map_some, Option.bind_some]⟩
instance {z : Bool} {e : α → Val} {d : α → PyData} {f : β → Val} {d' : β → PyData} [Dt e d] [Dt f d'] : Dt (h2 z e f) (dl2 d d') := ⟨fun x => by simp only [toD, toDs, Dt.d (e := e) (d := d), Dt.d (e := f) (d := d'), Option.map_some, Option.bind_some]⟩
instance {z : Bool} {e : α → Val} {d : α → PyData} {f : β → Val} {d' : β → PyData} {g : γ → Val} {d'' : γ → PyData} [Dt e d] [Dt f d'] [Dt g d''] : Dt (h3 z e f g) (dl3 d d' d'') := ⟨fun x => by simp only [toD, toDs, Dt.d (e := e) (d := d), Dt.d (e := f) (d := d'), Dt.d (e := g) (d := d''), Option.map_some, Option.bind_some]⟩
instance {d : α → PyData} : Dn (dl1 d) := ⟨fun _ => by simp only [PyData.eqv], fun _ => by simp only [PyData.eqv]⟩
instance {d : α → PyData} {d' : β → PyData} : Dn (dl2 d d') := ⟨fun _ => by simp only [PyData.eqv], fun _ => by simp only [PyData.eqv]⟩
instance {d : α → PyData} {d' : β → PyData} {d'' : γ → PyData} : Dn (dl3 d d' d'') := ⟨fun _ => by simp only [PyData.eqv], fun _ => by simp only [PyData.eqv]⟩
instance [DecidableEq α] {d : α → PyData} {n : Nat} [Dq d n] : Dq (dl1 d) (n + 1) := ⟨fun x => by simp only [PyData.canLay0, PyData.canLayAll0, Dq.lay (d := d), Bool.and_self], fun x => by have := Dq.dep (d := d) x; simp only [PyData.depth, PyData.depthAll]; omega, fun x y => by
  simp only [PyData.eqv, PyData.eqvAll, Dq.eq (d := d), Bool.and_true]⟩
instance [DecidableEq α] [DecidableEq β] {d : α → PyData} {d' : β → PyData} {n n' : Nat} [Dq d n] [Dq d' n'] : Dq (dl2 d d') (n + n' + 1) := ⟨fun x => by simp only [PyData.canLay0, PyData.canLayAll0, Dq.lay (d := d), Dq.lay (d := d'), Bool.and_self], fun x => by have := Dq.dep (d := d) x.1; have := Dq.dep (d := d') x.2; simp only [PyData.depth, PyData.depthAll]; omega, fun x y => by
  obtain ⟨x1, x2⟩ := x
  obtain ⟨y1, y2⟩ := y
  simp only [PyData.eqv, PyData.eqvAll, Dq.eq (d := d), Dq.eq (d := d'), Bool.and_true, Prod.mk.injEq]
  by_cases a : x1 = y1 <;> by_cases b : x2 = y2 <;> simp [a, b]⟩
instance [DecidableEq α] [DecidableEq β] [DecidableEq γ] {d : α → PyData} {d' : β → PyData} {d'' : γ → PyData} {n n' n'' : Nat} [Dq d n] [Dq d' n'] [Dq d'' n''] : Dq (dl3 d d' d'') (n + n' + n'' + 1) := ⟨fun x => by simp only [PyData.canLay0, PyData.canLayAll0, Dq.lay (d := d), Dq.lay (d := d'), Dq.lay (d := d''), Bool.and_self], fun x => by have := Dq.dep (d := d) x.1; have := Dq.dep (d := d') x.2.1; have := Dq.dep (d := d'') x.2.2; simp only [PyData.depth, PyData.depthAll]; omega, fun x y => by
  obtain ⟨x1, x2, x3⟩ := x
  obtain ⟨y1, y2, y3⟩ := y
  simp only [PyData.eqv, PyData.eqvAll, Dq.eq (d := d), Dq.eq (d := d'), Dq.eq (d := d''), Bool.and_true, Prod.mk.injEq]
  by_cases a : x1 = y1 <;> by_cases b : x2 = y2 <;> by_cases c : x3 = y3 <;> simp [a, b, c]⟩
/-! ### operations -/
theorem g_lenD {z : Bool} {ek : κ → Key} {e : α → Val} (d : List (κ × α)) : gLenD [dE z ek e d] = some (.int d.length) := by simp only [gLenD, List.length_map]
theorem intKs_of : ∀ d : List (Int × α), intKs (d.map fun p => kI p.1) = some (d.map (·.1))
  | [] => rfl
  | p :: d => by simp only [List.map_cons, intKs, intKs_of d, Option.map_some]
def dkeys (d : List (κ × α)) : List κ := d.map (·.1)
theorem g_sortedD {z : Bool} {e : α → Val} (d : List (Int × α)) : gSortedD [dE z kI e d] = some (lE false Val.int (srt (dkeys d))) := by
  simp only [gSortedD, intKs_of, Option.map_some]
  rfl
theorem g_dictD {z : Bool} {ek : κ → Key} {e : α → Val} [Pu e] (d : List (κ × α)) : gDictD [dE z ek e d] = some (dE false ek e d) := by
  have := pures_map (e := fun p : κ × α => e p.2) (fun p => Pu.p (e := e) p.2) d
  simp only [gDictD, this, if_true]
theorem pairs_of {e' : κ → Val} {ek : κ → Key} {e : α → Val} [Ky e' ek] : ∀ xs : List (κ × α), pairsOf (xs.map (t2 e' e)) = some (xs.map (fun p => ek p.1), xs.map (fun p => e p.2))
  | [] => rfl
  | p :: xs => by simp only [List.map_cons, pairsOf, Ky.k (e := e') (ek := ek), Option.bind_some, pairs_of xs, Option.map_some]
theorem merge_of [DecidableEq κ] {ek : κ → Key} {e : α → Val} (hi : ∀ x y, ek x = ek y → x = y) : ∀ (xs d : List (κ × α)), mergeP (d.map fun p => ek p.1) (d.map fun p => e p.2) (xs.map fun p => ek p.1) (xs.map fun p => e p.2) = ((dmerge d xs).map (fun p => ek p.1), (dmerge d xs).map (fun p => e p.2))
  | [], d => by simp only [List.map_nil, mergeP]; rfl
  | p :: xs, d => by
    simp only [List.map_cons, mergeP]
    rw [put_ks hi p.1 p.2 d, put_vs hi p.1 p.2 d, merge_of hi xs]
    rfl
theorem g_dictP0 [DecidableEq κ] {e' : κ → Val} {ek : κ → Key} {e : α → Val} [Ky e' ek] [Pu e] (xs : List (κ × α)) : ((pairsOf (xs.map (t2 e' e))).bind fun p => if pures p.2 = true then some (Val.node (.dct false (mergeP [] [] p.1 p.2).1) (mergeP [] [] p.1 p.2).2) else none) = some (dE false ek e (dmerge [] xs)) := by
  rw [pairs_of, Option.bind_some]
  have := pures_map (e := fun p : κ × α => e p.2) (fun p => Pu.p (e := e) p.2) xs
  dsimp only
  rw [if_pos this]
  have := merge_of (ek := ek) (e := e) (Ky.inj (e := e') (ek := ek)) xs []
  rw [List.map_nil, List.map_nil] at this
  rw [this]
theorem g_dictP_l [DecidableEq κ] {z : Bool} {e' : κ → Val} {ek : κ → Key} {e : α → Val} [Ky e' ek] [Pu e] (xs : List (κ × α)) : gDictP [lE z (t2 e' e) xs] = some (dE false ek e (dmerge [] xs)) := by
  have : gDictP [lE z (t2 e' e) xs] = (pairsOf (xs.map (t2 e' e))).bind fun p => if pures p.2 = true then some (Val.node (.dct false (mergeP [] [] p.1 p.2).1) (mergeP [] [] p.1 p.2).2) else none := rfl
  rw [this, g_dictP0]
theorem g_dictP_p [DecidableEq κ] {e' : κ → Val} {ek : κ → Key} {e : α → Val} [Ky e' ek] [Pu e] (xs : List (κ × α)) : gDictP [pE (t2 e' e) xs] = some (dE false ek e (dmerge [] xs)) := by
  have : gDictP [pE (t2 e' e) xs] = (pairsOf (xs.map (t2 e' e))).bind fun p => if pures p.2 = true then some (Val.node (.dct false (mergeP [] [] p.1 p.2).1) (mergeP [] [] p.1 p.2).2) else none := rfl
  rw [this, g_dictP0]
def flatK (e' : κ → Val) (e : α → Val) : List (κ × α) → List Val
  | [] => []
  | p :: r => e' p.1 :: e p.2 :: flatK e' e r
theorem disOf_flat {e' : κ → Val} {ek : κ → Key} {e : α → Val} [Ky e' ek] : ∀ ps : List (κ × α), disOf (flatK e' e ps) = some (ps.map (fun p => ek p.1), ps.map (fun p => e p.2))
  | [] => rfl
  | p :: r => by simp only [flatK, disOf, Ky.k (e := e') (ek := ek), Option.bind_some, disOf_flat r, Option.map_some, List.map_cons]
theorem pairsOf_t2 {e' : κ → Val} {ek : κ → Key} {e : α → Val} [Ky e' ek] : ∀ ps : List (κ × α), pairsOf (ps.map (t2 e' e)) = some (ps.map (fun p => ek p.1), ps.map (fun p => e p.2))
  | [] => rfl
  | p :: r => by simp only [List.map_cons, pairsOf, Ky.k (e := e') (ek := ek), Option.bind_some, pairsOf_t2 r, Option.map_some]
theorem g_dis [DecidableEq κ] {e' : κ → Val} {ek : κ → Key} {e : α → Val} [Ky e' ek] [Pu e] (ps : List (κ × α)) (h : ps.length ≤ 15) : gDis (flatK e' e ps) = some (dE false ek e (dmerge [] ps)) := by
  have h0 := g_dictP0 (e' := e') (ek := ek) (e := e) ps
  rw [pairsOf_t2, Option.bind_some] at h0
  unfold gDis
  rw [disOf_flat, Option.bind_some]
  have h1 : decide ((ps.map (fun p => ek p.1)).length ≤ 15) = true := decide_eq_true (by rw [List.length_map]; exact h)
  dsimp only
  rw [h1, Bool.and_true]
  exact h0
theorem g_inD [DecidableEq κ] {z : Bool} {e' : κ → Val} {ek : κ → Key} {e : α → Val} [Ky e' ek] (k : κ) (d : List (κ × α)) : gIn false [e' k, dE z ek e d] = some (.bl (dhas d k)) := by
  simp only [gIn, Ky.k (e := e') (ek := ek), Option.map_some, has_k (Ky.inj (e := e') (ek := ek))]; rfl
theorem g_ninD [DecidableEq κ] {z : Bool} {e' : κ → Val} {ek : κ → Key} {e : α → Val} [Ky e' ek] (k : κ) (d : List (κ × α)) : gIn true [e' k, dE z ek e d] = some (.bl (!dhas d k)) := by
  simp only [gIn, Ky.k (e := e') (ek := ek), Option.map_some, has_k (Ky.inj (e := e') (ek := ek))]; rfl
theorem g_get2 [DecidableEq κ] {z : Bool} {e' : κ → Val} {ek : κ → Key} {e : α → Val} [Ky e' ek] [Pu e] (d : List (κ × α)) (k : κ) (x : α) : gGet2 [dE z ek e d, e' k, e x] = some (e ((dget d k).getD x)) := by
  simp only [gGet2, Ky.k (e := e') (ek := ek), Option.bind_some, dget_ix (e := e) (Ky.inj (e := e') (ek := ek)) k d]
  cases dget d k with
  | none => simp only [Option.map_none, Pu.p (e := e), if_true, Option.getD_none]
  | some v => simp only [Option.map_some, Pu.p (e := e), if_true, Option.getD_some]
theorem g_get1 [DecidableEq κ] {z : Bool} {e' : κ → Val} {ek : κ → Key} {e : α → Val} [Ky e' ek] [Pu e] (d : List (κ × α)) (k : κ) : gGet1 [dE z ek e d, e' k] = some (oE e (dget d k)) := by
  simp only [gGet1, gGet2, Ky.k (e := e') (ek := ek), Option.bind_some, dget_ix (e := e) (Ky.inj (e := e') (ek := ek)) k d]
  cases dget d k with
  | none => rfl
  | some v => simp only [Option.map_some, Pu.p (e := e), if_true, oE_some]
theorem ixD [DecidableEq κ] {z : Bool} {e' : κ → Val} {ek : κ → Key} {e : α → Val} [Ky e' ek] [Pu e] {d : List (κ × α)} {k : κ} {v : α} {s s' : Src} {ρ : Env} (h : dget d k = some v) : sDx [(dE z ek e d, s), (e' k, s')] ρ = .ok (e v, .tmp) ρ := by
  have hx := dget_ix (e := e) (Ky.inj (e := e') (ek := ek)) k d
  rw [h, Option.map_some] at hx
  cases hi : idxK (d.map fun p => ek p.1) (ek k) with
  | none => rw [hi] at hx; cases hx
  | some i =>
    rw [hi, Option.bind_some] at hx
    simp only [sDx, dixOf, Ky.k (e := e') (ek := ek), Option.bind_some, hi, Option.map_some, hx, childSrc, Pu.p (e := e), if_true]
theorem g_dput [DecidableEq κ] {e' : κ → Val} {ek : κ → Key} {e : α → Val} [Ky e' ek] (d : List (κ × α)) (k : κ) (v : α) (h : ltB d.length = true) : putOf (dE false ek e d) (e' k) (e v) = some (dE false ek e (dput d k v)) := by
  have : decide ((d.map fun p => e p.2).length < 16777216) = true := by rw [List.length_map]; exact h
  simp only [putOf, Ky.k (e := e') (ek := ek), Option.bind_some, this, if_true]
  rw [put_ks (Ky.inj (e := e') (ek := ek)) k v d, put_vs (Ky.inj (e := e') (ek := ek)) k v d]
theorem g_repr {e : α → Val} {d : α → PyData} [Dt e d] (x : α) (h : reprB (d x) = true) : gRepr [e x] = some (.str (d x).shown) := by
  simp only [gRepr, Dt.d (e := e) (d := d), Option.bind_some, h, if_true]
def setZ (xs : List α) (i : Int) (v : α) : Option (List α) := (L2.ixN xs.length i).map fun j => xs.set j v
theorem g_lput {e : α → Val} {xs ys : List α} {i : Int} {v : α} (h : setZ xs i v = some ys) : lputOf (lE false e xs) (.int i) (e v) = some (lE false e ys) := by
  unfold setZ at h
  obtain ⟨j, hj, rfl⟩ := Option.map_eq_some_iff.mp h
  simp only [lputOf, List.length_map, hj, Option.map_some]
  rw [show (xs.map e).set j (e v) = (xs.set j v).map e from (List.map_set ..).symm]
/-- an item that is one's own, with its place -/
def atK (xs : List α) (i : Int) : Option (Nat × α) := (L2.ixN xs.length i).bind fun k => (xs[k]?).map fun x => (k, x)
theorem ixPk {e : α → Val} {xs : List α} {i : Int} {r : Nat × α} {q : Nat} {p : List Nat} {s' : Src} {ρ : Env} (h : atK xs i = some r) (hp : (e r.2).pure = false) : sIx [(lE false e xs, .plc q p), (.int i, s')] ρ = .ok (e r.2, .plc q (p ++ [r.1])) ρ := by
  unfold atK at h
  obtain ⟨k, hk, h⟩ := Option.bind_eq_some_iff.mp h
  obtain ⟨x, hx, rfl⟩ := Option.map_eq_some_iff.mp h
  exact ixP (t := .lst false) rfl hp rfl k hk hx
theorem g_isi_int (o : Option Int) : gIsi "int" [oE Val.int o] = some (.bl o.isSome) := by cases o <;> rfl
theorem g_isi_o (T : String) (h : T ∈ ["tuple", "list", "str", "bool"]) (o : Option Int) : gIsi T [oE Val.int o] = some (.bl false) := by
  simp only [List.mem_cons, List.not_mem_nil, or_false] at h
  rcases h with rfl | rfl | rfl | rfl <;> cases o <;> rfl
theorem g_isi_bool (o : Option Int) : gIsi "bool" [oE Val.int o] = some (.bl false) := by cases o <;> rfl
end
section
variable {D : Defs} {G : Str → Option Val} {ρ0 ρ ρ1 ρ2 : Env} {e a b c o k : Ex} {as : List (Val × Src)} {v w x y x' : Val} {s s' : Src} {i : Nat} {p : List Nat}
theorem e_dnew : ev D G (.dnew false) ρ = .ok (.node (.dct false []) [], .tmp) ρ := rfl
theorem e_ixd (h : evs D G (.cons a (.cons b .nil)) ρ = .ok as ρ1) (hg : sDx as ρ1 = .ok (v, s) ρ1) : ev D G (.ixd a b) ρ = .ok (v, s) ρ1 := by
  have : ev D G (.ixd a b) ρ = (evs D G (.cons a (.cons b .nil)) ρ).bind sDx := rfl
  rw [this, h, Res.bind_ok, hg]
theorem mid_at {m : Val → Bool} {es : Exs} (h : ev D G o ρ = .ok (x, s) ρ1) (hl : m x = true) (ha : evs D G (.cons o es) ρ = .ok as ρ2) : argsCons (!effs es) (sMid m (ev D G o)) (evs D G es) ρ = .ok as ρ2 := by
  rw [evs_cons, argsCons_ap, h, Res.bind_ok] at ha
  rw [argsCons_ap, sMid_ap, h, Res.bind_ok]
  have : midK m (x, s) ρ1 = .ok (x, s) ρ1 := by unfold midK; rw [if_pos hl]
  rw [this, Res.bind_ok, ha]
theorem e_get1 (h : ev D G o ρ = .ok (x, s) ρ1) (hl : isDct x = true) (ha : evs D G (.cons o (.cons a .nil)) ρ = .ok as ρ2) (hg : gGet1 (as.map (·.1)) = some v) : ev D G (.get1 o a) ρ = .ok (v, .tmp) ρ2 := by
  rw [ev_get1]
  have := mid_at h hl ha
  rw [show argsCons (!(eff a || false)) (sMid isDct (ev D G o)) (argsCons true (ev D G a) argsNil) ρ = argsCons (!effs (.cons a .nil)) (sMid isDct (ev D G o)) (evs D G (.cons a .nil)) ρ from rfl, this, Res.bind_ok]
  unfold primK
  rw [hg]
theorem e_q1 {m : Q1} (h : ev D G o ρ = .ok (x, s) ρ1) (hl : isLq x = true) (ha : evs D G (.cons o (.cons a .nil)) ρ = .ok as ρ2) (hg : gQ1 m (as.map (·.1)) = some v) : ev D G (.q1 m o a) ρ = .ok (v, .tmp) ρ2 := by
  have := mid_at h hl ha
  show (argsCons (!(eff a || false)) (sMid isLq (ev D G o)) (argsCons true (ev D G a) argsNil) ρ).bind (primK (gQ1 m)) = _
  rw [show argsCons (!(eff a || false)) (sMid isLq (ev D G o)) (argsCons true (ev D G a) argsNil) ρ = argsCons (!effs (.cons a .nil)) (sMid isLq (ev D G o)) (evs D G (.cons a .nil)) ρ from rfl, this, Res.bind_ok]
  unfold primK
  rw [hg]
theorem e_get2 (h : ev D G o ρ = .ok (x, s) ρ1) (hl : isDct x = true) (ha : evs D G (.cons o (.cons a (.cons b .nil))) ρ = .ok as ρ2) (hg : gGet2 (as.map (·.1)) = some v) : ev D G (.get2 o a b) ρ = .ok (v, .tmp) ρ2 := by
  rw [ev_get2]
  have := mid_at h hl ha
  rw [show argsCons (!(eff a || (eff b || false))) (sMid isDct (ev D G o)) (argsCons (!(eff b || false)) (ev D G a) (argsCons true (ev D G b) argsNil)) ρ = argsCons (!effs (.cons a (.cons b .nil))) (sMid isDct (ev D G o)) (evs D G (.cons a (.cons b .nil))) ρ from rfl, this, Res.bind_ok]
  unfold primK
  rw [hg]
theorem ixH {z : Bool} {vs : List Val} {n : Int} {j : Nat} {q : Nat} (hk : L2.ixN vs.length n = some j) (hv : vs[j]? = some v) (hp : v.pure = false) (hz : z = false) : sIx [(.node (.lst z) vs, .plc q p), (.int n, s')] ρ = .ok (v, .plc q (p ++ [j])) ρ := by
  subst hz
  simp only [sIx, seqIx, hk, hv, childSrc, hp, Tag.own, Bool.not_false, Bool.false_eq_true, if_false, if_true]
theorem ixHt {z : Bool} {vs : List Val} {n : Int} {j : Nat} (hk : L2.ixN vs.length n = some j) (hv : vs[j]? = some v) (hp : v.pure = true) : sIx [(.node (.lst z) vs, s), (.int n, s')] ρ = .ok (v, .tmp) ρ := by
  simp only [sIx, seqIx, hk, hv, childSrc, hp, if_true]
end
section
variable {σ ρ φ : Type} {k : RK ρ φ} {E : σ → Env → Prop} {m : O σ ρ φ} {D : Defs} {G : Str → Option Val} {N : Nat} {pr : List Nat} {ρ0 ρ1 ρ2 : Env} {e o q : Ex} {b : Blk} {v x y x' : Val} {s : Src} {i : Nat} {p : List Nat}
theorem sim_dput (h : evs D G (.cons e (.cons o (.cons q .nil))) ρ0 = .ok [(v, .tmp), (x, .plc i p), (y, s)] ρ1) (hg : putOf x y v = some x') (e2 : putAt ρ1 i p x' = ρ2) (hs : Sim k E m (exs D G N pr b ρ2)) : Sim k E m (exs D G N pr (.cons (.dput e o q) b) ρ0) := by
  rw [exs_cons, ex_dput]
  rw [show argsCons (!(eff o || (eff q || false))) (ev D G e) (argsCons (!(eff q || false)) (ev D G o) (argsCons true (ev D G q) argsNil)) ρ0 = evs D G (.cons e (.cons o (.cons q .nil))) ρ0 from rfl, h]
  have : (Res.ok [(v, Src.tmp), (x, .plc i p), (y, s)] ρ1).flow (sPut putOf) = .next ρ2 := by
    show sPut putOf [(v, Src.tmp), (x, .plc i p), (y, s)] ρ1 = _
    simp only [sPut, hg, e2]
  rw [this]
  exact hs
def incZ (xs : List Int) (i c : Int) : Option (List Int) := (L2.ixN xs.length i).bind fun j => if decide (0 ≤ i ∧ i < 1000) = true then (xs[j]?).map fun n => xs.set j (n + c) else none
theorem g_linc {xs ys : List Int} {i c : Int} (h : incZ xs i c = some ys) : lincOf (lE false Val.int xs) (.int i) (.int c) = some (lE false Val.int ys) := by
  unfold incZ at h
  obtain ⟨j, hj, h⟩ := Option.bind_eq_some_iff.mp h
  by_cases h0 : decide (0 ≤ i ∧ i < 1000) = true
  case neg => rw [if_neg h0] at h; cases h
  rw [if_pos h0] at h
  obtain ⟨n, hn, rfl⟩ := Option.map_eq_some_iff.mp h
  simp only [lincOf, List.length_map, hj, Option.bind_some, h0, if_true, List.getElem?_map, hn, Option.map_some]
  show some (Val.node _ _) = some (Val.node _ _)
  rw [List.map_set]
theorem sim_linc {c : Int} (h : evs D G (.cons o (.cons q .nil)) ρ0 = .ok [(x, .plc i p), (y, s)] ρ1) (hg : lincOf x y (.int c) = some x') (e2 : putAt ρ1 i p x' = ρ2) (hs : Sim k E m (exs D G N pr b ρ2)) : Sim k E m (exs D G N pr (.cons (.linc c o q) b) ρ0) := by
  have h2 : (argsCons (!(eff q || false)) (ev D G o) (argsCons true (ev D G q) argsNil)) ρ0 = .ok [(x, .plc i p), (y, s)] ρ1 := h
  have : ex D G N pr (.linc c o q) ρ0 = .next ρ2 := by
    rw [ex_linc, h2]
    show sPutC lincOf (.int c) [(x, .plc i p), (y, s)] ρ1 = _
    unfold sPutC
    dsimp only
    rw [hg]
    dsimp only
    rw [e2]
  rw [exs_cons, this]
  exact hs
theorem sim_lput (h : evs D G (.cons e (.cons o (.cons q .nil))) ρ0 = .ok [(v, .tmp), (x, .plc i p), (y, s)] ρ1) (hg : lputOf x y v = some x') (e2 : putAt ρ1 i p x' = ρ2) (hs : Sim k E m (exs D G N pr b ρ2)) : Sim k E m (exs D G N pr (.cons (.lput e o q) b) ρ0) := by
  rw [exs_cons, ex_lput]
  rw [show argsCons (!(eff o || (eff q || false))) (ev D G e) (argsCons (!(eff q || false)) (ev D G o) (argsCons true (ev D G q) argsNil)) ρ0 = evs D G (.cons e (.cons o (.cons q .nil))) ρ0 from rfl, h]
  have : (Res.ok [(v, Src.tmp), (x, .plc i p), (y, s)] ρ1).flow (sPut lputOf) = .next ρ2 := by
    show sPut lputOf [(v, Src.tmp), (x, .plc i p), (y, s)] ρ1 = _
    simp only [sPut, hg, e2]
  rw [this]
  exact hs
theorem forRH_sim {α τ : Type} {E1 : τ → Env → Prop} {hd : Env → Bool} {bd : Val → Env → Option Env} {body : Env → Flow} {enc : α → Val} {f : α → τ → O τ ρ φ} (h1 : ∀ s ρ', E1 s ρ' → hd ρ' = true) (hb : ∀ x s ρ', E1 s ρ' → ∃ ρ2, bd (enc x) ρ' = some ρ2 ∧ Sim k E1 (f x s) (body ρ2)) : ∀ {xs : List α} {s0 : τ} {ρ0 : Env}, E1 s0 ρ0 → Sim k E1 (forO f xs s0) (forRH hd bd body (xs.map enc) ρ0)
  | [], s0, ρ0, h0 => Sim.nx.mpr ⟨ρ0, forRH_nil (h1 _ _ h0), h0⟩
  | x :: xs, s0, ρ0, h0 => by
    obtain ⟨ρ2, e, h⟩ := hb x s0 ρ0 h0
    rw [List.map_cons, forRH_cons (h1 _ _ h0) e]
    exact sim_bind h fun s ρ' q => forRH_sim h1 hb q
theorem sim_forP {α τ : Type} {E1 : τ → Env → Prop} {enc : α → Val} [Pu enc] {xs : List α} {tg : Tg} {j : Nat} {body : Blk} {f : α → τ → O τ ρ φ} {s0 : τ} {kf : τ → O σ ρ φ} (hx : ρ0[j]? = some (some (lE false enc xs))) (ha : (!tg.slots.contains j && free pr tg.slots) = true) (h0 : E1 s0 ρ0) (h1 : ∀ s ρ', E1 s ρ' → ρ'[j]? = some (some (lE false enc xs)))
    (hb : ∀ x s ρ', E1 s ρ' → ∃ ρ2, bindTg tg (enc x) ρ' = some ρ2 ∧ Sim k E1 (f x s) (exs D G N (j :: pr) body ρ2)) (hk : ∀ s ρ', E1 s ρ' → Sim k E (kf s) (exs D G N pr b ρ')) : Sim k E ((forO f xs s0).bind kf) (exs D G N pr (.cons (.forsP tg j body) b) ρ0) := by
  rw [exs_cons, ex_forsP, lstAt_of hx]
  unfold forPK
  dsimp only
  rw [if_pos ha]
  exact sim_bind (forRH_sim (fun s ρ' q => holdsB_of (h1 s ρ' q)) hb h0) hk
theorem sim_nev : Sim k E (.bad : O σ ρ φ) (exs D G N pr (.cons .nev b) ρ0) := Sim.bad
theorem qE_t {z : Bool} {e : α → Val} {p : Bool × List α} (h : p.1 = true) : qE z e p = tE e p.2 := by
  show Val.node (cond p.1 .tup (.lst z)) _ = _
  rw [h]; rfl
theorem qE_l {z : Bool} {e : α → Val} {p : Bool × List α} (h : (!p.1) = true) : qE z e p = lE z e p.2 := by
  have h : p.1 = false := by simpa using h
  show Val.node (cond p.1 .tup (.lst z)) _ = _
  rw [h]; rfl
theorem g_isi_qt {z : Bool} {e : α → Val} (p : Bool × List α) : gIsi "tuple" [qE z e p] = some (.bl p.1) := by
  obtain ⟨b, xs⟩ := p
  cases b <;> rfl
theorem g_isi_ql {z : Bool} {e : α → Val} (p : Bool × List α) : gIsi "list" [qE z e p] = some (.bl (!p.1)) := by
  obtain ⟨b, xs⟩ := p
  cases b <;> rfl
/-! places at indices that are reckoned -/
theorem atK_get {xs : List α} {i : Int} {y : Nat × α} (h : atK xs i = some y) : xs[y.1]? = some y.2 := by
  unfold atK at h
  obtain ⟨k, hk, h⟩ := Option.bind_eq_some_iff.mp h
  obtain ⟨x, hx, rfl⟩ := Option.map_eq_some_iff.mp h
  exact hx
theorem setp_lst {z : Bool} {e : α → Val} {xs : List α} {k : Nat} {x x' : α} {p : List Nat} {u : Val} (hx : xs[k]? = some x) (h : setp (e x) p u = e x') : setp (lE z e xs) (k :: p) u = lE z e (xs.set k x') := by
  show Val.node _ _ = Val.node _ _
  rw [List.getElem?_map, hx, Option.map_some, Option.getD_some, h, List.map_set]
theorem setp_st {t : Tag} {vs : List Val} {k : Nat} {p : List Nat} {v1 v2 u : Val} (h1 : vs[k]? = some v1) (h2 : setp v1 p u = v2) : setp (.node t vs) (k :: p) u = .node t (vs.set k v2) := by
  show Val.node _ _ = Val.node _ _
  rw [h1, Option.getD_some, h2]
theorem putAt_dyn {ρ : Env} {i : Nat} {p : List Nat} {v0 w v1 : Val} (h : ρ[i]? = some (some v0)) (hs : setp v0 p w = v1) : putAt ρ i p w = ρ.set i (some v1) := by
  unfold putAt
  rw [h]
  dsimp only
  rw [hs]
theorem mq_n {ρ : Env} : mPut [] [] [] ρ = ρ := rfl
theorem mq_p {ms : List Bool} {as : List (Val × Src)} {fin : List Val} {ρ ρ' ρ2 : Env} {x v : Val} {i : Nat} {p : List Nat} (h : putAt ρ i p v = ρ') (h2 : mPut ms as fin ρ' = ρ2) : mPut (true :: ms) ((x, .plc i p) :: as) (v :: fin) ρ = ρ2 := by
  show mPut ms as fin (putAt ρ i p v) = ρ2
  rw [h, h2]
theorem mq_t {ms : List Bool} {as : List (Val × Src)} {fin : List Val} {ρ ρ2 : Env} {x v : Val} (h2 : mPut ms as fin ρ = ρ2) : mPut (true :: ms) ((x, .tmp) :: as) (v :: fin) ρ = ρ2 := h2
theorem mq_f {ms : List Bool} {as : List (Val × Src)} {fin : List Val} {ρ ρ2 : Env} {a : Val × Src} {v : Val} (h2 : mPut ms as fin ρ = ρ2) : mPut (false :: ms) (a :: as) (v :: fin) ρ = ρ2 := by
  obtain ⟨x, s⟩ := a
  exact h2
/-! l.index(x), l.count(x) -/
def idxL [DecidableEq α] (xs : List α) (x : α) : Option Nat := xs.findIdx? fun z => decide (z = x)
theorem flats_map {e : α → Val} [Fl e] : ∀ xs : List α, (xs.map e).all flatVal = true
  | [] => rfl
  | x :: xs => by rw [List.map_cons, List.all_cons, Fl.n (e := e), flats_map xs]; rfl
theorem g_index [DecidableEq α] {z : Bool} {e e' : α → Val} {d : α → PyData} [Dt e d] [Dt e' d] [De d] [Fl e] [Fl e'] {xs : List α} {x : α} {j : Nat} (h : idxL xs x = some j) : gQ1 .lindex [lE z e xs, e' x] = some (.int (j : Nat)) := by
  simp only [gQ1, lseqOf, Option.bind_some, Fl.n (e := e'), flats_map xs, Bool.and_self, if_true, Dt.d (e := e') (d := d), toDs_map (Dt.d (e := e) (d := d)), List.findIdx?_map]
  have : ((fun z => PyData.eqv z (d x)) ∘ d) = fun z => decide (z = x) := funext fun z => De.eq (d := d) z x
  rw [this]
  unfold idxL at h
  rw [h]; rfl
theorem g_count [DecidableEq α] {z : Bool} {e e' : α → Val} {d : α → PyData} [Dt e d] [Dt e' d] [De d] [Fl e] [Fl e'] (xs : List α) (x : α) : gQ1 .lcount [lE z e xs, e' x] = some (.int ((xs.countP fun z => decide (z = x) : Nat) : Int)) := by
  simp only [gQ1, lseqOf, Option.bind_some, Fl.n (e := e'), flats_map xs, Bool.and_self, if_true, Dt.d (e := e') (d := d), toDs_map (Dt.d (e := e) (d := d)), List.countP_map]
  have : ((fun z => PyData.eqv z (d x)) ∘ d) = fun z => decide (z = x) := funext fun z => De.eq (d := d) z x
  rw [this]
theorem q1_mid {z : Bool} {xs : List Val} : isLq (.node (.lst z) xs) = true := rfl
end
end VS

/-! instances, typed -/
namespace VS
open PySem L2
section
variable {α β γ : Type}
/-- fields, one behind the other -/
abbrev l0 : Unit → List Val := fun _ => []
abbrev l1 (e : α → Val) : α → List Val := fun x => [e x]
abbrev lc (e : α → Val) (g : β → List Val) : α × β → List Val := fun p => e p.1 :: g p.2
abbrev iE (z : Bool) (c : Nat) (fs : List Str) (g : α → List Val) : α → Val := fun x => .node (.ins z c fs) (g x)
class Lp (g : α → List Val) : Prop where
  p : ∀ x, pures (g x) = true
class Lf (g : α → List Val) (g' : outParam (α → List Val)) : Prop where
  f : ∀ x, freezes (g x) = g' x
class Ln (g : α → List Val) : Prop where
  n : ∀ x, nofzs (g x) = true
instance : Lp l0 := ⟨fun _ => rfl⟩
instance {e : α → Val} [Pu e] : Lp (l1 e) := ⟨fun x => by simp only [pures, Pu.p (e := e)]; rfl⟩
instance {e : α → Val} {g : β → List Val} [Pu e] [Lp g] : Lp (lc e g) := ⟨fun x => by simp only [pures, Pu.p (e := e), Lp.p (g := g)]; rfl⟩
instance : Lf l0 l0 := ⟨fun _ => rfl⟩
instance {e e' : α → Val} [Fz e e'] : Lf (l1 e) (l1 e') := ⟨fun x => by simp only [freezes, Fz.f (e := e) (e' := e')]⟩
instance {e e' : α → Val} {g g' : β → List Val} [Fz e e'] [Lf g g'] : Lf (lc e g) (lc e' g') := ⟨fun x => by simp only [freezes, Fz.f (e := e) (e' := e'), Lf.f (g := g) (g' := g')]⟩
instance : Ln l0 := ⟨fun _ => rfl⟩
instance {e : α → Val} [Nf e] : Ln (l1 e) := ⟨fun x => by simp only [nofzs, Nf.n (e := e)]; rfl⟩
instance {e : α → Val} {g : β → List Val} [Nf e] [Ln g] : Ln (lc e g) := ⟨fun x => by simp only [nofzs, Nf.n (e := e), Ln.n (g := g)]; rfl⟩
instance {c : Nat} {fs : List Str} {g : α → List Val} [Lp g] : Pu (iE true c fs g) := ⟨fun x => by simp only [Val.pure, Tag.own, Lp.p (g := g)]; rfl⟩
instance {z : Bool} {c : Nat} {fs : List Str} {g g' : α → List Val} [Lf g g'] : Fz (iE z c fs g) (iE true c fs g') := ⟨fun x => by simp only [Val.freeze, Tag.fz, Lf.f (g := g) (g' := g')]⟩
instance {c : Nat} {fs : List Str} {g : α → List Val} [Ln g] : Nf (iE false c fs g) := ⟨fun x => by simp only [Val.nofz, Tag.nofz, Tag.own, Ln.n (g := g)]; rfl⟩
instance {z : Bool} {c : Nat} {fs : List Str} {g : α → List Val} : Nn (iE z c fs g) := ⟨fun _ => rfl⟩
end
section
variable {D : Defs} {G : Str → Option Val} {ρ0 ρ ρ1 ρ2 : Env} {e a b o : Ex} {es : Exs} {as : List (Val × Src)} {v w x y x' : Val} {s s' : Src} {i c : Nat} {p : List Nat} {f m : Str} {fs : List Str} {vs : List Val} {z : Bool}
theorem e_fldT (h : ev D G e ρ = .ok (.node (.ins z c fs) vs, s) ρ1) (hi : idxK fs f = some i) (hv : vs[i]? = some v) (hp : v.pure = true) : ev D G (.fld c e f) ρ = .ok (v, .tmp) ρ1 := by
  rw [ev_fld, h, Res.bind_ok]
  simp only [sFld, hi, hv, childSrc, hp, if_true]
theorem e_fldP {q : Nat} (h : ev D G e ρ = .ok (.node (.ins false c fs) vs, .plc q p) ρ1) (hi : idxK fs f = some i) (hv : vs[i]? = some v) (hp : v.pure = false) : ev D G (.fld c e f) ρ = .ok (v, .plc q (p ++ [i])) ρ1 := by
  rw [ev_fld, h, Res.bind_ok]
  simp only [sFld, hi, hv, childSrc, hp, Tag.own, Bool.not_false, Bool.false_eq_true, if_false, if_true]
theorem ins_mid (h : m ∉ fs) : isIns c m (.node (.ins z c fs) vs) = true := by
  simp only [isIns, h, not_false_eq_true, decide_true, Bool.and_self]
theorem e_meth {f : Nat} {ws fin : List Val} (h0 : ev D G o ρ = .ok (x, s) ρ0) (hi : isIns c m x = true) (h : evs D G (.cons o es) ρ = .ok as ρ1) (hm : (D.modes f).any id = false) (hz : freezes (as.map (·.1)) = ws) (hr : D.run f ws = .ok v fin) (hp : (pures (as.map (·.1)) || v.nofz) = true) : ev D G (.meth f c m o es) ρ = .ok (v, .tmp) ρ1 := by
  rw [ev_meth, mid_at h0 hi h, Res.bind_ok, sCall_ap D f as ρ1 hm, hz, hr]
  unfold callK
  dsimp only
  rw [if_pos hp]
theorem e_methM {f : Nat} {ms : List Bool} {ws fin : List Val} (h0 : ev D G o ρ = .ok (x, s) ρ0) (hi : isIns c m x = true) (h : evs D G (.cons o es) ρ = .ok as ρ1) (hm : D.modes f = ms) (h1 : (nodupB (mSlots ms as) && mArgs (mSlots ms as) ms as) = true) (h2 : mVals ms as = ws) (hr : D.run f ws = .ok v fin) (h3 : (mPure ms as || (v.nofz && mKeep ms as fin)) = true) (h4 : mPut ms as fin ρ1 = ρ2) :
    ev D G (.methM f c m o es) ρ = .ok (v, .tmp) ρ2 := by
  rw [ev_methM, mid_at h0 hi h, Res.bind_ok, sCallM_ap, hm, if_pos h1, h2, hr]
  unfold callMK
  dsimp only
  rw [if_pos h3, h4]
theorem mk_nil : mKeep [] [] [] = true := rfl
theorem mk_t {ms : List Bool} {u : Val × Src} {fin : List Val} (h : v.nofz = true) (hs : mKeep ms as fin = true) : mKeep (true :: ms) (u :: as) (v :: fin) = true := by simp only [mKeep, h, hs, Bool.and_self]
theorem mk_f {ms : List Bool} {u : Val × Src} {fin : List Val} (hs : mKeep ms as fin = true) : mKeep (false :: ms) (u :: as) (v :: fin) = true := hs
theorem e_make {f : Nat} {ms : List Bool} {ws fin : List Val} (h : evs D G es ρ = .ok as ρ1) (hm : D.modes f = true :: ms) (h1 : (!ms.any id && allTmp as && pures (as.map (·.1)) && decide (ms.length = as.length)) = true) (h2 : as.map (·.1) = ws) (hr : D.run f (.node (.ins false c []) [] :: ws) = .ok .non (v :: fin)) : ev D G (.make c f es) ρ = .ok (v, .tmp) ρ1 := by
  rw [ev_make, h, Res.bind_ok]
  unfold sMake
  rw [hm]
  dsimp only
  rw [if_pos h1, h2, hr]
end
section
variable {σ ρ φ : Type} {k : RK ρ φ} {E : σ → Env → Prop} {m : O σ ρ φ} {D : Defs} {G : Str → Option Val} {N : Nat} {pr : List Nat} {ρ0 ρ1 ρ2 : Env} {e o q : Ex} {b : Blk} {v x y x' : Val} {s : Src} {i c : Nat} {p : List Nat} {f : Str}
theorem sim_fput {fs fs' : List Str} {vs vs' : List Val} (h : evs D G (.cons e (.cons o .nil)) ρ0 = .ok [(v, .tmp), (.node (.ins false c fs) vs, .plc i p)] ρ1) (hl : decide (vs.length < 1000) = true) (hk : putKs fs f = fs') (hv : putVs fs vs f v = vs') (e2 : putAt ρ1 i p (.node (.ins false c fs') vs') = ρ2) (hs : Sim k E m (exs D G N pr b ρ2)) : Sim k E m (exs D G N pr (.cons (.fput c f e o) b) ρ0) := by
  rw [exs_cons, ex_fput]
  rw [show argsCons (!(eff o || false)) (ev D G e) (argsCons true (ev D G o) argsNil) ρ0 = evs D G (.cons e (.cons o .nil)) ρ0 from rfl, h]
  have : (Res.ok [(v, Src.tmp), (.node (.ins false c fs) vs, .plc i p)] ρ1).flow (sFput c f) = .next ρ2 := by
    show sFput c f [(v, Src.tmp), (.node (.ins false c fs) vs, .plc i p)] ρ1 = _
    simp only [sFput, fputOf, hl, decide_true, Bool.and_self, if_true, hk, hv, e2]
  rw [this]
  exact hs
theorem putvs_at {α : Type} {fs : List Str} {vs vs' : List α} {f : Str} {v : α} {i : Option Nat} (e : (match i with
    | some j => vs.set j v
    | none => vs ++ [v]) = vs') (h : idxK fs f = i) : putVs fs vs f v = vs' := by
  unfold putVs
  rw [h]
  exact e
theorem gg_int {gl : List (Str × Int)} {x : Str} {i : Int} (h : gl.lookup x = some i) : (fun y => (gl.lookup y).map Val.int) x = some (.int i) := by
  dsimp only
  rw [h]; rfl
theorem lookup_in {α : Type} : ∀ {gl : List (Str × α)} {x : Str} {i : α}, gl.lookup x = some i → (x, i) ∈ gl
  | (y, j) :: gl, x, i, h => by
    simp only [List.lookup] at h
    cases e : x == y with
    | true =>
      rw [e] at h
      cases h
      rw [eq_of_beq e]
      exact List.mem_cons_self
    | false =>
      rw [e] at h
      exact List.mem_cons_of_mem _ (lookup_in h)
/-- what the text's globals are: whole numbers, tuples of texts -/
def GGof (gl : List (Str × Int)) (gt : List (Str × List Str)) : Str → Option Val := fun y => match gl.lookup y with
  | some i => some (.int i)
  | none => (gt.lookup y).map gtV
theorem gk_int {gl : List (Str × Int)} {gt : List (Str × List Str)} {x : Str} {i : Int} (h : gl.lookup x = some i) : GGof gl gt x = some (.int i) := by unfold GGof; rw [h]
theorem gk_tup {gl : List (Str × Int)} {gt : List (Str × List Str)} {x : Str} {ys : List Str} (h : gl.lookup x = none) (h2 : gt.lookup x = some ys) : GGof gl gt x = some (kE Val.str ys) := by unfold GGof; rw [h, h2]; rfl
theorem glo_ints {fa : List He.Fa} {fn : List He.DefD} {K : PySem.W.Frag} {h : Heap} {mg : Str → Option Value} {Cl : Nat → Addr} (gl : List (Str × Int)) (hfa : ∀ p ∈ gl, He.Fa.int p.1 p.2 ∈ fa) (kin : K.In h) (gn : h.Ns mainGlobals mg) (c : He.SaysD fa fn K) :
    ∀ y v, (fun y => (gl.lookup y).map Val.int) y = some v → ∃ u U, mg y = some u ∧ RelV U u ∧ ∀ P H, R K Cl P H v U emp := by
  intro y v e
  obtain ⟨i, hi, rfl⟩ := Option.map_eq_some_iff.mp e
  obtain ⟨j, hj⟩ := List.mem_iff_getElem?.mp (hfa _ (lookup_in hi))
  obtain ⟨t, ht⟩ := He.int_ok kin gn (c.fact j hj)
  exact ⟨_, .int i, ht, ⟨t, rfl⟩, fun P H => ⟨rfl, rfl⟩⟩
theorem glo_all {fa : List He.Fa} {fn : List He.DefD} {K : PySem.W.Frag} {h : Heap} {mg : Str → Option Value} {Cl : Nat → Addr} {xt : XcT} (gl : List (Str × Int)) (hfa : ∀ p ∈ gl, He.Fa.int p.1 p.2 ∈ fa) (kin : K.In h) (gn : h.Ns mainGlobals mg) (c : He.SaysD fa fn K) (cx : exB xt K = true) :
    ∀ y v, GGof gl xt.gts y = some v → ∃ u U, mg y = some u ∧ RelV U u ∧ ∀ P H, R K Cl P H v U emp := by
  intro y v e
  unfold GGof at e
  cases hl : gl.lookup y with
  | some i =>
    rw [hl] at e
    cases e
    exact glo_ints gl hfa kin gn c y _ (by show (gl.lookup y).map Val.int = _; rw [hl]; rfl)
  | none =>
    rw [hl] at e
    obtain ⟨ys, hy, rfl⟩ := Option.map_eq_some_iff.mp e
    have hb : gtB K (y, ys) = true := by
      unfold exB at cx
      simp only [Bool.and_eq_true, List.all_eq_true] at cx
      exact cx.1 _ (lookup_in hy)
    exact gt_ok kin gn hb
end
end VS

/-! exceptions, typed -/
namespace VS
open PySem L2
section
variable {σ τ ρ φ ρ' φ' α β : Type} {k : RK ρ φ} {E : σ → Env → Prop} {E1 : τ → Env → Prop} {m : O σ ρ φ} {fl : Flow} {D : Defs} {G : Str → Option Val} {N : Nat} {pr : List Nat} {ρ0 ρ1 ρ2 : Env} {b : Blk} {e : Ex} {v : Val} {x : Xc} {j i : Nat} {tb : List (List Bool)}
theorem ex_rais (c : Nat) : ex D G N pr (.rais c) ρ0 = .exc ⟨c, none⟩ ρ0 := rfl
theorem ex_tryk (B : Blk) : ex D G N pr (.tryk B j i tb) ρ0 = tryK pr j i tb (exs D G N pr B ρ0) := rfl
theorem sim_rais {c : Nat} {f : φ} (hf : fins k.ms k.as ρ0 = some (k.eF f)) : Sim k E (.ex ⟨c, none⟩ f) (exs D G N pr (.cons (.rais c) b) ρ0) := by
  rw [exs_cons, ex_rais]
  exact Sim.ex.mpr ⟨ρ0, rfl, .of hf⟩
theorem sim_raisI {c : Nat} {f : φ} {r : List Val} (hf : fins k.ms k.as ρ0 = some r) (hx : k.xf = false) : Sim k E (.ex ⟨c, none⟩ f) (exs D G N pr (.cons (.rais c) b) ρ0) := by
  rw [exs_cons, ex_rais]
  exact Sim.ex.mpr ⟨ρ0, rfl, r, hf, fun z => by rw [hx] at z; cases z⟩
/-- an expression raises: so does its statement -/
theorem xs_expr (h : ev D G e ρ0 = .exc x ρ1) : exs D G N pr (.cons (.expr e) b) ρ0 = .exc x ρ1 := by
  rw [exs_cons, ex_expr, h]; rfl
theorem xs_set {q : Nat} (h : ev D G e ρ0 = .exc x ρ1) : exs D G N pr (.cons (.set q e) b) ρ0 = .exc x ρ1 := by
  rw [exs_cons, ex_set, h]; rfl
theorem xs_ret (h : ev D G e ρ0 = .exc x ρ1) : exs D G N pr (.cons (.ret e) b) ρ0 = .exc x ρ1 := by
  rw [exs_cons, ex_ret, h]; rfl
theorem sim_x {f : φ} (h : fl = .exc x ρ1) (hf : fins k.ms k.as ρ1 = some (k.eF f)) : Sim k E (.ex x f) fl := Sim.ex.mpr ⟨ρ1, h, .of hf⟩
/-- try, and what follows -/
theorem sim_try {B : Blk} {m1 : O τ ρ φ} {kf : τ → O σ ρ φ} (h1 : Sim k E1 m1 (tryK pr j i tb (exs D G N pr B ρ0))) (h2 : ∀ s ρ', E1 s ρ' → Sim k E (kf s) (exs D G N pr b ρ')) : Sim k E (m1.bind kf) (exs D G N pr (.cons (.tryk B j i tb) b) ρ0) := by
  rw [exs_cons, ex_tryk]
  exact sim_bind h1 h2
theorem sim_tryIf {t : Bool} {s : Src} {A B : Blk} {m1 m2 : O σ ρ φ} (hc : ev D G e ρ0 = .ok (.bl t, s) ρ1) (h1 : t = true → Sim k E m1 (tryK pr j i tb (exs D G N pr A ρ1))) (h2 : t = false → Sim k E m2 (tryK pr j i tb (exs D G N pr B ρ1))) :
    Sim k E (if t = true then m1 else m2) (tryK pr j i tb (exs D G N pr (.cons (.ifs e A B) .nil) ρ0)) := by
  rw [exs_cons, seqK_nil, ex_ifs_at hc]
  cases t with
  | true => exact h1 rfl
  | false => exact h2 rfl
/-- the body comes to its end -/
theorem sim_tryN {s : σ} (h : Sim k E (.nx s) fl) : Sim k E (.nx s) (tryK pr j i tb fl) := by
  obtain ⟨ρ', rfl, q⟩ := Sim.nx.mp h
  exact Sim.nx.mpr ⟨ρ', rfl, q⟩
/-- the body raises: what its suite sets -/
theorem sim_tryE {kf : List Bool → O σ ρ φ} (he : fl = .exc x ρ1) (hi : (decide (i < ρ1.length ∧ j < ρ1.length ∧ i ≠ j) && free pr [i, j]) = true) (h : ∀ bs, Sim k E (kf bs) (.next ((ρ1.set j none).set i (some (lE false Val.bl bs))))) :
    Sim k E (gd x.slot.isNone (un tb[x.c]? kf)) (tryK pr j i tb fl) := by
  subst he
  refine sim_gd fun hs => sim_un fun bs hb => ?_
  have : tryK pr j i tb (.exc x ρ1) = .next ((ρ1.set j none).set i (some (lE false Val.bl bs))) := by
    simp only [Bool.and_eq_true] at hi
    simp only [tryK, hs, hi.1, hi.2, Bool.and_self, if_true, hb]
  rw [this]
  exact h bs
theorem x_meth {f c : Nat} {nm : Str} {o : Ex} {es : Exs} {w : Val} {s : Src} {as : List (Val × Src)} {ws fin : List Val} (h0 : ev D G o ρ0 = .ok (w, s) ρ2) (hi : isIns c nm w = true) (h : evs D G (.cons o es) ρ0 = .ok as ρ1) (hm : (D.modes f).any id = false) (hz : freezes (as.map (·.1)) = ws) (hr : D.run f ws = .exc x fin) : ev D G (.meth f c nm o es) ρ0 = .exc x ρ1 := by
  rw [ev_meth, mid_at h0 hi h, Res.bind_ok, sCall_ap D f as ρ1 hm, hz, hr]
  rfl
theorem x_methM {f c : Nat} {nm : Str} {o : Ex} {es : Exs} {w : Val} {s : Src} {ms : List Bool} {as : List (Val × Src)} {ws fin : List Val} {ρ3 : Env} (h0 : ev D G o ρ0 = .ok (w, s) ρ3) (hi : isIns c nm w = true) (h : evs D G (.cons o es) ρ0 = .ok as ρ1) (hm : D.modes f = ms) (h1 : (nodupB (mSlots ms as) && mArgs (mSlots ms as) ms as) = true) (h2 : mVals ms as = ws) (hr : D.run f ws = .exc x fin) (h3 : (mPure ms as || mKeep ms as fin) = true) (h4 : mPut ms as fin ρ1 = ρ2) :
    ev D G (.methM f c nm o es) ρ0 = .exc x ρ2 := by
  rw [ev_methM, mid_at h0 hi h, Res.bind_ok, sCallM_ap, hm, if_pos h1, h2, hr]
  unfold callMK
  dsimp only
  rw [if_pos h3, h4]
/-! an exception passes the expressions around it -/
theorem xa_head {es : Exs} (h : ev D G e ρ0 = .exc x ρ1) : evs D G (.cons e es) ρ0 = .exc x ρ1 := by
  rw [evs_cons, argsCons_ap, h]; rfl
theorem xa_tail {es : Exs} {a : Val × Src} (h : ev D G e ρ0 = .ok a ρ1) (hs : okSrc a.2 (!effs es) = true) (h2 : evs D G es ρ1 = .exc x ρ2) : evs D G (.cons e es) ρ0 = .exc x ρ2 := by
  rw [evs_cons, argsCons_ap, h, Res.bind_ok]
  unfold acK
  rw [if_pos hs, h2]; rfl
theorem x_bin (op : Bin) {a c : Ex} (h : evs D G (.cons a (.cons c .nil)) ρ0 = .exc x ρ1) : ev D G (.bin op a c) ρ0 = .exc x ρ1 := by
  rw [ev_bin]
  show (evs D G (.cons a (.cons c .nil)) ρ0).bind (primK (gBin op)) = _
  rw [h]; rfl
theorem x_cmp (op : Cmp) {a c : Ex} (h : evs D G (.cons a (.cons c .nil)) ρ0 = .exc x ρ1) : ev D G (.cmp op a c) ρ0 = .exc x ρ1 := by
  rw [ev_cmp]
  show (evs D G (.cons a (.cons c .nil)) ρ0).bind (primK (gCmpo op)) = _
  rw [h]; rfl
theorem x_ix {a c : Ex} (h : evs D G (.cons a (.cons c .nil)) ρ0 = .exc x ρ1) : ev D G (.ix a c) ρ0 = .exc x ρ1 := by
  rw [ev_ix]
  show (evs D G (.cons a (.cons c .nil)) ρ0).bind (sIx) = _
  rw [h]; rfl
theorem x_ixd {a c : Ex} (h : evs D G (.cons a (.cons c .nil)) ρ0 = .exc x ρ1) : ev D G (.ixd a c) ρ0 = .exc x ρ1 := by
  rw [ev_ixd]
  show (evs D G (.cons a (.cons c .nil)) ρ0).bind (sDx) = _
  rw [h]; rfl
theorem x_bi (f : Bi) {es : Exs} (h : evs D G es ρ0 = .exc x ρ1) : ev D G (.bi f es) ρ0 = .exc x ρ1 := by
  rw [ev_bi, h]; rfl
theorem x_tup {es : Exs} (h : evs D G es ρ0 = .exc x ρ1) : ev D G (.tup es) ρ0 = .exc x ρ1 := by
  rw [ev_tup, h]; rfl
theorem x_lst {es : Exs} (h : evs D G es ρ0 = .exc x ρ1) : ev D G (.lst es) ρ0 = .exc x ρ1 := by
  rw [ev_lst, h]; rfl
theorem x_callA (f : Nat) {es : Exs} (h : evs D G es ρ0 = .exc x ρ1) : ev D G (.call f es) ρ0 = .exc x ρ1 := by
  rw [ev_call, h]; rfl
theorem x_callMA (f : Nat) {es : Exs} (h : evs D G es ρ0 = .exc x ρ1) : ev D G (.callM f es) ρ0 = .exc x ρ1 := by
  rw [ev_callM, h]; rfl
theorem x_makeA (c f : Nat) {es : Exs} (h : evs D G es ρ0 = .exc x ρ1) : ev D G (.make c f es) ρ0 = .exc x ρ1 := by
  rw [ev_make, h]; rfl
theorem x_not (h : ev D G e ρ0 = .exc x ρ1) : ev D G (.not e) ρ0 = .exc x ρ1 := by
  rw [ev_not, h]; rfl
theorem x_and {c : Ex} (h : ev D G e ρ0 = .exc x ρ1) : ev D G (.and e c) ρ0 = .exc x ρ1 := by
  rw [ev_and, h]; rfl
theorem x_or {c : Ex} (h : ev D G e ρ0 = .exc x ρ1) : ev D G (.or e c) ρ0 = .exc x ρ1 := by
  rw [ev_or, h]; rfl
theorem x_fld {c : Nat} {f : Str} (h : ev D G e ρ0 = .exc x ρ1) : ev D G (.fld c e f) ρ0 = .exc x ρ1 := by
  rw [ev_fld, h]; rfl
theorem x_own (h : ev D G e ρ0 = .exc x ρ1) : ev D G (.own e) ρ0 = .exc x ρ1 := by
  rw [ev_own, h]; rfl
theorem x_make {c f : Nat} {es : Exs} {ms : List Bool} {as : List (Val × Src)} {ws fin : List Val} (h : evs D G es ρ0 = .ok as ρ1) (hm : D.modes f = true :: ms) (h1 : (!ms.any id && allTmp as && pures (as.map (·.1)) && decide (ms.length = as.length)) = true) (h2 : as.map (·.1) = ws) (hr : D.run f (.node (.ins false c []) [] :: ws) = .exc x fin) : ev D G (.make c f es) ρ0 = .exc x ρ1 := by
  rw [ev_make, h, Res.bind_ok]
  unfold sMake
  rw [hm]
  dsimp only
  rw [if_pos h1, h2, hr]
theorem x_ddis {es : Exs} (h : evs D G es ρ0 = .exc x ρ1) : ev D G (.ddis es) ρ0 = .exc x ρ1 := by
  rw [ev_ddis, h]; rfl
theorem sim_xI {f : φ} {r : List Val} (h : fl = .exc x ρ1) (hf : fins k.ms k.as ρ1 = some r) (hx : k.xf = false) : Sim k E (.ex x f) fl := Sim.ex.mpr ⟨ρ1, h, r, hf, fun z => by rw [hx] at z; cases z⟩
theorem fsimI_val {eR : ρ' → Val} {eF : φ' → List Val} {m : FO ρ' φ'} {r0 : FRes} {r : ρ'} (hF : FSimI eR eF m r0) (h : m.val = some r) : ∃ f, r0 = .ok (eR r) (eF f) := by
  cases m with
  | ok r' f => cases h; exact ⟨f, FSimI.ok.mp hF⟩
  | ex x f => cases h
  | bad => cases h
/-- a name known not to be None -/
theorem sim_env (e : ρ0 = ρ1) (h : Sim k E m (exs D G N pr b ρ1)) : Sim k E m (exs D G N pr b ρ0) := by rw [e]; exact h
end
end VS

/-! typed runs: loops, checks -/
namespace VS
open PySem L2
section
variable {σ τ ρ φ ρ' φ' α β : Type}
theorem lineB_of {n : Nat} (h : n ≤ 16777216) : lineB n = true := decide_eq_true h
theorem ltB_of {n : Nat} (h : n < 16777216) : ltB n = true := decide_eq_true h
theorem rgB_of {j : Int} (h : j < 4611686018427387904 ∧ -4611686018427387904 ≤ j) : rgB j = true := decide_eq_true h
theorem posB_of {j : Int} (h : 0 < j) : posB j = true := decide_eq_true h
theorem dvB_of {j : Int} (h : 0 < j ∧ j < 1073741824) : dvB j = true := decide_eq_true h
theorem O.bind_assoc {θ : Type} (m : O σ ρ φ) (f : σ → O τ ρ φ) (g : τ → O θ ρ φ) : (m.bind f).bind g = m.bind fun x => (f x).bind g := by cases m <;> rfl
theorem letO_eq (v : α) (k : α → O σ ρ φ) : letO v k = k v := rfl
theorem gd_t (m : O σ ρ φ) : gd true m = m := rfl
theorem gdo_t (m : Option α) : gdo true m = m := rfl
theorem ifE_t (s : τ) (m1 m2 : τ → O σ ρ φ) : ifE (true, s) m1 m2 = m1 s := rfl
theorem ifE_f (s : τ) (m1 m2 : τ → O σ ρ φ) : ifE (false, s) m1 m2 = m2 s := rfl
theorem val_ok (r : ρ) (f : φ) : (FO.ok r f : FO ρ φ).val = some r := rfl
theorem forO_ind (P : O σ ρ φ → Prop) (I : List α → σ → Prop) {f : α → σ → O σ ρ φ} (hs : ∀ x xs s, I (x :: xs) s → (∃ s', f x s = .nx s' ∧ I xs s') ∨ (∃ r y, f x s = .rt r y ∧ P (.rt r y))) (he : ∀ s, I [] s → P (.nx s)) : ∀ {xs : List α} {s : σ}, I xs s → P (forO f xs s)
  | [], s, h => he s h
  | x :: xs, s, h => by
    rw [forO_cons]
    rcases hs x xs s h with ⟨s', e, h2⟩ | ⟨r, y, e, h2⟩
    · rw [e]
      exact forO_ind P I hs he h2
    · rw [e]
      exact h2
/-- a loop that goes to its end -/
theorem forO_nx (I : List α → σ → Prop) {f : α → σ → O σ ρ φ} (hs : ∀ x xs s, I (x :: xs) s → ∃ s', f x s = .nx s' ∧ I xs s') {xs : List α} {s : σ} (h : I xs s) : ∃ s', forO f xs s = .nx s' ∧ I [] s' :=
  forO_ind (fun o => ∃ s', o = .nx s' ∧ I [] s') I (fun x xs s h => .inl (hs x xs s h)) (fun s h => ⟨s, rfl, h⟩) h
theorem whileO_ind (P : O σ ρ φ → Prop) (I : σ → Prop) (μ : σ → Nat) {c : σ → O (Bool × σ) ρ φ} {f : σ → O σ ρ φ} (hs : ∀ s, I s → (∃ s', c s = .nx (false, s') ∧ P (.nx s')) ∨ (∃ s', c s = .nx (true, s') ∧ ((∃ s'', f s' = .nx s'' ∧ I s'' ∧ μ s'' < μ s) ∨ (∃ r x, f s' = .rt r x ∧ P (.rt r x))))) : ∀ {n : Nat} {s : σ}, I s → μ s < n → P (whileO c f n s)
  | 0, s, _, h => by omega
  | n + 1, s, h, hn => by
    unfold whileO
    rcases hs s h with ⟨s', e, p⟩ | ⟨s', e, h2⟩
    · rw [e]
      exact p
    · rw [e]
      show P ((f s').bind (whileO c f n))
      rcases h2 with ⟨s'', e2, i2, m2⟩ | ⟨r, x, e2, p⟩
      · rw [e2]
        exact whileO_ind P I μ hs i2 (by omega)
      · rw [e2]
        exact p
theorem whileO_go {c : σ → O (Bool × σ) ρ φ} {f : σ → O σ ρ φ} {n : Nat} {s s' : σ} (h : c s = .nx (true, s')) : whileO c f (n + 1) s = (f s').bind (whileO c f n) := by
  show (c s).bind _ = _
  rw [h]
  rfl
theorem whileO_end {c : σ → O (Bool × σ) ρ φ} {f : σ → O σ ρ φ} {n : Nat} {s s' : σ} (h : c s = .nx (false, s')) : whileO c f (n + 1) s = .nx s' := by
  show (c s).bind _ = _
  rw [h]
  rfl
theorem forO_foldl {f : α → σ → O σ ρ φ} {g : σ → α → σ} : ∀ {xs : List α} {s : σ}, (∀ x ∈ xs, ∀ s, f x s = .nx (g s x)) → forO f xs s = .nx (xs.foldl g s)
  | [], s, _ => rfl
  | x :: xs, s, h => by
    rw [forO_cons, h x List.mem_cons_self s]
    exact forO_foldl fun y hy => h y (List.mem_cons_of_mem _ hy)
theorem cmpO_some {t : α → Option Bool} {f : α → Option β} {p : α → Bool} {g : α → β} : ∀ {xs : List α}, (∀ x ∈ xs, t x = some (p x)) → (∀ x ∈ xs, p x = true → f x = some (g x)) → cmpO t f xs = some ((xs.filter p).map g)
  | [], _, _ => rfl
  | x :: xs, h1, h2 => by
    have ih := cmpO_some (xs := xs) (fun y hy => h1 y (List.mem_cons_of_mem _ hy)) (fun y hy => h2 y (List.mem_cons_of_mem _ hy))
    simp only [cmpO, h1 x List.mem_cons_self, Option.bind_some, List.filter_cons]
    cases hp : p x with
    | true => simp only [if_true, h2 x List.mem_cons_self hp, Option.bind_some, ih, Option.map_some, List.map_cons]
    | false => simp only [Bool.false_eq_true, if_false, ih]
theorem popZ_nil : popZ ([] : List α) = none := rfl
theorem popZ_snoc (xs : List α) (x : α) : popZ (xs ++ [x]) = some (x, xs) := by
  simp [popZ]
theorem ixN_of {n k : Nat} (h : k < n) : L2.ixN n (k : Int) = some k := by
  unfold L2.ixN
  rw [if_pos (by omega), if_pos (by omega)]
  rfl
theorem atZ_nat {xs : List α} {k : Nat} {x : α} (h : xs[k]? = some x) : atZ xs (k : Int) = some x := by
  have hk := (List.getElem?_eq_some_iff.mp h).1
  unfold atZ
  rw [ixN_of hk]
  exact h
theorem atZ_int {xs : List α} {i : Int} (h : 0 ≤ i ∧ i < xs.length) : ∃ x ∈ xs, atZ xs i = some x := by
  obtain ⟨k, rfl⟩ : ∃ k : Nat, i = (k : Int) := ⟨i.toNat, by omega⟩
  have hk : k < xs.length := by omega
  exact ⟨xs[k], List.getElem_mem hk, atZ_nat (List.getElem?_eq_getElem hk)⟩
/-- sums of what is done and of what it comes to -/
def FO.isOk (m : FO ρ φ) (p : ρ → Bool) : Bool := match m with
  | .ok r _ => p r
  | _ => false
theorem FO.isOk_iff {p : ρ → Bool} {m : FO ρ φ} (h : m.isOk p = true) : ∃ r f, m = .ok r f ∧ p r = true := by
  cases m with
  | ok r f => exact ⟨r, f, rfl, h⟩
  | _ => cases h
theorem len_cutL_le (xs : List α) (o : Option Int) : (cutL xs none o).length ≤ xs.length := by
  unfold cutL
  rw [List.length_take, List.length_drop]
  omega
theorem ivals_at : ∀ (n : Nat) (lo : Int) (i : Nat), (ivals lo n)[i]? = if i < n then some (lo + (i : Int)) else none
  | 0, lo, i => by simp [ivals]
  | n + 1, lo, 0 => by simp [ivals]
  | n + 1, lo, i + 1 => by
    simp only [ivals, List.getElem?_cons_succ, ivals_at n (lo + 1) i]
    by_cases h : i < n
    · rw [if_pos h, if_pos (by omega)]
      congr 1
      omega
    · rw [if_neg h, if_neg (by omega)]
end
end VS

/-! typed runs, by what they ask -/
namespace VS
open PySem L2
section
variable {σ τ ρ φ ρ' φ' α β : Type}
@[irreducible] def Wp (m : O σ ρ φ) (N : σ → Prop) (R : ρ → φ → Prop) (X : Xc → φ → Prop) : Prop := match m with
  | .nx s => N s
  | .rt r f => R r f
  | .ex x f => X x f
  | .bad => False
@[irreducible] def FWp (m : FO ρ φ) (R : ρ → φ → Prop) (X : Xc → φ → Prop) : Prop := match m with
  | .ok r f => R r f
  | .ex x f => X x f
  | .bad => False
def NoX : Xc → φ → Prop := fun _ _ => False
def NoN : σ → Prop := fun _ => False
variable {m : O σ ρ φ} {N : σ → Prop} {R R' : ρ → φ → Prop} {X X' : Xc → φ → Prop}
theorem wp_nx {s : σ} (h : N s) : Wp (.nx s) N R X := by unfold Wp; exact h
theorem wp_rt {r : ρ} {f : φ} (h : R r f) : Wp (.rt r f) N R X := by unfold Wp; exact h
theorem wp_ex {x : Xc} {f : φ} (h : X x f) : Wp (.ex x f) N R X := by unfold Wp; exact h
theorem wp_nx_inv {s : σ} (h : Wp (.nx s) N R X) : N s := by unfold Wp at h; exact h
theorem wp_rt_inv {r : ρ} {f : φ} (h : Wp (.rt r f) N R X) : R r f := by unfold Wp at h; exact h
theorem wp_ex_inv {x : Xc} {f : φ} (h : Wp (.ex x f) N R X) : X x f := by unfold Wp at h; exact h
theorem wp_bad_inv (h : Wp .bad N R X) : False := by unfold Wp at h; exact h
theorem fw_ok {r : ρ} {f : φ} (h : R r f) : FWp (.ok r f) R X := by unfold FWp; exact h
theorem fw_inv {m : FO ρ φ} (h : FWp m R NoX) : ∃ r f, m = .ok r f ∧ R r f := by
  unfold FWp at h
  cases m with
  | ok r f => exact ⟨r, f, rfl, h⟩
  | ex x f => exact h.elim
  | bad => exact h.elim
theorem fw_of {m : FO ρ φ} (h : ∃ r f, m = .ok r f ∧ R r f) : FWp m R X := by
  obtain ⟨r, f, rfl, h⟩ := h
  exact fw_ok h
theorem fw_of1 {m : FO ρ Unit} {r : ρ} {R : ρ → Unit → Prop} {X : Xc → Unit → Prop} (e : m = .ok r ()) (h : R r ()) : FWp m R X := by
  subst e
  exact fw_ok h
theorem wp_mono {N' : σ → Prop} (h : Wp m N R X) (hn : ∀ s, N s → N' s) (hr : ∀ r f, R r f → R' r f) (hx : ∀ x f, X x f → X' x f) : Wp m N' R' X' := by
  unfold Wp at h ⊢
  cases m with
  | nx s => exact hn s h
  | rt r f => exact hr r f h
  | ex x f => exact hx x f h
  | bad => exact h
theorem fw_mono {m : FO ρ φ} (h : FWp m R X) (hr : ∀ r f, R r f → R' r f) (hx : ∀ x f, X x f → X' x f) : FWp m R' X' := by
  unfold FWp at h ⊢
  cases m with
  | ok r f => exact hr r f h
  | ex x f => exact hx x f h
  | bad => exact h
theorem fw_eq {m : FO ρ φ} (h : FWp m R NoX) (hr : ∀ r f, R r f → R' r f) : FWp m R' X := fw_mono h hr fun _ _ z => z.elim
theorem wp_bind {m : O τ ρ φ} {k : τ → O σ ρ φ} (h : Wp m (fun s => Wp (k s) N R X) R X) : Wp (m.bind k) N R X := by
  cases m with
  | nx s => exact wp_nx_inv (N := fun s => Wp (k s) N R X) h
  | rt r f => exact wp_rt (wp_rt_inv h)
  | ex x f => exact wp_ex (wp_ex_inv h)
  | bad => exact (wp_bad_inv h).elim
/-- the part ahead of a bind, by what it leaves -/
theorem wp_bindI {m : O τ ρ φ} {k : τ → O σ ρ φ} (I : τ → Prop) (h : Wp m I R X) (h2 : ∀ s, I s → Wp (k s) N R X) : Wp (m.bind k) N R X :=
  wp_bind (wp_mono h h2 (fun _ _ z => z) fun _ _ z => z)
theorem wp_gd {c : Bool} (hc : c = true) (h : Wp m N R X) : Wp (gd c m) N R X := by rw [gd_pos _ hc]; exact h
theorem wp_un {o : Option α} {k : α → O σ ρ φ} {x : α} (e : o = some x) (h : Wp (k x) N R X) : Wp (un o k) N R X := by subst e; exact h
theorem wp_unE {o : Option α} {k : α → O σ ρ φ} (h : ∃ x, o = some x ∧ Wp (k x) N R X) : Wp (un o k) N R X := by
  obtain ⟨x, rfl, h⟩ := h
  exact h
theorem wp_let {v : α} {k : α → O σ ρ φ} (h : Wp (k v) N R X) : Wp (letO v k) N R X := h
theorem wp_letE {v : α} {k : α → O σ ρ φ} (h : ∀ x, x = v → Wp (k x) N R X) : Wp (letO v k) N R X := h v rfl
theorem wp_if {c : Bool} {a b : O σ ρ φ} (h1 : c = true → Wp a N R X) (h2 : c = false → Wp b N R X) : Wp (if c = true then a else b) N R X := by
  cases c with
  | true => exact h1 rfl
  | false => exact h2 rfl
theorem wp_ifT {c : Bool} {a b : O σ ρ φ} (hc : c = true) (h1 : Wp a N R X) : Wp (if c = true then a else b) N R X := by
  subst hc
  exact h1
theorem wp_ifF {c : Bool} {a b : O σ ρ φ} (hc : c = false) (h1 : Wp b N R X) : Wp (if c = true then a else b) N R X := by
  subst hc
  exact h1
theorem wp_ifE {t : Bool × τ} {a b : τ → O σ ρ φ} (h1 : t.1 = true → Wp (a t.2) N R X) (h2 : t.1 = false → Wp (b t.2) N R X) : Wp (ifE t a b) N R X := by
  unfold ifE
  exact wp_if h1 h2
theorem wp_cl1 {m : FO ρ' φ'} {k : ρ' → φ' → O σ ρ φ} {P : ρ' → φ' → Prop} (hm : FWp m P NoX) (h : ∀ r f, P r f → Wp (k r f) N R X) : Wp (m.cl1 k) N R X := by
  obtain ⟨r, f, rfl, p⟩ := fw_inv hm
  exact h r f p
theorem wp_cl1e {m : FO ρ' φ'} {k : ρ' → φ' → O σ ρ φ} {r : ρ'} {f : φ'} (e : m = .ok r f) (h : Wp (k r f) N R X) : Wp (m.cl1 k) N R X := by
  subst e
  exact h
theorem wp_cl {m : FO ρ' φ'} {k : ρ' → φ' → O σ ρ φ} {kx : Xc → φ' → O σ ρ φ} {P : ρ' → φ' → Prop} {PX : Xc → φ' → Prop} (hm : FWp m P PX) (h : ∀ r f, P r f → Wp (k r f) N R X) (hx : ∀ x f, PX x f → Wp (kx x f) N R X) : Wp (m.cl k kx) N R X := by
  unfold FWp at hm
  cases m with
  | ok r f => exact h r f hm
  | ex x f => exact hx x f hm
  | bad => exact hm.elim
theorem fw_foN {m : O σ ρ φ} (h : Wp m NoN R X) : FWp m.foN R X := by
  unfold Wp at h
  cases m with
  | nx s => exact h.elim
  | rt r f => unfold FWp; exact h
  | ex x f => unfold FWp; exact h
  | bad => exact h.elim
theorem fw_fo {d : ρ} {m : O φ ρ φ} (h : Wp m (fun f => R d f) R X) : FWp (m.fo d) R X := by
  unfold Wp at h
  cases m with
  | nx s => unfold FWp; exact h
  | rt r f => unfold FWp; exact h
  | ex x f => unfold FWp; exact h
  | bad => exact h.elim
/-- a loop, by what is left -/
theorem wp_forL0 (I : List α → σ → Prop) {f : α → σ → O σ ρ φ} (hs : ∀ x xs s, I (x :: xs) s → Wp (f x s) (I xs) R X) (he : ∀ s, I [] s → N s) : ∀ {xs : List α} {s : σ}, I xs s → Wp (forO f xs s) N R X
  | [], s, h => wp_nx (he s h)
  | x :: xs, s, h => by
    rw [forO_cons]
    exact wp_bind (wp_mono (hs x xs s h) (fun s' h2 => wp_forL0 I hs he h2) (fun _ _ z => z) fun _ _ z => z)
theorem wp_forL {xs : List α} {s : σ} (I : List α → σ → Prop) {f : α → σ → O σ ρ φ} (hs : ∀ x xs s, I (x :: xs) s → Wp (f x s) (I xs) R X) (he : ∀ s, I [] s → N s) (h : I xs s) : Wp (forO f xs s) N R X := wp_forL0 I hs he h
/-- a loop, by what is done -/
theorem wp_for (I : List α → σ → Prop) {f : α → σ → O σ ρ φ} {xs : List α} {s : σ} (h0 : I [] s) (hs : ∀ a x b s, xs = a ++ x :: b → I a s → Wp (f x s) (I (a ++ [x])) R X) (he : ∀ s, I xs s → N s) : Wp (forO f xs s) N R X := by
  refine wp_forL (fun l s => ∃ a, xs = a ++ l ∧ I a s) ?_ ?_ ⟨[], rfl, h0⟩
  · rintro x l s ⟨a, e, h⟩
    exact wp_mono (hs a x l s e h) (fun s' h' => ⟨a ++ [x], by rw [e, List.append_assoc]; rfl, h'⟩) (fun _ _ z => z) fun _ _ z => z
  · rintro s ⟨a, e, h⟩
    rw [List.append_nil] at e
    subst e
    exact he s h
/-- a loop, by how many turns are done -/
theorem wp_forN (I : Nat → σ → Prop) {f : α → σ → O σ ρ φ} {xs : List α} {s : σ} (h0 : I 0 s) (hs : ∀ i x s, xs[i]? = some x → I i s → Wp (f x s) (I (i + 1)) R X) (he : ∀ s, I xs.length s → N s) : Wp (forO f xs s) N R X :=
  wp_for (fun a s => I a.length s) h0 (fun a x b s e h => by
    have := hs a.length x s (by rw [e]; simp) h
    rw [List.length_append]
    exact this) he
theorem len_iv : ∀ (n : Nat) (lo : Int), (ivals lo n).length = n
  | 0, _ => rfl
  | n + 1, lo => by simp only [ivals, List.length_cons, len_iv n]
/-- a loop over whole numbers in turn -/
theorem wp_forI (I : Nat → σ → Prop) {f : Int → σ → O σ ρ φ} {lo : Int} {n : Nat} {s : σ} (h0 : I 0 s) (hs : ∀ i s, i < n → I i s → Wp (f (lo + (i : Int)) s) (I (i + 1)) R X) (he : ∀ s, I n s → N s) : Wp (forO f (ivals lo n) s) N R X :=
  wp_forN I h0 (fun i x s e h => by
    rw [ivals_at] at e
    by_cases z : i < n
    · rw [if_pos z] at e
      cases e
      exact hs i s z h
    · rw [if_neg z] at e; cases e) fun s h => he s (by rw [len_iv] at h; exact h)
theorem wp_while0 (I : σ → Prop) (μ : σ → Nat) {c : σ → O (Bool × σ) ρ φ} {f : σ → O σ ρ φ} (hs : ∀ s, I s → Wp (c s) (fun b => if b.1 = true then Wp (f b.2) (fun s' => I s' ∧ μ s' < μ s) R X else N b.2) R X) : ∀ {n : Nat} {s : σ}, I s → μ s < n → Wp (whileO c f n s) N R X
  | 0, s, _, h => by omega
  | n + 1, s, h, hn => by
    show Wp ((c s).bind _) N R X
    refine wp_bind (wp_mono (hs s h) (fun b hb => ?_) (fun _ _ z => z) fun _ _ z => z)
    by_cases z : b.1 = true
    · rw [if_pos z] at hb ⊢
      exact wp_bind (wp_mono hb (fun s' h' => wp_while0 I μ hs h'.1 (by omega)) (fun _ _ z => z) fun _ _ z => z)
    · rw [if_neg z] at hb ⊢
      exact wp_nx hb
theorem wp_while {n : Nat} {s : σ} (I : σ → Prop) (μ : σ → Nat) {c : σ → O (Bool × σ) ρ φ} {f : σ → O σ ρ φ} (hs : ∀ s, I s → Wp (c s) (fun b => if b.1 = true then Wp (f b.2) (fun s' => I s' ∧ μ s' < μ s) R X else N b.2) R X) (h : I s) (hn : μ s < n) : Wp (whileO c f n s) N R X := wp_while0 I μ hs h hn
theorem fw_eqf {m : FO ρ φ} {r : ρ} {f : φ} (h : FWp m (fun x y => x = r ∧ y = f) NoX) : m = .ok r f := by
  obtain ⟨x, y, e, rfl, rfl⟩ := fw_inv h
  exact e
theorem fw_eq1 {m : FO ρ Unit} {r : ρ} (h : FWp m (fun x _ => x = r) NoX) : m = .ok r () := by
  obtain ⟨x, y, e, rfl⟩ := fw_inv h
  exact e
/-! options -/
theorem val_of {m : FO ρ φ} {P : ρ → φ → Prop} (h : FWp m P NoX) : ∃ r f, m.val = some r ∧ P r f := by
  obtain ⟨r, f, rfl, p⟩ := fw_inv h
  exact ⟨r, f, rfl, p⟩
end
end VS

section
set_option maxHeartbeats 0
namespace K21
open PySem PySem.Spec PyProof.Rows L2 VS
abbrev fs0 : List PySem.Str := []
abbrev fs1 : List PySem.Str := ["need"]
abbrev fs2 : List PySem.Str := ["need", "tries"]
abbrev fs3 : List PySem.Str := ["need", "tries", "met"]
abbrev fs4 : List PySem.Str := ["need", "tries", "met", "last"]
def top (i : Nat) : Stmt := PySem.Challenge.pw_linegate_k21_tallies.main.body.getD i (.Pass ⟨0, 0, 0, 0⟩)
def topM (i j : Nat) : Stmt := match top i with
  | .ClassDef _ _ _ b _ _ _ _ _ _ _ => b.getD j (.Pass ⟨0, 0, 0, 0⟩)
  | s => s
def ktb : List (List Bool) := [[true, true, false, false, false, false, false, false, false, false, false], [true, true, false, true, false, false, false, false, false, false, false], [true, true, false, false, true, false, false, false, false, false, false], [true, true, false, false, false, true, false, false, false, false, false], [true, true, false, false, false, false, true, false, false, false, false], [true, true, false, false, false, false, false, true, false, false, false], [true, true, false, false, false, false, false, false, true, false, false], [true, true, false, false, false, false, false, false, false, true, false], [true, true, false, false, false, false, false, false, false, false, true]]
/-- _law_draw(_law_script, _law_k, _law_prime, _law_many) -/
abbrev b0_0 : Blk := .cons (.ret (.bin .mod (.bin .mod (.bin .add (.bin .mul (.bin .add (.var 4) (.bin .mul (.var 1) (.var 1))) (.int 48271)) (.int 11)) (.var 2)) (.var 3))) .nil
abbrev b0_1 : Blk := .cons (.set 4 (.ix (.var 0) (.bin .mod (.var 1) (.bi .len (.cons (.var 0) .nil))))) .nil
abbrev b0_2 : Blk := .cons (.ifs (.cmp .gt (.bi .len (.cons (.var 0) .nil)) (.int 0)) (b0_1) (.nil)) b0_0
abbrev b0_3 : Blk := .cons (.set 4 (.int 0)) b0_2
def da0 : DefA := ⟨5, [false, false, false, false], b0_3⟩
def dt0 : DefT := ⟨"_law_draw", top 15, ["_law_script", "_law_k", "_law_prime", "_law_many", "_law_cell"], da0, none, "_law_draw"⟩
/-- _law_only(_law_kinds_here, _law_place) -/
abbrev b1_0 : Blk := .cons (.ret (.cmp .eq (.var 0) (.comp (.name 2) .range1 (.cons (.int 11) .nil) .nil (.or (.cmp .lt (.var 2) (.int 2)) (.cmp .eq (.var 2) (.var 1)))))) .nil
def da1 : DefA := ⟨3, [false, false], b1_0⟩
def dt1 : DefT := ⟨"_law_only", top 17, ["_law_kinds_here", "_law_place", "_law_k"], da1, none, "_law_only"⟩
/-- _law_told(_law_met, _law_rule) -/
abbrev b2_0 : Blk := .cons (.ret (.str "more")) .nil
abbrev b2_1 : Blk := .cons (.ret (.str "unsure")) .nil
abbrev b2_2 : Blk := .cons (.ifs (.cmp .eq (.bi .len (.cons (.var 0) .nil)) (.ix (.var 1) (.int 1))) (b2_1) (.nil)) b2_0
abbrev b2_3 : Blk := .cons (.ret (.var 2)) .nil
abbrev b2_4 : Blk := .cons (.ifs (.cmp .eq (.q1 .lcount (.var 0) (.var 2)) (.ix (.var 1) (.int 0))) (b2_3) (.nil)) .nil
abbrev b2_5 : Blk := .cons (.fors (.name 2) .seq (.cons (.lst (.cons (.str "yes") (.cons (.str "no") .nil))) .nil) (b2_4)) b2_2
def da2 : DefA := ⟨3, [false, false], b2_5⟩
def dt2 : DefT := ⟨"_law_told", top 18, ["_law_met", "_law_rule", "_law_word"], da2, none, "_law_told"⟩
/-- _law_asked(_law_tally, _law_word) -/
abbrev b3_0 : Blk := .cons (.ret (.tup (.cons (.var 3) (.cons (.own (.var 2)) .nil)))) .nil
abbrev b3_1 : Blk := .cons (.set 3 (.methM 7 0 "tell" (.var 0) (.cons (.var 1) .nil))) .nil
abbrev b3_2 : Blk := .cons (.tryk (b3_1) 4 2 ktb) b3_0
abbrev b3_3 : Blk := .cons (.set 3 (.str "")) b3_2
abbrev b3_4 : Blk := .cons (.set 2 (.lst .nil)) b3_3
def da3 : DefA := ⟨5, [true, false], b3_4⟩
def dt3 : DefT := ⟨"_law_asked", top 19, ["_law_tally", "_law_word", "_law_kinds_here", "_law_told_here", "_law_e"], da3, none, "_law_asked"⟩
/-- _law_alike(_law_tally, _law_met, _law_rule) -/
abbrev b4_0 : Blk := .cons (.ret (.and (.cmp .eqS (.bi .repr (.cons (.var 3) .nil)) (.bi .repr (.cons (.var 4) .nil))) (.cmp .eqS (.bi .repr (.cons (.meth 9 0 "word" (.var 0) .nil) .nil)) (.bi .repr (.cons (.call 2 (.cons (.var 1) (.cons (.var 2) .nil))) .nil))))) .nil
abbrev b4_1 : Blk := .cons (.set 4 (.tup (.cons (.q1 .lcount (.var 1) (.str "yes")) (.cons (.q1 .lcount (.var 1) (.str "no")) (.cons (.q1 .lcount (.var 1) (.str "unsure")) .nil))))) b4_0
abbrev b4_2 : Blk := .cons (.set 3 (.meth 8 0 "counted" (.var 0) .nil)) b4_1
def da4 : DefA := ⟨5, [false, false, false], b4_2⟩
def dt4 : DefT := ⟨"_law_alike", top 20, ["_law_tally", "_law_met", "_law_rule", "_law_counted", "_law_due"], da4, none, "_law_alike"⟩
/-- law(_law_script) -/
abbrev b5_0 : Blk := .cons (.ret (.and (.call 4 (.cons (.ix (.var 1) (.int 0)) (.cons (.ix (.var 3) (.int 0)) (.cons (.ix (.var 2) (.int 0)) .nil)))) (.call 4 (.cons (.ix (.var 1) (.int 1)) (.cons (.ix (.var 3) (.int 1)) (.cons (.ix (.var 2) (.int 1)) .nil)))))) .nil
abbrev b5_1 : Blk := .cons (.ret (.bl false)) .nil
abbrev b5_2 : Blk := .cons (.ifs (.not (.call 1 (.cons (.var 9) (.cons (.int 6) .nil)))) (b5_1) (.nil)) .nil
abbrev b5_3 : Blk := .cons (.ret (.bl false)) .nil
abbrev b5_4 : Blk := .cons (.ifs (.or (.cmp .ne (.var 9) (.lst .nil)) (.cmp .neS (.bi .repr (.cons (.var 8) .nil)) (.bi .repr (.cons (.call 2 (.cons (.ix (.var 3) (.var 6)) (.cons (.ix (.var 2) (.var 6)) .nil))) .nil)))) (b5_3) (.nil)) .nil
abbrev b5_5 : Blk := .cons (.expr (.mu .append (.ix (.var 3) (.var 6)) (.cons (.var 7) .nil))) b5_4
abbrev b5_6 : Blk := .cons (.ifs (.or (.cmp .neS (.call 2 (.cons (.ix (.var 3) (.var 6)) (.cons (.ix (.var 2) (.var 6)) .nil))) (.str "more")) (.cmp .notin (.var 7) (.lst (.cons (.str "yes") (.cons (.str "no") (.cons (.str "unsure") .nil)))))) (b5_2) (b5_5)) .nil
abbrev b5_7 : Blk := .cons (.unp [8, 9] (.callM 3 (.cons (.ix (.var 1) (.var 6)) (.cons (.var 7) .nil)))) b5_6
abbrev b5_8 : Blk := .cons (.set 7 (.ix (.lst (.cons (.str "") (.cons (.str "Yes") (.cons (.str "nope") (.cons (.str "yes ") (.cons (.str "more") .nil)))))) (.call 0 (.cons (.var 0) (.cons (.var 4) (.cons (.int 10457) (.cons (.int 5) .nil))))))) .nil
abbrev b5_9 : Blk := .cons (.ifs (.cmp .eq (.call 0 (.cons (.var 0) (.cons (.var 4) (.cons (.int 10453) (.cons (.int 9) .nil))))) (.int 0)) (b5_8) (.nil)) b5_7
abbrev b5_10 : Blk := .cons (.set 7 (.ix (.lst (.cons (.str "yes") (.cons (.str "no") (.cons (.str "unsure") .nil)))) (.call 0 (.cons (.var 0) (.cons (.var 4) (.cons (.int 10433) (.cons (.int 3) .nil))))))) b5_9
abbrev b5_11 : Blk := .cons (.ret (.bl false)) .nil
abbrev b5_12 : Blk := .cons (.ifs (.not (.call 4 (.cons (.ix (.var 1) (.var 6)) (.cons (.ix (.var 3) (.var 6)) (.cons (.ix (.var 2) (.var 6)) .nil))))) (b5_11) (.nil)) b5_10
abbrev b5_13 : Blk := .cons (.set 6 (.call 0 (.cons (.var 0) (.cons (.var 4) (.cons (.int 10429) (.cons (.int 2) .nil)))))) b5_12
abbrev b5_14 : Blk := .cons (.fors (.name 4) .range1 (.cons (.bi .min2 (.cons (.int 40) (.cons (.bi .len (.cons (.var 0) .nil)) .nil))) .nil) (b5_13)) b5_0
abbrev b5_15 : Blk := .cons (.expr (.mu .append (.var 1) (.cons (.make 0 6 (.cons (.ix (.ix (.var 2) (.var 4)) (.int 0)) (.cons (.ix (.ix (.var 2) (.var 4)) (.int 1)) .nil))) .nil))) .nil
abbrev b5_16 : Blk := .cons (.expr (.mu .append (.var 2) (.cons (.tup (.cons (.var 5) (.cons (.bin .add (.var 5) (.call 0 (.cons (.var 0) (.cons (.bin .add (.int 62) (.var 4)) (.cons (.int 10427) (.cons (.bin .sub (.int 21) (.var 5)) .nil)))))) .nil))) .nil))) b5_15
abbrev b5_17 : Blk := .cons (.set 5 (.bin .add (.int 1) (.call 0 (.cons (.var 0) (.cons (.bin .add (.int 60) (.var 4)) (.cons (.int 10399) (.cons (.int 4) .nil))))))) b5_16
abbrev b5_18 : Blk := .cons (.fors (.name 4) .range1 (.cons (.int 2) .nil) (b5_17)) b5_14
abbrev b5_19 : Blk := .cons (.set 3 (.lst (.cons (.lst .nil) (.cons (.lst .nil) .nil)))) b5_18
abbrev b5_20 : Blk := .cons (.set 2 (.lst .nil)) b5_19
abbrev b5_21 : Blk := .cons (.set 1 (.lst .nil)) b5_20
def da5 : DefA := ⟨10, [false], b5_21⟩
def dt5 : DefT := ⟨"law", top 21, ["_law_script", "_law_tallies", "_law_rules", "_law_mets", "_law_k", "_law_need", "_law_at", "_law_word", "_law_found", "_law_kinds_here"], da5, none, "law"⟩
/-- Tally.__init__(self, need, tries) -/
abbrev b6_0 : Blk := .cons (.fput 0 "last" (.str "more") (.var 0)) .nil
abbrev b6_1 : Blk := .cons (.fput 0 "met" (.ddis (.cons (.str "yes") (.cons (.int 0) (.cons (.str "no") (.cons (.int 0) (.cons (.str "unsure") (.cons (.int 0) .nil))))))) (.var 0)) b6_0
abbrev b6_2 : Blk := .cons (.fput 0 "tries" (.var 2) (.var 0)) b6_1
abbrev b6_3 : Blk := .cons (.fput 0 "need" (.var 1) (.var 0)) b6_2
abbrev b6_4 : Blk := .cons (.nev) .nil
abbrev b6_5 : Blk := .cons (.ifs (.or (.cmp .lt (.var 1) (.int 1)) (.or (.cmp .lt (.var 2) (.var 1)) (.cmp .gt (.var 2) (.int 20)))) (b6_4) (.nil)) b6_3
def da6 : DefA := ⟨3, [true, false, false], b6_5⟩
def dt6 : DefT := ⟨"__init__", topM 13 0, ["self", "need", "tries"], da6, some (0, "Tally"), "Tally.__init__"⟩
/-- Tally.tell(self, word) -/
abbrev b7_0 : Blk := .cons (.ret (.fld 0 (.var 0) "last")) .nil
abbrev b7_1 : Blk := .cons (.fput 0 "last" (.var 1) (.var 0)) .nil
abbrev b7_2 : Blk := .cons (.fput 0 "last" (.str "unsure") (.var 0)) .nil
abbrev b7_3 : Blk := .cons (.ifs (.cmp .eq (.bi .sum (.cons (.meth 8 0 "counted" (.var 0) .nil) .nil)) (.fld 0 (.var 0) "tries")) (b7_2) (.nil)) .nil
abbrev b7_4 : Blk := .cons (.ifs (.and (.cmp .neS (.var 1) (.str "unsure")) (.cmp .eq (.ixd (.fld 0 (.var 0) "met") (.var 1)) (.fld 0 (.var 0) "need"))) (b7_1) (b7_3)) b7_0
abbrev b7_5 : Blk := .cons (.dput (.bin .add (.ixd (.fld 0 (.var 0) "met") (.var 1)) (.int 1)) (.fld 0 (.var 0) "met") (.var 1)) b7_4
abbrev b7_6 : Blk := .cons (.rais 4) .nil
abbrev b7_7 : Blk := .cons (.ifs (.or (.cmp .neS (.fld 0 (.var 0) "last") (.str "more")) (.cmp .notin (.var 1) (.glo "WORDS"))) (b7_6) (.nil)) b7_5
def da7 : DefA := ⟨2, [true, false], b7_7⟩
def dt7 : DefT := ⟨"tell", topM 13 1, ["self", "word"], da7, some (0, "Tally"), "Tally.tell"⟩
/-- Tally.counted(self) -/
abbrev b8_0 : Blk := .cons (.ret (.tup (.cons (.ixd (.fld 0 (.var 0) "met") (.str "yes")) (.cons (.ixd (.fld 0 (.var 0) "met") (.str "no")) (.cons (.ixd (.fld 0 (.var 0) "met") (.str "unsure")) .nil))))) .nil
def da8 : DefA := ⟨1, [false], b8_0⟩
def dt8 : DefT := ⟨"counted", topM 13 2, ["self"], da8, some (0, "Tally"), "Tally.counted"⟩
/-- Tally.word(self) -/
abbrev b9_0 : Blk := .cons (.ret (.fld 0 (.var 0) "last")) .nil
def da9 : DefA := ⟨1, [false], b9_0⟩
def dt9 : DefT := ⟨"word", topM 13 3, ["self"], da9, some (0, "Tally"), "Tally.word"⟩
def ts : List DefT := [dt0, dt1, dt2, dt3, dt4, dt5, dt6, dt7, dt8, dt9]
def cs : List ClsT := [⟨"Tally", ["need", "tries", "met", "last"], some 6⟩]
def kn : KnT := ⟨"_law_kinds", "_law_kinds", "_law_e", ["LinegateError", "ValueError", "NoFit", "NoChange", "TooMany", "NoRule", "NoAnswer", "NoLook", "TooLate", "NoRow", "NoText"], ktb, "LinegateError", top 16⟩
def xt : XcT := ⟨["LinegateError", "NoChange", "TooMany", "NoRule", "NoAnswer", "NoLook", "TooLate", "NoRow", "NoText"], some kn, [("WORDS", ["yes", "no", "unsure"])]⟩
theorem hbk : ∀ q, xt.kn = some q → BindK q := fun q h => by cases h; exact fun _ _ _ _ _ _ us hl => match us, hl with | [_], _ => rfl
theorem ck0 : chkD ts cs xt dt0 = true := by decide +kernel
theorem ck1 : chkD ts cs xt dt1 = true := by decide +kernel
theorem ck2 : chkD ts cs xt dt2 = true := by decide +kernel
theorem ck3 : chkD ts cs xt dt3 = true := by decide +kernel
theorem ck4 : chkD ts cs xt dt4 = true := by decide +kernel
theorem ck5 : chkD ts cs xt dt5 = true := by decide +kernel
theorem ck6 : chkD ts cs xt dt6 = true := by decide +kernel
theorem ck7 : chkD ts cs xt dt7 = true := by decide +kernel
theorem ck8 : chkD ts cs xt dt8 = true := by decide +kernel
theorem ck9 : chkD ts cs xt dt9 = true := by decide +kernel
theorem bt0 : BindT dt0 := fun _ _ _ _ _ _ us hl => match us, hl with | [_, _, _, _], _ => rfl
theorem bt1 : BindT dt1 := fun _ _ _ _ _ _ us hl => match us, hl with | [_, _], _ => rfl
theorem bt2 : BindT dt2 := fun _ _ _ _ _ _ us hl => match us, hl with | [_, _], _ => rfl
theorem bt3 : BindT dt3 := fun _ _ _ _ _ _ us hl => match us, hl with | [_, _], _ => rfl
theorem bt4 : BindT dt4 := fun _ _ _ _ _ _ us hl => match us, hl with | [_, _, _], _ => rfl
theorem bt5 : BindT dt5 := fun _ _ _ _ _ _ us hl => match us, hl with | [_], _ => rfl
theorem bt6 : BindT dt6 := fun _ _ _ _ _ _ us hl => match us, hl with | [_, _, _], _ => rfl
theorem bt7 : BindT dt7 := fun _ _ _ _ _ _ us hl => match us, hl with | [_, _], _ => rfl
theorem bt8 : BindT dt8 := fun _ _ _ _ _ _ us hl => match us, hl with | [_], _ => rfl
theorem bt9 : BindT dt9 := fun _ _ _ _ _ _ us hl => match us, hl with | [_], _ => rfl
theorem cks : ∀ t ∈ ts, chkD ts cs xt t = true := List.forall_mem_cons.mpr ⟨ck0, List.forall_mem_cons.mpr ⟨ck1, List.forall_mem_cons.mpr ⟨ck2, List.forall_mem_cons.mpr ⟨ck3, List.forall_mem_cons.mpr ⟨ck4, List.forall_mem_cons.mpr ⟨ck5, List.forall_mem_cons.mpr ⟨ck6, List.forall_mem_cons.mpr ⟨ck7, List.forall_mem_cons.mpr ⟨ck8, List.forall_mem_cons.mpr ⟨ck9, fun _ h => nomatch h⟩⟩⟩⟩⟩⟩⟩⟩⟩⟩
theorem bks : ∀ t ∈ ts, BindT t := List.forall_mem_cons.mpr ⟨bt0, List.forall_mem_cons.mpr ⟨bt1, List.forall_mem_cons.mpr ⟨bt2, List.forall_mem_cons.mpr ⟨bt3, List.forall_mem_cons.mpr ⟨bt4, List.forall_mem_cons.mpr ⟨bt5, List.forall_mem_cons.mpr ⟨bt6, List.forall_mem_cons.mpr ⟨bt7, List.forall_mem_cons.mpr ⟨bt8, List.forall_mem_cons.mpr ⟨bt9, fun _ h => nomatch h⟩⟩⟩⟩⟩⟩⟩⟩⟩⟩
def gl : List (PySem.Str × Int) := []
abbrev GG : PySem.Str → Option Val := GGof gl xt.gts
abbrev FU : Nat := 1000
noncomputable abbrev Dn (n : Nat) : Defs := defsAt GG FU (ts.map (·.a)) n
theorem mo_0 (n : Nat) : (Dn n).modes 0 = [false, false, false, false] := by cases n <;> rfl
theorem mo_1 (n : Nat) : (Dn n).modes 1 = [false, false] := by cases n <;> rfl
theorem mo_2 (n : Nat) : (Dn n).modes 2 = [false, false] := by cases n <;> rfl
theorem mo_3 (n : Nat) : (Dn n).modes 3 = [true, false] := by cases n <;> rfl
theorem mo_4 (n : Nat) : (Dn n).modes 4 = [false, false, false] := by cases n <;> rfl
theorem mo_5 (n : Nat) : (Dn n).modes 5 = [false] := by cases n <;> rfl
theorem mo_6 (n : Nat) : (Dn n).modes 6 = [true, false, false] := by cases n <;> rfl
theorem mo_7 (n : Nat) : (Dn n).modes 7 = [true, false] := by cases n <;> rfl
theorem mo_8 (n : Nat) : (Dn n).modes 8 = [false] := by cases n <;> rfl
theorem mo_9 (n : Nat) : (Dn n).modes 9 = [false] := by cases n <;> rfl
theorem run_eq (n j : Nat) (d : DefA) (as : List Val) (h : (ts.map (·.a))[j]? = some d) (hl : as.length = d.modes.length) : (Dn (n + 1)).run j as = endK d.modes as (exs (Dn n) GG FU (prot 0 d.modes) d.body (as.map some ++ List.replicate (d.nslots - as.length) none)) := by
  rw [← runDef_eq d as hl]
  show (match (ts.map (·.a))[j]? with
    | some d => runDef (Dn n) GG FU d as
    | none => .bad) = _
  rw [h]
def f_draw (script_1 : (List Int)) (k_2 : Int) (prime_3 : Int) (many_4 : Int) : FO Int Unit :=
  O.foN (σ := Unit) (O.bind (if (decide (0 < ((script_1.length : Nat) : Int))) = true then
  (gd (posB ((script_1.length : Nat) : Int)) <|
  un (atZ script_1 (k_2 % ((script_1.length : Nat) : Int))) fun e_15 =>
  .nx e_15)
  else
  (.nx 0)) fun s_13 =>
  gd (mulOk k_2 k_2) <|
  gd (posB prime_3) <|
  gd (posB many_4) <|
  .rt (((((s_13 + (k_2 * k_2)) * 48271) + 11) % prime_3) % many_4) ())
theorem r_f_draw (n : Nat) (script_1 : (List Int)) (k_2 : Int) (prime_3 : Int) (many_4 : Int) : FSim Val.int (fun f : Unit => ([((rE Val.int) script_1), (Val.int k_2), (Val.int prime_3), (Val.int many_4)] : List Val)) (f_draw script_1 k_2 prime_3 many_4) ((Dn (n + 1)).run 0 [((rE Val.int) script_1), (Val.int k_2), (Val.int prime_3), (Val.int many_4)]) := by
  show FSim _ _ _ ((Dn (n + 0 + 1)).run 0 _)
  rw [run_eq (n + 0) 0 da0 _ rfl rfl]
  refine fsim_foN (k := ⟨[false, false, false, false], [((rE Val.int) script_1), (Val.int k_2), (Val.int prime_3), (Val.int many_4)], Val.int, (fun f : Unit => ([((rE Val.int) script_1), (Val.int k_2), (Val.int prime_3), (Val.int many_4)] : List Val)), true⟩) rfl ?_
  show Sim _ _ _ (exs (Dn (n + 0)) GG FU [] b0_3 [some ((rE Val.int) script_1), some (Val.int k_2), some (Val.int prime_3), some (Val.int many_4), none])
  refine sim_set (v := (Val.int 0)) (ρ1 := [some ((rE Val.int) script_1), some (Val.int k_2), some (Val.int prime_3), some (Val.int many_4), none]) (ρ2 := [some ((rE Val.int) script_1), some (Val.int k_2), some (Val.int prime_3), some (Val.int many_4), some (Val.int 0)]) (e_int (n := 0)) rfl rfl ?_
  refine sim_if (E1 := (fun (s_13 : Int) (ρ' : VS.Env) => ρ' = [some ((rE Val.int) script_1), some (Val.int k_2), some (Val.int prime_3), some (Val.int many_4), some (Val.int s_13)])) (ρ1 := [some ((rE Val.int) script_1), some (Val.int k_2), some (Val.int prime_3), some (Val.int many_4), some (Val.int 0)]) (e_cmp (op := .gt) (v := .bl (decide (0 < ((script_1.length : Nat) : Int)))) (a_tmp (e_bi (f := .len) (v := .int ((script_1.length : Nat) : Int)) (a_tmp (e_var (v := (rE Val.int) script_1) rfl (Pu.p (e := (rE Val.int)) script_1)) a_nil) (g_len_r (e := Val.int) script_1)) (a_tmp (e_int (n := 0)) a_nil)) rfl) (fun hy5 => ?_) (fun hy6 => ?_) fun s_13 ρ' hy20 => ?_
  ·
    refine sim_gd fun hy14 => ?_
    refine sim_un fun e_15 hy16 => ?_
    refine sim_set (v := (Val.int e_15)) (ρ1 := [some ((rE Val.int) script_1), some (Val.int k_2), some (Val.int prime_3), some (Val.int many_4), some (Val.int 0)]) (ρ2 := [some ((rE Val.int) script_1), some (Val.int k_2), some (Val.int prime_3), some (Val.int many_4), some (Val.int e_15)]) (e_ix (a_tmp (e_var (v := (rE Val.int) script_1) rfl (Pu.p (e := (rE Val.int)) script_1)) (a_tmp (e_bin (op := .mod) (a_tmp (e_var (v := Val.int k_2) rfl (Pu.p (e := Val.int) k_2)) (a_tmp (e_bi (f := .len) (v := .int ((script_1.length : Nat) : Int)) (a_tmp (e_var (v := (rE Val.int) script_1) rfl (Pu.p (e := (rE Val.int)) script_1)) a_nil) (g_len_r (e := Val.int) script_1)) a_nil)) (g_mod k_2 ((script_1.length : Nat) : Int) hy14)) a_nil)) (ixZ (e := Val.int) rfl hy16)) rfl rfl ?_
    exact sim_nil rfl
  ·
    exact sim_nil rfl
  ·
    subst hy20
    refine sim_gd fun hy17 => ?_
    refine sim_gd fun hy18 => ?_
    refine sim_gd fun hy19 => ?_
    exact sim_ret (ρ1 := [some ((rE Val.int) script_1), some (Val.int k_2), some (Val.int prime_3), some (Val.int many_4), some (Val.int s_13)]) (e_bin (op := .mod) (a_tmp (e_bin (op := .mod) (a_tmp (e_bin (op := .add) (v := .int (((s_13 + (k_2 * k_2)) * 48271) + 11)) (a_tmp (e_bin (op := .mul) (a_tmp (e_bin (op := .add) (v := .int (s_13 + (k_2 * k_2))) (a_tmp (e_var (v := Val.int s_13) rfl (Pu.p (e := Val.int) s_13)) (a_tmp (e_bin (op := .mul) (a_tmp (e_var (v := Val.int k_2) rfl (Pu.p (e := Val.int) k_2)) (a_tmp (e_var (v := Val.int k_2) rfl (Pu.p (e := Val.int) k_2)) a_nil)) (g_mul k_2 k_2 hy17)) a_nil)) rfl) (a_tmp (e_int (n := 48271)) a_nil)) (g_mul (s_13 + (k_2 * k_2)) 48271 (mulOk_r (by decide)))) (a_tmp (e_int (n := 11)) a_nil)) rfl) (a_tmp (e_var (v := Val.int prime_3) rfl (Pu.p (e := Val.int) prime_3)) a_nil)) (g_mod (((s_13 + (k_2 * k_2)) * 48271) + 11) prime_3 hy18)) (a_tmp (e_var (v := Val.int many_4) rfl (Pu.p (e := Val.int) many_4)) a_nil)) (g_mod ((((s_13 + (k_2 * k_2)) * 48271) + 11) % prime_3) many_4 hy19)) rfl
def f_Tally___init__ (self_1 : Unit) (need_2 : Int) (tries_3 : Int) : FO Unit (Int × Int × (List (PySem.Str × Int)) × PySem.Str) :=
  O.fo () (if ((decide (need_2 < 1)) || ((decide (tries_3 < need_2)) || (decide (20 < tries_3)))) = true then
  .bad
  else
  letO ((need_2 : Int)) fun self_6 =>
  letO (((self_6, tries_3) : (Int × Int))) fun self_8 =>
  letO (((self_8.1, self_8.2, ([(("yes" : PySem.Str), 0), (("no" : PySem.Str), 0), (("unsure" : PySem.Str), 0)] : List (PySem.Str × Int))) : (Int × Int × (List (PySem.Str × Int))))) fun self_10 =>
  letO (((self_10.1, self_10.2.1, self_10.2.2, ("more" : PySem.Str)) : (Int × Int × (List (PySem.Str × Int)) × PySem.Str))) fun self_12 =>
  .nx self_12)
theorem r_f_Tally___init__ (n : Nat) (self_1 : Unit) (need_2 : Int) (tries_3 : Int) : FSim nE (fun f : (Int × Int × (List (PySem.Str × Int)) × PySem.Str) => ([((iE false 0 fs4 (lc Val.int (lc Val.int (lc (dE false kS Val.int) (l1 Val.str))))) f), (Val.int need_2), (Val.int tries_3)] : List Val)) (f_Tally___init__ self_1 need_2 tries_3) ((Dn (n + 1)).run 6 [((iE false 0 fs0 l0) self_1), (Val.int need_2), (Val.int tries_3)]) := by
  show FSim _ _ _ ((Dn (n + 0 + 1)).run 6 _)
  rw [run_eq (n + 0) 6 da6 _ rfl rfl]
  refine fsim_def (k := ⟨[true, false, false], [((iE false 0 fs0 l0) self_1), (Val.int need_2), (Val.int tries_3)], nE, (fun f : (Int × Int × (List (PySem.Str × Int)) × PySem.Str) => ([((iE false 0 fs4 (lc Val.int (lc Val.int (lc (dE false kS Val.int) (l1 Val.str))))) f), (Val.int need_2), (Val.int tries_3)] : List Val)), true⟩) rfl rfl ?_
  show Sim _ _ _ (exs (Dn (n + 0)) GG FU [0] b6_5 [some ((iE false 0 fs0 l0) self_1), some (Val.int need_2), some (Val.int tries_3)])
  refine sim_ifL (ρ1 := [some ((iE false 0 fs0 l0) self_1), some (Val.int need_2), some (Val.int tries_3)]) (e_or (e_cmp (op := .lt) (v := .bl (decide (need_2 < 1))) (a_tmp (e_var (v := Val.int need_2) rfl (Pu.p (e := Val.int) need_2)) (a_tmp (e_int (n := 1)) a_nil)) rfl) (fun _ => e_or (e_cmp (op := .lt) (v := .bl (decide (tries_3 < need_2))) (a_tmp (e_var (v := Val.int tries_3) rfl (Pu.p (e := Val.int) tries_3)) (a_tmp (e_var (v := Val.int need_2) rfl (Pu.p (e := Val.int) need_2)) a_nil)) rfl) (fun _ => e_cmp (op := .gt) (v := .bl (decide (20 < tries_3))) (a_tmp (e_var (v := Val.int tries_3) rfl (Pu.p (e := Val.int) tries_3)) (a_tmp (e_int (n := 20)) a_nil)) rfl))) (fun hy4 => ?_) fun hy5 => ?_
  ·
    exact sim_nev
  ·
    refine sim_nilk ?_
    show Sim _ _ _ (exs (Dn (n + 0)) GG FU [0] b6_3 [some ((iE false 0 fs0 l0) self_1), some (Val.int need_2), some (Val.int tries_3)])
    refine sim_let fun self_6 hy7 => ?_
    refine sim_fput (fs' := fs1) (vs' := [(Val.int need_2)]) (ρ1 := [some ((iE false 0 fs0 l0) self_1), some (Val.int need_2), some (Val.int tries_3)]) (ρ2 := [some ((iE false 0 fs1 (l1 Val.int)) self_6), some (Val.int need_2), some (Val.int tries_3)]) (a_tmp (e_var (v := Val.int need_2) rfl (Pu.p (e := Val.int) need_2)) (a_plc (e_varP (v := (iE false 0 fs0 l0) self_1) rfl rfl) (a_nil) rfl)) rfl (by decide +kernel) (putvs_at (i := none) rfl (by decide +kernel)) (by subst hy7; exact rfl) ?_
    refine sim_let fun self_8 hy9 => ?_
    refine sim_fput (fs' := fs2) (vs' := [(Val.int self_6), (Val.int tries_3)]) (ρ1 := [some ((iE false 0 fs1 (l1 Val.int)) self_6), some (Val.int need_2), some (Val.int tries_3)]) (ρ2 := [some ((iE false 0 fs2 (lc Val.int (l1 Val.int))) self_8), some (Val.int need_2), some (Val.int tries_3)]) (a_tmp (e_var (v := Val.int tries_3) rfl (Pu.p (e := Val.int) tries_3)) (a_plc (e_varP (v := (iE false 0 fs1 (l1 Val.int)) self_6) rfl rfl) (a_nil) rfl)) rfl (by decide +kernel) (putvs_at (i := none) rfl (by decide +kernel)) (by subst hy9; exact rfl) ?_
    refine sim_let fun self_10 hy11 => ?_
    refine sim_fput (fs' := fs3) (vs' := [(Val.int self_8.1), (Val.int self_8.2), ((dE false kS Val.int) ([(("yes" : PySem.Str), 0), (("no" : PySem.Str), 0), (("unsure" : PySem.Str), 0)] : List (PySem.Str × Int)))]) (ρ1 := [some ((iE false 0 fs2 (lc Val.int (l1 Val.int))) self_8), some (Val.int need_2), some (Val.int tries_3)]) (ρ2 := [some ((iE false 0 fs3 (lc Val.int (lc Val.int (l1 (dE false kS Val.int))))) self_10), some (Val.int need_2), some (Val.int tries_3)]) (a_tmp (e_ddis (v := (dE false kS Val.int) ([(("yes" : PySem.Str), 0), (("no" : PySem.Str), 0), (("unsure" : PySem.Str), 0)] : List (PySem.Str × Int))) (a_tmp (e_str) (a_tmp (e_int (n := 0)) (a_tmp (e_str) (a_tmp (e_int (n := 0)) (a_tmp (e_str) (a_tmp (e_int (n := 0)) a_nil)))))) (g_dis (e' := Val.str) (e := Val.int) ([(("yes" : PySem.Str), 0), (("no" : PySem.Str), 0), (("unsure" : PySem.Str), 0)] : List (PySem.Str × Int)) (show (3 : Nat) ≤ 15 by decide))) (a_plc (e_varP (v := (iE false 0 fs2 (lc Val.int (l1 Val.int))) self_8) rfl rfl) (a_nil) rfl)) rfl (by decide +kernel) (putvs_at (i := none) rfl (by decide +kernel)) (by subst hy11; exact rfl) ?_
    refine sim_let fun self_12 hy13 => ?_
    refine sim_fput (fs' := fs4) (vs' := [(Val.int self_10.1), (Val.int self_10.2.1), ((dE false kS Val.int) self_10.2.2), (Val.str ("more" : PySem.Str))]) (ρ1 := [some ((iE false 0 fs3 (lc Val.int (lc Val.int (l1 (dE false kS Val.int))))) self_10), some (Val.int need_2), some (Val.int tries_3)]) (ρ2 := [some ((iE false 0 fs4 (lc Val.int (lc Val.int (lc (dE false kS Val.int) (l1 Val.str))))) self_12), some (Val.int need_2), some (Val.int tries_3)]) (a_tmp (e_str) (a_plc (e_varP (v := (iE false 0 fs3 (lc Val.int (lc Val.int (l1 (dE false kS Val.int))))) self_10) rfl rfl) (a_nil) rfl)) rfl (by decide +kernel) (putvs_at (i := none) rfl (by decide +kernel)) (by subst hy13; exact rfl) ?_
    exact sim_nil rfl
def f_Tally_counted (self_1 : (Int × Int × (List (PySem.Str × Int)) × PySem.Str)) : FO (Int × Int × Int) Unit :=
  O.foN (σ := Unit) (un (dget self_1.2.2.1 ("yes" : PySem.Str)) fun e_2 =>
  un (dget self_1.2.2.1 ("no" : PySem.Str)) fun e_4 =>
  un (dget self_1.2.2.1 ("unsure" : PySem.Str)) fun e_6 =>
  .rt (e_2, e_4, e_6) ())
theorem r_f_Tally_counted (n : Nat) (self_1 : (Int × Int × (List (PySem.Str × Int)) × PySem.Str)) : FSim (t3 Val.int Val.int Val.int) (fun f : Unit => ([((iE true 0 fs4 (lc Val.int (lc Val.int (lc (dE true kS Val.int) (l1 Val.str))))) self_1)] : List Val)) (f_Tally_counted self_1) ((Dn (n + 1)).run 8 [((iE true 0 fs4 (lc Val.int (lc Val.int (lc (dE true kS Val.int) (l1 Val.str))))) self_1)]) := by
  show FSim _ _ _ ((Dn (n + 0 + 1)).run 8 _)
  rw [run_eq (n + 0) 8 da8 _ rfl rfl]
  refine fsim_foN (k := ⟨[false], [((iE true 0 fs4 (lc Val.int (lc Val.int (lc (dE true kS Val.int) (l1 Val.str))))) self_1)], (t3 Val.int Val.int Val.int), (fun f : Unit => ([((iE true 0 fs4 (lc Val.int (lc Val.int (lc (dE true kS Val.int) (l1 Val.str))))) self_1)] : List Val)), true⟩) rfl ?_
  show Sim _ _ _ (exs (Dn (n + 0)) GG FU [] b8_0 [some ((iE true 0 fs4 (lc Val.int (lc Val.int (lc (dE true kS Val.int) (l1 Val.str))))) self_1)])
  refine sim_un fun e_2 hy3 => ?_
  refine sim_un fun e_4 hy5 => ?_
  refine sim_un fun e_6 hy7 => ?_
  exact sim_ret (ρ1 := [some ((iE true 0 fs4 (lc Val.int (lc Val.int (lc (dE true kS Val.int) (l1 Val.str))))) self_1)]) (e_tup (v := (t3 Val.int Val.int Val.int) (e_2, e_4, e_6)) (a_tmp (e_ixd (a_tmp (e_fldT (v := ((dE true kS Val.int) self_1.2.2.1)) (i := 2) (e_var (v := (iE true 0 fs4 (lc Val.int (lc Val.int (lc (dE true kS Val.int) (l1 Val.str))))) self_1) rfl (Pu.p (e := (iE true 0 fs4 (lc Val.int (lc Val.int (lc (dE true kS Val.int) (l1 Val.str)))))) self_1)) (by decide +kernel) rfl (Pu.p (e := (dE true kS Val.int)) self_1.2.2.1)) (a_tmp (e_str) a_nil)) (ixD (e' := Val.str) (e := Val.int) hy3)) (a_tmp (e_ixd (a_tmp (e_fldT (v := ((dE true kS Val.int) self_1.2.2.1)) (i := 2) (e_var (v := (iE true 0 fs4 (lc Val.int (lc Val.int (lc (dE true kS Val.int) (l1 Val.str))))) self_1) rfl (Pu.p (e := (iE true 0 fs4 (lc Val.int (lc Val.int (lc (dE true kS Val.int) (l1 Val.str)))))) self_1)) (by decide +kernel) rfl (Pu.p (e := (dE true kS Val.int)) self_1.2.2.1)) (a_tmp (e_str) a_nil)) (ixD (e' := Val.str) (e := Val.int) hy5)) (a_tmp (e_ixd (a_tmp (e_fldT (v := ((dE true kS Val.int) self_1.2.2.1)) (i := 2) (e_var (v := (iE true 0 fs4 (lc Val.int (lc Val.int (lc (dE true kS Val.int) (l1 Val.str))))) self_1) rfl (Pu.p (e := (iE true 0 fs4 (lc Val.int (lc Val.int (lc (dE true kS Val.int) (l1 Val.str)))))) self_1)) (by decide +kernel) rfl (Pu.p (e := (dE true kS Val.int)) self_1.2.2.1)) (a_tmp (e_str) a_nil)) (ixD (e' := Val.str) (e := Val.int) hy7)) a_nil))) rfl rfl) rfl
def f_Tally_word (self_1 : (Int × Int × (List (PySem.Str × Int)) × PySem.Str)) : FO PySem.Str Unit :=
  O.foN (σ := Unit) (.rt self_1.2.2.2 ())
theorem r_f_Tally_word (n : Nat) (self_1 : (Int × Int × (List (PySem.Str × Int)) × PySem.Str)) : FSim Val.str (fun f : Unit => ([((iE true 0 fs4 (lc Val.int (lc Val.int (lc (dE true kS Val.int) (l1 Val.str))))) self_1)] : List Val)) (f_Tally_word self_1) ((Dn (n + 1)).run 9 [((iE true 0 fs4 (lc Val.int (lc Val.int (lc (dE true kS Val.int) (l1 Val.str))))) self_1)]) := by
  show FSim _ _ _ ((Dn (n + 0 + 1)).run 9 _)
  rw [run_eq (n + 0) 9 da9 _ rfl rfl]
  refine fsim_foN (k := ⟨[false], [((iE true 0 fs4 (lc Val.int (lc Val.int (lc (dE true kS Val.int) (l1 Val.str))))) self_1)], Val.str, (fun f : Unit => ([((iE true 0 fs4 (lc Val.int (lc Val.int (lc (dE true kS Val.int) (l1 Val.str))))) self_1)] : List Val)), true⟩) rfl ?_
  show Sim _ _ _ (exs (Dn (n + 0)) GG FU [] b9_0 [some ((iE true 0 fs4 (lc Val.int (lc Val.int (lc (dE true kS Val.int) (l1 Val.str))))) self_1)])
  exact sim_ret (ρ1 := [some ((iE true 0 fs4 (lc Val.int (lc Val.int (lc (dE true kS Val.int) (l1 Val.str))))) self_1)]) (e_fldT (v := (Val.str self_1.2.2.2)) (i := 3) (e_var (v := (iE true 0 fs4 (lc Val.int (lc Val.int (lc (dE true kS Val.int) (l1 Val.str))))) self_1) rfl (Pu.p (e := (iE true 0 fs4 (lc Val.int (lc Val.int (lc (dE true kS Val.int) (l1 Val.str)))))) self_1)) (by decide +kernel) rfl rfl) rfl
def f_told (met_1 : (List PySem.Str)) (rule_2 : (Int × Int)) : FO PySem.Str Unit :=
  O.foN (σ := Unit) (O.bind (forO (fun (x_10 : PySem.Str) (s_9 : Unit) =>
  if (decide (((met_1.countP fun z => decide (z = x_10) : Nat) : Int) = rule_2.1)) = true then
  (.rt x_10 ())
  else
  .nx ()) [("yes" : PySem.Str), ("no" : PySem.Str)] ()) fun (s_14 : Unit) =>
  if (decide (((met_1.length : Nat) : Int) = rule_2.2)) = true then
  (.rt ("unsure" : PySem.Str) ())
  else
  .rt ("more" : PySem.Str) ())
theorem r_f_told (n : Nat) (met_1 : (List PySem.Str)) (rule_2 : (Int × Int)) : FSim Val.str (fun f : Unit => ([((lE true Val.str) met_1), ((t2 Val.int Val.int) rule_2)] : List Val)) (f_told met_1 rule_2) ((Dn (n + 1)).run 2 [((lE true Val.str) met_1), ((t2 Val.int Val.int) rule_2)]) := by
  show FSim _ _ _ ((Dn (n + 0 + 1)).run 2 _)
  rw [run_eq (n + 0) 2 da2 _ rfl rfl]
  refine fsim_foN (k := ⟨[false, false], [((lE true Val.str) met_1), ((t2 Val.int Val.int) rule_2)], Val.str, (fun f : Unit => ([((lE true Val.str) met_1), ((t2 Val.int Val.int) rule_2)] : List Val)), true⟩) rfl ?_
  show Sim _ _ _ (exs (Dn (n + 0)) GG FU [] b2_5 [some ((lE true Val.str) met_1), some ((t2 Val.int Val.int) rule_2), none])
  refine sim_for (E1 := (fun (s_9 : Unit) (ρ' : VS.Env) => ∃ j_11 : Option Val, ρ' = [some ((lE true Val.str) met_1), some ((t2 Val.int Val.int) rule_2), j_11])) (enc := Val.str) (ρ1 := [some ((lE true Val.str) met_1), some ((t2 Val.int Val.int) rule_2), none]) (a_tmp (e_lst (v := (lE false Val.str) [("yes" : PySem.Str), ("no" : PySem.Str)]) (a_tmp (e_str) (a_tmp (e_str) a_nil)) rfl rfl) a_nil) rfl (i_l (z := false) (e := Val.str) [("yes" : PySem.Str), ("no" : PySem.Str)]) ⟨_, rfl⟩ (fun x_10 s_9 ρ' ⟨j_11, hy18⟩ => ?_) fun s_14 ρ' ⟨j_15, hy19⟩ => ?_
  ·
    subst hy18
    refine ⟨[some ((lE true Val.str) met_1), some ((t2 Val.int Val.int) rule_2), some (Val.str x_10)], rfl, ?_⟩
    refine sim_ifL (ρ1 := [some ((lE true Val.str) met_1), some ((t2 Val.int Val.int) rule_2), some (Val.str x_10)]) (e_cmp (op := .eq) (a_tmp (e_q1 (m := .lcount) (e_var (v := (lE true Val.str) met_1) rfl (Pu.p (e := (lE true Val.str)) met_1)) rfl (a_tmp (e_var (v := (lE true Val.str) met_1) rfl (Pu.p (e := (lE true Val.str)) met_1)) (a_tmp (e_var (v := Val.str x_10) rfl (Pu.p (e := Val.str) x_10)) a_nil)) (g_count (z := true) (e := Val.str) (e' := Val.str) met_1 x_10)) (a_tmp (e_ix (v := (Val.int rule_2.1)) (a_tmp (e_var (v := (t2 Val.int Val.int) rule_2) rfl (Pu.p (e := (t2 Val.int Val.int)) rule_2)) (a_tmp (e_int (n := 0)) a_nil)) (ixT (k := 0) rfl rfl (Pu.p (e := Val.int) rule_2.1))) a_nil)) (g_eq (e := Val.int) (e' := Val.int) (by decide) ((met_1.countP fun z => decide (z = x_10) : Nat) : Int) rule_2.1)) (fun hy12 => ?_) fun hy13 => ?_
    ·
      exact sim_ret (ρ1 := [some ((lE true Val.str) met_1), some ((t2 Val.int Val.int) rule_2), some (Val.str x_10)]) (e_var (v := Val.str x_10) rfl (Pu.p (e := Val.str) x_10)) rfl
    ·
      refine sim_nilk ?_
      show Sim _ _ _ (exs (Dn (n + 0)) GG FU [] .nil [some ((lE true Val.str) met_1), some ((t2 Val.int Val.int) rule_2), some (Val.str x_10)])
      exact sim_nil ⟨_, rfl⟩
  ·
    subst hy19
    refine sim_ifL (ρ1 := [some ((lE true Val.str) met_1), some ((t2 Val.int Val.int) rule_2), j_15]) (e_cmp (op := .eq) (a_tmp (e_bi (f := .len) (v := .int ((met_1.length : Nat) : Int)) (a_tmp (e_var (v := (lE true Val.str) met_1) rfl (Pu.p (e := (lE true Val.str)) met_1)) a_nil) (g_len_l (z := true) (e := Val.str) met_1)) (a_tmp (e_ix (v := (Val.int rule_2.2)) (a_tmp (e_var (v := (t2 Val.int Val.int) rule_2) rfl (Pu.p (e := (t2 Val.int Val.int)) rule_2)) (a_tmp (e_int (n := 1)) a_nil)) (ixT (k := 1) rfl rfl (Pu.p (e := Val.int) rule_2.2))) a_nil)) (g_eq (e := Val.int) (e' := Val.int) (by decide) ((met_1.length : Nat) : Int) rule_2.2)) (fun hy16 => ?_) fun hy17 => ?_
    ·
      exact sim_ret (ρ1 := [some ((lE true Val.str) met_1), some ((t2 Val.int Val.int) rule_2), j_15]) (e_str) rfl
    ·
      refine sim_nilk ?_
      show Sim _ _ _ (exs (Dn (n + 0)) GG FU [] b2_0 [some ((lE true Val.str) met_1), some ((t2 Val.int Val.int) rule_2), j_15])
      exact sim_ret (ρ1 := [some ((lE true Val.str) met_1), some ((t2 Val.int Val.int) rule_2), j_15]) (e_str) rfl
def f_alike (tally_1 : (Int × Int × (List (PySem.Str × Int)) × PySem.Str)) (met_2 : (List PySem.Str)) (rule_3 : (Int × Int)) : FO Bool Unit :=
  O.foN (σ := Unit) (FO.cl1 (f_Tally_counted tally_1) fun r_4 f_5 =>
  letO (((((met_2.countP fun z => decide (z = ("yes" : PySem.Str)) : Nat) : Int), ((met_2.countP fun z => decide (z = ("no" : PySem.Str)) : Nat) : Int), ((met_2.countP fun z => decide (z = ("unsure" : PySem.Str)) : Nat) : Int)) : (Int × Int × Int))) fun due_8 =>
  gd (reprB ((d3 PyData.int PyData.int PyData.int) r_4)) <|
  gd (reprB ((d3 PyData.int PyData.int PyData.int) due_8)) <|
  un (if (decide ((PyData.shown ((d3 PyData.int PyData.int PyData.int) r_4)) = (PyData.shown ((d3 PyData.int PyData.int PyData.int) due_8)))) = true then Option.bind (FO.val (f_Tally_word tally_1)) fun r_12 => gdo (reprB (PyData.str r_12)) (Option.bind (FO.val (f_told met_2 rule_3)) fun r_17 => gdo (reprB (PyData.str r_17)) (some (decide ((PyData.shown (PyData.str r_12)) = (PyData.shown (PyData.str r_17)))))) else some false) fun b_22 =>
  .rt b_22 ())
theorem r_f_alike (n : Nat) (tally_1 : (Int × Int × (List (PySem.Str × Int)) × PySem.Str)) (met_2 : (List PySem.Str)) (rule_3 : (Int × Int)) : FSim Val.bl (fun f : Unit => ([((iE true 0 fs4 (lc Val.int (lc Val.int (lc (dE true kS Val.int) (l1 Val.str))))) tally_1), ((lE true Val.str) met_2), ((t2 Val.int Val.int) rule_3)] : List Val)) (f_alike tally_1 met_2 rule_3) ((Dn (n + 2)).run 4 [((iE true 0 fs4 (lc Val.int (lc Val.int (lc (dE true kS Val.int) (l1 Val.str))))) tally_1), ((lE true Val.str) met_2), ((t2 Val.int Val.int) rule_3)]) := by
  show FSim _ _ _ ((Dn (n + 1 + 1)).run 4 _)
  rw [run_eq (n + 1) 4 da4 _ rfl rfl]
  refine fsim_foN (k := ⟨[false, false, false], [((iE true 0 fs4 (lc Val.int (lc Val.int (lc (dE true kS Val.int) (l1 Val.str))))) tally_1), ((lE true Val.str) met_2), ((t2 Val.int Val.int) rule_3)], Val.bl, (fun f : Unit => ([((iE true 0 fs4 (lc Val.int (lc Val.int (lc (dE true kS Val.int) (l1 Val.str))))) tally_1), ((lE true Val.str) met_2), ((t2 Val.int Val.int) rule_3)] : List Val)), true⟩) rfl ?_
  show Sim _ _ _ (exs (Dn (n + 1)) GG FU [] b4_2 [some ((iE true 0 fs4 (lc Val.int (lc Val.int (lc (dE true kS Val.int) (l1 Val.str))))) tally_1), some ((lE true Val.str) met_2), some ((t2 Val.int Val.int) rule_3), none, none])
  refine sim_cl1 (r_f_Tally_counted (n + 0) tally_1) fun r_4 f_5 hy6 hy7 => ?_
  refine sim_set (v := ((t3 Val.int Val.int Val.int) r_4)) (ρ1 := [some ((iE true 0 fs4 (lc Val.int (lc Val.int (lc (dE true kS Val.int) (l1 Val.str))))) tally_1), some ((lE true Val.str) met_2), some ((t2 Val.int Val.int) rule_3), none, none]) (ρ2 := [some ((iE true 0 fs4 (lc Val.int (lc Val.int (lc (dE true kS Val.int) (l1 Val.str))))) tally_1), some ((lE true Val.str) met_2), some ((t2 Val.int Val.int) rule_3), some ((t3 Val.int Val.int Val.int) r_4), none]) (e_meth (h0 := (e_var (v := (iE true 0 fs4 (lc Val.int (lc Val.int (lc (dE true kS Val.int) (l1 Val.str))))) tally_1) rfl (Pu.p (e := (iE true 0 fs4 (lc Val.int (lc Val.int (lc (dE true kS Val.int) (l1 Val.str)))))) tally_1))) (hi := ins_mid (by decide +kernel)) (c := 0) (m := "counted") (v := ((t3 Val.int Val.int Val.int) r_4)) (a_tmp (e_var (v := (iE true 0 fs4 (lc Val.int (lc Val.int (lc (dE true kS Val.int) (l1 Val.str))))) tally_1) rfl (Pu.p (e := (iE true 0 fs4 (lc Val.int (lc Val.int (lc (dE true kS Val.int) (l1 Val.str)))))) tally_1)) a_nil) (by rw [mo_8]; rfl) (fz_cons (Fz.f (e := (iE true 0 fs4 (lc Val.int (lc Val.int (lc (dE true kS Val.int) (l1 Val.str)))))) (e' := (iE true 0 fs4 (lc Val.int (lc Val.int (lc (dE true kS Val.int) (l1 Val.str)))))) tally_1) (fz_nil)) hy7 (or_l (pu_cons (Pu.p (e := (iE true 0 fs4 (lc Val.int (lc Val.int (lc (dE true kS Val.int) (l1 Val.str)))))) tally_1) (pu_nil)))) rfl rfl ?_
  refine sim_let fun due_8 hy9 => ?_
  refine sim_set (v := ((t3 Val.int Val.int Val.int) (((met_2.countP fun z => decide (z = ("yes" : PySem.Str)) : Nat) : Int), ((met_2.countP fun z => decide (z = ("no" : PySem.Str)) : Nat) : Int), ((met_2.countP fun z => decide (z = ("unsure" : PySem.Str)) : Nat) : Int)))) (ρ1 := [some ((iE true 0 fs4 (lc Val.int (lc Val.int (lc (dE true kS Val.int) (l1 Val.str))))) tally_1), some ((lE true Val.str) met_2), some ((t2 Val.int Val.int) rule_3), some ((t3 Val.int Val.int Val.int) r_4), none]) (ρ2 := [some ((iE true 0 fs4 (lc Val.int (lc Val.int (lc (dE true kS Val.int) (l1 Val.str))))) tally_1), some ((lE true Val.str) met_2), some ((t2 Val.int Val.int) rule_3), some ((t3 Val.int Val.int Val.int) r_4), some ((t3 Val.int Val.int Val.int) due_8)]) (e_tup (v := (t3 Val.int Val.int Val.int) (((met_2.countP fun z => decide (z = ("yes" : PySem.Str)) : Nat) : Int), ((met_2.countP fun z => decide (z = ("no" : PySem.Str)) : Nat) : Int), ((met_2.countP fun z => decide (z = ("unsure" : PySem.Str)) : Nat) : Int))) (a_tmp (e_q1 (m := .lcount) (e_var (v := (lE true Val.str) met_2) rfl (Pu.p (e := (lE true Val.str)) met_2)) rfl (a_tmp (e_var (v := (lE true Val.str) met_2) rfl (Pu.p (e := (lE true Val.str)) met_2)) (a_tmp (e_str) a_nil)) (g_count (z := true) (e := Val.str) (e' := Val.str) met_2 ("yes" : PySem.Str))) (a_tmp (e_q1 (m := .lcount) (e_var (v := (lE true Val.str) met_2) rfl (Pu.p (e := (lE true Val.str)) met_2)) rfl (a_tmp (e_var (v := (lE true Val.str) met_2) rfl (Pu.p (e := (lE true Val.str)) met_2)) (a_tmp (e_str) a_nil)) (g_count (z := true) (e := Val.str) (e' := Val.str) met_2 ("no" : PySem.Str))) (a_tmp (e_q1 (m := .lcount) (e_var (v := (lE true Val.str) met_2) rfl (Pu.p (e := (lE true Val.str)) met_2)) rfl (a_tmp (e_var (v := (lE true Val.str) met_2) rfl (Pu.p (e := (lE true Val.str)) met_2)) (a_tmp (e_str) a_nil)) (g_count (z := true) (e := Val.str) (e' := Val.str) met_2 ("unsure" : PySem.Str))) a_nil))) rfl rfl) rfl (by subst hy9; rfl) ?_
  refine sim_gd fun hy10 => ?_
  refine sim_gd fun hy11 => ?_
  refine sim_un fun b_22 hy23 => ?_
  exact sim_ret (ρ1 := [some ((iE true 0 fs4 (lc Val.int (lc Val.int (lc (dE true kS Val.int) (l1 Val.str))))) tally_1), some ((lE true Val.str) met_2), some ((t2 Val.int Val.int) rule_3), some ((t3 Val.int Val.int Val.int) r_4), some ((t3 Val.int Val.int Val.int) due_8)]) (e_andO (e_cmp (op := .eqS) (v := .bl (decide ((PyData.shown ((d3 PyData.int PyData.int PyData.int) r_4)) = (PyData.shown ((d3 PyData.int PyData.int PyData.int) due_8))))) (a_tmp (e_bi (f := .repr) (a_tmp (e_var (v := (t3 Val.int Val.int Val.int) r_4) rfl (Pu.p (e := (t3 Val.int Val.int Val.int)) r_4)) a_nil) (g_repr (e := (t3 Val.int Val.int Val.int)) r_4 hy10)) (a_tmp (e_bi (f := .repr) (a_tmp (e_var (v := (t3 Val.int Val.int Val.int) due_8) rfl (Pu.p (e := (t3 Val.int Val.int Val.int)) due_8)) a_nil) (g_repr (e := (t3 Val.int Val.int Val.int)) due_8 hy11)) a_nil)) rfl) hy23 (fun _ q => by obtain ⟨r_12, hy14, q⟩ := Option.bind_eq_some_iff.mp q; obtain ⟨f_13, hy15⟩ := fsim_val (r_f_Tally_word (n + 0) tally_1) hy14; obtain ⟨hy16, q⟩ := gdo_inv q; obtain ⟨r_17, hy19, q⟩ := Option.bind_eq_some_iff.mp q; obtain ⟨f_18, hy20⟩ := fsim_val (r_f_told (n + 0) met_2 rule_3) hy19; obtain ⟨hy21, q⟩ := gdo_inv q; have q := Option.some.inj q; subst q; exact ⟨_, e_cmp (op := .eqS) (v := .bl (decide ((PyData.shown (PyData.str r_12)) = (PyData.shown (PyData.str r_17))))) (a_tmp (e_bi (f := .repr) (a_tmp (e_meth (h0 := (e_var (v := (iE true 0 fs4 (lc Val.int (lc Val.int (lc (dE true kS Val.int) (l1 Val.str))))) tally_1) rfl (Pu.p (e := (iE true 0 fs4 (lc Val.int (lc Val.int (lc (dE true kS Val.int) (l1 Val.str)))))) tally_1))) (hi := ins_mid (by decide +kernel)) (c := 0) (m := "word") (v := (Val.str r_12)) (a_tmp (e_var (v := (iE true 0 fs4 (lc Val.int (lc Val.int (lc (dE true kS Val.int) (l1 Val.str))))) tally_1) rfl (Pu.p (e := (iE true 0 fs4 (lc Val.int (lc Val.int (lc (dE true kS Val.int) (l1 Val.str)))))) tally_1)) a_nil) (by rw [mo_9]; rfl) (fz_cons (Fz.f (e := (iE true 0 fs4 (lc Val.int (lc Val.int (lc (dE true kS Val.int) (l1 Val.str)))))) (e' := (iE true 0 fs4 (lc Val.int (lc Val.int (lc (dE true kS Val.int) (l1 Val.str)))))) tally_1) (fz_nil)) hy15 (or_l (pu_cons (Pu.p (e := (iE true 0 fs4 (lc Val.int (lc Val.int (lc (dE true kS Val.int) (l1 Val.str)))))) tally_1) (pu_nil)))) a_nil) (g_repr (e := Val.str) r_12 hy16)) (a_tmp (e_bi (f := .repr) (a_tmp (e_call (v := (Val.str r_17)) (a_tmp (e_var (v := (lE true Val.str) met_2) rfl (Pu.p (e := (lE true Val.str)) met_2)) (a_tmp (e_var (v := (t2 Val.int Val.int) rule_3) rfl (Pu.p (e := (t2 Val.int Val.int)) rule_3)) a_nil)) (by rw [mo_2]; rfl) (fz_cons (Fz.f (e := (lE true Val.str)) (e' := (lE true Val.str)) met_2) (fz_cons (Fz.f (e := (t2 Val.int Val.int)) (e' := (t2 Val.int Val.int)) rule_3) (fz_nil))) hy20 (or_l (pu_cons (Pu.p (e := (lE true Val.str)) met_2) (pu_cons (Pu.p (e := (t2 Val.int Val.int)) rule_3) (pu_nil))))) a_nil) (g_repr (e := Val.str) r_17 hy21)) a_nil)) rfl⟩)) rfl
def f_Tally_tell (self_1 : (Int × Int × (List (PySem.Str × Int)) × PySem.Str)) (word_2 : PySem.Str) : FO PySem.Str (Int × Int × (List (PySem.Str × Int)) × PySem.Str) :=
  O.foN (σ := Unit) (if ((!decide (self_1.2.2.2 = ("more" : PySem.Str))) || (!decide (word_2 ∈ ([("yes" : PySem.Str), ("no" : PySem.Str), ("unsure" : PySem.Str)] : List PySem.Str)))) = true then
  (.ex ⟨4, none⟩ self_1)
  else
  un (dget self_1.2.2.1 word_2) fun e_5 =>
  gd (ltB self_1.2.2.1.length) <|
  letO (((self_1.1, self_1.2.1, (dput self_1.2.2.1 word_2 (e_5 + 1) : (List (PySem.Str × Int))), self_1.2.2.2) : (Int × Int × (List (PySem.Str × Int)) × PySem.Str))) fun self_8 =>
  un (if (!decide (word_2 = ("unsure" : PySem.Str))) = true then Option.bind (dget self_8.2.2.1 word_2) fun e_10 => some (decide (e_10 = self_8.1)) else some false) fun b_12 =>
  O.bind (if b_12 = true then
  (letO (((self_8.1, self_8.2.1, self_8.2.2.1, word_2) : (Int × Int × (List (PySem.Str × Int)) × PySem.Str))) fun self_37 =>
  .nx self_37)
  else
  (FO.cl1 (f_Tally_counted self_8) fun r_39 f_40 =>
  if (decide (([r_39.1, r_39.2.1, r_39.2.2] : List Int).sum = self_8.2.1)) = true then
  (letO (((self_8.1, self_8.2.1, self_8.2.2.1, ("unsure" : PySem.Str)) : (Int × Int × (List (PySem.Str × Int)) × PySem.Str))) fun self_45 =>
  .nx self_45)
  else
  .nx self_8)) fun s_36 =>
  .rt s_36.2.2.2 s_36)
theorem r_f_Tally_tell (n : Nat) (self_1 : (Int × Int × (List (PySem.Str × Int)) × PySem.Str)) (word_2 : PySem.Str) : FSim Val.str (fun f : (Int × Int × (List (PySem.Str × Int)) × PySem.Str) => ([((iE false 0 fs4 (lc Val.int (lc Val.int (lc (dE false kS Val.int) (l1 Val.str))))) f), (Val.str word_2)] : List Val)) (f_Tally_tell self_1 word_2) ((Dn (n + 2)).run 7 [((iE false 0 fs4 (lc Val.int (lc Val.int (lc (dE false kS Val.int) (l1 Val.str))))) self_1), (Val.str word_2)]) := by
  show FSim _ _ _ ((Dn (n + 1 + 1)).run 7 _)
  rw [run_eq (n + 1) 7 da7 _ rfl rfl]
  refine fsim_foN (k := ⟨[true, false], [((iE false 0 fs4 (lc Val.int (lc Val.int (lc (dE false kS Val.int) (l1 Val.str))))) self_1), (Val.str word_2)], Val.str, (fun f : (Int × Int × (List (PySem.Str × Int)) × PySem.Str) => ([((iE false 0 fs4 (lc Val.int (lc Val.int (lc (dE false kS Val.int) (l1 Val.str))))) f), (Val.str word_2)] : List Val)), true⟩) rfl ?_
  show Sim _ _ _ (exs (Dn (n + 1)) GG FU [0] b7_7 [some ((iE false 0 fs4 (lc Val.int (lc Val.int (lc (dE false kS Val.int) (l1 Val.str))))) self_1), some (Val.str word_2)])
  refine sim_ifL (ρ1 := [some ((iE false 0 fs4 (lc Val.int (lc Val.int (lc (dE false kS Val.int) (l1 Val.str))))) self_1), some (Val.str word_2)]) (e_or (e_cmp (op := .neS) (v := .bl (!decide (self_1.2.2.2 = ("more" : PySem.Str)))) (a_tmp (e_fldT (v := (Val.str self_1.2.2.2)) (i := 3) (e_varP (v := (iE false 0 fs4 (lc Val.int (lc Val.int (lc (dE false kS Val.int) (l1 Val.str))))) self_1) rfl rfl) (by decide +kernel) rfl rfl) (a_tmp (e_str) a_nil)) rfl) (fun _ => e_cmp (op := .notin) (v := .bl (!decide (word_2 ∈ ([("yes" : PySem.Str), ("no" : PySem.Str), ("unsure" : PySem.Str)] : List PySem.Str)))) (a_tmp (e_var (v := Val.str word_2) rfl (Pu.p (e := Val.str) word_2)) (a_tmp (e_glo (gk_tup (by decide +kernel) (show xt.gts.lookup ("WORDS" : PySem.Str) = some [("yes" : PySem.Str), ("no" : PySem.Str), ("unsure" : PySem.Str)] by decide +kernel))) a_nil)) (g_nin_kt (e := Val.str) (e' := Val.str) word_2 [("yes" : PySem.Str), ("no" : PySem.Str), ("unsure" : PySem.Str)]))) (fun hy3 => ?_) fun hy4 => ?_
  ·
    exact sim_rais rfl
  ·
    refine sim_nilk ?_
    show Sim _ _ _ (exs (Dn (n + 1)) GG FU [0] b7_5 [some ((iE false 0 fs4 (lc Val.int (lc Val.int (lc (dE false kS Val.int) (l1 Val.str))))) self_1), some (Val.str word_2)])
    refine sim_un fun e_5 hy6 => ?_
    refine sim_gd fun hy7 => ?_
    refine sim_let fun self_8 hy9 => ?_
    refine sim_dput (ρ1 := [some ((iE false 0 fs4 (lc Val.int (lc Val.int (lc (dE false kS Val.int) (l1 Val.str))))) self_1), some (Val.str word_2)]) (ρ2 := [some ((iE false 0 fs4 (lc Val.int (lc Val.int (lc (dE false kS Val.int) (l1 Val.str))))) self_8), some (Val.str word_2)]) (a_tmp (e_bin (op := .add) (v := .int (e_5 + 1)) (a_tmp (e_ixd (a_path (e_fldP (v := ((dE false kS Val.int) self_1.2.2.1)) (i := 2) (e_varP (v := (iE false 0 fs4 (lc Val.int (lc Val.int (lc (dE false kS Val.int) (l1 Val.str))))) self_1) rfl rfl) (by decide +kernel) rfl rfl) rfl (a_tmp (e_var (v := Val.str word_2) rfl (Pu.p (e := Val.str) word_2)) a_nil)) (ixD (e' := Val.str) (e := Val.int) hy6)) (a_tmp (e_int (n := 1)) a_nil)) rfl) (a_path (e_fldP (v := ((dE false kS Val.int) self_1.2.2.1)) (i := 2) (e_varP (v := (iE false 0 fs4 (lc Val.int (lc Val.int (lc (dE false kS Val.int) (l1 Val.str))))) self_1) rfl rfl) (by decide +kernel) rfl rfl) rfl (a_tmp (e_var (v := Val.str word_2) rfl (Pu.p (e := Val.str) word_2)) a_nil))) (g_dput (e' := Val.str) (e := Val.int) self_1.2.2.1 word_2 (e_5 + 1) hy7) (by subst hy9; exact rfl) ?_
    refine sim_un fun b_12 hy13 => ?_
    refine sim_if (E1 := (fun (s_36 : (Int × Int × (List (PySem.Str × Int)) × PySem.Str)) (ρ' : VS.Env) => ρ' = [some ((iE false 0 fs4 (lc Val.int (lc Val.int (lc (dE false kS Val.int) (l1 Val.str))))) s_36), some (Val.str word_2)])) (ρ1 := [some ((iE false 0 fs4 (lc Val.int (lc Val.int (lc (dE false kS Val.int) (l1 Val.str))))) self_8), some (Val.str word_2)]) (e_andO (e_cmp (op := .neS) (v := .bl (!decide (word_2 = ("unsure" : PySem.Str)))) (a_tmp (e_var (v := Val.str word_2) rfl (Pu.p (e := Val.str) word_2)) (a_tmp (e_str) a_nil)) rfl) hy13 (fun _ q => by obtain ⟨e_10, hy11, q⟩ := Option.bind_eq_some_iff.mp q; have q := Option.some.inj q; subst q; exact ⟨_, e_cmp (op := .eq) (a_tmp (e_ixd (a_path (e_fldP (v := ((dE false kS Val.int) self_8.2.2.1)) (i := 2) (e_varP (v := (iE false 0 fs4 (lc Val.int (lc Val.int (lc (dE false kS Val.int) (l1 Val.str))))) self_8) rfl rfl) (by decide +kernel) rfl rfl) rfl (a_tmp (e_var (v := Val.str word_2) rfl (Pu.p (e := Val.str) word_2)) a_nil)) (ixD (e' := Val.str) (e := Val.int) hy11)) (a_tmp (e_fldT (v := (Val.int self_8.1)) (i := 0) (e_varP (v := (iE false 0 fs4 (lc Val.int (lc Val.int (lc (dE false kS Val.int) (l1 Val.str))))) self_8) rfl rfl) (by decide +kernel) rfl rfl) a_nil)) (g_eq (e := Val.int) (e' := Val.int) (by decide) e_10 self_8.1)⟩)) (fun hy14 => ?_) (fun hy15 => ?_) fun s_36 ρ' hy47 => ?_
    ·
      refine sim_let fun self_37 hy38 => ?_
      refine sim_fput (fs' := fs4) (vs' := [(Val.int self_8.1), (Val.int self_8.2.1), ((dE false kS Val.int) self_8.2.2.1), (Val.str word_2)]) (ρ1 := [some ((iE false 0 fs4 (lc Val.int (lc Val.int (lc (dE false kS Val.int) (l1 Val.str))))) self_8), some (Val.str word_2)]) (ρ2 := [some ((iE false 0 fs4 (lc Val.int (lc Val.int (lc (dE false kS Val.int) (l1 Val.str))))) self_37), some (Val.str word_2)]) (a_tmp (e_var (v := Val.str word_2) rfl (Pu.p (e := Val.str) word_2)) (a_plc (e_varP (v := (iE false 0 fs4 (lc Val.int (lc Val.int (lc (dE false kS Val.int) (l1 Val.str))))) self_8) rfl rfl) (a_nil) rfl)) rfl (by decide +kernel) (putvs_at (i := (some 3)) rfl (by decide +kernel)) (by subst hy38; exact rfl) ?_
      exact sim_nil rfl
    ·
      refine sim_cl1 (r_f_Tally_counted (n + 0) self_8) fun r_39 f_40 hy41 hy42 => ?_
      refine sim_ifT (ρ1 := [some ((iE false 0 fs4 (lc Val.int (lc Val.int (lc (dE false kS Val.int) (l1 Val.str))))) self_8), some (Val.str word_2)]) (e_cmp (op := .eq) (a_tmp (e_bi (f := .sum) (a_tmp (e_meth (h0 := (e_varP (v := (iE false 0 fs4 (lc Val.int (lc Val.int (lc (dE false kS Val.int) (l1 Val.str))))) self_8) rfl rfl)) (hi := ins_mid (by decide +kernel)) (c := 0) (m := "counted") (v := ((t3 Val.int Val.int Val.int) r_39)) (a_plc (e_varP (v := (iE false 0 fs4 (lc Val.int (lc Val.int (lc (dE false kS Val.int) (l1 Val.str))))) self_8) rfl rfl) (a_nil) rfl) (by rw [mo_8]; rfl) (fz_cons (Fz.f (e := (iE false 0 fs4 (lc Val.int (lc Val.int (lc (dE false kS Val.int) (l1 Val.str)))))) (e' := (iE true 0 fs4 (lc Val.int (lc Val.int (lc (dE true kS Val.int) (l1 Val.str)))))) self_8) (fz_nil)) hy42 (or_r (Nf.n (e := (t3 Val.int Val.int Val.int)) r_39))) a_nil) (g_sum_t [r_39.1, r_39.2.1, r_39.2.2])) (a_tmp (e_fldT (v := (Val.int self_8.2.1)) (i := 1) (e_varP (v := (iE false 0 fs4 (lc Val.int (lc Val.int (lc (dE false kS Val.int) (l1 Val.str))))) self_8) rfl rfl) (by decide +kernel) rfl rfl) a_nil)) (g_eq (e := Val.int) (e' := Val.int) (by decide) ([r_39.1, r_39.2.1, r_39.2.2] : List Int).sum self_8.2.1)) (fun hy43 => ?_) fun hy44 => ?_
      ·
        refine sim_let fun self_45 hy46 => ?_
        refine sim_fput (fs' := fs4) (vs' := [(Val.int self_8.1), (Val.int self_8.2.1), ((dE false kS Val.int) self_8.2.2.1), (Val.str ("unsure" : PySem.Str))]) (ρ1 := [some ((iE false 0 fs4 (lc Val.int (lc Val.int (lc (dE false kS Val.int) (l1 Val.str))))) self_8), some (Val.str word_2)]) (ρ2 := [some ((iE false 0 fs4 (lc Val.int (lc Val.int (lc (dE false kS Val.int) (l1 Val.str))))) self_45), some (Val.str word_2)]) (a_tmp (e_str) (a_plc (e_varP (v := (iE false 0 fs4 (lc Val.int (lc Val.int (lc (dE false kS Val.int) (l1 Val.str))))) self_8) rfl rfl) (a_nil) rfl)) rfl (by decide +kernel) (putvs_at (i := (some 3)) rfl (by decide +kernel)) (by subst hy46; exact rfl) ?_
        exact sim_nil rfl
      ·
        exact sim_nil rfl
    ·
      subst hy47
      exact sim_ret (ρ1 := [some ((iE false 0 fs4 (lc Val.int (lc Val.int (lc (dE false kS Val.int) (l1 Val.str))))) s_36), some (Val.str word_2)]) (e_fldT (v := (Val.str s_36.2.2.2)) (i := 3) (e_varP (v := (iE false 0 fs4 (lc Val.int (lc Val.int (lc (dE false kS Val.int) (l1 Val.str))))) s_36) rfl rfl) (by decide +kernel) rfl rfl) rfl
def f_asked (tally_1 : (Int × Int × (List (PySem.Str × Int)) × PySem.Str)) (word_2 : PySem.Str) : FO (PySem.Str × (List Bool)) (Int × Int × (List (PySem.Str × Int)) × PySem.Str) :=
  O.foN (σ := Unit) (letO ((("" : PySem.Str) : PySem.Str)) fun told_here_3 =>
  O.bind (FO.cl (f_Tally_tell tally_1 word_2) (fun r_6 f_7 =>
  .nx (f_7, ([] : (List Bool)), r_6)) fun x_10 f_11 => gd x_10.slot.isNone (un (ktb[x_10.c]?) fun bs_14 => .nx (f_11, bs_14, told_here_3))) fun s_5 =>
  .rt (s_5.2.2, s_5.2.1) s_5.1)
theorem r_f_asked (n : Nat) (tally_1 : (Int × Int × (List (PySem.Str × Int)) × PySem.Str)) (word_2 : PySem.Str) : FSim (t2 Val.str (lE true Val.bl)) (fun f : (Int × Int × (List (PySem.Str × Int)) × PySem.Str) => ([((iE false 0 fs4 (lc Val.int (lc Val.int (lc (dE false kS Val.int) (l1 Val.str))))) f), (Val.str word_2)] : List Val)) (f_asked tally_1 word_2) ((Dn (n + 3)).run 3 [((iE false 0 fs4 (lc Val.int (lc Val.int (lc (dE false kS Val.int) (l1 Val.str))))) tally_1), (Val.str word_2)]) := by
  show FSim _ _ _ ((Dn (n + 2 + 1)).run 3 _)
  rw [run_eq (n + 2) 3 da3 _ rfl rfl]
  refine fsim_foN (k := ⟨[true, false], [((iE false 0 fs4 (lc Val.int (lc Val.int (lc (dE false kS Val.int) (l1 Val.str))))) tally_1), (Val.str word_2)], (t2 Val.str (lE true Val.bl)), (fun f : (Int × Int × (List (PySem.Str × Int)) × PySem.Str) => ([((iE false 0 fs4 (lc Val.int (lc Val.int (lc (dE false kS Val.int) (l1 Val.str))))) f), (Val.str word_2)] : List Val)), true⟩) rfl ?_
  show Sim _ _ _ (exs (Dn (n + 2)) GG FU [0] b3_4 [some ((iE false 0 fs4 (lc Val.int (lc Val.int (lc (dE false kS Val.int) (l1 Val.str))))) tally_1), some (Val.str word_2), none, none, none])
  refine sim_set (v := ((lE false Val.int) [])) (ρ1 := [some ((iE false 0 fs4 (lc Val.int (lc Val.int (lc (dE false kS Val.int) (l1 Val.str))))) tally_1), some (Val.str word_2), none, none, none]) (ρ2 := [some ((iE false 0 fs4 (lc Val.int (lc Val.int (lc (dE false kS Val.int) (l1 Val.str))))) tally_1), some (Val.str word_2), some ((lE false Val.int) []), none, none]) (e_lst a_nil rfl rfl) rfl rfl ?_
  refine sim_let fun told_here_3 hy4 => ?_
  refine sim_set (v := (Val.str ("" : PySem.Str))) (ρ1 := [some ((iE false 0 fs4 (lc Val.int (lc Val.int (lc (dE false kS Val.int) (l1 Val.str))))) tally_1), some (Val.str word_2), some ((lE false Val.int) []), none, none]) (ρ2 := [some ((iE false 0 fs4 (lc Val.int (lc Val.int (lc (dE false kS Val.int) (l1 Val.str))))) tally_1), some (Val.str word_2), some ((lE false Val.int) []), some (Val.str told_here_3), none]) (e_str) rfl (by subst hy4; rfl) ?_
  refine sim_try (E1 := (fun (s_5 : ((Int × Int × (List (PySem.Str × Int)) × PySem.Str) × (List Bool) × PySem.Str)) (ρ' : VS.Env) => ρ' = [some ((iE false 0 fs4 (lc Val.int (lc Val.int (lc (dE false kS Val.int) (l1 Val.str))))) s_5.1), some (Val.str word_2), some ((lE false Val.bl) s_5.2.1), some (Val.str s_5.2.2), none])) ?_ fun s_5 ρ' hy15 => ?_
  ·
    refine sim_cl (r_f_Tally_tell (n + 0) tally_1 word_2) (fun r_6 f_7 hy8 hy9 => ?_) (fun x_10 f_11 hy12 hy13 => sim_tryE (ρ1 := [some ((iE false 0 fs4 (lc Val.int (lc Val.int (lc (dE false kS Val.int) (l1 Val.str))))) f_11), some (Val.str word_2), some ((lE false Val.int) []), some (Val.str told_here_3), none]) (xs_set (x_methM (h0 := (e_varP (v := (iE false 0 fs4 (lc Val.int (lc Val.int (lc (dE false kS Val.int) (l1 Val.str))))) tally_1) rfl rfl)) (hi := ins_mid (by decide +kernel)) (c := 0) (nm := "tell") (ρ2 := [some ((iE false 0 fs4 (lc Val.int (lc Val.int (lc (dE false kS Val.int) (l1 Val.str))))) f_11), some (Val.str word_2), some ((lE false Val.int) []), some (Val.str told_here_3), none]) (a_plc (e_varP (v := (iE false 0 fs4 (lc Val.int (lc Val.int (lc (dE false kS Val.int) (l1 Val.str))))) tally_1) rfl rfl) (a_tmp (e_var (v := Val.str word_2) rfl (Pu.p (e := Val.str) word_2)) a_nil) rfl) (mo_7 _) (and2 rfl (ma_tp (ma_fp (rfl) (ma_nil)))) (mv_t (mv_f (rfl) (mv_nil))) hy13 (or_l (mp_t (mp_f (rfl) (mp_nil)))) (rfl))) rfl (fun bs_14 => Sim.nx.mpr ⟨_, rfl, rfl⟩))
    refine sim_tryN ?_
    refine sim_set (v := (Val.str r_6)) (ρ1 := [some ((iE false 0 fs4 (lc Val.int (lc Val.int (lc (dE false kS Val.int) (l1 Val.str))))) f_7), some (Val.str word_2), some ((lE false Val.int) []), some (Val.str told_here_3), none]) (ρ2 := [some ((iE false 0 fs4 (lc Val.int (lc Val.int (lc (dE false kS Val.int) (l1 Val.str))))) f_7), some (Val.str word_2), some ((lE false Val.int) []), some (Val.str r_6), none]) (e_methM (h0 := (e_varP (v := (iE false 0 fs4 (lc Val.int (lc Val.int (lc (dE false kS Val.int) (l1 Val.str))))) tally_1) rfl rfl)) (hi := ins_mid (by decide +kernel)) (c := 0) (m := "tell") (v := (Val.str r_6)) (ρ2 := [some ((iE false 0 fs4 (lc Val.int (lc Val.int (lc (dE false kS Val.int) (l1 Val.str))))) f_7), some (Val.str word_2), some ((lE false Val.int) []), some (Val.str told_here_3), none]) (a_plc (e_varP (v := (iE false 0 fs4 (lc Val.int (lc Val.int (lc (dE false kS Val.int) (l1 Val.str))))) tally_1) rfl rfl) (a_tmp (e_var (v := Val.str word_2) rfl (Pu.p (e := Val.str) word_2)) a_nil) rfl) (mo_7 _) (and2 rfl (ma_tp (ma_fp (rfl) (ma_nil)))) (mv_t (mv_f (rfl) (mv_nil))) hy9 (or_l (mp_t (mp_f (rfl) (mp_nil)))) rfl) rfl rfl ?_
    exact sim_nil rfl
  ·
    subst hy15
    exact sim_ret (ρ1 := [some ((iE false 0 fs4 (lc Val.int (lc Val.int (lc (dE false kS Val.int) (l1 Val.str))))) s_5.1), some (Val.str word_2), some ((lE true Val.bl) s_5.2.1), some (Val.str s_5.2.2), none]) (e_tup (v := (t2 Val.str (lE true Val.bl)) (s_5.2.2, s_5.2.1)) (a_tmp (e_var (v := Val.str s_5.2.2) rfl (Pu.p (e := Val.str) s_5.2.2)) (a_tmp (e_ownP (e_varP (v := (lE false Val.bl) s_5.2.1) rfl rfl) (Fz.f (e := (lE false Val.bl)) (e' := (lE true Val.bl)) s_5.2.1) rfl) a_nil)) rfl rfl) rfl
def f_only (kinds_here_1 : (List Bool)) (place_2 : Int) : FO Bool Unit :=
  O.foN (σ := Unit) (gd (lineB (ivals 0 (11 : Int).toNat).length) <|
  .rt (decide (kinds_here_1 = ((ivals 0 (11 : Int).toNat).map (fun (x_3 : Int) => ((decide (x_3 < 2)) || (decide (x_3 = place_2))))))) ())
theorem r_f_only (n : Nat) (kinds_here_1 : (List Bool)) (place_2 : Int) : FSim Val.bl (fun f : Unit => ([((lE true Val.bl) kinds_here_1), (Val.int place_2)] : List Val)) (f_only kinds_here_1 place_2) ((Dn (n + 1)).run 1 [((lE true Val.bl) kinds_here_1), (Val.int place_2)]) := by
  show FSim _ _ _ ((Dn (n + 0 + 1)).run 1 _)
  rw [run_eq (n + 0) 1 da1 _ rfl rfl]
  refine fsim_foN (k := ⟨[false, false], [((lE true Val.bl) kinds_here_1), (Val.int place_2)], Val.bl, (fun f : Unit => ([((lE true Val.bl) kinds_here_1), (Val.int place_2)] : List Val)), true⟩) rfl ?_
  show Sim _ _ _ (exs (Dn (n + 0)) GG FU [] b1_0 [some ((lE true Val.bl) kinds_here_1), some (Val.int place_2), none])
  refine sim_gd fun hy4 => ?_
  exact sim_ret (ρ1 := [some ((lE true Val.bl) kinds_here_1), some (Val.int place_2), none]) (e_cmp (op := .eq) (a_tmp (e_var (v := (lE true Val.bl) kinds_here_1) rfl (Pu.p (e := (lE true Val.bl)) kinds_here_1)) (a_tmp (e_compM (ρ1 := [some ((lE true Val.bl) kinds_here_1), some (Val.int place_2), none]) (ρw := [some ((lE true Val.bl) kinds_here_1), some (Val.int place_2), none]) (ρ2 := [some ((lE true Val.bl) kinds_here_1), some (Val.int place_2), none]) (enc := Val.int) (enc2 := Val.bl) (f := (fun (x_3 : Int) => ((decide (x_3 < 2)) || (decide (x_3 = place_2))))) (a_tmp (e_int (n := 11)) a_nil) rfl (i_rg1 (by decide)) rfl (fun x_3 => ⟨[some ((lE true Val.bl) kinds_here_1), some (Val.int place_2), some (Val.int x_3)], rfl, rfl, e_or (e_cmp (op := .lt) (v := .bl (decide (x_3 < 2))) (a_tmp (e_var (v := Val.int x_3) rfl (Pu.p (e := Val.int) x_3)) (a_tmp (e_int (n := 2)) a_nil)) rfl) (fun _ => e_cmp (op := .eq) (a_tmp (e_var (v := Val.int x_3) rfl (Pu.p (e := Val.int) x_3)) (a_tmp (e_var (v := Val.int place_2) rfl (Pu.p (e := Val.int) place_2)) a_nil)) (g_eq (e := Val.int) (e' := Val.int) (by decide) x_3 place_2))⟩) hy4 (by decide) (by first | exact ⟨rfl, trivial⟩ | exact ⟨rfl, rfl, trivial⟩ | exact ⟨rfl, rfl, rfl, trivial⟩) rfl) a_nil)) (g_eq (e := (lE true Val.bl)) (e' := (lE false Val.bl)) (by decide) kinds_here_1 ((ivals 0 (11 : Int).toNat).map (fun (x_3 : Int) => ((decide (x_3 < 2)) || (decide (x_3 = place_2))))))) rfl
def f_law (script_1 : (List Int)) : FO Bool Unit :=
  O.foN (σ := Unit) (letO (([([] : (List PySem.Str)), ([] : (List PySem.Str))] : (List (List PySem.Str)))) fun mets_2 =>
  O.bind (forO (fun (x_57 : Int) (s_56 : ((List (Int × Int × (List (PySem.Str × Int)) × PySem.Str)) × (List (Int × Int)))) =>
  FO.cl1 (f_draw script_1 (60 + x_57) 10399 4) fun r_60 f_61 =>
  letO (((1 + r_60) : Int)) fun need_64 =>
  FO.cl1 (f_draw script_1 (62 + x_57) 10427 (21 - need_64)) fun r_66 f_67 =>
  gd (ltB s_56.2.length) <|
  letO (((s_56.2 ++ [(need_64, (need_64 + r_66))]) : (List (Int × Int)))) fun rules_71 =>
  un (atZ rules_71 x_57) fun e_73 =>
  un (atZ rules_71 x_57) fun e_75 =>
  FO.cl1 (f_Tally___init__ () e_73.1 e_75.2) fun r_77 f_78 =>
  gd (ltB s_56.1.length) <|
  letO (((s_56.1 ++ [f_78]) : (List (Int × Int × (List (PySem.Str × Int)) × PySem.Str)))) fun tallies_82 =>
  .nx (tallies_82, rules_71)) (ivals 0 (2 : Int).toNat) (([] : (List (Int × Int × (List (PySem.Str × Int)) × PySem.Str))), ([] : (List (Int × Int))))) fun (s_84 : ((List (Int × Int × (List (PySem.Str × Int)) × PySem.Str)) × (List (Int × Int)))) =>
  gd (rgB (if ((script_1.length : Nat) : Int) < 40 then ((script_1.length : Nat) : Int) else 40)) <|
  O.bind (forO (fun (x_283 : Int) (s_282 : ((List (Int × Int × (List (PySem.Str × Int)) × PySem.Str)) × (List (List PySem.Str)))) =>
  FO.cl1 (f_draw script_1 x_283 10429 2) fun r_289 f_290 =>
  un (atK s_282.1 r_289) fun e_293 =>
  un (atK s_282.2 r_289) fun e_295 =>
  un (atZ s_84.2 r_289) fun e_297 =>
  FO.cl1 (f_alike e_293.2 e_295.2 e_297) fun r_299 f_300 =>
  if (!r_299) = true then
  (.rt false ())
  else
  FO.cl1 (f_draw script_1 x_283 10433 3) fun r_305 f_306 =>
  un (atZ [("yes" : PySem.Str), ("no" : PySem.Str), ("unsure" : PySem.Str)] r_305) fun e_309 =>
  FO.cl1 (f_draw script_1 x_283 10453 9) fun r_311 f_312 =>
  O.bind (if (decide (r_311 = 0)) = true then
  (FO.cl1 (f_draw script_1 x_283 10457 5) fun r_330 f_331 =>
  un (atZ [("" : PySem.Str), ("Yes" : PySem.Str), ("nope" : PySem.Str), ("yes " : PySem.Str), ("more" : PySem.Str)] r_330) fun e_334 =>
  .nx e_334)
  else
  (.nx e_309)) fun s_329 =>
  un (atK s_282.1 r_289) fun e_336 =>
  FO.cl1 (f_asked e_336.2 s_329) fun r_338 f_339 =>
  un (atK s_282.2 r_289) fun e_342 =>
  un (atZ s_84.2 r_289) fun e_344 =>
  FO.cl1 (f_told e_342.2 e_344) fun r_346 f_347 =>
  un (if (!decide (r_346 = ("more" : PySem.Str))) = true then some true else gdo (shI s_329 ([("yes" : PySem.Str), ("no" : PySem.Str), ("unsure" : PySem.Str)] : List PySem.Str)) (some (!decide (s_329 ∈ ([("yes" : PySem.Str), ("no" : PySem.Str), ("unsure" : PySem.Str)] : List PySem.Str))))) fun b_351 =>
  if b_351 = true then
  (FO.cl1 (f_only r_338.2 6) fun r_355 f_356 =>
  if (!r_355) = true then
  (.rt false ())
  else
  .nx ((s_282.1.set e_336.1 f_339), s_282.2))
  else
  un (atK s_282.2 r_289) fun e_361 =>
  gd (ltB e_361.2.length) <|
  letO (((s_282.2.set e_361.1 (e_361.2 ++ [s_329])) : (List (List PySem.Str)))) fun mets_364 =>
  un (if (!decide (r_338.2 = ([] : (List Bool)))) = true then some true else gdo (reprB (PyData.str r_338.1)) (Option.bind (atK mets_364 r_289) fun e_367 => Option.bind (atZ s_84.2 r_289) fun e_369 => Option.bind (FO.val (f_told e_367.2 e_369)) fun r_371 => gdo (reprB (PyData.str r_371)) (some (!decide ((PyData.shown (PyData.str r_338.1)) = (PyData.shown (PyData.str r_371))))))) fun b_376 =>
  if b_376 = true then
  (.rt false ())
  else
  .nx ((s_282.1.set e_336.1 f_339), mets_364)) (ivals 0 (if ((script_1.length : Nat) : Int) < 40 then ((script_1.length : Nat) : Int) else 40).toNat) (s_84.1, mets_2)) fun (s_381 : ((List (Int × Int × (List (PySem.Str × Int)) × PySem.Str)) × (List (List PySem.Str)))) =>
  un (atK s_381.1 0) fun e_387 =>
  un (atK s_381.2 0) fun e_389 =>
  un (atZ s_84.2 0) fun e_391 =>
  FO.cl1 (f_alike e_387.2 e_389.2 e_391) fun r_393 f_394 =>
  un (if r_393 = true then Option.bind (atK s_381.1 1) fun e_397 => Option.bind (atK s_381.2 1) fun e_399 => Option.bind (atZ s_84.2 1) fun e_401 => Option.bind (FO.val (f_alike e_397.2 e_399.2 e_401)) fun r_403 => some r_403 else some false) fun b_407 =>
  .rt b_407 ())
theorem r_f_law (n : Nat) (script_1 : (List Int)) : FSim Val.bl (fun f : Unit => ([((rE Val.int) script_1)] : List Val)) (f_law script_1) ((Dn (n + 4)).run 5 [((rE Val.int) script_1)]) := by
  show FSim _ _ _ ((Dn (n + 3 + 1)).run 5 _)
  rw [run_eq (n + 3) 5 da5 _ rfl rfl]
  refine fsim_foN (k := ⟨[false], [((rE Val.int) script_1)], Val.bl, (fun f : Unit => ([((rE Val.int) script_1)] : List Val)), true⟩) rfl ?_
  show Sim _ _ _ (exs (Dn (n + 3)) GG FU [] b5_21 [some ((rE Val.int) script_1), none, none, none, none, none, none, none, none, none])
  refine sim_set (v := ((lE false Val.int) [])) (ρ1 := [some ((rE Val.int) script_1), none, none, none, none, none, none, none, none, none]) (ρ2 := [some ((rE Val.int) script_1), some ((lE false Val.int) []), none, none, none, none, none, none, none, none]) (e_lst a_nil rfl rfl) rfl rfl ?_
  refine sim_set (v := ((lE false Val.int) [])) (ρ1 := [some ((rE Val.int) script_1), some ((lE false Val.int) []), none, none, none, none, none, none, none, none]) (ρ2 := [some ((rE Val.int) script_1), some ((lE false Val.int) []), some ((lE false Val.int) []), none, none, none, none, none, none, none]) (e_lst a_nil rfl rfl) rfl rfl ?_
  refine sim_let fun mets_2 hy3 => ?_
  refine sim_set (v := ((lE false (lE false Val.str)) [([] : (List PySem.Str)), ([] : (List PySem.Str))])) (ρ1 := [some ((rE Val.int) script_1), some ((lE false Val.int) []), some ((lE false Val.int) []), none, none, none, none, none, none, none]) (ρ2 := [some ((rE Val.int) script_1), some ((lE false Val.int) []), some ((lE false Val.int) []), some ((lE false (lE false Val.str)) mets_2), none, none, none, none, none, none]) (e_lst (v := (lE false (lE false Val.str)) [([] : (List PySem.Str)), ([] : (List PySem.Str))]) (a_tmp (e_lst a_nil rfl rfl) (a_tmp (e_lst a_nil rfl rfl) a_nil)) rfl rfl) rfl (by subst hy3; rfl) ?_
  refine sim_for (E1 := (fun (s_56 : ((List (Int × Int × (List (PySem.Str × Int)) × PySem.Str)) × (List (Int × Int)))) (ρ' : VS.Env) => ∃ j_58 j_59 : Option Val, ρ' = [some ((rE Val.int) script_1), some ((lE false (iE false 0 fs4 (lc Val.int (lc Val.int (lc (dE false kS Val.int) (l1 Val.str)))))) s_56.1), some ((lE false (t2 Val.int Val.int)) s_56.2), some ((lE false (lE false Val.str)) mets_2), j_58, j_59, none, none, none, none])) (enc := Val.int) (ρ1 := [some ((rE Val.int) script_1), some ((lE false Val.int) []), some ((lE false Val.int) []), some ((lE false (lE false Val.str)) mets_2), none, none, none, none, none, none]) (a_tmp (e_int (n := 2)) a_nil) rfl (i_rg1 (by decide)) ⟨_, _, rfl⟩ (fun x_57 s_56 ρ' ⟨j_58, j_59, hy411⟩ => ?_) fun s_84 ρ' ⟨j_85, j_86, hy412⟩ => ?_
  ·
    subst hy411
    refine ⟨[some ((rE Val.int) script_1), some ((lE false (iE false 0 fs4 (lc Val.int (lc Val.int (lc (dE false kS Val.int) (l1 Val.str)))))) s_56.1), some ((lE false (t2 Val.int Val.int)) s_56.2), some ((lE false (lE false Val.str)) mets_2), some (Val.int x_57), j_59, none, none, none, none], rfl, ?_⟩
    refine sim_cl1 (r_f_draw (n + 2) script_1 (60 + x_57) 10399 4) fun r_60 f_61 hy62 hy63 => ?_
    refine sim_let fun need_64 hy65 => ?_
    refine sim_set (v := (Val.int (1 + r_60))) (ρ1 := [some ((rE Val.int) script_1), some ((lE false (iE false 0 fs4 (lc Val.int (lc Val.int (lc (dE false kS Val.int) (l1 Val.str)))))) s_56.1), some ((lE false (t2 Val.int Val.int)) s_56.2), some ((lE false (lE false Val.str)) mets_2), some (Val.int x_57), j_59, none, none, none, none]) (ρ2 := [some ((rE Val.int) script_1), some ((lE false (iE false 0 fs4 (lc Val.int (lc Val.int (lc (dE false kS Val.int) (l1 Val.str)))))) s_56.1), some ((lE false (t2 Val.int Val.int)) s_56.2), some ((lE false (lE false Val.str)) mets_2), some (Val.int x_57), some (Val.int need_64), none, none, none, none]) (e_bin (op := .add) (v := .int (1 + r_60)) (a_tmp (e_int (n := 1)) (a_tmp (e_call (v := (Val.int r_60)) (a_tmp (e_var (v := (rE Val.int) script_1) rfl (Pu.p (e := (rE Val.int)) script_1)) (a_tmp (e_bin (op := .add) (v := .int (60 + x_57)) (a_tmp (e_int (n := 60)) (a_tmp (e_var (v := Val.int x_57) rfl (Pu.p (e := Val.int) x_57)) a_nil)) rfl) (a_tmp (e_int (n := 10399)) (a_tmp (e_int (n := 4)) a_nil)))) (by rw [mo_0]; rfl) (fz_cons (Fz.f (e := (rE Val.int)) (e' := (rE Val.int)) script_1) (fz_cons (rfl) (fz_cons (rfl) (fz_cons (rfl) (fz_nil))))) hy63 (or_l (pu_cons (Pu.p (e := (rE Val.int)) script_1) (pu_cons (rfl) (pu_cons (rfl) (pu_cons (rfl) (pu_nil))))))) a_nil)) rfl) rfl (by subst hy65; rfl) ?_
    refine sim_cl1 (r_f_draw (n + 2) script_1 (62 + x_57) 10427 (21 - need_64)) fun r_66 f_67 hy68 hy69 => ?_
    refine sim_gd fun hy70 => ?_
    refine sim_let fun rules_71 hy72 => ?_
    refine sim_expr (a := (Val.non, .tmp)) (ρ1 := [some ((rE Val.int) script_1), some ((lE false (iE false 0 fs4 (lc Val.int (lc Val.int (lc (dE false kS Val.int) (l1 Val.str)))))) s_56.1), some ((lE false (t2 Val.int Val.int)) rules_71), some ((lE false (lE false Val.str)) mets_2), some (Val.int x_57), some (Val.int need_64), none, none, none, none]) (by subst hy72; exact e_mu (as := [((t2 Val.int Val.int) (need_64, (need_64 + r_66)), .tmp)]) (x' := .non) (e_varP (v := (lE false (t2 Val.int Val.int)) s_56.2) rfl rfl) rfl (a_plc (e_varP (v := (lE false (t2 Val.int Val.int)) s_56.2) rfl rfl) (a_tmp (e_tup (v := (t2 Val.int Val.int) (need_64, (need_64 + r_66))) (a_tmp (e_var (v := Val.int need_64) rfl (Pu.p (e := Val.int) need_64)) (a_tmp (e_bin (op := .add) (v := .int (need_64 + r_66)) (a_tmp (e_var (v := Val.int need_64) rfl (Pu.p (e := Val.int) need_64)) (a_tmp (e_call (v := (Val.int r_66)) (a_tmp (e_var (v := (rE Val.int) script_1) rfl (Pu.p (e := (rE Val.int)) script_1)) (a_tmp (e_bin (op := .add) (v := .int (62 + x_57)) (a_tmp (e_int (n := 62)) (a_tmp (e_var (v := Val.int x_57) rfl (Pu.p (e := Val.int) x_57)) a_nil)) rfl) (a_tmp (e_int (n := 10427)) (a_tmp (e_bin (op := .sub) (v := .int (21 - need_64)) (a_tmp (e_int (n := 21)) (a_tmp (e_var (v := Val.int need_64) rfl (Pu.p (e := Val.int) need_64)) a_nil)) rfl) a_nil)))) (by rw [mo_0]; rfl) (fz_cons (Fz.f (e := (rE Val.int)) (e' := (rE Val.int)) script_1) (fz_cons (rfl) (fz_cons (rfl) (fz_cons (rfl) (fz_nil))))) hy69 (or_l (pu_cons (Pu.p (e := (rE Val.int)) script_1) (pu_cons (rfl) (pu_cons (rfl) (pu_cons (rfl) (pu_nil))))))) a_nil)) rfl) a_nil)) rfl rfl) a_nil) rfl) (mu_plc rfl (g_append (e := (t2 Val.int Val.int)) s_56.2 (need_64, (need_64 + r_66)) hy70) rfl)) ?_
    refine sim_un fun e_73 hy74 => ?_
    refine sim_un fun e_75 hy76 => ?_
    refine sim_cl1 (r_f_Tally___init__ (n + 2) () e_73.1 e_75.2) fun r_77 f_78 hy79 hy80 => ?_
    refine sim_gd fun hy81 => ?_
    refine sim_let fun tallies_82 hy83 => ?_
    refine sim_expr (a := (Val.non, .tmp)) (ρ1 := [some ((rE Val.int) script_1), some ((lE false (iE false 0 fs4 (lc Val.int (lc Val.int (lc (dE false kS Val.int) (l1 Val.str)))))) tallies_82), some ((lE false (t2 Val.int Val.int)) rules_71), some ((lE false (lE false Val.str)) mets_2), some (Val.int x_57), some (Val.int need_64), none, none, none, none]) (by subst hy83; exact e_mu (as := [((iE false 0 fs4 (lc Val.int (lc Val.int (lc (dE false kS Val.int) (l1 Val.str))))) f_78, .tmp)]) (x' := .non) (e_varP (v := (lE false (iE false 0 fs4 (lc Val.int (lc Val.int (lc (dE false kS Val.int) (l1 Val.str)))))) s_56.1) rfl rfl) rfl (a_plc (e_varP (v := (lE false (iE false 0 fs4 (lc Val.int (lc Val.int (lc (dE false kS Val.int) (l1 Val.str)))))) s_56.1) rfl rfl) (a_tmp (e_make (v := ((iE false 0 fs4 (lc Val.int (lc Val.int (lc (dE false kS Val.int) (l1 Val.str))))) f_78)) (a_tmp (e_ix (v := (Val.int e_73.1)) (a_tmp (e_ix (a_plc (e_varP (v := (lE false (t2 Val.int Val.int)) rules_71) rfl rfl) (a_tmp (e_var (v := Val.int x_57) rfl (Pu.p (e := Val.int) x_57)) a_nil) rfl) (ixZ (e := (t2 Val.int Val.int)) rfl hy74)) (a_tmp (e_int (n := 0)) a_nil)) (ixT (k := 0) rfl rfl (Pu.p (e := Val.int) e_73.1))) (a_tmp (e_ix (v := (Val.int e_75.2)) (a_tmp (e_ix (a_plc (e_varP (v := (lE false (t2 Val.int Val.int)) rules_71) rfl rfl) (a_tmp (e_var (v := Val.int x_57) rfl (Pu.p (e := Val.int) x_57)) a_nil) rfl) (ixZ (e := (t2 Val.int Val.int)) rfl hy76)) (a_tmp (e_int (n := 1)) a_nil)) (ixT (k := 1) rfl rfl (Pu.p (e := Val.int) e_75.2))) a_nil)) (mo_6 _) (and2 (and2 (and2 rfl rfl) (pu_cons (rfl) (pu_cons (rfl) (pu_nil)))) rfl) rfl hy80) a_nil) rfl) (mu_plc rfl (g_append (e := (iE false 0 fs4 (lc Val.int (lc Val.int (lc (dE false kS Val.int) (l1 Val.str)))))) s_56.1 f_78 hy81) rfl)) ?_
    exact sim_nil ⟨_, _, rfl⟩
  ·
    subst hy412
    refine sim_gd fun hy87 => ?_
    refine sim_for (E1 := (fun (s_282 : ((List (Int × Int × (List (PySem.Str × Int)) × PySem.Str)) × (List (List PySem.Str)))) (ρ' : VS.Env) => ∃ j_284 j_285 j_286 j_287 j_288 : Option Val, ρ' = [some ((rE Val.int) script_1), some ((lE false (iE false 0 fs4 (lc Val.int (lc Val.int (lc (dE false kS Val.int) (l1 Val.str)))))) s_282.1), some ((lE false (t2 Val.int Val.int)) s_84.2), some ((lE false (lE false Val.str)) s_282.2), j_284, j_86, j_285, j_286, j_287, j_288])) (enc := Val.int) (ρ1 := [some ((rE Val.int) script_1), some ((lE false (iE false 0 fs4 (lc Val.int (lc Val.int (lc (dE false kS Val.int) (l1 Val.str)))))) s_84.1), some ((lE false (t2 Val.int Val.int)) s_84.2), some ((lE false (lE false Val.str)) mets_2), j_85, j_86, none, none, none, none]) (a_tmp (e_bi (f := .min2) (v := .int (if ((script_1.length : Nat) : Int) < 40 then ((script_1.length : Nat) : Int) else 40)) (a_tmp (e_int (n := 40)) (a_tmp (e_bi (f := .len) (v := .int ((script_1.length : Nat) : Int)) (a_tmp (e_var (v := (rE Val.int) script_1) rfl (Pu.p (e := (rE Val.int)) script_1)) a_nil) (g_len_r (e := Val.int) script_1)) a_nil)) rfl) a_nil) rfl (i_rg1 hy87) ⟨_, _, _, _, _, rfl⟩ (fun x_283 s_282 ρ' ⟨j_284, j_285, j_286, j_287, j_288, hy409⟩ => ?_) fun s_381 ρ' ⟨j_382, j_383, j_384, j_385, j_386, hy410⟩ => ?_
    ·
      subst hy409
      refine ⟨[some ((rE Val.int) script_1), some ((lE false (iE false 0 fs4 (lc Val.int (lc Val.int (lc (dE false kS Val.int) (l1 Val.str)))))) s_282.1), some ((lE false (t2 Val.int Val.int)) s_84.2), some ((lE false (lE false Val.str)) s_282.2), some (Val.int x_283), j_86, j_285, j_286, j_287, j_288], rfl, ?_⟩
      refine sim_cl1 (r_f_draw (n + 2) script_1 x_283 10429 2) fun r_289 f_290 hy291 hy292 => ?_
      refine sim_set (v := (Val.int r_289)) (ρ1 := [some ((rE Val.int) script_1), some ((lE false (iE false 0 fs4 (lc Val.int (lc Val.int (lc (dE false kS Val.int) (l1 Val.str)))))) s_282.1), some ((lE false (t2 Val.int Val.int)) s_84.2), some ((lE false (lE false Val.str)) s_282.2), some (Val.int x_283), j_86, j_285, j_286, j_287, j_288]) (ρ2 := [some ((rE Val.int) script_1), some ((lE false (iE false 0 fs4 (lc Val.int (lc Val.int (lc (dE false kS Val.int) (l1 Val.str)))))) s_282.1), some ((lE false (t2 Val.int Val.int)) s_84.2), some ((lE false (lE false Val.str)) s_282.2), some (Val.int x_283), j_86, some (Val.int r_289), j_286, j_287, j_288]) (e_call (v := (Val.int r_289)) (a_tmp (e_var (v := (rE Val.int) script_1) rfl (Pu.p (e := (rE Val.int)) script_1)) (a_tmp (e_var (v := Val.int x_283) rfl (Pu.p (e := Val.int) x_283)) (a_tmp (e_int (n := 10429)) (a_tmp (e_int (n := 2)) a_nil)))) (by rw [mo_0]; rfl) (fz_cons (Fz.f (e := (rE Val.int)) (e' := (rE Val.int)) script_1) (fz_cons (rfl) (fz_cons (rfl) (fz_cons (rfl) (fz_nil))))) hy292 (or_l (pu_cons (Pu.p (e := (rE Val.int)) script_1) (pu_cons (rfl) (pu_cons (rfl) (pu_cons (rfl) (pu_nil))))))) rfl rfl ?_
      refine sim_un fun e_293 hy294 => ?_
      refine sim_un fun e_295 hy296 => ?_
      refine sim_un fun e_297 hy298 => ?_
      refine sim_cl1 (r_f_alike (n + 1) e_293.2 e_295.2 e_297) fun r_299 f_300 hy301 hy302 => ?_
      refine sim_ifL (ρ1 := [some ((rE Val.int) script_1), some ((lE false (iE false 0 fs4 (lc Val.int (lc Val.int (lc (dE false kS Val.int) (l1 Val.str)))))) s_282.1), some ((lE false (t2 Val.int Val.int)) s_84.2), some ((lE false (lE false Val.str)) s_282.2), some (Val.int x_283), j_86, some (Val.int r_289), j_286, j_287, j_288]) (e_not (e_call (v := (Val.bl r_299)) (a_path (e_ix (a_plc (e_varP (v := (lE false (iE false 0 fs4 (lc Val.int (lc Val.int (lc (dE false kS Val.int) (l1 Val.str)))))) s_282.1) rfl rfl) (a_tmp (e_var (v := Val.int r_289) rfl (Pu.p (e := Val.int) r_289)) a_nil) rfl) (ixPk (e := (iE false 0 fs4 (lc Val.int (lc Val.int (lc (dE false kS Val.int) (l1 Val.str)))))) hy294 rfl)) rfl (a_path (e_ix (a_plc (e_varP (v := (lE false (lE false Val.str)) s_282.2) rfl rfl) (a_tmp (e_var (v := Val.int r_289) rfl (Pu.p (e := Val.int) r_289)) a_nil) rfl) (ixPk (e := (lE false Val.str)) hy296 rfl)) rfl (a_tmp (e_ix (a_plc (e_varP (v := (lE false (t2 Val.int Val.int)) s_84.2) rfl rfl) (a_tmp (e_var (v := Val.int r_289) rfl (Pu.p (e := Val.int) r_289)) a_nil) rfl) (ixZ (e := (t2 Val.int Val.int)) rfl hy298)) a_nil))) (by rw [mo_4]; rfl) (fz_cons (Fz.f (e := (iE false 0 fs4 (lc Val.int (lc Val.int (lc (dE false kS Val.int) (l1 Val.str)))))) (e' := (iE true 0 fs4 (lc Val.int (lc Val.int (lc (dE true kS Val.int) (l1 Val.str)))))) e_293.2) (fz_cons (Fz.f (e := (lE false Val.str)) (e' := (lE true Val.str)) e_295.2) (fz_cons (Fz.f (e := (t2 Val.int Val.int)) (e' := (t2 Val.int Val.int)) e_297) (fz_nil)))) hy302 (or_r (rfl)))) (fun hy303 => ?_) fun hy304 => ?_
      ·
        exact sim_ret (ρ1 := [some ((rE Val.int) script_1), some ((lE false (iE false 0 fs4 (lc Val.int (lc Val.int (lc (dE false kS Val.int) (l1 Val.str)))))) s_282.1), some ((lE false (t2 Val.int Val.int)) s_84.2), some ((lE false (lE false Val.str)) s_282.2), some (Val.int x_283), j_86, some (Val.int r_289), j_286, j_287, j_288]) (e_bl) rfl
      ·
        refine sim_nilk ?_
        show Sim _ _ _ (exs (Dn (n + 3)) GG FU [] b5_10 [some ((rE Val.int) script_1), some ((lE false (iE false 0 fs4 (lc Val.int (lc Val.int (lc (dE false kS Val.int) (l1 Val.str)))))) s_282.1), some ((lE false (t2 Val.int Val.int)) s_84.2), some ((lE false (lE false Val.str)) s_282.2), some (Val.int x_283), j_86, some (Val.int r_289), j_286, j_287, j_288])
        refine sim_cl1 (r_f_draw (n + 2) script_1 x_283 10433 3) fun r_305 f_306 hy307 hy308 => ?_
        refine sim_un fun e_309 hy310 => ?_
        refine sim_set (v := (Val.str e_309)) (ρ1 := [some ((rE Val.int) script_1), some ((lE false (iE false 0 fs4 (lc Val.int (lc Val.int (lc (dE false kS Val.int) (l1 Val.str)))))) s_282.1), some ((lE false (t2 Val.int Val.int)) s_84.2), some ((lE false (lE false Val.str)) s_282.2), some (Val.int x_283), j_86, some (Val.int r_289), j_286, j_287, j_288]) (ρ2 := [some ((rE Val.int) script_1), some ((lE false (iE false 0 fs4 (lc Val.int (lc Val.int (lc (dE false kS Val.int) (l1 Val.str)))))) s_282.1), some ((lE false (t2 Val.int Val.int)) s_84.2), some ((lE false (lE false Val.str)) s_282.2), some (Val.int x_283), j_86, some (Val.int r_289), some (Val.str e_309), j_287, j_288]) (e_ix (a_tmp (e_lst (v := (lE false Val.str) [("yes" : PySem.Str), ("no" : PySem.Str), ("unsure" : PySem.Str)]) (a_tmp (e_str) (a_tmp (e_str) (a_tmp (e_str) a_nil))) rfl rfl) (a_tmp (e_call (v := (Val.int r_305)) (a_tmp (e_var (v := (rE Val.int) script_1) rfl (Pu.p (e := (rE Val.int)) script_1)) (a_tmp (e_var (v := Val.int x_283) rfl (Pu.p (e := Val.int) x_283)) (a_tmp (e_int (n := 10433)) (a_tmp (e_int (n := 3)) a_nil)))) (by rw [mo_0]; rfl) (fz_cons (Fz.f (e := (rE Val.int)) (e' := (rE Val.int)) script_1) (fz_cons (rfl) (fz_cons (rfl) (fz_cons (rfl) (fz_nil))))) hy308 (or_l (pu_cons (Pu.p (e := (rE Val.int)) script_1) (pu_cons (rfl) (pu_cons (rfl) (pu_cons (rfl) (pu_nil))))))) a_nil)) (ixZ (e := Val.str) rfl hy310)) rfl rfl ?_
        refine sim_cl1 (r_f_draw (n + 2) script_1 x_283 10453 9) fun r_311 f_312 hy313 hy314 => ?_
        refine sim_if (E1 := (fun (s_329 : PySem.Str) (ρ' : VS.Env) => ρ' = [some ((rE Val.int) script_1), some ((lE false (iE false 0 fs4 (lc Val.int (lc Val.int (lc (dE false kS Val.int) (l1 Val.str)))))) s_282.1), some ((lE false (t2 Val.int Val.int)) s_84.2), some ((lE false (lE false Val.str)) s_282.2), some (Val.int x_283), j_86, some (Val.int r_289), some (Val.str s_329), j_287, j_288])) (ρ1 := [some ((rE Val.int) script_1), some ((lE false (iE false 0 fs4 (lc Val.int (lc Val.int (lc (dE false kS Val.int) (l1 Val.str)))))) s_282.1), some ((lE false (t2 Val.int Val.int)) s_84.2), some ((lE false (lE false Val.str)) s_282.2), some (Val.int x_283), j_86, some (Val.int r_289), some (Val.str e_309), j_287, j_288]) (e_cmp (op := .eq) (a_tmp (e_call (v := (Val.int r_311)) (a_tmp (e_var (v := (rE Val.int) script_1) rfl (Pu.p (e := (rE Val.int)) script_1)) (a_tmp (e_var (v := Val.int x_283) rfl (Pu.p (e := Val.int) x_283)) (a_tmp (e_int (n := 10453)) (a_tmp (e_int (n := 9)) a_nil)))) (by rw [mo_0]; rfl) (fz_cons (Fz.f (e := (rE Val.int)) (e' := (rE Val.int)) script_1) (fz_cons (rfl) (fz_cons (rfl) (fz_cons (rfl) (fz_nil))))) hy314 (or_l (pu_cons (Pu.p (e := (rE Val.int)) script_1) (pu_cons (rfl) (pu_cons (rfl) (pu_cons (rfl) (pu_nil))))))) (a_tmp (e_int (n := 0)) a_nil)) (g_eq (e := Val.int) (e' := Val.int) (by decide) r_311 0)) (fun hy315 => ?_) (fun hy316 => ?_) fun s_329 ρ' hy380 => ?_
        ·
          refine sim_cl1 (r_f_draw (n + 2) script_1 x_283 10457 5) fun r_330 f_331 hy332 hy333 => ?_
          refine sim_un fun e_334 hy335 => ?_
          refine sim_set (v := (Val.str e_334)) (ρ1 := [some ((rE Val.int) script_1), some ((lE false (iE false 0 fs4 (lc Val.int (lc Val.int (lc (dE false kS Val.int) (l1 Val.str)))))) s_282.1), some ((lE false (t2 Val.int Val.int)) s_84.2), some ((lE false (lE false Val.str)) s_282.2), some (Val.int x_283), j_86, some (Val.int r_289), some (Val.str e_309), j_287, j_288]) (ρ2 := [some ((rE Val.int) script_1), some ((lE false (iE false 0 fs4 (lc Val.int (lc Val.int (lc (dE false kS Val.int) (l1 Val.str)))))) s_282.1), some ((lE false (t2 Val.int Val.int)) s_84.2), some ((lE false (lE false Val.str)) s_282.2), some (Val.int x_283), j_86, some (Val.int r_289), some (Val.str e_334), j_287, j_288]) (e_ix (a_tmp (e_lst (v := (lE false Val.str) [("" : PySem.Str), ("Yes" : PySem.Str), ("nope" : PySem.Str), ("yes " : PySem.Str), ("more" : PySem.Str)]) (a_tmp (e_str) (a_tmp (e_str) (a_tmp (e_str) (a_tmp (e_str) (a_tmp (e_str) a_nil))))) rfl rfl) (a_tmp (e_call (v := (Val.int r_330)) (a_tmp (e_var (v := (rE Val.int) script_1) rfl (Pu.p (e := (rE Val.int)) script_1)) (a_tmp (e_var (v := Val.int x_283) rfl (Pu.p (e := Val.int) x_283)) (a_tmp (e_int (n := 10457)) (a_tmp (e_int (n := 5)) a_nil)))) (by rw [mo_0]; rfl) (fz_cons (Fz.f (e := (rE Val.int)) (e' := (rE Val.int)) script_1) (fz_cons (rfl) (fz_cons (rfl) (fz_cons (rfl) (fz_nil))))) hy333 (or_l (pu_cons (Pu.p (e := (rE Val.int)) script_1) (pu_cons (rfl) (pu_cons (rfl) (pu_cons (rfl) (pu_nil))))))) a_nil)) (ixZ (e := Val.str) rfl hy335)) rfl rfl ?_
          exact sim_nil rfl
        ·
          exact sim_nil rfl
        ·
          subst hy380
          refine sim_un fun e_336 hy337 => ?_
          refine sim_cl1 (r_f_asked (n + 0) e_336.2 s_329) fun r_338 f_339 hy340 hy341 => ?_
          refine sim_unp (vs := [(Val.str r_338.1), ((lE true Val.bl) r_338.2)]) (ρ1 := [some ((rE Val.int) script_1), some ((lE false (iE false 0 fs4 (lc Val.int (lc Val.int (lc (dE false kS Val.int) (l1 Val.str)))))) (s_282.1.set e_336.1 f_339)), some ((lE false (t2 Val.int Val.int)) s_84.2), some ((lE false (lE false Val.str)) s_282.2), some (Val.int x_283), j_86, some (Val.int r_289), some (Val.str s_329), j_287, j_288]) (ρ2 := [some ((rE Val.int) script_1), some ((lE false (iE false 0 fs4 (lc Val.int (lc Val.int (lc (dE false kS Val.int) (l1 Val.str)))))) (s_282.1.set e_336.1 f_339)), some ((lE false (t2 Val.int Val.int)) s_84.2), some ((lE false (lE false Val.str)) s_282.2), some (Val.int x_283), j_86, some (Val.int r_289), some (Val.str s_329), some (Val.str r_338.1), some ((lE true Val.bl) r_338.2)]) (e_callM (v := ((t2 Val.str (lE true Val.bl)) r_338)) (ρ2 := [some ((rE Val.int) script_1), some ((lE false (iE false 0 fs4 (lc Val.int (lc Val.int (lc (dE false kS Val.int) (l1 Val.str)))))) (s_282.1.set e_336.1 f_339)), some ((lE false (t2 Val.int Val.int)) s_84.2), some ((lE false (lE false Val.str)) s_282.2), some (Val.int x_283), j_86, some (Val.int r_289), some (Val.str s_329), j_287, j_288]) (a_path (e_ix (a_plc (e_varP (v := (lE false (iE false 0 fs4 (lc Val.int (lc Val.int (lc (dE false kS Val.int) (l1 Val.str)))))) s_282.1) rfl rfl) (a_tmp (e_var (v := Val.int r_289) rfl (Pu.p (e := Val.int) r_289)) a_nil) rfl) (ixPk (e := (iE false 0 fs4 (lc Val.int (lc Val.int (lc (dE false kS Val.int) (l1 Val.str)))))) hy337 rfl)) rfl (a_tmp (e_var (v := Val.str s_329) rfl (Pu.p (e := Val.str) s_329)) a_nil)) (mo_3 _) (and2 rfl (ma_tp (ma_fp (rfl) (ma_nil)))) (mv_t (mv_f (rfl) (mv_nil))) hy341 (or_l (mp_t (mp_f (rfl) (mp_nil)))) (mq_p (putAt_dyn rfl (setp_lst (e := (iE false 0 fs4 (lc Val.int (lc Val.int (lc (dE false kS Val.int) (l1 Val.str)))))) (atK_get hy337) (rfl))) (mq_f (mq_n)))) (Pu.p (e := (t2 Val.str (lE true Val.bl))) r_338) rfl rfl ?_
          refine sim_un fun e_342 hy343 => ?_
          refine sim_un fun e_344 hy345 => ?_
          refine sim_cl1 (r_f_told (n + 2) e_342.2 e_344) fun r_346 f_347 hy348 hy349 => ?_
          refine sim_un fun b_351 hy352 => ?_
          refine sim_ifT (ρ1 := [some ((rE Val.int) script_1), some ((lE false (iE false 0 fs4 (lc Val.int (lc Val.int (lc (dE false kS Val.int) (l1 Val.str)))))) (s_282.1.set e_336.1 f_339)), some ((lE false (t2 Val.int Val.int)) s_84.2), some ((lE false (lE false Val.str)) s_282.2), some (Val.int x_283), j_86, some (Val.int r_289), some (Val.str s_329), some (Val.str r_338.1), some ((lE true Val.bl) r_338.2)]) (e_orO (e_cmp (op := .neS) (v := .bl (!decide (r_346 = ("more" : PySem.Str)))) (a_tmp (e_call (v := (Val.str r_346)) (a_path (e_ix (a_plc (e_varP (v := (lE false (lE false Val.str)) s_282.2) rfl rfl) (a_tmp (e_var (v := Val.int r_289) rfl (Pu.p (e := Val.int) r_289)) a_nil) rfl) (ixPk (e := (lE false Val.str)) hy343 rfl)) rfl (a_tmp (e_ix (a_plc (e_varP (v := (lE false (t2 Val.int Val.int)) s_84.2) rfl rfl) (a_tmp (e_var (v := Val.int r_289) rfl (Pu.p (e := Val.int) r_289)) a_nil) rfl) (ixZ (e := (t2 Val.int Val.int)) rfl hy345)) a_nil)) (by rw [mo_2]; rfl) (fz_cons (Fz.f (e := (lE false Val.str)) (e' := (lE true Val.str)) e_342.2) (fz_cons (Fz.f (e := (t2 Val.int Val.int)) (e' := (t2 Val.int Val.int)) e_344) (fz_nil))) hy349 (or_r (rfl))) (a_tmp (e_str) a_nil)) rfl) hy352 (fun _ q => by obtain ⟨hy350, q⟩ := gdo_inv q; have q := Option.some.inj q; subst q; exact ⟨_, e_cmp (op := .notin) (v := .bl (!decide (s_329 ∈ ([("yes" : PySem.Str), ("no" : PySem.Str), ("unsure" : PySem.Str)] : List PySem.Str)))) (a_tmp (e_var (v := Val.str s_329) rfl (Pu.p (e := Val.str) s_329)) (a_tmp (e_lst (v := (lE false Val.str) [("yes" : PySem.Str), ("no" : PySem.Str), ("unsure" : PySem.Str)]) (a_tmp (e_str) (a_tmp (e_str) (a_tmp (e_str) a_nil))) rfl rfl) a_nil)) (g_nin_st (z := false) s_329 ([("yes" : PySem.Str), ("no" : PySem.Str), ("unsure" : PySem.Str)] : List PySem.Str) hy350)⟩)) (fun hy353 => ?_) fun hy354 => ?_
          ·
            refine sim_cl1 (r_f_only (n + 2) r_338.2 6) fun r_355 f_356 hy357 hy358 => ?_
            refine sim_ifL (ρ1 := [some ((rE Val.int) script_1), some ((lE false (iE false 0 fs4 (lc Val.int (lc Val.int (lc (dE false kS Val.int) (l1 Val.str)))))) (s_282.1.set e_336.1 f_339)), some ((lE false (t2 Val.int Val.int)) s_84.2), some ((lE false (lE false Val.str)) s_282.2), some (Val.int x_283), j_86, some (Val.int r_289), some (Val.str s_329), some (Val.str r_338.1), some ((lE true Val.bl) r_338.2)]) (e_not (e_call (v := (Val.bl r_355)) (a_tmp (e_var (v := (lE true Val.bl) r_338.2) rfl (Pu.p (e := (lE true Val.bl)) r_338.2)) (a_tmp (e_int (n := 6)) a_nil)) (by rw [mo_1]; rfl) (fz_cons (Fz.f (e := (lE true Val.bl)) (e' := (lE true Val.bl)) r_338.2) (fz_cons (rfl) (fz_nil))) hy358 (or_l (pu_cons (Pu.p (e := (lE true Val.bl)) r_338.2) (pu_cons (rfl) (pu_nil)))))) (fun hy359 => ?_) fun hy360 => ?_
            ·
              exact sim_ret (ρ1 := [some ((rE Val.int) script_1), some ((lE false (iE false 0 fs4 (lc Val.int (lc Val.int (lc (dE false kS Val.int) (l1 Val.str)))))) (s_282.1.set e_336.1 f_339)), some ((lE false (t2 Val.int Val.int)) s_84.2), some ((lE false (lE false Val.str)) s_282.2), some (Val.int x_283), j_86, some (Val.int r_289), some (Val.str s_329), some (Val.str r_338.1), some ((lE true Val.bl) r_338.2)]) (e_bl) rfl
            ·
              refine sim_nilk ?_
              show Sim _ _ _ (exs (Dn (n + 3)) GG FU [] .nil [some ((rE Val.int) script_1), some ((lE false (iE false 0 fs4 (lc Val.int (lc Val.int (lc (dE false kS Val.int) (l1 Val.str)))))) (s_282.1.set e_336.1 f_339)), some ((lE false (t2 Val.int Val.int)) s_84.2), some ((lE false (lE false Val.str)) s_282.2), some (Val.int x_283), j_86, some (Val.int r_289), some (Val.str s_329), some (Val.str r_338.1), some ((lE true Val.bl) r_338.2)])
              exact sim_nil ⟨_, _, _, _, _, rfl⟩
          ·
            refine sim_un fun e_361 hy362 => ?_
            refine sim_gd fun hy363 => ?_
            refine sim_let fun mets_364 hy365 => ?_
            refine sim_expr (a := (Val.non, .tmp)) (ρ1 := [some ((rE Val.int) script_1), some ((lE false (iE false 0 fs4 (lc Val.int (lc Val.int (lc (dE false kS Val.int) (l1 Val.str)))))) (s_282.1.set e_336.1 f_339)), some ((lE false (t2 Val.int Val.int)) s_84.2), some ((lE false (lE false Val.str)) mets_364), some (Val.int x_283), j_86, some (Val.int r_289), some (Val.str s_329), some (Val.str r_338.1), some ((lE true Val.bl) r_338.2)]) (by subst hy365; exact e_mu (as := [(Val.str s_329, .tmp)]) (x' := .non) (e_ix (a_plc (e_varP (v := (lE false (lE false Val.str)) s_282.2) rfl rfl) (a_tmp (e_var (v := Val.int r_289) rfl (Pu.p (e := Val.int) r_289)) a_nil) rfl) (ixPk (e := (lE false Val.str)) hy362 rfl)) rfl (a_path (e_ix (a_plc (e_varP (v := (lE false (lE false Val.str)) s_282.2) rfl rfl) (a_tmp (e_var (v := Val.int r_289) rfl (Pu.p (e := Val.int) r_289)) a_nil) rfl) (ixPk (e := (lE false Val.str)) hy362 rfl)) rfl (a_tmp (e_var (v := Val.str s_329) rfl (Pu.p (e := Val.str) s_329)) a_nil)) (mu_plc rfl (g_append (e := Val.str) e_361.2 s_329 hy363) (putAt_dyn rfl (setp_lst (e := (lE false Val.str)) (atK_get hy362) (rfl))))) ?_
            refine sim_un fun b_376 hy377 => ?_
            refine sim_ifL (ρ1 := [some ((rE Val.int) script_1), some ((lE false (iE false 0 fs4 (lc Val.int (lc Val.int (lc (dE false kS Val.int) (l1 Val.str)))))) (s_282.1.set e_336.1 f_339)), some ((lE false (t2 Val.int Val.int)) s_84.2), some ((lE false (lE false Val.str)) mets_364), some (Val.int x_283), j_86, some (Val.int r_289), some (Val.str s_329), some (Val.str r_338.1), some ((lE true Val.bl) r_338.2)]) (e_orO (e_cmp (op := .ne) (a_tmp (e_var (v := (lE true Val.bl) r_338.2) rfl (Pu.p (e := (lE true Val.bl)) r_338.2)) (a_tmp (e_lst a_nil rfl rfl) a_nil)) (g_ne (e := (lE true Val.bl)) (e' := (lE false Val.bl)) (by decide) r_338.2 ([] : (List Bool)))) hy377 (fun _ q => by obtain ⟨hy366, q⟩ := gdo_inv q; obtain ⟨e_367, hy368, q⟩ := Option.bind_eq_some_iff.mp q; obtain ⟨e_369, hy370, q⟩ := Option.bind_eq_some_iff.mp q; obtain ⟨r_371, hy373, q⟩ := Option.bind_eq_some_iff.mp q; obtain ⟨f_372, hy374⟩ := fsim_val (r_f_told (n + 2) e_367.2 e_369) hy373; obtain ⟨hy375, q⟩ := gdo_inv q; have q := Option.some.inj q; subst q; exact ⟨_, e_cmp (op := .neS) (v := .bl (!decide ((PyData.shown (PyData.str r_338.1)) = (PyData.shown (PyData.str r_371))))) (a_tmp (e_bi (f := .repr) (a_tmp (e_var (v := Val.str r_338.1) rfl (Pu.p (e := Val.str) r_338.1)) a_nil) (g_repr (e := Val.str) r_338.1 hy366)) (a_tmp (e_bi (f := .repr) (a_tmp (e_call (v := (Val.str r_371)) (a_path (e_ix (a_plc (e_varP (v := (lE false (lE false Val.str)) mets_364) rfl rfl) (a_tmp (e_var (v := Val.int r_289) rfl (Pu.p (e := Val.int) r_289)) a_nil) rfl) (ixPk (e := (lE false Val.str)) hy368 rfl)) rfl (a_tmp (e_ix (a_plc (e_varP (v := (lE false (t2 Val.int Val.int)) s_84.2) rfl rfl) (a_tmp (e_var (v := Val.int r_289) rfl (Pu.p (e := Val.int) r_289)) a_nil) rfl) (ixZ (e := (t2 Val.int Val.int)) rfl hy370)) a_nil)) (by rw [mo_2]; rfl) (fz_cons (Fz.f (e := (lE false Val.str)) (e' := (lE true Val.str)) e_367.2) (fz_cons (Fz.f (e := (t2 Val.int Val.int)) (e' := (t2 Val.int Val.int)) e_369) (fz_nil))) hy374 (or_r (rfl))) a_nil) (g_repr (e := Val.str) r_371 hy375)) a_nil)) rfl⟩)) (fun hy378 => ?_) fun hy379 => ?_
            ·
              exact sim_ret (ρ1 := [some ((rE Val.int) script_1), some ((lE false (iE false 0 fs4 (lc Val.int (lc Val.int (lc (dE false kS Val.int) (l1 Val.str)))))) (s_282.1.set e_336.1 f_339)), some ((lE false (t2 Val.int Val.int)) s_84.2), some ((lE false (lE false Val.str)) mets_364), some (Val.int x_283), j_86, some (Val.int r_289), some (Val.str s_329), some (Val.str r_338.1), some ((lE true Val.bl) r_338.2)]) (e_bl) rfl
            ·
              refine sim_nilk ?_
              show Sim _ _ _ (exs (Dn (n + 3)) GG FU [] .nil [some ((rE Val.int) script_1), some ((lE false (iE false 0 fs4 (lc Val.int (lc Val.int (lc (dE false kS Val.int) (l1 Val.str)))))) (s_282.1.set e_336.1 f_339)), some ((lE false (t2 Val.int Val.int)) s_84.2), some ((lE false (lE false Val.str)) mets_364), some (Val.int x_283), j_86, some (Val.int r_289), some (Val.str s_329), some (Val.str r_338.1), some ((lE true Val.bl) r_338.2)])
              exact sim_nil ⟨_, _, _, _, _, rfl⟩
    ·
      subst hy410
      refine sim_un fun e_387 hy388 => ?_
      refine sim_un fun e_389 hy390 => ?_
      refine sim_un fun e_391 hy392 => ?_
      refine sim_cl1 (r_f_alike (n + 1) e_387.2 e_389.2 e_391) fun r_393 f_394 hy395 hy396 => ?_
      refine sim_un fun b_407 hy408 => ?_
      exact sim_ret (ρ1 := [some ((rE Val.int) script_1), some ((lE false (iE false 0 fs4 (lc Val.int (lc Val.int (lc (dE false kS Val.int) (l1 Val.str)))))) s_381.1), some ((lE false (t2 Val.int Val.int)) s_84.2), some ((lE false (lE false Val.str)) s_381.2), j_382, j_86, j_383, j_384, j_385, j_386]) (e_andO (e_call (v := (Val.bl r_393)) (a_path (e_ix (a_plc (e_varP (v := (lE false (iE false 0 fs4 (lc Val.int (lc Val.int (lc (dE false kS Val.int) (l1 Val.str)))))) s_381.1) rfl rfl) (a_tmp (e_int (n := 0)) a_nil) rfl) (ixPk (e := (iE false 0 fs4 (lc Val.int (lc Val.int (lc (dE false kS Val.int) (l1 Val.str)))))) hy388 rfl)) rfl (a_path (e_ix (a_plc (e_varP (v := (lE false (lE false Val.str)) s_381.2) rfl rfl) (a_tmp (e_int (n := 0)) a_nil) rfl) (ixPk (e := (lE false Val.str)) hy390 rfl)) rfl (a_tmp (e_ix (a_plc (e_varP (v := (lE false (t2 Val.int Val.int)) s_84.2) rfl rfl) (a_tmp (e_int (n := 0)) a_nil) rfl) (ixZ (e := (t2 Val.int Val.int)) rfl hy392)) a_nil))) (by rw [mo_4]; rfl) (fz_cons (Fz.f (e := (iE false 0 fs4 (lc Val.int (lc Val.int (lc (dE false kS Val.int) (l1 Val.str)))))) (e' := (iE true 0 fs4 (lc Val.int (lc Val.int (lc (dE true kS Val.int) (l1 Val.str)))))) e_387.2) (fz_cons (Fz.f (e := (lE false Val.str)) (e' := (lE true Val.str)) e_389.2) (fz_cons (Fz.f (e := (t2 Val.int Val.int)) (e' := (t2 Val.int Val.int)) e_391) (fz_nil)))) hy396 (or_r (rfl))) hy408 (fun _ q => by obtain ⟨e_397, hy398, q⟩ := Option.bind_eq_some_iff.mp q; obtain ⟨e_399, hy400, q⟩ := Option.bind_eq_some_iff.mp q; obtain ⟨e_401, hy402, q⟩ := Option.bind_eq_some_iff.mp q; obtain ⟨r_403, hy405, q⟩ := Option.bind_eq_some_iff.mp q; obtain ⟨f_404, hy406⟩ := fsim_val (r_f_alike (n + 1) e_397.2 e_399.2 e_401) hy405; have q := Option.some.inj q; subst q; exact ⟨_, e_call (v := (Val.bl r_403)) (a_path (e_ix (a_plc (e_varP (v := (lE false (iE false 0 fs4 (lc Val.int (lc Val.int (lc (dE false kS Val.int) (l1 Val.str)))))) s_381.1) rfl rfl) (a_tmp (e_int (n := 1)) a_nil) rfl) (ixPk (e := (iE false 0 fs4 (lc Val.int (lc Val.int (lc (dE false kS Val.int) (l1 Val.str)))))) hy398 rfl)) rfl (a_path (e_ix (a_plc (e_varP (v := (lE false (lE false Val.str)) s_381.2) rfl rfl) (a_tmp (e_int (n := 1)) a_nil) rfl) (ixPk (e := (lE false Val.str)) hy400 rfl)) rfl (a_tmp (e_ix (a_plc (e_varP (v := (lE false (t2 Val.int Val.int)) s_84.2) rfl rfl) (a_tmp (e_int (n := 1)) a_nil) rfl) (ixZ (e := (t2 Val.int Val.int)) rfl hy402)) a_nil))) (by rw [mo_4]; rfl) (fz_cons (Fz.f (e := (iE false 0 fs4 (lc Val.int (lc Val.int (lc (dE false kS Val.int) (l1 Val.str)))))) (e' := (iE true 0 fs4 (lc Val.int (lc Val.int (lc (dE true kS Val.int) (l1 Val.str)))))) e_397.2) (fz_cons (Fz.f (e := (lE false Val.str)) (e' := (lE true Val.str)) e_399.2) (fz_cons (Fz.f (e := (t2 Val.int Val.int)) (e' := (t2 Val.int Val.int)) e_401) (fz_nil)))) hy406 (or_r (rfl))⟩)) rfl
def loose0 : List PySem.Str := ["LinegateError", "NoFit", "NoChange", "TooMany", "NoRule", "NoAnswer", "NoLook", "TooLate", "NoRow", "NoText", "WORDS", "Tally"]
def loose1 : List PySem.Str := ["_law_draw", "_law_kinds", "_law_only", "_law_told", "_law_asked", "_law_alike"]
def loose : List PySem.Str := loose0 ++ loose1
def fa : List He.Fa := faOf ts cs ++ gl.map fun p => .int p.1 p.2
abbrev RR : PySem.W.OpenRow := PySem.W.OpenLaw.row PySem.Challenge.rw_linegate_k21_tallies
abbrev hk : PySem.W.Hook := hookN 4 fa (fnX ts xt) xt
def obT (s : PySem.W.SharedT) : He.AlD × Bool := obsN 4 fa (fnX ts xt) xt (HandSHeadRun.getT s)
theorem obT_eq (s : PySem.W.SharedT) : obT s = hk.obs s.abs := congrArg (obsN 4 fa (fnX ts xt) xt) (funext (HandSHeadRun.getT_eq s))
theorem headrun (w : World) : HandSHeadRun.RunEq RR (PySem.W.view RR.prog [21]) hk obT 4000 loose w := by
  intro os
  kernel_rfl
theorem end_ (hrun : ∀ ns : List Int, ns.length ≤ 63 → ∃ fin, (defsAt GG FU (ts.map (·.a)) 40).run 5 [.node .rol (ns.map .int)] = .ok (.bl true) fin) : PySem.Challenge.rw_linegate_k21_tallies.Holds := by
  w_on; o_law
  refine HandSHeadRun.head_any (r := RR) (q := PySem.W.view RR.prog [21]) (H := hk) (ob := obT) (M := 4000) (loose := loose) (d := HandSHeadRun.topDef RR.prog 21) (kwd := []) obT_eq
    (by kernel_rfl) (fun z => by kernel_rfl) headrun (by kernel_rfl) (by kernel_rfl) (by kernel_rfl) (by rfl) (by first | assumption | decide +kernel) (by decide +kernel) ⟨rfl, rfl, rfl, rfl, rfl, by decide +kernel⟩ ?hw ?hc
  case hw => w_witness2
  case hc =>
    refine walk_vs (l := PySem.Challenge.rw_linegate_k21_tallies) (m := 63) (n := 40) (x := "_law_script") rfl (by decide) (by kernel_rfl) ⟨rfl, by decide, by decide⟩ fun w mg ad h Y Gn hmg0 => ?_
    have hmg : mg dt5.name = some (.ref ad) := by
      have e : (HandSHeadRun.topDef RR.prog 21).name = dt5.name := by kernel_rfl
      rw [← e]
      exact hmg0
    exact law_ok (l := PySem.Challenge.rw_linegate_k21_tallies) (cs := cs) (li := 5) (tl := dt5) rfl rfl rfl rfl (by decide +kernel) (xt := xt) cks bks hbk (fun _ z => List.mem_append_left _ z) (fun _ _ _ kin gn says cx => glo_all gl (fun p hp => List.mem_append_right _ (List.mem_map_of_mem hp)) kin gn says cx) hrun Y Gn hmg
theorem end2 (hm : ∀ ns : List Int, ns.length ≤ 63 → f_law ns = .ok true ()) : PySem.Challenge.rw_linegate_k21_tallies.Holds := end_ fun ns hl => by
  have h := r_f_law 36 ns
  rw [hm ns hl] at h
  exact ⟨_, FSim.ok.mp h⟩
end K21

/-! plain laws of dicts (as lists of pairs), of sheets, of what repr shows -/
namespace SL
open PySem L2 VS
section
variable {κ α : Type} [DecidableEq κ]
theorem dget_dput (k : κ) (v : α) (j : κ) : ∀ d : List (κ × α), dget (dput d k v) j = if k = j then some v else dget d j
  | [] => by
    simp only [dput, dget]
  | p :: d => by
    simp only [dput]
    by_cases h : p.1 = k
    · rw [if_pos h]
      simp only [dget, h]
      by_cases e : k = j
      · rw [if_pos e, if_pos e]
      · rw [if_neg e, if_neg e, if_neg e]
    · rw [if_neg h]
      simp only [dget, dget_dput k v j d]
      by_cases e : p.1 = j
      · rw [if_pos e, if_pos e, if_neg fun z => h (e.trans z.symm)]
      · rw [if_neg e, if_neg e]
theorem dkeys_nil : dkeys ([] : List (κ × α)) = [] := rfl
theorem dkeys_cons (p : κ × α) (d : List (κ × α)) : dkeys (p :: d) = p.1 :: dkeys d := rfl
theorem dkeys_app (d e : List (κ × α)) : dkeys (d ++ e) = dkeys d ++ dkeys e := List.map_append
theorem dkeys_len (d : List (κ × α)) : (dkeys d).length = d.length := List.length_map _
theorem keys_dput (k : κ) (v : α) : ∀ d : List (κ × α), dkeys (dput d k v) = if k ∈ dkeys d then dkeys d else dkeys d ++ [k]
  | [] => rfl
  | p :: d => by
    have ih := keys_dput k v d
    simp only [dput, dkeys_cons, List.mem_cons]
    by_cases h : p.1 = k
    · rw [if_pos h, if_pos (.inl h.symm)]; rfl
    · rw [if_neg h, dkeys_cons, ih]
      by_cases e : k ∈ dkeys d
      · rw [if_pos e, if_pos (.inr e)]
      · rw [if_neg e, if_neg (by rintro (z | z); exact h z.symm; exact e z)]; rfl
theorem dget_none {k : κ} : ∀ {d : List (κ × α)}, dget d k = none ↔ k ∉ dkeys d
  | [] => by simp [dget, dkeys_nil]
  | p :: d => by
    have ih := dget_none (k := k) (d := d)
    simp only [dget, dkeys_cons, List.mem_cons]
    by_cases h : p.1 = k
    · simp [h]
    · rw [if_neg h, ih]
      constructor
      · rintro a (z | z); exact h z.symm; exact a z
      · intro a z; exact a (.inr z)
theorem dget_some {k : κ} {d : List (κ × α)} : (∃ v, dget d k = some v) ↔ k ∈ dkeys d := by
  cases h : dget d k with
  | none => simp [dget_none.mp h]
  | some v =>
    refine ⟨fun _ => ?_, fun _ => ⟨v, rfl⟩⟩
    refine Classical.byContradiction fun z => ?_
    rw [dget_none.mpr z] at h; cases h
theorem mem_of_dget {k : κ} {v : α} : ∀ {d : List (κ × α)}, dget d k = some v → (k, v) ∈ d
  | p :: d, h => by
    simp only [dget] at h
    by_cases e : p.1 = k
    · rw [if_pos e] at h; cases h; subst e; exact List.mem_cons_self
    · rw [if_neg e] at h; exact List.mem_cons_of_mem _ (mem_of_dget h)
theorem dget_mem {p : κ × α} : ∀ {d : List (κ × α)}, (dkeys d).Nodup → p ∈ d → dget d p.1 = some p.2
  | q :: d, n, h => by
    simp only [dkeys_cons, List.nodup_cons] at n
    simp only [dget]
    rcases List.mem_cons.mp h with rfl | h
    · rw [if_pos rfl]
    · rw [if_neg fun z : q.1 = p.1 => n.1 (by rw [z]; exact List.mem_map_of_mem h)]
      exact dget_mem n.2 h
theorem nodup_dput {k : κ} {v : α} {d : List (κ × α)} (h : (dkeys d).Nodup) : (dkeys (dput d k v)).Nodup := by
  rw [keys_dput]
  by_cases e : k ∈ dkeys d
  · rw [if_pos e]; exact h
  · rw [if_neg e, List.nodup_append]
    exact ⟨h, by simp, fun a ha b hb z => e (by rw [List.mem_singleton.mp hb] at z; exact z ▸ ha)⟩
theorem len_dput (k : κ) (v : α) (d : List (κ × α)) : (dput d k v).length ≤ d.length + 1 := by
  have := congrArg List.length (keys_dput k v d)
  rw [dkeys_len] at this
  rw [this]
  by_cases h : k ∈ dkeys d
  · rw [if_pos h, dkeys_len]; omega
  · rw [if_neg h, List.length_append, dkeys_len]; simp
theorem dput_new {k : κ} {v : α} : ∀ {d : List (κ × α)}, k ∉ dkeys d → dput d k v = d ++ [(k, v)]
  | [], _ => rfl
  | p :: d, h => by
    simp only [dkeys_cons, List.mem_cons, not_or] at h
    simp only [dput]
    rw [if_neg fun z => h.1 z.symm, dput_new h.2]; rfl
theorem dmerge_new : ∀ {xs d : List (κ × α)}, (dkeys (d ++ xs)).Nodup → dmerge d xs = d ++ xs
  | [], d, _ => by simp [dmerge]
  | p :: xs, d, h => by
    have e : dput d p.1 p.2 = d ++ [p] := dput_new (by
      intro z
      rw [dkeys_app, dkeys_cons, List.nodup_append] at h
      exact h.2.2 p.1 z p.1 (by simp) rfl)
    have : dmerge d (p :: xs) = dmerge (dput d p.1 p.2) xs := rfl
    rw [this, e, dmerge_new (by rw [List.append_assoc]; exact h), List.append_assoc]; rfl
theorem dmerge_nil {xs : List (κ × α)} (h : (dkeys xs).Nodup) : dmerge [] xs = xs := dmerge_new (d := []) h
theorem dget_dmerge (j : κ) : ∀ {xs d : List (κ × α)}, (dkeys xs).Nodup → dget (dmerge d xs) j = (dget xs j).or (dget d j)
  | [], d, _ => rfl
  | p :: xs, d, h => by
    simp only [dkeys_cons, List.nodup_cons] at h
    have : dmerge d (p :: xs) = dmerge (dput d p.1 p.2) xs := rfl
    rw [this, dget_dmerge j h.2, dget_dput]
    simp only [dget]
    by_cases e : p.1 = j
    · rw [if_pos e, if_pos e, dget_none.mpr (e ▸ h.1)]; rfl
    · rw [if_neg e, if_neg e]
theorem nodup_dmerge : ∀ {xs d : List (κ × α)}, (dkeys d).Nodup → (dkeys (dmerge d xs)).Nodup
  | [], _, h => h
  | p :: xs, d, h => nodup_dmerge (xs := xs) (nodup_dput h)
theorem len_dmerge : ∀ (xs d : List (κ × α)), (dmerge d xs).length ≤ d.length + xs.length
  | [], d => Nat.le_refl _
  | p :: xs, d => by
    have h := len_dmerge xs (dput d p.1 p.2)
    have := len_dput p.1 p.2 d
    have e : dmerge d (p :: xs) = dmerge (dput d p.1 p.2) xs := rfl
    rw [e, List.length_cons]; omega
theorem dget_map (g : κ → α) (j : κ) : ∀ ks : List κ, dget (ks.map fun k => (k, g k)) j = if j ∈ ks then some (g j) else none
  | [] => rfl
  | k :: ks => by
    simp only [List.map_cons, dget, dget_map g j ks]
    by_cases e : k = j
    · rw [if_pos e, e, if_pos List.mem_cons_self]
    · rw [if_neg e]
      by_cases m : j ∈ ks
      · rw [if_pos m, if_pos (List.mem_cons_of_mem _ m)]
      · rw [if_neg m, if_neg (by simp [m]; exact fun z => e z.symm)]
theorem keys_map (g : κ → α) (ks : List κ) : dkeys (ks.map fun k => (k, g k)) = ks := by
  rw [dkeys, List.map_map]
  exact List.map_id _
end
/-- two lists in one strict order with the same things are one -/
theorem ext_lt {α : Type} {r : α → α → Prop} (as : ∀ a b, r a b → ¬ r b a) : ∀ {xs ys : List α}, xs.Pairwise r → ys.Pairwise r → (∀ a, a ∈ xs ↔ a ∈ ys) → xs = ys
  | [], [], _, _, _ => rfl
  | [], y :: ys, _, _, h => by have := (h y).mpr List.mem_cons_self; cases this
  | x :: xs, [], _, _, h => by have := (h x).mp List.mem_cons_self; cases this
  | x :: xs, y :: ys, hx, hy, h => by
    rw [List.pairwise_cons] at hx hy
    have e : x = y := by
      rcases List.mem_cons.mp ((h x).mp List.mem_cons_self) with e | a
      · exact e
      · rcases List.mem_cons.mp ((h y).mpr List.mem_cons_self) with e | b
        · exact e.symm
        · exact (as _ _ (hx.1 _ b) (hy.1 _ a)).elim
    subst e
    have ir : ∀ a, ¬ r a a := fun a z => as a a z z
    rw [ext_lt as hx.2 hy.2 fun a => ?_]
    constructor
    · intro m
      rcases List.mem_cons.mp ((h a).mp (List.mem_cons_of_mem _ m)) with e | m2
      · subst e; exact (ir _ (hx.1 _ m)).elim
      · exact m2
    · intro m
      rcases List.mem_cons.mp ((h a).mpr (List.mem_cons_of_mem _ m)) with e | m2
      · subst e; exact (ir _ (hy.1 _ m)).elim
      · exact m2
theorem srt_mem {xs : List Int} {a : Int} : a ∈ srt xs ↔ a ∈ xs := (srt_perm xs).mem_iff
theorem srt_len (xs : List Int) : (srt xs).length = xs.length := (srt_perm xs).length_eq
theorem srt_lt {xs : List Int} (h : xs.Nodup) : (srt xs).Pairwise (· < ·) := by
  have n : (srt xs).Nodup := (srt_perm xs).nodup_iff.mpr h
  have := (List.Pairwise.and (srt_sorted xs) n)
  exact this.imp fun {a b} z => by have := z.1; have := z.2; omega
theorem lt_nodup {xs : List Int} (h : xs.Pairwise (· < ·)) : xs.Nodup := h.imp fun {a b} z => by omega
/-- the value at a slot, nought where there is none -/
def gv (d : List (Int × Int)) (k : Int) : Int := (dget d k).getD 0
/-- a sheet, by the function of its values -/
structure Sheet (s : List (Int × Int)) (g : Int → Int) : Prop where
  lt : (dkeys s).Pairwise (· < ·)
  pos : ∀ p ∈ s, 0 < p.2
  val : ∀ k, gv s k = g k
theorem Sheet.nodup {s : List (Int × Int)} {g : Int → Int} (h : Sheet s g) : (dkeys s).Nodup := lt_nodup h.lt
theorem Sheet.mem {s : List (Int × Int)} {g : Int → Int} (h : Sheet s g) {p : Int × Int} : p ∈ s ↔ 0 < p.2 ∧ g p.1 = p.2 := by
  constructor
  · intro m
    have := dget_mem h.nodup m
    refine ⟨h.pos p m, ?_⟩
    rw [← h.val, gv, this]; rfl
  · rintro ⟨a, b⟩
    have := h.val p.1
    unfold gv at this
    cases e : dget s p.1 with
    | none => rw [e] at this; simp only [Option.getD_none] at this; omega
    | some v =>
      rw [e] at this
      simp only [Option.getD_some] at this
      have m := mem_of_dget e
      rw [this, b] at m
      exact m
theorem Sheet.uniq {s t : List (Int × Int)} {g : Int → Int} (h : Sheet s g) (h' : Sheet t g) : s = t := by
  refine ext_lt (r := fun p q => p.1 < q.1) (fun a b x y => by omega) ?_ ?_ fun p => by rw [h.mem, h'.mem]
  · exact List.pairwise_map.mp h.lt
  · exact List.pairwise_map.mp h'.lt
theorem Sheet.nn {s : List (Int × Int)} {g : Int → Int} (h : Sheet s g) (k : Int) : 0 ≤ g k := by
  rw [← h.val, gv]
  cases e : dget s k with
  | none => simp
  | some v => have := h.pos _ (mem_of_dget e); simp only [Option.getD_some]; omega
theorem sheet_of {d : List (Int × Int)} (n : (dkeys d).Nodup) (h : ∀ k v, dget d k = some v → 0 ≤ v) : Sheet (((srt (dkeys d)).filter fun k => decide (0 < gv d k)).map fun k => (k, gv d k)) (gv d) := by
  refine ⟨?_, ?_, ?_⟩
  · rw [keys_map]; exact (srt_lt n).sublist List.filter_sublist
  · intro p m
    obtain ⟨k, hk, rfl⟩ := List.mem_map.mp m
    exact of_decide_eq_true (List.mem_filter.mp hk).2
  · intro k
    unfold gv
    rw [dget_map (fun k => (dget d k).getD 0)]
    by_cases m : k ∈ (srt (dkeys d)).filter fun k => decide (0 < (dget d k).getD 0)
    · rw [if_pos m]; rfl
    · rw [if_neg m]
      cases e : dget d k with
      | none => rfl
      | some v =>
        have := h k v e
        simp only [Option.getD_none, Option.getD_some]
        refine Classical.byContradiction fun z => m (List.mem_filter.mpr ⟨srt_mem.mpr (dget_some.mp ⟨v, e⟩), decide_eq_true ?_⟩)
        rw [e, Option.getD_some]; omega
theorem sheet_cmp {d : List (Int × Int)} (n : (dkeys d).Nodup) : cmpO (fun (x : Int) => Option.bind (dget d x) fun e => some (decide (0 < e))) (fun (x : Int) => Option.bind (dget d x) fun e => some (x, e)) (srt (dkeys d)) = some (((srt (dkeys d)).filter fun k => decide (0 < gv d k)).map fun k => (k, gv d k)) := by
  have key : ∀ x ∈ srt (dkeys d), dget d x = some (gv d x) := fun x hx => by
    obtain ⟨v, e⟩ := dget_some.mpr (srt_mem.mp hx)
    rw [gv, e]; rfl
  exact cmpO_some (fun x hx => by rw [key x hx]; rfl) fun x hx _ => by rw [key x hx]; rfl
theorem edits_cmp {d n : List (Int × Int)} : cmpO (fun (x : Int) => some true) (fun (x : Int) => Option.bind (dget n x) fun e => some (x, ((dget d x).getD 0), e)) (srt (dkeys n)) = some ((srt (dkeys n)).map fun k => (k, gv d k, gv n k)) := by
  rw [cmpO_some (p := fun _ => true) (g := fun k => (k, gv d k, gv n k)) (fun _ _ => rfl) fun x hx _ => ?_]
  · rw [List.filter_eq_self.mpr fun _ _ => rfl]
  · obtain ⟨v, e⟩ := dget_some.mpr (srt_mem.mp hx)
    rw [gv, gv, e]; rfl
/-- what edits make of values -/
def news (es : List (Int × Int × Int)) : List (Int × Int) := es.map fun x => (x.1, x.2.2)
def after (g : Int → Int) (es : List (Int × Int × Int)) (k : Int) : Int := (dget (news es) k).getD (g k)
theorem keys_news (es : List (Int × Int × Int)) : dkeys (news es) = es.map (·.1) := by simp [dkeys, news]
theorem fold_news (es : List (Int × Int × Int)) : ∀ d : List (Int × Int), es.foldl (fun d x => dput d x.1 x.2.2) d = dmerge d (news es) := by
  induction es with
  | nil => intro d; rfl
  | cons x es ih => intro d; exact ih _
/-- on the way through edits -/
structure dmerge_ (d : List (Int × Int)) (xs : List (Int × Int × Int)) (s : List (Int × Int)) (es : List (Int × Int × Int)) : Prop where
  go : dmerge d (news xs) = dmerge s (news es)
  le : d.length + xs.length ≤ s.length + es.length
theorem dmerge_.step {d : List (Int × Int)} {x : Int × Int × Int} {xs : List (Int × Int × Int)} {s : List (Int × Int)} {es : List (Int × Int × Int)} (h : dmerge_ d (x :: xs) s es) : dmerge_ (dput d x.1 x.2.2) xs s es := by
  refine ⟨h.go, ?_⟩
  have := h.le
  have := len_dput x.1 x.2.2 d
  rw [List.length_cons] at *
  omega
theorem dmerge_.eq {d : List (Int × Int)} {s : List (Int × Int)} {es : List (Int × Int × Int)} (h : dmerge_ d [] s es) : d = dmerge s (news es) := h.go
/-! ### what repr shows -/
structure Sm (n k : Nat) (d : PyData) : Prop where
  sh : d.showable = true
  dp : d.depth ≤ k
  ln : d.shown.length ≤ n
theorem Sm.ok {n k : Nat} {d : PyData} (h : Sm n k d) (hk : k ≤ 60) (hn : n ≤ 1000000) : reprB d = true := by
  unfold reprB
  rw [h.sh, decide_eq_true (Nat.le_trans h.dp hk), decide_eq_true (Nat.le_trans h.ln hn)]; rfl
theorem Sm.int {i : Int} (h : -1000000000000000000 < i ∧ i < 1000000000000000000) : Sm 20 0 (.int i) := by
  refine ⟨?_, by simp [PyData.depth], ?_⟩
  · have e : i.natAbs < 2 ^ 1920 := Nat.lt_of_lt_of_le (show i.natAbs < 2 ^ 60 by omega) (Nat.pow_le_pow_right (by decide) (by decide))
    have : i.natAbs.log2 < 1920 := by
      by_cases z : i.natAbs = 0
      · rw [z]; decide
      · exact (Nat.log2_lt z).mpr e
    simp only [PyData.showable, this, decide_true]
  · have := int_text_length_le10 (a := i) (k := 18) (by decide) (by omega)
    simp only [PyData.shown]
    show (Str.ofString (toString i)).length ≤ 20
    rw [ofString_length]; omega
theorem text_len : ∀ (ts : List Str) (k : Nat) (acc : Str), (textFrom k acc ts).length ≤ acc.length + piled ts
  | [], k, acc => by show acc.length ≤ _; omega
  | t :: ts, k, acc => by
    have h := text_len ts (k + 1) (acc ++ (if k > 0 then ", " else "" : String) ++ t)
    have e : (acc ++ (if k > 0 then ", " else "" : String) ++ t).length ≤ acc.length + 2 + t.length := by
      rw [strLen_append, strLen_append]
      split
      · exact Nat.le_refl _
      · have : (Str.ofString "").length = 0 := rfl
        omega
    rw [piled_cons]
    show (textFrom (k + 1) _ ts).length ≤ _
    omega
theorem piled_le {n : Nat} : ∀ ts : List Str, (∀ t ∈ ts, t.length ≤ n) → piled ts ≤ ts.length * (n + 2)
  | [], _ => by simp [piled_nil]
  | t :: ts, h => by
    have := piled_le ts fun t m => h t (List.mem_cons_of_mem _ m)
    have := h t List.mem_cons_self
    rw [piled_cons, List.length_cons, Nat.succ_mul]; omega
theorem shown_all {n k : Nat} : ∀ {ds : List PyData}, (∀ d ∈ ds, Sm n k d) → PyData.showableAll ds = true ∧ PyData.depthAll ds ≤ k ∧ (PyData.shownAll ds).length = ds.length ∧ ∀ t ∈ PyData.shownAll ds, t.length ≤ n
  | [], _ => ⟨rfl, by simp [PyData.depthAll], rfl, fun t m => by cases m⟩
  | d :: ds, h => by
    obtain ⟨a, b, c, e⟩ := shown_all fun d m => h d (List.mem_cons_of_mem _ m)
    have h1 := h d List.mem_cons_self
    refine ⟨by simp only [PyData.showableAll, h1.sh, a, Bool.and_self], ?_, by simp only [PyData.shownAll, List.length_cons, c], fun t m => ?_⟩
    · have := h1.dp; simp only [PyData.depthAll]; omega
    · rcases List.mem_cons.mp m with rfl | m
      · exact h1.ln
      · exact e t m
theorem Sm.list {n k : Nat} {ds : List PyData} (h : ∀ d ∈ ds, Sm n k d) : Sm (ds.length * (n + 2) + 2) (k + 1) (.list ds) := by
  obtain ⟨a, b, c, e⟩ := shown_all h
  refine ⟨by simp only [PyData.showable, a], by simp only [PyData.depth]; omega, ?_⟩
  have h1 := text_len (PyData.shownAll ds) 0 "["
  have h2 := piled_le _ e
  rw [c] at h2
  simp only [PyData.shown, listText]
  rw [strLen_append]
  have e1 : (Str.ofString "[").length = 1 := rfl
  have e2 : (Str.ofString "]").length = 1 := rfl
  omega
theorem Sm.tuple {n k : Nat} {ds : List PyData} (h : ∀ d ∈ ds, Sm n k d) : Sm (ds.length * (n + 2) + 3) (k + 1) (.tuple ds) := by
  obtain ⟨a, b, c, e⟩ := shown_all h
  refine ⟨by simp only [PyData.showable, a], by simp only [PyData.depth]; omega, ?_⟩
  have h2 := piled_le _ e
  rw [c] at h2
  have h1 : (Str.join ", " (PyData.shownAll ds)).length ≤ piled (PyData.shownAll ds) := by
    by_cases z : PyData.shownAll ds = []
    · rw [z]; exact Nat.zero_le _
    · have := join_length_add _ z; omega
  simp only [PyData.shown, tupleText]
  rw [strLen_append, strLen_append]
  have e1 : (Str.ofString "(").length = 1 := rfl
  have e2 : (Str.ofString (if (PyData.shownAll ds).length == 1 then ",)" else ")")).length ≤ 2 := by
    split <;> decide
  omega
theorem Sm.up {n k m : Nat} {d : PyData} (h : Sm n k d) (e : n ≤ m) : Sm m k d := ⟨h.sh, h.dp, Nat.le_trans h.ln e⟩
def ok18 (i : Int) : Prop := -1000000000000000000 < i ∧ i < 1000000000000000000
theorem rp2 {xs : List (Int × Int)} (h : ∀ x ∈ xs, ok18 x.1 ∧ ok18 x.2) (hl : xs.length ≤ 5000) : reprB (dL (d2 PyData.int PyData.int) xs) = true := by
  have : Sm (xs.length * (47 + 2) + 2) 2 (dL (d2 PyData.int PyData.int) xs) := by
    have := Sm.list (n := 47) (k := 1) (ds := xs.map (d2 PyData.int PyData.int)) fun d m => by
      obtain ⟨x, hx, rfl⟩ := List.mem_map.mp m
      refine (Sm.tuple (n := 20) (k := 0) (ds := [.int x.1, .int x.2]) fun d m => ?_).up (by simp)
      simp only [List.mem_cons, List.not_mem_nil, or_false] at m
      rcases m with rfl | rfl
      · exact .int (h x hx).1
      · exact .int (h x hx).2
    rw [List.length_map] at this
    exact this
  exact this.ok (by decide) (by omega)
theorem rp3 {xs : List (Int × Int × Int)} (h : ∀ x ∈ xs, ok18 x.1 ∧ ok18 x.2.1 ∧ ok18 x.2.2) (hl : xs.length ≤ 5000) : reprB (dL (d3 PyData.int PyData.int PyData.int) xs) = true := by
  have : Sm (xs.length * (69 + 2) + 2) 2 (dL (d3 PyData.int PyData.int PyData.int) xs) := by
    have := Sm.list (n := 69) (k := 1) (ds := xs.map (d3 PyData.int PyData.int PyData.int)) fun d m => by
      obtain ⟨x, hx, rfl⟩ := List.mem_map.mp m
      refine (Sm.tuple (n := 20) (k := 0) (ds := [.int x.1, .int x.2.1, .int x.2.2]) fun d m => ?_).up (by simp)
      simp only [List.mem_cons, List.not_mem_nil, or_false] at m
      rcases m with rfl | rfl | rfl
      · exact .int (h x hx).1
      · exact .int (h x hx).2.1
      · exact .int (h x hx).2.2
    rw [List.length_map] at this
    exact this
  exact this.ok (by decide) (by omega)
end SL

namespace K21
open PySem L2 VS
local macro_rules | `(tactic| and_intros) => `(tactic| first | rfl | assumption | exact lineB_of (by omega) | exact ltB_of (by omega) | exact rgB_of (by omega) | exact posB_of (by omega) | exact dvB_of (by omega))
local macro_rules | `(tactic| ac_rfl) => `(tactic| first
  | with_reducible refine wp_let ?_
  | with_reducible refine wp_bind ?_
  | with_reducible refine wp_nx ?_
  | with_reducible refine wp_rt ?_
  | with_reducible refine wp_gd (by and_intros) ?_
  | with_reducible refine fw_foN ?_
  | with_reducible refine fw_fo ?_)
theorem draw_ok (xs : List Int) (k p m : Int) (hk : 0 ≤ k ∧ k ≤ 100000) (hp : 0 < p) (hm : 0 < m) : ∃ r, f_draw xs k p m = .ok r () ∧ 0 ≤ r ∧ r < m := by
  unfold f_draw
  have h1 : mulOk k k = true := mulOk_l (by omega)
  rw [h1, posB_of hp, posB_of hm]
  by_cases hx : decide (0 < ((xs.length : Nat) : Int)) = true
  · have hx' := of_decide_eq_true hx
    obtain ⟨e, _, he⟩ := atZ_int (xs := xs) (i := k % ((xs.length : Nat) : Int)) ⟨Int.emod_nonneg _ (by omega), Int.emod_lt_of_pos _ hx'⟩
    rw [if_pos hx, posB_of hx', gd_t, he, un_some, O.bind_nx]
    exact ⟨_, rfl, Int.emod_nonneg _ (by omega), Int.emod_lt_of_pos _ hm⟩
  · rw [if_neg hx, O.bind_nx]
    exact ⟨_, rfl, Int.emod_nonneg _ (by omega), Int.emod_lt_of_pos _ hm⟩
theorem only_ok (bs : List Bool) (p : Int) : f_only bs p = .ok (decide (bs = (ivals 0 (11 : Int).toNat).map fun (x : Int) => (decide (x < 2) || decide (x = p)))) () := by
  unfold f_only
  rw [lineB_of (by rw [len_iv]; decide), gd_t]
  rfl
abbrev sY : PySem.Str := "yes"
abbrev sN : PySem.Str := "no"
abbrev sU : PySem.Str := "unsure"
abbrev sM : PySem.Str := "more"
def cnt (m : List PySem.Str) (x : PySem.Str) : Int := ((m.countP fun z => decide (z = x) : Nat) : Int)
def toldS (m : List PySem.Str) (r : Int × Int) : PySem.Str := if cnt m sY = r.1 then sY else if cnt m sN = r.1 then sN else if ((m.length : Nat) : Int) = r.2 then sU else sM
abbrev TL := Int × Int × (List (PySem.Str × Int)) × PySem.Str
structure Tal (t : TL) (m : List PySem.Str) (r : Int × Int) : Prop where
  n : t.1 = r.1
  tt : t.2.1 = r.2
  mt : t.2.2.1 = [(sY, cnt m sY), (sN, cnt m sN), (sU, cnt m sU)]
  l : t.2.2.2 = toldS m r
  w : ∀ x ∈ m, x = sY ∨ x = sN ∨ x = sU
  r1 : 1 ≤ r.1
  r2 : r.1 ≤ r.2
theorem toldS_cases (m : List PySem.Str) (r : Int × Int) : toldS m r = sY ∨ toldS m r = sN ∨ toldS m r = sU ∨ toldS m r = sM := by
  unfold toldS
  split
  · exact .inl rfl
  · split
    · exact .inr (.inl rfl)
    · split
      · exact .inr (.inr (.inl rfl))
      · exact .inr (.inr (.inr rfl))
theorem cnt_app (m : List PySem.Str) (w x : PySem.Str) : cnt (m ++ [w]) x = cnt m x + if w = x then 1 else 0 := by
  unfold cnt
  rw [List.countP_append, List.countP_cons, List.countP_nil]
  by_cases h : w = x
  · rw [if_pos h, decide_eq_true h, if_pos rfl]; omega
  · rw [if_neg h, decide_eq_false h, if_neg (by decide)]; omega
theorem cnt_sum : ∀ {m : List PySem.Str}, (∀ x ∈ m, x = sY ∨ x = sN ∨ x = sU) → cnt m sY + cnt m sN + cnt m sU = ((m.length : Nat) : Int)
  | [], _ => rfl
  | x :: m, h => by
    have ih := cnt_sum fun y hy => h y (List.mem_cons_of_mem _ hy)
    have e : ∀ z, cnt (x :: m) z = cnt m z + if x = z then 1 else 0 := fun z => by
      unfold cnt
      rw [List.countP_cons]
      by_cases q : x = z
      · rw [if_pos q, decide_eq_true q, if_pos rfl]; omega
      · rw [if_neg q, decide_eq_false q, if_neg (by decide)]; omega
    rw [e, e, e, List.length_cons]
    rcases h x List.mem_cons_self with rfl | rfl | rfl
    · rw [if_pos rfl, if_neg (by decide), if_neg (by decide)]; omega
    · rw [if_neg (by decide), if_pos rfl, if_neg (by decide)]; omega
    · rw [if_neg (by decide), if_neg (by decide), if_pos rfl]; omega
theorem told_ok (m : List PySem.Str) (r : Int × Int) : f_told m r = .ok (toldS m r) () := by
  unfold f_told toldS
  show O.foN (O.bind (O.bind (if decide (cnt m sY = r.1) = true then _ else _) _) _) = _
  by_cases h1 : cnt m sY = r.1
  · rw [decide_eq_true h1, if_pos rfl, if_pos h1]; rfl
  · rw [decide_eq_false h1, if_neg (by decide), if_neg h1, O.bind_nx]
    show O.foN (O.bind (O.bind (if decide (cnt m sN = r.1) = true then _ else _) _) _) = _
    by_cases h2 : cnt m sN = r.1
    · rw [decide_eq_true h2, if_pos rfl, if_pos h2]; rfl
    · rw [decide_eq_false h2, if_neg (by decide), if_neg h2, O.bind_nx]
      show O.foN (if decide (((m.length : Nat) : Int) = r.2) = true then _ else _) = _
      by_cases h3 : ((m.length : Nat) : Int) = r.2
      · rw [decide_eq_true h3, if_pos rfl, if_pos h3]; rfl
      · rw [decide_eq_false h3, if_neg (by decide), if_neg h3]; rfl
theorem rp_told (m : List PySem.Str) (r : Int × Int) : reprB (PyData.str (toldS m r)) = true := by
  rcases toldS_cases m r with h | h | h | h <;> rw [h] <;> decide +kernel
theorem counted_ok {t : TL} {m : List PySem.Str} (h : t.2.2.1 = [(sY, cnt m sY), (sN, cnt m sN), (sU, cnt m sU)]) : f_Tally_counted t = .ok (cnt m sY, cnt m sN, cnt m sU) () := by
  unfold f_Tally_counted
  rw [h]
  rfl
theorem cnt_le (m : List PySem.Str) (x : PySem.Str) : 0 ≤ cnt m x ∧ cnt m x ≤ m.length := by
  unfold cnt
  have := List.countP_le_length (p := fun z => decide (z = x)) (l := m)
  omega
theorem alike_ok {t : TL} {m : List PySem.Str} {r : Int × Int} (h : Tal t m r) (hl : m.length ≤ 100) : f_alike t m r = .ok true () := by
  have c1 := cnt_le m sY
  have c2 := cnt_le m sN
  have c3 := cnt_le m sU
  have rp : reprB ((d3 PyData.int PyData.int PyData.int) (cnt m sY, cnt m sN, cnt m sU)) = true :=
    ((SL.Sm.tuple (n := 20) (k := 0) (ds := [.int (cnt m sY), .int (cnt m sN), .int (cnt m sU)]) fun d q => by
      simp only [List.mem_cons, List.not_mem_nil, or_false] at q
      rcases q with rfl | rfl | rfl <;> exact .int (by omega)).up (m := 100) (by simp)).ok (by decide) (by decide)
  apply fw_eq1
  unfold f_alike
  refine fw_foN (wp_cl1e (counted_ok h.mt) (wp_let (wp_gd rp (wp_gd rp (wp_un (x := true) ?_ (wp_rt rfl))))))
  have e : f_Tally_word t = .ok (toldS m r) () := by unfold f_Tally_word; rw [h.l]; rfl
  refine (if_pos (decide_eq_true rfl)).trans ?_
  rw [e, told_ok]
  show gdo (reprB _) (Option.bind (some (toldS m r)) fun q => gdo (reprB (PyData.str q)) _) = _
  rw [gdo_pos _ (rp_told m r), Option.bind_some, gdo_pos _ (rp_told m r), decide_eq_true rfl]
theorem told_more {m : List PySem.Str} {r : Int × Int} (h : toldS m r = sM) : cnt m sY ≠ r.1 ∧ cnt m sN ≠ r.1 ∧ ((m.length : Nat) : Int) ≠ r.2 := by
  unfold toldS at h
  split at h
  · exact absurd h (by decide)
  · split at h
    · exact absurd h (by decide)
    · split at h
      · exact absurd h (by decide)
      · exact ⟨by assumption, by assumption, by assumption⟩
theorem told_push {m : List PySem.Str} {r : Int × Int} (h : toldS m r = sM) (w : PySem.Str) : toldS (m ++ [w]) r = if (w = sY ∨ w = sN) ∧ cnt m w + 1 = r.1 then w else if ((m.length : Nat) : Int) + 1 = r.2 then sU else sM := by
  obtain ⟨h1, h2, h3⟩ := told_more h
  unfold toldS
  rw [cnt_app, cnt_app, List.length_append, List.length_singleton]
  by_cases a : w = sY
  · subst a
    rw [if_pos rfl, if_neg (show ¬ sY = sN by decide), Int.add_zero, if_neg h2]
    by_cases b : cnt m sY + 1 = r.1
    · rw [if_pos b, if_pos ⟨.inl rfl, b⟩]
    · rw [if_neg b, if_neg (fun z => b z.2 : ¬ ((sY = sY ∨ sY = sN) ∧ cnt m sY + 1 = r.1))]; rfl
  · rw [if_neg a, Int.add_zero, if_neg h1]
    by_cases b : w = sN
    · subst b
      rw [if_pos rfl]
      by_cases c : cnt m sN + 1 = r.1
      · rw [if_pos c, if_pos ⟨.inr rfl, c⟩]
      · rw [if_neg c, if_neg (fun z => c z.2 : ¬ ((sN = sY ∨ sN = sN) ∧ cnt m sN + 1 = r.1))]; rfl
    · rw [if_neg b, Int.add_zero, if_neg h2, if_neg (fun z => z.1.elim a b : ¬ ((w = sY ∨ w = sN) ∧ cnt m w + 1 = r.1))]; rfl
theorem tell_ok {t : TL} {m : List PySem.Str} {r : Int × Int} (h : Tal t m r) (hm : toldS m r = sM) {w : PySem.Str} (hw : w = sY ∨ w = sN ∨ w = sU) : ∃ t', f_Tally_tell t w = .ok (toldS (m ++ [w]) r) t' ∧ Tal t' (m ++ [w]) r := by
  have ww : ∀ x ∈ m ++ [w], x = sY ∨ x = sN ∨ x = sU := fun x hx => (List.mem_append.mp hx).elim (h.w x) fun z => by rw [List.mem_singleton.mp z]; exact hw
  have key : FWp (f_Tally_tell t w) (fun x t' => x = toldS (m ++ [w]) r ∧ Tal t' (m ++ [w]) r) NoX := by
    unfold f_Tally_tell
    refine fw_foN (wp_ifF ?_ (wp_un (x := cnt m w) ?_ (wp_gd (ltB_of (by rw [h.mt]; show (3 : Nat) < _; decide)) (wp_let ?_))))
    · rw [h.l, hm]
      rcases hw with rfl | rfl | rfl <;> decide +kernel
    · rw [h.mt]
      rcases hw with rfl | rfl | rfl <;> rfl
    · have em : dput t.2.2.1 w (cnt m w + 1) = [(sY, cnt (m ++ [w]) sY), (sN, cnt (m ++ [w]) sN), (sU, cnt (m ++ [w]) sU)] := by
        rw [h.mt, cnt_app, cnt_app, cnt_app]
        rcases hw with rfl | rfl | rfl
        · rw [if_pos rfl, if_neg (by decide), if_neg (by decide), Int.add_zero, Int.add_zero]; rfl
        · rw [if_pos rfl, if_neg (by decide), if_neg (by decide), Int.add_zero, Int.add_zero]; rfl
        · rw [if_pos rfl, if_neg (by decide), if_neg (by decide), Int.add_zero, Int.add_zero]; rfl
      have sum := cnt_sum ww
      rw [List.length_append, List.length_singleton] at sum
      dsimp only
      rw [em]
      have tp := told_push hm w
      refine wp_un (x := decide ((w = sY ∨ w = sN) ∧ cnt m w + 1 = r.1)) ?_ (wp_bindI (fun s => s = (t.1, r.2, [(sY, cnt (m ++ [w]) sY), (sN, cnt (m ++ [w]) sN), (sU, cnt (m ++ [w]) sU)], toldS (m ++ [w]) r)) (wp_if (fun z => ?_) fun z => ?_) fun s hs => ?_)
      · have e1 : cnt (m ++ [w]) w = cnt m w + 1 := by rw [cnt_app, if_pos rfl]
        rw [h.n, ← e1]
        rcases hw with rfl | rfl | rfl
        · show some (decide (cnt (m ++ [sY]) sY = r.1)) = _
          simp
        · show some (decide (cnt (m ++ [sN]) sN = r.1)) = _
          simp
        · show some false = _
          have : ¬ ((sU = sY ∨ sU = sN) ∧ cnt (m ++ [sU]) sU = r.1) := fun z => z.1.elim (fun y => absurd y (by decide)) fun y => absurd y (by decide)
          rw [decide_eq_false this]
      · rw [if_pos (of_decide_eq_true z)] at tp
        exact wp_let (wp_nx (by rw [tp, h.tt]))
      · rw [if_neg (of_decide_eq_false z)] at tp
        refine wp_cl1e (counted_ok (m := m ++ [w]) rfl) ?_
        have es : ([cnt (m ++ [w]) sY, cnt (m ++ [w]) sN, cnt (m ++ [w]) sU] : List Int).sum = ((m.length : Nat) : Int) + 1 := by
          simp only [List.sum_cons, List.sum_nil]
          omega
        dsimp only
        rw [es, h.tt]
        refine wp_if (fun y => ?_) fun y => ?_
        · rw [if_pos (of_decide_eq_true y)] at tp
          exact wp_let (wp_nx (by rw [tp]))
        · rw [if_neg (of_decide_eq_false y)] at tp
          exact wp_nx (by rw [tp, h.l, hm])
      · subst hs
        exact wp_rt ⟨rfl, ⟨h.n, rfl, rfl, rfl, ww, h.r1, h.r2⟩⟩
  obtain ⟨x, t', e, rfl, q⟩ := fw_inv key
  exact ⟨t', e, q⟩
theorem tell_no {t : TL} {m : List PySem.Str} {r : Int × Int} (h : Tal t m r) {w : PySem.Str} (hw : toldS m r ≠ sM ∨ ¬ (w = sY ∨ w = sN ∨ w = sU)) : f_Tally_tell t w = .ex ⟨4, none⟩ t := by
  unfold f_Tally_tell
  have : ((!decide (t.2.2.2 = sM)) || (!decide (w ∈ ([sY, sN, sU] : List PySem.Str)))) = true := by
    rw [h.l]
    rcases hw with z | z
    · rw [decide_eq_false z]; rfl
    · have : ¬ w ∈ ([sY, sN, sU] : List PySem.Str) := fun y => z (by simpa using y)
      rw [decide_eq_false this, Bool.not_false, Bool.or_true]
  rw [if_pos this]
  rfl
theorem atK_of {α : Type} {xs : List α} {i : Int} {k : Nat} {x : α} (hi : i = (k : Int)) (h : xs[k]? = some x) : atK xs i = some (k, x) := by
  have hk := (List.getElem?_eq_some_iff.mp h).1
  have e : L2.ixN xs.length i = some k := by
    unfold L2.ixN
    rw [if_pos (by omega), if_pos (by omega)]
    congr 1
    omega
  unfold atK
  rw [e, Option.bind_some, h, Option.map_some]
theorem atZ_of {α : Type} {xs : List α} {i : Int} {k : Nat} {x : α} (hi : i = (k : Int)) (h : xs[k]? = some x) : atZ xs i = some x := by rw [hi]; exact atZ_nat h
structure Two (S : List TL) (M : List (List PySem.Str)) (R : List (Int × Int)) (n : Nat) : Prop where
  ls : S.length = 2
  lm : M.length = 2
  lr : R.length = 2
  ok : ∀ (k : Nat) t m r, S[k]? = some t → M[k]? = some m → R[k]? = some r → Tal t m r ∧ m.length ≤ n
theorem Two.get {S : List TL} {M : List (List PySem.Str)} {R : List (Int × Int)} {n : Nat} (h : Two S M R n) {k : Nat} (hk : k < 2) : ∃ t m r, S[k]? = some t ∧ M[k]? = some m ∧ R[k]? = some r ∧ Tal t m r ∧ m.length ≤ n := by
  have := h.ls; have := h.lm; have := h.lr
  exact ⟨S[k], M[k], R[k], List.getElem?_eq_getElem (by omega), List.getElem?_eq_getElem (by omega), List.getElem?_eq_getElem (by omega), h.ok k _ _ _ (List.getElem?_eq_getElem (by omega)) (List.getElem?_eq_getElem (by omega)) (List.getElem?_eq_getElem (by omega))⟩
theorem Two.put {S : List TL} {M : List (List PySem.Str)} {R : List (Int × Int)} {n : Nat} (h : Two S M R n) {k : Nat} {t : TL} {m : List PySem.Str} {r : Int × Int} (hr : R[k]? = some r) (q : Tal t m r) (hm : m.length ≤ n + 1) : Two (S.set k t) (M.set k m) R (n + 1) := by
  refine ⟨by rw [List.length_set]; exact h.ls, by rw [List.length_set]; exact h.lm, h.lr, fun j t' m' r' h1 h2 h3 => ?_⟩
  by_cases z : k = j
  · subst z
    rw [List.getElem?_set_self (by have := (List.getElem?_eq_some_iff.mp h1).1; rwa [List.length_set] at this)] at h1
    rw [List.getElem?_set_self (by have := (List.getElem?_eq_some_iff.mp h2).1; rwa [List.length_set] at this)] at h2
    cases h1
    cases h2
    rw [hr] at h3
    cases h3
    exact ⟨q, hm⟩
  · rw [List.getElem?_set_ne z] at h1 h2
    obtain ⟨a, b⟩ := h.ok j _ _ _ h1 h2 h3
    exact ⟨a, by omega⟩
theorem set_same {α : Type} {xs : List α} {k : Nat} {x : α} (h : xs[k]? = some x) : xs.set k x = xs := by
  apply List.ext_getElem?
  intro j
  by_cases z : k = j
  · subst z
    rw [List.getElem?_set_self (List.getElem?_eq_some_iff.mp h).1, h]
  · rw [List.getElem?_set_ne z]
theorem word_ok (xs : List Int) (k : Int) (hk : 0 ≤ k ∧ k ≤ 1000) : ∃ r e r2, f_draw xs k 10433 3 = .ok r () ∧ atZ [("yes" : PySem.Str), ("no" : PySem.Str), ("unsure" : PySem.Str)] r = some e ∧ f_draw xs k 10453 9 = .ok r2 () ∧ (e = sY ∨ e = sN ∨ e = sU) := by
  obtain ⟨r, h1, h2, h3⟩ := draw_ok xs k 10433 3 (by omega) (by omega) (by omega)
  obtain ⟨r2, h4, _, _⟩ := draw_ok xs k 10453 9 (by omega) (by omega) (by omega)
  obtain ⟨x, hx, e⟩ := atZ_int (xs := ([sY, sN, sU] : List PySem.Str)) (i := r) ⟨h2, h3⟩
  exact ⟨r, x, r2, h1, e, h4, by simpa using hx⟩
theorem law_ok (ns : List Int) (hl : ns.length ≤ 63) : f_law ns = .ok true () := by
  apply fw_eq1
  unfold f_law
  refine fw_foN (wp_let (wp_bindI (fun s => Two s.1 [[], []] s.2 0) ?_ fun s hs => ?_))
  · refine wp_mono (N := fun s : List TL × List (Int × Int) => s.1.length = 2 ∧ s.2.length = 2 ∧ ∀ (k : Nat) (t : TL) (r : Int × Int), s.1[k]? = some t → s.2[k]? = some r → Tal t [] r) (wp_forI (fun i (s : List TL × List (Int × Int)) => s.1.length = i ∧ s.2.length = i ∧ ∀ (k : Nat) (t : TL) (r : Int × Int), s.1[k]? = some t → s.2[k]? = some r → Tal t [] r) ⟨rfl, rfl, fun k t r h => by cases h⟩ (fun i s hi hs => ?_) fun s hs => hs) (fun s hs => ⟨hs.1, rfl, hs.2.1, fun k t m r h1 h2 h3 => ?_⟩) (fun _ _ z => z) fun _ _ z => z
    · obtain ⟨l1, l2, ok⟩ := hs
      have hi : i < 2 := hi
      obtain ⟨a, ha, a0, a1⟩ := draw_ok ns (60 + (0 + (i : Int))) 10399 4 (by omega) (by omega) (by omega)
      obtain ⟨b, hb, b0, b1⟩ := draw_ok ns (62 + (0 + (i : Int))) 10427 (21 - (1 + a)) (by omega) (by omega) (by omega)
      have e : atZ (s.2 ++ [(1 + a, 1 + a + b)]) (0 + (i : Int)) = some (1 + a, 1 + a + b) := atZ_of (k := i) (by omega) (by rw [List.getElem?_append_right (by omega), l2, Nat.sub_self]; rfl)
      refine wp_cl1e ha (wp_let (wp_cl1e hb (wp_gd (ltB_of (by omega)) (wp_let (wp_un e (wp_un e ?_))))))
      have e2 : f_Tally___init__ () (1 + a) (1 + a + b) = .ok () (1 + a, 1 + a + b, [(sY, 0), (sN, 0), (sU, 0)], sM) := by
        unfold f_Tally___init__
        have : (decide ((1 + a) < 1) || (decide ((1 + a + b) < (1 + a)) || decide (20 < (1 + a + b)))) = false := by
          rw [decide_eq_false (by omega), decide_eq_false (by omega), decide_eq_false (by omega)]; rfl
        rw [this]; rfl
      refine wp_cl1e e2 (wp_gd (ltB_of (by omega)) (wp_let (wp_nx ⟨by rw [List.length_append, l1]; rfl, by rw [List.length_append, l2]; rfl, fun k t r h1 h2 => ?_⟩)))
      by_cases z : k < i
      · rw [List.getElem?_append_left (by omega)] at h1 h2
        exact ok k t r h1 h2
      · have : k = i := by
          have := (List.getElem?_eq_some_iff.mp h1).1
          rw [List.length_append, l1] at this
          have : k < i + 1 := this
          omega
        subst this
        rw [List.getElem?_append_right (by omega), l1, Nat.sub_self] at h1
        rw [List.getElem?_append_right (by omega), l2, Nat.sub_self] at h2
        cases h1
        cases h2
        refine ⟨rfl, rfl, rfl, ?_, fun x h => (by cases h), (by show 1 ≤ 1 + a; omega), (by show 1 + a ≤ 1 + a + b; omega)⟩
        show sM = toldS [] (1 + a, 1 + a + b)
        unfold toldS
        rw [if_neg, if_neg, if_neg]
        · show ¬ (0 : Int) = 1 + a + b; omega
        · show ¬ (0 : Int) = 1 + a; omega
        · show ¬ (0 : Int) = 1 + a; omega
    · have : m = [] := by
        match k, h2 with
        | 0, h2 => cases h2; rfl
        | 1, h2 => cases h2; rfl
        | k + 2, h2 => cases h2
      subst this
      exact ⟨hs.2.2 k t r h1 h3, Nat.le_refl _⟩
  obtain ⟨S, R⟩ := s
  obtain ⟨mm, hmm, m1⟩ : ∃ m : Int, m = (if ((ns.length : Nat) : Int) < 40 then ((ns.length : Nat) : Int) else 40) ∧ m ≤ 40 := ⟨_, rfl, by split <;> omega⟩
  dsimp only
  rw [← hmm]
  refine wp_gd (rgB_of (by omega)) (wp_bindI (fun q => ∃ n, n ≤ 40 ∧ Two q.1 q.2 R n) (wp_forI (fun i q => Two q.1 q.2 R i) hs (fun i q hi hq => ?_) fun q hq => ⟨mm.toNat, by omega, hq⟩) fun q hq => ?_)
  · have hi40 : i < 40 := by omega
    obtain ⟨d, hd, d0, d1⟩ := draw_ok ns (0 + (i : Int)) 10429 2 (by omega) (by omega) (by omega)
    obtain ⟨k, rfl⟩ : ∃ k : Nat, d = (k : Int) := ⟨d.toNat, by omega⟩
    obtain ⟨t, m, r, g1, g2, g3, ht, hml⟩ := hq.get (k := k) (by omega)
    obtain ⟨a, w0, b, ha, hw0, hb, hw3⟩ := word_ok ns (0 + (i : Int)) (by omega)
    refine wp_cl1e hd (wp_un (atK_of rfl g1) (wp_un (atK_of rfl g2) (wp_un (atZ_of rfl g3) (wp_cl1e (alike_ok ht (show m.length ≤ 100 by omega)) (wp_ifF rfl (wp_cl1e ha (wp_un hw0 (wp_cl1e hb (wp_bindI (fun w => w = sY ∨ w = sN ∨ w = sU ∨ w ∈ ([("" : PySem.Str), ("Yes" : PySem.Str), ("nope" : PySem.Str), ("yes " : PySem.Str), ("more" : PySem.Str)] : List PySem.Str)) (wp_if (fun _ => ?_) fun _ => wp_nx (hw3.imp id (Or.imp id .inl))) fun w hw => wp_un (atK_of rfl g1) ?_)))))))))
    · obtain ⟨c, hc, c0, c1⟩ := draw_ok ns (0 + (i : Int)) 10457 5 (by omega) (by omega) (by omega)
      obtain ⟨x, hx, e⟩ := atZ_int (xs := ([("" : PySem.Str), ("Yes" : PySem.Str), ("nope" : PySem.Str), ("yes " : PySem.Str), ("more" : PySem.Str)] : List PySem.Str)) (i := c) ⟨c0, c1⟩
      exact wp_cl1e hc (wp_un e (wp_nx (.inr (.inr (.inr hx)))))
    · have hsh : shI w ([("yes" : PySem.Str), ("no" : PySem.Str), ("unsure" : PySem.Str)] : List PySem.Str) = true := by
        rcases hw with rfl | rfl | rfl | hw
        · decide +kernel
        · decide +kernel
        · decide +kernel
        · simp only [List.mem_cons, List.not_mem_nil, or_false] at hw
          rcases hw with rfl | rfl | rfl | rfl | rfl <;> decide +kernel
      by_cases z : toldS m r = sM ∧ (w = sY ∨ w = sN ∨ w = sU)
      · obtain ⟨t', e1, q1⟩ := tell_ok ht z.1 z.2
        have e2 : f_asked t w = .ok (toldS (m ++ [w]) r, []) t' := by unfold f_asked; rw [e1]; rfl
        refine wp_cl1e e2 (wp_un (atK_of rfl g2) (wp_un (atZ_of rfl g3) (wp_cl1e (told_ok m r) (wp_un (x := false) ?_ (wp_ifF rfl (wp_un (atK_of rfl g2) (wp_gd (ltB_of (by dsimp only; omega)) (wp_let (wp_un (x := false) ?_ (wp_ifF rfl (wp_nx ?_)))))))))))
        · rw [z.1]
          rw [if_neg (by decide), gdo_pos _ hsh]
          have : w ∈ ([("yes" : PySem.Str), ("no" : PySem.Str), ("unsure" : PySem.Str)] : List PySem.Str) := by simpa using z.2
          rw [decide_eq_true this]; rfl
        · have g4 : (q.2.set k (m ++ [w]))[k]? = some (m ++ [w]) := List.getElem?_set_self (List.getElem?_eq_some_iff.mp g2).1
          refine (if_neg (by simp)).trans ?_
          dsimp only
          rw [gdo_pos _ (rp_told _ _), atK_of (k := k) rfl g4, Option.bind_some, atZ_of (k := k) rfl g3, Option.bind_some, told_ok]
          show gdo (reprB (PyData.str (toldS (m ++ [w]) r))) _ = _
          rw [gdo_pos _ (rp_told _ _), decide_eq_true rfl]; rfl
        · exact hq.put g3 q1 (by show (m ++ [w]).length ≤ _; rw [List.length_append, List.length_singleton]; omega)
      · have hno : toldS m r ≠ sM ∨ ¬ (w = sY ∨ w = sN ∨ w = sU) := by
          by_cases y : toldS m r = sM
          · exact .inr fun x => z ⟨y, x⟩
          · exact .inl y
        have e2 : f_asked t w = .ok ("", [true, true, false, false, false, false, true, false, false, false, false]) t := by unfold f_asked; rw [tell_no ht hno]; rfl
        refine wp_cl1e e2 (wp_un (atK_of rfl g2) (wp_un (atZ_of rfl g3) (wp_cl1e (told_ok m r) (wp_un (x := true) ?_ (wp_ifT rfl (wp_cl1e (only_ok _ _) (wp_ifF (by decide +kernel) (wp_nx ?_))))))))
        · by_cases y : toldS m r = sM
          · rw [y, if_neg (by decide), gdo_pos _ hsh]
            have : ¬ w ∈ ([("yes" : PySem.Str), ("no" : PySem.Str), ("unsure" : PySem.Str)] : List PySem.Str) := fun x => (hno.resolve_left fun q => q y) (by simpa using x)
            rw [decide_eq_false this]; rfl
          · rw [decide_eq_false y]; rfl
        · have := hq.put g3 ht (by omega)
          rw [set_same g2] at this
          exact this
  · obtain ⟨n, hn, hq⟩ := hq
    obtain ⟨t, m, r, g1, g2, g3, ht, hml⟩ := hq.get (k := 0) (by decide)
    obtain ⟨t', m', r', g1', g2', g3', ht', hml'⟩ := hq.get (k := 1) (by decide)
    refine wp_un (atK_of rfl g1) (wp_un (atK_of rfl g2) (wp_un (atZ_of rfl g3) (wp_cl1e (alike_ok ht (show m.length ≤ 100 by omega)) (wp_un (x := true) ?_ (wp_rt rfl)))))
    rw [if_pos rfl, atK_of (i := 1) (k := 1) rfl g1', Option.bind_some, atK_of (i := 1) (k := 1) rfl g2', Option.bind_some, atZ_of (i := 1) (k := 1) rfl g3', Option.bind_some, alike_ok ht' (show m'.length ≤ 100 by omega)]
    rfl
theorem holds : PySem.Challenge.rw_linegate_k21_tallies.Holds := end2 fun ns hl => law_ok ns hl
end K21

end
theorem PySem.Challenge.cw_linegate_k21_tallies_holds : PySem.Challenge.rw_linegate_k21_tallies.Holds :=
  K21.holds
