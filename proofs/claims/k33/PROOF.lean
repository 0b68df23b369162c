import PyProof.Rows.All
import Wide.All
import OpenK.AllK
import Wide.FinOn
import HandS.ForMost
import HandS.ForSpec
import HandS.TupAny
import HandS.IsInst
import HandS.StrMore
import HandS.FStr
import HandS.Deep
import HandS.Wide
import HandS.Small
import HandS.More
import HandS.ExcOwn
import HandS.ExcCtx
import HandS.ExcIs
import HandS.ExcField
import HandS.ExcInit
import HandS.TryOnly
import HandS.SuiteRaise
import HandS.RaiseFrom
import HandS.WordsExc
import KE.KExcIs
import HandS.EndBits
import PySem.Challenge.RW_endsleftout_k33_deeds_there_and_back
set_option Elab.async false
set_option linter.all false
set_option maxRecDepth 100000
set_option maxHeartbeats 0
set_option exponentiation.threshold 1000000
/-! Dy, part A: data with ownership, what stands for it in an abstract heap, and how that is kept. -/
namespace Dy
open PySem PySem.Spec PyProof.Rows L2

/-- a value as plain data; the flag of a container: true while it is owned (it stands at an address of its own that one variable alone holds) -/
inductive D where
  | non
  | bl (b : Bool)
  | int (i : Int)
  | str (x : Str)
  | lst (o : Bool) (xs : List D)
  | tup (o : Bool) (xs : List D)
  | dic (o : Bool) (kvs : List (Key × D))
  | ins (o : Bool) (C : Str) (fs : List (Str × D))
  | exc (C : Str) (fs : List (Str × D))
  | lok (xs : List D)
instance : Inhabited D := ⟨.non⟩

mutual
/-- frozen all through -/
def D.fr : D → D
  | .non => .non
  | .bl b => .bl b
  | .int i => .int i
  | .str x => .str x
  | .lst _ xs => .lst false (D.frL xs)
  | .tup _ xs => .tup false (D.frL xs)
  | .dic _ kvs => .dic false (D.frK kvs)
  | .ins _ C fs => .ins false C (D.frF fs)
  | .exc C fs => .exc C fs
  | .lok xs => .lok xs
def D.frL : List D → List D
  | [] => []
  | d :: r => D.fr d :: D.frL r
def D.frK : List (Key × D) → List (Key × D)
  | [] => []
  | (k, d) :: r => (k, D.fr d) :: D.frK r
def D.frF : List (Str × D) → List (Str × D)
  | [] => []
  | (k, d) :: r => (k, D.fr d) :: D.frF r
end
mutual
def D.isFz : D → Bool
  | .non => true
  | .bl _ => true
  | .int _ => true
  | .str _ => true
  | .lst o xs => !o && D.isFzL xs
  | .tup o xs => !o && D.isFzL xs
  | .dic o kvs => !o && D.isFzK kvs
  | .ins o _ fs => !o && D.isFzF fs
  | .exc _ _ => true
  | .lok _ => true
def D.isFzL : List D → Bool
  | [] => true
  | d :: r => D.isFz d && D.isFzL r
def D.isFzK : List (Key × D) → Bool
  | [] => true
  | (_, d) :: r => D.isFz d && D.isFzK r
def D.isFzF : List (Str × D) → Bool
  | [] => true
  | (_, d) :: r => D.isFz d && D.isFzF r
end

theorem frL_map : ∀ xs : List D, D.frL xs = xs.map D.fr
  | [] => rfl
  | d :: r => by rw [D.frL, frL_map r]; rfl
theorem frK_map : ∀ xs : List (Key × D), D.frK xs = xs.map fun p => (p.1, D.fr p.2)
  | [] => rfl
  | (k, d) :: r => by rw [D.frK, frK_map r]; rfl
theorem frF_map : ∀ xs : List (Str × D), D.frF xs = xs.map fun p => (p.1, D.fr p.2)
  | [] => rfl
  | (k, d) :: r => by rw [D.frF, frF_map r]; rfl
theorem isFzL_all : ∀ xs : List D, D.isFzL xs = xs.all D.isFz
  | [] => rfl
  | d :: r => by rw [D.isFzL, isFzL_all r]; rfl
theorem isFzK_all : ∀ xs : List (Key × D), D.isFzK xs = (xs.map (·.2)).all D.isFz
  | [] => rfl
  | (k, d) :: r => by rw [D.isFzK, isFzK_all r]; rfl
theorem isFzF_all : ∀ xs : List (Str × D), D.isFzF xs = (xs.map (·.2)).all D.isFz
  | [] => rfl
  | (k, d) :: r => by rw [D.isFzF, isFzF_all r]; rfl
mutual
theorem fr_isFz : ∀ d : D, d.isFz = true → d.fr = d
  | .non, _ => rfl
  | .bl _, _ => rfl
  | .int _, _ => rfl
  | .str _, _ => rfl
  | .lst o xs, h => by
    simp only [D.isFz, Bool.and_eq_true, Bool.not_eq_true'] at h
    rw [D.fr, frL_isFz xs h.2, h.1]
  | .tup o xs, h => by
    simp only [D.isFz, Bool.and_eq_true, Bool.not_eq_true'] at h
    rw [D.fr, frL_isFz xs h.2, h.1]
  | .dic o xs, h => by
    simp only [D.isFz, Bool.and_eq_true, Bool.not_eq_true'] at h
    rw [D.fr, frK_isFz xs h.2, h.1]
  | .ins o C xs, h => by
    simp only [D.isFz, Bool.and_eq_true, Bool.not_eq_true'] at h
    rw [D.fr, frF_isFz xs h.2, h.1]
  | .exc _ _, _ => rfl
  | .lok _, _ => rfl
theorem frL_isFz : ∀ xs : List D, D.isFzL xs = true → D.frL xs = xs
  | [], _ => rfl
  | d :: r, h => by
    simp only [D.isFzL, Bool.and_eq_true] at h
    rw [D.frL, fr_isFz d h.1, frL_isFz r h.2]
theorem frK_isFz : ∀ xs : List (Key × D), D.isFzK xs = true → D.frK xs = xs
  | [], _ => rfl
  | (k, d) :: r, h => by
    simp only [D.isFzK, Bool.and_eq_true] at h
    rw [D.frK, fr_isFz d h.1, frK_isFz r h.2]
theorem frF_isFz : ∀ xs : List (Str × D), D.isFzF xs = true → D.frF xs = xs
  | [], _ => rfl
  | (k, d) :: r, h => by
    simp only [D.isFzF, Bool.and_eq_true] at h
    rw [D.frF, fr_isFz d h.1, frF_isFz r h.2]
end
mutual
theorem isFz_fr : ∀ d : D, d.fr.isFz = true
  | .non => rfl
  | .bl _ => rfl
  | .int _ => rfl
  | .str _ => rfl
  | .lst o xs => by rw [D.fr, D.isFz, isFzL_frL xs]; rfl
  | .tup o xs => by rw [D.fr, D.isFz, isFzL_frL xs]; rfl
  | .dic o xs => by rw [D.fr, D.isFz, isFzK_frK xs]; rfl
  | .ins o C xs => by rw [D.fr, D.isFz, isFzF_frF xs]; rfl
  | .exc _ _ => rfl
  | .lok _ => rfl
theorem isFzL_frL : ∀ xs : List D, D.isFzL (D.frL xs) = true
  | [] => rfl
  | d :: r => by rw [D.frL, D.isFzL, isFz_fr d, isFzL_frL r]; rfl
theorem isFzK_frK : ∀ xs : List (Key × D), D.isFzK (D.frK xs) = true
  | [] => rfl
  | (k, d) :: r => by rw [D.frK, D.isFzK, isFz_fr d, isFzK_frK r]; rfl
theorem isFzF_frF : ∀ xs : List (Str × D), D.isFzF (D.frF xs) = true
  | [] => rfl
  | (k, d) :: r => by rw [D.frF, D.isFzF, isFz_fr d, isFzF_frF r]; rfl
end
theorem fr_fr (d : D) : d.fr.fr = d.fr := fr_isFz _ (isFz_fr d)

/-! ### what stands for it: B the frozen part of the heap, H the heap; the last place: the addresses that are owned -/
def Ex (H H' : Hp) : Prop := ∀ a o, H a = some o → H' a = some o
theorem Ex.refl (H : Hp) : Ex H H := fun _ _ h => h
theorem Ex.trans {H H1 H2 : Hp} (a : Ex H H1) (b : Ex H1 H2) : Ex H H2 := fun x o h => b x o (a x o h)
theorem Ex.new {H : Hp} {p : Addr} {o : HO} (h : H p = none) : Ex H (upd H p o) := fun a u e => by
  rw [upd_ne (ne_of_none e h)]
  exact e
theorem Ex.rd {H H' : Hp} {a : Addr} {u : HO} (e : Ex H H') (h : Rd H a u) : Rd H' a u := by
  rcases h with h | ⟨o, h⟩
  · exact .inl (e a _ h)
  · exact .inr ⟨o, e a _ h⟩
theorem Ex.sqL {K : PySem.W.Frag} {H H' : Hp} {a : Addr} {xs : List V} (e : Ex H H') (h : SqL K H a xs) : SqL K H' a xs := by
  rcases h with h | h
  · exact .inl (e.rd h)
  · exact .inr h
theorem Ex.sqT {K : PySem.W.Frag} {H H' : Hp} {a : Addr} {xs : List V} (e : Ex H H') (h : SqT K H a xs) : SqT K H' a xs := by
  rcases h with h | h
  · exact .inl (e.rd h)
  · exact .inr h
theorem Ex.none {H H' : Hp} (e : Ex H H') {a : Addr} (h : H' a = Option.none) : H a = Option.none := by
  cases q : H a with
  | none => rfl
  | some o => rw [e a o q] at h; cases h

/-- the classes of the text by name -/
abbrev Cl := Str → Option Addr

mutual
inductive Rep (K : PySem.W.Frag) (cl : Cl) (B H : Hp) : V → D → List Addr → Prop
  | non : Rep K cl B H .non .non []
  | bl {b} : Rep K cl B H (.bl b) (.bl b) []
  | int {i} : Rep K cl B H (.int i) (.int i) []
  | str {x} : Rep K cl B H (.str x) (.str x) []
  | lstF {a vs ds} : B a = some (.lst vs) → Reps K cl B H vs ds [] → Rep K cl B H (.ref a) (.lst false ds) []
  | lok {a vs ds} : SqL K B a vs → Reps K cl B H vs ds [] → Rep K cl B H (.ref a) (.lok ds) []
  | lstO {a vs ds f} : H a = some (.lst vs) → B a = none → Reps K cl B H vs ds f → Rep K cl B H (.ref a) (.lst true ds) (a :: f)
  | tupF {a vs ds} : SqT K B a vs → Reps K cl B H vs ds [] → Rep K cl B H (.ref a) (.tup false ds) []
  | tupO {a vs ds f} : H a = some (.tup vs) → B a = none → Reps K cl B H vs ds f → Rep K cl B H (.ref a) (.tup true ds) (a :: f)
  | dicF {a : Addr} {kvs : List (Key × V)} {ds : List (Key × D)} : B a = some (.dK kvs) → kvs.map (·.1) = ds.map (·.1) → Reps K cl B H (kvs.map (·.2)) (ds.map (·.2)) [] → Rep K cl B H (.ref a) (.dic false ds) []
  | dicO {a : Addr} {kvs : List (Key × V)} {ds : List (Key × D)} {f} : H a = some (.dK kvs) → B a = none → kvs.map (·.1) = ds.map (·.1) → Reps K cl B H (kvs.map (·.2)) (ds.map (·.2)) f → Rep K cl B H (.ref a) (.dic true ds) (a :: f)
  | insF {a dx Ca : Addr} {C : Str} {fs : List (Str × V)} {ds : List (Str × D)} : cl C = some Ca → B a = some (.ins Ca dx fs) → B dx = some (.own a) → fs.map (·.1) = ds.map (·.1) → Reps K cl B H (fs.map (·.2)) (ds.map (·.2)) [] → Rep K cl B H (.ref a) (.ins false C ds) []
  | insO {a dx Ca : Addr} {C : Str} {fs : List (Str × V)} {ds : List (Str × D)} {f} : cl C = some Ca → H a = some (.ins Ca dx fs) → H dx = some (.own a) → B a = none → B dx = none → fs.map (·.1) = ds.map (·.1) → Reps K cl B H (fs.map (·.2)) (ds.map (·.2)) f → Rep K cl B H (.ref a) (.ins true C ds) (a :: dx :: f)
  | exc {a Ca : Addr} {C : Str} : cl "#exc" = some a → cl "#cls" = some Ca → cl C = some Ca → Rep K cl B H (.ref a) (.exc C []) []
  | excF {a Ca dd : Addr} {C : Str} {fs : List (Str × V)} {ds : List (Str × D)} : cl "#exc" = some a → cl "#cls" = some Ca → cl C = some Ca → cl "#d" = some dd → B dd = some (.xd fs) → fs.map (·.1) = ds.map (·.1) → Reps K cl B H (fs.map (·.2)) (ds.map (·.2)) [] → Rep K cl B H (.ref a) (.exc C ds) []
inductive Reps (K : PySem.W.Frag) (cl : Cl) (B H : Hp) : List V → List D → List Addr → Prop
  | nil : Reps K cl B H [] [] []
  | cons {v d f vs ds g} : Rep K cl B H v d f → Reps K cl B H vs ds g → Reps K cl B H (v :: vs) (d :: ds) (f ++ g)
end

section
variable {K : PySem.W.Frag} {cl : Cl} {B B' H H' : Hp}
mutual
/-- kept where the frozen part grows and the owned objects stand -/
theorem Rep.mono (eB : Ex B B') : ∀ {v d f}, Rep K cl B H v d f → (∀ a ∈ f, ∀ o, H a = some o → H' a = some o) → (∀ a ∈ f, B' a = none) → Rep K cl B' H' v d f
  | _, _, _, .non, _, _ => .non
  | _, _, _, .bl, _, _ => .bl
  | _, _, _, .int, _, _ => .int
  | _, _, _, .str, _, _ => .str
  | _, _, _, .lstF h r, k, n => .lstF (eB _ _ h) (Reps.mono eB r k n)
  | _, _, _, .lok h r, k, n => .lok (eB.sqL h) (Reps.mono eB r k n)
  | _, _, _, .lstO h b r, k, n => .lstO (k _ List.mem_cons_self _ h) (n _ List.mem_cons_self) (Reps.mono eB r (fun a m => k a (List.mem_cons_of_mem _ m)) fun a m => n a (List.mem_cons_of_mem _ m))
  | _, _, _, .tupF h r, k, n => .tupF (eB.sqT h) (Reps.mono eB r k n)
  | _, _, _, .tupO h b r, k, n => .tupO (k _ List.mem_cons_self _ h) (n _ List.mem_cons_self) (Reps.mono eB r (fun a m => k a (List.mem_cons_of_mem _ m)) fun a m => n a (List.mem_cons_of_mem _ m))
  | _, _, _, .dicF h e r, k, n => .dicF (eB _ _ h) e (Reps.mono eB r k n)
  | _, _, _, .dicO h b e r, k, n => .dicO (k _ List.mem_cons_self _ h) (n _ List.mem_cons_self) e (Reps.mono eB r (fun a m => k a (List.mem_cons_of_mem _ m)) fun a m => n a (List.mem_cons_of_mem _ m))
  | _, _, _, .insF c h h2 e r, k, n => .insF c (eB _ _ h) (eB _ _ h2) e (Reps.mono eB r k n)
  | _, _, _, .insO c h h2 b b2 e r, k, n => .insO c (k _ List.mem_cons_self _ h) (k _ (List.mem_cons_of_mem _ List.mem_cons_self) _ h2) (n _ List.mem_cons_self) (n _ (List.mem_cons_of_mem _ List.mem_cons_self)) e
      (Reps.mono eB r (fun a m => k a (List.mem_cons_of_mem _ (List.mem_cons_of_mem _ m))) fun a m => n a (List.mem_cons_of_mem _ (List.mem_cons_of_mem _ m)))
  | _, _, _, .exc h1 h2 h3, _, _ => .exc h1 h2 h3
  | _, _, _, .excF h1 h2 h3 h4 h5 e r, k, n => .excF h1 h2 h3 h4 (eB _ _ h5) e (Reps.mono eB r k n)
theorem Reps.mono (eB : Ex B B') : ∀ {vs ds f}, Reps K cl B H vs ds f → (∀ a ∈ f, ∀ o, H a = some o → H' a = some o) → (∀ a ∈ f, B' a = none) → Reps K cl B' H' vs ds f
  | _, _, _, .nil, _, _ => .nil
  | _, _, _, .cons r t, k, n => .cons (Rep.mono eB r (fun a m => k a (List.mem_append_left _ m)) fun a m => n a (List.mem_append_left _ m)) (Reps.mono eB t (fun a m => k a (List.mem_append_right _ m)) fun a m => n a (List.mem_append_right _ m))
end
mutual
/-- the owned objects are there, and not in the frozen part -/
theorem Rep.there : ∀ {v d f}, Rep K cl B H v d f → ∀ a ∈ f, (∃ o, H a = some o) ∧ B a = none
  | _, _, _, .non, a, m => nomatch m
  | _, _, _, .bl, a, m => nomatch m
  | _, _, _, .int, a, m => nomatch m
  | _, _, _, .str, a, m => nomatch m
  | _, _, _, .lstF _ _, a, m => nomatch m
  | _, _, _, .lok _ _, a, m => nomatch m
  | _, _, _, .lstO h b r, a, m => by
    rcases List.mem_cons.mp m with rfl | m
    · exact ⟨⟨_, h⟩, b⟩
    · exact Reps.there r a m
  | _, _, _, .tupF _ _, a, m => nomatch m
  | _, _, _, .tupO h b r, a, m => by
    rcases List.mem_cons.mp m with rfl | m
    · exact ⟨⟨_, h⟩, b⟩
    · exact Reps.there r a m
  | _, _, _, .dicF _ _ _, a, m => nomatch m
  | _, _, _, .dicO h b _ r, a, m => by
    rcases List.mem_cons.mp m with rfl | m
    · exact ⟨⟨_, h⟩, b⟩
    · exact Reps.there r a m
  | _, _, _, .insF _ _ _ _ _, a, m => nomatch m
  | _, _, _, .insO _ h h2 b b2 _ r, a, m => by
    rcases List.mem_cons.mp m with rfl | m
    · exact ⟨⟨_, h⟩, b⟩
    · rcases List.mem_cons.mp m with rfl | m
      · exact ⟨⟨_, h2⟩, b2⟩
      · exact Reps.there r a m
  | _, _, _, .exc _ _ _, a, m => nomatch m
  | _, _, _, .excF _ _ _ _ _ _ _, a, m => nomatch m
theorem Reps.there : ∀ {vs ds f}, Reps K cl B H vs ds f → ∀ a ∈ f, (∃ o, H a = some o) ∧ B a = none
  | _, _, _, .nil, a, m => nomatch m
  | _, _, _, .cons r t, a, m => by
    rcases List.mem_append.mp m with m | m
    · exact Rep.there r a m
    · exact Reps.there t a m
end
mutual
/-- frozen: all that it owned has come into the frozen part -/
theorem Rep.freeze (eB : Ex B B') : ∀ {v d f}, Rep K cl B H v d f → (∀ a ∈ f, ∀ o, H a = some o → B' a = some o) → Rep K cl B' H' v d.fr []
  | _, _, _, .non, _ => .non
  | _, _, _, .bl, _ => .bl
  | _, _, _, .int, _ => .int
  | _, _, _, .str, _ => .str
  | _, _, _, .lstF h r, k => .lstF (eB _ _ h) (Reps.freeze eB r k)
  | _, _, _, .lok h r, k => .lok (eB.sqL h) (Reps.mono eB r (fun _ m => nomatch m) fun _ m => nomatch m)
  | _, _, _, .lstO h b r, k => .lstF (k _ List.mem_cons_self _ h) (Reps.freeze eB r (fun a m => k a (List.mem_cons_of_mem _ m)))
  | _, _, _, .tupF h r, k => .tupF (eB.sqT h) (Reps.freeze eB r k)
  | _, _, _, .tupO h b r, k => .tupF (.of (k _ List.mem_cons_self _ h)) (Reps.freeze eB r (fun a m => k a (List.mem_cons_of_mem _ m)))
  | _, _, _, .dicF h e r, k => .dicF (eB _ _ h) (by rw [e, frK_map, List.map_map]; rfl) (by rw [frK_map, List.map_map]; have q := Reps.freeze eB r k; rw [frL_map, List.map_map] at q; exact q)
  | _, _, _, .dicO h b e r, k => .dicF (k _ List.mem_cons_self _ h) (by rw [e, frK_map, List.map_map]; rfl) (by rw [frK_map, List.map_map]; have q := Reps.freeze eB r (fun a m => k a (List.mem_cons_of_mem _ m)); rw [frL_map, List.map_map] at q; exact q)
  | _, _, _, .insF c h h2 e r, k => .insF c (eB _ _ h) (eB _ _ h2) (by rw [e, frF_map, List.map_map]; rfl) (by rw [frF_map, List.map_map]; have q := Reps.freeze eB r k; rw [frL_map, List.map_map] at q; exact q)
  | _, _, _, .insO c h h2 b b2 e r, k => .insF c (k _ List.mem_cons_self _ h) (k _ (List.mem_cons_of_mem _ List.mem_cons_self) _ h2) (by rw [e, frF_map, List.map_map]; rfl)
      (by rw [frF_map, List.map_map]; have q := Reps.freeze eB r (fun a m => k a (List.mem_cons_of_mem _ (List.mem_cons_of_mem _ m))); rw [frL_map, List.map_map] at q; exact q)
  | _, _, _, .exc h1 h2 h3, _ => .exc h1 h2 h3
  | _, _, _, .excF h1 h2 h3 h4 h5 e r, _ => .excF h1 h2 h3 h4 (eB _ _ h5) e (Reps.mono eB r (fun _ m => nomatch m) fun _ m => nomatch m)
theorem Reps.freeze (eB : Ex B B') : ∀ {vs ds f}, Reps K cl B H vs ds f → (∀ a ∈ f, ∀ o, H a = some o → B' a = some o) → Reps K cl B' H' vs (D.frL ds) []
  | _, _, _, .nil, _ => .nil
  | _, _, _, .cons r t, k => .cons (f := []) (g := []) (Rep.freeze eB r (fun a m => k a (List.mem_append_left _ m))) (Reps.freeze eB t (fun a m => k a (List.mem_append_right _ m)))
end
mutual
/-- nothing owned: frozen -/
theorem Rep.fz : ∀ {v d f}, Rep K cl B H v d f → f = [] → d.isFz = true
  | _, _, _, .non, _ => rfl
  | _, _, _, .bl, _ => rfl
  | _, _, _, .int, _ => rfl
  | _, _, _, .str, _ => rfl
  | _, _, _, .lstF h r, _ => by rw [D.isFz, Reps.fz r rfl]; rfl
  | _, _, _, .lok h r, _ => rfl
  | _, _, _, .lstO h b r, e => nomatch e
  | _, _, _, .tupF h r, _ => by rw [D.isFz, Reps.fz r rfl]; rfl
  | _, _, _, .tupO h b r, e => nomatch e
  | _, _, _, .dicF h e r, _ => by rw [D.isFz, isFzK_all, ← isFzL_all, Reps.fz r rfl]; rfl
  | _, _, _, .dicO h b e r, z => nomatch z
  | _, _, _, .insF c h h2 e r, _ => by rw [D.isFz, isFzF_all, ← isFzL_all, Reps.fz r rfl]; rfl
  | _, _, _, .insO c h h2 b b2 e r, z => nomatch z
  | _, _, _, .exc _ _ _, _ => rfl
  | _, _, _, .excF _ _ _ _ _ _ _, _ => rfl
theorem Reps.fz : ∀ {vs ds f}, Reps K cl B H vs ds f → f = [] → D.isFzL ds = true
  | _, _, _, .nil, _ => rfl
  | _, _, _, .cons r t, e => by
    obtain ⟨e1, e2⟩ := List.append_eq_nil_iff.mp e
    rw [D.isFzL, Rep.fz r e1, Reps.fz t e2]; rfl
end
mutual
theorem Rep.nil : ∀ {v d f}, Rep K cl B H v d f → d.isFz = true → f = []
  | _, _, _, .non, _ => rfl
  | _, _, _, .bl, _ => rfl
  | _, _, _, .int, _ => rfl
  | _, _, _, .str, _ => rfl
  | _, _, _, .lstF h r, _ => rfl
  | _, _, _, .lok h r, _ => rfl
  | _, _, _, .lstO h b r, e => by simp [D.isFz] at e
  | _, _, _, .tupF h r, _ => rfl
  | _, _, _, .tupO h b r, e => by simp [D.isFz] at e
  | _, _, _, .dicF h e r, _ => rfl
  | _, _, _, .dicO h b e r, z => by simp [D.isFz] at z
  | _, _, _, .insF c h h2 e r, _ => rfl
  | _, _, _, .insO c h h2 b b2 e r, z => by simp [D.isFz] at z
  | _, _, _, .exc _ _ _, _ => rfl
  | _, _, _, .excF _ _ _ _ _ _ _, _ => rfl
theorem Reps.nilF : ∀ {vs ds f}, Reps K cl B H vs ds f → D.isFzL ds = true → f = []
  | _, _, _, .nil, _ => rfl
  | _, _, _, .cons r t, e => by
    simp only [D.isFzL, Bool.and_eq_true] at e
    rw [Rep.nil r e.1, Reps.nilF t e.2]; rfl
end
/-- what is frozen does not lean on H -/
theorem Rep.up {v d} (eB : Ex B B') (r : Rep K cl B H v d []) : Rep K cl B' H' v d [] := r.mono eB (fun _ m => nomatch m) fun _ m => nomatch m
theorem Reps.up {v d} (eB : Ex B B') (r : Reps K cl B H v d []) : Reps K cl B' H' v d [] := r.mono eB (fun _ m => nomatch m) fun _ m => nomatch m
theorem Reps.length : ∀ {vs ds f}, Reps K cl B H vs ds f → vs.length = ds.length
  | _, _, _, .nil => rfl
  | _, _, _, .cons _ t => by rw [List.length_cons, List.length_cons, Reps.length t]
theorem Reps.get : ∀ {vs ds f} {i : Nat} {d : D}, Reps K cl B H vs ds f → ds[i]? = some d → ∃ v g, vs[i]? = some v ∧ Rep K cl B H v d g ∧ (∀ a ∈ g, a ∈ f) ∧ g.Sublist f
  | _, _, _, _, _, .nil, e => by simp at e
  | _, _, _, 0, _, .cons r t, e => by
    simp at e; subst e
    exact ⟨_, _, rfl, r, fun a m => List.mem_append_left _ m, List.sublist_append_left _ _⟩
  | _, _, _, i + 1, d, .cons r t, e => by
    obtain ⟨v, g, h1, h2, h3, h4⟩ := Reps.get (i := i) t (by simpa using e)
    exact ⟨v, g, by simpa using h1, h2, fun a m => List.mem_append_right _ (h3 a m), h4.trans (List.sublist_append_right _ _)⟩
theorem Reps.append : ∀ {vs ds f ws es g}, Reps K cl B H vs ds f → Reps K cl B H ws es g → Reps K cl B H (vs ++ ws) (ds ++ es) (f ++ g)
  | _, _, _, _, _, _, .nil, s => s
  | _, _, _, _, _, _, .cons r t, s => by rw [List.append_assoc]; exact .cons r (Reps.append t s)
theorem Reps.one {v d f} (r : Rep K cl B H v d f) : Reps K cl B H [v] [d] f := by
  have q := Reps.cons r (.nil (K := K) (cl := cl) (B := B) (H := H))
  rw [List.append_nil] at q
  exact q
theorem Reps.split : ∀ {vs ds es f}, Reps K cl B H vs (ds ++ es) f → ∃ ws us g h, vs = ws ++ us ∧ f = g ++ h ∧ Reps K cl B H ws ds g ∧ Reps K cl B H us es h
  | vs, [], es, f, r => ⟨[], vs, [], f, rfl, rfl, .nil, r⟩
  | _, d :: ds, es, _, .cons r t => by
    obtain ⟨ws, us, g, h, rfl, rfl, q1, q2⟩ := Reps.split t
    exact ⟨_ :: ws, us, _ ++ g, h, rfl, (List.append_assoc _ _ _).symm, .cons r q1, q2⟩
theorem Reps.cons_inv {vs d ds f} (r : Reps K cl B H vs (d :: ds) f) : ∃ v us g h, vs = v :: us ∧ f = g ++ h ∧ Rep K cl B H v d g ∧ Reps K cl B H us ds h := by
  cases r with
  | cons r t => exact ⟨_, _, _, _, rfl, rfl, r, t⟩
theorem Reps.nil_inv {vs f} (r : Reps K cl B H vs [] f) : vs = [] ∧ f = [] := by
  cases r
  exact ⟨rfl, rfl⟩
end
section
variable {K : PySem.W.Frag} {cl cl' : Cl} {B H : Hp}
mutual
/-- more names -/
theorem Rep.recl (hc : ∀ C a, cl C = some a → cl' C = some a) : ∀ {v d f}, Rep K cl B H v d f → Rep K cl' B H v d f
  | _, _, _, .non => .non
  | _, _, _, .bl => .bl
  | _, _, _, .int => .int
  | _, _, _, .str => .str
  | _, _, _, .lstF h r => .lstF h (Reps.recl hc r)
  | _, _, _, .lok h r => .lok h (Reps.recl hc r)
  | _, _, _, .lstO h b r => .lstO h b (Reps.recl hc r)
  | _, _, _, .tupF h r => .tupF h (Reps.recl hc r)
  | _, _, _, .tupO h b r => .tupO h b (Reps.recl hc r)
  | _, _, _, .dicF h e r => .dicF h e (Reps.recl hc r)
  | _, _, _, .dicO h b e r => .dicO h b e (Reps.recl hc r)
  | _, _, _, .insF c h h2 e r => .insF (hc _ _ c) h h2 e (Reps.recl hc r)
  | _, _, _, .insO c h h2 b b2 e r => .insO (hc _ _ c) h h2 b b2 e (Reps.recl hc r)
  | _, _, _, .exc h1 h2 h3 => .exc (hc _ _ h1) (hc _ _ h2) (hc _ _ h3)
  | _, _, _, .excF h1 h2 h3 h4 h5 e r => .excF (hc _ _ h1) (hc _ _ h2) (hc _ _ h3) (hc _ _ h4) h5 e (Reps.recl hc r)
theorem Reps.recl (hc : ∀ C a, cl C = some a → cl' C = some a) : ∀ {v d f}, Reps K cl B H v d f → Reps K cl' B H v d f
  | _, _, _, .nil => .nil
  | _, _, _, .cons r t => .cons (Rep.recl hc r) (Reps.recl hc t)
end
/-- not one of the names that a catch adds -/
def okNm (C : Str) : Bool := C != "#exc" && C != "#cls" && C != "#d"
mutual
/-- no exception in it -/
def D.noX : D → Bool
  | .non => true
  | .bl _ => true
  | .int _ => true
  | .str _ => true
  | .lst _ xs => D.noXL xs
  | .tup _ xs => D.noXL xs
  | .dic _ kvs => D.noXK kvs
  | .ins _ C fs => okNm C && D.noXF fs
  | .exc _ _ => false
  | .lok xs => D.noXL xs
def D.noXL : List D → Bool
  | [] => true
  | d :: r => D.noX d && D.noXL r
def D.noXK : List (Key × D) → Bool
  | [] => true
  | (_, d) :: r => D.noX d && D.noXK r
def D.noXF : List (Str × D) → Bool
  | [] => true
  | (_, d) :: r => D.noX d && D.noXF r
end
theorem noXL_all : ∀ xs : List D, D.noXL xs = xs.all D.noX
  | [] => rfl
  | d :: r => by rw [D.noXL, List.all_cons, noXL_all r]
theorem noXK_all : ∀ xs : List (Key × D), D.noXK xs = D.noXL (xs.map (·.2))
  | [] => rfl
  | (k, d) :: r => by rw [D.noXK, List.map_cons, D.noXL, noXK_all r]
theorem noXF_all : ∀ xs : List (Str × D), D.noXF xs = D.noXL (xs.map (·.2))
  | [] => rfl
  | (k, d) :: r => by rw [D.noXF, List.map_cons, D.noXL, noXF_all r]
mutual
theorem Rep.uncl (hc : ∀ C a, okNm C = true → cl C = some a → cl' C = some a) : ∀ {v d f}, Rep K cl B H v d f → d.noX = true → Rep K cl' B H v d f
  | _, _, _, .non, _ => .non
  | _, _, _, .bl, _ => .bl
  | _, _, _, .int, _ => .int
  | _, _, _, .str, _ => .str
  | _, _, _, .lstF h r, z => .lstF h (Reps.uncl hc r z)
  | _, _, _, .lok h r, z => .lok h (Reps.uncl hc r z)
  | _, _, _, .lstO h b r, z => .lstO h b (Reps.uncl hc r z)
  | _, _, _, .tupF h r, z => .tupF h (Reps.uncl hc r z)
  | _, _, _, .tupO h b r, z => .tupO h b (Reps.uncl hc r z)
  | _, _, _, .dicF h e r, z => .dicF h e (Reps.uncl hc r (by rw [D.noX, noXK_all] at z; exact z))
  | _, _, _, .dicO h b e r, z => .dicO h b e (Reps.uncl hc r (by rw [D.noX, noXK_all] at z; exact z))
  | _, _, _, .insF c h h2 e r, z => by
    rw [D.noX, noXF_all, Bool.and_eq_true] at z
    exact .insF (hc _ _ z.1 c) h h2 e (Reps.uncl hc r z.2)
  | _, _, _, .insO c h h2 b b2 e r, z => by
    rw [D.noX, noXF_all, Bool.and_eq_true] at z
    exact .insO (hc _ _ z.1 c) h h2 b b2 e (Reps.uncl hc r z.2)
  | _, _, _, .exc h1 h2 h3, z => nomatch z
  | _, _, _, .excF h1 h2 h3 h4 h5 e r, z => nomatch z
theorem Reps.uncl (hc : ∀ C a, okNm C = true → cl C = some a → cl' C = some a) : ∀ {v d f}, Reps K cl B H v d f → D.noXL d = true → Reps K cl' B H v d f
  | _, _, _, .nil, _ => .nil
  | _, _, _, .cons r t, z => by
    rw [D.noXL, Bool.and_eq_true] at z
    exact .cons (Rep.uncl hc r z.1) (Reps.uncl hc t z.2)
end
end
end Dy
/-! Dy, part B: environments, results, and the readings that stand for a function on environments. -/
namespace Dy
open PySem PySem.Spec PyProof.Rows L2

/-- an exception of a class of the text: its name, its fields -/
inductive Exn where
  | mk (C : Str) (fs : List (Str × D))
abbrev En := List (Option D)
inductive Res (α : Type) where
  | ok (a : α) (e : En)
  | err (x : Exn) (e : En)
  | stuck
abbrev M (α : Type) := En → Res α
/-- a value: what stands in a slot (read where it is used), or a value of its own -/
inductive OV where
  | sl (i : Nat)
  | tm (d : D)
inductive Fl where
  | nx | rt (d : D) | bk | ct
abbrev MS := M Fl
def Res.bind {α β : Type} (r : Res α) (k : α → M β) : Res β := match r with
  | .ok a e => k a e
  | .err x e => .err x e
  | .stuck => .stuck
@[simp] theorem bind_ok {α β : Type} (a : α) (e : En) (k : α → M β) : (Res.ok a e).bind k = k a e := rfl
@[simp] theorem bind_err {α β : Type} (x : Exn) (e : En) (k : α → M β) : (Res.err x e : Res α).bind k = .err x e := rfl
@[simp] theorem bind_stuck {α β : Type} (k : α → M β) : (Res.stuck : Res α).bind k = .stuck := rfl
def OV.get (e : En) : OV → Option D
  | .sl i => (e[i]?).join
  | .tm d => some d
def getAll (e : En) : List OV → Option (List D)
  | [] => some []
  | o :: r => match o.get e, getAll e r with
    | some d, some ds => some (d :: ds)
    | _, _ => none
def mArgs : List (M OV) → M (List OV)
  | [] => fun e => .ok [] e
  | m :: r => fun e => (m e).bind fun o e1 => (mArgs r e1).bind fun os e2 => .ok (o :: os) e2

inductive RepE (K : PySem.W.Frag) (cl : Cl) (B H : Hp) : List (Option V) → En → List Addr → Prop
  | nil : RepE K cl B H [] [] []
  | none {v σ e f} : RepE K cl B H σ e f → RepE K cl B H (v :: σ) (none :: e) f
  | some {v d f σ e g} : Rep K cl B H v d f → RepE K cl B H σ e g → RepE K cl B H (some v :: σ) (some d :: e) (f ++ g)
section
variable {K : PySem.W.Frag} {cl : Cl} {B B' H H' : Hp}
theorem RepE.length : ∀ {σ e F}, RepE K cl B H σ e F → σ.length = e.length
  | _, _, _, .nil => rfl
  | _, _, _, .none r => by rw [List.length_cons, List.length_cons, RepE.length r]
  | _, _, _, .some _ r => by rw [List.length_cons, List.length_cons, RepE.length r]
theorem RepE.mono (eB : Ex B B') : ∀ {σ e F}, RepE K cl B H σ e F → (∀ a ∈ F, ∀ o, H a = Option.some o → H' a = Option.some o) → (∀ a ∈ F, B' a = Option.none) → RepE K cl B' H' σ e F
  | _, _, _, .nil, _, _ => .nil
  | _, _, _, .none r, k, n => .none (RepE.mono eB r k n)
  | _, _, _, .some r t, k, n => .some (r.mono eB (fun a m => k a (List.mem_append_left _ m)) fun a m => n a (List.mem_append_left _ m)) (RepE.mono eB t (fun a m => k a (List.mem_append_right _ m)) fun a m => n a (List.mem_append_right _ m))
theorem RepE.there : ∀ {σ e F}, RepE K cl B H σ e F → ∀ a ∈ F, (∃ o, H a = Option.some o) ∧ B a = Option.none
  | _, _, _, .nil, _, m => nomatch m
  | _, _, _, .none r, a, m => RepE.there r a m
  | _, _, _, .some r t, a, m => by
    rcases List.mem_append.mp m with m | m
    · exact r.there a m
    · exact RepE.there t a m
/-- a slot is emptied -/
theorem RepE.take : ∀ {σ : List (Option V)} {e : En} {F : List Addr} {i : Nat} {d : D}, RepE K cl B H σ e F → e[i]? = Option.some (Option.some d) →
    ∃ v f g, σ[i]? = Option.some (Option.some v) ∧ Rep K cl B H v d f ∧ F.Perm (f ++ g) ∧ RepE K cl B H σ (e.set i Option.none) g
  | _, _, _, _, _, .nil, h => by simp at h
  | _, _, _, 0, _, .none r, h => by simp at h
  | _, _, _, i + 1, d, .none r, h => by
    obtain ⟨v, f, g, h1, h2, h3, h4⟩ := RepE.take (i := i) r (by simpa using h)
    exact ⟨v, f, g, by simpa using h1, h2, h3, .none h4⟩
  | _, _, _, 0, _, .some r t, h => by
    simp at h; subst h
    exact ⟨_, _, _, rfl, r, List.Perm.refl _, .none t⟩
  | _, _, _, i + 1, d, .some (f := f0) r t, h => by
    obtain ⟨v, f, g, h1, h2, h3, h4⟩ := RepE.take (i := i) t (by simpa using h)
    refine ⟨v, f, f0 ++ g, by simpa using h1, h2, ?_, .some r h4⟩
    refine (List.Perm.append_left f0 h3).trans ?_
    rw [← List.append_assoc, ← List.append_assoc]
    exact List.Perm.append_right g List.perm_append_comm
/-- a slot is forgotten, whatever stood there -/
theorem RepE.drop : ∀ {σ : List (Option V)} {e : En} {F : List Addr} (i : Nat), RepE K cl B H σ e F → ∃ f g, F.Perm (f ++ g) ∧ RepE K cl B H σ (e.set i Option.none) g
  | _, _, _, _, .nil => ⟨[], [], List.Perm.refl _, .nil⟩
  | _, _, _, 0, .none r => ⟨[], _, List.Perm.refl _, .none r⟩
  | _, _, _, i + 1, .none r => by
    obtain ⟨f, g, h1, h2⟩ := RepE.drop i r
    exact ⟨f, g, h1, .none h2⟩
  | _, _, _, 0, .some r t => ⟨_, _, List.Perm.refl _, .none t⟩
  | _, _, _, i + 1, .some (f := f0) r t => by
    obtain ⟨f, g, h1, h2⟩ := RepE.drop i t
    refine ⟨f, f0 ++ g, ?_, .some r h2⟩
    refine (List.Perm.append_left f0 h1).trans ?_
    rw [← List.append_assoc, ← List.append_assoc]
    exact List.Perm.append_right g List.perm_append_comm
/-- an empty slot is filled -/
theorem RepE.put : ∀ {σ : List (Option V)} {e : En} {g : List Addr} {i : Nat} {v : V} {d : D} {f : List Addr}, RepE K cl B H σ e g → e[i]? = Option.some Option.none → Rep K cl B H v d f →
    ∃ F, F.Perm (f ++ g) ∧ RepE K cl B H (σ.set i (Option.some v)) (e.set i (Option.some d)) F
  | _, _, _, _, _, _, _, .nil, h, _ => by simp at h
  | _, _, _, 0, _, _, _, .none r, _, q => ⟨_, List.Perm.refl _, .some q r⟩
  | _, _, _, i + 1, _, _, _, .none r, h, q => by
    obtain ⟨F, h1, h2⟩ := RepE.put (i := i) r (by simpa using h) q
    exact ⟨F, h1, .none h2⟩
  | _, _, _, 0, _, _, _, .some r t, h, q => by simp at h
  | _, _, _, i + 1, _, _, f, .some (f := f0) (g := g0) r t, h, q => by
    obtain ⟨F, h1, h2⟩ := RepE.put (i := i) t (by simpa using h) q
    refine ⟨f0 ++ F, ?_, .some r h2⟩
    refine (List.Perm.append_left f0 h1).trans ?_
    rw [← List.append_assoc, ← List.append_assoc]
    exact List.Perm.append_right g0 List.perm_append_comm
theorem set_same {α : Type} {l : List α} {i : Nat} {x : α} (h : l[i]? = Option.some x) : l.set i x = l := by
  obtain ⟨hi, rfl⟩ := List.getElem?_eq_some_iff.mp h
  exact List.set_getElem_self hi
theorem RepE.put' {σ : List (Option V)} {e : En} {g : List Addr} {i : Nat} {v : V} {d : D} {f : List Addr} (r : RepE K cl B H σ e g) (h : e[i]? = Option.some Option.none) (hv : σ[i]? = Option.some (Option.some v)) (q : Rep K cl B H v d f) :
    ∃ F, F.Perm (f ++ g) ∧ RepE K cl B H σ (e.set i (Option.some d)) F := by
  obtain ⟨F, h1, h2⟩ := r.put h q
  rw [set_same hv] at h2
  exact ⟨F, h1, h2⟩
end

structure Rel (K : PySem.W.Frag) (cl : Cl) (B H : Hp) (σ : L2.St) (e : En) (F : List Addr) : Prop where
  rep : RepE K cl B H σ e F
  nd : F.Nodup
  ex : Ex B H
/-- from one state to a later one: F what was owned, F' what is -/
structure Step (B H : Hp) (F : List Addr) (B' H' : Hp) (F' : List Addr) : Prop where
  b : Ex B B'
  keep : ∀ a o, H a = some o → a ∉ F → H' a = some o
  nb : ∀ a, B a = none → B' a ≠ none → a ∈ F ∨ H a = none
  fr : ∀ a ∈ F', a ∈ F ∨ H a = none
  live : ∀ a, H' a = none → H a = none
section
variable {B B1 B2 H H1 H2 : Hp} {F F1 F2 f f1 f2 : List Addr}
theorem Step.refl : Step B H F B H F := ⟨Ex.refl B, fun _ _ e _ => e, fun a e n => absurd e n, fun a m => .inl m, fun _ e => e⟩
theorem Step.trans (s : Step B H F B1 H1 F1) (t : Step B1 H1 F1 B2 H2 F2) : Step B H F B2 H2 F2 where
  b := s.b.trans t.b
  keep := fun a o e n => t.keep a o (s.keep a o e n) fun m => by
    rcases s.fr a m with m | m
    · exact n m
    · rw [e] at m; cases m
  nb := fun a e n => by
    by_cases h : B1 a = none
    · rcases t.nb a h n with m | m
      · exact s.fr a m
      · exact .inr (s.live a m)
    · exact s.nb a e h
  fr := fun a m => by
    rcases t.fr a m with m | m
    · exact s.fr a m
    · exact .inr (s.live a m)
  live := fun a e => s.live a (t.live a e)
/-- owning less in the end -/
theorem Step.less (s : Step B H F B1 H1 F1) (h : ∀ a ∈ f, a ∈ F1) : Step B H F B1 H1 f := ⟨s.b, s.keep, s.nb, fun a m => s.fr a (h a m), s.live⟩
theorem Step.more (s : Step B H F B1 H1 F1) (h : ∀ a ∈ F, a ∈ f) : Step B H f B1 H1 F1 :=
  ⟨s.b, fun a o e n => s.keep a o e fun m => n (h a m), fun a e n => (s.nb a e n).imp (h a) id, fun a m => (s.fr a m).imp (h a) id, s.live⟩
/-- something held beside -/
theorem Step.hold (t : Step B1 H1 F1 B2 H2 F2) (h : ∀ a ∈ f, a ∈ F) (hF : ∀ a ∈ F1, a ∈ F) : Step B1 H1 F B2 H2 (F2 ++ f) :=
  ⟨t.b, fun a o e n => t.keep a o e fun m => n (hF a m), fun a e n => (t.nb a e n).imp (hF a) id, fun a m => by
    rcases List.mem_append.mp m with m | m
    · exact (t.fr a m).imp (hF a) id
    · exact .inl (h a m), t.live⟩
/-- new objects alone -/
structure Loc (B H B' H' : Hp) (f : List Addr) : Prop where
  b : Ex B B'
  h : Ex H H'
  nb : ∀ a, B a = none → B' a ≠ none → H a = none
  fr : ∀ a ∈ f, H a = none
  nd : f.Nodup
  ex : Ex B' H'
  there : ∀ a ∈ f, B' a = none
theorem Loc.refl (e : Ex B H) : Loc B H B H [] := ⟨Ex.refl B, Ex.refl H, fun _ e n => absurd e n, fun _ m => (nomatch m), List.nodup_nil, e, fun _ m => (nomatch m)⟩
theorem Loc.step (l : Loc B H B1 H1 f) (F : List Addr) : Step B H F B1 H1 (F ++ f) where
  b := l.b
  keep := fun a o e _ => l.h a o e
  nb := fun a e n => .inr (l.nb a e n)
  fr := fun a m => by
    rcases List.mem_append.mp m with m | m
    · exact .inl m
    · exact .inr (l.fr a m)
  live := fun a e => l.h.none e
/-- a new object that is owned -/
theorem Loc.own {p : Addr} {o : HO} (e : Ex B H) (h : H p = none) : Loc B H B (upd H p o) [p] where
  b := Ex.refl B
  h := Ex.new h
  nb := fun _ e n => absurd e n
  fr := fun a m => by rw [List.mem_singleton.mp m]; exact h
  nd := by simp
  ex := e.trans (Ex.new h)
  there := fun a m => by rw [List.mem_singleton.mp m]; exact e.none h
/-- a new object that is frozen -/
theorem Loc.frz {p : Addr} {o : HO} (e : Ex B H) (h : H p = none) : Loc B H (upd B p o) (upd H p o) [] where
  b := Ex.new (e.none h)
  h := Ex.new h
  nb := fun a e n => by
    by_cases hp : a = p
    · rw [hp]; exact h
    · rw [upd_ne hp] at n; exact absurd e n
  fr := fun _ m => nomatch m
  nd := List.nodup_nil
  ex := fun a u q => by
    by_cases hp : a = p
    · rw [hp, upd_same] at q ⊢; exact q
    · rw [upd_ne hp] at q ⊢; exact e a u q
  there := fun _ m => nomatch m
end
section
variable {K : PySem.W.Frag} {cl : Cl} {B B1 B2 H H1 H2 : Hp} {F F1 F2 f f1 f2 : List Addr} {σ : L2.St} {e e1 : En}
theorem Rel.there (R : Rel K cl B H σ e F) {a : Addr} (m : a ∈ F) : (∃ o, H a = some o) ∧ B a = none := R.rep.there a m
theorem Rel.loc (R : Rel K cl B H σ e F) (l : Loc B H B1 H1 f) : Rel K cl B1 H1 σ e F where
  rep := R.rep.mono l.b (fun a _ o h => l.h a o h) fun a m => by
    cases q : B1 a with
    | none => rfl
    | some o =>
      have z := l.nb a (R.there m).2 (by rw [q]; exact fun z => nomatch z)
      obtain ⟨⟨u, hu⟩, _⟩ := R.there m
      rw [z] at hu; cases hu
  nd := R.nd
  ex := l.ex
theorem Rel.locNd (R : Rel K cl B H σ e F) (l : Loc B H B1 H1 f) : (F ++ f).Nodup := by
  refine List.nodup_append.mpr ⟨R.nd, l.nd, fun a m b m' z => ?_⟩
  subst z
  obtain ⟨⟨u, hu⟩, _⟩ := R.there m
  rw [l.fr a m'] at hu; cases hu
end

/-! ### relations of a value that is handed on and what it stands for -/
abbrev RelT (β α : Type) := L2.St → Hp → Hp → β → α → List Addr → Prop
structure Frm {β α : Type} (rel : RelT β α) : Prop where
  mono : ∀ {σ B H B' H' b a f}, rel σ B H b a f → Ex B B' → (∀ x ∈ f, ∀ o, H x = some o → H' x = some o) → (∀ x ∈ f, B' x = none) → rel σ B' H' b a f
  there : ∀ {σ B H b a f}, rel σ B H b a f → ∀ x ∈ f, (∃ o, H x = some o) ∧ B x = none
def rOV (K : PySem.W.Frag) (cl : Cl) : RelT V OV := fun σ B H v o f => match o with
  | .sl i => f = [] ∧ σ[i]? = some (some v)
  | .tm d => Rep K cl B H v d f
def rOVs (K : PySem.W.Frag) (cl : Cl) : RelT (List V) (List OV) := fun σ B H vs os f => match vs, os with
  | [], [] => f = []
  | v :: vs, o :: os => ∃ g h, f = g ++ h ∧ rOV K cl σ B H v o g ∧ rOVs K cl σ B H vs os h
  | _, _ => False
def rB : RelT Bool Bool := fun _ _ _ b a f => b = a ∧ f = []
section
variable {K : PySem.W.Frag} {cl : Cl}
theorem frmOV : Frm (rOV K cl) where
  mono := fun {σ B H B' H' v o f} r eB k n => by
    cases o with
    | sl i => exact r
    | tm d => exact Rep.mono eB r k n
  there := fun {σ B H v o f} r x m => by
    cases o with
    | sl i => rw [r.1] at m; cases m
    | tm d => exact Rep.there r x m
theorem frmOVs : Frm (rOVs K cl) where
  mono := fun {σ B H B' H' vs os f} => by
    induction vs generalizing os f with
    | nil => cases os with
      | nil => exact fun r _ _ _ => r
      | cons o os => exact fun r _ _ _ => r
    | cons v vs ih => cases os with
      | nil => exact fun r _ _ _ => r
      | cons o os =>
        rintro ⟨g, h, rfl, r1, r2⟩ eB k n
        exact ⟨g, h, rfl, frmOV.mono r1 eB (fun x m => k x (List.mem_append_left _ m)) (fun x m => n x (List.mem_append_left _ m)), ih r2 eB (fun x m => k x (List.mem_append_right _ m)) (fun x m => n x (List.mem_append_right _ m))⟩
  there := fun {σ B H vs os f} => by
    induction vs generalizing os f with
    | nil => cases os with
      | nil => intro r x m; rw [show f = [] from r] at m; cases m
      | cons o os => exact fun r => False.elim r
    | cons v vs ih => cases os with
      | nil => exact fun r => False.elim r
      | cons o os =>
        rintro ⟨g, h, rfl, r1, r2⟩ x m
        rcases List.mem_append.mp m with m | m
        · exact frmOV.there r1 x m
        · exact ih r2 x m
theorem frmB : Frm rB := ⟨fun r _ _ _ => r, fun r x m => by rw [r.2] at m; cases m⟩
end

/-- an exception: its class, its own dict, for what it stands -/
def ExcAt (K : PySem.W.Frag) (cl : Cl) (B H : Hp) (c : Value) (dd : Option Addr) : Exn → Prop
  | .mk C fs => ∃ Ca, cl C = some Ca ∧ c = .ref Ca ∧ match fs with
    | [] => dd = none
    | f :: r => ∃ da vs, dd = some da ∧ H da = some (.xd vs) ∧ vs.map (·.1) = (f :: r).map (·.1) ∧ Reps K cl B H (vs.map (·.2)) ((f :: r).map (·.2)) []

section
variable {α β : Type}
def Fin (K : PySem.W.Frag) (cl : Cl) (W : WX) (rel : RelT β α) (σ : L2.St) (B H : Hp) (F : List Addr) (r : Res α) (Q : β → Hp → Prop) : Prop := match r with
  | .ok a e' => ∀ b B' H' F' f, Rel K cl B' H' σ e' F' → rel σ B' H' b a f → (F' ++ f).Nodup → Step B H F B' H' (F' ++ f) → Q b H'
  | .err x e' => ∀ c dd B' H' F', Rel K cl B' H' σ e' F' → Step B H F B' H' F' → ExcAt K cl B' H' c dd x → W c dd σ H'
  | .stuck => False
/-- the reading that a function on environments stands for -/
def T (K : PySem.W.Frag) (cl : Cl) (W : WX) (rel : RelT β α) (m : M α) : L2.St → Hp → (β → Hp → Prop) → Prop := fun σ H Q =>
  ∃ B e F, Rel K cl B H σ e F ∧ Fin K cl W rel σ B H F (m e) Q
end
abbrev TV (K : PySem.W.Frag) (cl : Cl) (W : WX) (m : M OV) : TE := T K cl W (rOV K cl) m
abbrev TVs (K : PySem.W.Frag) (cl : Cl) (W : WX) (m : M (List OV)) : TA := T K cl W (rOVs K cl) m
abbrev TB (K : PySem.W.Frag) (cl : Cl) (W : WX) (m : M Bool) : TT := T K cl W rB m
section
variable {K : PySem.W.Frag} {cl : Cl} {W : WX} {α β γ δ : Type} {rel : RelT β α} {rel2 : RelT δ γ} {B B1 B2 H H1 H2 : Hp} {F F1 F2 f f1 f2 : List Addr} {σ : L2.St} {e e1 : En} {m : M α} {Q : β → Hp → Prop} {Q2 : δ → Hp → Prop} {r : Res γ} {k : α → M γ}
theorem Fin.shift (h : Fin K cl W rel2 σ B H F r Q2) (s : Step B H F B1 H1 F1) : Fin K cl W rel2 σ B1 H1 F1 r Q2 := by
  cases r with
  | ok a e' => exact fun b B' H' F' f R q nd t => h b B' H' F' f R q nd (s.trans t)
  | err x e' => exact fun c dd B' H' F' R t q => h c dd B' H' F' R (s.trans t) q
  | stuck => exact h
/-- the first part of two: what it gives is met with the whole's wish about the rest -/
theorem T_go (R : Rel K cl B H σ e F) (h : Fin K cl W rel2 σ B H F ((m e).bind k) Q2)
    (ok : ∀ a e1, m e = .ok a e1 → Fin K cl W rel2 σ B H F (k a e1) Q2 → ∀ b B1 H1 F1 f1, Rel K cl B1 H1 σ e1 F1 → rel σ B1 H1 b a f1 → (F1 ++ f1).Nodup → Step B H F B1 H1 (F1 ++ f1) → Q b H1) : T K cl W rel m σ H Q := by
  refine ⟨B, e, F, R, ?_⟩
  cases q : m e with
  | ok a e1 =>
    rw [q] at h
    exact fun b B1 H1 F1 f1 R1 r1 nd s => ok a e1 q h b B1 H1 F1 f1 R1 r1 nd s
  | err x e1 =>
    rw [q] at h
    exact h
  | stuck =>
    rw [q] at h
    exact h
theorem T.of (R : Rel K cl B H σ e F) (h : Fin K cl W rel σ B H F (m e) Q) : T K cl W rel m σ H Q := ⟨B, e, F, R, h⟩
/-- what was held stands behind a step -/
theorem held (frm : Frm rel) {b : β} {a : α} (r : rel σ B1 H1 b a f1) (nd : (F1 ++ f1).Nodup) (s : Step B1 H1 F1 B2 H2 F2) : rel σ B2 H2 b a f1 := by
  have dis : ∀ x ∈ f1, x ∉ F1 := fun x m m' => (List.nodup_append.mp nd).2.2 x m' x m rfl
  refine frm.mono r s.b (fun x m o h => s.keep x o h (dis x m)) fun x m => ?_
  obtain ⟨⟨o, ho⟩, hb⟩ := frm.there r x m
  cases q : B2 x with
  | none => rfl
  | some u =>
    rcases s.nb x hb (by rw [q]; exact fun z => nomatch z) with z | z
    · exact absurd z (dis x m)
    · rw [ho] at z; cases z
/-- .. and apart from what is owned then -/
theorem heldNd (frm : Frm rel) {b : β} {a : α} (r : rel σ B1 H1 b a f1) (nd : (F1 ++ f1).Nodup) (s : Step B1 H1 F1 B2 H2 F2) (nd2 : F2.Nodup) : (F2 ++ f1).Nodup := by
  obtain ⟨n1, n2, n3⟩ := List.nodup_append.mp nd
  refine List.nodup_append.mpr ⟨nd2, n2, fun x m y m' z => ?_⟩
  subst z
  rcases s.fr x m with q | q
  · exact n3 x q x m' rfl
  · obtain ⟨⟨o, ho⟩, _⟩ := frm.there r x m'
    rw [ho] at q; cases q
end
section
variable {K : PySem.W.Frag} {cl : Cl} {W : WX} {α β γ δ : Type} {rel : RelT β α} {rel2 : RelT δ γ} {B B1 B2 H H1 H2 : Hp} {F F1 F2 f f1 f2 : List Addr} {σ : L2.St} {e e1 : En} {m : M α} {Q : β → Hp → Prop} {Q2 : δ → Hp → Prop} {k : α → M γ}
/-- a later part: something is held (f1) -/
theorem T_on (R1 : Rel K cl B1 H1 σ e1 F1) (s : Step B H F B1 H1 (F1 ++ f1)) (h : Fin K cl W rel2 σ B H F ((m e1).bind k) Q2)
    (ok : ∀ a e2, m e1 = .ok a e2 → Fin K cl W rel2 σ B H F (k a e2) Q2 → ∀ b B2 H2 F2 f2, Rel K cl B2 H2 σ e2 F2 → rel σ B2 H2 b a f2 → (F2 ++ f2).Nodup → Step B1 H1 F1 B2 H2 (F2 ++ f2) → Q b H2) : T K cl W rel m σ H1 Q := by
  refine ⟨B1, e1, F1, R1, ?_⟩
  cases q : m e1 with
  | ok a e2 =>
    rw [q] at h
    exact fun b B2 H2 F2 f2 R2 r2 nd t => ok a e2 q h b B2 H2 F2 f2 R2 r2 nd t
  | err x e2 =>
    rw [q] at h
    exact fun c dd B' H' F' R t q => h c dd B' H' F' R ((s.less fun a m => List.mem_append_left _ m).trans t) q
  | stuck =>
    rw [q] at h
    exact h
theorem T.mono {P P' : β → Hp → Prop} (h : T K cl W rel m σ H P) (hq : ∀ b H, P b H → P' b H) : T K cl W rel m σ H P' := by
  obtain ⟨B, e, F, R, h⟩ := h
  refine ⟨B, e, F, R, ?_⟩
  cases q : m e with
  | ok a e1 =>
    rw [q] at h
    exact fun b B1 H1 F1 f1 R1 r1 nd s => hq _ _ (h b B1 H1 F1 f1 R1 r1 nd s)
  | err x e1 =>
    rw [q] at h
    exact h
  | stuck =>
    rw [q] at h
    exact h
/-- the state, something held, a step: all together -/
theorem Step.both (s : Step B H F B1 H1 (F1 ++ f1)) (t : Step B1 H1 F1 B2 H2 F2) : Step B H F B2 H2 (F2 ++ f1) :=
  s.trans (t.hold (fun a m => List.mem_append_right _ m) fun a m => List.mem_append_left _ m)
end
/-- argument lists -/
theorem args_nil {K : PySem.W.Frag} {cl : Cl} {W : WX} {σ : L2.St} {H : Hp} {Q : List V → Hp → Prop} (h : TVs K cl W (mArgs []) σ H Q) : tNil σ H Q := by
  obtain ⟨B, e, F, R, h⟩ := h
  exact h [] B H F [] R rfl (by rw [List.append_nil]; exact R.nd) (by rw [List.append_nil]; exact Step.refl)
theorem args_cons {K : PySem.W.Frag} {cl : Cl} {W : WX} {m : M OV} {ms : List (M OV)} {σ : L2.St} {H : Hp} {Q : List V → Hp → Prop} (h : TVs K cl W (mArgs (m :: ms)) σ H Q) : tCons (TV K cl W m) (TVs K cl W (mArgs ms)) σ H Q := by
  obtain ⟨B, e, F, R, h⟩ := h
  refine T_go R h fun o e1 _ h1 v B1 H1 F1 f1 R1 r1 nd1 s1 => ?_
  refine T_on R1 s1 h1 fun os e2 q2 h2 vs B2 H2 F2 f2 R2 r2 nd2 s2 => ?_
  have r1' := held frmOV r1 nd1 s2
  have nd := heldNd frmOV r1 nd1 s2 nd2
  have st := s1.both s2
  refine h2 (v :: vs) B2 H2 F2 (f1 ++ f2) R2 ⟨f1, f2, rfl, r1', r2⟩ ?_ (st.less fun a m => ?_)
  · have p : (F2 ++ (f1 ++ f2)).Perm ((F2 ++ f2) ++ f1) := by
      rw [List.append_assoc]
      exact List.Perm.append_left F2 List.perm_append_comm
    exact p.nodup_iff.mpr nd
  · simp only [List.mem_append] at m ⊢
    rcases m with m | m | m <;> simp [m]
end Dy
/-! Dy, part C: expressions. -/
namespace Dy
open PySem PySem.Spec PyProof.Rows L2

section
variable {X : Cx} {e : Expr} {es : List Expr}
theorem PE.weak {t t' : TE} (h : PE X e t) (w : ∀ σ H Q, t' σ H Q → t σ H Q) : PE X e t' := ⟨fun pins s σ H Q I q => h.run pins s σ H Q I (w σ H Q q)⟩
theorem PT.weak {t t' : TT} (h : PT X e t) (w : ∀ σ H Q, t' σ H Q → t σ H Q) : PT X e t' := ⟨fun pins s σ H Q I q => h.run pins s σ H Q I (w σ H Q q)⟩
theorem PW.weak {t t' : TT} (h : PW X e t) (w : ∀ σ H Q, t' σ H Q → t σ H Q) : PW X e t' := ⟨fun wh pins s σ H Q I q => h.run wh pins s σ H Q I (w σ H Q q)⟩
theorem PA.weak {t t' : TA} (h : PA X es t) (w : ∀ σ H Q, t' σ H Q → t σ H Q) : PA X es t' := ⟨fun pos pins s σ H Q I q => h.run pos pins s σ H Q I (w σ H Q q)⟩
theorem PS.weak {st : Stmt} {t t' : TS} (h : PS X st t) (w : ∀ D σ H, t' D σ H → t D σ H) : PS X st t' := ⟨fun pins s σ H D I q => h.run pins s σ H D I (w D σ H q)⟩
theorem PSs.weak {st : List Stmt} {t t' : TS} (h : PSs X st t) (w : ∀ D σ H, t' D σ H → t D σ H) : PSs X st t' := ⟨fun pins s σ H D I q => h.run pins s σ H D I (w D σ H q)⟩
end

/-! ### reading data back -/
section
variable {K : PySem.W.Frag} {cl : Cl} {B H : Hp} {v : V} {f : List Addr}
theorem Rep.int_inv {i : Int} (r : Rep K cl B H v (.int i) f) : v = .int i := by cases r; rfl
theorem Rep.bl_inv {b : Bool} (r : Rep K cl B H v (.bl b) f) : v = .bl b := by cases r; rfl
theorem Rep.str_inv {x : Str} (r : Rep K cl B H v (.str x) f) : v = .str x := by cases r; rfl
theorem Rep.non_inv (r : Rep K cl B H v .non f) : v = .non := by cases r; rfl
theorem Rep.lst_inv {o : Bool} {ds : List D} (ex : Ex B H) (r : Rep K cl B H v (.lst o ds) f) : ∃ a vs g, v = .ref a ∧ H a = some (.lst vs) ∧ Reps K cl B H vs ds g := by
  cases r with
  | lstF h r => exact ⟨_, _, _, rfl, ex _ _ h, r⟩
  | lstO h b r => exact ⟨_, _, _, rfl, h, r⟩
theorem Rep.tup_inv {o : Bool} {ds : List D} (ex : Ex B H) (r : Rep K cl B H v (.tup o ds) f) : ∃ a vs g, v = .ref a ∧ SqT K H a vs ∧ Reps K cl B H vs ds g := by
  cases r with
  | tupF h r => exact ⟨_, _, _, rfl, ex.sqT h, r⟩
  | tupO h b r => exact ⟨_, _, _, rfl, SqT.of h, r⟩
theorem Rep.lok_inv {ds : List D} (ex : Ex B H) (r : Rep K cl B H v (.lok ds) f) : ∃ a vs, v = .ref a ∧ SqL K H a vs ∧ Reps K cl B H vs ds [] := by
  cases r with
  | lok h r => exact ⟨_, _, rfl, ex.sqL h, r⟩
theorem Rep.dic_inv {o : Bool} {ds : List (Key × D)} (ex : Ex B H) (r : Rep K cl B H v (.dic o ds) f) : ∃ a kvs g, v = .ref a ∧ H a = some (.dK kvs) ∧ kvs.map (·.1) = ds.map (·.1) ∧ Reps K cl B H (kvs.map (·.2)) (ds.map (·.2)) g := by
  cases r with
  | dicF h e r => exact ⟨_, _, _, rfl, ex _ _ h, e, r⟩
  | dicO h b e r => exact ⟨_, _, _, rfl, h, e, r⟩
/-- elements that are frozen -/
theorem Reps.fr0 {vs : List V} {ds : List D} (r : Reps K cl B H vs ds f) (h : D.isFzL ds = true) : Reps K cl B H vs ds [] := by
  have z := Reps.nilF r h
  rw [z] at r
  exact r
theorem Rep.fr0 {d : D} (r : Rep K cl B H v d f) (h : d.isFz = true) : Rep K cl B H v d [] := by
  have z := Rep.nil r h
  rw [z] at r
  exact r
end
def RepAll (K : PySem.W.Frag) (cl : Cl) (B H : Hp) : List V → List D → Prop := Paired fun v d => ∃ f, Rep K cl B H v d f
section
variable {K : PySem.W.Frag} {cl : Cl} {B H : Hp}
theorem RepAll.one {vs : List V} {d : D} (r : RepAll K cl B H vs [d]) : ∃ v f, vs = [v] ∧ Rep K cl B H v d f := by
  cases r with
  | cons h t => cases t; obtain ⟨f, h⟩ := h; exact ⟨_, f, rfl, h⟩
theorem RepAll.two {vs : List V} {d d2 : D} (r : RepAll K cl B H vs [d, d2]) : ∃ v v2 f f2, vs = [v, v2] ∧ Rep K cl B H v d f ∧ Rep K cl B H v2 d2 f2 := by
  cases r with
  | cons h t =>
    obtain ⟨v2, f2, rfl, h2⟩ := RepAll.one t
    obtain ⟨f, h⟩ := h
    exact ⟨_, _, f, f2, rfl, h, h2⟩
theorem RepAll.three {vs : List V} {d d2 d3 : D} (r : RepAll K cl B H vs [d, d2, d3]) : ∃ v v2 v3 f f2 f3, vs = [v, v2, v3] ∧ Rep K cl B H v d f ∧ Rep K cl B H v2 d2 f2 ∧ Rep K cl B H v3 d3 f3 := by
  cases r with
  | cons h t =>
    obtain ⟨v2, v3, f2, f3, rfl, h2, h3⟩ := RepAll.two t
    obtain ⟨f, h⟩ := h
    exact ⟨_, _, _, f, f2, f3, rfl, h, h2, h3⟩
theorem get_rep {σ : L2.St} {e : En} {F f : List Addr} {o : OV} {v : V} {d : D} (R : Rel K cl B H σ e F) (r : rOV K cl σ B H v o f) (h : o.get e = some d) : ∃ g, Rep K cl B H v d g := by
  cases o with
  | sl i =>
    have h' : e[i]? = some (some d) := by
      have : (e[i]?).join = some d := h
      cases q : e[i]? with
      | none => rw [q] at this; simp at this
      | some x => rw [q] at this; simp at this; rw [this]
    obtain ⟨v', g, _, hv, hr, _, _⟩ := R.rep.take h'
    rw [r.2] at hv
    cases hv
    exact ⟨g, hr⟩
  | tm d' =>
    have : d' = d := Option.some.inj h
    subst this
    exact ⟨f, r⟩
theorem getAll_rep {σ : L2.St} {e : En} {F : List Addr} (R : Rel K cl B H σ e F) : ∀ {os : List OV} {vs : List V} {f : List Addr} {ds : List D}, rOVs K cl σ B H vs os f → getAll e os = some ds → RepAll K cl B H vs ds
  | [], [], _, _, _, h => by cases h; exact .nil
  | [], _ :: _, _, _, r, _ => r.elim
  | _ :: _, [], _, _, r, _ => r.elim
  | o :: os, v :: vs, f, ds, r, h => by
    obtain ⟨g, g2, _, r1, r2⟩ := r
    rw [getAll] at h
    cases q : o.get e with
    | none => rw [q] at h; simp at h
    | some d =>
      cases q2 : getAll e os with
      | none => rw [q, q2] at h; simp at h
      | some ds' =>
        rw [q, q2] at h
        cases h
        exact .cons (get_rep R r1 q) (getAll_rep R r2 q2)
end

/-! ### operations that read and make new objects alone -/
def mLoc (f : List D → Option D) (ma : M (List OV)) : M OV := fun e => (ma e).bind fun os e1 => match getAll e1 os with
  | some ds => match f ds with
    | some z => .ok (.tm z) e1
    | none => .stuck
  | none => .stuck
def LocOp (K : PySem.W.Frag) (cl : Cl) (r : List V → Hp → VK → Prop) (f : List D → Option D) : Prop := ∀ (B H : Hp) (vs : List V) (ds : List D) (z : D) (Q : VK), Ex B H → RepAll K cl B H vs ds → f ds = some z →
  (∀ v B' H' fz, Rep K cl B' H' v z fz → Loc B H B' H' fz → Q v H') → r vs H Q
theorem T_loc {K : PySem.W.Frag} {cl : Cl} {W : WX} {r : List V → Hp → VK → Prop} {f : List D → Option D} {ma : M (List OV)} {σ : L2.St} {H : Hp} {Q : VK} (hop : LocOp K cl r f) (h : TV K cl W (mLoc f ma) σ H Q) : TVs K cl W ma σ H fun vs H1 => r vs H1 Q := by
  obtain ⟨B, e, F, R, h⟩ := h
  refine T_go R h fun os e1 _ h1 vs B1 H1 F1 f1 R1 r1 nd1 s1 => ?_
  cases q : getAll e1 os with
  | none => rw [q] at h1; exact h1.elim
  | some ds =>
    rw [q] at h1
    cases q2 : f ds with
    | none => simp only [q2] at h1; exact h1.elim
    | some z =>
      simp only [q2] at h1
      refine hop B1 H1 vs ds z Q R1.ex (getAll_rep R1 r1 q) q2 fun v B' H' fz rz l => ?_
      exact h1 v B' H' F1 fz (R1.loc l) rz (R1.locNd l) ((s1.less fun a m => List.mem_append_left _ m).trans (l.step F1))
/-- a rule by values as a rule over lists of values -/
def r2 (r : R2) : List V → Hp → VK → Prop := fun vs H Q => match vs with
  | [x, y] => r x y H Q
  | _ => False
section
variable {X : Cx} {cl : Cl} {W : WX} {a b c : Expr} {ma mb mc : M OV} {pos : Pos}
theorem T2 {K : PySem.W.Frag} {r : R2} {σ : L2.St} {H : Hp} {Q : VK} (h : TVs K cl W (mArgs [ma, mb]) σ H fun vs H1 => r2 r vs H1 Q) : tOp r (TV K cl W ma) (TV K cl W mb) σ H Q := by
  refine (args_cons h).mono fun x H1 h1 => ?_
  exact (args_cons h1).mono fun y H2 h2 => args_nil h2
theorem dpe_op {op : Operator} {r : R2} {f : List D → Option D} (ho : OpR X (binaryOp op) r) (hl : LocOp X.K cl (r2 r) f) (ha : PE X a (TV X.K cl W ma)) (hb : PE X b (TV X.K cl W mb)) : PE X (.BinOp a op b pos) (TV X.K cl W (mLoc f (mArgs [ma, mb]))) :=
  PE.weak (pe_op ho ha hb) fun _ _ _ h => T2 (T_loc hl h)
theorem dpe_cmp {op : CmpOp} {r : R2} {f : List D → Option D} (ho : OpR X (compareOp op) r) (hl : LocOp X.K cl (r2 r) f) (ha : PE X a (TV X.K cl W ma)) (hb : PE X b (TV X.K cl W mb)) (hm : behindInMarks op b = false := by first | exact nomark _ | rfl) :
    PE X (.Compare a [op] [b] pos) (TV X.K cl W (mLoc f (mArgs [ma, mb]))) :=
  PE.weak (pe_cmpR ho ha hb hm) fun _ _ _ h => T2 (T_loc hl h)
/-- the bool that a value is -/
def mTest (m : M OV) : M Bool := fun e => (m e).bind fun o e1 => match o.get e1 with
  | some (.bl b) => .ok b e1
  | _ => .stuck
theorem T_test {K : PySem.W.Frag} {m : M OV} {σ : L2.St} {H : Hp} {Q : Bool → Hp → Prop} (h : TB K cl W (mTest m) σ H Q) : TV K cl W m σ H fun x H1 => ∃ k, x = .bl k ∧ Q k H1 := by
  obtain ⟨B, e, F, R, h⟩ := h
  refine T_go R h fun o e1 _ h1 v B1 H1 F1 f1 R1 r1 nd1 s1 => ?_
  cases q : o.get e1 with
  | none => simp only [q] at h1; exact h1.elim
  | some d =>
    obtain ⟨g, rd⟩ := get_rep R1 r1 q
    cases d with
    | bl k =>
      simp only [q] at h1
      exact ⟨k, rd.bl_inv, h1 k B1 H1 F1 [] R1 ⟨rfl, rfl⟩ (by rw [List.append_nil]; exact R1.nd) (s1.less fun a m => by rw [List.append_nil] at m; exact List.mem_append_left _ m)⟩
    | _ => simp only [q] at h1; exact h1.elim
theorem dpt_cmp {op : CmpOp} {r : R2} {f : List D → Option D} (ho : OpR X (compareOp op) r) (hl : LocOp X.K cl (r2 r) f) (ha : PE X a (TV X.K cl W ma)) (hb : PE X b (TV X.K cl W mb)) (hm : behindInMarks op b = false := by first | exact nomark _ | rfl) :
    PT X (.Compare a [op] [b] pos) (TB X.K cl W (mTest (mLoc f (mArgs [ma, mb])))) :=
  PT.weak (pt_cmpR ho ha hb hm) fun _ _ _ h => T2 (T_loc hl (T_test h))
theorem dpt_val {m : M OV} (h : PE X e (TV X.K cl W m)) (he : ∀ whole, isTrue e X.env whole = (do let v ← whole; standAt e.pos; holding [v] (truthy v)) := by intro _; rfl) : PT X e (TB X.K cl W (mTest m)) :=
  PT.weak (pt_val h he) fun _ _ _ h => T_test h
/-- truth of any value -/
def truD : D → Option Bool
  | .non => some false
  | .bl b => some b
  | .int i => some (i != 0)
  | .str y => if y.length ≤ 1000000 then some ((y.length : Int) != 0) else none
  | .lst _ xs => some (!xs.isEmpty)
  | .lok xs => some (!xs.isEmpty)
  | .tup _ xs => some (!xs.isEmpty)
  | .dic _ xs => some (!xs.isEmpty)
  | _ => none
theorem szl {n : Nat} (h : n ≤ 1000000) : n ≤ sizeLine := Nat.le_trans h (by decide)
theorem Reps.isEmpty {K : PySem.W.Frag} {B H : Hp} {vs ds f} (r : Reps K cl B H vs ds f) : vs.isEmpty = ds.isEmpty := by cases r <;> rfl
theorem truD_ok {K : PySem.W.Frag} {B H : Hp} {v : V} {d : D} {f : List Addr} {k : Bool} (ex : Ex B H) (r : Rep K cl B H v d f) (h : truD d = some k) : TruV K v H k := by
  cases d with
  | non => cases h; rw [r.non_inv]; exact rfl
  | bl b => cases h; rw [r.bl_inv]; exact rfl
  | int i => cases h; rw [r.int_inv]; exact rfl
  | str y =>
    rw [r.str_inv]
    simp only [truD] at h
    split at h
    · rename_i hy
      cases h
      exact ⟨szl hy, rfl⟩
    · cases h
  | lst o xs =>
    cases h
    obtain ⟨a, vs, g, rfl, hh, hr⟩ := r.lst_inv ex
    exact .inl ⟨vs, SqL.of hh, by rw [hr.isEmpty]⟩
  | lok xs =>
    cases h
    obtain ⟨a, vs, rfl, hh, hr⟩ := r.lok_inv ex
    exact .inl ⟨vs, hh, by rw [hr.isEmpty]⟩
  | tup o xs =>
    cases h
    obtain ⟨a, vs, g, rfl, hh, hr⟩ := r.tup_inv ex
    exact .inr (.inl ⟨vs, hh, by rw [hr.isEmpty]⟩)
  | dic o xs =>
    cases h
    obtain ⟨a, vs, g, rfl, hh, he, hr⟩ := r.dic_inv ex
    refine .inr (.inr ⟨vs, hh, ?_⟩)
    have := congrArg List.isEmpty he
    simp only [List.isEmpty_map] at this
    rw [this]
  | ins o C fs => cases h
  | exc C fs => cases h
def mTruth (m : M OV) : M Bool := fun e => (m e).bind fun o e1 => match (o.get e1).bind truD with
  | some b => .ok b e1
  | none => .stuck
theorem dpt_truth {m : M OV} (h : PE X e (TV X.K cl W m)) (he : ∀ whole, isTrue e X.env whole = (do let v ← whole; standAt e.pos; holding [v] (truthy v)) := by intro _; rfl) : PT X e (TB X.K cl W (mTruth m)) := by
  refine PT.weak (pt_truth h he) fun σ H Q h => ?_
  obtain ⟨B, e, F, R, h⟩ := h
  refine T_go R h fun o e1 _ h1 v B1 H1 F1 f1 R1 r1 nd1 s1 => ?_
  cases q : o.get e1 with
  | none => simp only [q] at h1; exact h1.elim
  | some d =>
    obtain ⟨g, rd⟩ := get_rep R1 r1 q
    cases q2 : truD d with
    | none => simp only [q, Option.bind_some, q2] at h1; exact h1.elim
    | some k =>
      simp only [q, Option.bind_some, q2] at h1
      exact ⟨k, truD_ok R1.ex rd q2, h1 k B1 H1 F1 [] R1 ⟨rfl, rfl⟩ (by rw [List.append_nil]; exact R1.nd) (s1.less fun a m => by rw [List.append_nil] at m; exact List.mem_append_left _ m)⟩

/-! ### and, or, not, if -/
section
variable {α β : Type} {rel : RelT β α} {K : PySem.W.Frag} {σ : L2.St} {H : Hp} {Q : β → Hp → Prop}
def mIf (t : M Bool) (m n : M α) : M α := fun e => (t e).bind fun b e1 => if b = true then m e1 else n e1
theorem T_if {t : M Bool} {m n : M α} (h : T K cl W rel (mIf t m n) σ H Q) : TB K cl W t σ H fun b H1 => if b = true then T K cl W rel m σ H1 Q else T K cl W rel n σ H1 Q := by
  obtain ⟨B, e, F, R, h⟩ := h
  refine T_go R h fun k e1 _ h1 v B1 H1 F1 f1 R1 r1 nd1 s1 => ?_
  obtain ⟨rfl, rfl⟩ := r1
  rw [List.append_nil] at s1
  cases v with
  | true =>
    rw [if_pos rfl] at h1 ⊢
    exact ⟨B1, e1, F1, R1, Fin.shift h1 s1⟩
  | false =>
    rw [if_neg Bool.false_ne_true] at h1 ⊢
    exact ⟨B1, e1, F1, R1, Fin.shift h1 s1⟩
def mPure (a : α) : M α := fun e => .ok a e
theorem T_pure {b : Bool} {K : PySem.W.Frag} {σ : L2.St} {H : Hp} {Q : Bool → Hp → Prop} (h : TB K cl W (mPure b) σ H Q) : Q b H := by
  obtain ⟨B, e, F, R, h⟩ := h
  exact h b B H F [] R ⟨rfl, rfl⟩ (by rw [List.append_nil]; exact R.nd) (by rw [List.append_nil]; exact Step.refl)
theorem T_c {d : D} {v : V} (hr : ∀ B H, Rep K cl B H v d []) {Q : VK} (h : TV K cl W (mPure (.tm d)) σ H Q) : tC v σ H Q := by
  obtain ⟨B, e, F, R, h⟩ := h
  exact h v B H F [] R (hr B H) (by rw [List.append_nil]; exact R.nd) (by rw [List.append_nil]; exact Step.refl)
end
def mAnd (t u : M Bool) : M Bool := mIf t u (mPure false)
def mOr (t u : M Bool) : M Bool := mIf t (mPure true) u
def mNot (t : M Bool) : M Bool := mIf t (mPure false) (mPure true)
theorem ite_imp {c : Prop} [Decidable c] {A A' B B' : Prop} (h1 : A → A') (h2 : B → B') (h : if c then A else B) : if c then A' else B' := by
  by_cases q : c
  · rw [if_pos q] at h ⊢; exact h1 h
  · rw [if_neg q] at h ⊢; exact h2 h
theorem T_not {K : PySem.W.Frag} {t : M Bool} {σ : L2.St} {H : Hp} {Q : Bool → Hp → Prop} (h : TB K cl W (mNot t) σ H Q) : tNot (TB K cl W t) σ H Q := (T_if h).mono fun b H1 h1 => by
  cases b with
  | true => exact T_pure h1
  | false => exact T_pure h1
variable {tA tB' : M Bool} {rest : List Expr}
theorem dpw_and1 (ha : PT X a (TB X.K cl W tA)) : PW X (.BoolOp .And [a] pos) (TB X.K cl W tA) := pw_and1 ha
theorem dpw_or1 (ha : PT X a (TB X.K cl W tA)) : PW X (.BoolOp .Or [a] pos) (TB X.K cl W tA) := pw_or1 ha
theorem dpw_and (ha : PT X a (TB X.K cl W tA)) (hb : PW X (.BoolOp .And (b :: rest) pos) (TB X.K cl W tB')) : PW X (.BoolOp .And (a :: b :: rest) pos) (TB X.K cl W (mAnd tA tB')) :=
  PW.weak (pw_and ha hb) fun _ _ _ h => (T_if h).mono fun _ _ h1 => ite_imp id T_pure h1
theorem dpw_or (ha : PT X a (TB X.K cl W tA)) (hb : PW X (.BoolOp .Or (b :: rest) pos) (TB X.K cl W tB')) : PW X (.BoolOp .Or (a :: b :: rest) pos) (TB X.K cl W (mOr tA tB')) :=
  PW.weak (pw_or ha hb) fun _ _ _ h => (T_if h).mono fun _ _ h1 => ite_imp T_pure id h1
theorem dpt_not (ha : PT X a (TB X.K cl W tA)) : PT X (.UnaryOp .Not a pos) (TB X.K cl W (mNot tA)) := PT.weak (pt_not ha) fun _ _ _ h => T_not h
theorem dpe_ifExp (hc : PT X c (TB X.K cl W tA)) (ha : PE X a (TV X.K cl W ma)) (hb : PE X b (TV X.K cl W mb)) : PE X (.IfExp c a b pos) (TV X.K cl W (mIf tA ma mb)) :=
  PE.weak (pe_ifExp hc ha hb) fun _ _ _ h => T_if h
/-- and, or of bools as values -/
def mBoolV (t : M Bool) : M OV := fun e => (t e).bind fun b e1 => .ok (.tm (.bl b)) e1
theorem T_boolV {K : PySem.W.Frag} {t : M Bool} {σ : L2.St} {H : Hp} {Q : VK} (h : TV K cl W (mBoolV t) σ H Q) : TB K cl W t σ H fun b H1 => Q (.bl b) H1 := by
  obtain ⟨B, e, F, R, h⟩ := h
  refine T_go R h fun k e1 _ h1 v B1 H1 F1 f1 R1 r1 nd1 s1 => ?_
  obtain ⟨rfl, rfl⟩ := r1
  exact h1 _ B1 H1 F1 [] R1 .bl nd1 s1
/-- what an expression that is a bool is, by its test -/
theorem dpe_one {op} (h : PE X a (TV X.K cl W ma)) : PE X (.BoolOp op [a] pos) (TV X.K cl W (mBoolV (mTest ma))) := PE.weak (pe_one h) fun σ H Q h => (T_test (T_boolV h)).mono fun x H1 ⟨k, hk, q⟩ => by rw [hk]; exact q
theorem dpe_and (ha : PE X a (TV X.K cl W ma)) (hb : PE X (.BoolOp .And (b :: rest) pos) (TV X.K cl W (mBoolV tB'))) : PE X (.BoolOp .And (a :: b :: rest) pos) (TV X.K cl W (mBoolV (mAnd (mTest ma) tB'))) := by
  refine PE.weak (pe_and ha hb) fun σ H Q h => ?_
  refine (T_test (T_if (T_boolV h))).mono fun x H1 ⟨k, hk, q⟩ => ⟨k, hk, ?_⟩
  cases k with
  | true =>
    rw [if_pos rfl] at q ⊢
    obtain ⟨B, e, F, R, q⟩ := q
    refine ⟨B, e, F, R, ?_⟩
    cases q2 : tB' e with
    | ok b e2 =>
      rw [q2] at q
      rw [mBoolV, q2]
      intro v B' H' F' f' R' r' nd s'
      have e1 := Rep.bl_inv (show Rep X.K cl B' H' v (.bl b) f' from r')
      rw [e1]
      have z := Rep.nil (show Rep X.K cl B' H' v (.bl b) f' from r') rfl
      exact q b B' H' F' f' R' ⟨rfl, z⟩ nd s'
    | err x e2 => rw [q2] at q; rw [mBoolV, q2]; exact q
    | stuck => rw [q2] at q; exact q.elim
  | false =>
    rw [if_neg Bool.false_ne_true] at q ⊢
    exact T_pure q
theorem dpe_or (ha : PE X a (TV X.K cl W ma)) (hb : PE X (.BoolOp .Or (b :: rest) pos) (TV X.K cl W (mBoolV tB'))) : PE X (.BoolOp .Or (a :: b :: rest) pos) (TV X.K cl W (mBoolV (mOr (mTest ma) tB'))) := by
  refine PE.weak (pe_or ha hb) fun σ H Q h => ?_
  refine (T_test (T_if (T_boolV h))).mono fun x H1 ⟨k, hk, q⟩ => ⟨k, hk, ?_⟩
  cases k with
  | false =>
    rw [if_neg Bool.false_ne_true] at q ⊢
    obtain ⟨B, e, F, R, q⟩ := q
    refine ⟨B, e, F, R, ?_⟩
    cases q2 : tB' e with
    | ok b e2 =>
      rw [q2] at q
      rw [mBoolV, q2]
      intro v B' H' F' f' R' r' nd s'
      have e1 := Rep.bl_inv (show Rep X.K cl B' H' v (.bl b) f' from r')
      rw [e1]
      have z := Rep.nil (show Rep X.K cl B' H' v (.bl b) f' from r') rfl
      exact q b B' H' F' f' R' ⟨rfl, z⟩ nd s'
    | err x e2 => rw [q2] at q; rw [mBoolV, q2]; exact q
    | stuck => rw [q2] at q; exact q.elim
  | true =>
    rw [if_pos rfl] at q ⊢
    exact T_pure q
theorem dpe_not (ha : PE X a (TV X.K cl W ma)) : PE X (.UnaryOp .Not a pos) (TV X.K cl W (mBoolV (mNot (mTest ma)))) :=
  PE.weak (pe_not ha) fun σ H Q h => (T_test (T_not (T_boolV h)))
/-- a BoolOp's value where its test is known -/
theorem pw_pt {t : TT} (h : PW X e t) : PT X e t := h.pt

/-! ### names and constants -/
def mName (i : Nat) : M OV := fun e => match e[i]? with
  | some (some _) => .ok (.sl i) e
  | _ => .stuck
theorem T_name {K : PySem.W.Frag} {i : Nat} {σ : L2.St} {H : Hp} {Q : VK} (h : TV K cl W (mName i) σ H Q) : tVar i σ H Q := by
  obtain ⟨B, e, F, R, h⟩ := h
  unfold mName at h
  cases q : e[i]? with
  | none => simp only [q] at h; exact h.elim
  | some o => cases o with
    | none => simp only [q] at h; exact h.elim
    | some d =>
      simp only [q] at h
      obtain ⟨v, f, g, hv, hr, _, _⟩ := R.rep.take q
      exact ⟨v, hv, h v B H F [] R ⟨rfl, hv⟩ (by rw [List.append_nil]; exact R.nd) (by rw [List.append_nil]; exact Step.refl)⟩
theorem dpv (i : Nat) {x : Str} {pos : Pos} (hN : X.N[i]? = some x := by rfl) (hv : Vis X.env.scope x := by first | exact Or.inl rfl | exact Or.inr (Or.inl rfl) | exact Or.inr (Or.inr rfl)) (hd : (x == ("__debug__" : Str)) = false := by decide)
    (hcd : (x == ("__classdict__" : Str)) = false := by decide) : PE X (.Name x pos) (TV X.K cl W (mName i)) := PE.weak (pe_var hN hv hd hcd) fun _ _ _ h => T_name h
theorem dpe_int {i j pos} : PE X (.Constant (.int i) j pos) (TV X.K cl W (mPure (.tm (.int i)))) := PE.weak pe_int fun _ _ _ h => T_c (fun _ _ => .int) h
theorem dpe_bl {b j pos} : PE X (.Constant (.bool b) j pos) (TV X.K cl W (mPure (.tm (.bl b)))) := PE.weak pe_bl fun _ _ _ h => T_c (fun _ _ => .bl) h
theorem dpe_non {j pos} : PE X (.Constant .none j pos) (TV X.K cl W (mPure (.tm .non))) := PE.weak pe_non fun _ _ _ h => T_c (fun _ _ => .non) h
theorem dpe_str {x j pos} : PE X (.Constant (.str x) j pos) (TV X.K cl W (mPure (.tm (.str x)))) := PE.weak pe_str fun _ _ _ h => T_c (fun _ _ => .str) h
/-- a constant of the module -/
structure GC (K : PySem.W.Frag) (cl : Cl) (mg : Str → Option Value) (x : Str) (d : D) : Prop where
  is : ∃ v u, mg x = some u ∧ RelV v u ∧ ∀ B H, Rep K cl B H v d []
theorem dpe_glob {x : Str} {d : D} {pos : Pos} (G : GC X.K cl X.mg x d) (hg : Gl X x := by rfl) (hd : (x == ("__debug__" : Str)) = false := by decide) : PE X (.Name x pos) (TV X.K cl W (mPure (.tm d))) := by
  obtain ⟨v, u, hm, r, hr⟩ := G.is
  exact PE.weak (pe_glob hg hm r hd) fun _ _ _ h => T_c hr h
/-- arguments -/
theorem dpa_nil : PA X [] (TVs X.K cl W (mArgs [])) := PA.weak pa_nil fun _ _ _ h => args_nil h
theorem dpa_cons {m : M OV} {ms : List (M OV)} {es : List Expr} (ha : PE X e (TV X.K cl W m)) (hr : PA X es (TVs X.K cl W (mArgs ms))) (hs : starEach (e :: es) X.env = (false, eval e X.env) :: starEach es X.env := by rfl) : PA X (e :: es) (TVs X.K cl W (mArgs (m :: ms))) :=
  PA.weak (pa_cons ha hr hs) fun _ _ _ h => args_cons h
/-- a built-in by its name -/
theorem dpe_callB {id : String} {r : List V → Hp → VK → Prop} {f : List D → Option D} {x : Str} {p : Pos} {es : List Expr} {ms : List (M OV)} (hc : CallR X (.builtin id) r) (hl : LocOp X.K cl r f) (hm : X.mg x = none) (hv : bootBuiltins x = some (.builtin id)) (ha : PA X (e :: es) (TVs X.K cl W (mArgs ms)))
    (hg : Gl X x := by rfl) (hn : x ≠ "__name__" := by decide) (hd : (x == ("__debug__" : Str)) = false := by decide) (he : starEach (e :: es) X.env = (false, eval e X.env) :: starEach es X.env := by rfl) (hpl : (backTo pos (starEach es X.env)).any (·.1) = false := by rfl) :
    PE X (.Call (.Name x p) (e :: es) [] pos) (TV X.K cl W (mLoc f (mArgs ms))) := by
  refine PE.weak (pe_callB hc hg hm hv ha hn hd he hpl) fun _ _ _ h => T_loc hl h
theorem dpe_callTy {Ty : String} {r : List V → Hp → VK → Prop} {f : List D → Option D} {x : Str} {p : Pos} {es : List Expr} {ms : List (M OV)} (hc : CallR X (.type Ty) r) (hl : LocOp X.K cl r f) (hm : X.mg x = none) (hv : bootBuiltins x = some (.type Ty)) (ha : PA X (e :: es) (TVs X.K cl W (mArgs ms)))
    (hg : Gl X x := by rfl) (hn : x ≠ "__name__" := by decide) (hd : (x == ("__debug__" : Str)) = false := by decide) (he : starEach (e :: es) X.env = (false, eval e X.env) :: starEach es X.env := by rfl) (hpl : (backTo pos (starEach es X.env)).any (·.1) = false := by rfl) :
    PE X (.Call (.Name x p) (e :: es) [] pos) (TV X.K cl W (mLoc f (mArgs ms))) := by
  refine PE.weak (pe_callTy hc hg hm hv ha hn hd he hpl) fun _ _ _ h => T_loc hl h
end
end Dy
/-! Dy, part D: operations on data. -/
namespace Dy
open PySem PySem.Spec PyProof.Rows L2

/-- two rules for one operation -/
theorem OpR.or {X : Cx} {f : Value → Value → Sem Value} {r r' : R2} (h : OpR X f r) (h' : OpR X f r') : OpR X f fun x y H Q => r x y H Q ∨ r' x y H Q :=
  fun pins s σ H x y v u Q I rx ry q => q.elim (h pins s σ H x y v u Q I rx ry) (h' pins s σ H x y v u Q I rx ry)
theorem CallR.or {X : Cx} {f : Value} {r r' : List V → Hp → VK → Prop} (h : CallR X f r) (h' : CallR X f r') : CallR X f fun xs H Q => r xs H Q ∨ r' xs H Q :=
  fun pins s σ H xs us Q I rx q => q.elim (h pins s σ H xs us Q I rx) (h' pins s σ H xs us Q I rx)
theorem MtR.or {X : Cx} {id : String} {r r' : V → List V → Hp → VK → Prop} (h : MtR X id r) (h' : MtR X id r') : MtR X id fun x xs H Q => r x xs H Q ∨ r' x xs H Q :=
  fun pins s σ H x xs v us Q I rx rs q => q.elim (h pins s σ H x xs v us Q I rx rs) (h' pins s σ H x xs v us Q I rx rs)

section
variable {K : PySem.W.Frag} {cl : Cl} {B H : Hp} {p : Addr} {vs : List V} {ds : List D}
theorem new_lst (ex : Ex B H) (r : Reps K cl B H vs ds []) (h : H p = none) : Rep K cl B (upd H p (.lst vs)) (.ref p) (.lst true ds) [p] ∧ Loc B H B (upd H p (.lst vs)) [p] :=
  ⟨.lstO upd_same (ex.none h) (r.mono (Ex.refl B) (fun _ m => nomatch m) fun _ m => nomatch m), Loc.own ex h⟩
theorem new_tup (ex : Ex B H) (r : Reps K cl B H vs ds []) (h : H p = none) : Rep K cl (upd B p (.tup vs)) (upd H p (.tup vs)) (.ref p) (.tup false ds) [] ∧ Loc B H (upd B p (.tup vs)) (upd H p (.tup vs)) [] :=
  ⟨.tupF (.of upd_same) (r.mono (Ex.new (ex.none h)) (fun _ m => nomatch m) fun _ m => nomatch m), Loc.frz ex h⟩
theorem loc0 (ex : Ex B H) : Loc B H B H [] := Loc.refl ex
end

/-! ### + - * // % ** -/
def fAdd : List D → Option D
  | [.int i, .int j] => some (.int (i + j))
  | [.str x, .str y] => if x.length + y.length ≤ 1000000 then some (.str (x ++ y)) else none
  | [.lst _ xs, .lst _ ys] => if (D.isFzL xs && D.isFzL ys) = true ∧ xs.length + ys.length ≤ 1000000 then some (.lst true (xs ++ ys)) else none
  | [.tup false xs, .tup false ys] => if (D.isFzL xs && D.isFzL ys) = true ∧ xs.length + ys.length ≤ 1000000 then some (.tup false (xs ++ ys)) else none
  | _ => none
def rAdd (K : PySem.W.Frag) : R2 := fun x y H Q => (((∃ i j, x = .int i ∧ y = .int j ∧ Q (.int (i + j)) H) ∨ ∃ i j, x = .str i ∧ y = .str j ∧ i.length + j.length ≤ sizeLine ∧ Q (.str (i ++ j)) H) ∨ rCat x y H Q) ∨ rCatA K x y H Q
theorem op_addAll {X : Cx} : OpR X (binaryOp .Add) (rAdd X.K) := OpR.or (OpR.or (OpR.or op_add op_add_str) op_cat) op_catA
theorem lo_add {K : PySem.W.Frag} {cl : Cl} : LocOp K cl (r2 (rAdd K)) fAdd := by
  intro B H vs ds z Q ex r h k
  unfold fAdd at h
  split at h
  · rename_i i j
    cases h
    obtain ⟨v, w, f, g, rfl, r1, r2⟩ := r.two
    exact .inl (.inl (.inl ⟨i, j, r1.int_inv, r2.int_inv, k _ B H [] .int (loc0 ex)⟩))
  · rename_i x y
    obtain ⟨v, w, f, g, rfl, r1, r2⟩ := r.two
    split at h
    · rename_i hz
      cases h
      exact .inl (.inl (.inr ⟨x, y, r1.str_inv, r2.str_inv, szl hz, k _ B H [] .str (loc0 ex)⟩))
    · cases h
  · rename_i o xs o' ys
    obtain ⟨v, w, f, g, rfl, r1, r2⟩ := r.two
    split at h
    · rename_i hz
      obtain ⟨hf, hz⟩ := hz
      simp only [Bool.and_eq_true] at hf
      cases h
      obtain ⟨a, vs, g1, rfl, ha, q1⟩ := r1.lst_inv ex
      obtain ⟨b, ws, g2, rfl, hb, q2⟩ := r2.lst_inv ex
      refine .inl (.inr ⟨a, b, vs, ws, rfl, rfl, ha, hb, by rw [q1.length, q2.length]; exact szl hz, fun p hp => ?_⟩)
      obtain ⟨n1, n2⟩ := new_lst ex ((q1.fr0 hf.1).append (q2.fr0 hf.2)) hp
      exact k _ _ _ _ n1 n2
    · cases h
  · rename_i xs ys
    obtain ⟨v, w, f, g, rfl, r1, r2⟩ := r.two
    split at h
    · rename_i hz
      obtain ⟨hf, hz⟩ := hz
      simp only [Bool.and_eq_true] at hf
      cases h
      obtain ⟨a, vs, g1, rfl, ha, q1⟩ := r1.tup_inv ex
      obtain ⟨b, ws, g2, rfl, hb, q2⟩ := r2.tup_inv ex
      refine .inr ⟨a, b, vs, ws, rfl, rfl, ha, hb, by rw [q1.length, q2.length]; exact szl hz, fun e => ?_, fun _ e => ?_, fun _ _ p hp => ?_⟩
      · subst e
        cases q1
        exact k _ B H [] (r2.fr0 (by rw [D.isFz, hf.2]; rfl)) (loc0 ex)
      · subst e
        cases q2
        simp only [List.append_nil] at k
        exact k _ B H [] (r1.fr0 (by rw [D.isFz, hf.1]; rfl)) (loc0 ex)
      · obtain ⟨n1, n2⟩ := new_tup ex ((q1.fr0 hf.1).append (q2.fr0 hf.2)) hp
        exact k _ _ _ _ n1 n2
    · cases h
  · cases h

def fSub : List D → Option D
  | [.int i, .int j] => some (.int (i - j))
  | _ => none
theorem lo_sub {K : PySem.W.Frag} {cl : Cl} : LocOp K cl (r2 (rI0 fun i j => .int (i - j))) fSub := by
  intro B H vs ds z Q ex r h k
  unfold fSub at h
  split at h
  · rename_i i j
    cases h
    obtain ⟨v, w, f, g, rfl, r1, r2⟩ := r.two
    exact ⟨i, j, r1.int_inv, r2.int_inv, k _ B H [] .int (loc0 ex)⟩
  · cases h
def fMod : List D → Option D
  | [.int i, .int j] => if 0 < j then some (.int (i % j)) else none
  | _ => none
theorem lo_mod {K : PySem.W.Frag} {cl : Cl} : LocOp K cl (r2 (rI (fun _ j => 0 < j) fun i j => .int (i % j))) fMod := by
  intro B H vs ds z Q ex r h k
  unfold fMod at h
  split at h
  · rename_i i j
    split at h
    · rename_i hj
      cases h
      obtain ⟨v, w, f, g, rfl, r1, r2⟩ := r.two
      exact ⟨i, j, r1.int_inv, r2.int_inv, hj, k _ B H [] .int (loc0 ex)⟩
    · cases h
  · cases h
def fDiv : List D → Option D
  | [.int i, .int j] => if 0 < j ∧ j < 1073741824 then some (.int (i / j)) else if 0 < j ∧ j.natAbs.log2 < 9000 then some (.int (i / j)) else none
  | _ => none
def fPow : List D → Option D
  | [.int i, .int j] => if 0 ≤ j ∧ j ≤ 1000 ∧ i.natAbs ≤ 1000000 then some (.int (i ^ j.toNat)) else none
  | _ => none
theorem lo_pow {K : PySem.W.Frag} {cl : Cl} : LocOp K cl (r2 (rI CPow fun i j => .int (i ^ j.toNat))) fPow := by
  intro B H vs ds z Q ex r h k
  unfold fPow at h
  split at h
  · rename_i i j
    split at h
    · rename_i hj
      cases h
      obtain ⟨v, w, f, g, rfl, r1, r2⟩ := r.two
      exact ⟨i, j, r1.int_inv, r2.int_inv, ⟨hj.1, by omega, Nat.lt_of_le_of_lt hj.2.2 (by decide)⟩, k _ B H [] .int (loc0 ex)⟩
    · cases h
  · cases h
/-- comparisons of ints -/
def fCmpI (p : Int → Int → Bool) : List D → Option D
  | [.int i, .int j] => some (.bl (p i j))
  | _ => none
theorem lo_cmpI {K : PySem.W.Frag} {cl : Cl} (p : Int → Int → Bool) : LocOp K cl (r2 (rI0 fun i j => .bl (p i j))) (fCmpI p) := by
  intro B H vs ds z Q ex r h k
  unfold fCmpI at h
  split at h
  · rename_i i j
    cases h
    obtain ⟨v, w, f, g, rfl, r1, r2⟩ := r.two
    exact ⟨i, j, r1.int_inv, r2.int_inv, k _ B H [] .bl (loc0 ex)⟩
  · cases h
abbrev fLt := fCmpI fun i j => decide (i < j)
abbrev fLe := fCmpI fun i j => decide (i ≤ j)
abbrev fGt := fCmpI fun i j => decide (j < i)
abbrev fGe := fCmpI fun i j => decide (j ≤ i)
/-- is None, is not None -/
def isNonD : D → Bool
  | .non => true
  | _ => false
def fIsN (neg : Bool) : List D → Option D
  | [d, .non] => some (.bl (if neg then !isNonD d else isNonD d))
  | _ => none
theorem isNon_ok {K : PySem.W.Frag} {cl : Cl} {B H : Hp} {v : V} {d : D} {f : List Addr} (r : Rep K cl B H v d f) : decide (v = V.non) = isNonD d := by
  cases r <;> rfl
theorem lo_isN {K : PySem.W.Frag} {cl : Cl} : LocOp K cl (r2 fun x y H Q => y = .non ∧ Q (.bl (decide (x = .non))) H) (fIsN false) := by
  intro B H vs ds z Q ex r h k
  unfold fIsN at h
  split at h
  · cases h
    obtain ⟨v, w, f, g, rfl, r1, r2⟩ := r.two
    refine ⟨r2.non_inv, ?_⟩
    rw [isNon_ok r1]
    exact k _ B H [] .bl (loc0 ex)
  · cases h
theorem lo_notN {K : PySem.W.Frag} {cl : Cl} : LocOp K cl (r2 fun x y H Q => y = .non ∧ Q (.bl (!decide (x = .non))) H) (fIsN true) := by
  intro B H vs ds z Q ex r h k
  unfold fIsN at h
  split at h
  · cases h
    obtain ⟨v, w, f, g, rfl, r1, r2⟩ := r.two
    refine ⟨r2.non_inv, ?_⟩
    rw [isNon_ok r1]
    exact k _ B H [] .bl (loc0 ex)
  · cases h
/-! ### == and != -/
mutual
def toPy : D → Option PyData
  | .non => some .none
  | .bl b => some (.bool b)
  | .int i => some (.int i)
  | .str x => some (.str x)
  | .lst _ xs => match toPyL xs with
    | some ys => some (.list ys)
    | none => none
  | .lok xs => match toPyL xs with
    | some ys => some (.list ys)
    | none => none
  | .tup _ xs => match toPyL xs with
    | some ys => some (.tuple ys)
    | none => none
  | .dic _ _ => none
  | .ins _ _ _ => none
  | .exc _ _ => none
def toPyL : List D → Option (List PyData)
  | [] => some []
  | d :: r => match toPy d, toPyL r with
    | some y, some ys => some (y :: ys)
    | _, _ => none
end
section
variable {K : PySem.W.Frag} {cl : Cl} {B H : Hp}
mutual
theorem toPy_ok (ex : Ex B H) : ∀ {d v f y}, Rep K cl B H v d f → toPy d = some y → Dp K H v y
  | .non, _, _, _, r, e => by cases e; rw [r.non_inv]; exact .non
  | .bl b, _, _, _, r, e => by cases e; rw [r.bl_inv]; exact .bl b
  | .int i, _, _, _, r, e => by cases e; rw [r.int_inv]; exact .int i
  | .str x, _, _, _, r, e => by cases e; rw [r.str_inv]; exact .str x
  | .lst o xs, _, _, _, r, e => by
    rw [toPy] at e
    obtain ⟨a, vs, g, rfl, ha, q⟩ := r.lst_inv ex
    split at e
    · rename_i ys hy
      cases e
      exact .lst (SqL.of ha) (toPyL_ok ex q hy)
    · cases e
  | .lok xs, _, _, _, r, e => by
    rw [toPy] at e
    obtain ⟨a, vs, rfl, ha, q⟩ := r.lok_inv ex
    split at e
    · rename_i ys hy
      cases e
      exact .lst ha (toPyL_ok ex q hy)
    · cases e
  | .tup o xs, _, _, _, r, e => by
    rw [toPy] at e
    obtain ⟨a, vs, g, rfl, ha, q⟩ := r.tup_inv ex
    split at e
    · rename_i ys hy
      cases e
      exact .tup ha (toPyL_ok ex q hy)
    · cases e
  | .dic _ _, _, _, _, _, e => by cases e
  | .ins _ _ _, _, _, _, _, e => by cases e
  | .exc _ _, _, _, _, _, e => by cases e
theorem toPyL_ok (ex : Ex B H) : ∀ {ds vs f ys}, Reps K cl B H vs ds f → toPyL ds = some ys → DpAll K H vs ys
  | [], _, _, _, r, e => by
    cases e
    cases r
    exact .nil
  | d :: ds, _, _, _, r, e => by
    rw [toPyL] at e
    obtain ⟨v, us, g, h, rfl, rfl, r1, r2⟩ := r.cons_inv
    split at e
    · rename_i y ys h1 h2
      cases e
      exact .cons (toPy_ok ex r1 h1) (toPyL_ok ex r2 h2)
    · cases e
end
end
/-- == of two values; none: not told here -/
def eqD : D → D → Option Bool
  | .int i, .int j => some (decide (i = j))
  | .str x, .str y => some (decide (x = y))
  | .bl a, .bl b => some (decide (a = b))
  | .non, .non => some true
  | .non, .int _ => some false
  | .int _, .non => some false
  | .non, .bl _ => some false
  | .bl _, .non => some false
  | .non, .str _ => some false
  | .str _, .non => some false
  | .int _, .str _ => some false
  | .str _, .int _ => some false
  | .bl _, .str _ => some false
  | .str _, .bl _ => some false
  | a, b => match toPy a, toPy b with
    | some p, some q => if (SeqAt.shaped p && SeqAt.shaped q) = true then some (PyData.eqv p q) else none
    | _, _ => none
def rEqA (K : PySem.W.Frag) : R2 := fun x y H Q => rEq x y H Q ∨ rEqD K x y H Q
def rNeA (K : PySem.W.Frag) : R2 := fun x y H Q => rNe x y H Q ∨ rNeD K x y H Q
theorem op_eqA {X : Cx} (hu : X.A.units + 64 < cLine) : OpR X (compareOp .Eq) (rEqA X.K) := OpR.or op_eq (op_eqD hu)
theorem op_neA {X : Cx} (hu : X.A.units + 64 < cLine) : OpR X (compareOp .NotEq) (rNeA X.K) := OpR.or op_ne (op_neD hu)
def fEq : List D → Option D
  | [a, b] => (eqD a b).map .bl
  | _ => none
def fNe : List D → Option D
  | [a, b] => (eqD a b).map fun k => .bl (!k)
  | _ => none
theorem eqD_ok {K : PySem.W.Frag} {cl : Cl} {B H : Hp} {x y : V} {a b : D} {f g : List Addr} {k : Bool} (ex : Ex B H) (r1 : Rep K cl B H x a f) (r2 : Rep K cl B H y b g) (h : eqD a b = some k) :
    (scal x y = true ∧ decide (x = y) = k) ∨ ∃ d e, Dp K H x d ∧ Dp K H y e ∧ SeqAt.shaped d = true ∧ SeqAt.shaped e = true ∧ PyData.eqv d e = k := by
  have gen : ∀ {a b : D}, Rep K cl B H x a f → Rep K cl B H y b g → (match toPy a, toPy b with | some p, some q => if (SeqAt.shaped p && SeqAt.shaped q) = true then some (PyData.eqv p q) else none | _, _ => none) = some k →
      ∃ d e, Dp K H x d ∧ Dp K H y e ∧ SeqAt.shaped d = true ∧ SeqAt.shaped e = true ∧ PyData.eqv d e = k := by
    intro a b r1 r2 h
    split at h
    · rename_i p q hp hq
      split at h
      · rename_i hs
        simp only [Bool.and_eq_true] at hs
        cases h
        exact ⟨p, q, toPy_ok ex r1 hp, toPy_ok ex r2 hq, hs.1, hs.2, rfl⟩
      · cases h
    · cases h
  unfold eqD at h
  split at h
  · cases h; rw [r1.int_inv, r2.int_inv]; exact .inl ⟨rfl, by simp⟩
  · cases h; rw [r1.str_inv, r2.str_inv]; exact .inl ⟨rfl, by simp⟩
  · cases h; rw [r1.bl_inv, r2.bl_inv]; exact .inl ⟨rfl, by simp⟩
  · cases h; rw [r1.non_inv, r2.non_inv]; exact .inl ⟨rfl, rfl⟩
  · cases h; rw [r1.non_inv, r2.int_inv]; exact .inl ⟨rfl, rfl⟩
  · cases h; rw [r1.int_inv, r2.non_inv]; exact .inl ⟨rfl, rfl⟩
  · cases h; rw [r1.non_inv, r2.bl_inv]; exact .inl ⟨rfl, rfl⟩
  · cases h; rw [r1.bl_inv, r2.non_inv]; exact .inl ⟨rfl, rfl⟩
  · cases h; rw [r1.non_inv, r2.str_inv]; exact .inl ⟨rfl, rfl⟩
  · cases h; rw [r1.str_inv, r2.non_inv]; exact .inl ⟨rfl, rfl⟩
  · cases h; rw [r1.int_inv, r2.str_inv]; exact .inl ⟨rfl, rfl⟩
  · cases h; rw [r1.str_inv, r2.int_inv]; exact .inl ⟨rfl, rfl⟩
  · cases h; rw [r1.bl_inv, r2.str_inv]; exact .inl ⟨rfl, rfl⟩
  · cases h; rw [r1.str_inv, r2.bl_inv]; exact .inl ⟨rfl, rfl⟩
  · exact .inr (gen r1 r2 h)
theorem lo_eq {K : PySem.W.Frag} {cl : Cl} : LocOp K cl (r2 (rEqA K)) fEq := by
  intro B H vs ds z Q ex r h k
  unfold fEq at h
  split at h
  · rename_i a b
    obtain ⟨v, w, f, g, rfl, r1, r2⟩ := r.two
    cases q : eqD a b with
    | none => rw [q] at h; cases h
    | some t =>
      rw [q] at h
      cases h
      rcases eqD_ok ex r1 r2 q with ⟨h1, h2⟩ | ⟨d, e, h1, h2, h3, h4, h5⟩
      · exact .inl ⟨h1, by rw [h2]; exact k _ B H [] .bl (loc0 ex)⟩
      · exact .inr ⟨d, e, h1, h2, h3, h4, by rw [h5]; exact k _ B H [] .bl (loc0 ex)⟩
  · cases h
theorem lo_ne {K : PySem.W.Frag} {cl : Cl} : LocOp K cl (r2 (rNeA K)) fNe := by
  intro B H vs ds z Q ex r h k
  unfold fNe at h
  split at h
  · rename_i a b
    obtain ⟨v, w, f, g, rfl, r1, r2⟩ := r.two
    cases q : eqD a b with
    | none => rw [q] at h; cases h
    | some t =>
      rw [q] at h
      cases h
      rcases eqD_ok ex r1 r2 q with ⟨h1, h2⟩ | ⟨d, e, h1, h2, h3, h4, h5⟩
      · exact .inl ⟨h1, by rw [h2]; exact k _ B H [] .bl (loc0 ex)⟩
      · exact .inr ⟨d, e, h1, h2, h3, h4, by rw [h5]; exact k _ B H [] .bl (loc0 ex)⟩
  · cases h
/-! ### in, not in -/
def flatD : D → Bool
  | .non => true
  | .bl _ => true
  | .int _ => true
  | .str _ => true
  | _ => false
def eqF : D → D → Bool
  | .non, .non => true
  | .bl a, .bl b => a == b
  | .bl a, .int b => (if a then 1 else 0) == b
  | .int a, .bl b => a == (if b then 1 else 0)
  | .int a, .int b => a == b
  | .str a, .str b => a == b
  | _, _ => false
/-- a text in a text -/
def subS (i j : Str) : Bool := !(Builtin.Str.occurrences j i 0 j.length 1).isEmpty
def inD (x : D) : D → Option Bool
  | .str z => match x with
    | .str y => some (match y.cps.toList with
      | [c] => decide (c ∈ z.cps.toList)
      | _ => subS y z)
    | _ => none
  | .lst _ xs => if (flatD x && xs.all flatD) = true then some (xs.any fun y => eqF y x) else match toPy x, toPyL xs with
    | some d, some ds => if (SeqAt.shaped d && SeqAt.shaped (.list ds)) = true then some (ds.any fun z => PyData.eqv z d) else none
    | _, _ => none
  | .tup _ xs => if (flatD x && xs.all flatD) = true then some (xs.any fun y => eqF y x) else none
  | _ => none
def fIn (neg : Bool) : List D → Option D
  | [x, y] => (inD x y).map fun k => .bl (if neg then !k else k)
  | _ => none
def rInA (K : PySem.W.Frag) (neg : Bool) : R2 := fun x y H Q => (((rIn K neg x y H Q) ∨ ∃ (c : Nat) (z : Str), x = .str ⟨#[c]⟩ ∧ y = .str z ∧ Q (.bl (if neg then !decide (c ∈ z.cps.toList) else decide (c ∈ z.cps.toList))) H) ∨
  ∃ i j, x = .str i ∧ y = .str j ∧ Q (.bl (if neg then !subS i j else subS i j)) H) ∨ ∃ d ds, Dp K H x d ∧ Dp K H y (.list ds) ∧ SeqAt.shaped d = true ∧ SeqAt.shaped (.list ds) = true ∧ Q (.bl (if neg then !ds.any fun z => PyData.eqv z d else ds.any fun z => PyData.eqv z d)) H
theorem op_inA {X : Cx} (hu : X.A.units + 65 < cLine) : OpR X (compareOp .In) (rInA X.K false) := OpR.or (OpR.or (OpR.or op_in_seq op_in_sign) op_in_str) (op_inD hu)
theorem op_notInA {X : Cx} (hu : X.A.units + 65 < cLine) : OpR X (compareOp .NotIn) (rInA X.K true) := OpR.or (OpR.or (OpR.or op_notIn_seq op_notIn_sign) op_notIn_str) (op_notInD hu)
section
variable {K : PySem.W.Frag} {cl : Cl} {B H : Hp}
theorem flat_ok {v : V} {d : D} {f : List Addr} (r : Rep K cl B H v d f) (h : flatD d = true) : flatV v = true := by
  cases d <;> first | (cases h; done) | (cases r; rfl)
theorem eqF_ok {v w : V} {a b : D} {f g : List Addr} (r1 : Rep K cl B H v a f) (r2 : Rep K cl B H w b g) (h1 : flatD a = true) (h2 : flatD b = true) : eqV v w = eqF a b := by
  cases a <;> first | (cases h1; done) | (cases r1; cases b <;> first | (cases h2; done) | (cases r2; rfl))
theorem flats_ok {vs : List V} {ds : List D} {f : List Addr} (r : Reps K cl B H vs ds f) (h : ds.all flatD = true) : vs.all flatV = true := by
  induction ds generalizing vs f with
  | nil => cases r; rfl
  | cons d ds ih =>
    obtain ⟨v, us, g, g2, rfl, rfl, r1, r2⟩ := r.cons_inv
    simp only [List.all_cons, Bool.and_eq_true] at h ⊢
    exact ⟨flat_ok r1 h.1, ih r2 h.2⟩
theorem any_ok {w : V} {b : D} {g : List Addr} (rw' : Rep K cl B H w b g) (hb : flatD b = true) {vs : List V} {ds : List D} {f : List Addr} (r : Reps K cl B H vs ds f) (h : ds.all flatD = true) : inV w vs = ds.any fun y => eqF y b := by
  induction ds generalizing vs f with
  | nil => cases r; rfl
  | cons d ds ih =>
    obtain ⟨v, us, g, g2, rfl, rfl, r1, r2⟩ := r.cons_inv
    simp only [List.all_cons, Bool.and_eq_true] at h
    have z := ih r2 h.2
    show (eqV v w || inV w us) = _
    rw [List.any_cons, z, eqF_ok r1 rw' h.1 hb]
theorem str_one {y : Str} {c : Nat} (h : y.cps.toList = [c]) : y = ⟨#[c]⟩ := by
  cases y with
  | mk a =>
    have : a = #[c] := by
      apply Array.toList_inj.mp
      rw [h]
    rw [this]
end
theorem lo_in {K : PySem.W.Frag} {cl : Cl} (neg : Bool) : LocOp K cl (r2 (rInA K neg)) (fIn neg) := by
  intro B H vs ds z Q ex r h k
  unfold fIn at h
  split at h
  · rename_i x y
    obtain ⟨v, w, f, g, rfl, r1, r2⟩ := r.two
    cases q : inD x y with
    | none => rw [q] at h; cases h
    | some t =>
      rw [q] at h
      cases h
      have fin := k _ B H [] (.bl (b := if neg then !t else t)) (loc0 ex)
      unfold inD at q
      split at q
      · rename_i zz
        split at q
        · rename_i yy
          rw [r1.str_inv, r2.str_inv] at *
          split at q
          · rename_i c hc
            cases q
            rw [str_one hc]
            exact .inl (.inl (.inr ⟨c, zz, rfl, rfl, fin⟩))
          · cases q
            exact .inl (.inr ⟨yy, zz, rfl, rfl, fin⟩)
        · cases q
      · rename_i o xs
        obtain ⟨a, us, g1, rfl, ha, q2⟩ := r2.lst_inv ex
        split at q
        · rename_i hf
          simp only [Bool.and_eq_true] at hf
          cases q
          refine .inl (.inl (.inl ⟨a, us, rfl, .inl (SqL.of ha), flat_ok r1 hf.1, flats_ok q2 hf.2, ?_⟩))
          rw [any_ok r1 hf.1 q2 hf.2]
          exact fin
        · split at q
          · rename_i d ds hd hds
            split at q
            · rename_i hs
              simp only [Bool.and_eq_true] at hs
              cases q
              exact .inr ⟨d, ds, toPy_ok ex r1 hd, .lst (SqL.of ha) (toPyL_ok ex q2 hds), hs.1, hs.2, fin⟩
            · cases q
          · cases q
      · rename_i o xs
        obtain ⟨a, us, g1, rfl, ha, q2⟩ := r2.tup_inv ex
        split at q
        · rename_i hf
          simp only [Bool.and_eq_true] at hf
          cases q
          refine .inl (.inl (.inl ⟨a, us, rfl, .inr ha, flat_ok r1 hf.1, flats_ok q2 hf.2, ?_⟩))
          rw [any_ok r1 hf.1 q2 hf.2]
          exact fin
        · cases q
      · cases q
  · cases h
end Dy
/-! Dy, part E: built-ins, indices, slices, displays, methods of texts. -/
namespace Dy
open PySem PySem.Spec PyProof.Rows L2

/-! ### times -/
def fMul : List D → Option D
  | [.int i, .int j] => if i.natAbs.log2 + j.natAbs.log2 < 1000000 then some (.int (i * j)) else none
  | [.str x, .int n] => if x.length * n.toNat ≤ 1000000 ∧ -1000000 ≤ n ∧ n ≤ 1000000 then some (.str (Txt.mul x n)) else none
  | [.lst _ xs, .int n] => if D.isFzL xs = true ∧ xs.length * n.toNat ≤ 1000000 ∧ -1000000 ≤ n ∧ n ≤ 1000000 then some (.lst true (List.replicate n.toNat xs).flatten) else none
  | _ => none
def rMulS : R2 := fun x y H Q => ∃ z n, x = .str z ∧ y = .int n ∧ MulOk z n ∧ Q (.str (Txt.mul z n)) H
theorem op_mulS {X : Cx} : OpR X (binaryOp .Mult) rMulS := by
  intro pins s σ H x y v u Q I rx ry h
  obtain ⟨z, n, rfl, rfl, ok, q⟩ := h
  obtain ⟨t, rfl⟩ := rx
  obtain ⟨t', rfl⟩ := ry
  exact SB.mul ok fun t' k => ⟨.str _, H, I.tok _, ⟨_, rfl⟩, q⟩
def rMul (K : PySem.W.Frag) : R2 := fun x y H Q => ((rI CMulW fun i j => .int (i * j)) x y H Q ∨ rMulS x y H Q) ∨ rRep x y H Q
theorem op_mulAll {X : Cx} : OpR X (binaryOp .Mult) (rMul X.K) := OpR.or (OpR.or op_mulW op_mulS) op_rep
theorem mulOk_small {z : Str} {n : Int} (h : z.length * n.toNat ≤ 1000000) (h1 : -1000000 ≤ n) (h2 : n ≤ 1000000) : MulOk z n := by
  refine ⟨?_, fun hn _ => ?_, fun hn _ => ?_⟩
  · simp only [Bool.or_eq_false_iff, decide_eq_false_iff_not]
    omega
  · have hn1 : 1 ≤ n := by omega
    have e : (n.toNat : Int) = n := Int.toNat_of_nonneg (by omega)
    have h3 : (z.length : Int) ≤ 1000000 := by
      have : z.length * 1 ≤ z.length * n.toNat := Nat.mul_le_mul_left _ (by omega)
      omega
    have h4 : (1000000 : Int) ≤ (2 ^ 63 - 1) / n := by
      rw [Int.le_ediv_iff_mul_le (by omega)]
      omega
    omega
  · simp only [Builtin.Str.tooLong, sizeLine_eq]
    rw [decide_eq_false_iff_not]
    omega
theorem Reps.rep {K : PySem.W.Frag} {cl : Cl} {B H : Hp} {vs : List V} {ds : List D} (r : Reps K cl B H vs ds []) : ∀ n : Nat, Reps K cl B H (List.replicate n vs).flatten (List.replicate n ds).flatten []
  | 0 => .nil
  | n + 1 => by
    rw [List.replicate_succ, List.replicate_succ, List.flatten_cons, List.flatten_cons]
    exact r.append (Reps.rep r n)
theorem lo_mul {K : PySem.W.Frag} {cl : Cl} : LocOp K cl (r2 (rMul K)) fMul := by
  intro B H vs ds z Q ex r h k
  unfold fMul at h
  split at h
  · rename_i i j
    split at h
    · rename_i hz
      cases h
      obtain ⟨v, w, f, g, rfl, r1, r2⟩ := r.two
      exact .inl (.inl ⟨i, j, r1.int_inv, r2.int_inv, hz, k _ B H [] .int (loc0 ex)⟩)
    · cases h
  · rename_i x n
    split at h
    · rename_i hz
      cases h
      obtain ⟨v, w, f, g, rfl, r1, r2⟩ := r.two
      exact .inl (.inr ⟨x, n, r1.str_inv, r2.int_inv, mulOk_small hz.1 hz.2.1 hz.2.2, k _ B H [] .str (loc0 ex)⟩)
    · cases h
  · rename_i o xs n
    split at h
    · rename_i hz
      cases h
      obtain ⟨v, w, f, g, rfl, r1, r2⟩ := r.two
      obtain ⟨a, us, g1, rfl, ha, q1⟩ := r1.lst_inv ex
      refine .inr ⟨a, n, us, rfl, r2.int_inv, ha, by omega, by omega, by rw [q1.length]; exact szl hz.2.1, fun p hp => ?_⟩
      obtain ⟨n1, n2⟩ := new_lst ex ((q1.fr0 hz.1).rep n.toNat) hp
      exact k _ _ _ _ n1 n2
    · cases h
  · cases h
def rDiv : R2 := fun x y H Q => (rI CDiv fun i j => .int (i / j)) x y H Q ∨ (rI CDivW fun i j => .int (i / j)) x y H Q
theorem op_fdivAll {X : Cx} : OpR X (binaryOp .FloorDiv) rDiv := OpR.or op_fdiv op_fdivW
theorem lo_div {K : PySem.W.Frag} {cl : Cl} : LocOp K cl (r2 rDiv) fDiv := by
  intro B H vs ds z Q ex r h k
  unfold fDiv at h
  split at h
  · rename_i i j
    obtain ⟨v, w, f, g, rfl, r1, r2⟩ := r.two
    split at h
    · rename_i hz
      cases h
      exact .inl ⟨i, j, r1.int_inv, r2.int_inv, hz, k _ B H [] .int (loc0 ex)⟩
    · split at h
      · rename_i hz
        cases h
        exact .inr ⟨i, j, r1.int_inv, r2.int_inv, hz, k _ B H [] .int (loc0 ex)⟩
      · cases h
  · cases h
/-! ### built-ins -/
def lenD : D → Option Nat
  | .str x => if x.length ≤ 1000000 then some x.length else none
  | .lst _ xs => some xs.length
  | .lok xs => some xs.length
  | .tup _ xs => some xs.length
  | .dic _ xs => none
  | _ => none
def fLen : List D → Option D
  | [d] => (lenD d).map fun n => .int n
  | _ => none
theorem lo_len {K : PySem.W.Frag} {cl : Cl} : LocOp K cl (fun xs H Q => ∃ x n, xs = [x] ∧ LenV K x H n ∧ Q (.int n) H) fLen := by
  intro B H vs ds z Q ex r h k
  unfold fLen at h
  split at h
  · rename_i d
    obtain ⟨v, f, rfl, r1⟩ := r.one
    cases q : lenD d with
    | none => rw [q] at h; cases h
    | some n =>
      rw [q] at h
      cases h
      refine ⟨v, n, rfl, ?_, k _ B H [] .int (loc0 ex)⟩
      cases d with
      | str x =>
        rw [r1.str_inv]
        simp only [lenD] at q
        split at q
        · rename_i hx
          cases q
          exact ⟨szl hx, rfl⟩
        · cases q
      | lst o xs =>
        cases q
        obtain ⟨a, us, g, rfl, ha, q⟩ := r1.lst_inv ex
        exact .inl ⟨us, SqL.of ha, q.length.symm⟩
      | lok xs =>
        cases q
        obtain ⟨a, us, rfl, ha, q⟩ := r1.lok_inv ex
        exact .inl ⟨us, ha, q.length.symm⟩
      | tup o xs =>
        cases q
        obtain ⟨a, us, g, rfl, ha, q⟩ := r1.tup_inv ex
        exact .inr ⟨us, ha, q.length.symm⟩
      | _ => cases q
  · cases h
def fInt : List D → Option D
  | [.int i] => some (.int i)
  | [.bl b] => some (.int (if b then 1 else 0))
  | [.str a] => if a.length ≤ 640 then (PySem.intText? a).map .int else none
  | _ => none
def rInt : List V → Hp → VK → Prop := fun xs H Q => ((∃ i, xs = [.int i] ∧ Q (.int i) H) ∨ ∃ k, xs = [.bl k] ∧ Q (.int (if k then 1 else 0)) H) ∨ ∃ a n, xs = [.str a] ∧ PySem.intText? a = some n ∧ a.length ≤ 640 ∧ Q (.int n) H
theorem call_intAll {X : Cx} : CallR X (.type "int") rInt := CallR.or call_int1 call_int_str
theorem lo_int {K : PySem.W.Frag} {cl : Cl} : LocOp K cl rInt fInt := by
  intro B H vs ds z Q ex r h k
  unfold fInt at h
  split at h
  · rename_i i
    cases h
    obtain ⟨v, f, rfl, r1⟩ := r.one
    exact .inl (.inl ⟨i, by rw [r1.int_inv], k _ B H [] .int (loc0 ex)⟩)
  · rename_i b
    cases h
    obtain ⟨v, f, rfl, r1⟩ := r.one
    exact .inl (.inr ⟨b, by rw [r1.bl_inv], k _ B H [] .int (loc0 ex)⟩)
  · rename_i a
    obtain ⟨v, f, rfl, r1⟩ := r.one
    split at h
    · rename_i ha
      cases q : PySem.intText? a with
      | none => rw [q] at h; cases h
      | some n =>
        rw [q] at h
        cases h
        exact .inr ⟨a, n, by rw [r1.str_inv], q, ha, k _ B H [] .int (loc0 ex)⟩
    · cases h
  · cases h
def fStrI : List D → Option D
  | [.int i] => if i.natAbs.log2 < 1920 then some (.str (toString i)) else none
  | _ => none
theorem lo_strI {K : PySem.W.Frag} {cl : Cl} : LocOp K cl (fun xs H Q => ∃ i : Int, xs = [V.int i] ∧ i.natAbs.log2 < 1920 ∧ Q (.str (toString i)) H) fStrI := by
  intro B H vs ds z Q ex r h k
  unfold fStrI at h
  split at h
  · rename_i i
    obtain ⟨v, f, rfl, r1⟩ := r.one
    split at h
    · rename_i hi
      cases h
      exact ⟨i, by rw [r1.int_inv], hi, k _ B H [] .str (loc0 ex)⟩
    · cases h
  · cases h
def fListOf : List D → Option D
  | [.lst _ xs] => if D.isFzL xs = true then some (.lst true xs) else none
  | [.lok xs] => if D.isFzL xs = true then some (.lst true xs) else none
  | [.tup _ xs] => if D.isFzL xs = true then some (.lst true xs) else none
  | _ => none
theorem lo_listOf {K : PySem.W.Frag} {cl : Cl} : LocOp K cl (fun xs H Q => ∃ p ys, xs = [.ref p] ∧ (SqL K H p ys ∨ SqT K H p ys) ∧ ∀ l, H l = none → Q (.ref l) (upd H l (.lst ys))) fListOf := by
  intro B H vs ds z Q ex r h k
  have fin : ∀ {a : Addr} {us : List V} {xs : List D} {g : List Addr}, (SqL K H a us ∨ SqT K H a us) → Reps K cl B H us xs g → D.isFzL xs = true → z = .lst true xs → ∃ p ys, [V.ref a] = [V.ref p] ∧ (SqL K H p ys ∨ SqT K H p ys) ∧ ∀ l, H l = none → Q (.ref l) (upd H l (.lst ys)) := by
    intro a us xs g ha q hf e
    subst e
    refine ⟨a, us, rfl, ha, fun l hl => ?_⟩
    obtain ⟨n1, n2⟩ := new_lst ex (q.fr0 hf) hl
    exact k _ _ _ _ n1 n2
  unfold fListOf at h
  split at h
  · obtain ⟨v, f, rfl, r1⟩ := r.one
    obtain ⟨a, us, g, rfl, ha, q⟩ := r1.lst_inv ex
    split at h
    · rename_i hf; cases h; exact fin (.inl (SqL.of ha)) q hf rfl
    · cases h
  · obtain ⟨v, f, rfl, r1⟩ := r.one
    obtain ⟨a, us, rfl, ha, q⟩ := r1.lok_inv ex
    split at h
    · rename_i hf; cases h; exact fin (.inl ha) q hf rfl
    · cases h
  · obtain ⟨v, f, rfl, r1⟩ := r.one
    obtain ⟨a, us, g, rfl, ha, q⟩ := r1.tup_inv ex
    split at h
    · rename_i hf; cases h; exact fin (.inr ha) q hf rfl
    · cases h
  · cases h
def fTupleOf : List D → Option D
  | [.lst _ xs] => if D.isFzL xs = true then some (.tup false xs) else none
  | [.lok xs] => if D.isFzL xs = true then some (.tup false xs) else none
  | [.tup false xs] => if D.isFzL xs = true then some (.tup false xs) else none
  | _ => none
theorem lo_tupleOf {K : PySem.W.Frag} {cl : Cl} : LocOp K cl (fun xs H Q => ∃ p ys, xs = [.ref p] ∧ ((SqL K H p ys ∧ ∀ l, H l = none → Q (.ref l) (upd H l (.tup ys))) ∨ (SqT K H p ys ∧ Q (.ref p) H))) fTupleOf := by
  intro B H vs ds z Q ex r h k
  have fin : ∀ {a : Addr} {us : List V} {xs : List D} {g : List Addr}, SqL K H a us → Reps K cl B H us xs g → D.isFzL xs = true → z = .tup false xs → ∃ p ys, [V.ref a] = [V.ref p] ∧ ((SqL K H p ys ∧ ∀ l, H l = none → Q (.ref l) (upd H l (.tup ys))) ∨ (SqT K H p ys ∧ Q (.ref p) H)) := by
    intro a us xs g ha q hf e
    subst e
    refine ⟨a, us, rfl, .inl ⟨ha, fun l hl => ?_⟩⟩
    obtain ⟨n1, n2⟩ := new_tup ex (q.fr0 hf) hl
    exact k _ _ _ _ n1 n2
  unfold fTupleOf at h
  split at h
  · obtain ⟨v, f, rfl, r1⟩ := r.one
    obtain ⟨a, us, g, rfl, ha, q⟩ := r1.lst_inv ex
    split at h
    · rename_i hf; cases h; exact fin (SqL.of ha) q hf rfl
    · cases h
  · obtain ⟨v, f, rfl, r1⟩ := r.one
    obtain ⟨a, us, rfl, ha, q⟩ := r1.lok_inv ex
    split at h
    · rename_i hf; cases h; exact fin ha q hf rfl
    · cases h
  · rename_i xs
    obtain ⟨v, f, rfl, r1⟩ := r.one
    obtain ⟨a, us, g, rfl, ha, q⟩ := r1.tup_inv ex
    split at h
    · rename_i hf
      cases h
      exact ⟨a, us, rfl, .inr ⟨ha, k _ B H [] (r1.fr0 (by rw [D.isFz, hf]; rfl)) (loc0 ex)⟩⟩
    · cases h
  · cases h
def fMax2 : List D → Option D
  | [.int i, .int j] => some (.int (if j > i then j else i))
  | _ => none
def fMin2 : List D → Option D
  | [.int i, .int j] => some (.int (if j < i then j else i))
  | _ => none
theorem lo_max2 {K : PySem.W.Frag} {cl : Cl} : LocOp K cl (fun xs H Q => ∃ i j, xs = [V.int i, V.int j] ∧ Q (.int (if j > i then j else i)) H) fMax2 := by
  intro B H vs ds z Q ex r h k
  unfold fMax2 at h
  split at h
  · rename_i i j
    cases h
    obtain ⟨v, w, f, g, rfl, r1, r2⟩ := r.two
    exact ⟨i, j, by rw [r1.int_inv, r2.int_inv], k _ B H [] .int (loc0 ex)⟩
  · cases h
theorem lo_min2 {K : PySem.W.Frag} {cl : Cl} : LocOp K cl (fun xs H Q => ∃ i j, xs = [V.int i, V.int j] ∧ Q (.int (if j < i then j else i)) H) fMin2 := by
  intro B H vs ds z Q ex r h k
  unfold fMin2 at h
  split at h
  · rename_i i j
    cases h
    obtain ⟨v, w, f, g, rfl, r1, r2⟩ := r.two
    exact ⟨i, j, by rw [r1.int_inv, r2.int_inv], k _ B H [] .int (loc0 ex)⟩
  · cases h
/-! ### an index, a slice -/
theorem atI_map {α β : Type} (g : α → β) (xs : List α) (i : Int) : atI (xs.map g) i = (atI xs i).map g := by
  unfold atI
  rw [List.length_map]
  cases ixN xs.length i with
  | none => rfl
  | some j => simp
theorem Reps.at {K : PySem.W.Frag} {cl : Cl} {B H : Hp} {vs : List V} {ds : List D} {f : List Addr} {i : Int} {d : D} (r : Reps K cl B H vs ds f) (h : atI ds i = some d) : ∃ v g, atI vs i = some v ∧ Rep K cl B H v d g := by
  unfold atI at h ⊢
  rw [r.length]
  cases q : ixN ds.length i with
  | none => rw [q] at h; cases h
  | some j =>
    rw [q] at h
    obtain ⟨v, g, h1, h2, _⟩ := r.get h
    exact ⟨v, g, h1, h2⟩
def valD {κ : Type} [DecidableEq κ] : List (κ × D) → κ → Option D
  | [], _ => none
  | (k, d) :: r, x => if k = x then some d else valD r x
def keyD : D → Option Key
  | .int i => some (.inl i)
  | .str x => some (.inr x)
  | _ => none
/-- o[i]: the item, where it is frozen -/
def fIx : List D → Option D
  | [.lst _ xs, .int i] => match atI xs i with
    | some d => if d.isFz = true then some d else none
    | none => none
  | [.tup _ xs, .int i] => match atI xs i with
    | some d => if d.isFz = true then some d else none
    | none => none
  | [.str x, .int i] => if x.length ≤ 1000000 then (atI x.cps.toList i).map fun c => .str ⟨#[c]⟩ else none
  | _ => none
theorem lo_ix {K : PySem.W.Frag} {cl : Cl} : LocOp K cl (r2 (rIx K)) fIx := by
  intro B H vs ds z Q ex r h k
  unfold fIx at h
  split at h
  · rename_i o xs i
    obtain ⟨v, w, f, g, rfl, r1, r2⟩ := r.two
    obtain ⟨a, us, g1, rfl, ha, q⟩ := r1.lst_inv ex
    split at h
    · rename_i d hd
      split at h
      · rename_i hf
        cases h
        obtain ⟨v, g2, h1, h2⟩ := q.at hd
        exact .inl ⟨a, us, i, v, rfl, r2.int_inv, SqL.of ha, h1, k _ B H [] (h2.fr0 hf) (loc0 ex)⟩
      · cases h
    · cases h
  · rename_i o xs i
    obtain ⟨v, w, f, g, rfl, r1, r2⟩ := r.two
    obtain ⟨a, us, g1, rfl, ha, q⟩ := r1.tup_inv ex
    split at h
    · rename_i d hd
      split at h
      · rename_i hf
        cases h
        obtain ⟨v, g2, h1, h2⟩ := q.at hd
        exact .inr (.inl ⟨a, us, i, v, rfl, r2.int_inv, ha, h1, k _ B H [] (h2.fr0 hf) (loc0 ex)⟩)
      · cases h
    · cases h
  · rename_i x i
    obtain ⟨v, w, f, g, rfl, r1, r2⟩ := r.two
    split at h
    · rename_i hx
      cases q : atI x.cps.toList i with
      | none => rw [q] at h; cases h
      | some c =>
        rw [q] at h
        cases h
        exact .inr (.inr ⟨x, i, c, r1.str_inv, r2.int_inv, szl hx, q, k _ B H [] .str (loc0 ex)⟩)
    · cases h
  · cases h
/-- d[k] of a dict -/
def fIxK : List D → Option D
  | [.dic _ kvs, x] => match keyD x with
    | some k => match valD kvs k with
      | some d => if d.isFz = true then some d else none
      | none => none
    | none => none
  | _ => none
theorem key_ok {K : PySem.W.Frag} {cl : Cl} {B H : Hp} {v : V} {d : D} {f : List Addr} {k : Key} (r : Rep K cl B H v d f) (h : keyD d = some k) : v = kV k := by
  cases d <;> first | (cases h; done) | (cases h; cases r; rfl)
theorem valV_ok {K : PySem.W.Frag} {cl : Cl} {B H : Hp} {kvs : List (Key × V)} {ds : List (Key × D)} {f : List Addr} (e : kvs.map (·.1) = ds.map (·.1)) (r : Reps K cl B H (kvs.map (·.2)) (ds.map (·.2)) f) (k : Key) :
    (∀ d, valD ds k = some d → ∃ v g, valV kvs k = some v ∧ Rep K cl B H v d g) ∧ (valD ds k = none → valV kvs k = none) := by
  induction ds generalizing kvs f with
  | nil =>
    cases kvs with
    | nil => exact ⟨fun d h => (by cases h), fun _ => rfl⟩
    | cons p q => cases e
  | cons p ds ih =>
    cases kvs with
    | nil => cases e
    | cons q kvs =>
      obtain ⟨pk, pd⟩ := p
      obtain ⟨qk, qv⟩ := q
      simp only [List.map_cons, List.cons.injEq] at e
      obtain ⟨e1, e2⟩ := e
      subst e1
      rw [List.map_cons, List.map_cons] at r
      obtain ⟨v, us, g, g2, e3, _, r1, r2⟩ := r.cons_inv
      injection e3 with e4 e5
      subst e4 e5
      obtain ⟨ih1, ih2⟩ := ih e2 r2
      by_cases hk : qk = k
      · subst hk
        refine ⟨fun d h => ?_, fun h => ?_⟩
        · rw [valD, if_pos rfl] at h
          cases h
          exact ⟨qv, g, by simp [valV], r1⟩
        · rw [valD, if_pos rfl] at h
          cases h
      · have hv : valV ((qk, qv) :: kvs) k = valV kvs k := by simp [valV, hk]
        rw [hv]
        refine ⟨fun d h => ?_, fun h => ?_⟩
        · rw [valD, if_neg hk] at h
          exact ih1 d h
        · rw [valD, if_neg hk] at h
          exact ih2 h
end Dy
/-! Dy, part F: freezing, displays, slices, methods of texts, f-strings, isinstance. -/
namespace Dy
open PySem PySem.Spec PyProof.Rows L2

/-! ### freezing -/
def addF (B H : Hp) (f : List Addr) : Hp := fun a => if a ∈ f then H a else B a
section
variable {K : PySem.W.Frag} {cl : Cl} {B B' H H' : Hp} {F f : List Addr} {σ : L2.St} {e : En}
theorem addF_ex (h : ∀ a ∈ f, B a = none) : Ex B (addF B H f) := fun a o q => by
  unfold addF
  by_cases m : a ∈ f
  · rw [h a m] at q; cases q
  · rw [if_neg m]; exact q
theorem addF_in {a : Addr} (m : a ∈ f) : addF B H f a = H a := if_pos m
theorem addF_out {a : Addr} (m : a ∉ f) : addF B H f a = B a := if_neg m
theorem addF_exH (ex : Ex B H) : Ex (addF B H f) H := fun a o q => by
  unfold addF at q
  by_cases m : a ∈ f
  · rw [if_pos m] at q; exact q
  · rw [if_neg m] at q; exact ex a o q
/-- what is apart from f stands -/
theorem Rep.beside {v : V} {d : D} {g : List Addr} (r : Rep K cl B H v d g) (h : ∀ a ∈ f, B a = none) (n : ∀ a ∈ g, a ∉ f) : Rep K cl (addF B H f) H v d g :=
  r.mono (addF_ex h) (fun _ _ _ q => q) fun a m => by rw [addF_out (n a m)]; exact (r.there a m).2
theorem RepE.beside {g : List Addr} (r : RepE K cl B H σ e g) (h : ∀ a ∈ f, B a = Option.none) (n : ∀ a ∈ g, a ∉ f) : RepE K cl (addF B H f) H σ e g :=
  r.mono (addF_ex h) (fun _ _ _ q => q) fun a m => by rw [addF_out (n a m)]; exact (r.there a m).2
/-- a value of its own is frozen -/
theorem Rep.frozen {v : V} {d : D} (r : Rep K cl B H v d f) : Rep K cl (addF B H f) H v d.fr [] := by
  have h : ∀ a ∈ f, B a = none := fun a m => (r.there a m).2
  have q := Rep.freeze (B' := addF B H f) (H' := H) (addF_ex h) r fun a m o e => by rw [addF_in m]; exact e
  exact q
/-- .. beside a state -/
theorem Rel.frz (R : Rel K cl B H σ e F) {v : V} {d : D} (r : Rep K cl B H v d f) (nd : (F ++ f).Nodup) : Rel K cl (addF B H f) H σ e F ∧ Rep K cl (addF B H f) H v d.fr [] ∧ Step B H (F ++ f) (addF B H f) H F := by
  have h : ∀ a ∈ f, B a = none := fun a m => (r.there a m).2
  have dis : ∀ a ∈ F, a ∉ f := fun a m m' => (List.nodup_append.mp nd).2.2 a m a m' rfl
  refine ⟨⟨R.rep.beside h dis, R.nd, addF_exH R.ex⟩, r.frozen, ⟨addF_ex h, fun _ _ q _ => q, fun a q n => .inl ?_, fun a m => .inl (List.mem_append_left _ m), fun _ q => q⟩⟩
  by_cases m : a ∈ f
  · exact List.mem_append_right _ m
  · rw [addF_out m] at n; exact absurd q n
/-- a slot is frozen where it stands -/
theorem Rel.frzSlot (R : Rel K cl B H σ e F) {i : Nat} {d : D} (h : e[i]? = some (some d)) : ∃ v B' F', σ[i]? = some (some v) ∧ Rel K cl B' H σ (e.set i (some d.fr)) F' ∧ Rep K cl B' H v d.fr [] ∧ Step B H F B' H F' ∧
    (∀ a ∈ F', a ∈ F) ∧ ∀ a, a ∉ F → B' a = B a := by
  obtain ⟨v, f, g, hv, hr, hp, re⟩ := R.rep.take h
  have nd : (f ++ g).Nodup := hp.nodup_iff.mp R.nd
  obtain ⟨n1, n2, n3⟩ := List.nodup_append.mp nd
  have hb : ∀ a ∈ f, B a = none := fun a m => (hr.there a m).2
  have re' : RepE K cl (addF B H f) H σ (e.set i none) g := re.beside hb fun a m m' => n3 a m' a m rfl
  have hi : i < e.length := (List.getElem?_eq_some_iff.mp h).1
  obtain ⟨F', p', re2⟩ := re'.put' (i := i) (by simp [hi]) hv (hr.frozen)
  rw [List.set_set] at re2
  have nd' : F'.Nodup := p'.nodup_iff.mpr (by simpa using n2)
  have sub : ∀ a ∈ F', a ∈ F := fun a m => hp.mem_iff.mpr (List.mem_append_right _ (by simpa using p'.mem_iff.mp m))
  refine ⟨v, addF B H f, F', hv, ⟨re2, nd', addF_exH R.ex⟩, hr.frozen, ⟨addF_ex hb, fun _ _ q _ => q, fun a q n => .inl ?_, fun a m => .inl (sub a m), fun _ q => q⟩, sub, fun a m => ?_⟩
  · by_cases m : a ∈ f
    · exact hp.mem_iff.mpr (List.mem_append_left _ m)
    · rw [addF_out m] at n; exact absurd q n
  · exact addF_out fun m' => m (hp.mem_iff.mpr (List.mem_append_left _ m'))
end
/-- a value is taken: a slot is frozen and stays, a value of its own is handed on -/
def takeOne (o : OV) (e : En) : Option (D × En) := match o with
  | .sl i => match e[i]? with
    | some (some d) => some (d.fr, e.set i (some d.fr))
    | _ => none
  | .tm d => some (d, e)
def takeAll : List OV → En → Option (List D × En)
  | [], e => some ([], e)
  | o :: os, e => match takeOne o e with
    | some (d, e1) => match takeAll os e1 with
      | some (ds, e2) => some (d :: ds, e2)
      | none => none
    | none => none
section
variable {K : PySem.W.Frag} {cl : Cl} {B B' H H' : Hp} {F f : List Addr} {σ : L2.St} {e e' : En}
theorem takeOne_ok {o : OV} {v : V} {d : D} (R : Rel K cl B H σ e F) (r : rOV K cl σ B H v o f) (nd : (F ++ f).Nodup) (h : takeOne o e = some (d, e')) :
    ∃ B' F', Rel K cl B' H σ e' F' ∧ Rep K cl B' H v d f ∧ (F' ++ f).Nodup ∧ Step B H (F ++ f) B' H (F' ++ f) ∧ (∀ a ∈ F', a ∈ F) ∧ ∀ a, a ∉ F → B' a = B a := by
  cases o with
  | tm d' =>
    cases h
    exact ⟨B, F, R, r, nd, Step.refl, fun _ m => m, fun _ _ => rfl⟩
  | sl i =>
    obtain ⟨rfl, hv⟩ := r
    unfold takeOne at h
    simp only at h
    split at h
    · rename_i d0 hd
      cases h
      obtain ⟨v', B', F', hv', R', r', s', sub, out⟩ := R.frzSlot hd
      rw [hv] at hv'
      cases hv'
      exact ⟨B', F', R', r', by rw [List.append_nil]; exact R'.nd, by rw [List.append_nil, List.append_nil]; exact s', sub, out⟩
    · cases h
theorem takeAll_ok : ∀ {os : List OV} {vs : List V} {ds : List D} {e : En} {B : Hp} {F f : List Addr}, Rel K cl B H σ e F → rOVs K cl σ B H vs os f → (F ++ f).Nodup → takeAll os e = some (ds, e') →
    ∃ B' F', Rel K cl B' H σ e' F' ∧ Reps K cl B' H vs ds f ∧ (F' ++ f).Nodup ∧ Step B H (F ++ f) B' H (F' ++ f) ∧ (∀ a ∈ F', a ∈ F) ∧ ∀ a, a ∉ F → B' a = B a
  | [], [], _, e, B, F, f, R, r, nd, h => by
    cases h
    have : f = [] := r
    subst this
    exact ⟨B, F, R, .nil, nd, Step.refl, fun _ m => m, fun _ _ => rfl⟩
  | [], _ :: _, _, _, _, _, _, _, r, _, _ => r.elim
  | _ :: _, [], _, _, _, _, _, _, r, _, _ => r.elim
  | o :: os, v :: vs, ds, e, B, F, f, R, r, nd, h => by
    obtain ⟨g, g2, rfl, r1, r2⟩ := r
    unfold takeAll at h
    split at h
    · rename_i d e1 h1
      split at h
      · rename_i ds' e2 h2
        cases h
        have nd1 : (F ++ g).Nodup := nd.sublist (by rw [← List.append_assoc]; exact List.sublist_append_left _ _)
        obtain ⟨B1, F1, R1, q1, n1, s1, sub1, out1⟩ := takeOne_ok R r1 nd1 h1
        obtain ⟨na, nb, nc⟩ := List.nodup_append.mp nd
        obtain ⟨nb1, nb2, nb3⟩ := List.nodup_append.mp nb
        have r2' : rOVs K cl σ B1 H vs os g2 := frmOVs.mono r2 s1.b (fun _ _ _ q => q) fun x m => by
          rw [out1 x fun m' => nc x m' x (List.mem_append_right _ m) rfl]
          exact (frmOVs.there r2 x m).2
        have nd2 : (F1 ++ g2).Nodup := by
          refine List.nodup_append.mpr ⟨R1.nd, nb2, fun a m b m' z => ?_⟩
          exact nc a (sub1 a m) b (List.mem_append_right _ m') z
        obtain ⟨B2, F2, R2, q2, n2, s2, sub2, out2⟩ := takeAll_ok R1 r2' nd2 h2
        have q1' : Rep K cl B2 H v d g := q1.mono s2.b (fun _ _ _ q => q) fun x m => by
          rw [out2 x fun m' => nc x (sub1 x m') x (List.mem_append_left _ m) rfl]
          exact (q1.there x m).2
        have sub : ∀ a ∈ F2, a ∈ F := fun a m => sub1 a (sub2 a m)
        refine ⟨B2, F2, R2, .cons q1' q2, ?_, ⟨s1.b.trans s2.b, fun _ _ q _ => q, fun a q n => ?_, fun a m => ?_, fun _ q => q⟩, sub, fun a m => ?_⟩
        · refine List.nodup_append.mpr ⟨R2.nd, nb, fun a m b m' z => nc a (sub a m) b m' z⟩
        · by_cases m : a ∈ F
          · exact .inl (List.mem_append_left _ m)
          · have m2 : a ∉ F1 := fun z => m (sub1 a z)
            rw [out2 a m2, out1 a m] at n
            exact absurd q n
        · rcases List.mem_append.mp m with m | m
          · exact .inl (List.mem_append_left _ (sub a m))
          · exact .inl (List.mem_append_right _ m)
        · rw [out2 a fun z => m (sub1 a z), out1 a m]
      · cases h
    · cases h
end
/-! ### displays -/
def mLst (ma : M (List OV)) : M OV := fun e => (ma e).bind fun os e1 => match takeAll os e1 with
  | some (ds, e2) => if ds.length ≤ 1000000 then .ok (.tm (.lst true ds)) e2 else .stuck
  | none => .stuck
def mTup (ma : M (List OV)) : M OV := fun e => (ma e).bind fun os e1 => match takeAll os e1 with
  | some (ds, e2) => if ds.length ≤ 1000000 then .ok (.tm (.tup (!D.isFzL ds) ds)) e2 else .stuck
  | none => .stuck
section
variable {X : Cx} {cl : Cl} {W : WX} {e : Expr} {es : List Expr} {pos : Pos} {ms : List (M OV)}
theorem T_lst {K : PySem.W.Frag} {ma : M (List OV)} {σ : L2.St} {H : Hp} {Q : VK} (h : TV K cl W (mLst ma) σ H Q) : tLst (TVs K cl W ma) σ H Q := by
  obtain ⟨B, e, F, R, h⟩ := h
  refine T_go R h fun os e1 _ h1 vs B1 H1 F1 f1 R1 r1 nd1 s1 => ?_
  cases q : takeAll os e1 with
  | none => simp only [q] at h1; exact h1.elim
  | some p =>
    obtain ⟨ds, e2⟩ := p
    simp only [q] at h1
    by_cases hz : ds.length ≤ 1000000
    · rw [if_pos hz] at h1
      obtain ⟨B2, F2, R2, q2, n2, s2, sub, out⟩ := takeAll_ok R1 r1 nd1 q
      refine ⟨by rw [q2.length]; exact szl hz, fun p hp => ?_⟩
      have l : Loc B2 H1 B2 (upd H1 p (.lst vs)) [p] := Loc.own R2.ex hp
      have R3 := R2.loc l
      have np : ∀ a ∈ F2 ++ f1, a ≠ p := fun a m z => by
        rcases List.mem_append.mp m with m | m
        · obtain ⟨⟨o, ho⟩, _⟩ := R2.there m
          rw [z, hp] at ho; cases ho
        · obtain ⟨⟨o, ho⟩, _⟩ := q2.there a m
          rw [z, hp] at ho; cases ho
      have rp : Rep K cl B2 (upd H1 p (.lst vs)) (.ref p) (.lst true ds) (p :: f1) := .lstO upd_same (R2.ex.none hp) (q2.mono (Ex.refl B2) (fun a m o ho => by rw [upd_ne (np a (List.mem_append_right _ m))]; exact ho) fun a m => (q2.there a m).2)
      refine h1 (.ref p) B2 _ F2 (p :: f1) R3 rp ?_ ((s1.trans s2).trans (((l.step (F2 ++ f1))).less fun a m => ?_))
      · have pm : (F2 ++ p :: f1).Perm (p :: (F2 ++ f1)) := List.perm_middle
        exact pm.nodup_iff.mpr (List.nodup_cons.mpr ⟨fun m => np p m rfl, n2⟩)
      · simp only [List.mem_append, List.mem_cons, List.not_mem_nil, or_false] at m ⊢
        rcases m with m | m | m <;> simp [m]
    · rw [if_neg hz] at h1; exact h1.elim
theorem T_tup {K : PySem.W.Frag} {ma : M (List OV)} {σ : L2.St} {H : Hp} {Q : VK} (h : TV K cl W (mTup ma) σ H Q) : tTup (TVs K cl W ma) σ H Q := by
  obtain ⟨B, e, F, R, h⟩ := h
  refine T_go R h fun os e1 _ h1 vs B1 H1 F1 f1 R1 r1 nd1 s1 => ?_
  cases q : takeAll os e1 with
  | none => simp only [q] at h1; exact h1.elim
  | some p =>
    obtain ⟨ds, e2⟩ := p
    simp only [q] at h1
    by_cases hz : ds.length ≤ 1000000
    · rw [if_pos hz] at h1
      obtain ⟨B2, F2, R2, q2, n2, s2, sub, out⟩ := takeAll_ok R1 r1 nd1 q
      refine ⟨by rw [q2.length]; exact szl hz, fun p hp => ?_⟩
      cases hf : D.isFzL ds with
      | true =>
        rw [hf] at h1
        have q0 := q2.fr0 hf
        have f0 : f1 = [] := Reps.nilF q2 hf
        subst f0
        obtain ⟨n3, l⟩ := new_tup R2.ex q0 hp
        refine h1 (.ref p) _ _ F2 [] (R2.loc l) n3 (by rw [List.append_nil] at n2 ⊢; exact n2) ((s1.trans s2).trans ?_)
        have := l.step (F2 ++ [])
        simpa using this
      | false =>
        rw [hf] at h1
        have l : Loc B2 H1 B2 (upd H1 p (.tup vs)) [p] := Loc.own R2.ex hp
        have R3 := R2.loc l
        have np : ∀ a ∈ F2 ++ f1, a ≠ p := fun a m z => by
          rcases List.mem_append.mp m with m | m
          · obtain ⟨⟨o, ho⟩, _⟩ := R2.there m
            rw [z, hp] at ho; cases ho
          · obtain ⟨⟨o, ho⟩, _⟩ := q2.there a m
            rw [z, hp] at ho; cases ho
        have rp : Rep K cl B2 (upd H1 p (.tup vs)) (.ref p) (.tup true ds) (p :: f1) := .tupO upd_same (R2.ex.none hp) (q2.mono (Ex.refl B2) (fun a m o ho => by rw [upd_ne (np a (List.mem_append_right _ m))]; exact ho) fun a m => (q2.there a m).2)
        refine h1 (.ref p) B2 _ F2 (p :: f1) R3 rp ?_ ((s1.trans s2).trans (((l.step (F2 ++ f1))).less fun a m => ?_))
        · have pm : (F2 ++ p :: f1).Perm (p :: (F2 ++ f1)) := List.perm_middle
          exact pm.nodup_iff.mpr (List.nodup_cons.mpr ⟨fun m => np p m rfl, n2⟩)
        · simp only [List.mem_append, List.mem_cons, List.not_mem_nil, or_false] at m ⊢
          rcases m with m | m | m <;> simp [m]
    · rw [if_neg hz] at h1; exact h1.elim
theorem dpe_lst (h : PA X es (TVs X.K cl W (mArgs ms))) : PE X (.List es pos) (TV X.K cl W (mLst (mArgs ms))) := PE.weak (pe_lst h) fun _ _ _ h => T_lst h
theorem dpe_tup {x1} (h : PA X es (TVs X.K cl W (mArgs ms))) : PE X (.Tuple es x1 pos) (TV X.K cl W (mTup (mArgs ms))) := PE.weak (pe_tup h) fun _ _ _ h => T_tup h
end
end Dy
/-! Dy, part G: slices, methods of texts, f-strings, isinstance, dicts. -/
namespace Dy
open PySem PySem.Spec PyProof.Rows L2

/-! ### slices -/
def rIn' : RelT Int Int := fun _ _ _ b a f => b = a ∧ f = []
def rIo : RelT (Option Int) (Option Int) := fun _ _ _ b a f => b = a ∧ f = []
def mInt (m : M OV) : M Int := fun e => (m e).bind fun o e1 => match o.get e1 with
  | some (.int i) => .ok i e1
  | _ => .stuck
def mNoP : M (Option Int) := fun e => .ok none e
def mPart (m : M OV) : M (Option Int) := fun e => (mInt m e).bind fun i e1 => .ok (some i) e1
def cutD {α : Type} (xs : List α) (lo hi : Option Int) : List α := (xs.drop (HT.sIx xs.length 0 lo)).take (HT.sIx xs.length xs.length hi - HT.sIx xs.length 0 lo)
def fSl (d : D) (lo hi : Option Int) : Option D := match d with
  | .lst _ xs => if D.isFzL xs = true then some (.lst true (cutD xs lo hi)) else none
  | .lok xs => if D.isFzL xs = true then some (.lst true (cutD xs lo hi)) else none
  | .tup false xs => if D.isFzL xs = true then some (.tup false (cutD xs lo hi)) else none
  | .str x => if x.length ≤ 1000000 then some (.str (cutS x lo hi)) else none
  | _ => none
def mSl (mo : M OV) (ml mh : M (Option Int)) : M OV := fun e => (mo e).bind fun o e1 => (ml e1).bind fun l e2 => (mh e2).bind fun h e3 => match o.get e3 with
  | some d => match fSl d l h with
    | some z => .ok (.tm z) e3
    | none => .stuck
  | none => .stuck
section
variable {K : PySem.W.Frag} {cl : Cl} {W : WX} {σ : L2.St} {B H : Hp}
theorem T_int {m : M OV} {Q : Int → Hp → Prop} (h : T K cl W rIn' (mInt m) σ H Q) : TV K cl W m σ H fun x H1 => ∃ i, x = .int i ∧ Q i H1 := by
  obtain ⟨B, e, F, R, h⟩ := h
  refine T_go R h fun o e1 _ h1 v B1 H1 F1 f1 R1 r1 nd1 s1 => ?_
  cases q : o.get e1 with
  | none => simp only [q] at h1; exact h1.elim
  | some d =>
    obtain ⟨g, rd⟩ := get_rep R1 r1 q
    cases d with
    | int k =>
      simp only [q] at h1
      exact ⟨k, rd.int_inv, h1 k B1 H1 F1 [] R1 ⟨rfl, rfl⟩ (by rw [List.append_nil]; exact R1.nd) (s1.less fun a m => by rw [List.append_nil] at m; exact List.mem_append_left _ m)⟩
    | _ => simp only [q] at h1; exact h1.elim
theorem T_noP {Q : Option Int → Hp → Prop} (h : T K cl W rIo mNoP σ H Q) : tNoPart σ H Q := by
  obtain ⟨B, e, F, R, h⟩ := h
  exact h none B H F [] R ⟨rfl, rfl⟩ (by rw [List.append_nil]; exact R.nd) (by rw [List.append_nil]; exact Step.refl)
theorem T_part {m : M OV} {Q : Option Int → Hp → Prop} (h : T K cl W rIo (mPart m) σ H Q) : tPart (TV K cl W m) σ H Q := by
  have h2 : T K cl W rIn' (mInt m) σ H fun i H1 => Q (some i) H1 := by
    obtain ⟨B, e, F, R, h⟩ := h
    refine T_go R h fun o e1 _ h1 v B1 H1 F1 f1 R1 r1 nd1 s1 => ?_
    obtain ⟨rfl, rfl⟩ := r1
    exact h1 _ B1 H1 F1 [] R1 ⟨rfl, rfl⟩ nd1 s1
  exact T_int h2
theorem cutD_mem {vs : List V} {ds : List D} (r : Reps K cl B H vs ds []) : ∀ (a n : Nat), Reps K cl B H ((vs.drop a).take n) ((ds.drop a).take n) [] := by
  have dr : ∀ (a : Nat) {vs : List V} {ds : List D}, Reps K cl B H vs ds [] → Reps K cl B H (vs.drop a) (ds.drop a) [] := by
    intro a
    induction a with
    | zero => intro vs ds r; exact r
    | succ a ih =>
      intro vs ds r
      cases ds with
      | nil => obtain ⟨rfl, _⟩ := r.nil_inv; exact .nil
      | cons d ds =>
        obtain ⟨v, us, g, g2, rfl, e, r1, r2⟩ := r.cons_inv
        obtain ⟨e1, e2⟩ := List.append_eq_nil_iff.mp e.symm
        subst e1 e2
        exact ih r2
  have tk : ∀ (n : Nat) {vs : List V} {ds : List D}, Reps K cl B H vs ds [] → Reps K cl B H (vs.take n) (ds.take n) [] := by
    intro n
    induction n with
    | zero => intro vs ds r; exact .nil
    | succ n ih =>
      intro vs ds r
      cases ds with
      | nil => obtain ⟨rfl, _⟩ := r.nil_inv; exact .nil
      | cons d ds =>
        obtain ⟨v, us, g, g2, rfl, e, r1, r2⟩ := r.cons_inv
        obtain ⟨e1, e2⟩ := List.append_eq_nil_iff.mp e.symm
        subst e1 e2
        exact .cons (f := []) (g := []) r1 (ih r2)
  exact fun a n => tk n (dr a r)
def rSlAny (K : PySem.W.Frag) : V → Option Int → Option Int → Hp → VK → Prop := fun x lo hi H Q => (rSlL K x lo hi H Q ∨ rSlA K x lo hi H Q) ∨ rSlS x lo hi H Q
theorem SlR.or {X : Cx} {r r' : V → Option Int → Option Int → Hp → VK → Prop} (h : SlR X r) (h' : SlR X r') : SlR X fun x lo hi H Q => r x lo hi H Q ∨ r' x lo hi H Q :=
  fun pins s σ H x v vl vu lo hi sl Q I rx hs pl pu q => q.elim (h pins s σ H x v vl vu lo hi sl Q I rx hs pl pu) (h' pins s σ H x v vl vu lo hi sl Q I rx hs pl pu)
theorem sl_any {X : Cx} : SlR X (rSlAny X.K) := SlR.or (SlR.or sl_list sl_tupA) sl_str
theorem sl_ok {v : V} {d z : D} {f : List Addr} {lo hi : Option Int} {Q : VK} (ex : Ex B H) (r : Rep K cl B H v d f) (h : fSl d lo hi = some z) (k : ∀ v B' H' fz, Rep K cl B' H' v z fz → Loc B H B' H' fz → Q v H') : rSlAny K v lo hi H Q := by
  unfold fSl at h
  split at h
  · rename_i o xs
    split at h
    · rename_i hf
      cases h
      obtain ⟨a, us, g, rfl, ha, q⟩ := r.lst_inv ex
      refine .inl (.inl ⟨a, us, rfl, SqL.of ha, fun p hp => ?_⟩)
      have q2 : Reps K cl B H (cutV us lo hi) (cutD xs lo hi) [] := by
        unfold cutV cutD
        rw [q.length]
        exact cutD_mem (q.fr0 hf) _ _
      obtain ⟨n1, n2⟩ := new_lst ex q2 hp
      exact k _ _ _ _ n1 n2
    · cases h
  · rename_i xs
    split at h
    · rename_i hf
      cases h
      obtain ⟨a, us, rfl, ha, q⟩ := r.lok_inv ex
      refine .inl (.inl ⟨a, us, rfl, ha, fun p hp => ?_⟩)
      have q2 : Reps K cl B H (cutV us lo hi) (cutD xs lo hi) [] := by
        unfold cutV cutD
        rw [q.length]
        exact cutD_mem (q.fr0 hf) _ _
      obtain ⟨n1, n2⟩ := new_lst ex q2 hp
      exact k _ _ _ _ n1 n2
    · cases h
  · rename_i xs
    split at h
    · rename_i hf
      cases h
      obtain ⟨a, us, g, rfl, ha, q⟩ := r.tup_inv ex
      refine .inl (.inr ⟨a, us, rfl, ha, fun e => ?_, fun _ p hp => ?_⟩)
      · have e2 : cutD xs lo hi = xs := by
          unfold cutD
          rw [← q.length, e.1, e.2, q.length]
          simp
        rw [e2] at k
        exact k _ B H [] (r.fr0 (by rw [D.isFz, hf]; rfl)) (loc0 ex)
      · have q2 : Reps K cl B H (cutV us lo hi) (cutD xs lo hi) [] := by
          unfold cutV cutD
          rw [q.length]
          exact cutD_mem (q.fr0 hf) _ _
        obtain ⟨n1, n2⟩ := new_tup ex q2 hp
        exact k _ _ _ _ n1 n2
    · cases h
  · rename_i x
    split at h
    · rename_i hx
      cases h
      exact .inr ⟨x, r.str_inv, szl hx, k _ B H [] .str (loc0 ex)⟩
    · cases h
  · cases h
theorem T_sl {mo : M OV} {ml mh : M (Option Int)} {tl th : TO} {Q : VK} (hl : ∀ σ H Q, T K cl W rIo ml σ H Q → tl σ H Q) (hh : ∀ σ H Q, T K cl W rIo mh σ H Q → th σ H Q) (h : TV K cl W (mSl mo ml mh) σ H Q) : tSl (rSlAny K) (TV K cl W mo) tl th σ H Q := by
  obtain ⟨B, e, F, R, h⟩ := h
  refine T_go R h fun o e1 _ h1 v B1 H1 F1 f1 R1 r1 nd1 s1 => hl _ _ _ ?_
  refine T_on R1 s1 h1 fun l e2 _ h2 lo B2 H2 F2 f2 R2 r2 nd2 s2 => hh _ _ _ ?_
  obtain ⟨rfl, rfl⟩ := r2
  rw [List.append_nil] at s2
  have r1' := held frmOV r1 nd1 s2
  have n2 := heldNd frmOV r1 nd1 s2 R2.nd
  refine T_on R2 (s1.both s2) h2 fun u e3 _ h3 hi B3 H3 F3 f3 R3 r3 nd3 s3 => ?_
  obtain ⟨rfl, rfl⟩ := r3
  rw [List.append_nil] at s3
  have r1'' := held frmOV r1' n2 s3
  have st := (s1.both s2).both s3
  cases q : o.get e3 with
  | none => simp only [q] at h3; exact h3.elim
  | some d =>
    obtain ⟨g, rd⟩ := get_rep R3 r1'' q
    simp only [q] at h3
    cases q2 : fSl d lo hi with
    | none => simp only [q2] at h3; exact h3.elim
    | some z =>
      simp only [q2] at h3
      refine sl_ok R3.ex rd q2 fun v B' H' fz rz l => ?_
      exact h3 v B' H' F3 fz (R3.loc l) rz (R3.locNd l) ((st.less fun a m => List.mem_append_left _ m).trans (l.step F3))
end
section
variable {X : Cx} {cl : Cl} {W : WX} {a lo hi : Expr} {mo ml mh : M OV} {pos p2 : Pos}
theorem dpe_sl00 (h : PE X a (TV X.K cl W mo)) : PE X (.Subscript a (.Slice none none none p2) pos) (TV X.K cl W (mSl mo mNoP mNoP)) := PE.weak (pe_slice sl_any h po_none po_none) fun _ _ _ h => T_sl (fun _ _ _ => T_noP) (fun _ _ _ => T_noP) h
theorem dpe_sl10 (h : PE X a (TV X.K cl W mo)) (hl : PE X lo (TV X.K cl W ml)) : PE X (.Subscript a (.Slice (some lo) none none p2) pos) (TV X.K cl W (mSl mo (mPart ml) mNoP)) := PE.weak (pe_slice sl_any h (po_some hl) po_none) fun _ _ _ h => T_sl (fun _ _ _ => T_part) (fun _ _ _ => T_noP) h
theorem dpe_sl01 (h : PE X a (TV X.K cl W mo)) (hh : PE X hi (TV X.K cl W mh)) : PE X (.Subscript a (.Slice none (some hi) none p2) pos) (TV X.K cl W (mSl mo mNoP (mPart mh))) := PE.weak (pe_slice sl_any h po_none (po_some hh)) fun _ _ _ h => T_sl (fun _ _ _ => T_noP) (fun _ _ _ => T_part) h
theorem dpe_sl11 (h : PE X a (TV X.K cl W mo)) (hl : PE X lo (TV X.K cl W ml)) (hh : PE X hi (TV X.K cl W mh)) : PE X (.Subscript a (.Slice (some lo) (some hi) none p2) pos) (TV X.K cl W (mSl mo (mPart ml) (mPart mh))) :=
  PE.weak (pe_slice sl_any h (po_some hl) (po_some hh)) fun _ _ _ h => T_sl (fun _ _ _ => T_part) (fun _ _ _ => T_part) h
theorem dpe_ix {b : Expr} {mb : M OV} (ha : PE X a (TV X.K cl W mo)) (hb : PE X b (TV X.K cl W mb)) (hs : PlainIx b := by exact fun _ _ => rfl) : PE X (.Subscript a b pos) (TV X.K cl W (mLoc fIx (mArgs [mo, mb]))) :=
  PE.weak (pe_ix ix_seq ha hb hs) fun _ _ _ h => T2 (T_loc lo_ix h)
/-- d[k], k there -/
theorem dpe_ixK {b : Expr} {mb : M OV} (hu : X.A.units + 1 < cLine) (ha : PE X a (TV X.K cl W mo)) (hb : PE X b (TV X.K cl W mb)) (hs : NoSl b := by exact fun _ _ => rfl) : PE X (.Subscript a b pos) (TV X.K cl W (mLoc fIxK (mArgs [mo, mb]))) := by
  refine PE.weak (pe_dget hu ha hb hs) fun σ H Q h => ?_
  have lo : LocOp X.K cl (r2 fun x y H Q => ∃ a v, x = .ref a ∧ DGet H a y (some v) ∧ Q v H) fIxK := by
    intro B H vs ds z Q ex r h k
    unfold fIxK at h
    split at h
    · rename_i o kvs x
      obtain ⟨v, w, f, g, rfl, r1, r2⟩ := r.two
      split at h
      · rename_i key hkey
        split at h
        · rename_i d hd
          split at h
          · rename_i hf
            cases h
            obtain ⟨a, us, g1, rfl, ha, he, q⟩ := r1.dic_inv ex
            obtain ⟨v2, g2, h1, h2⟩ := (valV_ok he q key).1 _ hd
            refine ⟨a, v2, rfl, ?_, k _ B H [] (h2.fr0 hf) (loc0 ex)⟩
            rw [key_ok r2 hkey, ← h1]
            exact DGet.k ha
          · cases h
        · cases h
      · cases h
    · cases h
  exact T2 (T_loc lo h)
/-- k in d, k not in d -/
def fInK (neg : Bool) : List D → Option D
  | [x, .dic _ kvs] => match keyD x with
    | some k => some (.bl (if neg then !(valD kvs k).isSome else (valD kvs k).isSome))
    | none => none
  | _ => none
theorem lo_inK {K : PySem.W.Frag} (neg : Bool) : LocOp K cl (r2 fun y x H Q => ∃ a o, x = .ref a ∧ DGet H a y o ∧ Q (.bl (if neg then !o.isSome else o.isSome)) H) (fInK neg) := by
  intro B H vs ds z Q ex r h k
  unfold fInK at h
  split at h
  · rename_i x o kvs
    obtain ⟨v, w, f, g, rfl, r1, r2⟩ := r.two
    split at h
    · rename_i key hkey
      cases h
      obtain ⟨a, us, g1, rfl, ha, he, q⟩ := r2.dic_inv ex
      refine ⟨a, valV us key, rfl, by rw [key_ok r1 hkey]; exact DGet.k ha, ?_⟩
      have e : (valV us key).isSome = (valD kvs key).isSome := by
        cases q2 : valD kvs key with
        | none => rw [(valV_ok he q key).2 q2]; rfl
        | some d =>
          obtain ⟨v2, g2, h1, _⟩ := (valV_ok he q key).1 d q2
          rw [h1]; rfl
      rw [e]
      exact k _ B H [] .bl (loc0 ex)
    · cases h
  · cases h
theorem dpe_inK {b : Expr} {mb : M OV} (hu : X.A.units + 1 < cLine) (ha : PE X a (TV X.K cl W mo)) (hb : PE X b (TV X.K cl W mb)) (h1 : behindInMarks .In b = false := by rfl) : PE X (.Compare a [.In] [b] pos) (TV X.K cl W (mLoc (fInK false) (mArgs [mo, mb]))) :=
  PE.weak (pe_cmp (pc_din hu ha hb) h1) fun _ _ _ h => T2 (T_loc (lo_inK false) h)
theorem dpt_inK {b : Expr} {mb : M OV} (hu : X.A.units + 1 < cLine) (ha : PE X a (TV X.K cl W mo)) (hb : PE X b (TV X.K cl W mb)) (h1 : behindInMarks .In b = false := by rfl) : PT X (.Compare a [.In] [b] pos) (TB X.K cl W (mTest (mLoc (fInK false) (mArgs [mo, mb])))) :=
  PT.weak (pt_cmp (pc_din hu ha hb) h1) fun _ _ _ h => T2 (T_loc (lo_inK false) (T_test h))
theorem dpe_notInK {b : Expr} {mb : M OV} (hu : X.A.units + 1 < cLine) (ha : PE X a (TV X.K cl W mo)) (hb : PE X b (TV X.K cl W mb)) (h1 : behindInMarks .NotIn b = false := by rfl) : PE X (.Compare a [.NotIn] [b] pos) (TV X.K cl W (mLoc (fInK true) (mArgs [mo, mb]))) :=
  PE.weak (pe_cmp (pc_dnotin hu ha hb) h1) fun _ _ _ h => T2 (T_loc (lo_inK true) h)
theorem dpt_notInK {b : Expr} {mb : M OV} (hu : X.A.units + 1 < cLine) (ha : PE X a (TV X.K cl W mo)) (hb : PE X b (TV X.K cl W mb)) (h1 : behindInMarks .NotIn b = false := by rfl) : PT X (.Compare a [.NotIn] [b] pos) (TB X.K cl W (mTest (mLoc (fInK true) (mArgs [mo, mb])))) :=
  PT.weak (pt_cmp (pc_dnotin hu ha hb) h1) fun _ _ _ h => T2 (T_loc (lo_inK true) (T_test h))
/-! ### methods of texts -/
def mStr (m : M OV) : M OV := fun e => (m e).bind fun o e1 => match o.get e1 with
  | some (.str a) => .ok (.tm (.str a)) e1
  | _ => .stuck
theorem T_str {K : PySem.W.Frag} {m : M OV} {σ : L2.St} {H : Hp} {Q : VK} (h : TV K cl W (mStr m) σ H Q) : TV K cl W m σ H fun x H1 => (∃ a, x = .str a) ∧ Q x H1 := by
  obtain ⟨B, e, F, R, h⟩ := h
  refine T_go R h fun o e1 _ h1 v B1 H1 F1 f1 R1 r1 nd1 s1 => ?_
  cases q : o.get e1 with
  | none => simp only [q] at h1; exact h1.elim
  | some d =>
    obtain ⟨g, rd⟩ := get_rep R1 r1 q
    cases d with
    | str y =>
      simp only [q] at h1
      have e := rd.str_inv
      subst e
      exact ⟨⟨y, rfl⟩, h1 _ B1 H1 F1 [] R1 .str (by rw [List.append_nil]; exact R1.nd) (s1.less fun a m => by rw [List.append_nil] at m; exact List.mem_append_left _ m)⟩
    | _ => simp only [q] at h1; exact h1.elim
/-- a method of a text by its rule: no argument, some -/
def rM (r : V → List V → Hp → VK → Prop) : List V → Hp → VK → Prop := fun vs H Q => match vs with
  | x :: xs => r x xs H Q
  | [] => False
theorem dpe_strM0 {id : String} {name : Str} {r : V → List V → Hp → VK → Prop} {f : List D → Option D} {o : Expr} {apos : Pos} (slot : Slot "str" name id) (hty : typeOf (.builtin id) = pure (.type "method_descriptor")) (hm : MtR X id r) (hl : LocOp X.K cl (rM r) f) (ho : PE X o (TV X.K cl W mo))
    (hbase : attributeBase o name X.env (eval o X.env) = eval o X.env := by rfl) (hline : (apos.endLine == pos.line) = true := by rfl) : PE X (.Call (.Attribute o name apos) [] [] pos) (TV X.K cl W (mLoc f (mArgs [mStr mo]))) := by
  refine PE.weak (pe_bm0 PySem.F.plainAttrs_str slot hty hm ho hbase hline) fun σ H Q h => ?_
  have h2 := args_cons (T_loc hl h)
  refine (T_str h2).mono fun x H1 ⟨⟨a, ha⟩, h3⟩ => ⟨by rw [ha]; rfl, args_nil h3⟩
theorem dpe_strM {id : String} {name : Str} {r : V → List V → Hp → VK → Prop} {f : List D → Option D} {o e : Expr} {es : List Expr} {ms : List (M OV)} {apos : Pos} (slot : Slot "str" name id) (hty : typeOf (.builtin id) = pure (.type "method_descriptor")) (hm : MtR X id r) (hl : LocOp X.K cl (rM r) f) (ho : PE X o (TV X.K cl W mo)) (ha : PA X (e :: es) (TVs X.K cl W (mArgs ms)))
    (hbase : attributeBase o name X.env (eval o X.env) = eval o X.env := by rfl)
    (hfew : ((backTo pos (starEach (e :: es) X.env)).all (fun x => !x.1) && (backToKw pos (keywordEach [] X.env)).all (fun x => x.1.isSome)
      && decide ((e :: es).length + ([] : List Keyword).length + (if ([] : List Keyword).isEmpty then 0 else 1) < 30)) = true := by rfl)
    (hline : (apos.endLine == pos.line) = true := by rfl) (hst : starEach (e :: es) X.env = (false, eval e X.env) :: starEach es X.env := by rfl) (hpl : (backTo pos (starEach es X.env)).any (·.1) = false := by rfl) : PE X (.Call (.Attribute o name apos) (e :: es) [] pos) (TV X.K cl W (mLoc f (mArgs (mStr mo :: ms)))) := by
  refine PE.weak (pe_bm PySem.F.plainAttrs_str slot hty hm ho ha hbase hfew hline hst hpl) fun σ H Q h => ?_
  have h2 := args_cons (T_loc hl h)
  refine (T_str h2).mono fun x H1 ⟨⟨a, ha⟩, h3⟩ => ⟨by rw [ha]; rfl, h3⟩
end
end Dy
/-! Dy, part H: what the methods of texts say; f-strings; isinstance; dict displays. -/
namespace Dy
open PySem PySem.Spec PyProof.Rows L2

section
variable {K : PySem.W.Frag} {cl : Cl}
def fFind : List D → Option D
  | [.str a, .str b] => some (.int (Txt.find a b))
  | _ => none
theorem lo_find : LocOp K cl (rM fun x xs H Q => ∃ a b, x = .str a ∧ xs = [.str b] ∧ Q (.int (Txt.find a b)) H) fFind := by
  intro B H vs ds z Q ex r h k
  unfold fFind at h
  split at h
  · rename_i a b
    cases h
    obtain ⟨v, w, f, g, rfl, r1, r2⟩ := r.two
    exact ⟨a, b, r1.str_inv, by rw [r2.str_inv], k _ B H [] .int (loc0 ex)⟩
  · cases h
theorem reps_strs {B H : Hp} : ∀ ys : List Str, Reps K cl B H (ys.map V.str) (ys.map D.str) []
  | [] => .nil
  | y :: ys => .cons (f := []) (g := []) .str (reps_strs ys)
def fSplit : List D → Option D
  | [.str a, .str b] => if (b.length == 0) = false ∧ a.length ≤ 1000000 then some (.lst true ((Txt.split a b).map .str)) else none
  | _ => none
theorem lo_split : LocOp K cl (rM fun x xs H Q => ∃ a b, x = .str a ∧ xs = [.str b] ∧ (b.length == 0) = false ∧ a.length + 2 ≤ sizeLine ∧ rNewStrs (Txt.split a b) H Q) fSplit := by
  intro B H vs ds z Q ex r h k
  unfold fSplit at h
  split at h
  · rename_i a b
    split at h
    · rename_i hz
      cases h
      obtain ⟨v, w, f, g, rfl, r1, r2⟩ := r.two
      refine ⟨a, b, r1.str_inv, by rw [r2.str_inv], hz.1, by rw [sizeLine_eq]; have := hz.2; omega, fun p hp => ?_⟩
      obtain ⟨n1, n2⟩ := new_lst ex (reps_strs (Txt.split a b)) hp
      exact k _ _ _ _ n1 n2
    · cases h
  · cases h
def fPartition : List D → Option D
  | [.str a, .str b] => if (b.length == 0) = false ∧ a.length ≤ 1000000 then some (.tup false [.str (Txt.partition a b).1, .str (Txt.partition a b).2.1, .str (Txt.partition a b).2.2]) else none
  | _ => none
theorem lo_partition : LocOp K cl (rM fun x xs H Q => ∃ a b, x = .str a ∧ xs = [.str b] ∧ (b.length == 0) = false ∧ a.length ≤ sizeLine ∧
    ∀ p, H p = none → Q (.ref p) (upd H p (.tup [.str (Txt.partition a b).1, .str (Txt.partition a b).2.1, .str (Txt.partition a b).2.2]))) fPartition := by
  intro B H vs ds z Q ex r h k
  unfold fPartition at h
  split at h
  · rename_i a b
    split at h
    · rename_i hz
      cases h
      obtain ⟨v, w, f, g, rfl, r1, r2⟩ := r.two
      refine ⟨a, b, r1.str_inv, by rw [r2.str_inv], hz.1, szl hz.2, fun p hp => ?_⟩
      obtain ⟨n1, n2⟩ := new_tup ex (reps_strs [(Txt.partition a b).1, (Txt.partition a b).2.1, (Txt.partition a b).2.2]) hp
      exact k _ _ _ _ n1 n2
    · cases h
  · cases h
/-- the texts of a list -/
def strsD : List D → Option (List Str)
  | [] => some []
  | .str x :: r => (strsD r).map (x :: ·)
  | _ :: _ => none
theorem strsD_ok {B H : Hp} : ∀ {ds : List D} {vs : List V} {f : List Addr} {ys : List Str}, Reps K cl B H vs ds f → strsD ds = some ys → vs = ys.map V.str
  | [], _, _, _, r, h => by
    cases h
    cases r
    rfl
  | d :: ds, vs, f, ys, r, h => by
    obtain ⟨v, us, g, g2, rfl, rfl, r1, r2⟩ := r.cons_inv
    unfold strsD at h
    split at h
    · rename_i e; cases e
    · rename_i x r' e
      injection e with e1 e2
      subst e1 e2
      cases q : strsD ds with
      | none => rw [q] at h; cases h
      | some zs =>
        rw [q] at h
        cases h
        rw [r1.str_inv, strsD_ok r2 q]; rfl
    · cases h
def fJoin : List D → Option D
  | [.str a, .lst _ xs] => match strsD xs with
    | some ys => if (ys.map (·.length)).sum + ys.length * a.length ≤ 1000000 then some (.str (Txt.join a ys)) else none
    | none => none
  | [.str a, .tup _ xs] => match strsD xs with
    | some ys => if (ys.map (·.length)).sum + ys.length * a.length ≤ 1000000 then some (.str (Txt.join a ys)) else none
    | none => none
  | _ => none
theorem lo_join : LocOp K cl (rM fun x xs H Q => ∃ a p, ∃ ys : List Str, x = .str a ∧ xs = [.ref p] ∧ (SqL K H p (ys.map V.str) ∨ SqT K H p (ys.map V.str)) ∧ (ys.map (·.length)).sum + ys.length * a.length ≤ 16777216 ∧ Q (.str (Txt.join a ys)) H) fJoin := by
  intro B H vs ds z Q ex r h k
  unfold fJoin at h
  split at h
  · rename_i a o xs
    obtain ⟨v, w, f, g, rfl, r1, r2⟩ := r.two
    split at h
    · rename_i ys hy
      split at h
      · rename_i hz
        cases h
        obtain ⟨p, us, g1, rfl, ha, q⟩ := r2.lst_inv ex
        rw [strsD_ok q hy] at ha
        exact ⟨a, p, ys, r1.str_inv, rfl, .inl (SqL.of ha), by omega, k _ B H [] .str (loc0 ex)⟩
      · cases h
    · cases h
  · rename_i a o xs
    obtain ⟨v, w, f, g, rfl, r1, r2⟩ := r.two
    split at h
    · rename_i ys hy
      split at h
      · rename_i hz
        cases h
        obtain ⟨p, us, g1, rfl, ha, q⟩ := r2.tup_inv ex
        rw [strsD_ok q hy] at ha
        exact ⟨a, p, ys, r1.str_inv, rfl, .inr ha, by omega, k _ B H [] .str (loc0 ex)⟩
      · cases h
    · cases h
  · cases h
end
/-! ### f-strings -/
/-- {x}: a text or an int -/
def fmtD : D → Option Str
  | .str y => if y.length ≤ 1000000 then some y else none
  | .int i => if i.natAbs.log2 < 1920 then some (toString i) else none
  | _ => none
def mFmt (m : M OV) : M OV := fun e => (m e).bind fun o e1 => match (o.get e1).bind fmtD with
  | some y => .ok (.tm (.str y)) e1
  | none => .stuck
def mJoined : List (M OV) → Str → M OV
  | [], acc => fun e => .ok (.tm (.str acc)) e
  | m :: ms, acc => fun e => (m e).bind fun o e1 => match o.get e1 with
    | some (.str y) => if (acc ++ y).length ≤ 1000000 then mJoined ms (acc ++ y) e1 else .stuck
    | _ => .stuck
section
variable {X : Cx} {cl : Cl} {W : WX} {e a : Expr} {m ma : M OV} {pos : Pos}
theorem dpe_fmt (h : PE X e (TV X.K cl W m)) : PE X (.FormattedValue e (-1) none pos) (TV X.K cl W (mFmt m)) := by
  refine PE.weak (pe_fmt h) fun σ H Q h => ?_
  obtain ⟨B, e, F, R, h⟩ := h
  refine T_go R h fun o e1 _ h1 v B1 H1 F1 f1 R1 r1 nd1 s1 => ?_
  cases q : o.get e1 with
  | none => simp only [q] at h1; exact h1.elim
  | some d =>
    obtain ⟨g, rd⟩ := get_rep R1 r1 q
    cases q2 : fmtD d with
    | none => simp only [q, Option.bind_some, q2] at h1; exact h1.elim
    | some y =>
      simp only [q, Option.bind_some, q2] at h1
      have fin := h1 (.str y) B1 H1 F1 [] R1 .str (by rw [List.append_nil]; exact R1.nd) (s1.less fun a m => by rw [List.append_nil] at m; exact List.mem_append_left _ m)
      unfold fmtD at q2
      split at q2
      · rename_i z
        split at q2
        · rename_i hz
          cases q2
          exact .inl ⟨_, rd.str_inv, szl hz, fin⟩
        · cases q2
      · rename_i i
        split at q2
        · rename_i hz
          cases q2
          exact .inr ⟨i, rd.int_inv, hz, fin⟩
        · cases q2
      · cases q2
/-- the parts -/
inductive DPJ (X : Cx) (cl : Cl) (W : WX) : List Expr → List (M OV) → Prop where
  | nil : DPJ X cl W [] []
  | cons {e : Expr} {m : M OV} {es : List Expr} {ms : List (M OV)} (h : PE X e (TV X.K cl W m)) (r : DPJ X cl W es ms) : DPJ X cl W (e :: es) (m :: ms)
theorem DPJ.pj {es : List Expr} {ms : List (M OV)} (h : DPJ X cl W es ms) : PJ X es (ms.map fun m => TV X.K cl W m) := by
  induction h with
  | nil => exact .nil
  | cons h r ih => exact .cons h ih
theorem T_joined {K : PySem.W.Frag} : ∀ {ms : List (M OV)} {acc : Str} {σ : L2.St} {H : Hp} {Q : VK}, TV K cl W (mJoined ms acc) σ H Q → tJs (ms.map fun m => TV K cl W m) acc σ H fun out H1 => Q (.str out) H1
  | [], acc, σ, H, Q, h => by
    obtain ⟨B, e, F, R, h⟩ := h
    exact h (.str acc) B H F [] R .str (by rw [List.append_nil]; exact R.nd) (by rw [List.append_nil]; exact Step.refl)
  | m :: ms, acc, σ, H, Q, h => by
    obtain ⟨B, e, F, R, h⟩ := h
    refine T_go R h fun o e1 _ h1 v B1 H1 F1 f1 R1 r1 nd1 s1 => ?_
    cases q : o.get e1 with
    | none => simp only [q] at h1; exact h1.elim
    | some d =>
      obtain ⟨g, rd⟩ := get_rep R1 r1 q
      cases d with
      | str y =>
        simp only [q] at h1
        by_cases hz : (acc ++ y).length ≤ 1000000
        · rw [if_pos hz] at h1
          exact ⟨y, rd.str_inv, szl hz, T_joined ⟨B1, e1, F1, R1, h1.shift (s1.less fun a m => List.mem_append_left _ m)⟩⟩
        · rw [if_neg hz] at h1; exact h1.elim
      | _ => simp only [q] at h1; exact h1.elim
theorem dpe_joined {v1 v2 : Expr} {rest : List Expr} {ms : List (M OV)} (h : DPJ X cl W (v1 :: v2 :: rest) ms) : PE X (.JoinedStr (v1 :: v2 :: rest) pos) (TV X.K cl W (mJoined ms Str.empty)) :=
  PE.weak (pe_joined h.pj) fun _ _ _ h => T_joined h
/-! ### isinstance with built-in types -/
def tyNm : D → Option String
  | .non => some "NoneType"
  | .bl _ => some "bool"
  | .int _ => some "int"
  | .str _ => some "str"
  | .lst _ _ => some "list"
  | .lok _ => some "list"
  | .tup _ _ => some "tuple"
  | .dic _ _ => some "dict"
  | .ins _ _ _ => none
  | .exc _ _ => none
def subTy (a b : String) : Bool := a == b || (a == "bool" && b == "int")
def okTys : List String := ["bool", "int", "str", "list", "tuple", "dict"]
theorem kit_tab : (["NoneType", "bool", "int", "str", "list", "tuple", "dict"].all fun a => okTys.all fun b => kitB a b == some (subTy a b)) = true := by decide +kernel
theorem kit_one {K : PySem.W.Frag} {d : D} {a b : String} (ha : tyNm d = some a) (hb : b ∈ okTys) : PySem.W.kitOne K (.type a) (.type b) = some (subTy a b) := by
  have m : a ∈ ["NoneType", "bool", "int", "str", "list", "tuple", "dict"] := by
    cases d <;> first | (cases ha; done) | (cases ha; decide)
  have z := List.all_eq_true.mp (List.all_eq_true.mp kit_tab a m) b hb
  exact kit_ty (by simpa using z)
def isTys (a : String) (bs : List String) : Bool := bs.any fun b => subTy a b
theorem kit_any {K : PySem.W.Frag} {d : D} {a : String} (ha : tyNm d = some a) : ∀ {bs : List String}, (∀ b ∈ bs, b ∈ okTys) → PySem.W.kitAny K (.type a) (bs.map Value.type) = some (isTys a bs)
  | [], _ => rfl
  | b :: bs, h => by
    have ih := kit_any (K := K) ha (bs := bs) fun x m => h x (List.mem_cons_of_mem _ m)
    refine kitAny_cons (kit_one ha (h b List.mem_cons_self)) (fun q => ?_) (fun q => ?_)
    · rw [ih]
      show some (isTys a bs) = some (subTy a b || isTys a bs)
      rw [q]; rfl
    · show (subTy a b || isTys a bs) = true
      rw [q]; rfl
theorem tyX_ok {K : PySem.W.Frag} {B H : Hp} {v : V} {d : D} {f : List Addr} {a : String} (ex : Ex B H) (r : Rep K cl B H v d f) (h : tyNm d = some a) : TyX K H v (.type a) := by
  cases d with
  | non => cases h; rw [r.non_inv]; exact .base .non
  | bl b => cases h; rw [r.bl_inv]; exact .base (.bl b)
  | int i => cases h; rw [r.int_inv]; exact .base (.int i)
  | str x => cases h; rw [r.str_inv]; exact .base (.str x)
  | lst o xs =>
    cases h
    obtain ⟨p, us, g, rfl, hp, _⟩ := r.lst_inv ex
    exact .base (.lst hp)
  | lok xs =>
    cases h
    obtain ⟨p, us, rfl, hp, _⟩ := r.lok_inv ex
    rcases hp with (hp | ⟨o, hp⟩) | ⟨o, its, n, hk, hc, _⟩
    · exact .base (.lst hp)
    · exact .base (.frz hp)
    · exact .kList hk hc
  | tup o xs =>
    cases h
    obtain ⟨p, us, g, rfl, hp, _⟩ := r.tup_inv ex
    rcases hp with (hp | ⟨o, hp⟩) | ⟨o, its, n, hk, hc, _⟩
    · exact .base (.tup hp)
    · exact .fTuple hp
    · exact .kTuple hk hc
  | dic o xs =>
    cases h
    obtain ⟨p, us, g, rfl, hp, _⟩ := r.dic_inv ex
    exact .base (.dK hp)
  | ins _ _ _ => cases h
  | exc _ _ => cases h
def fIsi (bs : List String) : List D → Option D
  | [d] => (tyNm d).map fun a => .bl (isTys a bs)
  | _ => none
/-- isinstance(x, T) -/
theorem dpe_isi {T : Str} {Tn : String} {p p2 : Pos} (hm : X.mg "isinstance" = none) (hmT : X.mg T = none) (hT : bootBuiltins T = some (.type Tn)) (hok : Tn ∈ okTys) (ha : PE X a (TV X.K cl W ma))
    (hg : Gl X "isinstance" := by rfl) (hgT : Gl X T := by rfl) (hnT : T ≠ "__name__" := by decide) (hdT : (T == ("__debug__" : Str)) = false := by decide)
    (he : starEach (a :: [.Name T p2]) X.env = (false, eval a X.env) :: starEach [.Name T p2] X.env := by rfl) :
    PE X (.Call (.Name "isinstance" p) [a, .Name T p2] [] pos) (TV X.K cl W (mLoc (fIsi [Tn]) (mArgs [ma]))) := by
  have hv : bootBuiltins "isinstance" = some (.builtin "isinstance") := by decide +kernel
  refine PE.weak (pe_callB call_isi hg hm hv (pa_cons ha (pa_cons (pe_bltn (v := .ty Tn) hgT hmT hT rfl hnT hdT) pa_nil) he) (by decide) (by decide) he) fun σ H Q h => ?_
  have lo : LocOp X.K cl (fun vs H Q => rIsi X.K (vs ++ [.ty Tn]) H Q) (fIsi [Tn]) := by
    intro B H vs ds z Q ex r h k
    unfold fIsi at h
    split at h
    · rename_i d
      obtain ⟨v, f, rfl, r1⟩ := r.one
      cases q : tyNm d with
      | none => rw [q] at h; cases h
      | some t =>
        rw [q] at h
        cases h
        refine ⟨v, .ty Tn, .type t, .type Tn, subTy t Tn, rfl, .ty Tn, tyX_ok ex r1 q, kit_one q hok, ?_⟩
        have e : isTys t [Tn] = subTy t Tn := by simp [isTys]
        have k' := k _ B H [] (.bl (b := isTys t [Tn])) (loc0 ex)
        rw [e] at k'
        exact k'
    · cases h
  refine (args_cons (T_loc lo h)).mono fun x H1 h1 => ?_
  exact args_nil h1
/-- the names of built-in types as values, one behind the other -/
def tCs (cs : List V) : TA := fun _ H Q => Q cs H
theorem pa_tys_nil : PA X [] (tCs []) := PA.weak pa_nil fun _ _ _ h => h
theorem pa_tys_cons {T : Str} {Tn : String} {p2 : Pos} {es : List Expr} {cs : List V} (hmT : X.mg T = none) (hT : bootBuiltins T = some (.type Tn)) (h : PA X es (tCs cs)) (hgT : Gl X T := by rfl) (hnT : T ≠ "__name__" := by decide) (hdT : (T == ("__debug__" : Str)) = false := by decide)
    (he : starEach (.Name T p2 :: es) X.env = (false, eval (.Name T p2) X.env) :: starEach es X.env := by rfl) : PA X (.Name T p2 :: es) (tCs (.ty Tn :: cs)) :=
  PA.weak (pa_cons (pe_bltn (v := .ty Tn) hgT hmT hT rfl hnT hdT) h he) fun _ _ _ h => h
theorem cls_tys : ∀ bs : List String, Paired ClsV (bs.map V.ty) (bs.map Value.type)
  | [] => .nil
  | b :: bs => .cons (.ty b) (cls_tys bs)
theorem Loc.skip {B H : Hp} {p : Addr} {o : HO} (ex : Ex B H) (h : H p = none) : Loc B H B (upd H p o) [] :=
  ⟨Ex.refl B, Ex.new h, fun _ e n => absurd e n, fun _ m => (nomatch m), List.nodup_nil, ex.trans (Ex.new h), fun _ m => (nomatch m)⟩
theorem Rep.newH {K : PySem.W.Frag} {B H : Hp} {v : V} {d : D} {f : List Addr} {p : Addr} {o : HO} (r : Rep K cl B H v d f) (h : H p = none) : Rep K cl B (upd H p o) v d f :=
  r.mono (Ex.refl B) (fun a m u hu => by rw [upd_ne (ne_of_none hu h)]; exact hu) fun a m => (r.there a m).2
/-- isinstance(x, (T1, T2, ..)) -/
theorem dpe_isiT {p p2 : Pos} {k2} {es : List Expr} {bs : List String} (hm : X.mg "isinstance" = none) (hok : ∀ b ∈ bs, b ∈ okTys) (hz : bs.length ≤ 1000) (ha : PE X a (TV X.K cl W ma)) (hes : PA X es (tCs (bs.map V.ty)))
    (hg : Gl X "isinstance" := by rfl) (he : starEach (a :: [.Tuple es k2 p2]) X.env = (false, eval a X.env) :: starEach [.Tuple es k2 p2] X.env := by rfl) :
    PE X (.Call (.Name "isinstance" p) [a, .Tuple es k2 p2] [] pos) (TV X.K cl W (mLoc (fIsi bs) (mArgs [ma]))) := by
  have hv : bootBuiltins "isinstance" = some (.builtin "isinstance") := by decide +kernel
  refine PE.weak (pe_callB call_isiT hg hm hv (pa_cons ha (pa_cons (pe_tup hes) pa_nil) he) (by decide) (by decide) he) fun σ H Q h => ?_
  have lo : LocOp X.K cl (fun vs H Q => ∀ p, H p = none → rIsiT X.K (vs ++ [.ref p]) (upd H p (.tup (bs.map V.ty))) Q) (fIsi bs) := by
    intro B H vs ds z Q ex r h k p hp
    unfold fIsi at h
    split at h
    · rename_i d
      obtain ⟨v, f, rfl, r1⟩ := r.one
      cases q : tyNm d with
      | none => rw [q] at h; cases h
      | some t =>
        rw [q] at h
        cases h
        exact ⟨v, p, bs.map V.ty, .type t, bs.map Value.type, isTys t bs, rfl, upd_same, cls_tys bs, tyX_ok (ex.trans (Ex.new hp)) (r1.newH hp) q, kit_any q hok, k _ B _ [] .bl (Loc.skip ex hp)⟩
    · cases h
  refine (args_cons (T_loc lo h)).mono fun x H1 h1 => ?_
  have h2 := args_nil h1
  exact ⟨by rw [List.length_map]; exact szl (by omega), fun p hp => h2 p hp⟩
end
end Dy
/-! Dy, part I: statements. P: the slots whose object is handed back to the caller (their names are never stored). -/
namespace Dy
open PySem PySem.Spec PyProof.Rows L2

def Keep (P : List Nat) (σ σ' : L2.St) : Prop := σ'.length = σ.length ∧ ∀ i ∈ P, σ'[i]? = σ[i]?
theorem Keep.refl (P : List Nat) (σ : L2.St) : Keep P σ σ := ⟨rfl, fun _ _ => rfl⟩
theorem Keep.trans {P : List Nat} {a b c : L2.St} (h : Keep P a b) (k : Keep P b c) : Keep P a c := ⟨k.1.trans h.1, fun i m => (k.2 i m).trans (h.2 i m)⟩
theorem Keep.set {P : List Nat} {σ : L2.St} {i : Nat} {v : Option V} (h : P.contains i = false) : Keep P σ (σ.set i v) := ⟨List.length_set, fun j m => by
  have : i ≠ j := fun z => by subst z; simp at h; exact h m
  rw [List.getElem?_set_ne this]⟩
section
variable (K : PySem.W.Frag) (cl : Cl) (W : WX) (P : List Nat)
def FinS (σ : L2.St) (B H : Hp) (F : List Addr) (r : Res Fl) (Dn : Ends) : Prop := match r with
  | .ok .nx e' => ∀ σ' B' H' F', Rel K cl B' H' σ' e' F' → Keep P σ σ' → Step B H F B' H' F' → Dn.nx σ' H'
  | .ok .bk e' => ∀ σ' B' H' F', Rel K cl B' H' σ' e' F' → Keep P σ σ' → Step B H F B' H' F' → Dn.bk σ' H'
  | .ok .ct e' => ∀ σ' B' H' F', Rel K cl B' H' σ' e' F' → Keep P σ σ' → Step B H F B' H' F' → Dn.ct σ' H'
  | .ok (.rt d) e' => ∀ σ' v B' H' F' f, Rel K cl B' H' σ' e' F' → Rep K cl B' H' v d f → (F' ++ f).Nodup → Keep P σ σ' → Step B H F B' H' (F' ++ f) → Dn.rt v H'
  | .err x e' => ∀ σ' c dd B' H' F', Rel K cl B' H' σ' e' F' → Keep P σ σ' → Step B H F B' H' F' → ExcAt K cl B' H' c dd x → W c dd σ' H'
  | .stuck => False
/-- the reading of a statement that stands for a function on environments -/
def TSm (m : MS) : TS := fun Dn σ H => ∃ B e F, Rel K cl B H σ e F ∧ FinS K cl W P σ B H F (m e) Dn
end
section
variable {K : PySem.W.Frag} {cl : Cl} {W : WX} {P : List Nat} {α β : Type} {rel : RelT β α} {B B1 B2 H H1 H2 : Hp} {F F1 F2 f f1 f2 : List Addr} {σ σ1 : L2.St} {e e1 : En} {m : M α} {Q : β → Hp → Prop} {r : Res Fl} {Dn : Ends} {k : α → MS}
theorem FinS.shift (h : FinS K cl W P σ B H F r Dn) (s : Step B H F B1 H1 F1) (kp : Keep P σ σ1) : FinS K cl W P σ1 B1 H1 F1 r Dn := by
  cases r with
  | ok a e' =>
    cases a with
    | nx => exact fun σ' B' H' F' R k t => h σ' B' H' F' R (kp.trans k) (s.trans t)
    | bk => exact fun σ' B' H' F' R k t => h σ' B' H' F' R (kp.trans k) (s.trans t)
    | ct => exact fun σ' B' H' F' R k t => h σ' B' H' F' R (kp.trans k) (s.trans t)
    | rt d => exact fun σ' v B' H' F' f R q nd k t => h σ' v B' H' F' f R q nd (kp.trans k) (s.trans t)
  | err x e' => exact fun σ' c dd B' H' F' R k t q => h σ' c dd B' H' F' R (kp.trans k) (s.trans t) q
  | stuck => exact h
/-- an expression, then the rest of a statement -/
theorem TS_go (R : Rel K cl B H σ e F) (h : FinS K cl W P σ B H F ((m e).bind k) Dn)
    (ok : ∀ a e1, m e = .ok a e1 → FinS K cl W P σ B H F (k a e1) Dn → ∀ b B1 H1 F1 f1, Rel K cl B1 H1 σ e1 F1 → rel σ B1 H1 b a f1 → (F1 ++ f1).Nodup → Step B H F B1 H1 (F1 ++ f1) → Q b H1) : T K cl W rel m σ H Q := by
  refine ⟨B, e, F, R, ?_⟩
  cases q : m e with
  | ok a e1 =>
    rw [q] at h
    exact fun b B1 H1 F1 f1 R1 r1 nd s => ok a e1 q h b B1 H1 F1 f1 R1 r1 nd s
  | err x e1 =>
    rw [q] at h
    exact fun c dd B' H' F' R t q => h σ c dd B' H' F' R (Keep.refl P σ) t q
  | stuck =>
    rw [q] at h
    exact h
theorem TS_on (R1 : Rel K cl B1 H1 σ e1 F1) (s : Step B H F B1 H1 (F1 ++ f1)) (h : FinS K cl W P σ B H F ((m e1).bind k) Dn)
    (ok : ∀ a e2, m e1 = .ok a e2 → FinS K cl W P σ B H F (k a e2) Dn → ∀ b B2 H2 F2 f2, Rel K cl B2 H2 σ e2 F2 → rel σ B2 H2 b a f2 → (F2 ++ f2).Nodup → Step B1 H1 F1 B2 H2 (F2 ++ f2) → Q b H2) : T K cl W rel m σ H1 Q := by
  refine ⟨B1, e1, F1, R1, ?_⟩
  cases q : m e1 with
  | ok a e2 =>
    rw [q] at h
    exact fun b B2 H2 F2 f2 R2 r2 nd t => ok a e2 q h b B2 H2 F2 f2 R2 r2 nd t
  | err x e2 =>
    rw [q] at h
    exact fun c dd B' H' F' R t q => h σ c dd B' H' F' R (Keep.refl P σ) ((s.less fun a m => List.mem_append_left _ m).trans t) q
  | stuck =>
    rw [q] at h
    exact h
/-- a value is stored in a slot -/
theorem Rel.store (R : Rel K cl B H σ e F) {i : Nat} (hi : i < e.length) {v : V} {d : D} (r : Rep K cl B H v d f) (nd : (F ++ f).Nodup) : ∃ F', Rel K cl B H (σ.set i (some v)) (e.set i (some d)) F' ∧ ∀ a ∈ F', a ∈ F ++ f := by
  obtain ⟨f0, g, hp, re⟩ := R.rep.drop i
  obtain ⟨F', hp', re'⟩ := re.put (i := i) (by simp [hi]) r
  rw [List.set_set] at re'
  obtain ⟨n1, n2, n3⟩ := List.nodup_append.mp nd
  have sub : ∀ a ∈ g, a ∈ F := fun a m => hp.mem_iff.mpr (List.mem_append_right _ m)
  have ng : g.Nodup := (List.nodup_append.mp (hp.nodup_iff.mp n1)).2.1
  refine ⟨F', ⟨re', hp'.nodup_iff.mpr (List.nodup_append.mpr ⟨n2, ng, fun a m b m' z => ?_⟩), R.ex⟩, fun a m => ?_⟩
  · subst z
    exact n3 a (sub a m') a m rfl
  · rcases List.mem_append.mp (hp'.mem_iff.mp m) with m | m
    · exact List.mem_append_right _ m
    · exact List.mem_append_left _ (sub a m)
end
def mSet (i : Nat) (m : M OV) : MS := fun e => (m e).bind fun o e1 => match takeOne o e1 with
  | some (d, e2) => if i < e2.length then .ok .nx (e2.set i (some d)) else .stuck
  | none => .stuck
/-- what is returned: a slot that is not handed back gives its object up -/
def takeRet (P : List Nat) (o : OV) (e : En) : Option (D × En) := match o with
  | .sl j => if P.contains j = true then takeOne (.sl j) e else match e[j]? with
    | some (some d) => some (d, e.set j none)
    | _ => none
  | .tm d => some (d, e)
def mRet (P : List Nat) (m : M OV) : MS := fun e => (m e).bind fun o e1 => match takeRet P o e1 with
  | some (d, e2) => .ok (.rt d) e2
  | none => .stuck
def mDrop (m : M OV) : MS := fun e => (m e).bind fun _ e1 => .ok .nx e1
def mSeq (m n : MS) : MS := fun e => (m e).bind fun f e1 => match f with
  | .nx => n e1
  | g => .ok g e1
def mNx : MS := fun e => .ok .nx e
def mFl (f : Fl) : MS := fun e => .ok f e
section
variable {X : Cx} {cl : Cl} {W : WX} {P : List Nat} {st : Stmt} {rest : List Stmt} {a c : Expr} {m n : MS} {ma : M OV} {pos : Pos} {K : PySem.W.Frag} {σ : L2.St} {H : Hp} {Dn : Ends}
theorem dps_set {i : Nat} {x : Str} {pos' : Pos} (hN : X.N.Nodup) (hi : X.N[i]? = some x) (hx : L2.Loc X.env.scope x) (hP : P.contains i = false) (he : PE X a (TV X.K cl W ma)) (hs : swapsWith a (some (.Name x pos')) pos.line X.env = pure false := by rfl) (hf : X.fn x = true ∨ X.env.scope.names.lookup x = some .local := by first | exact .inl rfl | exact .inr rfl | assumption) :
    PS X (.Assign [.Name x pos'] a pos) (TSm X.K cl W P (mSet i ma)) := by
  refine PS.weak (ps_set hN hi hx he hs hf) fun D σ H h => ?_
  obtain ⟨B, e, F, R, h⟩ := h
  refine TS_go R h fun o e1 _ h1 v B1 H1 F1 f1 R1 r1 nd1 s1 => ?_
  cases q : takeOne o e1 with
  | none => simp only [q] at h1; exact h1.elim
  | some p =>
    obtain ⟨d, e2⟩ := p
    simp only [q] at h1
    by_cases hi : i < e2.length
    · rw [if_pos hi] at h1
      obtain ⟨B2, F2, R2, q2, n2, s2, _⟩ := takeOne_ok R1 r1 nd1 q
      obtain ⟨F3, R3, sub⟩ := R2.store hi q2 n2
      exact h1 _ B2 H1 F3 R3 (Keep.set hP) ((s1.trans s2).less sub)
    · rw [if_neg hi] at h1; exact h1.elim
theorem ret_ok {P : List Nat} {Dn : Ends} (h : TSm K cl W P (mRet P ma) Dn σ H) : tRet (TV K cl W ma) Dn σ H := by
  obtain ⟨B, e, F, R, h⟩ := h
  refine TS_go R h fun o e1 _ h1 v B1 H1 F1 f1 R1 r1 nd1 s1 => ?_
  cases q : takeRet P o e1 with
  | none => simp only [q] at h1; exact h1.elim
  | some p =>
    obtain ⟨d, e2⟩ := p
    simp only [q] at h1
    cases o with
    | tm d' =>
      cases q
      exact h1 σ v B1 H1 F1 f1 R1 r1 nd1 (Keep.refl P σ) s1
    | sl j =>
      obtain ⟨rfl, hv⟩ := r1
      unfold takeRet at q
      simp only at q
      by_cases hj : P.contains j = true
      · rw [if_pos hj] at q
        obtain ⟨B2, F2, R2, q2, n2, s2, _⟩ := takeOne_ok (o := .sl j) R1 ⟨rfl, hv⟩ nd1 q
        exact h1 σ v B2 H1 F2 [] R2 q2 n2 (Keep.refl P σ) (s1.trans s2)
      · rw [if_neg hj] at q
        split at q
        · rename_i d0 hd
          cases q
          obtain ⟨v', f, g, hv', hr, hp, re⟩ := R1.rep.take hd
          rw [hv] at hv'
          cases hv'
          have nd := hp.nodup_iff.mp R1.nd
          refine h1 σ v B1 H1 g f ⟨re, (List.nodup_append.mp nd).2.1, R1.ex⟩ hr ?_ (Keep.refl P σ) (s1.less fun x m => ?_)
          · exact List.perm_append_comm.nodup_iff.mp nd
          · rw [List.append_nil]
            exact hp.mem_iff.mpr (List.perm_append_comm.mem_iff.mp m)
        · cases q
theorem dps_ret (he : PE X a (TV X.K cl W ma)) : PS X (.Return (some a) pos) (TSm X.K cl W P (mRet P ma)) := PS.weak (ps_ret he) fun _ _ _ h => ret_ok h
theorem dps_retN : PS X (.Return none pos) (TSm X.K cl W P (mFl (.rt .non))) := by
  refine PS.weak ps_retN fun D σ H h => ?_
  obtain ⟨B, e, F, R, h⟩ := h
  exact h σ .non B H F [] R .non (by rw [List.append_nil]; exact R.nd) (Keep.refl P σ) (by rw [List.append_nil]; exact Step.refl)
theorem dps_expr (he : PE X a (TV X.K cl W ma)) (hs : swapsWith a none pos.line X.env = pure false := by rfl) : PS X (.Expr a pos) (TSm X.K cl W P (mDrop ma)) := by
  refine PS.weak (ps_expr he hs) fun D σ H h => ?_
  obtain ⟨B, e, F, R, h⟩ := h
  refine TS_go R h fun o e1 _ h1 v B1 H1 F1 f1 R1 r1 nd1 s1 => ?_
  exact h1 σ B1 H1 F1 R1 (Keep.refl P σ) (s1.less fun a m => List.mem_append_left _ m)
theorem nx_ok (h : TSm K cl W P mNx Dn σ H) : tNext Dn σ H := by
  obtain ⟨B, e, F, R, h⟩ := h
  exact h σ B H F R (Keep.refl P σ) Step.refl
theorem dpss_nil : PSs X [] (TSm X.K cl W P mNx) := PSs.weak pss_nil fun _ _ _ h => nx_ok h
theorem dps_pass : PS X (.Pass pos) (TSm X.K cl W P mNx) := PS.weak ps_pass fun _ _ _ h => nx_ok h
theorem dps_break : PS X (.Break pos) (TSm X.K cl W P (mFl .bk)) := PS.weak ps_break fun D σ H h => by
  obtain ⟨B, e, F, R, h⟩ := h
  exact h σ B H F R (Keep.refl P σ) Step.refl
theorem dps_continue : PS X (.Continue pos) (TSm X.K cl W P (mFl .ct)) := PS.weak ps_continue fun D σ H h => by
  obtain ⟨B, e, F, R, h⟩ := h
  exact h σ B H F R (Keep.refl P σ) Step.refl
theorem seq_ok (h : TSm K cl W P (mSeq m n) Dn σ H) : tSeq (TSm K cl W P m) (TSm K cl W P n) Dn σ H := by
  obtain ⟨B, e, F, R, h⟩ := h
  refine ⟨B, e, F, R, ?_⟩
  unfold mSeq at h
  cases q : m e with
  | ok a e1 =>
    rw [q] at h
    cases a with
    | nx => exact fun σ' B' H' F' R' k s => ⟨B', e1, F', R', FinS.shift h s k⟩
    | bk => exact h
    | ct => exact h
    | rt d => exact h
  | err x e1 => rw [q] at h; exact h
  | stuck => rw [q] at h; exact h
theorem dpss_cons (h1 : PS X st (TSm X.K cl W P m)) (h2 : PSs X rest (TSm X.K cl W P n)) : PSs X (st :: rest) (TSm X.K cl W P (mSeq m n)) := PSs.weak (pss_cons h1 h2) fun _ _ _ h => seq_ok h
theorem dpss_one (h1 : PS X st (TSm X.K cl W P m)) : PSs X [st] (TSm X.K cl W P m) := pss_one h1
theorem if_ok {t : M Bool} (h : TSm K cl W P (mIf t m n) Dn σ H) : tIfS (TB K cl W t) (TSm K cl W P m) (TSm K cl W P n) Dn σ H := by
  obtain ⟨B, e, F, R, h⟩ := h
  refine TS_go R h fun k e1 _ h1 v B1 H1 F1 f1 R1 r1 nd1 s1 => ?_
  obtain ⟨rfl, rfl⟩ := r1
  rw [List.append_nil] at s1
  cases v with
  | true =>
    rw [if_pos rfl] at h1 ⊢
    exact ⟨B1, e1, F1, R1, FinS.shift h1 s1 (Keep.refl P σ)⟩
  | false =>
    rw [if_neg Bool.false_ne_true] at h1 ⊢
    exact ⟨B1, e1, F1, R1, FinS.shift h1 s1 (Keep.refl P σ)⟩
theorem dps_if {t : M Bool} {as bs : List Stmt} (hc : PT X c (TB X.K cl W t)) (ha : PSs X as (TSm X.K cl W P m)) (hb : PSs X bs (TSm X.K cl W P n)) : PS X (.If c as bs pos) (TSm X.K cl W P (mIf t m n)) := PS.weak (ps_if hc ha hb) fun _ _ _ h => if_ok h
/-- code that is never come to -/
def mNever : MS := fun _ => .stuck
theorem never_ok (h : TSm K cl W P mNever Dn σ H) : tNever Dn σ H := by
  obtain ⟨B, e, F, R, h⟩ := h
  exact h.elim
theorem dps_never : PS X st (TSm X.K cl W P mNever) := PS.weak ps_never fun _ _ _ h => never_ok h
end
/-! ### targets -/
abbrev MG := D → M Unit
section
variable (K : PySem.W.Frag) (cl : Cl) (P : List Nat)
def FinG (σ : L2.St) (B H : Hp) (F : List Addr) (r : Res Unit) (Q : L2.St → Hp → Prop) : Prop := match r with
  | .ok _ e' => ∀ σ' B' H' F', Rel K cl B' H' σ' e' F' → Keep P σ σ' → Step B H F B' H' F' → Q σ' H'
  | .err _ _ => False
  | .stuck => False
def TGm (g : MG) : TG := fun v σ H Q => ∃ B e F f d, Rel K cl B H σ e F ∧ Rep K cl B H v d f ∧ (F ++ f).Nodup ∧ FinG K cl P σ B H (F ++ f) (g d e) Q
def TGms (g : List D → M Unit) : TGs := fun vs σ H Q => ∃ B e F f ds, Rel K cl B H σ e F ∧ Reps K cl B H vs ds f ∧ (F ++ f).Nodup ∧ FinG K cl P σ B H (F ++ f) (g ds e) Q
end
def gNm (i : Nat) : MG := fun d e => if i < e.length then .ok () (e.set i (some d)) else .stuck
def gsNil : List D → M Unit := fun ds e => match ds with
  | [] => .ok () e
  | _ => .stuck
def gsCons (g : MG) (gs : List D → M Unit) : List D → M Unit := fun ds e => match ds with
  | d :: r => (g d e).bind fun _ e1 => gs r e1
  | [] => .stuck
def gTp (n : Nat) (gs : List D → M Unit) : MG := fun d e => match d with
  | .tup _ ds => if ds.length = n then gs ds e else .stuck
  | _ => .stuck
section
variable {X : Cx} {cl : Cl} {P : List Nat} {pos : Pos}
theorem FinG.shift {K : PySem.W.Frag} {σ σ1 : L2.St} {B B1 H H1 : Hp} {F F1 : List Addr} {r : Res Unit} {Q : L2.St → Hp → Prop} (h : FinG K cl P σ B H F r Q) (s : Step B H F B1 H1 F1) (kp : Keep P σ σ1) : FinG K cl P σ1 B1 H1 F1 r Q := by
  cases r with
  | ok a e' => exact fun σ' B' H' F' R k t => h σ' B' H' F' R (kp.trans k) (s.trans t)
  | err x e' => exact h
  | stuck => exact h
theorem PG.weak {tg : Expr} {t t' : TG} (h : PG X tg t) (w : ∀ v σ H Q, t' v σ H Q → t v σ H Q) : PG X tg t' := ⟨fun pins s σ H v u Q I r q => h.run pins s σ H v u Q I r (w v σ H Q q)⟩
theorem PGs.weak {ts : List Expr} {t t' : TGs} (h : PGs X ts t) (w : ∀ v σ H Q, t' v σ H Q → t v σ H Q) : PGs X ts t' := ⟨fun pins s σ H v u Q I r q => h.run pins s σ H v u Q I r (w v σ H Q q)⟩
theorem dpg_name {i : Nat} {x : Str} (hN : X.N.Nodup) (hi : X.N[i]? = some x) (hx : L2.Loc X.env.scope x) (hP : P.contains i = false) (hf : X.fn x = true ∨ X.env.scope.names.lookup x = some .local := by first | exact .inl rfl | exact .inr rfl | assumption) : PG X (.Name x pos) (TGm X.K cl P (gNm i)) := by
  refine PG.weak (pg_name hN hi hx hf) fun v σ H Q h => ?_
  obtain ⟨B, e, F, f, d, R, r, nd, h⟩ := h
  unfold gNm at h
  by_cases hi : i < e.length
  · rw [if_pos hi] at h
    obtain ⟨F3, R3, sub⟩ := R.store hi r nd
    exact h _ B H F3 R3 (Keep.set hP) (Step.refl.less sub)
  · rw [if_neg hi] at h; exact h.elim
theorem dpgs_nil : PGs X [] (TGms X.K cl P gsNil) := by
  refine PGs.weak pgs_nil fun vs σ H Q h => ?_
  obtain ⟨B, e, F, f, ds, R, r, nd, h⟩ := h
  cases ds with
  | nil =>
    obtain ⟨e1, e2⟩ := r.nil_inv
    subst e1 e2
    exact ⟨rfl, h σ B H F R (Keep.refl P σ) (Step.refl.less fun a m => List.mem_append_left _ m)⟩
  | cons d ds => exact h.elim
theorem dpgs_cons {e : Expr} {es : List Expr} {g : MG} {gs : List D → M Unit} (h1 : PG X e (TGm X.K cl P g)) (h2 : PGs X es (TGms X.K cl P gs))
    (hs : (assignEach (e :: es) X.env).map (·.2) = assign e X.env :: (assignEach es X.env).map (·.2) := by rfl) : PGs X (e :: es) (TGms X.K cl P (gsCons g gs)) := by
  refine PGs.weak (pgs_cons h1 h2 hs) fun vs σ H Q h => ?_
  obtain ⟨B, e, F, f, ds, R, r, nd, h⟩ := h
  cases ds with
  | nil => exact h.elim
  | cons d ds =>
    obtain ⟨v, us, g1, g2, rfl, rfl, r1, r2⟩ := r.cons_inv
    refine ⟨v, us, rfl, B, e, F, g1, d, R, r1, nd.sublist (by rw [← List.append_assoc]; exact List.sublist_append_left _ _), ?_⟩
    unfold gsCons at h
    simp only at h
    cases q : g d e with
    | ok a e1 =>
      rw [q] at h
      intro σ' B' H' F' R' k s
      obtain ⟨na, nb, nc⟩ := List.nodup_append.mp nd
      obtain ⟨nb1, nb2, nb3⟩ := List.nodup_append.mp nb
      have dis : ∀ x ∈ g2, x ∉ F ++ g1 := fun x m m' => by
        rcases List.mem_append.mp m' with m' | m'
        · exact nc x m' x (List.mem_append_right _ m) rfl
        · exact nb3 x m' x m rfl
      have nn : ((F ++ g1) ++ g2).Nodup := by rw [List.append_assoc]; exact nd
      have r2' : Reps X.K cl B' H' us ds g2 := r2.mono s.b (fun x m o ho => s.keep x o ho (dis x m)) fun x m => by
        obtain ⟨⟨o, ho⟩, hb⟩ := r2.there x m
        cases qb : B' x with
        | none => rfl
        | some u =>
          rcases s.nb x hb (by rw [qb]; exact fun z => nomatch z) with z | z
          · exact absurd z (dis x m)
          · rw [ho] at z; cases z
      have nd' : (F' ++ g2).Nodup := by
        refine List.nodup_append.mpr ⟨R'.nd, nb2, fun x m y m' z => ?_⟩
        subst z
        rcases s.fr x m with z | z
        · exact dis x m' z
        · obtain ⟨⟨o, ho⟩, _⟩ := r2.there x m'
          rw [z] at ho; cases ho
      refine ⟨B', e1, F', g2, ds, R', r2', nd', FinG.shift h ?_ k⟩
      exact s.hold (fun x m => by rw [← List.append_assoc]; exact List.mem_append_right _ m) fun x m => by rw [← List.append_assoc]; exact List.mem_append_left _ m
    | err x e1 => rw [q] at h; exact h.elim
    | stuck => rw [q] at h; exact h.elim
theorem dpg_tup {es : List Expr} {k : Nat} {gs : List D → M Unit} {n : Nat} (hc : X.calm = true) (h : PGs X es (TGms X.K cl P gs)) (hn : (assignEach es X.env).length = n := by rfl) (hst : (assignEach es X.env).findIdx? (·.1) = none := by rfl) : PG X (.Tuple es k pos) (TGm X.K cl P (gTp n gs)) := by
  refine PG.weak (pg_tup hc h hn hst) fun v σ H Q h => ?_
  obtain ⟨B, e, F, f, d, R, r, nd, h⟩ := h
  unfold gTp at h
  split at h
  · rename_i o ds
    split at h
    · rename_i hl
      obtain ⟨a, us, hv, ha, f', q, sub⟩ : ∃ a us, v = .ref a ∧ SqT X.K H a us ∧ ∃ f', Reps X.K cl B H us ds f' ∧ f'.Sublist f := by
        cases r with
        | tupF hb q => exact ⟨_, _, rfl, R.ex.sqT hb, [], q, List.Sublist.refl _⟩
        | tupO hb b q => exact ⟨_, _, rfl, SqT.of hb, _, q, List.sublist_cons_self _ _⟩
      refine ⟨a, us, hv, ha, by rw [q.length]; exact hl, B, e, F, f', ds, R, q, nd.sublist (List.Sublist.append_left sub F), ?_⟩
      refine FinG.shift h (Step.refl.less fun x m => ?_) (Keep.refl P σ)
      rcases List.mem_append.mp m with m | m
      · exact List.mem_append_left _ m
      · exact List.mem_append_right _ (sub.subset m)
    · exact h.elim
  · exact h.elim
/-- target = value, the target no plain name -/
def mAsg (g : MG) (m : M OV) : MS := fun e => (m e).bind fun o e1 => match takeOne o e1 with
  | some (d, e2) => match g d e2 with
    | .ok _ e3 => .ok .nx e3
    | _ => .stuck
  | none => .stuck
theorem dps_asg {tg a : Expr} {W : WX} {ma : M OV} {g : MG} (he : PE X a (TV X.K cl W ma)) (hg : PG X tg (TGm X.K cl P g)) (hs : swapsWithSole [tg] a pos.line X.env = pure false := by rfl) (hw : swappedStores [tg] a X.env = pure none := by rfl)
    (h1 : (assignEach [tg] X.env).map (·.2) = [assign tg X.env] := by rfl) : PS X (.Assign [tg] a pos) (TSm X.K cl W P (mAsg g ma)) := by
  refine PS.weak (ps_asg he hg hs hw h1) fun D σ H h => ?_
  obtain ⟨B, e, F, R, h⟩ := h
  refine TS_go R h fun o e1 _ h1 v B1 H1 F1 f1 R1 r1 nd1 s1 => ?_
  cases q : takeOne o e1 with
  | none => simp only [q] at h1; exact h1.elim
  | some p =>
    obtain ⟨d, e2⟩ := p
    simp only [q] at h1
    obtain ⟨B2, F2, R2, q2, n2, s2, _⟩ := takeOne_ok R1 r1 nd1 q
    refine ⟨B2, e2, F2, f1, d, R2, q2, n2, ?_⟩
    cases q3 : g d e2 with
    | ok u e3 =>
      rw [q3] at h1
      exact fun σ' B' H' F' R' k s => h1 σ' B' H' F' R' k ((s1.trans s2).trans s)
    | err x e3 => rw [q3] at h1; exact h1.elim
    | stuck => rw [q3] at h1; exact h1.elim
end
end Dy
/-! Dy, part J: what is walked; for, while, comprehensions. -/
namespace Dy
open PySem PySem.Spec PyProof.Rows L2

/-- J yields the items ds one by one as long as G says of the frozen part that its source stands -/
structure IterOk (K : PySem.W.Frag) (cl : Cl) (J : It) (ds : List D) (G : Hp → Prop) : Prop where
  up : ∀ {B B'}, G B → Ex B B' → G B'
  go : ∀ {i B H}, Ex B H → G B → i < ds.length → J.go i H
  stop : ∀ {i B H}, Ex B H → G B → ds.length ≤ i → J.stop i H
  yld : ∀ {i x B H H' d}, Ex B H → G B → ds[i]? = some d → J.yld i H x H' → ∃ B', Rep K cl B' H' x d [] ∧ Loc B H B' H' []
def TIm (K : PySem.W.Frag) (cl : Cl) (W : WX) (m : M (List D)) : TI := fun σ H R => ∃ B e F, Rel K cl B H σ e F ∧ match m e with
  | .ok ds e' => ∀ J G B' H' F', Rel K cl B' H' σ e' F' → IterOk K cl J ds G → G B' → Step B H F B' H' F' → R J H'
  | .err x e' => ∀ c dd B' H' F', Rel K cl B' H' σ e' F' → Step B H F B' H' F' → ExcAt K cl B' H' c dd x → W c dd σ H'
  | .stuck => False
theorem PI.weak {X : Cx} {tg it : Expr} {t t' : TI} (h : PI X tg it t) (w : ∀ σ H R, t' σ H R → t σ H R) : PI X tg it t' := ⟨fun pins s σ H R I q => h.run pins s σ H R I (w σ H R q)⟩
/-- a list, a tuple, a text, whichever it is -/
def iAny (K : PySem.W.Frag) (tl : TE) : TI := fun σ H R => tl σ H fun x H1 => (∃ a, x = .ref a ∧ (∃ xs, SqL K H1 a xs) ∧ R (Itl K a) H1) ∨ (∃ a, x = .ref a ∧ (∃ xs, SqT K H1 a xs) ∧ R (Itt K a) H1) ∨ ∃ z, x = .str z ∧ R (Its z) H1
theorem pi_any {X : Cx} {tg l : Expr} {tl : TE} (hl : PE X l tl) : PI X tg l (iAny X.K tl) := by
  refine ⟨fun pins s σ H R I h => ?_⟩
  refine thn (hl.run pins s σ H _ I h) fun v s1 ⟨x, H1, I1, r1, q1⟩ => ?_
  rcases q1 with ⟨a, e, ⟨xs, hq⟩, q⟩ | ⟨a, e, ⟨xs, hq⟩, q⟩ | ⟨z, e, q⟩
  · subst e
    cases r1
    obtain ⟨its, rv, p, hz⟩ := I1.list hq
    refine wpAny_pyIter_list p.isList ?_
    refine ⟨s1.heap.objs.size, [s1.heap.objs.size], _, _, H1, rfl, I1.kept (t' := s1.toks) fun b o e => Heap.get?_push_of_some _ e, turn_list a _, ⟨_, Heap.get?_push_size _ rfl, rfl, rfl⟩, fun b hb => ?_, q⟩
    have e : b = s1.heap.objs.size := by simpa using hb
    subst e
    exact I1.fpOk (Nat.le_refl _) (I1.hok.fresh (Nat.le_refl _))
  · subst e
    cases r1
    obtain ⟨its, rv, p, hz⟩ := I1.tuple hq
    refine wpAny_pyIter_tuple (show s1.heap.IsTuple a its.toArray from p) ?_
    refine ⟨s1.heap.objs.size, [s1.heap.objs.size], _, _, H1, rfl, I1.kept (t' := s1.toks) fun b o e => Heap.get?_push_of_some _ e, turn_tuple a _, ⟨_, Heap.get?_push_size _ rfl, rfl, rfl⟩, fun b hb => ?_, q⟩
    have e : b = s1.heap.objs.size := by simpa using hb
    subst e
    exact I1.fpOk (Nat.le_refl _) (I1.hok.fresh (Nat.le_refl _))
  · subst e
    obtain ⟨t, rfl⟩ := r1
    cases ha : z.cps.all (· < 128)
    · exact wpAny_pyIter_wide ha (pi_one (tk := s1.toks) I1 _ (turn_str _ z t "str_iterator" (.inr rfl)) ⟨_, Heap.get?_push_size _ rfl, rfl, rfl⟩ q)
    · exact wpAny_pyIter_ascii ha (pi_one (tk := s1.toks) I1 _ (turn_str _ z t "str_ascii_iterator" (.inl rfl)) ⟨_, Heap.get?_push_size _ rfl, rfl, rfl⟩ q)
section
variable {K : PySem.W.Frag} {cl : Cl} {B H : Hp}
theorem iok_list {a : Addr} {vs : List V} {ds : List D} (r : Reps K cl B B vs ds []) : IterOk K cl (Itl K a) ds (fun B' => Ex B B' ∧ SqL K B' a vs) where
  up := fun ⟨h1, h2⟩ e => ⟨h1.trans e, e.sqL h2⟩
  go := fun {i B' H} ex ⟨h1, h2⟩ hi => by
    have hl : i < vs.length := by rw [r.length]; exact hi
    exact ⟨vs, vs[i], ex.sqL h2, by simp [hl]⟩
  stop := fun {i B' H} ex ⟨h1, h2⟩ hi => ⟨vs, ex.sqL h2, by rw [r.length]; exact hi⟩
  yld := fun {i x B' H H' d} ex ⟨h1, h2⟩ hd y => by
    obtain ⟨e, y⟩ := y
    subst e
    obtain ⟨v, g, hv, hr, sub, _⟩ := r.get hd
    have e0 := y vs (ex.sqL h2)
    rw [hv] at e0
    cases e0
    have g0 : g = [] := by
      cases g with
      | nil => rfl
      | cons a g => exact nomatch sub a List.mem_cons_self
    subst g0
    exact ⟨B', hr.up h1, Loc.refl ex⟩
theorem iok_tup {a : Addr} {vs : List V} {ds : List D} (r : Reps K cl B B vs ds []) : IterOk K cl (Itt K a) ds (fun B' => Ex B B' ∧ SqT K B' a vs) where
  up := fun ⟨h1, h2⟩ e => ⟨h1.trans e, e.sqT h2⟩
  go := fun {i B' H} ex ⟨h1, h2⟩ hi => by
    have hl : i < vs.length := by rw [r.length]; exact hi
    exact ⟨vs, vs[i], ex.sqT h2, by simp [hl]⟩
  stop := fun {i B' H} ex ⟨h1, h2⟩ hi => ⟨vs, ex.sqT h2, by rw [r.length]; exact hi⟩
  yld := fun {i x B' H H' d} ex ⟨h1, h2⟩ hd y => by
    obtain ⟨e, y⟩ := y
    subst e
    obtain ⟨v, g, hv, hr, sub, _⟩ := r.get hd
    have e0 := y vs (ex.sqT h2)
    rw [hv] at e0
    cases e0
    have g0 : g = [] := by
      cases g with
      | nil => rfl
      | cons a g => exact nomatch sub a List.mem_cons_self
    subst g0
    exact ⟨B', hr.up h1, Loc.refl ex⟩
theorem iok_str (x : Str) : IterOk K cl (Its x) (x.cps.toList.map fun c => .str ⟨#[c]⟩) (fun _ => True) where
  up := fun h _ => h
  go := fun {i B' H} ex _ hi => by
    have : i < x.cps.size := by simpa using hi
    exact this
  stop := fun {i B' H} ex _ hi => by
    have : x.cps.size ≤ i := by simpa using hi
    exact this
  yld := fun {i y B' H H' d} ex _ hd q => by
    obtain ⟨e, c, hc, hy⟩ := q
    subst e hy
    have e1 : x.cps.toList[i]? = some c := by simpa using hc
    rw [List.getElem?_map, e1] at hd
    cases hd
    exact ⟨B', .str, Loc.refl ex⟩
/-- lo, lo + c, .. : n of them -/
def rngD (lo c : Int) (n : Nat) : List D := (List.range n).map fun i => .int (lo + (i : Nat) * c)
theorem iok_rng (lo : Int) (n : Nat) : IterOk K cl (Itr lo n) (rngD lo 1 n) (fun _ => True) where
  up := fun h _ => h
  go := fun {i B' H} ex _ hi => by
    have q : i < n := by simpa [rngD] using hi
    exact q
  stop := fun {i B' H} ex _ hi => by
    have q : n ≤ i := by simpa [rngD] using hi
    exact q
  yld := fun {i y B' H H' d} ex _ hd q => by
    obtain ⟨e, hy⟩ := q
    subst e hy
    unfold rngD at hd
    rw [List.getElem?_map] at hd
    cases q : (List.range n)[i]? with
    | none => rw [q] at hd; cases hd
    | some j =>
      rw [q] at hd
      cases hd
      have : j = i := by
        obtain ⟨h1, h2⟩ := List.getElem?_eq_some_iff.mp q
        rw [← h2, List.getElem_range]
      subst this
      simp only [Int.mul_one]
      exact ⟨B', .int, Loc.refl ex⟩
theorem iok_rngC (lo c : Int) (n : Nat) : IterOk K cl (Itc lo c n) (rngD lo c n) (fun _ => True) where
  up := fun h _ => h
  go := fun {i B' H} ex _ hi => by
    have q : i < n := by simpa [rngD] using hi
    exact q
  stop := fun {i B' H} ex _ hi => by
    have q : n ≤ i := by simpa [rngD] using hi
    exact q
  yld := fun {i y B' H H' d} ex _ hd q => by
    obtain ⟨e, hy⟩ := q
    subst e hy
    unfold rngD at hd
    rw [List.getElem?_map] at hd
    cases q : (List.range n)[i]? with
    | none => rw [q] at hd; cases hd
    | some j =>
      rw [q] at hd
      cases hd
      have : j = i := by
        obtain ⟨h1, h2⟩ := List.getElem?_eq_some_iff.mp q
        rw [← h2, List.getElem_range]
      subst this
      exact ⟨B', .int, Loc.refl ex⟩
end
/-- what is walked is frozen first -/
def takeFz (o : OV) (e : En) : Option (D × En) := (takeOne o e).map fun p => (p.1.fr, p.2)
def itemsD : D → Option (List D)
  | .lst _ xs => some xs
  | .lok xs => some xs
  | .tup _ xs => some xs
  | .str x => some (x.cps.toList.map fun c => .str ⟨#[c]⟩)
  | _ => none
def mIter (m : M OV) : M (List D) := fun e => (m e).bind fun o e1 => match takeFz o e1 with
  | some (d, e2) => match itemsD d with
    | some ds => if D.isFzL ds = true then .ok ds e2 else .stuck
    | none => .stuck
  | none => .stuck
theorem takeFz_ok {K : PySem.W.Frag} {cl : Cl} {B H : Hp} {F f : List Addr} {σ : L2.St} {e e' : En} {o : OV} {v : V} {d : D} (R : Rel K cl B H σ e F) (r : rOV K cl σ B H v o f) (nd : (F ++ f).Nodup) (h : takeFz o e = some (d, e')) :
    ∃ B' F', Rel K cl B' H σ e' F' ∧ Rep K cl B' H v d [] ∧ Step B H (F ++ f) B' H F' := by
  unfold takeFz at h
  cases q : takeOne o e with
  | none => rw [q] at h; cases h
  | some p =>
    obtain ⟨d0, e1⟩ := p
    rw [q] at h
    cases h
    obtain ⟨B1, F1, R1, r1, n1, s1, _⟩ := takeOne_ok R r nd q
    obtain ⟨R2, r2, s2⟩ := R1.frz r1 n1
    exact ⟨_, F1, R2, r2, s1.trans s2⟩
section
variable {X : Cx} {cl : Cl} {W : WX} {P : List Nat} {tg l : Expr} {m : M OV} {pos p : Pos}
theorem dpi_any (h : PE X l (TV X.K cl W m)) : PI X tg l (TIm X.K cl W (mIter m)) := by
  refine PI.weak (pi_any h) fun σ H R' h => ?_
  obtain ⟨B, e, F, R, h⟩ := h
  refine ⟨B, e, F, R, ?_⟩
  unfold mIter at h
  cases q : m e with
  | err x e1 => rw [q] at h; exact h
  | stuck => rw [q] at h; exact h
  | ok o e1 =>
    rw [q] at h
    intro v B1 H1 F1 f1 R1 r1 nd1 s1
    simp only [bind_ok] at h
    cases q1 : takeFz o e1 with
    | none => simp only [q1] at h
    | some p =>
      obtain ⟨d, e2⟩ := p
      simp only [q1] at h
      obtain ⟨B2, F2, R2, r2, s2⟩ := takeFz_ok R1 r1 nd1 q1
      cases q2 : itemsD d with
      | none => simp only [q2] at h
      | some ds =>
        simp only [q2] at h
        by_cases hf : D.isFzL ds = true
        · rw [if_pos hf] at h
          unfold itemsD at q2
          split at q2
          · cases q2
            cases r2 with
            | lstF hb rr => exact .inl ⟨_, rfl, ⟨_, SqL.of (R2.ex _ _ hb)⟩, h _ _ B2 H1 F2 R2 (iok_list (B := B2) (rr.up (Ex.refl _))) ⟨Ex.refl _, SqL.of hb⟩ (s1.trans s2)⟩
          · cases q2
            cases r2 with
            | lok hb rr => exact .inl ⟨_, rfl, ⟨_, R2.ex.sqL hb⟩, h _ _ B2 H1 F2 R2 (iok_list (B := B2) (rr.up (Ex.refl _))) ⟨Ex.refl _, hb⟩ (s1.trans s2)⟩
          · cases q2
            cases r2 with
            | tupF hb rr => exact .inr (.inl ⟨_, rfl, ⟨_, R2.ex.sqT hb⟩, h _ _ B2 H1 F2 R2 (iok_tup (B := B2) (rr.up (Ex.refl _))) ⟨Ex.refl _, hb⟩ (s1.trans s2)⟩)
          · cases q2
            exact .inr (.inr ⟨_, r2.str_inv, h _ _ B2 H1 F2 R2 (iok_str _) True.intro (s1.trans s2)⟩)
          · cases q2
        · rw [if_neg hf] at h; exact h.elim
end

/-! ### range -/
def mRng1 (m : M OV) : M (List D) := fun e => (mInt m e).bind fun j e1 => if -1000000 ≤ j ∧ j ≤ 3000000 then .ok (rngD 0 1 j.toNat) e1 else .stuck
def mRng2 (m n : M OV) : M (List D) := fun e => (mInt m e).bind fun i e1 => (mInt n e1).bind fun j e2 => if -1000000 ≤ i ∧ i ≤ 3000000 ∧ -1000000 ≤ j ∧ j ≤ 3000000 then .ok (rngD i 1 (j - i).toNat) e2 else .stuck
section
variable {X : Cx} {cl : Cl} {W : WX} {P : List Nat} {tg a b : Expr} {ma mb : M OV} {pos p : Pos}
theorem dpi_range1 (hm : X.mg "range" = none) (ha : PE X a (TV X.K cl W ma)) (hg : Gl X "range" := by rfl) (hs : starEach [a] X.env = [(false, eval a X.env)] := by rfl) : PI X tg (.Call (.Name "range" p) [a] [] pos) (TIm X.K cl W (mRng1 ma)) := by
  refine PI.weak (pi_range1 hg hm (pa_cons ha pa_nil hs) hs) fun σ H R' h => ?_
  obtain ⟨B, e, F, R, h⟩ := h
  have key : T X.K cl W rIn' (mInt ma) σ H fun j H1 => ∃ i : Int, [V.int j] = [V.int i] ∧ -(2 ^ 62) ≤ i ∧ i < 2 ^ 62 ∧ R' (Itr 0 i.toNat) H1 := by
    refine ⟨B, e, F, R, ?_⟩
    unfold mRng1 at h
    cases q : mInt ma e with
    | err x e1 => rw [q] at h; exact h
    | stuck => rw [q] at h; exact h
    | ok j e1 =>
      rw [q] at h
      intro v B1 H1 F1 f1 R1 r1 nd1 s1
      obtain ⟨rfl, rfl⟩ := r1
      rw [List.append_nil] at s1
      simp only [bind_ok] at h
      by_cases hj : -1000000 ≤ v ∧ v ≤ 3000000
      · rw [if_pos hj] at h
        exact ⟨v, rfl, by omega, by omega, h _ _ B1 H1 F1 R1 (iok_rng 0 v.toNat) True.intro s1⟩
      · rw [if_neg hj] at h; exact h.elim
  have h2 := T_int key
  exact h2.mono fun x H1 ⟨i, hx, i2, e2, q1, q2, q3⟩ => by
    subst hx
    exact ⟨i2, e2, q1, q2, q3⟩
theorem dpi_range2 (hm : X.mg "range" = none) (ha : PE X a (TV X.K cl W ma)) (hb : PE X b (TV X.K cl W mb)) (hg : Gl X "range" := by rfl) (hs : starEach [a, b] X.env = [(false, eval a X.env), (false, eval b X.env)] := by rfl) (hs2 : starEach [b] X.env = [(false, eval b X.env)] := by rfl) :
    PI X tg (.Call (.Name "range" p) [a, b] [] pos) (TIm X.K cl W (mRng2 ma mb)) := by
  refine PI.weak (pi_range2 hg hm (pa_cons ha (pa_cons hb pa_nil hs2) (by rw [hs, hs2])) hs hs2) fun σ H R' h => ?_
  obtain ⟨B, e, F, R, h⟩ := h
  have key : T X.K cl W rIn' (mInt ma) σ H fun i H1 => T X.K cl W rIn' (mInt mb) σ H1 fun j H2 => -(2 ^ 62) ≤ i ∧ i < 2 ^ 62 ∧ -(2 ^ 62) ≤ j ∧ j < 2 ^ 62 ∧ R' (Itr i (j - i).toNat) H2 := by
    refine ⟨B, e, F, R, ?_⟩
    unfold mRng2 at h
    cases q : mInt ma e with
    | err x e1 => rw [q] at h; exact h
    | stuck => rw [q] at h; exact h
    | ok i e1 =>
      rw [q] at h
      intro v B1 H1 F1 f1 R1 r1 nd1 s1
      obtain ⟨rfl, rfl⟩ := r1
      rw [List.append_nil] at s1
      simp only [bind_ok] at h
      refine ⟨B1, e1, F1, R1, ?_⟩
      cases q2 : mInt mb e1 with
      | err x e2 =>
        rw [q2] at h
        exact fun c dd B' H' F' R t q => h c dd B' H' F' R (s1.trans t) q
      | stuck => rw [q2] at h; exact h
      | ok j e2 =>
        rw [q2] at h
        intro u B2 H2 F2 f2 R2 r2 nd2 s2
        obtain ⟨rfl, rfl⟩ := r2
        rw [List.append_nil] at s2
        simp only [bind_ok] at h
        by_cases hj : -1000000 ≤ v ∧ v ≤ 3000000 ∧ -1000000 ≤ u ∧ u ≤ 3000000
        · rw [if_pos hj] at h
          exact ⟨by omega, by omega, by omega, by omega, h _ _ B2 H2 F2 R2 (iok_rng v (u - v).toNat) True.intro (s1.trans s2)⟩
        · rw [if_neg hj] at h; exact h.elim
  refine (T_int key).mono fun x H1 ⟨i, hx, h1⟩ => ?_
  subst hx
  refine (T_int h1).mono fun y H2 ⟨j, hy, q1, q2, q3, q4, q5⟩ => ?_
  subst hy
  exact ⟨i, j, rfl, ⟨q1, q2, q3, q4⟩, q5⟩
end
/-! ### for -/
def forGo (g : MG) (body : MS) : List D → MS
  | [] => fun e => .ok .nx e
  | d :: r => fun e => match g d e with
    | .ok _ e1 => match body e1 with
      | .ok .nx e2 => forGo g body r e2
      | .ok .ct e2 => forGo g body r e2
      | .ok .bk e2 => .ok .nx e2
      | .ok (.rt z) e2 => .ok (.rt z) e2
      | .err x e2 => .err x e2
      | .stuck => .stuck
    | _ => .stuck
def mFor (mi : M (List D)) (g : MG) (body : MS) : MS := fun e => (mi e).bind fun ds e1 => forGo g body ds e1
section
variable {X : Cx} {cl : Cl} {W : WX} {P : List Nat} {tg it : Expr} {mi : M (List D)} {g : MG} {m : MS} {pos p : Pos} {body : List Stmt}
theorem for_ok {K : PySem.W.Frag} {σ : L2.St} {H : Hp} {Dn : Ends} (h : TSm K cl W P (mFor mi g m) Dn σ H) : tFor (TIm K cl W mi) (TGm K cl P g) (TSm K cl W P m) Dn σ H := by
  obtain ⟨B, e, F, R, h⟩ := h
  refine ⟨B, e, F, R, ?_⟩
  unfold mFor at h
  cases q : mi e with
  | err x e1 =>
    rw [q] at h
    exact fun c dd B' H' F' R t z => h σ c dd B' H' F' R (Keep.refl P σ) t z
  | stuck => rw [q] at h; exact h
  | ok ds e1 =>
    rw [q] at h
    intro J G B1 H1 F1 R1 ok g1 s1
    simp only [bind_ok] at h
    refine ⟨fun i k σ' H' => k = ds.length - i ∧ i ≤ ds.length ∧ ∃ B' e' F', Rel K cl B' H' σ' e' F' ∧ G B' ∧ FinS K cl W P σ' B' H' F' (forGo g m (ds.drop i) e') Dn, ⟨_, rfl, Nat.zero_le _, B1, e1, F1, R1, g1, FinS.shift h s1 (Keep.refl P σ)⟩, ?_⟩
    rintro i k σ2 H2 ⟨rfl, hi, B2, e2, F2, R2, g2, h2⟩
    by_cases hlt : i < ds.length
    · have ed : ds.drop i = ds[i] :: ds.drop (i + 1) := List.drop_eq_getElem_cons hlt
      have hd : ds[i]? = some ds[i] := by simp [hlt]
      generalize ds[i] = d at ed hd
      rw [ed] at h2
      refine .inr ⟨ok.go R2.ex g2 hlt, fun σ' H' => i + 1 ≤ ds.length ∧ ∃ B' e' F', Rel K cl B' H' σ' e' F' ∧ G B' ∧ FinS K cl W P σ' B' H' F' (forGo g m (ds.drop (i + 1)) e') Dn, fun σ' H' ⟨h1, h3⟩ => ⟨ds.length - (i + 1), by omega, rfl, h1, h3⟩, fun x H3 y => ?_⟩
      obtain ⟨B3, rx, l⟩ := ok.yld R2.ex g2 hd y
      have R3 := R2.loc l
      have s3 := l.step F2
      rw [List.append_nil] at s3
      refine ⟨B3, e2, F2, [], d, R3, rx, by rw [List.append_nil]; exact R3.nd, ?_⟩
      rw [List.append_nil]
      unfold forGo at h2
      cases qg : g d e2 with
      | err x e3 => simp only [qg] at h2; exact h2.elim
      | stuck => simp only [qg] at h2; exact h2.elim
      | ok u e3 =>
        simp only [qg] at h2
        intro σ4 B4 H4 F4 R4 k4 s4
        refine ⟨B4, e3, F4, R4, ?_⟩
        have st := s3.trans s4
        have gB : ∀ {B' H' F'}, Step B4 H4 F4 B' H' F' → G B' := fun s => ok.up (ok.up (ok.up g2 l.b) s4.b) s.b
        cases qb : m e3 with
        | ok fl e4 =>
          simp only [qb] at h2
          cases fl with
          | nx => exact fun σ' B' H' F' R' k' s' => ⟨hlt, B', e4, F', R', gB s', FinS.shift h2 (st.trans s') (k4.trans k')⟩
          | ct => exact fun σ' B' H' F' R' k' s' => ⟨hlt, B', e4, F', R', gB s', FinS.shift h2 (st.trans s') (k4.trans k')⟩
          | bk => exact FinS.shift (r := .ok .nx e4) h2 st k4
          | rt z => exact FinS.shift (r := .ok (.rt z) e4) h2 st k4
        | err x e4 =>
          simp only [qb] at h2
          exact FinS.shift (r := .err x e4) h2 st k4
        | stuck => simp only [qb] at h2; exact h2
    · have e0 : ds.drop i = [] := List.drop_eq_nil_of_le (by omega)
      rw [e0] at h2
      exact .inl ⟨ok.stop R2.ex g2 (by omega), h2 σ2 B2 H2 F2 R2 (Keep.refl P σ2) Step.refl⟩
theorem dps_for (hp : PassesOwn (model X.prog X.w) X.A X.env X.xe) (hc : X.calm = true) (hi : PI X tg it (TIm X.K cl W mi)) (hg : PG X tg (TGm X.K cl P g)) (hb : PSs X body (TSm X.K cl W P m)) (hs : ∀ x, foldedSetIterable it X.env x = pure x := by intro _; rfl) :
    PS X (.For tg it body [] pos) (TSm X.K cl W P (mFor mi g m)) := PS.weak (ps_for hp hc hi hg hb hs) fun _ _ _ h => for_ok h
end
/-! ### while -/
def whileF (t : M Bool) (b : MS) : Nat → En → Option (Res Fl)
  | 0, _ => none
  | n + 1, e => match t e with
    | .ok true e1 => match b e1 with
      | .ok .nx e2 => whileF t b n e2
      | .ok .ct e2 => whileF t b n e2
      | .ok .bk e2 => some (.ok .nx e2)
      | .ok (.rt z) e2 => some (.ok (.rt z) e2)
      | .err x e2 => some (.err x e2)
      | .stuck => some .stuck
    | .ok false e1 => some (.ok .nx e1)
    | .err x e1 => some (.err x e1)
    | .stuck => some .stuck
open Classical in
noncomputable def mWhile (t : M Bool) (b : MS) : MS := fun e => if h : ∃ n, (whileF t b n e).isSome then (whileF t b h.choose e).get h.choose_spec else .stuck
theorem whileF_mono {t : M Bool} {b : MS} : ∀ {n : Nat} {e : En} {r : Res Fl} (k : Nat), whileF t b n e = some r → whileF t b (n + k) e = some r
  | 0, _, _, _, h => by cases h
  | n + 1, e, r, k, h => by
    have en : n + 1 + k = (n + k) + 1 := by omega
    rw [en]
    unfold whileF at h ⊢
    split at h
    · split at h
      · exact whileF_mono k h
      · exact whileF_mono k h
      · exact h
      · exact h
      · exact h
      · exact h
    · exact h
    · exact h
    · exact h
theorem mWhile_eq {t : M Bool} {b : MS} {e : En} {r : Res Fl} {n : Nat} (h : whileF t b n e = some r) : mWhile t b e = r := by
  have hx : ∃ n, (whileF t b n e).isSome := ⟨n, by rw [h]; rfl⟩
  unfold mWhile
  rw [dif_pos hx]
  have h1 := hx.choose_spec
  obtain ⟨r', h2⟩ := Option.isSome_iff_exists.mp h1
  have h3 := whileF_mono n h2
  have h4 := whileF_mono hx.choose h
  rw [Nat.add_comm] at h4
  rw [h3] at h4
  cases h4
  simp [h2]
/-- one turn -/
theorem mWhile_step (t : M Bool) (b : MS) (e : En) : mWhile t b e = (match t e with
    | .ok true e1 => match b e1 with
      | .ok .nx e2 => mWhile t b e2
      | .ok .ct e2 => mWhile t b e2
      | .ok .bk e2 => .ok .nx e2
      | .ok (.rt z) e2 => .ok (.rt z) e2
      | .err x e2 => .err x e2
      | .stuck => .stuck
    | .ok false e1 => .ok .nx e1
    | .err x e1 => .err x e1
    | .stuck => .stuck) := by
  have sub : ∀ e2, (∀ n, whileF t b (n + 1) e = whileF t b n e2) → mWhile t b e = mWhile t b e2 := by
    intro e2 hs
    by_cases hx : ∃ n, (whileF t b n e2).isSome
    · obtain ⟨n, hn⟩ := hx
      obtain ⟨r, hr⟩ := Option.isSome_iff_exists.mp hn
      rw [mWhile_eq hr, mWhile_eq (n := n + 1) (by rw [hs]; exact hr)]
    · have hy : ¬ ∃ n, (whileF t b n e).isSome := by
        rintro ⟨n, hn⟩
        cases n with
        | zero => cases hn
        | succ n => rw [hs] at hn; exact hx ⟨n, hn⟩
      unfold mWhile
      rw [dif_neg hx, dif_neg hy]
  have one : ∀ r, whileF t b 1 e = some r → mWhile t b e = r := fun r h => mWhile_eq h
  cases q : t e with
  | ok c e1 =>
    cases c with
    | true =>
      cases q2 : b e1 with
      | ok f e2 =>
        cases f with
        | nx => simp only [q2]; exact sub e2 fun n => by simp only [whileF, q, q2]
        | ct => simp only [q2]; exact sub e2 fun n => by simp only [whileF, q, q2]
        | bk => simp only [q2]; exact one _ (by simp only [whileF, q, q2])
        | rt z => simp only [q2]; exact one _ (by simp only [whileF, q, q2])
      | err x e2 => simp only [q2]; exact one _ (by simp only [whileF, q, q2])
      | stuck => simp only [q2]; exact one _ (by simp only [whileF, q, q2])
    | false => exact one _ (by simp only [whileF, q])
  | err x e1 => exact one _ (by simp only [whileF, q])
  | stuck => exact one _ (by simp only [whileF, q])
section
variable {X : Cx} {cl : Cl} {W : WX} {P : List Nat} {c : Expr} {t : M Bool} {m : MS} {pos p : Pos} {body : List Stmt}
theorem while_ok {K : PySem.W.Frag} {σ : L2.St} {H : Hp} {Dn : Ends} (h : TSm K cl W P (mWhile t m) Dn σ H) : tWhile (TB K cl W t) (TSm K cl W P m) Dn σ H := by
  obtain ⟨B, e, F, R, h⟩ := h
  by_cases hx : ∃ n, (whileF t m n e).isSome
  · obtain ⟨n, hn⟩ := hx
    obtain ⟨r, hr⟩ := Option.isSome_iff_exists.mp hn
    rw [mWhile_eq hr] at h
    refine ⟨fun k σ' H' => ∃ B' e' F' r', Rel K cl B' H' σ' e' F' ∧ whileF t m k e' = some r' ∧ FinS K cl W P σ' B' H' F' r' Dn, ⟨n, B, e, F, r, R, hr, h⟩, ?_⟩
    rintro k σ1 H1 ⟨B1, e1, F1, r1, R1, hr1, h1⟩
    cases k with
    | zero => cases hr1
    | succ k =>
      refine ⟨B1, e1, F1, R1, ?_⟩
      unfold whileF at hr1
      cases q : t e1 with
      | err x e2 =>
        simp only [q] at hr1
        cases hr1
        exact fun c dd B' H' F' R t z => h1 σ1 c dd B' H' F' R (Keep.refl P σ1) t z
      | stuck =>
        simp only [q] at hr1
        cases hr1
        exact h1
      | ok b e2 =>
        intro v B2 H2 F2 f2 R2 r2 nd2 s2
        obtain ⟨rfl, rfl⟩ := r2
        rw [List.append_nil] at s2
        cases v with
        | false =>
          simp only [q] at hr1
          cases hr1
          rw [if_neg Bool.false_ne_true]
          exact h1 σ1 B2 H2 F2 R2 (Keep.refl P σ1) s2
        | true =>
          simp only [q] at hr1
          rw [if_pos rfl]
          refine ⟨fun σ' H' => ∃ B' e' F' r', Rel K cl B' H' σ' e' F' ∧ whileF t m k e' = some r' ∧ FinS K cl W P σ' B' H' F' r' Dn, fun σ' H' w => ⟨k, Nat.lt_succ_self _, w⟩, B2, e2, F2, R2, ?_⟩
          cases q2 : m e2 with
          | ok f e3 =>
            simp only [q2] at hr1
            cases f with
            | nx => exact fun σ' B' H' F' R' k' s' => ⟨B', e3, F', r1, R', hr1, FinS.shift h1 (s2.trans s') k'⟩
            | ct => exact fun σ' B' H' F' R' k' s' => ⟨B', e3, F', r1, R', hr1, FinS.shift h1 (s2.trans s') k'⟩
            | bk =>
              cases hr1
              exact fun σ' B' H' F' R' k' s' => h1 σ' B' H' F' R' k' (s2.trans s')
            | rt z =>
              cases hr1
              exact fun σ' v B' H' F' f R' rv nd k' s' => h1 σ' v B' H' F' f R' rv nd k' (s2.trans s')
          | err x e3 =>
            simp only [q2] at hr1
            cases hr1
            exact fun σ' c dd B' H' F' R' k' s' z => h1 σ' c dd B' H' F' R' k' (s2.trans s') z
          | stuck =>
            simp only [q2] at hr1
            cases hr1
            exact h1
  · unfold mWhile at h
    rw [dif_neg hx] at h
    exact h.elim
theorem dps_while (hp : PassesOwn (model X.prog X.w) X.A X.env X.xe) (hc : PT X c (TB X.K cl W t)) (hb : PSs X body (TSm X.K cl W P m)) : PS X (.While c body [] pos) (TSm X.K cl W P (mWhile t m)) := PS.weak (ps_while hp hc hb) fun _ _ _ h => while_ok h
end
end Dy
/-! Dy, part K: list comprehensions; lists that are changed. -/
namespace Dy
open PySem PySem.Spec PyProof.Rows L2

section
variable {K : PySem.W.Frag} {cl : Cl} {B B' H H' : Hp} {F f : List Addr} {σ : L2.St} {e e' : En}
/-- an empty slot stands for anything -/
theorem RepE.free : ∀ {σ : List (Option V)} {e : En} {F : List Addr} {i : Nat} (x : Option V), RepE K cl B H σ e F → (e[i]?).join = Option.none → RepE K cl B H (σ.set i x) e F
  | _, _, _, _, _, .nil, _ => by simp; exact .nil
  | _, _, _, 0, _, .none r, _ => .none r
  | _, _, _, i + 1, x, .none r, h => .none (RepE.free x r (by simpa using h))
  | _, _, _, 0, _, .some r t, h => by simp at h
  | _, _, _, i + 1, x, .some r t, h => .some r (RepE.free x t (by simpa using h))
theorem Rel.drop (R : Rel K cl B H σ e F) (i : Nat) (x : Option V) : ∃ g, Rel K cl B H (σ.set i x) (e.set i none) g ∧ ∀ a ∈ g, a ∈ F := by
  obtain ⟨f, g, hp, re⟩ := R.rep.drop i
  have hn : ((e.set i none)[i]?).join = none := by
    by_cases hi : i < e.length
    · simp [hi]
    · simp [hi]
  exact ⟨g, ⟨re.free x hn, (List.nodup_append.mp (hp.nodup_iff.mp R.nd)).2.1, R.ex⟩, fun a m => hp.mem_iff.mpr (List.mem_append_right _ m)⟩
def wipeE (e : En) : List Nat → En
  | [] => e
  | v :: vs => (wipeE e vs).set v none
def restE (e : En) : List Nat → En → En
  | [], e' => e'
  | v :: vs, e' => restE e vs (e'.set v (e[v]?).join)
theorem Rel.wipe (R : Rel K cl B H σ e F) : ∀ vs : List Nat, ∃ g, Rel K cl B H (L2.wipe σ vs) (wipeE e vs) g ∧ ∀ a ∈ g, a ∈ F
  | [] => ⟨F, R, fun _ m => m⟩
  | v :: vs => by
    obtain ⟨g, R1, s1⟩ := Rel.wipe R vs
    obtain ⟨g2, R2, s2⟩ := R1.drop v none
    exact ⟨g2, R2, fun a m => s1 a (s2 a m)⟩
/-- what stands in a slot is frozen, or nothing stands there -/
def fzAt (e : En) (i : Nat) : Bool := match (e[i]?).join with
  | some d => d.isFz
  | none => true
theorem Rel.rest (R : Rel K cl B H σ e F) (eB : Ex B B') : ∀ {vs : List Nat} {e' : En} {g : List Addr}, vs.Nodup → (∀ v ∈ vs, fzAt e v = true) → Rel K cl B' H' (L2.wipe σ vs) e' g → ∃ g', Rel K cl B' H' σ (restE e vs e') g' ∧ ∀ a ∈ g', a ∈ g
  | [], e', g, _, _, R' => ⟨g, R', fun _ m => m⟩
  | v :: vs, e', g, nd, hf, R' => by
    obtain ⟨nv, nd⟩ := List.nodup_cons.mp nd
    have R1 : Rel K cl B' H' ((L2.wipe σ vs).set v none) e' g := R'
    obtain ⟨g1, R2, s2⟩ := R1.drop v ((L2.wipe σ vs)[v]?).join
    have e1 : ((L2.wipe σ vs).set v none).set v ((L2.wipe σ vs)[v]?).join = L2.wipe σ vs := by
      rw [List.set_set]
      cases q : (L2.wipe σ vs)[v]? with
      | none =>
        have := List.getElem?_eq_none_iff.mp q
        rw [List.set_eq_of_length_le this]
      | some x => exact set_same q
    rw [e1] at R2
    have hv := hf v List.mem_cons_self
    unfold fzAt at hv
    cases q : (e[v]?).join with
    | none =>
      obtain ⟨g', R3, s3⟩ := Rel.rest R eB nd (fun w m => hf w (List.mem_cons_of_mem _ m)) R2
      unfold restE
      rw [q]
      exact ⟨g', R3, fun a m => s2 a (s3 a m)⟩
    | some d =>
      rw [q] at hv
      have hd : e[v]? = some (some d) := by
        cases q2 : e[v]? with
        | none => rw [q2] at q; cases q
        | some y => rw [q2] at q; simp at q; rw [q]
      obtain ⟨u, f0, _, hu, hr, _, _⟩ := R.rep.take hd
      have f00 := Rep.nil hr hv
      subst f00
      have hw : (L2.wipe σ vs)[v]? = some (some u) := by rw [wipe_out nv]; exact hu
      have hl : v < (e'.set v none).length := by
        have h1 := R2.rep.length
        rw [← h1]
        exact (List.getElem?_eq_some_iff.mp hw).1
      obtain ⟨F3, p3, re3⟩ := R2.rep.put' (i := v) (by simp at hl; simp [hl]) hw (hr.up eB)
      rw [List.set_set] at re3
      have R3 : Rel K cl B' H' (L2.wipe σ vs) (e'.set v (some d)) F3 := ⟨re3, p3.nodup_iff.mpr (by simpa using R2.nd), R2.ex⟩
      obtain ⟨g', R4, s4⟩ := Rel.rest R eB nd (fun w m => hf w (List.mem_cons_of_mem _ m)) R3
      unfold restE
      rw [q]
      exact ⟨g', R4, fun a m => s2 a (by simpa using p3.mem_iff.mp (s4 a m))⟩
/-- an owned object is changed -/
theorem Step.upd {p : Addr} {o : HO} (m : p ∈ F) (hp : ∃ u, H p = some u) : Step B H F B (L2.upd H p o) F where
  b := Ex.refl B
  keep := fun a u e n => by rw [upd_ne fun z => n (by rw [z]; exact m)]; exact e
  nb := fun _ e n => absurd e n
  fr := fun a m => .inl m
  live := fun a e => by
    by_cases h : a = p
    · rw [h, upd_same] at e; cases e
    · rw [upd_ne h] at e; exact e
theorem Ex.upd {p : Addr} {o : HO} (ex : Ex B H) (h : B p = Option.none) : Ex B (L2.upd H p o) := fun a u e => by
  rw [upd_ne (ne_of_none e h)]
  exact ex a u e
theorem Rel.upd {p : Addr} {o : HO} (R : Rel K cl B H σ e F) (n : p ∉ F) (h : B p = Option.none) : Rel K cl B (L2.upd H p o) σ e F :=
  ⟨R.rep.mono (Ex.refl B) (fun a m u hu => by rw [upd_ne fun z => n (by rw [← z]; exact m)]; exact hu) fun a m => (R.there m).2, R.nd, R.ex.upd h⟩
theorem Rep.updH {p : Addr} {o : HO} {v : V} {d : D} (r : Rep K cl B H v d f) (n : p ∉ f) : Rep K cl B (L2.upd H p o) v d f :=
  r.mono (Ex.refl B) (fun a m u hu => by rw [upd_ne fun z => n (by rw [← z]; exact m)]; exact hu) fun a m => (r.there a m).2
theorem Reps.updH {p : Addr} {o : HO} {v : List V} {d : List D} (r : Reps K cl B H v d f) (n : p ∉ f) : Reps K cl B (L2.upd H p o) v d f :=
  r.mono (Ex.refl B) (fun a m u hu => by rw [upd_ne fun z => n (by rw [← z]; exact m)]; exact hu) fun a m => (r.there a m).2
theorem Rep.own_inv {v : V} {ds : List D} (r : Rep K cl B H v (.lst true ds) f) : ∃ a us g, v = .ref a ∧ f = a :: g ∧ H a = some (.lst us) ∧ B a = none ∧ Reps K cl B H us ds g := by
  cases r with
  | lstO h b r => exact ⟨_, _, _, rfl, rfl, h, b, r⟩
end
/-! ### list comprehensions -/
def lcGo (vs : List Nat) (g : MG) (tt : M Bool) (te : M OV) : List D → List D → En → Res (List D)
  | [], acc, e => .ok acc e
  | d :: r, acc, e => match g d e with
    | .ok _ e1 => match tt e1 with
      | .ok true e2 => match te e2 with
        | .ok o e3 => match takeOne o e3 with
          | some (z, e4) => if acc.length < 1000000 then lcGo vs g tt te r (acc ++ [z]) (wipeE e4 vs) else .stuck
          | none => .stuck
        | _ => .stuck
      | .ok false e2 => lcGo vs g tt te r acc (wipeE e2 vs)
      | _ => .stuck
    | _ => .stuck
def mLc (vs : List Nat) (mi : M (List D)) (g : MG) (tt : M Bool) (te : M OV) : M OV := fun e => (mi e).bind fun ds e1 =>
  if (vs.all fun v => fzAt e1 v) = true then match lcGo vs g tt te ds [] (wipeE e1 vs) with
    | .ok acc e2 => .ok (.tm (.lst true acc)) (restE e1 vs e2)
    | _ => .stuck
  else .stuck
/-- the slots other than these -/
def others (n : Nat) (vs : List Nat) : List Nat := (List.range n).filter fun i => !vs.contains i
def W0 : WX := fun _ _ _ _ => False
theorem wipe_get {σ : L2.St} {vs : List Nat} {i : Nat} (h : i ∈ vs) (hi : i < σ.length) : (L2.wipe σ vs)[i]? = some none := by
  induction vs with
  | nil => cases h
  | cons v vs ih =>
    unfold L2.wipe
    by_cases hv : v = i
    · subst hv
      rw [List.getElem?_set_self (by rw [wipe_length]; exact hi)]
    · rw [List.getElem?_set_ne hv]
      exact ih (by rcases List.mem_cons.mp h with z | z; exact absurd z.symm hv; exact z)
theorem wipe_eq {σ σ' : L2.St} {vs : List Nat} {n : Nat} (hn : σ.length = n) (k : Keep (others n vs) (L2.wipe σ vs) σ') : L2.wipe σ' vs = L2.wipe σ vs := by
  have hl : σ'.length = σ.length := by rw [k.1, wipe_length]
  apply List.ext_getElem?
  intro i
  by_cases hi : i < σ.length
  · by_cases hv : i ∈ vs
    · rw [wipe_get hv (by rw [hl]; exact hi), wipe_get hv hi]
    · rw [wipe_out hv]
      exact k.2 i (List.mem_filter.mpr ⟨List.mem_range.mpr (by rw [← hn]; exact hi), by simpa using hv⟩)
  · rw [List.getElem?_eq_none (by rw [wipe_length, hl]; omega), List.getElem?_eq_none (by rw [wipe_length]; omega)]
section
variable {X : Cx} {cl : Cl} {W : WX} {K : PySem.W.Frag} {vs : List Nat} {mi : M (List D)} {g : MG} {tt : M Bool} {te : M OV} {n : Nat}
theorem lc_ok {σ : L2.St} {H : Hp} {Q : VK} (hnd : vs.Nodup) (hn : ∀ B H F e, Rel K cl B H σ e F → σ.length = n) (h : TV K cl W (mLc vs mi g tt te) σ H Q) : tLc (TIm K cl W mi) (TGm K cl (others n vs) g) (TB K cl W0 tt) (TV K cl W0 te) vs σ H Q := by
  obtain ⟨B, e, F, R, h⟩ := h
  have hlen := hn _ _ _ _ R
  refine ⟨B, e, F, R, ?_⟩
  unfold mLc at h
  cases q : mi e with
  | err x e1 => rw [q] at h; exact h
  | stuck => rw [q] at h; exact h
  | ok ds e1 =>
    rw [q] at h
    intro J G B1 H1 F1 R1 ok g1 s1 Da hDa
    simp only [bind_ok] at h
    by_cases hfz : (vs.all fun v => fzAt e1 v) = true
    · rw [if_pos hfz] at h
      have hfz' : ∀ v ∈ vs, fzAt e1 v = true := fun v m => List.all_eq_true.mp hfz v m
      -- what is wanted of the rest
      let Fl : Hp → Hp → List Addr → Res (List D) → Prop := fun B2 H2 F2 r => match r with
        | .ok acc e2 => ∀ B3 H3 F3 f3, Rel K cl B3 H3 (L2.wipe σ vs) e2 F3 → Rep K cl B3 H3 (.ref Da) (.lst true acc) f3 → (F3 ++ f3).Nodup → Step B2 H2 F2 B3 H3 (F3 ++ f3) → Q (.ref Da) H3
        | _ => False
      have Fl_shift : ∀ {B2 H2 F2 B3 H3 F3 r}, Fl B2 H2 F2 r → Step B2 H2 F2 B3 H3 F3 → Fl B3 H3 F3 r := by
        intro B2 H2 F2 B3 H3 F3 r h s
        cases r with
        | ok acc e2 => exact fun B4 H4 F4 f4 R4 r4 n4 s4 => h B4 H4 F4 f4 R4 r4 n4 (s.trans s4)
        | err x e2 => exact h
        | stuck => exact h
      refine ⟨fun i k H' => k = ds.length - i ∧ i ≤ ds.length ∧ ∃ B' e' F' f acc, Rel K cl B' H' (L2.wipe σ vs) e' F' ∧ G B' ∧ Rep K cl B' H' (.ref Da) (.lst true acc) f ∧ (F' ++ f).Nodup ∧ Fl B' H' (F' ++ f) (lcGo vs g tt te (ds.drop i) acc e'), ⟨ds.length, ?_⟩, ?_⟩
      · refine ⟨by simp, Nat.zero_le _, ?_⟩
        have l : Loc B1 H1 B1 (L2.upd H1 Da (.lst [])) [Da] := Loc.own R1.ex hDa
        obtain ⟨gw, Rw, sw⟩ := R1.wipe vs
        refine ⟨B1, wipeE e1 vs, gw, [Da], [], Rw.loc l, g1, .lstO upd_same (R1.ex.none hDa) .nil, Rw.locNd l, ?_⟩
        rw [List.drop_zero]
        cases qq : lcGo vs g tt te ds [] (wipeE e1 vs) with
        | err x e2 => rw [qq] at h; exact h.elim
        | stuck => rw [qq] at h; exact h.elim
        | ok acc e2 =>
          rw [qq] at h
          intro B3 H3 F3 f3 R3 r3 n3 s3
          have s13 : Step B1 H1 F1 B3 H3 (F3 ++ f3) := (l.step F1).trans (s3.more fun a m => by
            rcases List.mem_append.mp m with m | m
            · exact List.mem_append_left _ (sw a m)
            · exact List.mem_append_right _ m)
          obtain ⟨g', R4, sub⟩ := R1.rest s13.b hnd hfz' R3
          refine h (.ref Da) B3 H3 g' f3 R4 r3 ?_ (s1.trans (s13.less fun a m => ?_))
          · obtain ⟨na, nb, nc⟩ := List.nodup_append.mp n3
            exact List.nodup_append.mpr ⟨R4.nd, nb, fun a m b m' z => nc a (sub a m) b m' z⟩
          · rcases List.mem_append.mp m with m | m
            · exact List.mem_append_left _ (sub a m)
            · exact List.mem_append_right _ m
      · rintro i k H2 ⟨rfl, hi, B2, e2, F2, f2, acc, R2, g2, r2, n2, h2⟩
        by_cases hlt : i < ds.length
        · have ed : ds.drop i = ds[i] :: ds.drop (i + 1) := List.drop_eq_getElem_cons hlt
          have hd : ds[i]? = some ds[i] := by simp [hlt]
          generalize ds[i] = d at ed hd
          rw [ed] at h2
          refine .inr ⟨ok.go R2.ex g2 hlt, fun H' => i + 1 ≤ ds.length ∧ ∃ B' e' F' f acc, Rel K cl B' H' (L2.wipe σ vs) e' F' ∧ G B' ∧ Rep K cl B' H' (.ref Da) (.lst true acc) f ∧ (F' ++ f).Nodup ∧ Fl B' H' (F' ++ f) (lcGo vs g tt te (ds.drop (i + 1)) acc e'),
            fun H' ⟨h1, h3⟩ => ⟨ds.length - (i + 1), by omega, rfl, h1, h3⟩, fun x H3 y => ?_⟩
          obtain ⟨B3, rx, l⟩ := ok.yld R2.ex g2 hd y
          have R3 := R2.loc l
          have s3 := l.step F2
          rw [List.append_nil] at s3
          refine ⟨B3, e2, F2, [], d, R3, rx, by rw [List.append_nil]; exact R3.nd, ?_⟩
          rw [List.append_nil]
          unfold lcGo at h2
          cases qg : g d e2 with
          | err x e3 => simp only [qg] at h2; exact h2.elim
          | stuck => simp only [qg] at h2; exact h2.elim
          | ok u e3 =>
            simp only [qg] at h2
            intro σ4 B4 H4 F4 R4 k4 s4
            have st4 := s3.trans s4
            refine ⟨wipe_eq hlen k4, B4, e3, F4, R4, ?_⟩
            cases qt : tt e3 with
            | err x e5 => simp only [qt] at h2; exact h2.elim
            | stuck => simp only [qt] at h2; exact h2.elim
            | ok b e5 =>
              intro v5 B5 H5 F5 f5 R5 r5 nd5 s5
              obtain ⟨rfl, rfl⟩ := r5
              rw [List.append_nil] at s5
              have st5 := st4.trans s5
              -- what is held
              have frm := frmOV (K := K) (cl := cl)
              have hold5 : Rep K cl B5 H5 (.ref Da) (.lst true acc) f2 := held (rel := rOV K cl) (σ := σ) (a := .tm (.lst true acc)) frm r2 n2 st5
              have nd5' : (F5 ++ f2).Nodup := heldNd (rel := rOV K cl) (σ := σ) (a := .tm (.lst true acc)) frm r2 n2 st5 R5.nd
              have stH5 : Step B2 H2 (F2 ++ f2) B5 H5 (F5 ++ f2) := st5.hold (fun a m => List.mem_append_right _ m) fun a m => List.mem_append_left _ m
              have gB5 : G B5 := ok.up g2 st5.b
              cases v5 with
              | false =>
                simp only [qt] at h2
                rw [if_neg Bool.false_ne_true]
                obtain ⟨g6, R6, sub6⟩ := R5.wipe vs
                rw [wipe_eq hlen k4] at R6
                refine ⟨hlt, B5, wipeE e5 vs, g6, f2, acc, R6, gB5, hold5, ?_, Fl_shift h2 (stH5.less fun a m => ?_)⟩
                · obtain ⟨na, nb, nc⟩ := List.nodup_append.mp nd5'
                  exact List.nodup_append.mpr ⟨R6.nd, nb, fun a m b m' z => nc a (sub6 a m) b m' z⟩
                · rcases List.mem_append.mp m with m | m
                  · exact List.mem_append_left _ (sub6 a m)
                  · exact List.mem_append_right _ m
              | true =>
                simp only [qt] at h2
                rw [if_pos rfl]
                refine ⟨B5, e5, F5, R5, ?_⟩
                cases qe : te e5 with
                | err x e6 => simp only [qe] at h2; exact h2.elim
                | stuck => simp only [qe] at h2; exact h2.elim
                | ok o e6 =>
                  simp only [qe] at h2
                  intro v6 B6 H6 F6 f6 R6 r6 nd6 s6
                  cases qk : takeOne o e6 with
                  | none => simp only [qk] at h2; exact h2.elim
                  | some pz =>
                    obtain ⟨z, e7⟩ := pz
                    simp only [qk] at h2
                    by_cases hz : acc.length < 1000000
                    · rw [if_pos hz] at h2
                      obtain ⟨B7, F7, R7, r7, n7, s7, _⟩ := takeOne_ok R6 r6 nd6 qk
                      have s57 := s6.trans s7
                      have hold7 : Rep K cl B7 H6 (.ref Da) (.lst true acc) f2 := held (rel := rOV K cl) (σ := σ) (a := .tm (.lst true acc)) frm hold5 nd5' s57
                      have nd7 : ((F7 ++ f6) ++ f2).Nodup := heldNd (rel := rOV K cl) (σ := σ) (a := .tm (.lst true acc)) frm hold5 nd5' s57 n7
                      have st7 : Step B2 H2 (F2 ++ f2) B7 H6 ((F7 ++ f6) ++ f2) := (stH5.trans (s57.hold (fun a m => List.mem_append_right _ m) fun a m => List.mem_append_left _ m))
                      obtain ⟨a, us, gg, ea, ef, hu, hb, ru⟩ := hold7.own_inv
                      cases ea
                      subst ef
                      refine ⟨us, hu, by rw [ru.length]; exact Nat.lt_of_lt_of_le hz (by decide), hlt, ?_⟩
                      obtain ⟨na, nb, nc⟩ := List.nodup_append.mp nd7
                      obtain ⟨nb1, nb2⟩ := List.nodup_cons.mp nb
                      have nDa : Da ∉ F7 ++ f6 := fun m => nc Da m Da List.mem_cons_self rfl
                      have R8 := (R7.upd (o := .lst (us ++ [v6])) (fun m => nDa (List.mem_append_left _ m)) hb)
                      obtain ⟨g9, R9, sub9⟩ := R8.wipe vs
                      rw [wipe_eq hlen k4] at R9
                      have r8 : Rep K cl B7 (L2.upd H6 Da (.lst (us ++ [v6]))) (.ref Da) (.lst true (acc ++ [z])) (Da :: (gg ++ f6)) :=
                        .lstO upd_same hb ((ru.updH nb1).append (Reps.one (r7.updH fun m => nDa (List.mem_append_right _ m))))
                      have pm : (g9 ++ Da :: (gg ++ f6)).Nodup := by
                        refine List.nodup_append.mpr ⟨R9.nd, List.nodup_cons.mpr ⟨fun m => ?_, ?_⟩, fun x m y m' e => ?_⟩
                        · rcases List.mem_append.mp m with m | m
                          · exact nb1 m
                          · exact nDa (List.mem_append_right _ m)
                        · refine List.nodup_append.mpr ⟨nb2, (List.nodup_append.mp na).2.1, fun x m y m' e => ?_⟩
                          exact nc y (List.mem_append_right _ m') x (List.mem_cons_of_mem _ m) e.symm
                        · subst e
                          have m1 := sub9 x m
                          rcases List.mem_cons.mp m' with m' | m'
                          · rw [m'] at m1; exact nDa (List.mem_append_left _ m1)
                          · rcases List.mem_append.mp m' with m' | m'
                            · exact nc x (List.mem_append_left _ m1) x (List.mem_cons_of_mem _ m') rfl
                            · exact (List.nodup_append.mp na).2.2 x m1 x m' rfl
                      refine ⟨B7, wipeE e7 vs, g9, Da :: (gg ++ f6), acc ++ [z], R9, ok.up gB5 s57.b, r8, pm, Fl_shift h2 ((st7.trans (Step.upd (List.mem_append_right _ List.mem_cons_self) ⟨_, hu⟩)).less fun x m => ?_)⟩
                      simp only [List.mem_append, List.mem_cons] at m ⊢
                      rcases m with m | m | m | m
                      · exact .inl (.inl (sub9 x m))
                      · exact .inr (.inl m)
                      · exact .inr (.inr m)
                      · exact .inl (.inr m)
                    · rw [if_neg hz] at h2; exact h2.elim
        · have e0 : ds.drop i = [] := List.drop_eq_nil_of_le (by omega)
          rw [e0] at h2
          exact .inl ⟨ok.stop R2.ex g2 (by omega), h2 B2 H2 F2 f2 R2 r2 n2 Step.refl⟩
    · rw [if_neg hfz] at h; exact h.elim
end
end Dy
/-! Dy, part L: lists and dicts of a slot that are changed; comprehensions as rules; dict displays. -/
namespace Dy
open PySem PySem.Spec PyProof.Rows L2

section
variable {K : PySem.W.Frag} {cl : Cl} {B B' H H' : Hp} {F f : List Addr} {σ : L2.St} {e e' : En}
/-- the list of a slot, opened: its contents may be exchanged -/
theorem Rel.chgL {i : Nat} {xs : List D} (R : Rel K cl B H σ e F) (h : e[i]? = some (some (.lst true xs))) : ∃ a us g rest, σ[i]? = some (some (.ref a)) ∧ H a = some (.lst us) ∧ B a = none ∧ Reps K cl B H us xs g ∧ F.Perm (a :: (g ++ rest)) ∧
    ∀ {us' : List V} {xs' : List D} {g' : List Addr}, Reps K cl B H us' xs' g' → (a :: (g' ++ rest)).Nodup → ∃ F', F'.Perm (a :: (g' ++ rest)) ∧ Rel K cl B (L2.upd H a (.lst us')) σ (e.set i (some (.lst true xs'))) F' := by
  obtain ⟨v, f, rest, hv, hr, hp, re⟩ := R.rep.take h
  obtain ⟨a, us, g, rfl, rfl, ha, hb, hu⟩ := hr.own_inv
  refine ⟨a, us, g, rest, hv, ha, hb, hu, hp, fun {us' xs' g'} r nd => ?_⟩
  obtain ⟨n1, n2⟩ := List.nodup_cons.mp nd
  have re' : RepE K cl B (L2.upd H a (.lst us')) σ (e.set i none) rest :=
    re.mono (Ex.refl B) (fun x m u hu => by rw [upd_ne fun z => n1 (by rw [← z]; exact List.mem_append_right _ m)]; exact hu) fun x m => (re.there x m).2
  have hi : i < e.length := (List.getElem?_eq_some_iff.mp h).1
  have rr : Rep K cl B (L2.upd H a (.lst us')) (.ref a) (.lst true xs') (a :: g') := .lstO upd_same hb (r.updH fun m => n1 (List.mem_append_left _ m))
  obtain ⟨F', p', re2⟩ := re'.put' (i := i) (by simp [hi]) hv rr
  rw [List.set_set] at re2
  exact ⟨F', p', re2, p'.nodup_iff.mpr nd, R.ex.upd hb⟩
theorem Rel.chgD {i : Nat} {xs : List (Key × D)} (R : Rel K cl B H σ e F) (h : e[i]? = some (some (.dic true xs))) : ∃ a us g rest, σ[i]? = some (some (.ref a)) ∧ H a = some (.dK us) ∧ B a = none ∧ us.map (·.1) = xs.map (·.1) ∧ Reps K cl B H (us.map (·.2)) (xs.map (·.2)) g ∧ F.Perm (a :: (g ++ rest)) ∧
    ∀ {us' : List (Key × V)} {xs' : List (Key × D)} {g' : List Addr}, us'.map (·.1) = xs'.map (·.1) → Reps K cl B H (us'.map (·.2)) (xs'.map (·.2)) g' → (a :: (g' ++ rest)).Nodup → ∃ F', F'.Perm (a :: (g' ++ rest)) ∧ Rel K cl B (L2.upd H a (.dK us')) σ (e.set i (some (.dic true xs'))) F' := by
  obtain ⟨v, f, rest, hv, hr, hp, re⟩ := R.rep.take h
  cases hr with
  | @dicO a us _ g ha hb he hu =>
  refine ⟨a, us, g, rest, hv, ha, hb, he, hu, hp, fun {us' xs' g'} e2 r nd => ?_⟩
  obtain ⟨n1, n2⟩ := List.nodup_cons.mp nd
  have re' : RepE K cl B (L2.upd H a (.dK us')) σ (e.set i none) rest :=
    re.mono (Ex.refl B) (fun x m u hu => by rw [upd_ne fun z => n1 (by rw [← z]; exact List.mem_append_right _ m)]; exact hu) fun x m => (re.there x m).2
  have hi : i < e.length := (List.getElem?_eq_some_iff.mp h).1
  have rr : Rep K cl B (L2.upd H a (.dK us')) (.ref a) (.dic true xs') (a :: g') := .dicO upd_same hb e2 (r.updH fun m => n1 (List.mem_append_left _ m))
  obtain ⟨F', p', re2⟩ := re'.put' (i := i) (by simp [hi]) hv rr
  rw [List.set_set] at re2
  exact ⟨F', p', re2, p'.nodup_iff.mpr nd, R.ex.upd hb⟩
theorem Reps.set {y : V} {d : D} : ∀ {us : List V} {xs : List D} {g : List Addr} {j : Nat}, Reps K cl B H us xs g → Rep K cl B H y d f → j < xs.length → ∃ g' go, Reps K cl B H (us.set j y) (xs.set j d) g' ∧ (g ++ f).Perm (g' ++ go)
  | us, [], g, j, r, _, h => by simp at h
  | us, x :: xs, g, 0, r, q, _ => by
    obtain ⟨v, ws, g1, g2, rfl, rfl, r1, r2⟩ := r.cons_inv
    refine ⟨f ++ g2, g1, .cons q r2, ?_⟩
    refine (List.perm_append_comm).trans ?_
    rw [List.append_assoc]
    exact List.Perm.append_left f List.perm_append_comm
  | us, x :: xs, g, j + 1, r, q, h => by
    obtain ⟨v, ws, g1, g2, rfl, rfl, r1, r2⟩ := r.cons_inv
    obtain ⟨g', go, r3, p⟩ := Reps.set (j := j) r2 q (by simpa using h)
    refine ⟨g1 ++ g', go, .cons r1 r3, ?_⟩
    rw [List.append_assoc, List.append_assoc]
    exact List.Perm.append_left g1 p
/-- an item taken out -/
theorem Reps.erase : ∀ {us : List V} {xs : List D} {g : List Addr} {j : Nat} {d : D}, Reps K cl B H us xs g → xs[j]? = some d → ∃ y gd g', us[j]? = some y ∧ Rep K cl B H y d gd ∧ Reps K cl B H (us.eraseIdx j) (xs.eraseIdx j) g' ∧ g.Perm (g' ++ gd)
  | us, [], g, j, d, r, h => by simp at h
  | us, x :: xs, g, 0, d, r, h => by
    obtain ⟨v, ws, g1, g2, rfl, rfl, r1, r2⟩ := r.cons_inv
    simp at h
    subst h
    exact ⟨v, g1, g2, rfl, r1, r2, List.perm_append_comm⟩
  | us, x :: xs, g, j + 1, d, r, h => by
    obtain ⟨v, ws, g1, g2, rfl, rfl, r1, r2⟩ := r.cons_inv
    obtain ⟨y, gd, g', h1, h2, h3, h4⟩ := Reps.erase (j := j) r2 (by simpa using h)
    refine ⟨y, gd, g1 ++ g', by simpa using h1, h2, .cons r1 h3, ?_⟩
    rw [List.append_assoc]
    exact List.Perm.append_left g1 h4
end
/-- the list of a slot -/
def isLstAt (e : En) (i : Nat) : Bool := match e[i]? with
  | some (some (.lst _ _)) => true
  | _ => false
def mApp (i : Nat) (m : M OV) : MS := fun e => if isLstAt e i = true then (m e).bind fun o e1 => match takeOne o e1 with
    | some (d, e2) => match e2[i]? with
      | some (some (.lst true xs)) => if xs.length < 1000000 then .ok .nx (e2.set i (some (.lst true (xs ++ [d])))) else .stuck
      | _ => .stuck
    | none => .stuck
  else .stuck
/-- x.extend(ys) -/
def mExt (i : Nat) (m : M OV) : MS := fun e => if isLstAt e i = true then (m e).bind fun o e1 => match o.get e1 with
    | some (.lst _ ys) => match e1[i]? with
      | some (some (.lst true xs)) => if D.isFzL ys = true ∧ xs.length + ys.length ≤ 1000000 then .ok .nx (e1.set i (some (.lst true (xs ++ ys)))) else .stuck
      | _ => .stuck
    | _ => .stuck
  else .stuck
def mPop (i : Nat) : M OV := fun e => match e[i]? with
  | some (some (.lst true xs)) => match xs[xs.length - 1]? with
    | some d => if d.isFz = true then .ok (.tm d) (e.set i (some (.lst true xs.dropLast))) else .stuck
    | none => .stuck
  | _ => .stuck
def mPopAt (i : Nat) (m : M OV) : M OV := fun e => if isLstAt e i = true then (mInt m e).bind fun k e1 => match e1[i]? with
    | some (some (.lst true xs)) => if -1000000 ≤ k ∧ k ≤ 1000000 then match seqIndex? k xs.length with
        | some j => match xs[j]? with
          | some d => if d.isFz = true then .ok (.tm d) (e1.set i (some (.lst true (xs.eraseIdx j)))) else .stuck
          | none => .stuck
        | none => .stuck
      else .stuck
    | _ => .stuck
  else .stuck
/-- x[k] = v: a list, a dict -/
def putD (kvs : List (Key × D)) (k : Key) (d : D) : List (Key × D) :=
  if (kvs.any fun kv => decide (kv.1 = k)) = true then kvs.map (fun kv => if kv.1 = k then (kv.1, d) else kv) else kvs ++ [(k, d)]
def mSetIx (i : Nat) (mk : M OV) (m : M OV) : MS := fun e => (m e).bind fun o e1 => match e1[i]? with
  | some (some _) => (mk e1).bind fun ok e2 => match takeOne o e2 with
    | some (d, e3) => match ok.get e3 with
      | some x => match e3[i]? with
        | some (some (.lst true xs)) => match x with
          | .int k => match ixN xs.length k with
            | some j => .ok .nx (e3.set i (some (.lst true (xs.set j d))))
            | none => .stuck
          | _ => .stuck
        | some (some (.dic true kvs)) => match keyD x with
          | some k => if kvs.length < 1000000 ∧ d.isFz = true ∧ D.isFzK kvs = true then .ok .nx (e3.set i (some (.dic true (putD kvs k d)))) else .stuck
          | none => .stuck
        | _ => .stuck
      | none => .stuck
    | none => .stuck
  | _ => .stuck
section
variable {X : Cx} {cl : Cl} {W : WX} {P : List Nat} {K : PySem.W.Frag} {i : Nat} {m mk : M OV} {σ : L2.St} {H : Hp} {Dn : Ends} {Q : VK}
theorem T_slot {B : Hp} {e : En} {F : List Addr} (R : Rel K cl B H σ e F) {d : D} (h : e[i]? = some (some d)) : ∃ v, σ[i]? = some (some v) ∧ ∃ g, Rep K cl B H v d g := by
  obtain ⟨v, f, g, hv, hr, _, _⟩ := R.rep.take h
  exact ⟨v, hv, f, hr⟩
theorem isLst_at {B : Hp} {e : En} {F : List Addr} (R : Rel K cl B H σ e F) (h : isLstAt e i = true) : ∃ a us, σ[i]? = some (some (.ref a)) ∧ SqL K H a us := by
  unfold isLstAt at h
  split at h
  · rename_i o xs hx
    obtain ⟨v, hv, g, hr⟩ := T_slot R hx
    obtain ⟨a, us, g, rfl, ha, _⟩ := hr.lst_inv R.ex
    exact ⟨a, us, hv, SqL.of ha⟩
  · cases h
theorem app_ok' (h : TSm K cl W P (mApp i m) Dn σ H) : tDrop (tBM K "list" rAppend (tVar i) (tCons (TV K cl W m) tNil)) Dn σ H := by
  obtain ⟨B, e, F, R, h⟩ := h
  unfold mApp at h
  by_cases hl : isLstAt e i = true
  · rw [if_pos hl] at h
    obtain ⟨a0, us0, hv0, ha0⟩ := isLst_at R hl
    refine ⟨.ref a0, hv0, .inl ⟨rfl, us0, ha0⟩, ?_⟩
    refine TS_go R h fun o e1 _ h1 v B1 H1 F1 f1 R1 r1 nd1 s1 => ?_
    cases q : takeOne o e1 with
    | none => simp only [q] at h1; exact h1.elim
    | some p =>
      obtain ⟨d, e2⟩ := p
      simp only [q] at h1
      obtain ⟨B2, F2, R2, q2, n2, s2, _⟩ := takeOne_ok R1 r1 nd1 q
      split at h1
      · rename_i xs hx
        split at h1
        · rename_i hz
          obtain ⟨a, us, g, rest, hv, ha, hb, hu, hp, chg⟩ := R2.chgL hx
          rw [hv0] at hv
          cases hv
          have pm : (F2 ++ f1).Perm (a0 :: ((g ++ f1) ++ rest)) := by
            refine (hp.append_right f1).trans ?_
            rw [List.cons_append]
            refine List.Perm.cons _ ?_
            rw [List.append_assoc, List.append_assoc]
            exact List.Perm.append_left g List.perm_append_comm
          obtain ⟨F', p', R'⟩ := chg (hu.append (Reps.one q2)) (pm.nodup_iff.mp n2)
          refine ⟨a0, us, v, rfl, rfl, ha, by rw [hu.length]; exact Nat.lt_of_lt_of_le hz (by decide), ?_⟩
          refine h1 σ B2 _ F' R' (Keep.refl P σ) (((s1.trans s2).trans (Step.upd (p := a0) (pm.mem_iff.mpr List.mem_cons_self) ⟨_, ha⟩)).less fun x m => ?_)
          exact pm.mem_iff.mpr (p'.mem_iff.mp m)
        · exact h1.elim
      · exact h1.elim
  · rw [if_neg hl] at h; exact h.elim
theorem ext_ok' (h : TSm K cl W P (mExt i m) Dn σ H) : tDrop (tBM K "list" rExtend (tVar i) (tCons (TV K cl W m) tNil)) Dn σ H := by
  obtain ⟨B, e, F, R, h⟩ := h
  unfold mExt at h
  by_cases hl : isLstAt e i = true
  · rw [if_pos hl] at h
    obtain ⟨a0, us0, hv0, ha0⟩ := isLst_at R hl
    refine ⟨.ref a0, hv0, .inl ⟨rfl, us0, ha0⟩, ?_⟩
    refine TS_go R h fun o e1 _ h1 v B1 H1 F1 f1 R1 r1 nd1 s1 => ?_
    split at h1
    · rename_i ob ys ho
      obtain ⟨gv, rv⟩ := get_rep R1 r1 ho
      obtain ⟨b, ws, g2, rfl, hb2, q2⟩ := rv.lst_inv R1.ex
      split at h1
      · rename_i xs hx
        split at h1
        · rename_i hz
          obtain ⟨a, us, g, rest, hv, ha, hb, hu, hp, chg⟩ := R1.chgL hx
          rw [hv0] at hv
          cases hv
          have pm : F1.Perm (a0 :: ((g ++ []) ++ rest)) := by rw [List.append_nil]; exact hp
          obtain ⟨F', p', R'⟩ := chg (hu.append (q2.fr0 hz.1)) (pm.nodup_iff.mp R1.nd)
          refine ⟨a0, b, us, ws, rfl, rfl, ha, hb2, by rw [hu.length, q2.length]; exact szl hz.2, ?_⟩
          refine h1 σ B1 _ F' R' (Keep.refl P σ) ((((s1.less fun x m => List.mem_append_left _ m)).trans (Step.upd (p := a0) (pm.mem_iff.mpr List.mem_cons_self) ⟨_, ha⟩)).less fun x m => ?_)
          exact pm.mem_iff.mpr (p'.mem_iff.mp m)
        · exact h1.elim
      · exact h1.elim
    · exact h1.elim
  · rw [if_neg hl] at h; exact h.elim
theorem pop_ok' (h : TV K cl W (mPop i) σ H Q) : tBM0 K "list" rPop (tVar i) σ H Q := by
  obtain ⟨B, e, F, R, h⟩ := h
  unfold mPop at h
  split at h
  · rename_i xs hx
    split at h
    · rename_i d hd
      split at h
      · rename_i hf
        obtain ⟨a, us, g, rest, hv, ha, hb, hu, hp, chg⟩ := R.chgL hx
        obtain ⟨y, gd, g', h1, h2, h3, h4⟩ := hu.erase hd
        have e1 : xs.eraseIdx (xs.length - 1) = xs.dropLast := PyProof.Rows.Copied.eraseIdx_last xs
        have e2 : us.eraseIdx (xs.length - 1) = us.dropLast := by rw [← hu.length]; exact PyProof.Rows.Copied.eraseIdx_last us
        rw [e1, e2] at h3
        have gd0 := Rep.nil h2 hf
        subst gd0
        rw [List.append_nil] at h4
        have pm : F.Perm (a :: (g' ++ rest)) := hp.trans (List.Perm.cons _ (h4.append_right rest))
        obtain ⟨F', p', R'⟩ := chg h3 (pm.nodup_iff.mp R.nd)
        refine ⟨.ref a, hv, .inl ⟨rfl, us, SqL.of ha⟩, a, us, y, rfl, rfl, ha, by rw [hu.length]; exact h1, ?_⟩
        refine h y B _ F' [] R' (h2.up (Ex.refl B)) (by rw [List.append_nil]; exact R'.nd) ((Step.upd (p := a) (pm.mem_iff.mpr List.mem_cons_self) ⟨_, ha⟩).less fun x m => ?_)
        rw [List.append_nil] at m
        exact pm.mem_iff.mpr (p'.mem_iff.mp m)
      · exact h.elim
    · exact h.elim
  · exact h.elim
theorem popAt_ok' (h : TV K cl W (mPopAt i m) σ H Q) : tBM K "list" rPopAt (tVar i) (tCons (TV K cl W m) tNil) σ H Q := by
  obtain ⟨B, e, F, R, h⟩ := h
  unfold mPopAt at h
  by_cases hl : isLstAt e i = true
  · rw [if_pos hl] at h
    obtain ⟨a0, us0, hv0, ha0⟩ := isLst_at R hl
    refine ⟨.ref a0, hv0, .inl ⟨rfl, us0, ha0⟩, ?_⟩
    have key : T K cl W rIn' (mInt m) σ H fun k H1 => rPopAt (.ref a0) [.int k] H1 Q := by
      refine T_go R h fun k e1 _ h1 v B1 H1 F1 f1 R1 r1 nd1 s1 => ?_
      obtain ⟨rfl, rfl⟩ := r1
      rw [List.append_nil] at s1
      split at h1
      · rename_i xs hx
        split at h1
        · rename_i hk
          split at h1
          · rename_i j hj
            split at h1
            · rename_i d hd
              split at h1
              · rename_i hf
                obtain ⟨a, us, g, rest, hv, ha, hb, hu, hp, chg⟩ := R1.chgL hx
                rw [hv0] at hv
                cases hv
                obtain ⟨y, gd, g', h3, h4, h5, h6⟩ := hu.erase hd
                have gd0 := Rep.nil h4 hf
                subst gd0
                rw [List.append_nil] at h6
                have pm : F1.Perm (a0 :: (g' ++ rest)) := hp.trans (List.Perm.cons _ (h6.append_right rest))
                obtain ⟨F', p', R'⟩ := chg h5 (pm.nodup_iff.mp R1.nd)
                refine ⟨a0, us, v, j, y, rfl, rfl, ha, by omega, by omega, by rw [hu.length]; exact hj, h3, ?_⟩
                refine h1 y B1 _ F' [] R' (h4.up (Ex.refl B1)) (by rw [List.append_nil]; exact R'.nd) ((s1.trans (Step.upd (p := a0) (pm.mem_iff.mpr List.mem_cons_self) ⟨_, ha⟩)).less fun x m => ?_)
                rw [List.append_nil] at m
                exact pm.mem_iff.mpr (p'.mem_iff.mp m)
              · exact h1.elim
            · exact h1.elim
          · exact h1.elim
        · exact h1.elim
      · exact h1.elim
    exact (T_int key).mono fun x H1 ⟨k, hk, q⟩ => by rw [hk]; exact q
  · rw [if_neg hl] at h; exact h.elim
end
end Dy
/-! Dy, part M: x[k] = v; the rules of part K and L; dict displays. -/
namespace Dy
open PySem PySem.Spec PyProof.Rows L2

theorem PSet.or {X : Cx} {t t' : TSet} (h : PSet X t) (h' : PSet X t') : PSet X fun o i v H Q => t o i v H Q ∨ t' o i v H Q :=
  fun pins s σ H o i v ov iv u Q I ro ri rv q => q.elim (h pins s σ H o i v ov iv u Q I ro ri rv) (h' pins s σ H o i v ov iv u Q I ro ri rv)
def rSetA : TSet := fun o i v H Q => rSetL o i v H Q ∨ rSetD o i v H Q
theorem keys_put {κ : Type} [DecidableEq κ] {α β : Type} : ∀ {a : List (κ × α)} {b : List (κ × β)} {k : κ} {x : α} {y : β}, a.map (·.1) = b.map (·.1) →
    (a.map fun kv => if kv.1 = k then (kv.1, x) else kv).map (·.1) = (b.map fun kv => if kv.1 = k then (kv.1, y) else kv).map (·.1)
  | [], [], _, _, _, _ => rfl
  | [], _ :: _, _, _, _, h => by cases h
  | _ :: _, [], _, _, _, h => by cases h
  | (k1, v1) :: a, (k2, v2) :: b, k, x, y, h => by
    simp only [List.map_cons, List.cons.injEq] at h
    obtain ⟨h1, h2⟩ := h
    have ih := keys_put (k := k) (x := x) (y := y) h2
    subst h1
    simp only [List.map_cons]
    rw [ih]
    by_cases hk : k1 = k
    · simp [hk]
    · simp [hk]
theorem any_keys {κ : Type} [DecidableEq κ] {α β : Type} : ∀ {a : List (κ × α)} {b : List (κ × β)} (k : κ), a.map (·.1) = b.map (·.1) → (a.any fun kv => decide (kv.1 = k)) = b.any fun kv => decide (kv.1 = k)
  | [], [], _, _ => rfl
  | [], _ :: _, _, h => by cases h
  | _ :: _, [], _, h => by cases h
  | (k1, v1) :: a, (k2, v2) :: b, k, h => by
    simp only [List.map_cons, List.cons.injEq] at h
    rw [List.any_cons, List.any_cons, any_keys k h.2, h.1]
section
variable {K : PySem.W.Frag} {cl : Cl} {B H : Hp}
theorem reps_put {y : V} {d : D} {k : Key} (q : Rep K cl B H y d []) : ∀ {us : List (Key × V)} {xs : List (Key × D)}, us.map (·.1) = xs.map (·.1) → Reps K cl B H (us.map (·.2)) (xs.map (·.2)) [] →
    Reps K cl B H ((us.map fun kv => if kv.1 = k then (kv.1, y) else kv).map (·.2)) ((xs.map fun kv => if kv.1 = k then (kv.1, d) else kv).map (·.2)) []
  | [], [], _, _ => .nil
  | [], _ :: _, h, _ => by cases h
  | _ :: _, [], h, _ => by cases h
  | (k1, v1) :: us, (k2, v2) :: xs, h, r => by
    simp only [List.map_cons, List.cons.injEq] at h
    obtain ⟨h1, h2⟩ := h
    subst h1
    rw [List.map_cons, List.map_cons] at r
    obtain ⟨v, ws, g1, g2, e1, e2, r1, r2⟩ := r.cons_inv
    injection e1 with e3 e4
    subst e3 e4
    obtain ⟨e5, e6⟩ := List.append_eq_nil_iff.mp e2.symm
    subst e5 e6
    have ih := reps_put (k := k) q h2 r2
    simp only [List.map_cons]
    by_cases hk : k1 = k
    · simp only [hk, if_pos]
      exact .cons (f := []) (g := []) q ih
    · simp only [hk, if_neg, not_false_iff]
      exact .cons (f := []) (g := []) r1 ih
theorem put_ok {us : List (Key × V)} {xs : List (Key × D)} {y : V} {d : D} {k : Key} (e : us.map (·.1) = xs.map (·.1)) (r : Reps K cl B H (us.map (·.2)) (xs.map (·.2)) []) (q : Rep K cl B H y d []) :
    (putK us k y).map (·.1) = (putD xs k d).map (·.1) ∧ Reps K cl B H ((putK us k y).map (·.2)) ((putD xs k d).map (·.2)) [] := by
  unfold putK putD
  rw [any_keys k e]
  split
  · exact ⟨keys_put e, reps_put q e r⟩
  · refine ⟨by rw [List.map_append, List.map_append, e]; rfl, ?_⟩
    rw [List.map_append, List.map_append]
    exact r.append (Reps.one q)
end
section
variable {X : Cx} {cl : Cl} {W : WX} {P : List Nat} {K : PySem.W.Frag} {i : Nat} {m mk : M OV} {σ : L2.St} {H : Hp} {Dn : Ends} {Q : VK}
theorem setIx_ok (h : TSm K cl W P (mSetIx i mk m) Dn σ H) : tAsg (TV K cl W m) (gSub (tVar i) (TV K cl W mk) rSetA) Dn σ H := by
  obtain ⟨B, e, F, R, h⟩ := h
  refine TS_go R h fun o e1 _ h1 v B1 H1 F1 f1 R1 r1 nd1 s1 => ?_
  cases qi : e1[i]? with
  | none => simp only [qi] at h1; exact h1.elim
  | some oi => cases oi with
    | none => simp only [qi] at h1; exact h1.elim
    | some d0 =>
      simp only [qi] at h1
      obtain ⟨w, hw, _⟩ := T_slot R1 qi
      refine ⟨w, hw, ?_⟩
      refine TS_on R1 s1 h1 fun ok e2 _ h2 y B2 H2 F2 f2 R2 r2 nd2 s2 => ?_
      have r1' := held frmOV r1 nd1 s2
      have n2 := heldNd frmOV r1 nd1 s2 nd2
      have st := s1.both s2
      cases qk : takeOne o e2 with
      | none => simp only [qk] at h2; exact h2.elim
      | some p =>
        obtain ⟨d, e3⟩ := p
        simp only [qk] at h2
        -- the value is taken beside the key
        have n21 : (F2 ++ f1).Nodup := n2.sublist (by rw [List.append_assoc]; exact List.Sublist.append_left (List.sublist_append_right _ _) _)
        obtain ⟨B3, F3, R3, q3, n3, s3, sub3, out3⟩ := takeOne_ok R2 r1' n21 qk
        have nf2 : ∀ x ∈ f2, x ∉ F2 := fun x m m' => (List.nodup_append.mp nd2).2.2 x m' x m rfl
        have r2' : rOV K cl σ B3 H2 y ok f2 := frmOV.mono r2 s3.b (fun _ _ _ q => q) fun x m => by rw [out3 x (nf2 x m)]; exact (frmOV.there r2 x m).2
        cases qo : ok.get e3 with
        | none => simp only [qo] at h2; exact h2.elim
        | some x =>
          simp only [qo] at h2
          obtain ⟨gk, rk⟩ := get_rep R3 r2' qo
          have st3 : Step B H F B3 H2 (F3 ++ f1) := (st.less fun a m => by
            simp only [List.mem_append] at m ⊢
            rcases m with m | m
            · exact .inl (.inl m)
            · exact .inr m).trans s3
          split at h2
          · rename_i xs hx
            split at h2
            · rename_i k
              split at h2
              · rename_i j hj
                obtain ⟨a, us, g, rest, hv, ha, hb, hu, hp, chg⟩ := R3.chgL hx
                rw [hw] at hv
                cases hv
                obtain ⟨_, hj2, _⟩ := ixN_seq hj
                obtain ⟨g', go, r4, p4⟩ := hu.set q3 hj2
                have pm : (F3 ++ f1).Perm (a :: ((g' ++ go) ++ rest)) := by
                  refine (hp.append_right f1).trans ?_
                  rw [List.cons_append]
                  refine List.Perm.cons _ ?_
                  rw [List.append_assoc]
                  refine (List.Perm.append_left g List.perm_append_comm).trans ?_
                  rw [← List.append_assoc]
                  exact p4.append_right rest
                have nda : (a :: ((g' ++ go) ++ rest)).Nodup := pm.nodup_iff.mp n3
                have ndb : (a :: (g' ++ rest)).Nodup := nda.sublist (List.Sublist.cons₂ _ (List.Sublist.append_right (List.sublist_append_left _ _) _))
                obtain ⟨F', p', R'⟩ := chg r4 ndb
                refine .inl ⟨a, us, k, j, rfl, rk.int_inv, ha, by rw [hu.length]; exact hj, ?_⟩
                refine h2 σ B3 _ F' R' (Keep.refl P σ) ((st3.trans (Step.upd (p := a) (pm.mem_iff.mpr List.mem_cons_self) ⟨_, ha⟩)).less fun x m => pm.mem_iff.mpr ?_)
                have := p'.mem_iff.mp m
                simp only [List.mem_cons, List.mem_append] at this ⊢
                rcases this with z | z | z
                · exact .inl z
                · exact .inr (.inl (.inl z))
                · exact .inr (.inr z)
              · exact h2.elim
            · exact h2.elim
          · rename_i kvs hx
            split at h2
            · rename_i k hk
              split at h2
              · rename_i hz
                obtain ⟨a, us, g, rest, hv, ha, hb, he, hu, hp, chg⟩ := R3.chgD hx
                rw [hw] at hv
                cases hv
                have hu0 : Reps K cl B3 H2 (us.map (·.2)) (kvs.map (·.2)) [] := hu.fr0 (by rw [isFzL_all, ← isFzK_all]; exact hz.2.2)
                obtain ⟨e4, r4⟩ := put_ok (k := k) he hu0 (q3.fr0 hz.2.1)
                have g0 : g = [] := Reps.nilF hu (by rw [isFzL_all, ← isFzK_all]; exact hz.2.2)
                subst g0
                have nda : (a :: ([] ++ rest)).Nodup := hp.nodup_iff.mp R3.nd
                obtain ⟨F', p', R'⟩ := chg e4 r4 nda
                have hl : us.length = kvs.length := by have := congrArg List.length he; simpa using this
                refine .inr ⟨a, L2.upd H2 a (.dK (putK us k v)), rfl, ?_, ?_⟩
                · rw [key_ok rk hk]
                  exact DPut.k ha (by rw [hl]; exact Nat.lt_of_lt_of_le hz.1 (by decide))
                refine h2 σ B3 _ F' R' (Keep.refl P σ) ((st3.trans ((Step.upd (p := a) (List.mem_append_left _ (hp.mem_iff.mpr List.mem_cons_self)) ⟨_, ha⟩))).less fun x m => List.mem_append_left _ (hp.mem_iff.mpr (p'.mem_iff.mp m)))
              · exact h2.elim
            · exact h2.elim
          · exact h2.elim
/-! ### the rules -/
variable {a b o it elt tg : Expr} {x : Str} {pos apos p2 pos' : Pos}
theorem dps_app (hN : X.N[i]? = some x) (hv : Vis X.env.scope x) (he : PE X a (TV X.K cl W m)) (hs : swapsWith (.Call (.Attribute (.Name x p2) "append" apos) [a] [] pos) none pos'.line X.env = pure false := by rfl)
    (hd : (x == ("__debug__" : Str)) = false := by decide) (hcd : (x == ("__classdict__" : Str)) = false := by decide)
    (hbase : attributeBase (.Name x p2) "append" X.env (eval (.Name x p2) X.env) = eval (.Name x p2) X.env := by rfl)
    (hfew : ((backTo pos (starEach [a] X.env)).all (fun x => !x.1) && (backToKw pos (keywordEach [] X.env)).all (fun x => x.1.isSome)
      && decide ([a].length + ([] : List Keyword).length + (if ([] : List Keyword).isEmpty then 0 else 1) < 30)) = true := by rfl)
    (hline : (apos.endLine == pos.line) = true := by rfl) (hst : starEach [a] X.env = (false, eval a X.env) :: starEach [] X.env := by rfl) (hpl : (backTo pos (starEach [] X.env)).any (·.1) = false := by rfl) :
    PS X (.Expr (.Call (.Attribute (.Name x p2) "append" apos) [a] [] pos) pos') (TSm X.K cl W P (mApp i m)) :=
  PS.weak (ps_expr (pe_bm PySem.F.plainAttrs_list PySem.F.slot_list_append PySem.F.type_list_append mt_append (pe_var hN hv hd hcd) (pa_cons he pa_nil hst) hbase hfew hline hst hpl) hs) fun _ _ _ h => app_ok' h
theorem dps_ext (hN : X.N[i]? = some x) (hv : Vis X.env.scope x) (he : PE X a (TV X.K cl W m)) (hs : swapsWith (.Call (.Attribute (.Name x p2) "extend" apos) [a] [] pos) none pos'.line X.env = pure false := by rfl)
    (hd : (x == ("__debug__" : Str)) = false := by decide) (hcd : (x == ("__classdict__" : Str)) = false := by decide)
    (hbase : attributeBase (.Name x p2) "extend" X.env (eval (.Name x p2) X.env) = eval (.Name x p2) X.env := by rfl)
    (hfew : ((backTo pos (starEach [a] X.env)).all (fun x => !x.1) && (backToKw pos (keywordEach [] X.env)).all (fun x => x.1.isSome)
      && decide ([a].length + ([] : List Keyword).length + (if ([] : List Keyword).isEmpty then 0 else 1) < 30)) = true := by rfl)
    (hline : (apos.endLine == pos.line) = true := by rfl) (hst : starEach [a] X.env = (false, eval a X.env) :: starEach [] X.env := by rfl) (hpl : (backTo pos (starEach [] X.env)).any (·.1) = false := by rfl) :
    PS X (.Expr (.Call (.Attribute (.Name x p2) "extend" apos) [a] [] pos) pos') (TSm X.K cl W P (mExt i m)) :=
  PS.weak (ps_expr (pe_bm PySem.F.plainAttrs_list PySem.F.slot_list_extend PySem.F.type_list_extend mt_extend (pe_var hN hv hd hcd) (pa_cons he pa_nil hst) hbase hfew hline hst hpl) hs) fun _ _ _ h => ext_ok' h
theorem dpe_pop (hN : X.N[i]? = some x) (hv : Vis X.env.scope x) (hd : (x == ("__debug__" : Str)) = false := by decide) (hcd : (x == ("__classdict__" : Str)) = false := by decide)
    (hbase : attributeBase (.Name x p2) "pop" X.env (eval (.Name x p2) X.env) = eval (.Name x p2) X.env := by rfl) (hline : (apos.endLine == pos.line) = true := by rfl) :
    PE X (.Call (.Attribute (.Name x p2) "pop" apos) [] [] pos) (TV X.K cl W (mPop i)) :=
  PE.weak (pe_bm0 PySem.F.plainAttrs_list PySem.F.slot_list_pop PySem.F.type_list_pop mt_pop (pe_var hN hv hd hcd) hbase hline) fun _ _ _ h => pop_ok' h
theorem dpe_popAt (hN : X.N[i]? = some x) (hv : Vis X.env.scope x) (he : PE X a (TV X.K cl W m)) (hd : (x == ("__debug__" : Str)) = false := by decide) (hcd : (x == ("__classdict__" : Str)) = false := by decide)
    (hbase : attributeBase (.Name x p2) "pop" X.env (eval (.Name x p2) X.env) = eval (.Name x p2) X.env := by rfl)
    (hfew : ((backTo pos (starEach [a] X.env)).all (fun x => !x.1) && (backToKw pos (keywordEach [] X.env)).all (fun x => x.1.isSome)
      && decide ([a].length + ([] : List Keyword).length + (if ([] : List Keyword).isEmpty then 0 else 1) < 30)) = true := by rfl)
    (hline : (apos.endLine == pos.line) = true := by rfl) (hst : starEach [a] X.env = (false, eval a X.env) :: starEach [] X.env := by rfl) (hpl : (backTo pos (starEach [] X.env)).any (·.1) = false := by rfl) :
    PE X (.Call (.Attribute (.Name x p2) "pop" apos) [a] [] pos) (TV X.K cl W (mPopAt i m)) :=
  PE.weak (pe_bm PySem.F.plainAttrs_list PySem.F.slot_list_pop PySem.F.type_list_pop mt_popAt (pe_var hN hv hd hcd) (pa_cons he pa_nil hst) hbase hfew hline hst hpl) fun _ _ _ h => popAt_ok' h
/-- x[k] = v -/
theorem dps_setIx (hu : X.A.units + 1 < cLine) (hN : X.N[i]? = some x) (hv : Vis X.env.scope x) (hk : PE X b (TV X.K cl W mk)) (he : PE X a (TV X.K cl W m)) (hd : (x == ("__debug__" : Str)) = false := by decide) (hcd : (x == ("__classdict__" : Str)) = false := by decide)
    (ha : ∀ v, assign (.Subscript (.Name x p2) b apos) X.env v = (do
      let ov ← holding [v] (eval (.Name x p2) X.env)
      let iv ← holding [v, ov] (eval b X.env)
      standAt apos
      holding [v, ov, iv] (setItem ov iv v)
      release [v, ov, iv] []) := by intro _; rfl)
    (hs : swapsWithSole [.Subscript (.Name x p2) b apos] a pos.line X.env = pure false := by rfl) (hw : swappedStores [.Subscript (.Name x p2) b apos] a X.env = pure none := by rfl)
    (h1 : (assignEach [.Subscript (.Name x p2) b apos] X.env).map (·.2) = [assign (.Subscript (.Name x p2) b apos) X.env] := by rfl) :
    PS X (.Assign [.Subscript (.Name x p2) b apos] a pos) (TSm X.K cl W P (mSetIx i mk m)) :=
  PS.weak (ps_asg he (pg_sub (pe_var hN hv hd hcd) hk (PSet.or set_list (set_dict hu)) ha) hs hw h1) fun _ _ _ h => setIx_ok h
/-- comprehensions -/
theorem PE.weakL {e : Expr} {t t' : TE} (h : PE X e t) (w : ∀ σ H Q, σ.length = X.N.length → t' σ H Q → t σ H Q) : PE X e t' := ⟨fun pins s σ H Q I q => h.run pins s σ H Q I (w σ H Q I.len q)⟩
theorem PS.weakL {st : Stmt} {t t' : TS} (h : PS X st t) (w : ∀ D σ H, σ.length = X.N.length → t' D σ H → t D σ H) : PS X st t' := ⟨fun pins s σ H D I q => h.run pins s σ H D I (w D σ H I.len q)⟩
theorem dpts_nil : PTs X [] (TB X.K cl W (mPure true)) := ⟨fun pins s σ H Q I h => pts_nil.run pins s σ H Q I (T_pure h)⟩
theorem dpts_one {c : Expr} {t : M Bool} (h : PT X c (TB X.K cl W t)) : PTs X [c] (TB X.K cl W t) := pts_one h
theorem dpe_lc {ifs : List Expr} {scope : Scope} {own : List (Str × Nat)} {mi : M (List D)} {g : MG} {tt : M Bool} {te : M OV} (n : Nat) (hn : X.N.length = n) (hc : X.calm = true) (hN : X.N.Nodup) (hi : PI X tg it (TIm X.K cl W mi)) (ok : BlkOk X.N X.env.scope scope own) (hnd : (own.map (·.2)).Nodup)
    (hg : ∀ (s : Shared) (H : Hp) (C : Addr) (cls : List (Str × Addr)) (fp : List Addr), PG (X.blk s H scope (compEnvC scope cls C X.env) fp) tg (TGm X.K cl (others n (own.map (·.2))) g))
    (ht : ∀ (s : Shared) (H : Hp) (C : Addr) (cls : List (Str × Addr)) (fp : List Addr), PTs (X.blk s H scope (compEnvC scope cls C X.env) fp) ifs (TB X.K cl W0 tt))
    (he : ∀ (s : Shared) (H : Hp) (C : Addr) (cls : List (Str × Addr)) (fp : List Addr), PE (X.blk s H scope (compEnvC scope cls C X.env) fp) elt (TV X.K cl W0 te)) (hs : ∀ x, foldedSetIterable it X.env x = pure x := by intro _; rfl) :
    PE X (.ListComp elt [⟨tg, it, ifs, 0⟩] scope pos) (TV X.K cl W (mLc (own.map (·.2)) mi g tt te)) :=
  PE.weakL (pe_lc hc hN hi ok hg ht he hs) fun σ H Q hl h => lc_ok hnd (fun _ _ _ _ _ => hl.trans hn) h
/-- y = [..] -/
theorem setLc_ok {j : Nat} {vs : List Nat} {mi : M (List D)} {g : MG} {tt : M Bool} {te : M OV} {n : Nat} (hnd : vs.Nodup) (hP : P.contains j = false) (hn : σ.length = n) (h : TSm K cl W P (mSet j (mLc vs mi g tt te)) Dn σ H) :
    tAsg (tLc (TIm K cl W mi) (TGm K cl (others n vs) g) (TB K cl W0 tt) (TV K cl W0 te) vs) (gName j) Dn σ H := by
  refine lc_ok hnd (fun _ _ _ _ _ => hn) ?_
  obtain ⟨B, e, F, R, h⟩ := h
  refine TS_go R h fun o e1 _ h1 v B1 H1 F1 f1 R1 r1 nd1 s1 => ?_
  cases q : takeOne o e1 with
  | none => simp only [q] at h1; exact h1.elim
  | some p =>
    obtain ⟨d, e2⟩ := p
    simp only [q] at h1
    by_cases hi : j < e2.length
    · rw [if_pos hi] at h1
      obtain ⟨B2, F2, R2, q2, n2, s2, _⟩ := takeOne_ok R1 r1 nd1 q
      obtain ⟨F3, R3, sub⟩ := R2.store hi q2 n2
      exact h1 _ B2 H1 F3 R3 (Keep.set hP) ((s1.trans s2).less sub)
    · rw [if_neg hi] at h1; exact h1.elim
theorem dps_setLc {j : Nat} {y : Str} {py spos : Pos} {ifs : List Expr} {scope : Scope} {own : List (Str × Nat)} {mi : M (List D)} {g : MG} {tt : M Bool} {te : M OV} (n : Nat) (hn : X.N.length = n) (hc : X.calm = true) (hN : X.N.Nodup) (hy : X.N[j]? = some y) (hyl : X.env.scope.names.lookup y = some .local) (hP : P.contains j = false)
    (hsw : swapsWith (.ListComp elt [⟨tg, it, ifs, 0⟩] scope pos) (some (.Name y py)) spos.line X.env = pure true) (hi : PI X tg it (TIm X.K cl W mi)) (ok : BlkOk X.N X.env.scope scope own) (hnd : (own.map (·.2)).Nodup)
    (hg : ∀ (s : Shared) (H : Hp) (C : Addr) (cls : List (Str × Addr)) (fp : List Addr), PG (X.blk s H scope (compEnvC scope cls C X.env) fp) tg (TGm X.K cl (others n (own.map (·.2))) g))
    (ht : ∀ (s : Shared) (H : Hp) (C : Addr) (cls : List (Str × Addr)) (fp : List Addr), PTs (X.blk s H scope (compEnvC scope cls C X.env) fp) ifs (TB X.K cl W0 tt))
    (he : ∀ (s : Shared) (H : Hp) (C : Addr) (cls : List (Str × Addr)) (fp : List Addr), PE (X.blk s H scope (compEnvC scope cls C X.env) fp) elt (TV X.K cl W0 te)) (hs : ∀ x, foldedSetIterable it X.env x = pure x := by intro _; rfl) :
    PS X (.Assign [.Name y py] (.ListComp elt [⟨tg, it, ifs, 0⟩] scope pos) spos) (TSm X.K cl W P (mSet j (mLc (own.map (·.2)) mi g tt te))) :=
  PS.weakL (ps_setLc hc hN hy hyl hsw hi ok hg ht he hs) fun Dn σ H hl h => setLc_ok hnd hP (hl.trans hn) h
end
end Dy
/-! Dy, part N: chains, dict displays; exceptions raised and caught. -/
namespace Dy
open PySem PySem.Spec PyProof.Rows L2

/-! ### a op b op' c, the middle one a plain value -/
def D.imm : D → Bool
  | .non => true
  | .bl _ => true
  | .int _ => true
  | .str _ => true
  | _ => false
theorem Rep.imm {K : PySem.W.Frag} {cl : Cl} {B H B' H' : Hp} {v : V} {d : D} {f : List Addr} (r : Rep K cl B H v d f) (h : d.imm = true) : Rep K cl B' H' v d [] := by
  cases r <;> first | exact .non | exact .bl | exact .int | exact .str | (cases h; done)
def mChain (f f' : List D → Option D) (ma mb mc : M OV) : M OV := fun e => (mArgs [ma, mb] e).bind fun os e1 => match getAll e1 os with
  | some [x, y] => if y.imm = true then (match f [x, y] with
    | some (.bl true) => (mc e1).bind fun oz e2 => match oz.get e2 with
      | some z => match f' [y, z] with
        | some w => .ok (.tm w) e2
        | none => .stuck
      | none => .stuck
    | some (.bl false) => .ok (.tm (.bl false)) e1
    | _ => .stuck) else .stuck
  | _ => .stuck
section
variable {X : Cx} {cl : Cl} {W : WX} {P : List Nat} {K : PySem.W.Frag} {σ : L2.St} {H : Hp} {Q : VK} {a b c : Expr} {ma mb mc : M OV} {pos : Pos} {f f' : List D → Option D} {r r' : R2}
theorem T_chain (hl : LocOp K cl (r2 r) f) (hl' : LocOp K cl (r2 r') f') (h : TV K cl W (mChain f f' ma mb mc) σ H Q) : tChain r r' (TV K cl W ma) (TV K cl W mb) (TV K cl W mc) σ H Q := by
  have h2 : TVs K cl W (mArgs [ma, mb]) σ H (fun vs H1 => r2 (fun x y H2 Q0 => r x y H2 fun z H3 => ∃ k, z = .bl k ∧ (if k = true then TV K cl W mc σ H3 fun w' H4 => r' y w' H4 Q0 else Q0 (.bl false) H3)) vs H1 Q) := by
    obtain ⟨B, e, F, R, h⟩ := h
    refine T_go R h fun os e1 _ h1 vs B1 H1 F1 f1 R1 r1 nd1 s1 => ?_
    split at h1
    · rename_i x y hx
      have ra := getAll_rep R1 r1 hx
      obtain ⟨vx, vy, g1, g2, rfl, rx, ry⟩ := ra.two
      by_cases hi : y.imm = true
      · rw [if_pos hi] at h1
        split at h1
        · rename_i hf
          refine hl B1 H1 [vx, vy] [x, y] _ _ R1.ex ra hf fun v B' H' fz rz l => ⟨true, rz.bl_inv, ?_⟩
          rw [if_pos rfl]
          have R2 := R1.loc l
          have st : Step B H F B' H' F1 := (s1.less fun a m => List.mem_append_left _ m).trans ((l.step F1).less fun a m => List.mem_append_left _ m)
          refine T_on (f1 := []) R2 (by rw [List.append_nil]; exact st) h1 fun oz e2 _ h3 w B2 H2 F2 f2 R3 r3 nd3 s3 => ?_
          cases qz : oz.get e2 with
          | none => simp only [qz] at h3; exact h3.elim
          | some z =>
            simp only [qz] at h3
            cases qw : f' [y, z] with
            | none => simp only [qw] at h3; exact h3.elim
            | some u =>
              simp only [qw] at h3
              obtain ⟨gz, rz'⟩ := get_rep R3 r3 qz
              refine hl' B2 H2 [vy, w] [y, z] u Q R3.ex (.cons ⟨[], ry.imm hi⟩ (.cons ⟨gz, rz'⟩ .nil)) qw fun v4 B4 H4 f4 r4 l4 => ?_
              exact h3 v4 B4 H4 F2 f4 (R3.loc l4) r4 (R3.locNd l4) ((st.trans (s3.less fun a m => List.mem_append_left _ m)).trans (l4.step F2))
        · rename_i hf
          refine hl B1 H1 [vx, vy] [x, y] _ _ R1.ex ra hf fun v B' H' fz rz l => ⟨false, rz.bl_inv, ?_⟩
          rw [if_neg Bool.false_ne_true]
          refine h1 _ B' H' F1 [] (R1.loc l) .bl (by rw [List.append_nil]; exact R1.nd) ?_
          rw [List.append_nil]
          exact (s1.less fun a m => List.mem_append_left _ m).trans ((l.step F1).less fun a m => List.mem_append_left _ m)
        · exact h1.elim
      · rw [if_neg hi] at h1
        exact h1.elim
    · exact h1.elim
  refine (args_cons h2).mono fun x H1 h1 => ?_
  exact (args_cons h1).mono fun y H2 h3 => args_nil h3
theorem dpe_chain {op op' : CmpOp} (ho : OpR X (compareOp op) r) (ho' : OpR X (compareOp op') r') (hl : LocOp X.K cl (r2 r) f) (hl' : LocOp X.K cl (r2 r') f') (ha : PE X a (TV X.K cl W ma)) (hb : PE X b (TV X.K cl W mb)) (hc : PE X c (TV X.K cl W mc))
    (hm : lastMarks [op, op'] [b, c] = false := by with_unfolding_all rfl) : PE X (.Compare a [op, op'] [b, c] pos) (TV X.K cl W (mChain f f' ma mb mc)) :=
  PE.weak (pe_chain ho ho' ha hb hc hm) fun _ _ _ h => T_chain hl hl' h
theorem dpt_chain {op op' : CmpOp} (ho : OpR X (compareOp op) r) (ho' : OpR X (compareOp op') r') (hl : LocOp X.K cl (r2 r) f) (hl' : LocOp X.K cl (r2 r') f') (ha : PE X a (TV X.K cl W ma)) (hb : PE X b (TV X.K cl W mb)) (hc : PE X c (TV X.K cl W mc))
    (hm : lastMarks [op, op'] [b, c] = false := by with_unfolding_all rfl) : PT X (.Compare a [op, op'] [b, c] pos) (TB X.K cl W (mTest (mChain f f' ma mb mc))) :=
  PT.weak (pt_chain ho ho' ha hb hc hm) fun _ _ _ h => T_chain hl hl' (T_test h)
end

/-! ### {k: v, ..} -/
def pairsD : List D → Option (List (Key × D))
  | [] => some []
  | k :: d :: r => match keyD k, pairsD r with
    | some k, some ps => if d.isFz = true then some ((k, d) :: ps) else none
    | _, _ => none
  | _ => none
def mergeD (kvs more : List (Key × D)) : List (Key × D) := more.foldl (fun acc kv => putD acc kv.1 kv.2) kvs
def fDisp : List D → Option D := fun ds => match pairsD ds with
  | some ps => if ps.length ≤ 15 then some (.dic true (mergeD [] ps)) else none
  | none => none
def flatM : List (M OV × M OV) → List (M OV)
  | [] => []
  | (k, v) :: r => k :: v :: flatM r
def flatV : List (V × V) → List V
  | [] => []
  | (k, v) :: r => k :: v :: flatV r
section
variable {X : Cx} {cl : Cl} {W : WX} {P : List Nat} {K : PySem.W.Frag} {B H : Hp} {σ : L2.St} {Q : VK} {pos : Pos}
theorem T_pairs : ∀ {ms : List (M OV × M OV)} {H : Hp} {Q : List V → Hp → Prop} {R : List (V × V) → Hp → Prop}, TVs K cl W (mArgs (flatM ms)) σ H Q → (∀ ps H', Q (flatV ps) H' → R ps H') → tPairs (ms.map fun p => (TV K cl W p.1, TV K cl W p.2)) σ H R
  | [], _, _, _, h, w => w [] _ (args_nil h)
  | (k, v) :: r, _, _, _, h, w => (args_cons h).mono fun x H1 h1 => (args_cons h1).mono fun y H2 h2 => T_pairs h2 fun ps H' q => w ((x, y) :: ps) H' q
theorem pairs_ok : ∀ {ps : List (V × V)} {ds : List D} {kd : List (Key × D)}, RepAll K cl B H (flatV ps) ds → pairsD ds = some kd →
    ∃ kvs : List (Key × V), ps = kvs.map (fun kv => (kV kv.1, kv.2)) ∧ kvs.map (·.1) = kd.map (·.1) ∧ Reps K cl B H (kvs.map (·.2)) (kd.map (·.2)) []
  | [], _, _, r, h => by
    cases r
    cases h
    exact ⟨[], rfl, rfl, .nil⟩
  | (x, y) :: ps, _, _, r, h => by
    cases r with
    | cons r1 t =>
      cases t with
      | cons r2 t =>
        obtain ⟨f1, r1⟩ := r1
        obtain ⟨f2, r2⟩ := r2
        rw [pairsD] at h
        split at h
        · rename_i k ps' hk hp
          split at h
          · rename_i hz
            cases h
            obtain ⟨kvs, rfl, e, q⟩ := pairs_ok t hp
            refine ⟨(k, y) :: kvs, ?_, by rw [List.map_cons, List.map_cons, e], .cons (f := []) (g := []) (r2.fr0 hz) q⟩
            rw [List.map_cons, key_ok r1 hk]
          · cases h
        · cases h
theorem merge_ok : ∀ {more : List (Key × V)} {md : List (Key × D)} {us : List (Key × V)} {xs : List (Key × D)}, more.map (·.1) = md.map (·.1) → Reps K cl B H (more.map (·.2)) (md.map (·.2)) [] →
    us.map (·.1) = xs.map (·.1) → Reps K cl B H (us.map (·.2)) (xs.map (·.2)) [] →
    (mergeK us more).map (·.1) = (mergeD xs md).map (·.1) ∧ Reps K cl B H ((mergeK us more).map (·.2)) ((mergeD xs md).map (·.2)) []
  | [], [], _, _, _, _, e, r => ⟨e, r⟩
  | [], _ :: _, _, _, h, _, _, _ => by cases h
  | _ :: _, [], _, _, h, _, _, _ => by cases h
  | (k, y) :: more, (k', d) :: md, us, xs, h, q, e, r => by
    simp only [List.map_cons, List.cons.injEq] at h
    obtain ⟨h1, h2⟩ := h
    subst h1
    rw [List.map_cons, List.map_cons] at q
    obtain ⟨v, ws, g1, g2, e1, e2, q1, q2⟩ := q.cons_inv
    injection e1 with e3 e4
    subst e3 e4
    obtain ⟨e5, e6⟩ := List.append_eq_nil_iff.mp e2.symm
    subst e5 e6
    obtain ⟨a1, a2⟩ := put_ok (k := k) e r q1
    exact merge_ok (us := putK us k y) (xs := putD xs k d) h2 q2 a1 a2
theorem disp_ok {ms : List (M OV × M OV)} (h : TV K cl W (mLoc fDisp (mArgs (flatM ms))) σ H Q) : tDisp (ms.map fun p => (TV K cl W p.1, TV K cl W p.2)) σ H Q := by
  intro p hp
  have main : TVs K cl W (mArgs (flatM ms)) σ (L2.upd H p (.dK [])) (fun vs H2 => ∀ ps, flatV ps = vs → H2 p = some (.dK []) ∧ ∃ kvs : List (Key × V), ps = kvs.map (fun kv => (kV kv.1, kv.2)) ∧ kvs.length ≤ 15 ∧ Q (.ref p) (L2.upd H2 p (.dK (mergeK [] kvs)))) := by
    obtain ⟨B, e, F, R, h⟩ := h
    have l : Loc B H B (L2.upd H p (.dK [])) [p] := Loc.own R.ex hp
    have R1 := R.loc l
    refine T_on (f1 := [p]) R1 (l.step F) h fun os e2 _ h1 vs B2 H2 F2 f2 R2 r2 nd2 s2 => ?_
    intro ps eps
    subst eps
    have pF : p ∉ F := fun m => by
      obtain ⟨⟨u, hu⟩, _⟩ := R.there m
      rw [hp] at hu; cases hu
    have hp2 : H2 p = some (.dK []) := s2.keep p _ upd_same pF
    have hb2 : B2 p = none := by
      cases q : B2 p with
      | none => rfl
      | some o =>
        rcases s2.nb p (R.ex.none hp) (by rw [q]; exact fun z => nomatch z) with z | z
        · exact absurd z pF
        · rw [upd_same] at z; cases z
    have pF2 : p ∉ F2 := fun m => by
      rcases s2.fr p (List.mem_append_left _ m) with z | z
      · exact pF z
      · rw [upd_same] at z; cases z
    refine ⟨hp2, ?_⟩
    cases qd : getAll e2 os with
    | none => simp only [qd] at h1; exact h1.elim
    | some ds =>
      simp only [qd] at h1
      unfold fDisp at h1
      cases qp : pairsD ds with
      | none => simp only [qp] at h1; exact h1.elim
      | some kd =>
        simp only [qp] at h1
        by_cases hl : kd.length ≤ 15
        · rw [if_pos hl] at h1
          obtain ⟨kvs, rfl, ek, rk⟩ := pairs_ok (getAll_rep R2 r2 qd) qp
          have hlen : kvs.length = kd.length := by have := congrArg List.length ek; simpa using this
          refine ⟨kvs, rfl, by omega, ?_⟩
          obtain ⟨m1, m2⟩ := merge_ok (us := []) (xs := []) ek rk rfl .nil
          refine h1 (.ref p) B2 _ F2 [p] (R2.upd pF2 hb2) (.dicO upd_same hb2 m1 (Reps.up (Ex.refl B2) m2)) ?_ ?_
          · refine List.nodup_append.mpr ⟨(List.nodup_append.mp nd2).1, by simp, fun x m y m' z => ?_⟩
            rw [List.mem_singleton] at m'
            subst m' z
            exact pF2 m
          · have st : Step B H F B2 H2 (F2 ++ [p]) := (l.step F).trans ((s2.less fun a m => List.mem_append_left _ m).hold (fun a m => List.mem_append_right _ m) fun a m => List.mem_append_left _ m)
            exact st.trans (Step.upd (List.mem_append_right _ (by simp)) ⟨_, hp2⟩)
        · rw [if_neg hl] at h1
          exact h1.elim
  exact T_pairs main fun ps H h => h ps rfl
theorem dpps_nil : PPs X pos [] [] (([] : List (M OV × M OV)).map fun p => (TV X.K cl W p.1, TV X.K cl W p.2)) := pps_nil
theorem dpps_cons {k v : Expr} {ks : List (Option Expr)} {vs : List Expr} {mk mv : M OV} {ms : List (M OV × M OV)} (hk : PE X k (TV X.K cl W mk)) (hv : PE X v (TV X.K cl W mv)) (hr : PPs X pos ks vs (ms.map fun p => (TV X.K cl W p.1, TV X.K cl W p.2))) :
    PPs X pos (some k :: ks) (v :: vs) (((mk, mv) :: ms).map fun p => (TV X.K cl W p.1, TV X.K cl W p.2)) := pps_cons hk hv hr
theorem dpe_disp {keys : List (Option Expr)} {values : List Expr} {ms : List (M OV × M OV)} (h : PPs X pos keys values (ms.map fun p => (TV X.K cl W p.1, TV X.K cl W p.2))) (hall : keys.all (·.isSome) = true := by rfl) (hl : keys.length = values.length := by rfl) (h0 : keys ≠ [] := by exact fun z => nomatch z)
    (h15 : keys.length ≤ 15 := by decide) : PE X (.Dict keys values pos) (TV X.K cl W (mLoc fDisp (mArgs (flatM ms)))) := PE.weak (pe_disp h hall hl h0 h15) fun _ _ _ h => disp_ok h
theorem dpe_dict0 : PE X (.Dict [] [] pos) (TV X.K cl W (mPure (.tm (.dic true [])))) := PE.weak pe_dnewK fun σ H Q h p hp => by
  obtain ⟨B, e, F, R, h⟩ := h
  have l : Loc B H B (L2.upd H p (.dK [])) [p] := Loc.own R.ex hp
  exact h (.ref p) B _ F [p] (R.loc l) (.dicO upd_same (R.ex.none hp) rfl .nil) (R.locNd l) (l.step F)
end
end Dy
/-! Dy, part O: exceptions of own classes raised and caught. -/
namespace Dy
open PySem PySem.Spec PyProof.Rows L2 L2H

/-- an own class without own __init__, below ValueError -/
structure XC (K : PySem.W.Frag) (mg : Str → Option Value) (cl : Cl) (x : Str) (C : Addr) : Prop where
  ex : PySem.W.excIn K C [.type "ValueError", .type "Exception", .type "BaseException", .type "object"] "ValueError.__new__" = true
  g : mg x = some (.ref C)
  k : PySem.W.keepIn K (.ref C) = true
  b : PySem.W.subIn K (.ref C) (.type "BaseException") = some true
  t : PySem.W.typeIn K (.ref C) = some (.type "type")
  c : cl x = some C
section
variable {X : Cx} {cl : Cl} {W : WX} {P : List Nat} {K : PySem.W.Frag} {B H : Hp} {σ : L2.St} {e : Expr} {es : List Expr} {pos p : Pos} {x : Str} {C : Addr} {ms : List (M OV)}
theorem pmk5_0 (T : XC X.K X.mg cl x C) (hg : Gl X x := by rfl) (hdb : (x == ("__debug__" : Str)) = false := by decide) : PMk5 X (.Call (.Name x p) [] [] pos) (fun _ H Q => Q (.ref C) none H) := by
  intro pins s σ H Q I h
  refine wpAny_Call_Name_kw (ld_glob I hg T.g ?_ hdb)
  refine PySem.W.callWith_K0 I.kIn T.k ?_
  show wpAny _ _ (call (.ref C) []) _ _ _
  obtain ⟨bm, N, nm, qn, bs, hdct, sn, sub, ab, col, dd, k0, k1, k2, k3, k5, mN, hC, hN, hni, Tl⟩ := exc_obj I.kIn T.ex
  refine wpAny_call_exc_subT PySem.F.excBase_ValueError Tl hC hN hni (fun h' e hm => ?_) (Nat.zero_le _)
  exact mk_of5 I hm (raises_own T.b T.t) h (I.hok.gone hm.new)
theorem pmk5_A {t : TA} (T : XC X.K X.mg cl x C) (ha : PA X (e :: es) t) (hg : Gl X x := by rfl) (hdb : (x == ("__debug__" : Str)) = false := by decide)
    (he : starEach (e :: es) X.env = (false, eval e X.env) :: starEach es X.env := by rfl) (hpl : (backTo pos (starEach es X.env)).any (·.1) = false := by rfl) :
    PMk5 X (.Call (.Name x p) (e :: es) [] pos) (fun σ H Q => t σ H fun vs H1 => vs.length ≤ sizeLine ∧ Q (.ref C) none H1) := by
  intro pins s σ H Q I h
  refine wpAny_Call_Name_kw (ld_glob I hg T.g ?_ hdb)
  refine PySem.W.callWith_K (h₀ := X.base) I.ok.mod.kin T.k (thn (ha.run pos pins s σ H _ I h) fun us s1 ⟨vs, H1, I1, r1, hz, q1⟩ => ⟨I1.kIn, ?_⟩) he hpl
  show wpAny _ _ (call (.ref C) us) _ _ _
  obtain ⟨bm, N, nm, qn, bs, hdct, sn, sub, ab, col, dd, k0, k1, k2, k3, k5, mN, hC, hN, hni, Tl⟩ := exc_obj I1.kIn T.ex
  refine wpAny_call_exc_subT PySem.F.excBase_ValueError Tl hC hN hni (fun h' e hm => ?_) (by rw [← r1.length]; exact hz)
  exact mk_of5 I1 hm (raises_own T.b T.t) q1 (I1.hok.gone hm.new)
theorem pmk_of_n {t : L2.St → Hp → XK → Prop} (h : L2N.PMk X e t) : L2.PMk X e t := fun pins s σ H Q I q => thn (h pins s σ H Q I q) fun u s' ⟨a, oe, vs, sI, H', cls, d, e1, J, k, hn, ha, hz, hd, h1, na, os, ag, r, q'⟩ =>
  ⟨a, oe, vs, sI, H', cls, d, e1, J, k, hn, ha, hz.zc, hd, h1, na, os, ag, r, q'⟩
/-- raise x(..) -/
def mRaise (C : Str) (ma : M (List OV)) : MS := fun e => (ma e).bind fun _ e1 => .err (Exn.mk C []) e1
theorem raise_ok {Dn : Ends} (hC : cl x = some C) (hn : ms.length ≤ 1000) (h : TSm K cl W P (mRaise x (mArgs ms)) Dn σ H) : TVs K cl W (mArgs ms) σ H fun vs H1 => vs.length ≤ sizeLine ∧ W (.ref C) none σ H1 := by
  obtain ⟨B, e, F, R, h⟩ := h
  refine TS_go R h fun os e1 q h1 vs B1 H1 F1 f1 R1 r1 nd1 s1 => ⟨?_, h1 σ _ none B1 H1 F1 R1 (Keep.refl P σ) (s1.less fun a m => List.mem_append_left _ m) ⟨C, hC, rfl, rfl⟩⟩
  have l1 : ∀ {ms : List (M OV)} {e e1 : En} {os : List OV}, mArgs ms e = .ok os e1 → os.length = ms.length := by
    intro ms
    induction ms with
    | nil => intro e e1 os h; cases h; rfl
    | cons m ms ih =>
      intro e e1 os h
      unfold mArgs at h
      cases q1 : m e with
      | ok o e2 =>
        rw [q1, bind_ok] at h
        cases q2 : mArgs ms e2 with
        | ok os2 e3 =>
          rw [q2, bind_ok] at h
          cases h
          rw [List.length_cons, List.length_cons, ih q2]
        | err _ _ => rw [q2] at h; cases h
        | stuck => rw [q2] at h; cases h
      | err _ _ => rw [q1] at h; cases h
      | stuck => rw [q1] at h; cases h
  have l2 : ∀ {vs : List V} {os : List OV} {f : List Addr}, rOVs K cl σ B1 H1 vs os f → vs.length = os.length := by
    intro vs
    induction vs with
    | nil => intro os f r; cases os with
      | nil => rfl
      | cons _ _ => exact r.elim
    | cons v vs ih => intro os f r; cases os with
      | nil => exact r.elim
      | cons o os =>
        obtain ⟨_, _, _, _, r2⟩ := r
        rw [List.length_cons, List.length_cons, ih r2]
  rw [l2 r1, l1 q]
  exact szl (by omega)
theorem dps_raise0 {pos' : Pos} (hc : X.calm = true) (tk : L2.Takes X W) (T : XC X.K X.mg cl x C) (hg : Gl X x := by rfl) (hdb : (x == ("__debug__" : Str)) = false := by decide) :
    PS X (.Raise (some (.Call (.Name x p) [] [] pos)) none pos') (TSm X.K cl W P (mRaise x (mArgs []))) :=
  PS.weak (L2.ps_raise hc tk (pmk_of_n (pmk5_0 T hg hdb).pmk)) fun _ _ _ h => (args_nil (raise_ok T.c (Nat.zero_le _) h)).2
theorem dps_raise {pos' : Pos} (hc : X.calm = true) (tk : L2.Takes X W) (T : XC X.K X.mg cl x C) (ha : PA X (e :: es) (TVs X.K cl W (mArgs ms))) (hn : ms.length ≤ 1000 := by decide) (hg : Gl X x := by rfl) (hdb : (x == ("__debug__" : Str)) = false := by decide)
    (he : starEach (e :: es) X.env = (false, eval e X.env) :: starEach es X.env := by rfl) (hpl : (backTo pos (starEach es X.env)).any (·.1) = false := by rfl) :
    PS X (.Raise (some (.Call (.Name x p) (e :: es) [] pos)) none pos') (TSm X.K cl W P (mRaise x (mArgs ms))) :=
  PS.weak (L2.ps_raise hc tk (pmk_of_n (pmk5_A T ha hg hdb he hpl).pmk)) fun _ _ _ h => raise_ok T.c hn h
/-- .. where the context is None (a def called in a try of ps_try_onlyX) -/
theorem dps_raiseN0 {pos' : Pos} (hc : X.calm = true) (tk : L2N.Takes X W) (T : XC X.K X.mg cl x C) (hg : Gl X x := by rfl) (hdb : (x == ("__debug__" : Str)) = false := by decide) :
    PS X (.Raise (some (.Call (.Name x p) [] [] pos)) none pos') (TSm X.K cl W P (mRaise x (mArgs []))) :=
  PS.weak (L2N.ps_raise hc tk (pmk5_0 T hg hdb).pmk) fun _ _ _ h => (args_nil (raise_ok T.c (Nat.zero_le _) h)).2
theorem dps_raiseN {pos' : Pos} (hc : X.calm = true) (tk : L2N.Takes X W) (T : XC X.K X.mg cl x C) (ha : PA X (e :: es) (TVs X.K cl W (mArgs ms))) (hn : ms.length ≤ 1000 := by decide) (hg : Gl X x := by rfl) (hdb : (x == ("__debug__" : Str)) = false := by decide)
    (he : starEach (e :: es) X.env = (false, eval e X.env) :: starEach es X.env := by rfl) (hpl : (backTo pos (starEach es X.env)).any (·.1) = false := by rfl) :
    PS X (.Raise (some (.Call (.Name x p) (e :: es) [] pos)) none pos') (TSm X.K cl W P (mRaise x (mArgs ms))) :=
  PS.weak (L2N.ps_raise hc tk (pmk5_A T ha hg hdb he hpl).pmk) fun _ _ _ h => raise_ok T.c hn h
/-- in an except suite, from None -/
theorem dps_raiseH0 {j : Nat} {cpos pos' : Pos} (hc : HotC X) (tk : L2.Takes X W) (T : XC X.K X.mg cl x C) (hg : Gl X x := by rfl) (hdb : (x == ("__debug__" : Str)) = false := by decide) :
    PS X (.Raise (some (.Call (.Name x p) [] [] pos)) (some (.Constant .none j cpos)) pos') (TSm X.K cl W P (mRaise x (mArgs []))) :=
  PS.weak (ps_raiseHN hc tk (pmk5_0 T hg hdb)) fun _ _ _ h => (args_nil (raise_ok T.c (Nat.zero_le _) h)).2
theorem dps_raiseH {j : Nat} {cpos pos' : Pos} (hc : HotC X) (tk : L2.Takes X W) (T : XC X.K X.mg cl x C) (ha : PA X (e :: es) (TVs X.K cl W (mArgs ms))) (hn : ms.length ≤ 1000 := by decide) (hg : Gl X x := by rfl) (hdb : (x == ("__debug__" : Str)) = false := by decide)
    (he : starEach (e :: es) X.env = (false, eval e X.env) :: starEach es X.env := by rfl) (hpl : (backTo pos (starEach es X.env)).any (·.1) = false := by rfl) :
    PS X (.Raise (some (.Call (.Name x p) (e :: es) [] pos)) (some (.Constant .none j cpos)) pos') (TSm X.K cl W P (mRaise x (mArgs ms))) :=
  PS.weak (ps_raiseHN hc tk (pmk5_A T ha hg hdb he hpl)) fun _ _ _ h => raise_ok T.c hn h
end

/-! ### try: .. except x: .. -/
/-- what of the classes the clause names -/
structure Caught (K : PySem.W.Frag) (cl : Cl) (c : Value) (ct : Str → Option Bool) : Prop where
  is : ∀ C Ca b, cl C = some Ca → ct C = some b → PySem.W.exmOne K (.ref Ca) c = some b
def mTryO (ct : Str → Option Bool) (mb ms : MS) : MS := fun e => match mb e with
  | .err (.mk C fs) e1 => match ct C with
    | some true => ms e1
    | some false => .err (.mk C fs) e1
    | none => .stuck
  | r => r
section
variable {X : Cx} {cl : Cl} {W : WX} {P : List Nat} {K : PySem.W.Frag} {B H : Hp} {F : List Addr} {σ : L2.St} {e : En} {Dn : Ends} {mb ms : MS} {c : Value} {ct : Str → Option Bool}
/-- a statement's end with another wish about exceptions, for those that come -/
theorem FinS.wish {W' : WX} {r : Res Fl} (h : FinS K cl W P σ B H F r Dn) (w : ∀ x e', r = .err x e' → FinS K cl W' P σ B H F (.err x e') Dn) : FinS K cl W' P σ B H F r Dn := by
  cases r with
  | ok a e' => cases a <;> exact h
  | err x e' => exact w x e' rfl
  | stuck => exact h.elim
theorem tryO_ok (hc : Caught K cl c ct) (h : TSm K cl W P (mTryO ct mb ms) Dn σ H) : TSm K cl (wOnly K c (fun _ _ _ => TSm K cl W P ms) W Dn) P mb Dn σ H := by
  obtain ⟨B, e, F, R, h⟩ := h
  refine ⟨B, e, F, R, ?_⟩
  unfold mTryO at h
  cases q : mb e with
  | ok a e' => rw [q] at h; cases a <;> exact h
  | stuck => rw [q] at h; exact h
  | err x e' =>
    rw [q] at h
    obtain ⟨C, fs⟩ := x
    intro σ' cv dd B' H' F' R' kp st xa
    obtain ⟨Ca, hCa, rfl, hd⟩ := id xa
    cases qc : ct C with
    | none => simp only [qc] at h; exact h.elim
    | some b =>
      refine ⟨b, hc.is C Ca b hCa qc, fun hb a _ => ?_, fun hb => ?_⟩
      · subst hb
        simp only [qc] at h
        exact ⟨B', e', F', R', h.shift st kp⟩
      · subst hb
        simp only [qc] at h
        exact h σ' _ dd B' H' F' R' kp st xa
theorem dps_tryO {x : Str} {body suite : List Stmt} {b₀ : Stmt} {np pos pos' : Pos} (hs : X.stack = X.env :: X.outer) (hf : X.env.frame = some X.env.locals) (hx : Names X x c) (hc : Caught X.K cl c ct) (tk : L2.Takes X W)
    (hb : ∀ (W : WX) (pn : List (Addr × Obj)) (xe : Value → Shared → Prop), L2.Takes (X.tr pn xe) W → PassesOwn (model X.prog X.w) X.A X.env xe → PSs (X.tr pn xe) body (TSm X.K cl W P mb))
    (hsu : ∀ (a : Addr) (pn : List (Addr × Obj)), PSs (X.suite a pn) (b₀ :: suite) (TSm X.K cl W P ms)) :
    PS X (.Try body [.ExceptHandler (some (.Name x np)) none (b₀ :: suite) pos'] [] [] pos) (TSm X.K cl W P (mTryO ct mb ms)) :=
  PS.weak (ps_try_only (tb := fun W => TSm X.K cl W P mb) (ts := fun _ _ _ => TSm X.K cl W P ms) hs hf hx tk hb fun a oe cls d pn _ _ => hsu a _) fun _ _ _ h => tryO_ok hc h
/-- .. where the suite raises -/
theorem dps_tryX {x : Str} {body suite : List Stmt} {b₀ : Stmt} {np pos pos' : Pos} (hs : X.stack = X.env :: X.outer) (hf : X.env.frame = some X.env.locals) (hx : Names X x c) (hc : Caught X.K cl c ct) (hpa : ∀ hd : Option Value, PassesOwnAt (model X.prog X.w) (X.A.mark hd) X.A X.env X.xe) (tk : L2.Takes X W)
    (hb : ∀ (W : WX) (pn : List (Addr × Obj)) (xe : Value → Shared → Prop), L2N.Takes (X.tr pn xe) W → PassesOwn (model X.prog X.w) X.A X.env xe → PSs (X.tr pn xe) body (TSm X.K cl W P mb))
    (hsu : ∀ (a : Addr) (pn : List (Addr × Obj)), L2.Takes (suiteX X a pn) W → HotC (suiteX X a pn) → PSs (suiteX X a pn) (b₀ :: suite) (TSm X.K cl W P ms)) :
    PS X (.Try body [.ExceptHandler (some (.Name x np)) none (b₀ :: suite) pos'] [] [] pos) (TSm X.K cl W P (mTryO ct mb ms)) :=
  PS.weak (ps_try_onlyX (tb := fun W => TSm X.K cl W P mb) (ts := fun _ _ _ => TSm X.K cl W P ms) hs hf hx hpa tk (fun W pn xe h1 _ h2 => hb W pn xe h1 h2) fun a oe cls d pn _ _ h1 h2 => hsu a _ h1 h2) fun _ _ _ h => tryO_ok hc h
end
end Dy
/-! Dy, part P: except x as n; what n is asked. -/
namespace Dy
open PySem PySem.Spec PyProof.Rows L2 L2H

/-- the names, with what the suite holds -/
def Cl.caught (cl : Cl) (a : Addr) (c : Value) (d : Option Addr) : Cl := fun s =>
  if s = "#exc" then some a else if s = "#cls" then (match c with | .ref Ca => some Ca | _ => none) else if s = "#d" then d else cl s
structure Cl.Free (cl : Cl) : Prop where
  e : cl "#exc" = none
  c : cl "#cls" = none
  d : cl "#d" = none
section
variable {cl : Cl} {a : Addr} {c : Value} {d : Option Addr}
theorem caught_up (hf : cl.Free) : ∀ C x, cl C = some x → cl.caught a c d C = some x := fun C x h => by
  unfold Cl.caught
  have h1 : C ≠ "#exc" := fun z => by rw [z, hf.e] at h; cases h
  have h2 : C ≠ "#cls" := fun z => by rw [z, hf.c] at h; cases h
  have h3 : C ≠ "#d" := fun z => by rw [z, hf.d] at h; cases h
  rw [if_neg h1, if_neg h2, if_neg h3]
  exact h
theorem caught_down : ∀ C x, okNm C = true → cl.caught a c d C = some x → cl C = some x := fun C x hk h => by
  unfold okNm at hk
  simp only [Bool.and_eq_true, bne_iff_ne, ne_eq] at hk
  unfold Cl.caught at h
  rw [if_neg hk.1.1, if_neg hk.1.2, if_neg hk.2] at h
  exact h
end
def noXE (e : En) : Bool := e.all fun o => match o with
  | some d => d.noX
  | none => true
section
variable {K : PySem.W.Frag} {cl cl' : Cl} {B H : Hp}
theorem RepE.recl (hc : ∀ C a, cl C = Option.some a → cl' C = Option.some a) : ∀ {σ e F}, RepE K cl B H σ e F → RepE K cl' B H σ e F
  | _, _, _, .nil => .nil
  | _, _, _, .none r => .none (RepE.recl hc r)
  | _, _, _, .some r t => .some (r.recl hc) (RepE.recl hc t)
theorem RepE.uncl (hc : ∀ C a, okNm C = true → cl C = Option.some a → cl' C = Option.some a) : ∀ {σ e F}, RepE K cl B H σ e F → noXE e = true → RepE K cl' B H σ e F
  | _, _, _, .nil, _ => .nil
  | _, _, _, .none r, z => .none (RepE.uncl hc r (by simpa [noXE] using z))
  | _, _, _, .some r t, z => by
    unfold noXE at z
    rw [List.all_cons, Bool.and_eq_true] at z
    exact .some (r.uncl hc z.1) (RepE.uncl hc t z.2)
/-- what stands in an unknown slot may be anything -/
theorem RepE.unset : ∀ {σ : List (Option V)} {e : En} {F : List Addr} {i : Nat} {x : Option V}, RepE K cl B H σ e F → e[i]? = Option.some Option.none → RepE K cl B H (σ.set i x) e F
  | _, _, _, _, _, .nil, h => by simp at h
  | _, _, _, 0, _, .none r, _ => .none r
  | _, _, _, i + 1, _, .none r, h => .none (RepE.unset (i := i) r (by simpa using h))
  | _, _, _, 0, _, .some r t, h => by simp at h
  | _, _, _, i + 1, _, .some r t, h => .some r (RepE.unset (i := i) t (by simpa using h))
end
def mTryA (i : Nat) (ct : Str → Option Bool) (mb ms : MS) : MS := fun e => match mb e with
  | .err (.mk C fs) e1 => match ct C with
    | some true => if fs.isEmpty = true ∧ i < e1.length then (match ms (e1.set i (some (.exc C []))) with
      | .ok (.rt d) e2 => if i < e2.length ∧ d.noX = true ∧ noXE (e2.set i none) = true then .ok (.rt d) (e2.set i none) else .stuck
      | .ok f e2 => if i < e2.length ∧ noXE (e2.set i none) = true then .ok f (e2.set i none) else .stuck
      | _ => .stuck) else .stuck
    | some false => .err (.mk C fs) e1
    | none => .stuck
  | r => r
section
variable {X : Cx} {cl : Cl} {W : WX} {P : List Nat} {K : PySem.W.Frag} {B H : Hp} {F : List Addr} {σ : L2.St} {e : En} {Dn : Ends} {mb ms : MS} {c : Value} {ct : Str → Option Bool} {i : Nat}
/-- out of the suite: the name is forgotten -/
theorem out_ok {cl' : Cl} {σ' : L2.St} {e2 : En} (hd : ∀ C a, okNm C = true → cl' C = some a → cl C = some a) (R : Rel K cl' B H σ' e2 F) (hi : i < e2.length) (hz : noXE (e2.set i none) = true) :
    ∃ F', Rel K cl B H (σ'.set i none) (e2.set i none) F' ∧ Rel K cl B H σ' (e2.set i none) F' ∧ ∀ a ∈ F', a ∈ F := by
  obtain ⟨f, g, hp, re⟩ := R.rep.drop i
  have re' := re.uncl hd hz
  have ng : g.Nodup := (List.nodup_append.mp (hp.nodup_iff.mp R.nd)).2.1
  exact ⟨g, ⟨re'.unset (by simp [hi]), ng, R.ex⟩, ⟨re', ng, R.ex⟩, fun a m => hp.mem_iff.mpr (List.mem_append_right _ m)⟩
theorem tryA_ok (hc : Caught K cl c ct) (hf : cl.Free) (hP : P.contains i = false) (h : TSm K cl W P (mTryA i ct mb ms) Dn σ H) :
    TSm K cl (wAs K c i (fun a cls d Dn σ H => d = none ∧ TSm K (cl.caught a cls none) W0 P ms Dn σ H) W Dn) P mb Dn σ H := by
  obtain ⟨B, e, F, R, h⟩ := h
  refine ⟨B, e, F, R, ?_⟩
  unfold mTryA at h
  cases q : mb e with
  | ok a e' => rw [q] at h; cases a <;> exact h
  | stuck => rw [q] at h; exact h
  | err x e' =>
    rw [q] at h
    obtain ⟨C, fs⟩ := x
    intro σ' cv dd B' H' F' R' kp st xa
    obtain ⟨Ca, hCa, rfl, hd⟩ := id xa
    cases qc : ct C with
    | none => simp only [qc] at h; exact h.elim
    | some b =>
      refine ⟨b, hc.is C Ca b hCa qc, fun hb a _ => ?_, fun hb => ?_⟩
      · subst hb
        simp only [qc] at h
        split at h
        · rename_i hfs
          obtain ⟨hfs, hi⟩ := hfs
          have : fs = [] := by simpa using hfs
          subst this
          refine ⟨hd, ?_⟩
          have R1 : Rel K (cl.caught a (.ref Ca) none) B' H' σ' e' F' := ⟨R'.rep.recl (caught_up hf), R'.nd, R'.ex⟩
          have rx : Rep K (cl.caught a (.ref Ca) none) B' H' (.ref a) (.exc C []) [] := .exc (by unfold Cl.caught; rw [if_pos rfl]) (by unfold Cl.caught; rw [if_neg (by decide), if_pos rfl]) (caught_up hf C Ca hCa)
          obtain ⟨F2, R2, sub2⟩ := R1.store hi rx (by rw [List.append_nil]; exact R1.nd)
          rw [List.append_nil] at sub2
          refine ⟨B', _, F2, R2, ?_⟩
          have kp2 : Keep P σ (σ'.set i (some (.ref a))) := kp.trans (Keep.set hP)
          have st2 : Step B H F B' H' F2 := st.less sub2
          cases qm : ms (e'.set i (some (.exc C []))) with
          | stuck => rw [qm] at h; exact h.elim
          | err _ _ => rw [qm] at h; exact h.elim
          | ok f e2 =>
            rw [qm] at h
            cases f with
            | nx =>
              simp only at h
              split at h
              · rename_i hz
                intro σ3 B3 H3 F3 R3 k3 s3
                obtain ⟨F4, R4, _, sub4⟩ := out_ok caught_down R3 hz.1 hz.2
                exact h _ B3 H3 F4 R4 ((kp2.trans k3).trans (Keep.set hP)) ((st2.trans s3).less sub4)
              · exact h.elim
            | bk =>
              simp only at h
              split at h
              · rename_i hz
                intro σ3 B3 H3 F3 R3 k3 s3
                obtain ⟨F4, R4, _, sub4⟩ := out_ok caught_down R3 hz.1 hz.2
                exact h _ B3 H3 F4 R4 ((kp2.trans k3).trans (Keep.set hP)) ((st2.trans s3).less sub4)
              · exact h.elim
            | ct =>
              simp only at h
              split at h
              · rename_i hz
                intro σ3 B3 H3 F3 R3 k3 s3
                obtain ⟨F4, R4, _, sub4⟩ := out_ok caught_down R3 hz.1 hz.2
                exact h _ B3 H3 F4 R4 ((kp2.trans k3).trans (Keep.set hP)) ((st2.trans s3).less sub4)
              · exact h.elim
            | rt d =>
              simp only at h
              split at h
              · rename_i hz
                intro σ3 v B3 H3 F3 f3 R3 r3 nd3 k3 s3
                obtain ⟨F4, _, R4, sub4⟩ := out_ok caught_down R3 hz.1 hz.2.2
                have sub5 : ∀ x ∈ F4 ++ f3, x ∈ F3 ++ f3 := fun x m => by
                  rcases List.mem_append.mp m with m | m
                  · exact List.mem_append_left _ (sub4 x m)
                  · exact List.mem_append_right _ m
                refine h σ3 v B3 H3 F4 f3 R4 (r3.uncl caught_down hz.2.1) ?_ (kp2.trans k3) ((st2.trans s3).less sub5)
                obtain ⟨n1, n2, n3⟩ := List.nodup_append.mp nd3
                exact List.nodup_append.mpr ⟨R4.nd, n2, fun x m y m' z => n3 x (sub4 x m) y m' z⟩
              · exact h.elim
        · exact h.elim
      · subst hb
        simp only [qc] at h
        exact h σ' _ dd B' H' F' R' kp st xa
theorem dps_tryA {x n : Str} {body suite : List Stmt} {b₀ : Stmt} {np pos pos' : Pos} (hf' : cl.Free) (hP : P.contains i = false) (hs : X.stack = X.env :: X.outer) (hf : X.env.frame = some X.env.locals) (hN : X.N.Nodup) (hi : X.N[i]? = some n) (hln : X.env.kindOf n = some .local) (hx : Names X x c) (hc : Caught X.K cl c ct) (tk : L2.Takes X W)
    (hb : ∀ (W : WX) (pn : List (Addr × Obj)) (xe : Value → Shared → Prop), L2.Takes (X.tr pn xe) W → PassesOwn (model X.prog X.w) X.A X.env xe → PSs (X.tr pn xe) body (TSm X.K cl W P mb))
    (hsu : ∀ (a : Addr) (oe : Obj) (cls : Value) (pn : List (Addr × Obj)), Zc cls none oe → (∃ vs, oe.data = .fields vs) → PSs (X.suite a ((a, oe) :: pn)) (b₀ :: suite) (TSm X.K (cl.caught a cls none) W0 P ms)) :
    PS X (.Try body [.ExceptHandler (some (.Name x np)) (some n) (b₀ :: suite) pos'] [] [] pos) (TSm X.K cl W P (mTryA i ct mb ms)) :=
  PS.weak (L2.ps_try_as (tb := fun W => TSm X.K cl W P mb) (ts := fun a cls d Dn σ H => d = none ∧ TSm X.K (cl.caught a cls none) W0 P ms Dn σ H) hs hf hN hi hln hx tk hb (fun a oe cls d pn hz hv => by
    cases d with
    | none => exact PSs.weak (hsu a oe cls pn hz hv) fun _ _ _ h => h.2
    | some x => exact ⟨fun _ _ _ _ _ _ h => nomatch h.1⟩)) fun _ _ _ h => tryA_ok hc hf' hP h
end

/-! ### isinstance(n, ..), n what the suite holds -/
structure ExcK (K : PySem.W.Frag) (D : Addr) : Prop where
  hc : (PySem.W.clsIn K D).isSome = true
  hg : PySem.W.findIn K (.ref D) "__getattribute__" = some (some (.builtin "BaseException.__getattribute__"))
  hk : ∃ gt, PySem.W.findIn K (.ref D) "__getattr__" = some gt
  hs : PySem.W.subIn K (.ref D) (.type "BaseException") = some true
  ha : PySem.W.findIn K (.ref D) "__class__" = some (some (.builtin "object.__class__"))
  hn : PySem.W.specialIn K (.builtin "object.__class__") "__get__" = some (some (.builtin "getset_descriptor.__get__"))
  ht : PySem.W.takesIn K (.builtin "object.__class__") = some true
  hm : PySem.W.mroIn K D (.type "object") = some true
def rIsX (K : PySem.W.Frag) (C : Addr) (a : Addr) : List V → Hp → VK → Prop := fun xs H Q => ∃ (c : V) (u : Value) (b : Bool), xs = [.ref a, c] ∧ ClsV c u ∧ PySem.W.kitOne K (.ref C) u = some b ∧ Q (.bl b) H
def rIsXT (K : PySem.W.Frag) (C : Addr) (a : Addr) : List V → Hp → VK → Prop := fun xs H Q => ∃ (tp : Addr) (cs : List V) (us : List Value) (b : Bool), xs = [.ref a, .ref tp] ∧ H tp = some (.tup cs) ∧ Paired ClsV cs us ∧ PySem.W.kitAny K (.ref C) us = some b ∧ Q (.bl b) H
section
variable {X : Cx} {a C : Addr} {oe : Obj} {d : Option Addr} {pn : List (Addr × Obj)}
theorem inst_pin {pins : List (Addr × Obj)} {σ : L2.St} {H : Hp} {s : Shared} (I : Inv (X.suite a ((a, oe) :: pn)) pins σ H s) (hz : Zc (.ref C) d oe) (hf : ∃ vs, oe.data = .fields vs) (hd : d = none) : PySem.W.InstAt s.heap a oe C none := by
  obtain ⟨hget, _⟩ := I.pin (a, oe) (List.mem_append.mpr (.inl List.mem_cons_self))
  obtain ⟨vs, hv⟩ := hf
  obtain ⟨oc, od, oda, osl⟩ := oe
  obtain ⟨h1, h2⟩ := hz
  dsimp only at h1 h2 hv
  subst h1 h2 hv hd
  exact ⟨hget, rfl, rfl, trivial⟩
theorem call_isX (E : ExcK X.K C) (hz : Zc (.ref C) d oe) (hf : ∃ vs, oe.data = .fields vs) (hd : d = none) : CallR (X.suite a ((a, oe) :: pn)) (.builtin "isinstance") (rIsX X.K C a) := by
  intro pins s σ H xs us Q I r h
  obtain ⟨c, u, b, rfl, k, e, q⟩ := h
  obtain ⟨u1, u2, rfl, r1, r2⟩ := vals2 r
  have e2 := k.eq r2
  subst e2
  cases (show u1 = Value.ref a from r1)
  obtain ⟨gt, hk⟩ := E.hk
  exact PySem.W.kia_one (PySem.W.kitx_exc E.hc E.hg hk E.hs E.ha E.hn E.ht E.hm) I.kIn (inst_pin I hz hf hd) e (fun z => nomatch z) fun tk => ⟨.bl b, H, I.tok tk, rfl, q⟩
theorem call_isXT (E : ExcK X.K C) (hz : Zc (.ref C) d oe) (hf : ∃ vs, oe.data = .fields vs) (hd : d = none) : CallR (X.suite a ((a, oe) :: pn)) (.builtin "isinstance") (rIsXT X.K C a) := by
  intro pins s σ H xs us Q I r h
  obtain ⟨tp, cs, ws, b, rfl, hT, k, e, q⟩ := h
  obtain ⟨u1, u2, rfl, r1, r2⟩ := vals2 r
  cases (show u2 = Value.ref tp from r2)
  cases (show u1 = Value.ref a from r1)
  obtain ⟨_, its, rv, o, h1, h2, n, h3⟩ := (show ObjOk X.prog X.w H s.heap tp (.tup cs) from I.hok tp _ hT)
  have e3 := ClsV.all k rv
  subst e3
  obtain ⟨oc, od, dt, sl⟩ := o
  simp only at h2 h3
  subst h2 h3
  obtain ⟨gt, hk⟩ := E.hk
  exact PySem.W.kia_tup (PySem.W.kitx_exc E.hc E.hg hk E.hs E.ha E.hn E.ht E.hm) I.kIn (inst_pin I hz hf hd) h1 e (fun z => nomatch z) fun tk => ⟨.bl b, H, I.tok tk, rfl, q⟩
end
/-- the classes of the text, as values -/
theorem pe_cls {X : Cx} {x : Str} {C : Addr} {pos : Pos} (hm : X.mg x = some (.ref C)) (hg : Gl X x := by rfl) (hd : (x == ("__debug__" : Str)) = false := by decide) : PE X (.Name x pos) (tC (.ref C)) := pe_glob hg hm rfl hd
theorem pa_cls_cons {X : Cx} {x : Str} {C : Addr} {pos : Pos} {es : List Expr} {cs : List V} (hm : X.mg x = some (.ref C)) (h : PA X es (tCs cs)) (hg : Gl X x := by rfl) (hd : (x == ("__debug__" : Str)) = false := by decide)
    (he : starEach (.Name x pos :: es) X.env = (false, eval (.Name x pos) X.env) :: starEach es X.env := by rfl) : PA X (.Name x pos :: es) (tCs (.ref C :: cs)) :=
  PA.weak (pa_cons (pe_cls hm hg hd) h he) fun _ _ _ h => h
/-- tb: of the classes, whether they are among the us -/
structure IsTab (K : PySem.W.Frag) (cl : Cl) (us : List Value) (tb : Str → Option Bool) : Prop where
  is : ∀ C Ca b, cl C = some Ca → tb C = some b → ExcK K Ca ∧ PySem.W.kitAny K (.ref Ca) us = some b
def mIsX (tb : Str → Option Bool) (i : Nat) : M OV := fun e => match e[i]? with
  | some (some (.exc C [])) => match okNm C, tb C with
    | true, some b => .ok (.tm (.bl b)) e
    | _, _ => .stuck
  | _ => .stuck
theorem kitAny_one {K : PySem.W.Frag} {t c : Value} {b : Bool} (h : PySem.W.kitAny K t [c] = some b) : PySem.W.kitOne K t c = some b := by
  unfold PySem.W.kitAny at h
  cases q : PySem.W.kitOne K t c with
  | none => rw [q] at h; cases h
  | some x =>
    rw [q] at h
    cases x with
    | true => exact h
    | false => exact h
section
variable {X : Cx} {cl : Cl} {W : WX} {a : Addr} {oe : Obj} {cls : Value} {d : Option Addr} {pn : List (Addr × Obj)} {i : Nat} {tb : Str → Option Bool} {n : Str} {p p1 p2 pos : Pos}
/-- what the name holds -/
theorem exc_at {K : PySem.W.Frag} {B H : Hp} {σ : L2.St} {e : En} {F : List Addr} {C : Str} (R : Rel K (cl.caught a cls d) B H σ e F) (h : e[i]? = some (some (.exc C []))) (hk : okNm C = true) : σ[i]? = some (some (.ref a)) ∧ ∃ Ca, cls = .ref Ca ∧ cl C = some Ca := by
  obtain ⟨v, f, g, hv, hr, _, _⟩ := R.rep.take h
  have key : ∀ {a' Ca : Addr}, cl.caught a cls d "#exc" = some a' → cl.caught a cls d "#cls" = some Ca → cl.caught a cls d C = some Ca → a' = a ∧ cls = .ref Ca ∧ cl C = some Ca := fun {a' Ca} h1 h2 h3 => by
    refine ⟨?_, ?_, caught_down C Ca hk h3⟩
    · unfold Cl.caught at h1
      rw [if_pos rfl] at h1
      exact (Option.some.inj h1).symm
    · unfold Cl.caught at h2
      rw [if_neg (by decide), if_pos rfl] at h2
      split at h2
      · rw [Option.some.inj h2]
      · cases h2
  cases hr with
  | exc h1 h2 h3 =>
    obtain ⟨rfl, k2, k3⟩ := key h1 h2 h3
    exact ⟨hv, _, k2, k3⟩
  | excF h1 h2 h3 h4 h5 e6 r6 =>
    obtain ⟨rfl, k2, k3⟩ := key h1 h2 h3
    exact ⟨hv, _, k2, k3⟩
/-- isinstance(n, (C1, ..)) or isinstance(n, C): both through the wish about the arguments -/
theorem isX_ok {K : PySem.W.Frag} {us : List Value} {σ : L2.St} {H : Hp} {Q : VK} (T : IsTab K cl us tb) (h : TV K (cl.caught a cls d) W (mIsX tb i) σ H Q) :
    σ[i]? = some (some (.ref a)) ∧ ∃ Ca b, cls = .ref Ca ∧ ExcK K Ca ∧ PySem.W.kitAny K (.ref Ca) us = some b ∧ ∀ H', L2.Same H H' → (∀ p o, H' p = some o → H p = some o ∨ H p = none) → Ex H H' → Q (.bl b) H' := by
  obtain ⟨B, e, F, R, h⟩ := h
  unfold mIsX at h
  split at h
  · rename_i C hx
    split at h
    · rename_i b hk hb
      obtain ⟨h1, Ca, h2, h3⟩ := exc_at R hx hk
      obtain ⟨t1, t2⟩ := T.is C Ca b h3 hb
      refine ⟨h1, Ca, b, h2, t1, t2, fun H' _ _ ex => ?_⟩
      have l : Loc B H B H' [] := ⟨Ex.refl B, ex, fun _ z n => absurd z n, fun _ m => (nomatch m), List.nodup_nil, R.ex.trans ex, fun _ m => (nomatch m)⟩
      exact h _ B H' F [] (R.loc l) .bl (by rw [List.append_nil]; exact R.nd) (l.step F)
    · exact h.elim
  · exact h.elim
theorem dpe_isX {T : Str} {cv : V} {u : Value} (hz : Zc cls d oe) (hf : ∃ vs, oe.data = .fields vs) (hd : d = none) (hm : X.mg "isinstance" = none) (hN : X.N[i]? = some n) (hv : Vis X.env.scope n) (hT : PE (X.suite a ((a, oe) :: pn)) (.Name T p2) (tC cv)) (hcv : ClsV cv u) (tab : IsTab X.K cl [u] tb)
    (hg : Gl X "isinstance" := by rfl) (hd1 : (n == ("__debug__" : Str)) = false := by decide) (hd2 : (n == ("__classdict__" : Str)) = false := by decide)
    (he : starEach (.Name n p1 :: [.Name T p2]) X.env = (false, eval (.Name n p1) X.env) :: starEach [.Name T p2] X.env := by rfl) (he2 : starEach [.Name T p2] X.env = (false, eval (.Name T p2) X.env) :: starEach [] X.env := by rfl) :
    PE (X.suite a ((a, oe) :: pn)) (.Call (.Name "isinstance" p) [.Name n p1, .Name T p2] [] pos) (TV X.K (cl.caught a cls d) W (mIsX tb i)) := by
  have hvB : bootBuiltins "isinstance" = some (.builtin "isinstance") := by decide +kernel
  have pa : PA (X.suite a ((a, oe) :: pn)) [.Name n p1, .Name T p2] (tCons (tVar i) (tCons (tC cv) tNil)) := pa_cons (pe_var hN hv hd1 hd2) (pa_cons hT pa_nil he2) he
  refine ⟨fun pins s σ H Q I h => ?_⟩
  obtain ⟨h1, Ca, b, rfl, E, hk, q⟩ := isX_ok tab h
  exact (pe_callB (call_isX E hz hf hd) hg hm hvB pa (by decide) (by decide) he).run pins s σ H Q I ⟨_, h1, cv, u, b, rfl, hcv, kitAny_one hk, q H (L2.Same.refl H) (fun _ _ z => .inl z) (Ex.refl H)⟩
theorem dpe_isXT {es : List Expr} {k2} {cs : List V} {us : List Value} (hz : Zc cls d oe) (hf : ∃ vs, oe.data = .fields vs) (hd : d = none) (hm : X.mg "isinstance" = none) (hN : X.N[i]? = some n) (hv : Vis X.env.scope n) (hes : PA (X.suite a ((a, oe) :: pn)) es (tCs cs)) (hcs : Paired ClsV cs us) (hl : cs.length ≤ 1000) (tab : IsTab X.K cl us tb)
    (hg : Gl X "isinstance" := by rfl) (hd1 : (n == ("__debug__" : Str)) = false := by decide) (hd2 : (n == ("__classdict__" : Str)) = false := by decide)
    (he : starEach (.Name n p1 :: [.Tuple es k2 p2]) X.env = (false, eval (.Name n p1) X.env) :: starEach [.Tuple es k2 p2] X.env := by rfl) (he2 : starEach [.Tuple es k2 p2] X.env = (false, eval (.Tuple es k2 p2) X.env) :: starEach [] X.env := by rfl) :
    PE (X.suite a ((a, oe) :: pn)) (.Call (.Name "isinstance" p) [.Name n p1, .Tuple es k2 p2] [] pos) (TV X.K (cl.caught a cls d) W (mIsX tb i)) := by
  have hvB : bootBuiltins "isinstance" = some (.builtin "isinstance") := by decide +kernel
  have pa : PA (X.suite a ((a, oe) :: pn)) [.Name n p1, .Tuple es k2 p2] (tCons (tVar i) (tCons (tTup (tCs cs)) tNil)) := pa_cons (pe_var hN hv hd1 hd2) (pa_cons (pe_tup hes) pa_nil he2) he
  refine ⟨fun pins s σ H Q I h => ?_⟩
  obtain ⟨h1, Ca, b, rfl, E, hk, q⟩ := isX_ok tab h
  exact (pe_callB (call_isXT E hz hf hd) hg hm hvB pa (by decide) (by decide) he).run pins s σ H Q I ⟨_, h1, szl (by omega), fun p hp => ⟨p, cs, us, b, rfl, upd_same, hcs, hk, q _ (fun b o e => by rw [upd_ne fun z => by rw [z, hp] at e; cases e]; exact e) (fun b o e => by
    by_cases z : b = p
    · exact .inr (by rw [z]; exact hp)
    · rw [upd_ne z] at e; exact .inl e) (Ex.new hp)⟩⟩
end
end Dy
/-! Dy, part Q: defs and calls. modes: of each parameter, whether its object is handed back. -/
namespace Dy
open PySem PySem.Spec PyProof.Rows L2

inductive Ret where
  | ok (d : D) (ios : List D)
  | err (x : Exn) (ios : List D)
  | stuck
def sel {α : Type} : List Bool → List α → List α
  | true :: r, x :: xs => x :: sel r xs
  | false :: r, _ :: xs => sel r xs
  | _, _ => []
def ioSlots : List Bool → Nat → List Nat
  | [], _ => []
  | true :: r, i => i :: ioSlots r (i + 1)
  | false :: r, i => ioSlots r (i + 1)
def getIO (e : En) : List Nat → Option (List D)
  | [] => some []
  | i :: r => match e[i]?, getIO e r with
    | some (some d), some ds => some (d :: ds)
    | _, _ => none
def startE (n : Nat) (ds : List D) : En := ds.map some ++ List.replicate (n - ds.length) none
/-- what a def is, by its body -/
def mDef (n : Nat) (modes : List Bool) (m : MS) : List D → Ret := fun ds => match m (startE n ds) with
  | .ok .nx e => match getIO e (ioSlots modes 0) with
    | some ios => .ok .non ios
    | none => .stuck
  | .ok (.rt d) e => match getIO e (ioSlots modes 0) with
    | some ios => .ok d ios
    | none => .stuck
  | .err x e => match getIO e (ioSlots modes 0) with
    | some ios => .err x ios
    | none => .stuck
  | _ => .stuck
def spM (K : PySem.W.Frag) (cl : Cl) (fm : List D → Ret) (modes : List Bool) : Sp := fun vs H Q E => vs.length = modes.length ∧ ∃ B ds g, Reps K cl B H vs ds g ∧ g.Nodup ∧ Ex B H ∧ match fm ds with
  | .ok d ios => ∀ v B' H' g' f', Reps K cl B' H' (sel modes vs) ios g' → Rep K cl B' H' v d f' → (g' ++ f').Nodup → Step B H g B' H' (g' ++ f') → Ex B' H' → Q v H'
  | .err x ios => ∀ c dd B' H' g', Reps K cl B' H' (sel modes vs) ios g' → g'.Nodup → Step B H g B' H' g' → Ex B' H' → ExcAt K cl B' H' c dd x → E c dd H'
  | .stuck => False

/-! ### the def's side -/
section
variable {K : PySem.W.Frag} {cl : Cl} {B H : Hp} {F : List Addr} {σ : L2.St} {e : En}
theorem getIO_set {i : Nat} {x : Option D} : ∀ {is : List Nat} {e : En}, i ∉ is → getIO (e.set i x) is = getIO e is
  | [], _, _ => rfl
  | j :: is, e, h => by
    rw [getIO, getIO, getIO_set fun z => h (List.mem_cons_of_mem _ z), List.getElem?_set_ne fun z => h (by rw [z]; exact List.mem_cons_self)]
theorem getIO_ok : ∀ {is : List Nat} {e : En} {F : List Addr} {ds : List D}, RepE K cl B H σ e F → is.Nodup → getIO e is = some ds →
    ∃ vs g rest, is.map (fun i => σ[i]?) = vs.map (fun v => some (some v)) ∧ Reps K cl B H vs ds g ∧ F.Perm (g ++ rest)
  | [], _, F, _, _, _, h => by
    cases h
    exact ⟨[], [], F, rfl, .nil, List.Perm.refl _⟩
  | i :: is, e, F, ds, R, nd, h => by
    rw [getIO] at h
    split at h
    · rename_i d ds' h1 h2
      cases h
      obtain ⟨n1, n2⟩ := List.nodup_cons.mp nd
      obtain ⟨v, f, g, hv, hr, hp, re⟩ := R.take h1
      obtain ⟨vs, g2, rest, e1, r1, p1⟩ := getIO_ok re n2 (by rw [getIO_set n1]; exact h2)
      refine ⟨v :: vs, f ++ g2, rest, by rw [List.map_cons, List.map_cons, hv, e1], .cons hr r1, ?_⟩
      refine hp.trans ?_
      rw [List.append_assoc]
      exact List.Perm.append_left f p1
    · cases h
theorem ioSlots_ge : ∀ {modes : List Bool} {i j : Nat}, j ∈ ioSlots modes i → i ≤ j
  | [], _, _, h => nomatch h
  | true :: r, i, j, h => by
    rcases List.mem_cons.mp h with rfl | h
    · exact Nat.le_refl _
    · have := ioSlots_ge h; omega
  | false :: r, i, j, h => by have := ioSlots_ge (modes := r) (i := i + 1) h; omega
theorem ioSlots_nd : ∀ {modes : List Bool} {i : Nat}, (ioSlots modes i).Nodup
  | [], _ => List.nodup_nil
  | true :: r, i => List.nodup_cons.mpr ⟨fun h => by have := ioSlots_ge h; omega, ioSlots_nd⟩
  | false :: r, i => ioSlots_nd (modes := r)
theorem sel_at : ∀ {modes : List Bool} {vs : List V} {pre : List (Option V)} {post : List (Option V)}, vs.length = modes.length →
    (ioSlots modes pre.length).map (fun i => (pre ++ (vs.map some ++ post))[i]?) = (sel modes vs).map (fun v => some (some v))
  | [], [], _, _, _ => rfl
  | [], _ :: _, _, _, h => by cases h
  | _ :: _, [], _, _, h => by cases h
  | m :: modes, v :: vs, pre, post, h => by
    have ih := sel_at (modes := modes) (vs := vs) (pre := pre ++ [some v]) (post := post) (by simpa using h)
    have e1 : pre ++ [some v] ++ (vs.map some ++ post) = pre ++ ((v :: vs).map some ++ post) := by simp
    rw [e1, List.length_append] at ih
    cases m with
    | true =>
      have hh : (pre ++ ((v :: vs).map some ++ post))[pre.length]? = some (some v) := by simp
      rw [ioSlots, sel, List.map_cons, List.map_cons (f := fun v => some (some v)), hh]
      exact congrArg (some (some v) :: ·) ih
    | false => exact ih
theorem repE_start {n : Nat} {vs : List V} {ds : List D} {g : List Addr} (r : Reps K cl B H vs ds g) : RepE K cl B H (vs.map some ++ List.replicate n Option.none) (ds.map some ++ List.replicate n Option.none) g := by
  induction vs generalizing ds g with
  | nil =>
    cases r
    induction n with
    | zero => exact .nil
    | succ n ih => exact .none ih
  | cons v vs ih =>
    cases r with
    | cons r1 t => exact .some r1 (ih t)
abbrev Wb (E : XK) : WX := fun cls d _ H => E cls d H
theorem def_ok {n : Nat} {N : List Str} {modes : List Bool} {m : MS} {vs : List V} {Q : VK} {E : XK} (hn : N.length = n) (h : spM K cl (mDef n modes m) modes vs H Q E) :
    TSm K cl (Wb E) (ioSlots modes 0) m { nx := fun _ H' => Q .non H', rt := Q } (L2.start N vs) H := by
  obtain ⟨hl, B, ds, g, r, nd, ex, h⟩ := h
  have hds := r.length
  have R : Rel K cl B H (L2.start N vs) (startE n ds) g := ⟨by
    unfold L2.start startE
    rw [hn, hds]
    exact repE_start r, nd, ex⟩
  refine ⟨B, _, g, R, ?_⟩
  have start_at : (ioSlots modes 0).map (fun i => (L2.start N vs)[i]?) = (sel modes vs).map (fun v => some (some v)) := by
    exact sel_at (modes := modes) (vs := vs) (pre := []) (post := List.replicate (N.length - vs.length) none) hl
  have back : ∀ {σ' : L2.St} {B' H' : Hp} {e' : En} {F' : List Addr} {ios : List D}, Rel K cl B' H' σ' e' F' → Keep (ioSlots modes 0) (L2.start N vs) σ' → getIO e' (ioSlots modes 0) = some ios →
      ∃ g', Reps K cl B' H' (sel modes vs) ios g' ∧ (∃ rest, F'.Perm (g' ++ rest)) := by
    intro σ' B' H' e' F' ios R' kp hio
    obtain ⟨ws, g', rest, e1, r1, p1⟩ := getIO_ok R'.rep ioSlots_nd hio
    have e2 : (ioSlots modes 0).map (fun i => σ'[i]?) = (ioSlots modes 0).map (fun i => (L2.start N vs)[i]?) := List.map_congr_left fun i m => kp.2 i m
    rw [e1, start_at] at e2
    have e3 : ws = sel modes vs := by
      have : ∀ {a b : List V}, a.map (fun v => some (some v)) = b.map (fun v => some (some v)) → a = b := by
        intro a
        induction a with
        | nil => intro b z; cases b with
          | nil => rfl
          | cons _ _ => cases z
        | cons x a ih => intro b z; cases b with
          | nil => cases z
          | cons y b =>
            rw [List.map_cons, List.map_cons] at z
            injection z with z1 z2
            cases z1
            rw [ih z2]
      exact this e2
    rw [e3] at r1
    exact ⟨g', r1, rest, p1⟩
  unfold mDef at h
  cases q : m (startE n ds) with
  | stuck => rw [q] at h; exact h.elim
  | err x e' =>
    rw [q] at h
    simp only at h
    cases qi : getIO e' (ioSlots modes 0) with
    | none => simp only [qi] at h
    | some ios =>
      simp only [qi] at h
      intro σ' c dd B' H' F' R' kp st xa
      obtain ⟨g', r', rest, p'⟩ := back R' kp qi
      exact h c dd B' H' g' r' (List.nodup_append.mp (p'.nodup_iff.mp R'.nd)).1 (st.less fun a m => p'.mem_iff.mpr (List.mem_append_left _ m)) R'.ex xa
  | ok a e' =>
    rw [q] at h
    cases a with
    | nx =>
      simp only at h
      cases qi : getIO e' (ioSlots modes 0) with
      | none => simp only [qi] at h
      | some ios =>
        simp only [qi] at h
        intro σ' B' H' F' R' kp st
        obtain ⟨g', r', rest, p'⟩ := back R' kp qi
        exact h .non B' H' g' [] r' .non (by rw [List.append_nil]; exact (List.nodup_append.mp (p'.nodup_iff.mp R'.nd)).1) (st.less fun a m => p'.mem_iff.mpr (List.mem_append_left _ (by simpa using m))) R'.ex
    | bk => exact h.elim
    | ct => exact h.elim
    | rt d =>
      simp only at h
      cases qi : getIO e' (ioSlots modes 0) with
      | none => simp only [qi] at h
      | some ios =>
        simp only [qi] at h
        intro σ' v B' H' F' f R' r2 nd2 kp st
        obtain ⟨g', r', rest, p'⟩ := back R' kp qi
        refine h v B' H' g' f r' r2 ?_ (st.less fun a m => ?_) R'.ex
        · obtain ⟨n1, n2, n3⟩ := List.nodup_append.mp nd2
          refine List.nodup_append.mpr ⟨(List.nodup_append.mp (p'.nodup_iff.mp n1)).1, n2, fun x mx y my z => n3 x (p'.mem_iff.mpr (List.mem_append_left _ mx)) y my z⟩
        · rcases List.mem_append.mp m with m | m
          · exact List.mem_append_left _ (p'.mem_iff.mpr (List.mem_append_left _ m))
          · exact List.mem_append_right _ m
end

/-! ### the caller's side -/
def passArgs : List Bool → List OV → En → Option (List D × En × List (Option Nat))
  | [], [], e => some ([], e, [])
  | false :: ms, o :: os, e => match takeOne o e with
    | some (d, e1) => match passArgs ms os e1 with
      | some (ds, e2, js) => some (d.fr :: ds, e2, js)
      | none => none
    | none => none
  | true :: ms, .sl i :: os, e => match e[i]? with
    | some (some d) => match passArgs ms os (e.set i none) with
      | some (ds, e2, js) => some (d :: ds, e2, some i :: js)
      | none => none
    | _ => none
  | true :: ms, .tm d :: os, e => match passArgs ms os e with
    | some (ds, e2, js) => some (d :: ds, e2, none :: js)
    | none => none
  | _, _, _ => none
def putBack : List (Option Nat) → List D → En → Option En
  | [], [], e => some e
  | some i :: js, d :: ds, e => match e[i]? with
    | some none => putBack js ds (e.set i (some d))
    | _ => none
  | none :: js, _ :: ds, e => putBack js ds e
  | _, _, _ => none
def mCall (fm : List D → Ret) (modes : List Bool) (ma : M (List OV)) : M OV := fun e => (ma e).bind fun os e1 => match passArgs modes os e1 with
  | some (ds, e2, js) => match fm ds with
    | .ok d ios => match putBack js ios e2 with
      | some e3 => .ok (.tm d) e3
      | none => .stuck
    | .err x ios => match putBack js ios e2 with
      | some e3 => .err x e3
      | none => .stuck
    | .stuck => .stuck
  | none => .stuck
def IoAt (σ : L2.St) : List (Option Nat) → List V → Prop
  | [], [] => True
  | some i :: js, v :: vs => σ[i]? = some (some v) ∧ IoAt σ js vs
  | none :: js, _ :: vs => IoAt σ js vs
  | _, _ => False
def rD (K : PySem.W.Frag) (cl : Cl) : RelT V D := fun _ B H v d f => Rep K cl B H v d f
theorem frmD {K : PySem.W.Frag} {cl : Cl} : Frm (rD K cl) := ⟨fun r eB k n => Rep.mono eB r k n, fun r x m => Rep.there r x m⟩
def rE (K : PySem.W.Frag) (cl : Cl) : RelT L2.St En := fun _ B H σ e f => RepE K cl B H σ e f
theorem frmE {K : PySem.W.Frag} {cl : Cl} : Frm (rE K cl) := ⟨fun r eB k n => RepE.mono eB r k n, fun r x m => RepE.there r x m⟩
section
variable {K : PySem.W.Frag} {cl : Cl} {H : Hp} {σ : L2.St}
theorem perm3 {a b c : List Addr} : (a ++ (b ++ c)).Perm ((a ++ c) ++ b) := by
  rw [List.append_assoc]
  exact List.Perm.append_left a List.perm_append_comm
theorem pass_ok : ∀ {modes : List Bool} {os : List OV} {vs : List V} {ds : List D} {e e' : En} {B : Hp} {F f : List Addr} {js : List (Option Nat)}, Rel K cl B H σ e F → rOVs K cl σ B H vs os f → (F ++ f).Nodup → passArgs modes os e = some (ds, e', js) →
    ∃ B' F' g, Rel K cl B' H σ e' F' ∧ Reps K cl B' H vs ds g ∧ (F' ++ g).Nodup ∧ Step B H (F ++ f) B' H (F' ++ g) ∧ vs.length = modes.length ∧ IoAt σ js (sel modes vs)
  | [], [], vs, ds, e, e', B, F, f, js, R, r, nd, h => by
    cases h
    cases vs with
    | cons _ _ => exact r.elim
    | nil =>
      have : f = [] := r
      subst this
      exact ⟨B, F, [], R, .nil, nd, Step.refl, rfl, trivial⟩
  | [], _ :: _, _, _, _, _, _, _, _, _, _, _, _, h => by cases h
  | b :: _, [], _, _, _, _, _, _, _, _, _, _, _, h => by cases b <;> cases h
  | b :: ms, o :: os, [], _, _, _, _, _, _, _, _, r, _, _ => r.elim
  | false :: ms, o :: os, v :: vs, ds, e, e', B, F, f, js, R, r, nd, h => by
    obtain ⟨g1, g2, rfl, r1, r2⟩ := r
    unfold passArgs at h
    split at h
    · rename_i d e1 h1
      split at h
      · rename_i ds' e2 js' h2
        cases h
        have nd1 : (F ++ g1).Nodup := nd.sublist (by rw [← List.append_assoc]; exact List.sublist_append_left _ _)
        obtain ⟨B1, F1, R1, q1, n1, s1, sub1, out1⟩ := takeOne_ok R r1 nd1 h1
        obtain ⟨R2, q2, s2⟩ := R1.frz q1 n1
        have s12 := s1.trans s2
        have nda : ((F ++ g1) ++ g2).Nodup := by rw [List.append_assoc]; exact nd
        have r2' := held frmOVs r2 nda s12
        have nd2 := heldNd frmOVs r2 nda s12 R2.nd
        obtain ⟨B3, F3, g3, R3, q3, n3, s3, l3, io3⟩ := pass_ok R2 r2' nd2 h2
        refine ⟨B3, F3, [] ++ g3, R3, .cons (q2.up s3.b) q3, n3, ?_, by rw [List.length_cons, List.length_cons, l3], io3⟩
        exact (s12.hold (f := g2) (F := F ++ (g1 ++ g2)) (fun a m => by simp [m]) (fun a m => by
          rcases List.mem_append.mp m with m | m <;> simp [m])).trans s3
      · cases h
    · cases h
  | true :: ms, .sl i :: os, v :: vs, ds, e, e', B, F, f, js, R, r, nd, h => by
    obtain ⟨g1, g2, rfl, r1, r2⟩ := r
    obtain ⟨rfl, hv⟩ := r1
    unfold passArgs at h
    split at h
    · rename_i d hd
      split at h
      · rename_i ds' e2 js' h2
        cases h
        obtain ⟨v', f1, F1, hv', q1, hp, re⟩ := R.rep.take hd
        rw [hv] at hv'
        cases hv'
        rw [List.nil_append] at nd ⊢
        have ndp : ((f1 ++ F1) ++ g2).Nodup := (hp.append_right g2).nodup_iff.mp nd
        have R1 : Rel K cl B H σ (e.set i none) F1 := ⟨re, (List.nodup_append.mp (List.nodup_append.mp ndp).1).2.1, R.ex⟩
        have nd1 : (F1 ++ g2).Nodup := ndp.sublist (by rw [List.append_assoc]; exact List.sublist_append_right _ _)
        have nda : ((F1 ++ g2) ++ f1).Nodup := by
          have : ((f1 ++ F1) ++ g2).Perm ((F1 ++ g2) ++ f1) := by
            rw [List.append_assoc]
            exact List.perm_append_comm
          exact this.nodup_iff.mp ndp
        obtain ⟨B3, F3, g3, R3, q3, n3, s3, l3, io3⟩ := pass_ok R1 r2 nd1 h2
        have q1' : Rep K cl B3 H v d f1 := held (rel := rD K cl) (σ := σ) frmD q1 nda s3
        have n4 := heldNd (rel := rD K cl) (σ := σ) frmD q1 nda s3 n3
        refine ⟨B3, F3, f1 ++ g3, R3, .cons q1' q3, perm3.nodup_iff.mpr n4, ?_, by rw [List.length_cons, List.length_cons, l3], hv, io3⟩
        refine (s3.hold (f := f1) (F := F ++ g2) (fun a m => List.mem_append_left _ (hp.mem_iff.mpr (List.mem_append_left _ m))) (fun a m => ?_)).less fun a m => perm3.mem_iff.mp m
        rcases List.mem_append.mp m with m | m
        · exact List.mem_append_left _ (hp.mem_iff.mpr (List.mem_append_right _ m))
        · exact List.mem_append_right _ m
      · cases h
    · cases h
  | true :: ms, .tm d :: os, v :: vs, ds, e, e', B, F, f, js, R, r, nd, h => by
    obtain ⟨g1, g2, rfl, r1, r2⟩ := r
    unfold passArgs at h
    split at h
    · rename_i ds' e2 js' h2
      cases h
      have nda : ((F ++ g2) ++ g1).Nodup := perm3.nodup_iff.mp nd
      have nd1 : (F ++ g2).Nodup := (List.nodup_append.mp nda).1
      obtain ⟨B3, F3, g3, R3, q3, n3, s3, l3, io3⟩ := pass_ok R r2 nd1 h2
      have q1' : Rep K cl B3 H v d g1 := held (rel := rD K cl) (σ := σ) frmD r1 nda s3
      have n4 := heldNd (rel := rD K cl) (σ := σ) frmD r1 nda s3 n3
      refine ⟨B3, F3, g1 ++ g3, R3, .cons q1' q3, perm3.nodup_iff.mpr n4, ?_, by rw [List.length_cons, List.length_cons, l3], io3⟩
      refine (s3.hold (f := g1) (F := F ++ (g1 ++ g2)) (fun a m => by simp [m]) (fun a m => ?_)).less fun a m => perm3.mem_iff.mp m
      rcases List.mem_append.mp m with m | m <;> simp [m]
    · cases h
theorem put_back : ∀ {js : List (Option Nat)} {ios : List D} {vs : List V} {e e' : En} {B : Hp} {F g : List Addr}, RepE K cl B H σ e F → Reps K cl B H vs ios g → IoAt σ js vs → putBack js ios e = some e' →
    ∃ F' rest, RepE K cl B H σ e' F' ∧ (F ++ g).Perm (F' ++ rest)
  | [], [], vs, e, e', B, F, g, R, r, io, h => by
    cases h
    exact ⟨F, g, R, List.Perm.refl _⟩
  | some i :: js, d :: ds, vs, e, e', B, F, g, R, r, io, h => by
    obtain ⟨v, ws, g1, g2, rfl, rfl, r1, r2⟩ := r.cons_inv
    unfold putBack at h
    split at h
    · rename_i hi
      obtain ⟨F1, p1, R1⟩ := R.put' hi io.1 r1
      obtain ⟨F', rest, R2, p2⟩ := put_back R1 r2 io.2 h
      refine ⟨F', rest, R2, ?_⟩
      refine List.Perm.trans ?_ p2
      rw [← List.append_assoc]
      exact ((List.perm_append_comm).trans p1.symm).append_right g2
    · cases h
  | none :: js, d :: ds, vs, e, e', B, F, g, R, r, io, h => by
    obtain ⟨v, ws, g1, g2, rfl, rfl, r1, r2⟩ := r.cons_inv
    obtain ⟨F', rest, R2, p2⟩ := put_back R r2 io h
    refine ⟨F', rest ++ g1, R2, perm3.trans ((p2.append_right g1).trans ?_)⟩
    rw [List.append_assoc]
  | [], _ :: _, _, _, _, _, _, _, _, _, _, h => by cases h
  | some _ :: _, [], _, _, _, _, _, _, _, _, _, h => by cases h
  | none :: _, [], _, _, _, _, _, _, _, _, _, h => by cases h
end
section
variable {K : PySem.W.Frag} {cl : Cl} {W : WX} {H : Hp} {σ : L2.St} {fm : List D → Ret} {modes : List Bool} {ma : M (List OV)} {Q : VK}
theorem call_ok (h : TV K cl W (mCall fm modes ma) σ H Q) : TVs K cl W ma σ H fun vs H1 => spM K cl fm modes vs H1 Q (WE W σ) := by
  obtain ⟨B, e, F, R, h⟩ := h
  refine T_go R h fun os e1 _ h1 vs B1 H1 F1 f1 R1 r1 nd1 s1 => ?_
  split at h1
  · rename_i ds e2 js hp
    obtain ⟨B2, F2, g, R2, q2, n2, s2, l2, io⟩ := pass_ok R1 r1 nd1 hp
    have s12 := s1.trans s2
    have nF : F2.Nodup := R2.nd
    have ng : g.Nodup := (List.nodup_append.mp n2).2.1
    have nda : (g ++ F2).Nodup := (List.perm_append_comm.nodup_iff).mp n2
    have back : ∀ {B' H' : Hp} {G : List Addr}, Step B2 H1 g B' H' G → G.Nodup → RepE K cl B' H' σ e2 F2 ∧ (G ++ F2).Nodup ∧ Step B H F B' H' (G ++ F2) := fun {B' H' G} s nG => by
      have a1 : RepE K cl B' H' σ e2 F2 := held (rel := rE K cl) (σ := σ) (frmE) R2.rep nda s
      have a2 := heldNd (rel := rE K cl) (σ := σ) frmE R2.rep nda s nG
      refine ⟨a1, a2, s12.trans (s.hold (f := F2) (F := F2 ++ g) (fun a m => List.mem_append_left _ m) fun a m => List.mem_append_right _ m)⟩
    refine ⟨l2, B2, ds, g, q2, ng, R2.ex, ?_⟩
    cases qf : fm ds with
    | stuck => simp only [qf] at h1; exact h1.elim
    | ok d ios =>
      simp only [qf] at h1
      intro v B' H' g' f' r' rv nd' st ex'
      cases qp : putBack js ios e2 with
      | none => simp only [qp] at h1; exact h1.elim
      | some e3 =>
        simp only [qp] at h1
        obtain ⟨a1, a2, a3⟩ := back st nd'
        obtain ⟨F3, rest, R3, p3⟩ := put_back a1 r' io qp
        have pm : ((g' ++ f') ++ F2).Perm ((F3 ++ f') ++ rest) := by
          have h1 : ((g' ++ f') ++ F2).Perm ((F2 ++ g') ++ f') := (List.perm_append_comm).trans (by rw [List.append_assoc])
          have h2 : ((F2 ++ g') ++ f').Perm ((F3 ++ rest) ++ f') := p3.append_right f'
          have h3 : ((F3 ++ rest) ++ f').Perm ((F3 ++ f') ++ rest) := by
            rw [List.append_assoc, List.append_assoc]
            exact List.Perm.append_left F3 List.perm_append_comm
          exact h1.trans (h2.trans h3)
        have nn := pm.nodup_iff.mp a2
        refine h1 v B' H' F3 f' ⟨R3, (List.nodup_append.mp (List.nodup_append.mp nn).1).1, ex'⟩ rv (List.nodup_append.mp nn).1 (a3.less fun a m => pm.mem_iff.mpr (List.mem_append_left _ m))
    | err x ios =>
      simp only [qf] at h1
      intro c dd B' H' g' r' nd' st ex' xa
      cases qp : putBack js ios e2 with
      | none => simp only [qp] at h1; exact h1.elim
      | some e3 =>
        simp only [qp] at h1
        obtain ⟨a1, a2, a3⟩ := back st nd'
        obtain ⟨F3, rest, R3, p3⟩ := put_back a1 r' io qp
        have pm : (g' ++ F2).Perm (F3 ++ rest) := (List.perm_append_comm).trans p3
        have nn := pm.nodup_iff.mp a2
        exact h1 c dd B' H' F3 ⟨R3, (List.nodup_append.mp nn).1, ex'⟩ (a3.less fun a m => pm.mem_iff.mpr (List.mem_append_left _ m)) xa
  · exact h1.elim
end
end Dy
/-! Dy, part R: the defs of a text keep their promises; calls of them. -/
namespace Dy
open PySem PySem.Spec PyProof.Rows L2 L2H

section
variable {P : Program} {w : World} {K : PySem.W.Frag} {mg : Str → Option Value} {base : Heap}
/-- the def x of the text, its promise by its mirror -/
structure DOk (P : Program) (w : World) (K : PySem.W.Frag) (mg : Str → Option Value) (base : Heap) (CX : CXT) (k : Nat) (x : Str) (cl : Cl) (fm : List D → Ret) (modes : List Bool) : Prop where
  ex : ∃ f fd ps, FnOk P w K mg base CX k f fd ps (spM K cl fm modes) ∧ mg x = some (.ref f) ∧ PySem.W.keepIn K (.ref f) = true ∧ Binds K fd ps []
/-- where the def stands -/
structure At (K : PySem.W.Frag) (mg : Str → Option Value) (x : Str) (st : Stmt) (ps : List Str) : Prop where
  ex : ∃ f fd, Fun K x x st f fd ∧ mg x = some (.ref f) ∧ Binds K fd ps []
theorem At.of {x : Str} {st : Stmt} {f : Addr} {fd : FuncData} {ps : List Str} (F : Fun K x x st f fd) (g : mg x = some (.ref f)) (b : Binds K fd ps []) : At K mg x st ps := ⟨f, fd, F, g, b⟩
theorem DOk.zero {CX : CXT} {x : Str} {st : Stmt} {ps : List Str} {cl : Cl} {modes : List Bool} (A : At K mg x st ps) (k : Nat) : DOk P w K mg base CX k x cl (fun _ => .stuck) modes := by
  obtain ⟨f, fd, F, g, b⟩ := A.ex
  exact ⟨f, fd, ps, ⟨fun vs H Q E h => (let ⟨_, _, _, _, _, _, _, z⟩ := h; z.elim), fun _ _ _ _ _ _ _ _ _ _ _ _ _ h => (let ⟨_, _, _, _, _, _, _, z⟩ := h; z.elim)⟩, g, F.kp, b⟩
theorem DOk.mono {CX : CXT} {j k : Nat} {x : Str} {cl : Cl} {fm : List D → Ret} {modes : List Bool} (h : DOk P w K mg base CX j x cl fm modes) (hk : j ≤ k) : DOk P w K mg base CX k x cl fm modes := by
  obtain ⟨f, fd, ps, F, g, kp, b⟩ := h.ex
  exact ⟨f, fd, ps, F.mono hk, g, kp, b⟩
theorem DOk.def {x : Str} {st : Stmt} {N ps : List Str} {k n : Nat} {cl : Cl} {modes : List Bool} {m : MS} (A : At K mg x st ps) (S : L2.FnScope N ps (defScope st)) (hl : ps.length = modes.length) (hn : N.length = n)
    (hbody : ∀ (f : Addr) (cdv : Value) (A : Around) (outer : List Env) (s : Shared) (H : Hp) (E : XK), Room k (A.deeper (envOfC x (defScope st) s.heap.objs.size f cdv)) →
      PSs (cxOf (L2.CX P w) P w K mg base N x (defScope st) f cdv A outer s H E) (defBody st) (TSm K cl (Wb E) (ioSlots modes 0) m)) : DOk P w K mg base (L2.CX P w) (k + 1) x cl (mDef n modes m) modes := by
  obtain ⟨f, fd, F, g, b⟩ := A.ex
  refine ⟨f, fd, ps, F.okX S (fun vs H Q E h => h.1.trans hl.symm) (fun cdv A outer s H vs Q E hr h => ⟨_, hbody f cdv A outer s H E hr, def_ok hn h⟩), g, F.kp, b⟩
/-- a def that is called in a try whose suite raises -/
theorem DOk.defN {x : Str} {st : Stmt} {N ps : List Str} {k n : Nat} {cl : Cl} {modes : List Bool} {m : MS} (A : At K mg x st ps) (S : L2.FnScope N ps (defScope st)) (hl : ps.length = modes.length) (hn : N.length = n)
    (hbody : ∀ (f : Addr) (cdv : Value) (A : Around) (outer : List Env) (s : Shared) (H : Hp) (E : XK), Room k (A.deeper (envOfC x (defScope st) s.heap.objs.size f cdv)) →
      PSs (cxOf (L2N.CX P w) P w K mg base N x (defScope st) f cdv A outer s H E) (defBody st) (TSm K cl (Wb E) (ioSlots modes 0) m)) : DOk P w K mg base (L2N.CX P w) (k + 1) x cl (mDef n modes m) modes := by
  obtain ⟨f, fd, F, g, b⟩ := A.ex
  obtain ⟨oc, od, kV, doc, pm, an, cdv, ct, osl, rfl, lk, hcd⟩ := F.ex
  exact ⟨f, _, ps, fn_of lk hcd S (fun vs H Q E h => h.1.trans hl.symm) (fun A outer s H vs Q E hr h => ⟨_, hbody f cdv A outer s H E hr, def_ok hn h⟩), g, F.kp, b⟩
end
/-- a wish where nothing is let out, where a call's exception goes -/
theorem passAtN {X : Cx} {W : WX} (tk : L2N.Takes X W) (σ : L2.St) : PassesAt (L2N.CX X.prog X.w) X σ (WE W σ) := fun _ _ _ e s' I c => tk e s' (L2N.XE.of_call I (fun _ _ _ h => h) c)
theorem takes0N {X : Cx} : L2N.Takes X W0 := fun _ _ x => by
  obtain ⟨_, _, _, _, _, _, _, _, _, _, _, _, _, _, _, _, z⟩ := x
  exact z.elim
theorem takes00 {X : Cx} : L2.Takes X W0 := fun _ _ x => by
  obtain ⟨_, _, _, _, _, _, _, _, _, _, _, _, _, _, _, _, z⟩ := x
  exact z.elim
section
variable {X : Cx} {cl : Cl} {W : WX} {k : Nat} {x : Str} {p pos : Pos} {e : Expr} {es : List Expr} {fm : List D → Ret} {modes : List Bool} {ma : M (List OV)}
theorem dpe_call (h : DOk X.prog X.w X.K X.mg X.base (L2.CX X.prog X.w) k x cl fm modes) (hr : Room k X.A) (tk : L2.Takes X W) (ha : PA X (e :: es) (TVs X.K cl W ma)) (hg : Gl X x := by rfl) (hdb : (x == ("__debug__" : Str)) = false := by decide)
    (he : starEach (e :: es) X.env = (false, eval e X.env) :: starEach es X.env := by rfl) (hpl : (backTo pos (starEach es X.env)).any (·.1) = false := by rfl) :
    PE X (.Call (.Name x p) (e :: es) [] pos) (TV X.K cl W (mCall fm modes ma)) := by
  obtain ⟨f, fd, ps, F, g, kp, b⟩ := h.ex
  exact PE.weak (pe_callS F hr hg g kp b (fun σ => passAt tk σ) ha hdb he hpl) fun _ _ _ h => call_ok h
theorem dpe_callN (h : DOk X.prog X.w X.K X.mg X.base (L2N.CX X.prog X.w) k x cl fm modes) (hr : Room k X.A) (tk : L2N.Takes X W) (ha : PA X (e :: es) (TVs X.K cl W ma)) (hg : Gl X x := by rfl) (hdb : (x == ("__debug__" : Str)) = false := by decide)
    (he : starEach (e :: es) X.env = (false, eval e X.env) :: starEach es X.env := by rfl) (hpl : (backTo pos (starEach es X.env)).any (·.1) = false := by rfl) :
    PE X (.Call (.Name x p) (e :: es) [] pos) (TV X.K cl W (mCall fm modes ma)) := by
  obtain ⟨f, fd, ps, F, g, kp, b⟩ := h.ex
  exact PE.weak (pe_callS F hr hg g kp b (fun σ => passAtN tk σ) ha hdb he hpl) fun _ _ _ h => call_ok h
end
/-! ### the law -/
theorem reps_ints {K : PySem.W.Frag} {cl : Cl} {B H : Hp} : ∀ ns : List Int, Reps K cl B H (ns.map V.int) (ns.map D.int) []
  | [] => .nil
  | n :: r => .cons (f := []) (g := []) .int (reps_ints r)
theorem spM_law {K : PySem.W.Frag} {cl : Cl} {H : Hp} {a : Addr} {ns : List Int} {fm : List D → Ret} (hS : SqL K H a (ns.map V.int)) (h : ∃ ios, fm [.lok (ns.map .int)] = .ok (.bl true) ios) : spM K cl fm [false] [.ref a] H (fun v _ => v = .bl true) fun _ _ _ => False := by
  obtain ⟨ios, h⟩ := h
  refine ⟨rfl, H, [.lok (ns.map .int)], [], .cons (f := []) (g := []) (.lok hS (reps_ints ns)) .nil, List.nodup_nil, Ex.refl H, ?_⟩
  rw [h]
  intro v B' H' g' f' _ rv _ _ _
  exact rv.bl_inv
/-- -e of an int -/
def fNeg : List D → Option D
  | [.int i] => some (.int (-i))
  | _ => none
theorem dpe_neg {X : Cx} {cl : Cl} {W : WX} {a : Expr} {ma : M OV} {pos : Pos} (h : PE X a (TV X.K cl W ma)) : PE X (.UnaryOp .USub a pos) (TV X.K cl W (mLoc fNeg (mArgs [ma]))) := by
  have lo : LocOp X.K cl (fun vs H Q => match vs with | [x] => rU (fun i => .int (-i)) x H Q | _ => False) fNeg := by
    intro B H vs ds z Q ex r h k
    unfold fNeg at h
    split at h
    · rename_i i
      obtain ⟨v, f, rfl, r1⟩ := r.one
      cases h
      exact ⟨i, r1.int_inv, k _ B H [] .int (loc0 ex)⟩
    · cases h
  exact PE.weak (pe_un un_neg h) fun _ _ _ h => (args_cons (T_loc lo h)).mono fun x H1 h1 => args_nil h1
end Dy
/-! Dy, part R2. -/
namespace Dy
open PySem PySem.Spec PyProof.Rows L2 L2H
/-! ### a list display whose items are frozen -/
def mLstF (ma : M (List OV)) : M OV := fun e => (ma e).bind fun os e1 => match takeAll os e1 with
  | some (ds, e2) => if ds.length ≤ 1000000 then .ok (.tm (.lst true (D.frL ds))) e2 else .stuck
  | none => .stuck
section
variable {K : PySem.W.Frag} {cl : Cl} {B H : Hp} {F f : List Addr} {σ : L2.St} {e : En}
theorem Rel.frzs (R : Rel K cl B H σ e F) {vs : List V} {ds : List D} (r : Reps K cl B H vs ds f) (nd : (F ++ f).Nodup) : Rel K cl (addF B H f) H σ e F ∧ Reps K cl (addF B H f) H vs (D.frL ds) [] ∧ Step B H (F ++ f) (addF B H f) H F := by
  have h : ∀ a ∈ f, B a = none := fun a m => (r.there a m).2
  have dis : ∀ a ∈ F, a ∉ f := fun a m m' => (List.nodup_append.mp nd).2.2 a m a m' rfl
  refine ⟨⟨R.rep.beside h dis, R.nd, addF_exH R.ex⟩, Reps.freeze (addF_ex h) r fun a m o q => by rw [addF_in m]; exact q, ⟨addF_ex h, fun _ _ q _ => q, fun a q n => .inl ?_, fun a m => .inl (List.mem_append_left _ m), fun _ q => q⟩⟩
  by_cases m : a ∈ f
  · exact List.mem_append_right _ m
  · rw [addF_out m] at n; exact absurd q n
theorem T_lstF {W : WX} {ma : M (List OV)} {Q : VK} (h : TV K cl W (mLstF ma) σ H Q) : tLst (TVs K cl W ma) σ H Q := by
  obtain ⟨B, e, F, R, h⟩ := h
  refine T_go R h fun os e1 _ h1 vs B1 H1 F1 f1 R1 r1 nd1 s1 => ?_
  cases q : takeAll os e1 with
  | none => simp only [q] at h1; exact h1.elim
  | some p =>
    obtain ⟨ds, e2⟩ := p
    simp only [q] at h1
    by_cases hz : ds.length ≤ 1000000
    · rw [if_pos hz] at h1
      obtain ⟨B2, F2, R2, q2, n2, s2, sub, out⟩ := takeAll_ok R1 r1 nd1 q
      refine ⟨by rw [q2.length]; exact szl hz, fun p hp => ?_⟩
      obtain ⟨R3, q3, s3⟩ := R2.frzs q2 n2
      obtain ⟨n3, l⟩ := new_lst R3.ex q3 hp
      exact h1 (.ref p) _ _ F2 [p] (R3.loc l) n3 (R3.locNd l) (((s1.trans s2).trans s3).trans (l.step F2))
    · rw [if_neg hz] at h1; exact h1.elim
end
theorem dpe_lstF {X : Cx} {cl : Cl} {W : WX} {es : List Expr} {pos : Pos} {ms : List (M OV)} (h : PA X es (TVs X.K cl W (mArgs ms))) : PE X (.List es pos) (TV X.K cl W (mLstF (mArgs ms))) := PE.weak (pe_lst h) fun _ _ _ h => T_lstF h
end Dy
/-! Dy, part S: the end: from what the head tells to what the walk wants. -/
namespace Dy
open PySem PySem.Spec PyProof.Rows L2

def adK (K : PySem.W.Frag) : Str → Addr := fun x => match PySem.W.nsIn K mainGlobals x with
  | some (some (.ref a)) => a
  | _ => 0
def clK (K : PySem.W.Frag) (names : List Str) : Cl := fun x => if names.contains x = true then some (adK K x) else none
section
variable {K : PySem.W.Frag} {h : Heap} {mg : Str → Option Value} {cl : Cl} {names : List Str} {x : Str}
theorem ad_of {a : Addr} (e : PySem.W.nsIn K mainGlobals x = some (some (.ref a))) : adK K x = a := by
  unfold adK
  rw [e]
theorem clK_some {C : Str} {Ca : Addr} (e : clK K names C = some Ca) : C ∈ names ∧ Ca = adK K C := by
  unfold clK at e
  split at e
  · rename_i hc
    exact ⟨List.contains_iff_mem.mp hc, (Option.some.inj e).symm⟩
  · cases e
theorem gc_str {y : Str} {t : Tok} (X : K.In h) (G : h.Ns mainGlobals mg) (e : PySem.W.nsIn K mainGlobals x = some (some (.str y t))) : GC K cl mg x (.str y) := ⟨.str y, _, PySem.W.mg_of X G e, ⟨t, rfl⟩, fun _ _ => .str⟩
theorem gc_int {i : Int} {t : Tok} (X : K.In h) (G : h.Ns mainGlobals mg) (e : PySem.W.nsIn K mainGlobals x = some (some (.int i t))) : GC K cl mg x (.int i) := ⟨.int i, _, PySem.W.mg_of X G e, ⟨t, rfl⟩, fun _ _ => .int⟩
/-- plain values and what they stand for -/
inductive PV : List Value → List D → Prop
  | nil : PV [] []
  | str {y t vs ds} : PV vs ds → PV (.str y t :: vs) (.str y :: ds)
  | int {y t vs ds} : PV vs ds → PV (.int y t :: vs) (.int y :: ds)
theorem PV.reps {us : List Value} {ds : List D} (r : PV us ds) : ∃ vs, Vals vs us ∧ ∀ B H, Reps K cl B H vs ds [] := by
  induction r with
  | nil => exact ⟨[], .nil, fun _ _ => .nil⟩
  | @str y t vs ds r ih =>
    obtain ⟨ws, h1, h2⟩ := ih
    exact ⟨.str y :: ws, .cons ⟨t, rfl⟩ h1, fun B H => .cons (f := []) (g := []) .str (h2 B H)⟩
  | @int y t vs ds r ih =>
    obtain ⟨ws, h1, h2⟩ := ih
    exact ⟨.int y :: ws, .cons ⟨t, rfl⟩ h1, fun B H => .cons (f := []) (g := []) .int (h2 B H)⟩
theorem gc_tup {a : Addr} {dd : Option Addr} {its : Array Value} {n : Nat} {sl : Array (Option Value)} {ds : List D} (X : K.In h) (G : h.Ns mainGlobals mg) (e : PySem.W.nsIn K mainGlobals x = some (some (.ref a))) (l : K.lookup a = some ⟨.type "tuple", dd, .seq its n, sl⟩) (hz : its.size ≤ 1000) (p : PV its.toList ds) : GC K cl mg x (.tup false ds) := by
  obtain ⟨vs, h1, h2⟩ := p.reps (K := K) (cl := cl)
  exact ⟨.ref a, _, PySem.W.mg_of X G e, rfl, fun B H => .tupF (.inr ⟨_, its, n, l, rfl, rfl, szl (by omega), h1⟩) (h2 B H)⟩
theorem lookup_mem {α : Type} {C : Str} {b : α} : ∀ {tab : List (Str × α)}, List.lookup C tab = some b → (C, b) ∈ tab
  | [], h => by cases h
  | (k, v) :: r, h => by
    rw [List.lookup_cons] at h
    split at h
    · rename_i hk
      cases h
      rw [beq_iff_eq.mp hk]
      exact List.mem_cons_self
    · exact List.mem_cons_of_mem _ (lookup_mem h)
theorem caught_of {c : Value} {tab : List (Str × Bool)} (hh : ∀ p ∈ tab, PySem.W.exmOne K (.ref (adK K p.1)) c = some p.2) : Caught K (clK K names) c fun x => List.lookup x tab := ⟨fun C Ca b h1 h2 => by
  obtain ⟨_, rfl⟩ := clK_some h1
  exact hh _ (lookup_mem h2)⟩
theorem istab_of {us : List Value} {tab : List (Str × Bool)} (hh : ∀ p ∈ tab, ExcK K (adK K p.1) ∧ PySem.W.kitAny K (.ref (adK K p.1)) us = some p.2) : IsTab K (clK K names) us fun x => List.lookup x tab := ⟨fun C Ca b h1 h2 => by
  obtain ⟨_, rfl⟩ := clK_some h1
  exact hh _ (lookup_mem h2)⟩
theorem all_nil {α : Type} {p : α → Prop} : ∀ x ∈ ([] : List α), p x := fun _ m => nomatch m
theorem all_cons {α : Type} {p : α → Prop} {a : α} {r : List α} (h : p a) (t : ∀ x ∈ r, p x) : ∀ x ∈ a :: r, p x := fun x m => by
  rcases List.mem_cons.mp m with rfl | m
  · exact h
  · exact t x m
theorem xc_of (X : K.In h) (G : h.Ns mainGlobals mg) (hn : names.contains x = true) {C : Addr} (e : PySem.W.nsIn K mainGlobals x = some (some (.ref C))) (ex : PySem.W.excIn K C [.type "ValueError", .type "Exception", .type "BaseException", .type "object"] "ValueError.__new__" = true)
    (k : PySem.W.keepIn K (.ref C) = true) (b : PySem.W.subIn K (.ref C) (.type "BaseException") = some true) (t : PySem.W.typeIn K (.ref C) = some (.type "type")) : XC K mg (clK K names) x (adK K x) := by
  have z := ad_of e
  refine ⟨by rw [z]; exact ex, by rw [z]; exact PySem.W.mg_of X G e, by rw [z]; exact k, by rw [z]; exact b, by rw [z]; exact t, ?_⟩
  unfold clK
  rw [if_pos hn]
theorem at_of {st : Stmt} {ps : List Str} (X : K.In h) (G : h.Ns mainGlobals mg) {f : Addr} {oc : Value} {od an : Option Addr} {osl : Array (Option Value)} {kV doc pm cdv ct : Value} (e : PySem.W.nsIn K mainGlobals x = some (some (.ref f)))
    (l : K.lookup f = some ⟨oc, od, .func (PySem.W.fnOf x x (defArgs st) (defBody st) (defScope st) .none kV doc pm an cdv ct), osl⟩) (c : PySem.W.codeIn K cdv x = true) (k : PySem.W.keepIn K (.ref f) = true)
    (b : ∀ (kV doc pm : Value) (an : Option Addr) (cdv ct : Value) (us : List Value), us.length = ps.length → bindArgs (PySem.W.fnOf x x (defArgs st) (defBody st) (defScope st) .none kV doc pm an cdv ct) ⟨us, []⟩ = pure (ps.zip us)) : At K mg x st ps :=
  let F := fun_mk (st := st) l c k
  .of F (PySem.W.mg_of X G e) (F.binds b)
theorem fr_of (h : (!names.contains "#exc" && (!names.contains "#cls" && !names.contains "#d")) = true) : (clK K names).Free := by
  simp only [Bool.and_eq_true, Bool.not_eq_true'] at h
  refine ⟨?_, ?_, ?_⟩ <;> unfold clK
  · rw [if_neg (by rw [h.1]; exact Bool.false_ne_true)]
  · rw [if_neg (by rw [h.2.1]; exact Bool.false_ne_true)]
  · rw [if_neg (by rw [h.2.2]; exact Bool.false_ne_true)]
end
/-- the law's own def, where it stands -/
structure LawIn (K : PySem.W.Frag) (st : Stmt) (f : Addr) : Prop where
  ex : ∃ (oc : Value) (od an : Option Addr) (osl : Array (Option Value)) (kV doc pm cdv ct : Value), K.lookup f = some ⟨oc, od, .func (PySem.W.fnOf "law" "law" (defArgs st) (defBody st) (defScope st) .none kV doc pm an cdv ct), osl⟩ ∧ PySem.W.codeIn K cdv "law" = true
  k : PySem.W.keepIn K (.ref f) = true
theorem law_in {K : PySem.W.Frag} {h : Heap} {mg : Str → Option Value} {st : Stmt} (X : K.In h) (G : h.Ns mainGlobals mg) {f : Addr} {oc : Value} {od an : Option Addr} {osl : Array (Option Value)} {kV doc pm cdv ct : Value} (e : PySem.W.nsIn K mainGlobals "law" = some (some (.ref f)))
    (l : K.lookup f = some ⟨oc, od, .func (PySem.W.fnOf "law" "law" (defArgs st) (defBody st) (defScope st) .none kV doc pm an cdv ct), osl⟩) (c : PySem.W.codeIn K cdv "law" = true) (k : PySem.W.keepIn K (.ref f) = true) : ∃ f, mg "law" = some (.ref f) ∧ LawIn K st f :=
  ⟨f, PySem.W.mg_of X G e, ⟨_, _, _, _, _, _, _, _, _, l, c⟩, k⟩
theorem law_fn {P : Program} {w : World} {K : PySem.W.Frag} {mg : Str → Option Value} {st : Stmt} {f : Addr} {N : List Str} {k n : Nat} {cl : Cl} {m : MS} (L : LawIn K st f) (S : L2.FnScope N ["script"] (defScope st)) (hn : N.length = n)
    (hb : ∀ (kV doc pm : Value) (an : Option Addr) (cdv ct u : Value), bindArgs (PySem.W.fnOf "law" "law" (defArgs st) (defBody st) (defScope st) .none kV doc pm an cdv ct) ⟨[u], []⟩ = pure [(("script" : Str), u)])
    (hbody : ∀ (base : Heap) (cdv : Value) (A : Around) (outer : List Env) (s : Shared) (H : Hp) (E : XK), Room k (A.deeper (envOfC "law" (defScope st) s.heap.objs.size f cdv)) →
      PSs (cxOf (L2.CX P w) P w K mg base N "law" (defScope st) f cdv A outer s H E) (defBody st) (TSm K cl (Wb E) (ioSlots [false] 0) m)) :
    ∃ fd : FuncData, (∀ (s : Shared) (u : Value), BindsTo s fd ⟨[u], []⟩ [("script", u)]) ∧ ∀ base : Heap, K.In base → base.Ns mainGlobals mg → FnOk P w K mg base (L2.CX P w) (k + 1) f fd ["script"] (spM K cl (mDef n [false] m) [false]) := by
  obtain ⟨oc, od, an, osl, kV, doc, pm, cdv, ct, l, c⟩ := L.ex
  refine ⟨_, fun s u => .of_eq (hb kV doc pm an cdv ct u), fun base _ _ => ?_⟩
  exact (fun_mk (st := st) l c L.k).okX S (fun vs H Q E h => h.1) (fun cdv A outer s H vs Q E hr h => ⟨_, hbody base cdv A outer s H E hr, def_ok hn h⟩)
theorem law_walk {l : PySem.W.OpenLaw} {q : Program} {loose : List Str} {XP : (Str → Option Value) → Heap → Prop} {YP : World → Heap → Prop} {d : DefRec} {K : Params → PySem.W.Frag} {k : Nat} {names : List Str} {fm : List D → Ret}
    (plain : ∀ ns : List Int, ns.length ≤ 63 → (∀ z ∈ ns, Builtin.Int.intBits z ≤ 1048576) → ∃ ios, fm [.lok (ns.map .int)] = .ok (.bl true) ios)
    (hn : l.most = some 63) (hdf : d.params.defaults = []) (hr : Room k callerA) (hY : ∀ (w : World) (h : Heap), YP w h → (K w.params).In h)
    (F : ∀ (w : World) (mg : Str → Option Value) (fa : Addr) (h : Heap), (K w.params).In h → h.Ns mainGlobals mg → mg d.name = some (.ref fa) →
      ∃ fd : FuncData, (∀ (s : Shared) (u : Value), BindsTo s fd ⟨[u], []⟩ [("script", u)]) ∧ ∀ base : Heap, (K w.params).In base → base.Ns mainGlobals mg → FnOk l.prog w (K w.params) mg base (L2.CX l.prog w) k fa fd ["script"] (spM (K w.params) (clK (K w.params) names) fm [false])) :
    PySem.W.WalkO q loose XP YP l.row.toRowW d [] (fun f vs => PySem.call f vs) :=
  L2.walk_ofB (n := 63) (k := k) (x := "script") (CX := fun w => L2.CX l.prog w) (sp := fun w => spM (K w.params) (clK (K w.params) names) fm [false]) hn (by decide) hdf hr hY F
    (fun w H a ns h1 h2 h3 h4 => spM_law h4 (plain ns h1 h2)) (fun w H s e s' z => by
      obtain ⟨_, _, _, _, _, _, _, _, _, _, _, _, hE⟩ := z
      exact hE)
end Dy
/-! Dy, part T: rows for reckoning with mirrors. -/
namespace Dy
open PySem L2
/-- the text of these signs -/
def sx (l : List Nat) : Str := ⟨l.toArray⟩

section
variable (m n : MS) (a b c : M OV) (e : En) (i j : Nat) (t u : M Bool) (ma : M (List OV)) (P : List Nat) (d : D) (f : List D → Option D)
@[simp] theorem x_seq : mSeq m n e = (m e).bind (fun f e1 => match f with | .nx => n e1 | g => .ok g e1) := rfl
@[simp] theorem x_set : mSet i a e = (a e).bind (fun o e1 => match takeOne o e1 with
  | some (d, e2) => if i < e2.length then .ok .nx (e2.set i (some d)) else .stuck
  | none => .stuck) := rfl
@[simp] theorem x_loc : mLoc f ma e = (ma e).bind (fun os e1 => match getAll e1 os with
  | some ds => match f ds with
    | some z => .ok (.tm z) e1
    | none => .stuck
  | none => .stuck) := rfl
@[simp] theorem x_args0 : mArgs [] e = .ok [] e := rfl
@[simp] theorem x_args1 (r : List (M OV)) : mArgs (a :: r) e = (a e).bind (fun o e1 => (mArgs r e1).bind fun os e2 => .ok (o :: os) e2) := rfl
@[simp] theorem x_name : mName i e = (match e[i]? with | some (some _) => .ok (.sl i) e | _ => .stuck) := rfl
@[simp] theorem x_pure {α : Type} (x : α) : mPure x e = .ok x e := rfl
@[simp] theorem x_test : mTest a e = (a e).bind (fun o e1 => match o.get e1 with | some (.bl b) => .ok b e1 | _ => .stuck) := rfl
@[simp] theorem x_truth : mTruth a e = (a e).bind (fun o e1 => match (o.get e1).bind truD with | some b => .ok b e1 | none => .stuck) := rfl
@[simp] theorem x_if {α : Type} (p q : M α) : mIf t p q e = (t e).bind (fun b e1 => if b = true then p e1 else q e1) := rfl
@[simp] theorem x_and : mAnd t u e = (t e).bind (fun b e1 => if b = true then u e1 else .ok false e1) := rfl
@[simp] theorem x_or : mOr t u e = (t e).bind (fun b e1 => if b = true then .ok true e1 else u e1) := rfl
@[simp] theorem x_not : mNot t e = (t e).bind (fun b e1 => if b = true then .ok false e1 else .ok true e1) := rfl
@[simp] theorem x_boolV : mBoolV t e = (t e).bind (fun b e1 => .ok (.tm (.bl b)) e1) := rfl
@[simp] theorem x_ret : mRet P a e = (a e).bind (fun o e1 => match takeRet P o e1 with | some (d, e2) => .ok (.rt d) e2 | none => .stuck) := rfl
@[simp] theorem x_drop : mDrop a e = (a e).bind (fun _ e1 => .ok .nx e1) := rfl
@[simp] theorem x_nx : mNx e = .ok .nx e := rfl
@[simp] theorem x_fl (g : Fl) : mFl g e = .ok g e := rfl
@[simp] theorem x_lst : mLst ma e = (ma e).bind (fun os e1 => match takeAll os e1 with
  | some (ds, e2) => if ds.length ≤ 1000000 then .ok (.tm (.lst true ds)) e2 else .stuck
  | none => .stuck) := rfl
@[simp] theorem x_tup : mTup ma e = (ma e).bind (fun os e1 => match takeAll os e1 with
  | some (ds, e2) => if ds.length ≤ 1000000 then .ok (.tm (.tup (!D.isFzL ds) ds)) e2 else .stuck
  | none => .stuck) := rfl
@[simp] theorem x_takeAll0 : takeAll [] e = some ([], e) := rfl
@[simp] theorem x_takeAll1 (o : OV) (os : List OV) : takeAll (o :: os) e = (match takeOne o e with
  | some (d, e1) => match takeAll os e1 with
    | some (ds, e2) => some (d :: ds, e2)
    | none => none
  | none => none) := rfl
@[simp] theorem x_takeSl : takeOne (.sl i) e = (match e[i]? with | some (some d) => some (d.fr, e.set i (some d.fr)) | _ => none) := rfl
@[simp] theorem x_takeTm : takeOne (.tm d) e = some (d, e) := rfl
@[simp] theorem x_retSl : takeRet P (.sl i) e = (if P.contains i = true then takeOne (.sl i) e else match e[i]? with | some (some d) => some (d, e.set i none) | _ => none) := rfl
@[simp] theorem x_retTm : takeRet P (.tm d) e = some (d, e) := rfl
@[simp] theorem x_getAll0 : getAll e [] = some [] := rfl
@[simp] theorem x_getAll1 (o : OV) (os : List OV) : getAll e (o :: os) = (match o.get e, getAll e os with | some d, some ds => some (d :: ds) | _, _ => none) := rfl
@[simp] theorem x_getSl : (OV.sl i).get e = (e[i]?).join := rfl
@[simp] theorem x_getTm : (OV.tm d).get e = some d := rfl
@[simp] theorem x_bindErr {α β : Type} (x : Exn) (k : α → M β) : (Res.err x e : Res α).bind k = .err x e := rfl
@[simp] theorem x_mInt : mInt a e = (a e).bind (fun o e1 => match o.get e1 with | some (.int k) => .ok k e1 | _ => .stuck) := rfl
@[simp] theorem x_noP : mNoP e = .ok none e := rfl
@[simp] theorem x_part : mPart a e = (mInt a e).bind (fun i e1 => .ok (some i) e1) := rfl
@[simp] theorem x_str : mStr a e = (a e).bind (fun o e1 => match o.get e1 with | some (.str a) => .ok (.tm (.str a)) e1 | _ => .stuck) := rfl
@[simp] theorem x_iter : mIter a e = (a e).bind (fun o e1 => match takeFz o e1 with
  | some (d, e2) => match itemsD d with
    | some ds => if D.isFzL ds = true then .ok ds e2 else .stuck
    | none => .stuck
  | none => .stuck) := rfl
@[simp] theorem x_takeFz (o : OV) : takeFz o e = (takeOne o e).map fun p => (p.1.fr, p.2) := rfl
@[simp] theorem x_for (mi : M (List D)) (g : MG) (body : MS) : mFor mi g body e = (mi e).bind (fun ds e1 => forGo g body ds e1) := rfl
@[simp] theorem x_forNil (g : MG) (body : MS) : forGo g body [] e = .ok .nx e := rfl
@[simp] theorem x_app : mApp i a e = (if isLstAt e i = true then (a e).bind (fun o e1 => match takeOne o e1 with
  | some (d, e2) => match e2[i]? with
    | some (some (.lst true xs)) => if xs.length < 1000000 then .ok .nx (e2.set i (some (.lst true (xs ++ [d])))) else .stuck
    | _ => .stuck
  | none => .stuck) else .stuck) := rfl
@[simp] theorem x_gNm : gNm i d e = (if i < e.length then .ok () (e.set i (some d)) else .stuck) := rfl
@[simp] theorem x_asg (g : MG) : mAsg g a e = (a e).bind (fun o e1 => match takeOne o e1 with
  | some (d, e2) => match g d e2 with
    | .ok _ e3 => .ok .nx e3
    | _ => .stuck
  | none => .stuck) := rfl
@[simp] theorem x_setIx : mSetIx i b a e = (a e).bind (fun o e1 => match e1[i]? with
  | some (some _) => (b e1).bind (fun ok e2 => match takeOne o e2 with
    | some (d, e3) => match ok.get e3 with
      | some x => match e3[i]? with
        | some (some (.lst true xs)) => match x with
          | .int k => match ixN xs.length k with
            | some j => .ok .nx (e3.set i (some (.lst true (xs.set j d))))
            | none => .stuck
          | _ => .stuck
        | some (some (.dic true kvs)) => match keyD x with
          | some k => if kvs.length < 1000000 ∧ d.isFz = true ∧ D.isFzK kvs = true then .ok .nx (e3.set i (some (.dic true (putD kvs k d)))) else .stuck
          | none => .stuck
        | _ => .stuck
      | none => .stuck
    | none => .stuck)
  | _ => .stuck) := rfl
@[simp] theorem x_call (fm : List D → Ret) (modes : List Bool) : mCall fm modes ma e = (ma e).bind (fun os e1 => match passArgs modes os e1 with
  | some (ds, e2, js) => match fm ds with
    | .ok d ios => match putBack js ios e2 with
      | some e3 => .ok (.tm d) e3
      | none => .stuck
    | .err x ios => match putBack js ios e2 with
      | some e3 => .err x e3
      | none => .stuck
    | .stuck => .stuck
  | none => .stuck) := rfl
@[simp] theorem x_pass0 : passArgs [] [] e = some ([], e, []) := rfl
@[simp] theorem x_passF (ms : List Bool) (o : OV) (os : List OV) : passArgs (false :: ms) (o :: os) e = (match takeOne o e with
    | some (d, e1) => match passArgs ms os e1 with
      | some (ds, e2, js) => some (d.fr :: ds, e2, js)
      | none => none
    | none => none) := rfl
@[simp] theorem x_passT (ms : List Bool) (os : List OV) : passArgs (true :: ms) (.sl i :: os) e = (match e[i]? with
    | some (some d) => match passArgs ms os (e.set i none) with
      | some (ds, e2, js) => some (d :: ds, e2, some i :: js)
      | none => none
    | _ => none) := rfl
@[simp] theorem x_passTm (ms : List Bool) (os : List OV) : passArgs (true :: ms) (.tm d :: os) e = (match passArgs ms os e with
    | some (ds, e2, js) => some (d :: ds, e2, none :: js)
    | none => none) := rfl
@[simp] theorem x_put0 : putBack [] [] e = some e := rfl
@[simp] theorem x_put1 (js : List (Option Nat)) (ds : List D) : putBack (some i :: js) (d :: ds) e = (match e[i]? with
    | some none => putBack js ds (e.set i (some d))
    | _ => none) := rfl
@[simp] theorem x_put2 (js : List (Option Nat)) (ds : List D) : putBack (none :: js) (d :: ds) e = putBack js ds e := rfl
@[simp] theorem x_raise (C : Str) : mRaise C ma e = (ma e).bind (fun _ e1 => .err (Exn.mk C []) e1) := rfl
@[simp] theorem x_rng1 : mRng1 a e = (mInt a e).bind (fun j e1 => if -1000000 ≤ j ∧ j ≤ 3000000 then .ok (rngD 0 1 j.toNat) e1 else .stuck) := rfl
@[simp] theorem x_lc (vs : List Nat) (mi : M (List D)) (g : MG) (tt : M Bool) (te : M OV) : mLc vs mi g tt te e = (mi e).bind (fun ds e1 =>
  if (vs.all fun v => fzAt e1 v) = true then match lcGo vs g tt te ds [] (wipeE e1 vs) with
    | .ok acc e2 => .ok (.tm (.lst true acc)) (restE e1 vs e2)
    | _ => .stuck
  else .stuck) := rfl
@[simp] theorem x_def (k : Nat) (modes : List Bool) (ds : List D) : mDef k modes m ds = (match m (startE k ds) with
  | .ok .nx e => match getIO e (ioSlots modes 0) with
    | some ios => .ok .non ios
    | none => .stuck
  | .ok (.rt d) e => match getIO e (ioSlots modes 0) with
    | some ios => .ok d ios
    | none => .stuck
  | .err x e => match getIO e (ioSlots modes 0) with
    | some ios => .err x ios
    | none => .stuck
  | _ => .stuck) := rfl
@[simp] theorem x_start (k : Nat) (ds : List D) : startE k ds = ds.map some ++ List.replicate (k - ds.length) none := rfl
@[simp] theorem x_io0 : getIO e [] = some [] := rfl
@[simp] theorem x_io1 (r : List Nat) : getIO e (i :: r) = (match e[i]?, getIO e r with | some (some d), some ds => some (d :: ds) | _, _ => none) := rfl
@[simp] theorem x_slots0 : ioSlots [] i = [] := rfl
@[simp] theorem x_slotsT (r : List Bool) : ioSlots (true :: r) i = i :: ioSlots r (i + 1) := rfl
@[simp] theorem x_slotsF (r : List Bool) : ioSlots (false :: r) i = ioSlots r (i + 1) := rfl
end
/-! ### data -/
section
variable (x y : Int) (s z : Str) (p q : Bool) (o : Bool) (xs ys : List D) (r : List D)
@[simp] theorem y_addI : fAdd [.int x, .int y] = some (.int (x + y)) := rfl
@[simp] theorem y_addS : fAdd [.str s, .str z] = (if s.length + z.length ≤ 1000000 then some (.str (s ++ z)) else none) := rfl
@[simp] theorem y_addL (o' : Bool) : fAdd [.lst o xs, .lst o' ys] = (if (D.isFzL xs && D.isFzL ys) = true ∧ xs.length + ys.length ≤ 1000000 then some (.lst true (xs ++ ys)) else none) := rfl
@[simp] theorem y_sub : fSub [.int x, .int y] = some (.int (x - y)) := rfl
@[simp] theorem y_neg : fNeg [.int x] = some (.int (-x)) := rfl
@[simp] theorem y_mod : fMod [.int x, .int y] = (if 0 < y then some (.int (x % y)) else none) := rfl
@[simp] theorem y_pow : fPow [.int x, .int y] = (if 0 ≤ y ∧ y ≤ 1000 ∧ x.natAbs ≤ 1000000 then some (.int (x ^ y.toNat)) else none) := rfl
@[simp] theorem y_cmp (f : Int → Int → Bool) : fCmpI f [.int x, .int y] = some (.bl (f x y)) := rfl
@[simp] theorem y_int : fInt [.int x] = some (.int x) := rfl
@[simp] theorem y_intB : fInt [.bl p] = some (.int (if p then 1 else 0)) := rfl
@[simp] theorem y_eqI : fEq [.int x, .int y] = some (.bl (decide (x = y))) := rfl
@[simp] theorem y_eqS : fEq [.str s, .str z] = some (.bl (decide (s = z))) := rfl
@[simp] theorem y_eqB : fEq [.bl p, .bl q] = some (.bl (decide (p = q))) := rfl
@[simp] theorem y_neI : fNe [.int x, .int y] = some (.bl (!decide (x = y))) := rfl
@[simp] theorem y_neS : fNe [.str s, .str z] = some (.bl (!decide (s = z))) := rfl
@[simp] theorem y_neB : fNe [.bl p, .bl q] = some (.bl (!decide (p = q))) := rfl
@[simp] theorem y_lenL : fLen [.lst o xs] = some (.int xs.length) := rfl
@[simp] theorem y_lenK : fLen [.lok xs] = some (.int xs.length) := rfl
@[simp] theorem y_lenT : fLen [.tup o xs] = some (.int xs.length) := rfl
theorem y_lenS' : fLen [.str s] = (if s.length ≤ 1000000 then some (.int s.length) else none) := by
  unfold fLen
  by_cases h : s.length ≤ 1000000
  · simp [h, lenD]
  · simp [h, lenD]
@[simp] theorem y_lenS (h : s.length ≤ 1000000) : fLen [.str s] = some (.int s.length) := by rw [y_lenS', if_pos h]
@[simp] theorem y_ixL (i : Int) : fIx [.lst o xs, .int i] = (match atI xs i with | some d => if d.isFz = true then some d else none | none => none) := rfl
@[simp] theorem y_ixT (i : Int) : fIx [.tup o xs, .int i] = (match atI xs i with | some d => if d.isFz = true then some d else none | none => none) := rfl
@[simp] theorem y_ixS (i : Int) : fIx [.str s, .int i] = (if s.length ≤ 1000000 then (atI s.cps.toList i).map fun c => .str (sx [c]) else none) := rfl
@[simp] theorem y_in (n : Bool) (a b : D) : fIn n [a, b] = (inD a b).map (fun k => .bl (if n then !k else k)) := rfl
@[simp] theorem z_truB : truD (.bl p) = some p := rfl
@[simp] theorem z_truL : truD (.lst o xs) = some (!xs.isEmpty) := rfl
@[simp] theorem z_truT : truD (.tup o xs) = some (!xs.isEmpty) := rfl
@[simp] theorem z_frN : D.fr .non = .non := rfl
@[simp] theorem z_frB : D.fr (.bl p) = .bl p := rfl
@[simp] theorem z_frI : D.fr (.int x) = .int x := rfl
@[simp] theorem z_frS : D.fr (.str s) = .str s := rfl
@[simp] theorem z_frL : D.fr (.lst o xs) = .lst false (D.frL xs) := rfl
@[simp] theorem z_frT : D.fr (.tup o xs) = .tup false (D.frL xs) := rfl
@[simp] theorem z_frK : D.fr (.lok xs) = .lok xs := rfl
@[simp] theorem z_frL0 : D.frL [] = [] := rfl
@[simp] theorem z_frL1 (d : D) : D.frL (d :: r) = d.fr :: D.frL r := rfl
@[simp] theorem z_fzN : D.isFz .non = true := rfl
@[simp] theorem z_fzB : D.isFz (.bl p) = true := rfl
@[simp] theorem z_fzI : D.isFz (.int x) = true := rfl
@[simp] theorem z_fzS : D.isFz (.str s) = true := rfl
@[simp] theorem z_fzL : D.isFz (.lst o xs) = (!o && D.isFzL xs) := rfl
@[simp] theorem z_fzT : D.isFz (.tup o xs) = (!o && D.isFzL xs) := rfl
@[simp] theorem z_fzK : D.isFz (.lok xs) = true := rfl
@[simp] theorem z_fzL0 : D.isFzL [] = true := rfl
@[simp] theorem z_fzL1 (d : D) : D.isFzL (d :: r) = (d.isFz && D.isFzL r) := rfl
@[simp] theorem z_fzInts (l : List Int) : D.isFzL (l.map .int) = true := by induction l with
  | nil => rfl
  | cons a l ih => simpa using ih
@[simp] theorem z_frInts (l : List Int) : D.frL (l.map .int) = l.map .int := frL_isFz _ (z_fzInts l)
@[simp] theorem z_fzStrs (l : List Str) : D.isFzL (l.map .str) = true := by induction l with
  | nil => rfl
  | cons a l ih => simpa using ih
@[simp] theorem z_frStrs (l : List Str) : D.frL (l.map .str) = l.map .str := frL_isFz _ (z_fzStrs l)
@[simp] theorem z_itL : itemsD (.lst o xs) = some xs := rfl
@[simp] theorem z_itT : itemsD (.tup o xs) = some xs := rfl
@[simp] theorem z_itK : itemsD (.lok xs) = some xs := rfl
@[simp] theorem z_itS : itemsD (.str s) = some (s.cps.toList.map fun c => .str (sx [c])) := rfl
@[simp] theorem z_fzChars (l : List Nat) : D.isFzL (l.map fun c => D.str (sx [c])) = true := by induction l with
  | nil => rfl
  | cons a l ih => simpa using ih
@[simp] theorem z_isi (bs : List String) (d : D) : fIsi bs [d] = (tyNm d).map (fun a => .bl (isTys a bs)) := rfl
@[simp] theorem z_tyN : tyNm .non = some "NoneType" := rfl
@[simp] theorem z_tyB : tyNm (.bl p) = some "bool" := rfl
@[simp] theorem z_tyI : tyNm (.int x) = some "int" := rfl
@[simp] theorem z_tyS : tyNm (.str s) = some "str" := rfl
@[simp] theorem z_tyL : tyNm (.lst o xs) = some "list" := rfl
@[simp] theorem z_tyT : tyNm (.tup o xs) = some "tuple" := rfl
@[simp] theorem z_tyK : tyNm (.lok xs) = some "list" := rfl
@[simp] theorem z_tyD (k : List (Key × D)) : tyNm (.dic o k) = some "dict" := rfl
end
theorem atI_nat {α : Type} {xs : List α} {i : Int} (h0 : 0 ≤ i) (h1 : i < xs.length) : atI xs i = xs[i.toNat]? := by
  unfold atI ixN
  rw [if_pos h0, if_pos h1]
  rfl
theorem log2_lt {i : Int} {k : Nat} (h : i.natAbs < 2 ^ k) (hk : 0 < k) : i.natAbs.log2 < k := by
  by_cases z : i.natAbs = 0
  · rw [z]; simpa using hk
  · exact (Nat.log2_lt z).mpr h
def sm (i : Int) : Prop := i.natAbs < 2 ^ 1000
theorem mulI {i j : Int} (hi : sm i) (hj : sm j) : fMul [.int i, .int j] = some (.int (i * j)) := by
  have h1 := log2_lt hi (by decide)
  have h2 := log2_lt hj (by decide)
  show (if _ then _ else _) = _
  rw [if_pos (by omega)]
theorem small {i : Int} (h1 : -(10 ^ 40) ≤ i) (h2 : i ≤ 10 ^ 40) : sm i := by
  have h3 : i.natAbs ≤ 10 ^ 40 := by omega
  exact Nat.lt_of_le_of_lt h3 (by decide)
theorem divI {i j : Int} (h : 0 < j) (h2 : j < 1073741824) : fDiv [.int i, .int j] = some (.int (i / j)) := by
  show (if _ then _ else if _ then _ else _) = _
  rw [if_pos ⟨h, h2⟩]
end Dy
/-! Dy, part U: loops in mirrors, by their invariants. -/
namespace Dy
open PySem L2

theorem forGo_inv {g : MG} {body : MS} (I : Nat → En → Prop) : ∀ {ds : List D} {k : Nat} {e : En}, (∀ i d e, ds[i]? = some d → I (k + i) e → ∃ e1 fl e2, g d e = .ok () e1 ∧ body e1 = .ok fl e2 ∧ (fl = .nx ∨ fl = .ct) ∧ I (k + i + 1) e2) → I k e →
    ∃ e', forGo g body ds e = .ok .nx e' ∧ I (k + ds.length) e'
  | [], k, e, _, h0 => ⟨e, rfl, h0⟩
  | d :: r, k, e, h, h0 => by
    obtain ⟨e1, fl, e2, h1, h2, h3, h4⟩ := h 0 d e rfl h0
    obtain ⟨e', q1, q2⟩ := forGo_inv I (ds := r) (k := k + 1) (e := e2) (fun i d' e0 hi hI => by
      have := h (i + 1) d' e0 (by simpa using hi) (by rw [show k + (i + 1) = k + 1 + i by omega]; exact hI)
      rw [show k + (i + 1) = k + 1 + i by omega] at this
      exact this) h4
    refine ⟨e', ?_, by rw [List.length_cons, show k + (r.length + 1) = k + 1 + r.length by omega]; exact q2⟩
    rcases h3 with rfl | rfl <;> simp only [forGo, h1, h2] <;> exact q1
/-- a loop's one turn -/
theorem forGo_cons {g : MG} {body : MS} {d : D} {r : List D} {e e1 e2 : En} (h1 : g d e = .ok () e1) (h2 : body e1 = .ok .nx e2) : forGo g body (d :: r) e = forGo g body r e2 := by
  simp only [forGo, h1, h2]
theorem forGo_ret {g : MG} {body : MS} {d z : D} {r : List D} {e e1 e2 : En} (h1 : g d e = .ok () e1) (h2 : body e1 = .ok (.rt z) e2) : forGo g body (d :: r) e = .ok (.rt z) e2 := by
  simp only [forGo, h1, h2]
theorem forGo_err {g : MG} {body : MS} {d : D} {x : Exn} {r : List D} {e e1 e2 : En} (h1 : g d e = .ok () e1) (h2 : body e1 = .err x e2) : forGo g body (d :: r) e = .err x e2 := by
  simp only [forGo, h1, h2]
theorem forGo_brk {g : MG} {body : MS} {d : D} {r : List D} {e e1 e2 : En} (h1 : g d e = .ok () e1) (h2 : body e1 = .ok .bk e2) : forGo g body (d :: r) e = .ok .nx e2 := by
  simp only [forGo, h1, h2]
theorem lcGo_pure {vs : List Nat} {g : MG} {tt : M Bool} {te : M OV} {e : En} (p : D → Bool) (f : D → D) : ∀ {ds : List D} {acc : List D}, acc.length + ds.length ≤ 1000000 →
    (∀ d ∈ ds, ∃ e1 e2, g d e = .ok () e1 ∧ tt e1 = .ok (p d) e2 ∧ (p d = false → wipeE e2 vs = e) ∧ (p d = true → ∃ o e3 e4, te e2 = .ok o e3 ∧ takeOne o e3 = some (f d, e4) ∧ wipeE e4 vs = e)) →
    lcGo vs g tt te ds acc e = .ok (acc ++ (ds.filter p).map f) e
  | [], acc, _, _ => by rw [lcGo]; simp
  | d :: r, acc, hl, h => by
    rw [List.length_cons] at hl
    obtain ⟨e1, e2, h1, h2, h3, h4⟩ := h d List.mem_cons_self
    have ht : ∀ x ∈ r, _ := fun x m => h x (List.mem_cons_of_mem _ m)
    rw [lcGo, h1]
    simp only [h2]
    cases q : p d with
    | false =>
      simp only
      rw [h3 q, lcGo_pure p f (by omega) ht, List.filter_cons, q]
      rfl
    | true =>
      obtain ⟨o, e3, e4, k1, k2, k3⟩ := h4 q
      simp only [k1, k2]
      rw [if_pos (by omega), k3, lcGo_pure p f (by rw [List.length_append]; simp; omega) ht, List.filter_cons, q]
      simp
theorem lcGo_all {vs : List Nat} {g : MG} {tt : M Bool} {te : M OV} {P : D → Prop} (I : Nat → En → Prop) : ∀ {ds : List D} {acc : List D} {k : Nat} {e : En}, acc.length + ds.length ≤ 1000000 →
    (∀ i d e, ds[i]? = some d → I (k + i) e → ∃ e1 e2 o e3 z e4, g d e = .ok () e1 ∧ tt e1 = .ok true e2 ∧ te e2 = .ok o e3 ∧ takeOne o e3 = some (z, e4) ∧ P z ∧ I (k + i + 1) (wipeE e4 vs)) → I k e →
    ∃ zs e', lcGo vs g tt te ds acc e = .ok (acc ++ zs) e' ∧ zs.length = ds.length ∧ (∀ z ∈ zs, P z) ∧ I (k + ds.length) e'
  | [], acc, k, e, _, _, h0 => ⟨[], e, by rw [lcGo]; simp, rfl, (fun _ m => nomatch m), h0⟩
  | d :: r, acc, k, e, hl, h, h0 => by
    rw [List.length_cons] at hl
    obtain ⟨e1, e2, o, e3, z, e4, h1, h2, h3, h4, h5, h6⟩ := h 0 d e rfl h0
    obtain ⟨zs, e', q1, q2, q3, q4⟩ := lcGo_all I (ds := r) (acc := acc ++ [z]) (k := k + 1) (by rw [List.length_append]; simp; omega) (fun i d' e0 hi hI => by
      have := h (i + 1) d' e0 (by simpa using hi) (by rw [show k + (i + 1) = k + 1 + i by omega]; exact hI)
      rw [show k + (i + 1) = k + 1 + i by omega] at this
      exact this) h6
    refine ⟨z :: zs, e', ?_, by rw [List.length_cons, List.length_cons, q2], fun x m => ?_, by rw [List.length_cons, show k + (r.length + 1) = k + 1 + r.length by omega]; exact q4⟩
    · rw [lcGo, h1]
      simp only [h2, h3, h4]
      rw [if_pos (by omega), q1]
      simp
    · rcases List.mem_cons.mp m with rfl | m
      · exact h5
      · exact q3 x m
end Dy
/-! Dy, part V: texts in mirrors as lists of their signs. -/
namespace Dy
open PySem L2 TL

@[simp] theorem sx_tl (l : List Nat) : (sx l).cps.toList = l := rfl
theorem tl_sx (l : List Nat) : tl (sx l) = l := rfl
theorem sx_of (s : Str) : sx s.cps.toList = s := ext_tl rfl
@[simp] theorem sx_len (l : List Nat) : (sx l).length = l.length := len_tl _
theorem sx_inj {a b : List Nat} : sx a = sx b ↔ a = b := ⟨fun h => congrArg tl h, fun h => by rw [h]⟩
@[simp] theorem sx_dec {a b : List Nat} : decide (sx a = sx b) = decide (a = b) := decide_eq_decide.mpr sx_inj
@[simp] theorem sx_append (a b : List Nat) : sx a ++ sx b = sx (a ++ b) := ext_tl (tl_append _ _)
theorem sx_one (c : Nat) : (⟨#[c]⟩ : Str) = sx [c] := rfl
/-- the first place of a sign -/
theorem find1 (l : List Nat) (c : Nat) : Txt.find (sx l) (sx [c]) = match l.findIdx? (· == c) with | some i => (i : Int) | none => -1 := by
  have hy : tl (sx [c]) ≠ [] := by simp [tl_sx]
  have hp : ∀ i, pre (tl (sx [c])) ((tl (sx l)).drop i) = true ↔ l[i]? = some c := fun i => by
    rw [tl_sx, tl_sx]
    unfold pre
    rw [List.length_singleton]
    cases q : l.drop i with
    | nil =>
      have : l[i]? = none := by
        rw [List.getElem?_eq_none_iff]
        exact List.drop_eq_nil_iff.mp q
      rw [this]
      simp
    | cons a r =>
      have : l[i]? = some a := by
        have := congrArg List.head? q
        rw [List.head?_drop] at this
        exact this
      rw [this]
      simp
  have hu : Txt.find (sx l) (sx [c]) = match Builtin.Str.occurrences (sx l) (sx [c]) 0 (sx l).length 1 with | i :: _ => (i : Int) | [] => -1 := rfl
  rw [hu]
  rcases StrLaws.occ_head (sx l) (sx [c]) 1 (Nat.le_refl _) with ⟨h, hn⟩ | ⟨i, r, h, ha, hn⟩
  · rw [h]
    have : l.findIdx? (· == c) = none := by
      rw [List.findIdx?_eq_none_iff]
      intro x hx
      obtain ⟨j, hj⟩ := List.getElem?_of_mem hx
      cases q : x == c with
      | false => rfl
      | true =>
        rw [beq_iff_eq.mp q] at hj
        exact absurd ((at_iff hy j).mpr ((hp j).mpr hj)) (hn j)
    rw [this]
  · rw [h]
    have h1 := (hp i).mp ((at_iff hy i).mp ha)
    have : l.findIdx? (· == c) = some i := by
      rw [List.findIdx?_eq_some_iff_getElem]
      obtain ⟨hi, he⟩ := List.getElem?_eq_some_iff.mp h1
      refine ⟨hi, by simp [he], fun j hj => ?_⟩
      have := hn j hj
      simp only [Bool.not_eq_true, beq_eq_false_iff_ne, ne_eq]
      intro q
      exact this ((at_iff hy j).mpr ((hp j).mpr (List.getElem?_eq_some_iff.mpr ⟨by omega, q⟩)))
    rw [this]
theorem split1 (c : Nat) : ∀ l : List Nat, c ∉ l ∨ ∃ a b, l = a ++ c :: b ∧ c ∉ a
  | [] => .inl (by simp)
  | x :: l => by
    by_cases h : x = c
    · exact .inr ⟨[], l, by rw [h]; rfl, by simp⟩
    · rcases split1 c l with q | ⟨a, b, q, n⟩
      · exact .inl (by simp [q, Ne.symm h])
      · exact .inr ⟨x :: a, b, by rw [q]; rfl, by simp [n, Ne.symm h]⟩
theorem find_app {a b : List Nat} {c : Nat} (h : c ∉ a) : Txt.find (sx (a ++ c :: b)) (sx [c]) = a.length := by
  rw [find1]
  have : (a ++ c :: b).findIdx? (· == c) = some a.length := by
    rw [List.findIdx?_eq_some_iff_getElem]
    refine ⟨by simp, by simp, fun j hj => ?_⟩
    rw [List.getElem_append_left hj]
    simp only [Bool.not_eq_true, beq_eq_false_iff_ne, ne_eq]
    intro q
    exact h (q ▸ List.getElem_mem hj)
  rw [this]
theorem find_none {a : List Nat} {c : Nat} (h : c ∉ a) : Txt.find (sx a) (sx [c]) = -1 := by
  rw [find1]
  have : a.findIdx? (· == c) = none := by
    rw [List.findIdx?_eq_none_iff]
    intro x hx
    cases q : x == c with
    | false => rfl
    | true => exact absurd (beq_iff_eq.mp q ▸ hx) h
  rw [this]
theorem part_app {a b : List Nat} {c : Nat} (h : c ∉ a) : Txt.partition (sx (a ++ c :: b)) (sx [c]) = (sx a, sx [c], sx b) := by
  have := partition_app (y := sx [c]) (s := c) (S := []) rfl (a := sx a) (b := sx b) h
  rw [sx_append, sx_append] at this
  rw [show a ++ c :: b = a ++ [c] ++ b by simp]
  exact this
theorem part_none {a : List Nat} {c : Nat} (h : c ∉ a) : Txt.partition (sx a) (sx [c]) = (sx a, sx [], sx []) := partition_none (y := sx [c]) (s := c) (S := []) rfl (a := sx a) h
theorem cut_to {a b : List Nat} : cutS (sx (a ++ b)) none (some (a.length : Int)) = sx a := by
  unfold cutS
  rw [HT.sIx_none, HT.sIx_nat, sx_len, sx_tl]
  congr 1
  rw [List.drop_zero, Nat.sub_zero, show min a.length (a ++ b).length = a.length by simp, List.take_left']
  rfl
theorem cut_from {a b : List Nat} {n : Nat} (h : n = a.length) : cutS (sx (a ++ b)) (some (n : Int)) none = sx b := by
  subst h
  unfold cutS
  rw [HT.sIx_none, HT.sIx_nat, sx_len, sx_tl]
  congr 1
  rw [show min a.length (a ++ b).length = a.length by simp, List.drop_left', List.take_of_length_le]
  · simp
  · rfl
section
variable (a b : Str) (xs : List D) (o : Bool) (lo hi : Option Int) (e : En)
@[simp] theorem x_sl (mo : M OV) (ml mh : M (Option Int)) : mSl mo ml mh e = (mo e).bind (fun o e1 => (ml e1).bind fun l e2 => (mh e2).bind fun h e3 => match o.get e3 with
  | some d => match fSl d l h with
    | some z => .ok (.tm z) e3
    | none => .stuck
  | none => .stuck) := rfl
@[simp] theorem x_fslL : fSl (.lst o xs) lo hi = (if D.isFzL xs = true then some (.lst true (cutD xs lo hi)) else none) := rfl
@[simp] theorem x_fslK : fSl (.lok xs) lo hi = (if D.isFzL xs = true then some (.lst true (cutD xs lo hi)) else none) := rfl
@[simp] theorem x_fslS : fSl (.str a) lo hi = (if a.length ≤ 1000000 then some (.str (cutS a lo hi)) else none) := rfl
@[simp] theorem y_find : fFind [.str a, .str b] = some (.int (Txt.find a b)) := rfl
@[simp] theorem y_split : fSplit [.str a, .str b] = (if (b.length == 0) = false ∧ a.length ≤ 1000000 then some (.lst true ((Txt.split a b).map .str)) else none) := rfl
@[simp] theorem y_part : fPartition [.str a, .str b] = (if (b.length == 0) = false ∧ a.length ≤ 1000000 then some (.tup false [.str (Txt.partition a b).1, .str (Txt.partition a b).2.1, .str (Txt.partition a b).2.2]) else none) := rfl
@[simp] theorem y_joinL : fJoin [.str a, .lst o xs] = (match strsD xs with
    | some ys => if (ys.map (·.length)).sum + ys.length * a.length ≤ 1000000 then some (.str (Txt.join a ys)) else none
    | none => none) := rfl
@[simp] theorem y_joinT : fJoin [.str a, .tup o xs] = (match strsD xs with
    | some ys => if (ys.map (·.length)).sum + ys.length * a.length ≤ 1000000 then some (.str (Txt.join a ys)) else none
    | none => none) := rfl
@[simp] theorem y_tupOf : fTupleOf [.lst o xs] = (if D.isFzL xs = true then some (.tup false xs) else none) := rfl
@[simp] theorem y_strI (i : Int) : fStrI [.int i] = (if i.natAbs.log2 < 1920 then some (.str (toString i)) else none) := rfl
@[simp] theorem y_asgT (n : Nat) (gs : List D → M Unit) : gTp n gs (.tup o xs) e = (if xs.length = n then gs xs e else .stuck) := rfl
@[simp] theorem y_gs0 : gsNil [] e = .ok () e := rfl
@[simp] theorem y_gs1 (g : MG) (gs : List D → M Unit) (d : D) : gsCons g gs (d :: xs) e = (g d e).bind (fun _ e1 => gs xs e1) := rfl
@[simp] theorem y_inS (x : Str) : inD (.str x) (.str a) = some (match x.cps.toList with
      | [c] => decide (c ∈ a.cps.toList)
      | _ => subS x a) := rfl
@[simp] theorem y_wipe0 : wipeE e [] = e := rfl
@[simp] theorem y_wipe1 (v : Nat) (vs : List Nat) : wipeE e (v :: vs) = (wipeE e vs).set v none := rfl
@[simp] theorem y_rest0 (e' : En) : restE e [] e' = e' := rfl
@[simp] theorem y_rest1 (v : Nat) (vs : List Nat) (e' : En) : restE e (v :: vs) e' = restE e vs (e'.set v (e[v]?).join) := rfl
@[simp] theorem y_fzAt (v : Nat) : fzAt e v = (match (e[v]?).join with | some d => d.isFz | none => true) := rfl
@[simp] theorem y_strs0 : strsD [] = some [] := rfl
@[simp] theorem y_strs1 : strsD (.str a :: xs) = (strsD xs).map (a :: ·) := rfl
@[simp] theorem y_strsM (l : List Str) : strsD (l.map .str) = some l := by induction l with
  | nil => rfl
  | cons x l ih => rw [List.map_cons, y_strs1, ih]; rfl
end
theorem cutD_all {α : Type} {xs : List α} {n : Nat} (h : xs.length ≤ n) : cutD xs none (some (n : Int)) = xs := by
  unfold cutD
  rw [HT.sIx_none, HT.sIx_nat, List.drop_zero, Nat.sub_zero, List.take_of_length_le (by omega)]
/-- a loop that looks at each thing and ends at the first that fails -/
theorem forGo_scan {g : MG} {body : MS} (E : Option D → En) (p : D → Bool) (fin : En → Res Fl) (hfin : ∀ e, (∃ z, fin e = .ok (.rt z) e) ∨ ∃ x, fin e = .err x e) : ∀ {ds : List D} (x : Option D),
    (∀ d ∈ ds, ∀ x, p d = true → ∃ e1, g d (E x) = .ok () e1 ∧ body e1 = .ok .nx (E (some d))) → (∀ d ∈ ds, ∀ x, p d = false → ∃ e1, g d (E x) = .ok () e1 ∧ body e1 = fin (E (some d))) →
    ∃ y, forGo g body ds (E x) = if ds.all p = true then .ok .nx (E y) else fin (E y)
  | [], x, _, _ => ⟨x, rfl⟩
  | d :: r, x, h1, h2 => by
    cases q : p d with
    | true =>
      obtain ⟨e1, k1, k2⟩ := h1 d List.mem_cons_self x q
      obtain ⟨y, hy⟩ := forGo_scan E p fin hfin (ds := r) (some d) (fun d' m => h1 d' (List.mem_cons_of_mem _ m)) (fun d' m => h2 d' (List.mem_cons_of_mem _ m))
      refine ⟨y, ?_⟩
      rw [forGo_cons k1 k2, hy, List.all_cons, q, Bool.true_and]
    | false =>
      obtain ⟨e1, k1, k2⟩ := h2 d List.mem_cons_self x q
      refine ⟨some d, ?_⟩
      rw [List.all_cons, q, Bool.false_and, if_neg Bool.false_ne_true]
      rcases hfin (E (some d)) with ⟨z, hz⟩ | ⟨z, hz⟩
      · rw [hz] at k2 ⊢; exact forGo_ret k1 k2
      · rw [hz] at k2 ⊢; exact forGo_err k1 k2
theorem all_map {α : Type} {f : α → D} {p : D → Bool} (l : List α) : (l.map f).all p = l.all fun c => p (f c) := by
  induction l with
  | nil => rfl
  | cons a l ih => rw [List.map_cons, List.all_cons, List.all_cons, ih]
@[simp] theorem x_chain (f f' : List D → Option D) (ma mb mc : M OV) (e : En) : mChain f f' ma mb mc e = (mArgs [ma, mb] e).bind (fun os e1 => match getAll e1 os with
  | some [x, y] => if y.imm = true then (match f [x, y] with
    | some (.bl true) => (mc e1).bind fun oz e2 => match oz.get e2 with
      | some z => match f' [y, z] with
        | some w => .ok (.tm w) e2
        | none => .stuck
      | none => .stuck
    | some (.bl false) => .ok (.tm (.bl false)) e1
    | _ => .stuck) else .stuck
  | _ => .stuck) := rfl
@[simp] theorem y_immI (i : Int) : D.imm (.int i) = true := rfl
@[simp] theorem y_immS (i : Str) : D.imm (.str i) = true := rfl
end Dy
namespace Wk
open PySem PySem.Spec PyProof.Rows L2 L2H Dy
def top (i : Nat) : Stmt := PySem.Challenge.pw_endsleftout_k33_deeds_there_and_back.main.body.getD i (.Pass ⟨0, 0, 0, 0⟩)
theorem hu65 {A : Around} {k : Nat} (hr : Room k A) : A.units + 65 < cLine := by have := hr.un; omega
def ct_BadLine : Str → Option Bool := fun x => List.lookup x [("BadLine", true), ("NoSuch", false)]
def ct_NoSuch : Str → Option Bool := fun x => List.lookup x [("BadLine", false), ("NoSuch", true)]
def tb_0 : Str → Option Bool := fun x => List.lookup x [("BadLine", true), ("NoSuch", true)]
def tb_1 : Str → Option Bool := fun x => List.lookup x [("BadLine", false), ("NoSuch", true)]
/-- what the top has written -/
structure Tx (K : PySem.W.Frag) (mg : Str → Option Value) (cl : Cl) (ad : Str → Addr) : Prop where
  fr : cl.Free
  b_ValueError : mg "ValueError" = none
  b_bool : mg "bool" = none
  b_dict : mg "dict" = none
  b_int : mg "int" = none
  b_isinstance : mg "isinstance" = none
  b_len : mg "len" = none
  b_list : mg "list" = none
  b_range : mg "range" = none
  b_repr : mg "repr" = none
  b_sorted : mg "sorted" = none
  b_str : mg "str" = none
  b_tuple : mg "tuple" = none
  g_BARE_WORDS : GC K cl mg "BARE_WORDS" (.tup false [(.str "cure"), (.str "undo")])
  g_DIGITS_MOST : GC K cl mg "DIGITS_MOST" (.int 4)
  g_DIGITS_deeds : GC K cl mg "DIGITS_deeds" (.str "0123456789")
  g_DIGITS_treeletters : GC K cl mg "DIGITS_treeletters" (.str "0123456789")
  g_LETTER_WORDS : GC K cl mg "LETTER_WORDS" (.tup false [(.str "text"), (.str "spare"), (.str "mend")])
  g_MOST_DIGITS : GC K cl mg "MOST_DIGITS" (.int 4)
  g_NAME_MOST : GC K cl mg "NAME_MOST" (.int 12)
  g_NAME_WORDS : GC K cl mg "NAME_WORDS" (.tup false [(.str "fuller"), (.str "lesser"), (.str "forbid")])
  g_SMALL : GC K cl mg "SMALL" (.str "abcdefghijklmnopqrstuvwxyz")
  x_BadLine : XC K mg cl "BadLine" (ad "BadLine")
  x_NoSuch : XC K mg cl "NoSuch" (ad "NoSuch")
  k_BadMarkup : mg "BadMarkup" = some (.ref (ad "BadMarkup"))
  k_BadTree : mg "BadTree" = some (.ref (ad "BadTree"))
  k_Limit : mg "Limit" = some (.ref (ad "Limit"))
  k_NoSuch : mg "NoSuch" = some (.ref (ad "NoSuch"))
  k_UnknownName : mg "UnknownName" = some (.ref (ad "UnknownName"))
  ct_BadLine : Caught K cl (.ref (ad "BadLine")) ct_BadLine
  ct_NoSuch : Caught K cl (.ref (ad "NoSuch")) ct_NoSuch
  i_0 : IsTab K cl [.type "ValueError"] tb_0
  i_1 : IsTab K cl [.ref (ad "BadMarkup"), .ref (ad "BadTree"), .ref (ad "Limit"), .ref (ad "NoSuch"), .ref (ad "UnknownName")] tb_1
  a_law_mix : At K mg "_law_mix" (top 34) ["number", "turn"]
  a_law_store : At K mg "_law_store" (top 35) ["script"]
  a_law_take : At K mg "_law_take" (top 36) ["store", "many"]
  a_law_pick : At K mg "_law_pick" (top 38) ["store", "items"]
  a_law_odds : At K mg "_law_odds" (top 37) ["store", "many"]
  a_law_number_text : At K mg "_law_number_text" (top 50) ["store"]
  a_law_name : At K mg "_law_name" (top 40) ["store"]
  a_law_line : At K mg "_law_line" (top 51) ["store", "word"]
  a_law_bent_string : At K mg "_law_bent_string" (top 41) ["store", "string"]
  a_law_alike : At K mg "_law_alike" (top 43) ["told", "due"]
  a_from_zero : At K mg "from_zero" (top 13) ["value"]
  a_is_address : At K mg "is_address" (top 14) ["value"]
  a_format_address : At K mg "format_address" (top 18) ["address"]
  a_format_deed : At K mg "format_deed" (top 32) ["deed"]
  a_cut_off : At K mg "cut_off" (top 30) ["string"]
  a_only_of : At K mg "only_of" (top 10) ["string", "signs"]
  a_is_name : At K mg "is_name" (top 11) ["value"]
  a_name_of : At K mg "name_of" (top 29) ["string"]
  a_is_number : At K mg "is_number" (top 19) ["part"]
  a_parse_address : At K mg "parse_address" (top 20) ["string"]
  a_address_of : At K mg "address_of" (top 28) ["string"]
  a_number_of : At K mg "number_of" (top 27) ["string"]
  a_parse_deed : At K mg "parse_deed" (top 31) ["line"]
  a_law_fine : At K mg "_law_fine" (top 49) ["value", "due"]
  a_law_cut_at : At K mg "_law_cut_at" (top 46) ["line", "many"]
  a_law_digits : At K mg "_law_digits" (top 44) ["part"]
  a_law_spots : At K mg "_law_spots" (top 45) ["part"]
  a_law_is_named : At K mg "_law_is_named" (top 47) ["part"]
  a_law_read : At K mg "_law_read" (top 48) ["line"]
  a_law_no_line : At K mg "_law_no_line" (top 42) ["store"]
  a_law : At K mg "law" (top 52) ["script"]
section
variable {P : Program} {w : World} {K : PySem.W.Frag} {mg : Str → Option Value} {base : Heap} {cl : Cl} {ad : Str → Addr}
/-! _law_mix: 0 number, 1 turn, 2 low, 3 high, 4 one, 5 two -/
abbrev s_law_mix : Stmt := top 34
def N_law_mix : List Str := ["number", "turn", "low", "high", "one", "two"]
theorem sc_law_mix : L2.FnScope N_law_mix ["number", "turn"] (defScope s_law_mix) := ⟨rfl, rfl, rfl, by decide +kernel, rfl, by decide +kernel, by decide +kernel⟩
def m_law_mix : MS := mSeq (mSet 2 (mLoc fMod (mArgs [mLoc fInt (mArgs [mName 0]), mPure (.tm (.int 2147483647))]))) (mSeq (mSet 3 (mLoc fMod (mArgs [mLoc fDiv (mArgs [mLoc fInt (mArgs [mName 0]), mPure (.tm (.int 2147483647))]), mPure (.tm (.int 1000003))]))) (mSeq (mSet 4 (mLoc fMod (mArgs [mLoc fAdd (mArgs [mLoc fAdd (mArgs [mLoc fAdd (mArgs [mLoc fMul (mArgs [mName 2, mPure (.tm (.int 48271))]), mLoc fMul (mArgs [mName 3, mPure (.tm (.int 69621))])]), mLoc fMul (mArgs [mName 1, mPure (.tm (.int 16807))])]), mPure (.tm (.int 12345))]), mPure (.tm (.int 2147483629))]))) (mSeq (mSet 5 (mLoc fMod (mArgs [mLoc fAdd (mArgs [mLoc fAdd (mArgs [mLoc fMul (mArgs [mName 4, mName 4]), mLoc fMul (mArgs [mName 2, mPure (.tm (.int 40014))])]), mLoc fMul (mArgs [mName 1, mPure (.tm (.int 7))])]), mPure (.tm (.int 2147483587))]))) (mRet (ioSlots [false, false] 0) (mLoc fMod (mArgs [mLoc fAdd (mArgs [mLoc fAdd (mArgs [mLoc fMul (mArgs [mName 5, mName 5]), mLoc fMul (mArgs [mName 4, mPure (.tm (.int 39373))])]), mName 1]), mPure (.tm (.int 2147483563))]))))))
def r_law_mix : List D → Ret := mDef 6 [false, false] m_law_mix
theorem w_law_mix (T : Tx K mg cl ad) : DOk P w K mg base (L2.CX P w) 2 "_law_mix" cl r_law_mix [false, false] := DOk.def (N := N_law_mix) T.a_law_mix sc_law_mix rfl rfl fun f cdv A outer s H E hr => by
  exact (dpss_cons (dps_set (i := 2) sc_law_mix.nd rfl (by first | exact Or.inl rfl | exact Or.inr rfl) rfl (dpe_op op_mod lo_mod (dpe_callTy call_intAll lo_int T.b_int (by decide +kernel) (dpa_cons (dpv 0) dpa_nil)) dpe_int)) (dpss_cons (dps_set (i := 3) sc_law_mix.nd rfl (by first | exact Or.inl rfl | exact Or.inr rfl) rfl (dpe_op op_mod lo_mod (dpe_op op_fdivAll lo_div (dpe_callTy call_intAll lo_int T.b_int (by decide +kernel) (dpa_cons (dpv 0) dpa_nil)) dpe_int) dpe_int)) (dpss_cons (dps_set (i := 4) sc_law_mix.nd rfl (by first | exact Or.inl rfl | exact Or.inr rfl) rfl (dpe_op op_mod lo_mod (dpe_op op_addAll lo_add (dpe_op op_addAll lo_add (dpe_op op_addAll lo_add (dpe_op op_mulAll lo_mul (dpv 2) dpe_int) (dpe_op op_mulAll lo_mul (dpv 3) dpe_int)) (dpe_op op_mulAll lo_mul (dpv 1) dpe_int)) dpe_int) dpe_int)) (dpss_cons (dps_set (i := 5) sc_law_mix.nd rfl (by first | exact Or.inl rfl | exact Or.inr rfl) rfl (dpe_op op_mod lo_mod (dpe_op op_addAll lo_add (dpe_op op_addAll lo_add (dpe_op op_mulAll lo_mul (dpv 4) (dpv 4)) (dpe_op op_mulAll lo_mul (dpv 2) dpe_int)) (dpe_op op_mulAll lo_mul (dpv 1) dpe_int)) dpe_int)) (dpss_one (dps_ret (dpe_op op_mod lo_mod (dpe_op op_addAll lo_add (dpe_op op_addAll lo_add (dpe_op op_mulAll lo_mul (dpv 5) (dpv 5)) (dpe_op op_mulAll lo_mul (dpv 4) dpe_int)) (dpv 1)) dpe_int)))))))
/-! _law_store: 0 script, 1 cells, 2 cell, 3 total -/
abbrev s_law_store : Stmt := top 35
def N_law_store : List Str := ["script", "cells", "cell", "total"]
theorem sc_law_store : L2.FnScope N_law_store ["script"] (defScope s_law_store) := ⟨rfl, rfl, rfl, by decide +kernel, rfl, by decide +kernel, by decide +kernel⟩
def m_law_store : MS := mSeq (mSet 1 (mLc [2] (mIter (mSl (mName 0) mNoP (mPart (mPure (.tm (.int 63)))))) (gNm 2) (mPure true) (mLoc fInt (mArgs [mName 2])))) (mSeq (mSet 3 (mLoc fLen (mArgs [mName 1]))) (mSeq (mFor (mIter (mName 1)) (gNm 2) (mSet 3 (mCall (r_law_mix) [false, false] (mArgs [mName 2, mName 3])))) (mRet (ioSlots [false] 0) (mLst (mArgs [mName 1, mPure (.tm (.int 0)), mPure (.tm (.int 0)), mPure (.tm (.int 0)), mPure (.tm (.int 0)), mName 3])))))
def r_law_store : List D → Ret := mDef 4 [false] m_law_store
theorem w_law_store (T : Tx K mg cl ad) : DOk P w K mg base (L2.CX P w) 3 "_law_store" cl r_law_store [false] := DOk.def (N := N_law_store) T.a_law_store sc_law_store rfl rfl fun f cdv A outer s H E hr => by
  exact (dpss_cons (dps_setLc (own := [("cell", 2)]) (j := 1) 4 rfl rfl sc_law_store.nd rfl rfl rfl (sw_true rfl rfl rfl (by decide +kernel)) (dpi_any (dpe_sl01 (dpv 0) dpe_int)) (blkOk_by (N := N_law_store) (sc := defScope s_law_store) (own := [("cell", 2)]) (by decide +kernel)) (by decide) (fun _ _ _ _ _ => (dpg_name (i := 2) sc_law_store.nd rfl (by first | exact Or.inl rfl | exact Or.inr rfl) rfl)) (fun _ _ _ _ _ => dpts_nil) (fun _ _ _ _ _ => (dpe_callTy call_intAll lo_int T.b_int (by decide +kernel) (dpa_cons (dpv 2) dpa_nil)))) (dpss_cons (dps_set (i := 3) sc_law_store.nd rfl (by first | exact Or.inl rfl | exact Or.inr rfl) rfl (dpe_callB call_len lo_len T.b_len (by decide +kernel) (dpa_cons (dpv 1) dpa_nil))) (dpss_cons (dps_for PassesOwn.leaving rfl (dpi_any (dpv 1)) (dpg_name (i := 2) sc_law_store.nd rfl (by first | exact Or.inl rfl | exact Or.inr rfl) rfl) (dpss_one (dps_set (i := 3) sc_law_store.nd rfl (by first | exact Or.inl rfl | exact Or.inr rfl) rfl (dpe_call (w_law_mix T) (hr.mono (by decide)) (takes_of rfl rfl rfl rfl) (dpa_cons (dpv 2) (dpa_cons (dpv 3) dpa_nil)))))) (dpss_one (dps_ret (dpe_lst (dpa_cons (dpv 1) (dpa_cons dpe_int (dpa_cons dpe_int (dpa_cons dpe_int (dpa_cons dpe_int (dpa_cons (dpv 3) dpa_nil))))))))))))
/-! _law_take: 0 store, 1 many, 2 cells, 3 number -/
abbrev s_law_take : Stmt := top 36
def N_law_take : List Str := ["store", "many", "cells", "number"]
theorem sc_law_take : L2.FnScope N_law_take ["store", "many"] (defScope s_law_take) := ⟨rfl, rfl, rfl, by decide +kernel, rfl, by decide +kernel, by decide +kernel⟩
def m_law_take : MS := mSeq (mIf (mTest (mLoc (fCmpI fun i j => decide (i < j)) (mArgs [mName 1, mPure (.tm (.int 2))]))) (mRet (ioSlots [true, false] 0) (mPure (.tm (.int 0)))) (mNx)) (mSeq (mSetIx 0 (mPure (.tm (.int 4))) (mLoc fAdd (mArgs [mLoc fIx (mArgs [mName 0, mPure (.tm (.int 4))]), mPure (.tm (.int 1))]))) (mSeq (mSet 2 (mLoc fIx (mArgs [mName 0, mPure (.tm (.int 0))]))) (mSeq (mIf (mAnd (mTest (mLoc fEq (mArgs [mLoc fIx (mArgs [mName 0, mPure (.tm (.int 2))]), mPure (.tm (.int 0))]))) (mAnd (mTest (mLoc (fCmpI fun i j => decide (i < j)) (mArgs [mLoc fIx (mArgs [mName 0, mPure (.tm (.int 1))]), mLoc fLen (mArgs [mName 2])]))) (mTest (mLoc (fCmpI fun i j => decide (j ≤ i)) (mArgs [mLoc fIx (mArgs [mName 2, mLoc fIx (mArgs [mName 0, mPure (.tm (.int 1))])]), mLoc fPow (mArgs [mPure (.tm (.int 10)), mPure (.tm (.int 18))])]))))) (mSeq (mSetIx 0 (mPure (.tm (.int 2))) (mLoc fIx (mArgs [mName 2, mLoc fIx (mArgs [mName 0, mPure (.tm (.int 1))])]))) (mSetIx 0 (mPure (.tm (.int 1))) (mLoc fAdd (mArgs [mLoc fIx (mArgs [mName 0, mPure (.tm (.int 1))]), mPure (.tm (.int 1))])))) (mNx)) (mSeq (mIf (mTest (mLoc (fCmpI fun i j => decide (j < i)) (mArgs [mLoc fIx (mArgs [mName 0, mPure (.tm (.int 2))]), mPure (.tm (.int 0))]))) (mSeq (mSet 3 (mLoc fMod (mArgs [mLoc fInt (mArgs [mLoc fIx (mArgs [mName 0, mPure (.tm (.int 2))])]), mName 1]))) (mSeq (mSetIx 0 (mPure (.tm (.int 2))) (mLoc fDiv (mArgs [mLoc fInt (mArgs [mLoc fIx (mArgs [mName 0, mPure (.tm (.int 2))])]), mName 1]))) (mRet (ioSlots [true, false] 0) (mName 3)))) (mNx)) (mSeq (mIf (mTest (mLoc (fCmpI fun i j => decide (j ≤ i)) (mArgs [mLoc fIx (mArgs [mName 0, mPure (.tm (.int 1))]), mLoc fLen (mArgs [mName 2])]))) (mRet (ioSlots [true, false] 0) (mLoc fMod (mArgs [mLoc fInt (mArgs [mCall (r_law_mix) [false, false] (mArgs [mLoc fIx (mArgs [mName 0, mPure (.tm (.int 5))]), mLoc fIx (mArgs [mName 0, mPure (.tm (.int 4))])])]), mName 1]))) (mNx)) (mSeq (mSet 3 (mLoc fMod (mArgs [mLoc fInt (mArgs [mCall (r_law_mix) [false, false] (mArgs [mLoc fIx (mArgs [mName 2, mLoc fIx (mArgs [mName 0, mPure (.tm (.int 1))])]), mLoc fIx (mArgs [mName 0, mPure (.tm (.int 4))])])]), mName 1]))) (mSeq (mSetIx 0 (mPure (.tm (.int 3))) (mLoc fAdd (mArgs [mLoc fIx (mArgs [mName 0, mPure (.tm (.int 3))]), mPure (.tm (.int 1))]))) (mSeq (mIf (mTest (mLoc fEq (mArgs [mLoc fIx (mArgs [mName 0, mPure (.tm (.int 3))]), mPure (.tm (.int 4))]))) (mSeq (mSetIx 0 (mPure (.tm (.int 3))) (mPure (.tm (.int 0)))) (mSetIx 0 (mPure (.tm (.int 1))) (mLoc fAdd (mArgs [mLoc fIx (mArgs [mName 0, mPure (.tm (.int 1))]), mPure (.tm (.int 1))])))) (mNx)) (mRet (ioSlots [true, false] 0) (mName 3))))))))))
def r_law_take : List D → Ret := mDef 4 [true, false] m_law_take
theorem w_law_take (T : Tx K mg cl ad) : DOk P w K mg base (L2.CX P w) 3 "_law_take" cl r_law_take [true, false] := DOk.def (N := N_law_take) T.a_law_take sc_law_take rfl rfl fun f cdv A outer s H E hr => by
  exact (dpss_cons (dps_if (dpt_cmp op_lt (lo_cmpI fun i j => decide (i < j)) (dpv 1) dpe_int) (dpss_one (dps_ret dpe_int)) dpss_nil) (dpss_cons (dps_setIx (i := 0) (hu_of hr) rfl (by first | exact Or.inl rfl | exact Or.inr (Or.inl rfl)) dpe_int (dpe_op op_addAll lo_add (dpe_ix (dpv 0) dpe_int) dpe_int)) (dpss_cons (dps_set (i := 2) sc_law_take.nd rfl (by first | exact Or.inl rfl | exact Or.inr rfl) rfl (dpe_ix (dpv 0) dpe_int)) (dpss_cons (dps_if (pw_pt (dpw_and (dpt_cmp (op_eqA hr.units) lo_eq (dpe_ix (dpv 0) dpe_int) dpe_int) (dpw_and (dpt_cmp op_lt (lo_cmpI fun i j => decide (i < j)) (dpe_ix (dpv 0) dpe_int) (dpe_callB call_len lo_len T.b_len (by decide +kernel) (dpa_cons (dpv 2) dpa_nil))) (dpw_and1 (dpt_cmp op_ge (lo_cmpI fun i j => decide (j ≤ i)) (dpe_ix (dpv 2) (dpe_ix (dpv 0) dpe_int)) (dpe_op op_pow lo_pow dpe_int dpe_int)))))) (dpss_cons (dps_setIx (i := 0) (hu_of hr) rfl (by first | exact Or.inl rfl | exact Or.inr (Or.inl rfl)) dpe_int (dpe_ix (dpv 2) (dpe_ix (dpv 0) dpe_int))) (dpss_one (dps_setIx (i := 0) (hu_of hr) rfl (by first | exact Or.inl rfl | exact Or.inr (Or.inl rfl)) dpe_int (dpe_op op_addAll lo_add (dpe_ix (dpv 0) dpe_int) dpe_int)))) dpss_nil) (dpss_cons (dps_if (dpt_cmp op_gt (lo_cmpI fun i j => decide (j < i)) (dpe_ix (dpv 0) dpe_int) dpe_int) (dpss_cons (dps_set (i := 3) sc_law_take.nd rfl (by first | exact Or.inl rfl | exact Or.inr rfl) rfl (dpe_op op_mod lo_mod (dpe_callTy call_intAll lo_int T.b_int (by decide +kernel) (dpa_cons (dpe_ix (dpv 0) dpe_int) dpa_nil)) (dpv 1))) (dpss_cons (dps_setIx (i := 0) (hu_of hr) rfl (by first | exact Or.inl rfl | exact Or.inr (Or.inl rfl)) dpe_int (dpe_op op_fdivAll lo_div (dpe_callTy call_intAll lo_int T.b_int (by decide +kernel) (dpa_cons (dpe_ix (dpv 0) dpe_int) dpa_nil)) (dpv 1))) (dpss_one (dps_ret (dpv 3))))) dpss_nil) (dpss_cons (dps_if (dpt_cmp op_ge (lo_cmpI fun i j => decide (j ≤ i)) (dpe_ix (dpv 0) dpe_int) (dpe_callB call_len lo_len T.b_len (by decide +kernel) (dpa_cons (dpv 2) dpa_nil))) (dpss_one (dps_ret (dpe_op op_mod lo_mod (dpe_callTy call_intAll lo_int T.b_int (by decide +kernel) (dpa_cons (dpe_call (w_law_mix T) (hr.mono (by decide)) (takes_of rfl rfl rfl rfl) (dpa_cons (dpe_ix (dpv 0) dpe_int) (dpa_cons (dpe_ix (dpv 0) dpe_int) dpa_nil))) dpa_nil)) (dpv 1)))) dpss_nil) (dpss_cons (dps_set (i := 3) sc_law_take.nd rfl (by first | exact Or.inl rfl | exact Or.inr rfl) rfl (dpe_op op_mod lo_mod (dpe_callTy call_intAll lo_int T.b_int (by decide +kernel) (dpa_cons (dpe_call (w_law_mix T) (hr.mono (by decide)) (takes_of rfl rfl rfl rfl) (dpa_cons (dpe_ix (dpv 2) (dpe_ix (dpv 0) dpe_int)) (dpa_cons (dpe_ix (dpv 0) dpe_int) dpa_nil))) dpa_nil)) (dpv 1))) (dpss_cons (dps_setIx (i := 0) (hu_of hr) rfl (by first | exact Or.inl rfl | exact Or.inr (Or.inl rfl)) dpe_int (dpe_op op_addAll lo_add (dpe_ix (dpv 0) dpe_int) dpe_int)) (dpss_cons (dps_if (dpt_cmp (op_eqA hr.units) lo_eq (dpe_ix (dpv 0) dpe_int) dpe_int) (dpss_cons (dps_setIx (i := 0) (hu_of hr) rfl (by first | exact Or.inl rfl | exact Or.inr (Or.inl rfl)) dpe_int dpe_int) (dpss_one (dps_setIx (i := 0) (hu_of hr) rfl (by first | exact Or.inl rfl | exact Or.inr (Or.inl rfl)) dpe_int (dpe_op op_addAll lo_add (dpe_ix (dpv 0) dpe_int) dpe_int)))) dpss_nil) (dpss_one (dps_ret (dpv 3))))))))))))
/-! _law_pick: 0 store, 1 items -/
abbrev s_law_pick : Stmt := top 38
def N_law_pick : List Str := ["store", "items"]
theorem sc_law_pick : L2.FnScope N_law_pick ["store", "items"] (defScope s_law_pick) := ⟨rfl, rfl, rfl, by decide +kernel, rfl, by decide +kernel, by decide +kernel⟩
def m_law_pick : MS := mSeq (mIf (mTest (mLoc fEq (mArgs [mLoc fLen (mArgs [mName 1]), mPure (.tm (.int 0))]))) (mRet (ioSlots [true, false] 0) (mPure (.tm .non))) (mNx)) (mRet (ioSlots [true, false] 0) (mLoc fIx (mArgs [mName 1, mCall (r_law_take) [true, false] (mArgs [mName 0, mLoc fLen (mArgs [mName 1])])])))
def r_law_pick : List D → Ret := mDef 2 [true, false] m_law_pick
theorem w_law_pick (T : Tx K mg cl ad) : DOk P w K mg base (L2.CX P w) 4 "_law_pick" cl r_law_pick [true, false] := DOk.def (N := N_law_pick) T.a_law_pick sc_law_pick rfl rfl fun f cdv A outer s H E hr => by
  exact (dpss_cons (dps_if (dpt_cmp (op_eqA hr.units) lo_eq (dpe_callB call_len lo_len T.b_len (by decide +kernel) (dpa_cons (dpv 1) dpa_nil)) dpe_int) (dpss_one (dps_ret dpe_non)) dpss_nil) (dpss_one (dps_ret (dpe_ix (dpv 1) (dpe_call (w_law_take T) (hr.mono (by decide)) (takes_of rfl rfl rfl rfl) (dpa_cons (dpv 0) (dpa_cons (dpe_callB call_len lo_len T.b_len (by decide +kernel) (dpa_cons (dpv 1) dpa_nil)) dpa_nil)))))))
/-! _law_odds: 0 store, 1 many -/
abbrev s_law_odds : Stmt := top 37
def N_law_odds : List Str := ["store", "many"]
theorem sc_law_odds : L2.FnScope N_law_odds ["store", "many"] (defScope s_law_odds) := ⟨rfl, rfl, rfl, by decide +kernel, rfl, by decide +kernel, by decide +kernel⟩
def m_law_odds : MS := mRet (ioSlots [true, false] 0) (mLoc fEq (mArgs [mCall (r_law_take) [true, false] (mArgs [mName 0, mName 1]), mPure (.tm (.int 0))]))
def r_law_odds : List D → Ret := mDef 2 [true, false] m_law_odds
theorem w_law_odds (T : Tx K mg cl ad) : DOk P w K mg base (L2.CX P w) 4 "_law_odds" cl r_law_odds [true, false] := DOk.def (N := N_law_odds) T.a_law_odds sc_law_odds rfl rfl fun f cdv A outer s H E hr => by
  exact (dpss_one (dps_ret (dpe_cmp (op_eqA hr.units) lo_eq (dpe_call (w_law_take T) (hr.mono (by decide)) (takes_of rfl rfl rfl rfl) (dpa_cons (dpv 0) (dpa_cons (dpv 1) dpa_nil))) dpe_int)))
/-! _law_number_text: 0 store -/
abbrev s_law_number_text : Stmt := top 50
def N_law_number_text : List Str := ["store"]
theorem sc_law_number_text : L2.FnScope N_law_number_text ["store"] (defScope s_law_number_text) := ⟨rfl, rfl, rfl, by decide +kernel, rfl, by decide +kernel, by decide +kernel⟩
def m_law_number_text : MS := mRet (ioSlots [true] 0) (mLoc fStrI (mArgs [mCall (r_law_pick) [true, false] (mArgs [mName 0, mLst (mArgs [mPure (.tm (.int 0)), mPure (.tm (.int 1)), mPure (.tm (.int 2)), mPure (.tm (.int 9)), mPure (.tm (.int 10)), mPure (.tm (.int 99)), mPure (.tm (.int 100)), mPure (.tm (.int 999)), mPure (.tm (.int 1000)), mPure (.tm (.int 9999)), mCall (r_law_take) [true, false] (mArgs [mName 0, mPure (.tm (.int 10000))])])])]))
def r_law_number_text : List D → Ret := mDef 1 [true] m_law_number_text
theorem w_law_number_text (T : Tx K mg cl ad) : DOk P w K mg base (L2.CX P w) 5 "_law_number_text" cl r_law_number_text [true] := DOk.def (N := N_law_number_text) T.a_law_number_text sc_law_number_text rfl rfl fun f cdv A outer s H E hr => by
  exact (dpss_one (dps_ret (dpe_callTy call_str_int lo_strI T.b_str (by decide +kernel) (dpa_cons (dpe_call (w_law_pick T) (hr.mono (by decide)) (takes_of rfl rfl rfl rfl) (dpa_cons (dpv 0) (dpa_cons (dpe_lst (dpa_cons dpe_int (dpa_cons dpe_int (dpa_cons dpe_int (dpa_cons dpe_int (dpa_cons dpe_int (dpa_cons dpe_int (dpa_cons dpe_int (dpa_cons dpe_int (dpa_cons dpe_int (dpa_cons dpe_int (dpa_cons (dpe_call (w_law_take T) (hr.mono (by decide)) (takes_of rfl rfl rfl rfl) (dpa_cons (dpv 0) (dpa_cons dpe_int dpa_nil))) dpa_nil)))))))))))) dpa_nil))) dpa_nil))))
/-! _law_name: 0 store, 1 size, 2 turn -/
abbrev s_law_name : Stmt := top 40
def N_law_name : List Str := ["store", "size", "turn"]
theorem sc_law_name : L2.FnScope N_law_name ["store"] (defScope s_law_name) := ⟨rfl, rfl, rfl, by decide +kernel, rfl, by decide +kernel, by decide +kernel⟩
def m_law_name : MS := mSeq (mSet 1 (mCall (r_law_pick) [true, false] (mArgs [mName 0, mLst (mArgs [mPure (.tm (.int 1)), mPure (.tm (.int 1)), mPure (.tm (.int 2)), mPure (.tm (.int 3)), mPure (.tm (.int 5)), mPure (.tm (.int 8)), mPure (.tm (.int 11)), mPure (.tm (.int 12))])]))) (mRet (ioSlots [true] 0) (mLoc fJoin (mArgs (mStr (mPure (.tm (.str ""))) :: [mLc [2] (mRng1 (mName 1)) (gNm 2) (mPure true) (mLoc fIx (mArgs [mPure (.tm (.str "abcdefghijklmnopqrstuvwxyz")), mCall (r_law_take) [true, false] (mArgs [mName 0, mPure (.tm (.int 26))])]))]))))
def r_law_name : List D → Ret := mDef 3 [true] m_law_name
theorem w_law_name (T : Tx K mg cl ad) : DOk P w K mg base (L2.CX P w) 5 "_law_name" cl r_law_name [true] := DOk.def (N := N_law_name) T.a_law_name sc_law_name rfl rfl fun f cdv A outer s H E hr => by
  exact (dpss_cons (dps_set (i := 1) sc_law_name.nd rfl (by first | exact Or.inl rfl | exact Or.inr rfl) rfl (dpe_call (w_law_pick T) (hr.mono (by decide)) (takes_of rfl rfl rfl rfl) (dpa_cons (dpv 0) (dpa_cons (dpe_lst (dpa_cons dpe_int (dpa_cons dpe_int (dpa_cons dpe_int (dpa_cons dpe_int (dpa_cons dpe_int (dpa_cons dpe_int (dpa_cons dpe_int (dpa_cons dpe_int dpa_nil))))))))) dpa_nil)))) (dpss_one (dps_ret (dpe_strM PySem.F.slot_str_join PySem.F.type_str_join mt_join lo_join dpe_str (dpa_cons (dpe_lc (own := [("turn", 2)]) 3 rfl rfl sc_law_name.nd (dpi_range1 T.b_range (dpv 1)) (blkOk_by (N := N_law_name) (sc := defScope s_law_name) (own := [("turn", 2)]) (by decide +kernel)) (by decide) (fun _ _ _ _ _ => (dpg_name (i := 2) sc_law_name.nd rfl (by first | exact Or.inl rfl | exact Or.inr rfl) rfl)) (fun _ _ _ _ _ => dpts_nil) (fun _ _ _ _ _ => (dpe_ix dpe_str (dpe_call (w_law_take T) (hr.mono (by decide)) takes00 (dpa_cons (dpv 0) (dpa_cons dpe_int dpa_nil)))))) dpa_nil)))))
/-! _law_line: 0 store, 1 word, 2 wide, 3 size, 4 rest, 5 turn, 6 address, 7 line -/
abbrev s_law_line : Stmt := top 51
def N_law_line : List Str := ["store", "word", "wide", "size", "rest", "turn", "address", "line"]
theorem sc_law_line : L2.FnScope N_law_line ["store", "word"] (defScope s_law_line) := ⟨rfl, rfl, rfl, by decide +kernel, rfl, by decide +kernel, by decide +kernel⟩
def m_law_line : MS := mSeq (mSet 2 (mPure (.tm (.str " !\"#$&'()*+,-./0123456789:;<=>?@ABCDEFGHIJKLMNOPQRSTUVWXYZ[\\]^_`abcdefghijklmnopqrstuvwxyz{|}~\n")))) (mSeq (mSet 3 (mCall (r_law_pick) [true, false] (mArgs [mName 0, mLst (mArgs [mPure (.tm (.int 0)), mPure (.tm (.int 1)), mPure (.tm (.int 2)), mPure (.tm (.int 5)), mPure (.tm (.int 12)), mPure (.tm (.int 60))])]))) (mSeq (mSet 4 (mLoc fJoin (mArgs (mStr (mPure (.tm (.str ""))) :: [mLc [5] (mRng1 (mName 3)) (gNm 5) (mPure true) (mLoc fIx (mArgs [mName 2, mCall (r_law_take) [true, false] (mArgs [mName 0, mLoc fLen (mArgs [mName 2])])]))])))) (mSeq (mSet 4 (mLoc fAdd (mArgs [mName 4, mCall (r_law_pick) [true, false] (mArgs [mName 0, mLst (mArgs [mPure (.tm (.str "")), mPure (.tm (.str "")), mPure (.tm (.str " ")), mPure (.tm (.str "\n")), mPure (.tm (.str "  ")), mPure (.tm (.str "<a> ")), mPure (.tm (.str "a(b)")), mPure (.tm (.str "-")), mPure (.tm (.str "("))])])]))) (mSeq (mIf (mTruth (mCall (r_law_odds) [true, false] (mArgs [mName 0, mPure (.tm (.int 24))]))) (mSet 4 (mLoc fMul (mArgs [mPure (.tm (.str "<a> ")), mPure (.tm (.int 750))]))) (mNx)) (mSeq (mSet 6 (mLoc fJoin (mArgs (mStr (mPure (.tm (.str "."))) :: [mLc [5] (mRng1 (mCall (r_law_pick) [true, false] (mArgs [mName 0, mLst (mArgs [mPure (.tm (.int 0)), mPure (.tm (.int 1)), mPure (.tm (.int 1)), mPure (.tm (.int 2)), mPure (.tm (.int 3)), mPure (.tm (.int 60))])]))) (gNm 5) (mPure true) (mCall (r_law_number_text) [true] (mArgs [mName 0]))])))) (mSeq (mIf (mTest (mLoc fEq (mArgs [mName 6, mPure (.tm (.str ""))]))) (mSet 6 (mPure (.tm (.str "-")))) (mNx)) (mSeq (mIf (mTest (mLoc (fIn false) (mArgs [mName 1, mTup (mArgs [mPure (.tm (.str "cure")), mPure (.tm (.str "undo"))])]))) (mRet (ioSlots [true, false] 0) (mName 1)) (mNx)) (mSeq (mIf (mTest (mLoc (fIn false) (mArgs [mName 1, mTup (mArgs [mPure (.tm (.str "text")), mPure (.tm (.str "spare")), mPure (.tm (.str "mend"))])]))) (mRet (ioSlots [true, false] 0) (mLoc fAdd (mArgs [mLoc fAdd (mArgs [mName 1, mPure (.tm (.str " "))]), mName 4]))) (mNx)) (mSeq (mIf (mTest (mLoc (fIn false) (mArgs [mName 1, mTup (mArgs [mPure (.tm (.str "fuller")), mPure (.tm (.str "lesser")), mPure (.tm (.str "forbid"))])]))) (mRet (ioSlots [true, false] 0) (mLoc fAdd (mArgs [mLoc fAdd (mArgs [mName 1, mPure (.tm (.str " "))]), mCall (r_law_pick) [true, false] (mArgs [mName 0, mLst (mArgs [mCall (r_law_name) [true] (mArgs [mName 0]), mCall (r_law_name) [true] (mArgs [mName 0]), mPure (.tm (.str "="))])])]))) (mNx)) (mSeq (mIf (mTest (mLoc fEq (mArgs [mName 1, mPure (.tm (.str "edit"))]))) (mRet (ioSlots [true, false] 0) (mLoc fAdd (mArgs [mLoc fAdd (mArgs [mLoc fAdd (mArgs [mLoc fAdd (mArgs [mLoc fAdd (mArgs [mLoc fAdd (mArgs [mName 1, mPure (.tm (.str " "))]), mCall (r_law_number_text) [true] (mArgs [mName 0])]), mPure (.tm (.str " "))]), mCall (r_law_number_text) [true] (mArgs [mName 0])]), mPure (.tm (.str " "))]), mName 4]))) (mNx)) (mSeq (mSet 7 (mLoc fAdd (mArgs [mLoc fAdd (mArgs [mName 1, mPure (.tm (.str " "))]), mName 6]))) (mSeq (mIf (mTest (mLoc fEq (mArgs [mName 1, mPure (.tm (.str "put"))]))) (mSet 7 (mLoc fAdd (mArgs [mLoc fAdd (mArgs [mName 7, mPure (.tm (.str " "))]), mCall (r_law_number_text) [true] (mArgs [mName 0])]))) (mNx)) (mSeq (mIf (mTest (mLoc fNe (mArgs [mName 1, mPure (.tm (.str "cut"))]))) (mSet 7 (mLoc fAdd (mArgs [mLoc fAdd (mArgs [mName 7, mPure (.tm (.str " "))]), mName 4]))) (mNx)) (mRet (ioSlots [true, false] 0) (mName 7)))))))))))))))
def r_law_line : List D → Ret := mDef 8 [true, false] m_law_line
theorem w_law_line (T : Tx K mg cl ad) : DOk P w K mg base (L2.CX P w) 6 "_law_line" cl r_law_line [true, false] := DOk.def (N := N_law_line) T.a_law_line sc_law_line rfl rfl fun f cdv A outer s H E hr => by
  exact (dpss_cons (dps_set (i := 2) sc_law_line.nd rfl (by first | exact Or.inl rfl | exact Or.inr rfl) rfl dpe_str) (dpss_cons (dps_set (i := 3) sc_law_line.nd rfl (by first | exact Or.inl rfl | exact Or.inr rfl) rfl (dpe_call (w_law_pick T) (hr.mono (by decide)) (takes_of rfl rfl rfl rfl) (dpa_cons (dpv 0) (dpa_cons (dpe_lst (dpa_cons dpe_int (dpa_cons dpe_int (dpa_cons dpe_int (dpa_cons dpe_int (dpa_cons dpe_int (dpa_cons dpe_int dpa_nil))))))) dpa_nil)))) (dpss_cons (dps_set (i := 4) sc_law_line.nd rfl (by first | exact Or.inl rfl | exact Or.inr rfl) rfl (dpe_strM PySem.F.slot_str_join PySem.F.type_str_join mt_join lo_join dpe_str (dpa_cons (dpe_lc (own := [("turn", 5)]) 8 rfl rfl sc_law_line.nd (dpi_range1 T.b_range (dpv 3)) (blkOk_by (N := N_law_line) (sc := defScope s_law_line) (own := [("turn", 5)]) (by decide +kernel)) (by decide) (fun _ _ _ _ _ => (dpg_name (i := 5) sc_law_line.nd rfl (by first | exact Or.inl rfl | exact Or.inr rfl) rfl)) (fun _ _ _ _ _ => dpts_nil) (fun _ _ _ _ _ => (dpe_ix (dpv 2) (dpe_call (w_law_take T) (hr.mono (by decide)) takes00 (dpa_cons (dpv 0) (dpa_cons (dpe_callB call_len lo_len T.b_len (by decide +kernel) (dpa_cons (dpv 2) dpa_nil)) dpa_nil)))))) dpa_nil))) (dpss_cons (dps_set (i := 4) sc_law_line.nd rfl (by first | exact Or.inl rfl | exact Or.inr rfl) rfl (dpe_op op_addAll lo_add (dpv 4) (dpe_call (w_law_pick T) (hr.mono (by decide)) (takes_of rfl rfl rfl rfl) (dpa_cons (dpv 0) (dpa_cons (dpe_lst (dpa_cons dpe_str (dpa_cons dpe_str (dpa_cons dpe_str (dpa_cons dpe_str (dpa_cons dpe_str (dpa_cons dpe_str (dpa_cons dpe_str (dpa_cons dpe_str (dpa_cons dpe_str dpa_nil)))))))))) dpa_nil))))) (dpss_cons (dps_if (dpt_truth (dpe_call (w_law_odds T) (hr.mono (by decide)) (takes_of rfl rfl rfl rfl) (dpa_cons (dpv 0) (dpa_cons dpe_int dpa_nil)))) (dpss_one (dps_set (i := 4) sc_law_line.nd rfl (by first | exact Or.inl rfl | exact Or.inr rfl) rfl (dpe_op op_mulAll lo_mul dpe_str dpe_int))) dpss_nil) (dpss_cons (dps_set (i := 6) sc_law_line.nd rfl (by first | exact Or.inl rfl | exact Or.inr rfl) rfl (dpe_strM PySem.F.slot_str_join PySem.F.type_str_join mt_join lo_join dpe_str (dpa_cons (dpe_lc (own := [("turn", 5)]) 8 rfl rfl sc_law_line.nd (dpi_range1 T.b_range (dpe_call (w_law_pick T) (hr.mono (by decide)) (takes_of rfl rfl rfl rfl) (dpa_cons (dpv 0) (dpa_cons (dpe_lst (dpa_cons dpe_int (dpa_cons dpe_int (dpa_cons dpe_int (dpa_cons dpe_int (dpa_cons dpe_int (dpa_cons dpe_int dpa_nil))))))) dpa_nil)))) (blkOk_by (N := N_law_line) (sc := defScope s_law_line) (own := [("turn", 5)]) (by decide +kernel)) (by decide) (fun _ _ _ _ _ => (dpg_name (i := 5) sc_law_line.nd rfl (by first | exact Or.inl rfl | exact Or.inr rfl) rfl)) (fun _ _ _ _ _ => dpts_nil) (fun _ _ _ _ _ => (dpe_call (w_law_number_text T) (hr.mono (by decide)) takes00 (dpa_cons (dpv 0) dpa_nil)))) dpa_nil))) (dpss_cons (dps_if (dpt_cmp (op_eqA hr.units) lo_eq (dpv 6) dpe_str) (dpss_one (dps_set (i := 6) sc_law_line.nd rfl (by first | exact Or.inl rfl | exact Or.inr rfl) rfl dpe_str)) dpss_nil) (dpss_cons (dps_if (dpt_cmp (op_inA (hu65 hr)) (lo_in false) (dpv 1) (dpe_tup (dpa_cons dpe_str (dpa_cons dpe_str dpa_nil)))) (dpss_one (dps_ret (dpv 1))) dpss_nil) (dpss_cons (dps_if (dpt_cmp (op_inA (hu65 hr)) (lo_in false) (dpv 1) (dpe_tup (dpa_cons dpe_str (dpa_cons dpe_str (dpa_cons dpe_str dpa_nil))))) (dpss_one (dps_ret (dpe_op op_addAll lo_add (dpe_op op_addAll lo_add (dpv 1) dpe_str) (dpv 4)))) dpss_nil) (dpss_cons (dps_if (dpt_cmp (op_inA (hu65 hr)) (lo_in false) (dpv 1) (dpe_tup (dpa_cons dpe_str (dpa_cons dpe_str (dpa_cons dpe_str dpa_nil))))) (dpss_one (dps_ret (dpe_op op_addAll lo_add (dpe_op op_addAll lo_add (dpv 1) dpe_str) (dpe_call (w_law_pick T) (hr.mono (by decide)) (takes_of rfl rfl rfl rfl) (dpa_cons (dpv 0) (dpa_cons (dpe_lst (dpa_cons (dpe_call (w_law_name T) (hr.mono (by decide)) (takes_of rfl rfl rfl rfl) (dpa_cons (dpv 0) dpa_nil)) (dpa_cons (dpe_call (w_law_name T) (hr.mono (by decide)) (takes_of rfl rfl rfl rfl) (dpa_cons (dpv 0) dpa_nil)) (dpa_cons dpe_str dpa_nil)))) dpa_nil)))))) dpss_nil) (dpss_cons (dps_if (dpt_cmp (op_eqA hr.units) lo_eq (dpv 1) dpe_str) (dpss_one (dps_ret (dpe_op op_addAll lo_add (dpe_op op_addAll lo_add (dpe_op op_addAll lo_add (dpe_op op_addAll lo_add (dpe_op op_addAll lo_add (dpe_op op_addAll lo_add (dpv 1) dpe_str) (dpe_call (w_law_number_text T) (hr.mono (by decide)) (takes_of rfl rfl rfl rfl) (dpa_cons (dpv 0) dpa_nil))) dpe_str) (dpe_call (w_law_number_text T) (hr.mono (by decide)) (takes_of rfl rfl rfl rfl) (dpa_cons (dpv 0) dpa_nil))) dpe_str) (dpv 4)))) dpss_nil) (dpss_cons (dps_set (i := 7) sc_law_line.nd rfl (by first | exact Or.inl rfl | exact Or.inr rfl) rfl (dpe_op op_addAll lo_add (dpe_op op_addAll lo_add (dpv 1) dpe_str) (dpv 6))) (dpss_cons (dps_if (dpt_cmp (op_eqA hr.units) lo_eq (dpv 1) dpe_str) (dpss_one (dps_set (i := 7) sc_law_line.nd rfl (by first | exact Or.inl rfl | exact Or.inr rfl) rfl (dpe_op op_addAll lo_add (dpe_op op_addAll lo_add (dpv 7) dpe_str) (dpe_call (w_law_number_text T) (hr.mono (by decide)) (takes_of rfl rfl rfl rfl) (dpa_cons (dpv 0) dpa_nil))))) dpss_nil) (dpss_cons (dps_if (dpt_cmp (op_neA hr.units) lo_ne (dpv 1) dpe_str) (dpss_one (dps_set (i := 7) sc_law_line.nd rfl (by first | exact Or.inl rfl | exact Or.inr rfl) rfl (dpe_op op_addAll lo_add (dpe_op op_addAll lo_add (dpv 7) dpe_str) (dpv 4)))) dpss_nil) (dpss_one (dps_ret (dpv 7)))))))))))))))))
/-! _law_bent_string: 0 store, 1 string, 2 wide, 3 sign, 4 share, 5 at -/
abbrev s_law_bent_string : Stmt := top 41
def N_law_bent_string : List Str := ["store", "string", "wide", "sign", "share", "at"]
theorem sc_law_bent_string : L2.FnScope N_law_bent_string ["store", "string"] (defScope s_law_bent_string) := ⟨rfl, rfl, rfl, by decide +kernel, rfl, by decide +kernel, by decide +kernel⟩
def m_law_bent_string : MS := mSeq (mSet 2 (mPure (.tm (.str " !\"#$&'()*+,-./0123456789:;<=>?@ABCDEFGHIJKLMNOPQRSTUVWXYZ[\\]^_`abcdefghijklmnopqrstuvwxyz{|}~\n")))) (mSeq (mSet 3 (mCall (r_law_pick) [true, false] (mArgs [mName 0, mLst (mArgs [mPure (.tm (.str " ")), mPure (.tm (.str "\n")), mPure (.tm (.str "a")), mPure (.tm (.str "\"")), mPure (.tm (.str "(")), mPure (.tm (.str ")")), mPure (.tm (.str ",")), mPure (.tm (.str "=")), mPure (.tm (.str "<")), mPure (.tm (.str ">")), mPure (.tm (.str "/")), mPure (.tm (.str "*")), mPure (.tm (.str "0")), mPure (.tm (.str "1")), mPure (.tm (.str "-")), mPure (.tm (.str ":"))])]))) (mSeq (mIf (mTruth (mCall (r_law_odds) [true, false] (mArgs [mName 0, mPure (.tm (.int 3))]))) (mSet 3 (mCall (r_law_pick) [true, false] (mArgs [mName 0, mName 2]))) (mNx)) (mSeq (mSet 4 (mCall (r_law_take) [true, false] (mArgs [mName 0, mPure (.tm (.int 6))]))) (mSeq (mSet 5 (mCall (r_law_take) [true, false] (mArgs [mName 0, mLoc fAdd (mArgs [mLoc fLen (mArgs [mName 1]), mPure (.tm (.int 1))])]))) (mSeq (mIf (mTest (mLoc fEq (mArgs [mName 4, mPure (.tm (.int 0))]))) (mRet (ioSlots [true, false] 0) (mLoc fAdd (mArgs [mName 1, mName 3]))) (mNx)) (mSeq (mIf (mTest (mLoc fEq (mArgs [mName 4, mPure (.tm (.int 1))]))) (mRet (ioSlots [true, false] 0) (mLoc fAdd (mArgs [mName 3, mName 1]))) (mNx)) (mSeq (mIf (mTest (mLoc fEq (mArgs [mName 4, mPure (.tm (.int 2))]))) (mRet (ioSlots [true, false] 0) (mLoc fAdd (mArgs [mLoc fAdd (mArgs [mSl (mName 1) mNoP (mPart (mName 5)), mName 3]), mSl (mName 1) (mPart (mName 5)) mNoP]))) (mNx)) (mSeq (mIf (mTest (mLoc fEq (mArgs [mName 4, mPure (.tm (.int 3))]))) (mRet (ioSlots [true, false] 0) (mLoc fAdd (mArgs [mSl (mName 1) mNoP (mPart (mName 5)), mSl (mName 1) (mPart (mLoc fAdd (mArgs [mName 5, mPure (.tm (.int 1))]))) mNoP]))) (mNx)) (mSeq (mIf (mTest (mLoc fEq (mArgs [mName 4, mPure (.tm (.int 4))]))) (mRet (ioSlots [true, false] 0) (mLoc fAdd (mArgs [mLoc fAdd (mArgs [mSl (mName 1) mNoP (mPart (mName 5)), mName 3]), mSl (mName 1) (mPart (mLoc fAdd (mArgs [mName 5, mPure (.tm (.int 1))]))) mNoP]))) (mNx)) (mRet (ioSlots [true, false] 0) (mLoc fAdd (mArgs [mLoc fAdd (mArgs [mSl (mName 1) mNoP (mPart (mName 5)), mSl (mName 1) (mPart (mName 5)) (mPart (mLoc fAdd (mArgs [mName 5, mPure (.tm (.int 1))])))]), mSl (mName 1) (mPart (mName 5)) mNoP]))))))))))))
def r_law_bent_string : List D → Ret := mDef 6 [true, false] m_law_bent_string
theorem w_law_bent_string (T : Tx K mg cl ad) : DOk P w K mg base (L2.CX P w) 5 "_law_bent_string" cl r_law_bent_string [true, false] := DOk.def (N := N_law_bent_string) T.a_law_bent_string sc_law_bent_string rfl rfl fun f cdv A outer s H E hr => by
  exact (dpss_cons (dps_set (i := 2) sc_law_bent_string.nd rfl (by first | exact Or.inl rfl | exact Or.inr rfl) rfl dpe_str) (dpss_cons (dps_set (i := 3) sc_law_bent_string.nd rfl (by first | exact Or.inl rfl | exact Or.inr rfl) rfl (dpe_call (w_law_pick T) (hr.mono (by decide)) (takes_of rfl rfl rfl rfl) (dpa_cons (dpv 0) (dpa_cons (dpe_lst (dpa_cons dpe_str (dpa_cons dpe_str (dpa_cons dpe_str (dpa_cons dpe_str (dpa_cons dpe_str (dpa_cons dpe_str (dpa_cons dpe_str (dpa_cons dpe_str (dpa_cons dpe_str (dpa_cons dpe_str (dpa_cons dpe_str (dpa_cons dpe_str (dpa_cons dpe_str (dpa_cons dpe_str (dpa_cons dpe_str (dpa_cons dpe_str dpa_nil))))))))))))))))) dpa_nil)))) (dpss_cons (dps_if (dpt_truth (dpe_call (w_law_odds T) (hr.mono (by decide)) (takes_of rfl rfl rfl rfl) (dpa_cons (dpv 0) (dpa_cons dpe_int dpa_nil)))) (dpss_one (dps_set (i := 3) sc_law_bent_string.nd rfl (by first | exact Or.inl rfl | exact Or.inr rfl) rfl (dpe_call (w_law_pick T) (hr.mono (by decide)) (takes_of rfl rfl rfl rfl) (dpa_cons (dpv 0) (dpa_cons (dpv 2) dpa_nil))))) dpss_nil) (dpss_cons (dps_set (i := 4) sc_law_bent_string.nd rfl (by first | exact Or.inl rfl | exact Or.inr rfl) rfl (dpe_call (w_law_take T) (hr.mono (by decide)) (takes_of rfl rfl rfl rfl) (dpa_cons (dpv 0) (dpa_cons dpe_int dpa_nil)))) (dpss_cons (dps_set (i := 5) sc_law_bent_string.nd rfl (by first | exact Or.inl rfl | exact Or.inr rfl) rfl (dpe_call (w_law_take T) (hr.mono (by decide)) (takes_of rfl rfl rfl rfl) (dpa_cons (dpv 0) (dpa_cons (dpe_op op_addAll lo_add (dpe_callB call_len lo_len T.b_len (by decide +kernel) (dpa_cons (dpv 1) dpa_nil)) dpe_int) dpa_nil)))) (dpss_cons (dps_if (dpt_cmp (op_eqA hr.units) lo_eq (dpv 4) dpe_int) (dpss_one (dps_ret (dpe_op op_addAll lo_add (dpv 1) (dpv 3)))) dpss_nil) (dpss_cons (dps_if (dpt_cmp (op_eqA hr.units) lo_eq (dpv 4) dpe_int) (dpss_one (dps_ret (dpe_op op_addAll lo_add (dpv 3) (dpv 1)))) dpss_nil) (dpss_cons (dps_if (dpt_cmp (op_eqA hr.units) lo_eq (dpv 4) dpe_int) (dpss_one (dps_ret (dpe_op op_addAll lo_add (dpe_op op_addAll lo_add (dpe_sl01 (dpv 1) (dpv 5)) (dpv 3)) (dpe_sl10 (dpv 1) (dpv 5))))) dpss_nil) (dpss_cons (dps_if (dpt_cmp (op_eqA hr.units) lo_eq (dpv 4) dpe_int) (dpss_one (dps_ret (dpe_op op_addAll lo_add (dpe_sl01 (dpv 1) (dpv 5)) (dpe_sl10 (dpv 1) (dpe_op op_addAll lo_add (dpv 5) dpe_int))))) dpss_nil) (dpss_cons (dps_if (dpt_cmp (op_eqA hr.units) lo_eq (dpv 4) dpe_int) (dpss_one (dps_ret (dpe_op op_addAll lo_add (dpe_op op_addAll lo_add (dpe_sl01 (dpv 1) (dpv 5)) (dpv 3)) (dpe_sl10 (dpv 1) (dpe_op op_addAll lo_add (dpv 5) dpe_int))))) dpss_nil) (dpss_one (dps_ret (dpe_op op_addAll lo_add (dpe_op op_addAll lo_add (dpe_sl01 (dpv 1) (dpv 5)) (dpe_sl11 (dpv 1) (dpv 5) (dpe_op op_addAll lo_add (dpv 5) dpe_int))) (dpe_sl10 (dpv 1) (dpv 5)))))))))))))))
/-! _law_alike: 0 told, 1 due, 2 k, 3 key -/
abbrev s_law_alike : Stmt := top 43
def N_law_alike : List Str := ["told", "due", "k", "key"]
theorem sc_law_alike : L2.FnScope N_law_alike ["told", "due"] (defScope s_law_alike) := ⟨rfl, rfl, rfl, by decide +kernel, rfl, by decide +kernel, by decide +kernel⟩
def m_law_alike (rec : List D → Ret) : MS := mSeq (mIf (mTruth (mLoc (fIsi ["list", "tuple"]) (mArgs [mName 1]))) (mSeq (mIf (mOr (mTest (mLoc fNe (mArgs [mLoc (fIsi ["list"]) (mArgs [mName 0]), mLoc (fIsi ["list"]) (mArgs [mName 1])]))) (mTest (mLoc fNe (mArgs [mLoc (fIsi ["tuple"]) (mArgs [mName 0]), mLoc (fIsi ["tuple"]) (mArgs [mName 1])])))) (mRet (ioSlots [false, false] 0) (mPure (.tm (.bl false)))) (mNx)) (mSeq (mIf (mTest (mLoc fNe (mArgs [mLoc fLen (mArgs [mName 0]), mLoc fLen (mArgs [mName 1])]))) (mRet (ioSlots [false, false] 0) (mPure (.tm (.bl false)))) (mNx)) (mRet (ioSlots [false, false] 0) (mLoc fEq (mArgs [mLoc fLen (mArgs [mLc [2] (mRng1 (mLoc fLen (mArgs [mName 1]))) (gNm 2) (mNot (mTruth (mCall (rec) [false, false] (mArgs [mLoc fIx (mArgs [mName 0, mName 2]), mLoc fIx (mArgs [mName 1, mName 2])])))) (mName 2)]), mPure (.tm (.int 0))]))))) (mNx)) (mSeq (mIf (mTruth (mLoc (fIsi ["dict"]) (mArgs [mName 1]))) (mSeq (mNever) (mRet (ioSlots [false, false] 0) (mLoc fEq (mArgs [mLoc fLen (mArgs [mLc [3] (mIter (mName 1)) (gNm 3) (mOr (mTest (mLoc (fIn true) (mArgs [mName 3, mName 0]))) (mNot (mTruth (mCall (rec) [false, false] (mArgs [mLoc fIx (mArgs [mName 0, mName 3]), mLoc fIx (mArgs [mName 1, mName 3])]))))) (mName 3)]), mPure (.tm (.int 0))])))) (mNx)) (mSeq (mIf (mTest (mLoc (fIsN false) (mArgs [mName 1, mPure (.tm .non)]))) (mRet (ioSlots [false, false] 0) (mLoc (fIsN false) (mArgs [mName 0, mPure (.tm .non)]))) (mNx)) (mSeq (mIf (mOr (mTest (mLoc fNe (mArgs [mLoc (fIsi ["str"]) (mArgs [mName 0]), mLoc (fIsi ["str"]) (mArgs [mName 1])]))) (mTest (mLoc fNe (mArgs [mLoc (fIsi ["int"]) (mArgs [mName 0]), mLoc (fIsi ["int"]) (mArgs [mName 1])])))) (mRet (ioSlots [false, false] 0) (mPure (.tm (.bl false)))) (mNx)) (mRet (ioSlots [false, false] 0) (mBoolV (mAnd (mTest (mLoc fEq (mArgs [mLoc (fIsi ["bool"]) (mArgs [mName 0]), mLoc (fIsi ["bool"]) (mArgs [mName 1])]))) (mTest (mLoc fEq (mArgs [mName 0, mName 1])))))))))
def r_law_alike : Nat → List D → Ret
  | 0 => fun _ => .stuck
  | k + 1 => mDef 4 [false, false] (m_law_alike (r_law_alike k))
theorem w_law_alike_at (T : Tx K mg cl ad) : ∀ n : Nat, DOk P w K mg base (L2.CX P w) (2 + n) "_law_alike" cl (r_law_alike n) [false, false]
  | 0 => DOk.zero T.a_law_alike _
  | n + 1 => DOk.def (N := N_law_alike) T.a_law_alike sc_law_alike rfl rfl fun f cdv A outer s H E hr => by
    have IH := w_law_alike_at T n
    exact (dpss_cons (dps_if (dpt_truth (dpe_isiT (bs := ["list", "tuple"]) T.b_isinstance (by decide) (by decide) (dpv 1) (pa_tys_cons T.b_list (by decide +kernel) (pa_tys_cons T.b_tuple (by decide +kernel) pa_tys_nil)))) (dpss_cons (dps_if (pw_pt (dpw_or (dpt_cmp (op_neA hr.units) lo_ne (dpe_isi T.b_isinstance T.b_list (by decide +kernel) (by decide) (dpv 0)) (dpe_isi T.b_isinstance T.b_list (by decide +kernel) (by decide) (dpv 1))) (dpw_or1 (dpt_cmp (op_neA hr.units) lo_ne (dpe_isi T.b_isinstance T.b_tuple (by decide +kernel) (by decide) (dpv 0)) (dpe_isi T.b_isinstance T.b_tuple (by decide +kernel) (by decide) (dpv 1)))))) (dpss_one (dps_ret dpe_bl)) dpss_nil) (dpss_cons (dps_if (dpt_cmp (op_neA hr.units) lo_ne (dpe_callB call_len lo_len T.b_len (by decide +kernel) (dpa_cons (dpv 0) dpa_nil)) (dpe_callB call_len lo_len T.b_len (by decide +kernel) (dpa_cons (dpv 1) dpa_nil))) (dpss_one (dps_ret dpe_bl)) dpss_nil) (dpss_one (dps_ret (dpe_cmp (op_eqA hr.units) lo_eq (dpe_callB call_len lo_len T.b_len (by decide +kernel) (dpa_cons (dpe_lc (own := [("k", 2)]) 4 rfl rfl sc_law_alike.nd (dpi_range1 T.b_range (dpe_callB call_len lo_len T.b_len (by decide +kernel) (dpa_cons (dpv 1) dpa_nil))) (blkOk_by (N := N_law_alike) (sc := defScope s_law_alike) (own := [("k", 2)]) (by decide +kernel)) (by decide) (fun _ _ _ _ _ => (dpg_name (i := 2) sc_law_alike.nd rfl (by first | exact Or.inl rfl | exact Or.inr rfl) rfl)) (fun _ _ _ _ _ => (dpts_one (dpt_not (dpt_truth (dpe_call IH (hr.mono (Nat.le_refl _)) takes00 (dpa_cons (dpe_ix (dpv 0) (dpv 2)) (dpa_cons (dpe_ix (dpv 1) (dpv 2)) dpa_nil))))))) (fun _ _ _ _ _ => (dpv 2))) dpa_nil)) dpe_int))))) dpss_nil) (dpss_cons (dps_if (dpt_truth (dpe_isi T.b_isinstance T.b_dict (by decide +kernel) (by decide) (dpv 1))) (dpss_cons dps_never (dpss_one (dps_ret (dpe_cmp (op_eqA hr.units) lo_eq (dpe_callB call_len lo_len T.b_len (by decide +kernel) (dpa_cons (dpe_lc (own := [("key", 3)]) 4 rfl rfl sc_law_alike.nd (dpi_any (dpv 1)) (blkOk_by (N := N_law_alike) (sc := defScope s_law_alike) (own := [("key", 3)]) (by decide +kernel)) (by decide) (fun _ _ _ _ _ => (dpg_name (i := 3) sc_law_alike.nd rfl (by first | exact Or.inl rfl | exact Or.inr rfl) rfl)) (fun _ _ _ _ _ => (dpts_one (pw_pt (dpw_or (dpt_cmp (op_notInA (hu65 hr)) (lo_in true) (dpv 3) (dpv 0)) (dpw_or1 (dpt_not (dpt_truth (dpe_call IH (hr.mono (Nat.le_refl _)) takes00 (dpa_cons (dpe_ix (dpv 0) (dpv 3)) (dpa_cons (dpe_ix (dpv 1) (dpv 3)) dpa_nil)))))))))) (fun _ _ _ _ _ => (dpv 3))) dpa_nil)) dpe_int)))) dpss_nil) (dpss_cons (dps_if (dpt_cmp op_isN lo_isN (dpv 1) dpe_non) (dpss_one (dps_ret (dpe_cmp op_isN lo_isN (dpv 0) dpe_non))) dpss_nil) (dpss_cons (dps_if (pw_pt (dpw_or (dpt_cmp (op_neA hr.units) lo_ne (dpe_isi T.b_isinstance T.b_str (by decide +kernel) (by decide) (dpv 0)) (dpe_isi T.b_isinstance T.b_str (by decide +kernel) (by decide) (dpv 1))) (dpw_or1 (dpt_cmp (op_neA hr.units) lo_ne (dpe_isi T.b_isinstance T.b_int (by decide +kernel) (by decide) (dpv 0)) (dpe_isi T.b_isinstance T.b_int (by decide +kernel) (by decide) (dpv 1)))))) (dpss_one (dps_ret dpe_bl)) dpss_nil) (dpss_one (dps_ret (dpe_and (dpe_cmp (op_eqA hr.units) lo_eq (dpe_isi T.b_isinstance T.b_bool (by decide +kernel) (by decide) (dpv 0)) (dpe_isi T.b_isinstance T.b_bool (by decide +kernel) (by decide) (dpv 1))) (dpe_one (dpe_cmp (op_eqA hr.units) lo_eq (dpv 0) (dpv 1))))))))))
theorem w_law_alike (T : Tx K mg cl ad) : DOk P w K mg base (L2.CX P w) 8 "_law_alike" cl (r_law_alike 6) [false, false] := w_law_alike_at T 6
/-! from_zero: 0 value -/
abbrev s_from_zero : Stmt := top 13
def N_from_zero : List Str := ["value"]
theorem sc_from_zero : L2.FnScope N_from_zero ["value"] (defScope s_from_zero) := ⟨rfl, rfl, rfl, by decide +kernel, rfl, by decide +kernel, by decide +kernel⟩
def m_from_zero : MS := mRet (ioSlots [false] 0) (mBoolV (mAnd (mTest (mLoc (fIsi ["int"]) (mArgs [mName 0]))) (mAnd (mTest (mBoolV (mNot (mTest (mLoc (fIsi ["bool"]) (mArgs [mName 0])))))) (mTest (mLoc (fCmpI fun i j => decide (j ≤ i)) (mArgs [mName 0, mPure (.tm (.int 0))]))))))
def r_from_zero : List D → Ret := mDef 1 [false] m_from_zero
theorem w_from_zero (T : Tx K mg cl ad) : DOk P w K mg base (L2.CX P w) 2 "from_zero" cl r_from_zero [false] := DOk.def (N := N_from_zero) T.a_from_zero sc_from_zero rfl rfl fun f cdv A outer s H E hr => by
  exact (dpss_one (dps_ret (dpe_and (dpe_isi T.b_isinstance T.b_int (by decide +kernel) (by decide) (dpv 0)) (dpe_and (dpe_not (dpe_isi T.b_isinstance T.b_bool (by decide +kernel) (by decide) (dpv 0))) (dpe_one (dpe_cmp op_ge (lo_cmpI fun i j => decide (j ≤ i)) (dpv 0) dpe_int))))))
/-! is_address: 0 value, 1 index -/
abbrev s_is_address : Stmt := top 14
def N_is_address : List Str := ["value", "index"]
theorem sc_is_address : L2.FnScope N_is_address ["value"] (defScope s_is_address) := ⟨rfl, rfl, rfl, by decide +kernel, rfl, by decide +kernel, by decide +kernel⟩
def m_is_address : MS := mSeq (mIf (mNot (mTruth (mLoc (fIsi ["tuple"]) (mArgs [mName 0])))) (mRet (ioSlots [false] 0) (mPure (.tm (.bl false)))) (mNx)) (mSeq (mFor (mIter (mName 0)) (gNm 1) (mIf (mNot (mTruth (mCall (r_from_zero) [false] (mArgs [mName 1])))) (mRet (ioSlots [false] 0) (mPure (.tm (.bl false)))) (mNx))) (mRet (ioSlots [false] 0) (mPure (.tm (.bl true)))))
def r_is_address : List D → Ret := mDef 2 [false] m_is_address
theorem w_is_address (T : Tx K mg cl ad) : DOk P w K mg base (L2.CX P w) 3 "is_address" cl r_is_address [false] := DOk.def (N := N_is_address) T.a_is_address sc_is_address rfl rfl fun f cdv A outer s H E hr => by
  exact (dpss_cons (dps_if (dpt_not (dpt_truth (dpe_isi T.b_isinstance T.b_tuple (by decide +kernel) (by decide) (dpv 0)))) (dpss_one (dps_ret dpe_bl)) dpss_nil) (dpss_cons (dps_for PassesOwn.leaving rfl (dpi_any (dpv 0)) (dpg_name (i := 1) sc_is_address.nd rfl (by first | exact Or.inl rfl | exact Or.inr rfl) rfl) (dpss_one (dps_if (dpt_not (dpt_truth (dpe_call (w_from_zero T) (hr.mono (by decide)) (takes_of rfl rfl rfl rfl) (dpa_cons (dpv 1) dpa_nil)))) (dpss_one (dps_ret dpe_bl)) dpss_nil))) (dpss_one (dps_ret dpe_bl))))
/-! format_address: 0 address, 1 index -/
abbrev s_format_address : Stmt := top 18
def N_format_address : List Str := ["address", "index"]
theorem sc_format_address : L2.FnScope N_format_address ["address"] (defScope s_format_address) := ⟨rfl, rfl, rfl, by decide +kernel, rfl, by decide +kernel, by decide +kernel⟩
def m_format_address : MS := mSeq (mIf (mNot (mTruth (mCall (r_is_address) [false] (mArgs [mName 0])))) (mRaise "NoSuch" (mArgs [])) (mNx)) (mSeq (mIf (mNot (mTruth (mName 0))) (mRet (ioSlots [false] 0) (mPure (.tm (.str "-")))) (mNx)) (mRet (ioSlots [false] 0) (mLoc fJoin (mArgs (mStr (mPure (.tm (.str "."))) :: [mLc [1] (mIter (mName 0)) (gNm 1) (mPure true) (mLoc fStrI (mArgs [mName 1]))])))))
def r_format_address : List D → Ret := mDef 2 [false] m_format_address
theorem w_format_address (T : Tx K mg cl ad) : DOk P w K mg base (L2.CX P w) 4 "format_address" cl r_format_address [false] := DOk.def (N := N_format_address) T.a_format_address sc_format_address rfl rfl fun f cdv A outer s H E hr => by
  exact (dpss_cons (dps_if (dpt_not (dpt_truth (dpe_call (w_is_address T) (hr.mono (by decide)) (takes_of rfl rfl rfl rfl) (dpa_cons (dpv 0) dpa_nil)))) (dpss_one (dps_raise0 rfl (takes_of rfl rfl rfl rfl) T.x_NoSuch)) dpss_nil) (dpss_cons (dps_if (dpt_not (dpt_truth (dpv 0))) (dpss_one (dps_ret dpe_str)) dpss_nil) (dpss_one (dps_ret (dpe_strM PySem.F.slot_str_join PySem.F.type_str_join mt_join lo_join dpe_str (dpa_cons (dpe_lc (own := [("index", 1)]) 2 rfl rfl sc_format_address.nd (dpi_any (dpv 0)) (blkOk_by (N := N_format_address) (sc := defScope s_format_address) (own := [("index", 1)]) (by decide +kernel)) (by decide) (fun _ _ _ _ _ => (dpg_name (i := 1) sc_format_address.nd rfl (by first | exact Or.inl rfl | exact Or.inr rfl) rfl)) (fun _ _ _ _ _ => dpts_nil) (fun _ _ _ _ _ => (dpe_callTy call_str_int lo_strI T.b_str (by decide +kernel) (dpa_cons (dpv 1) dpa_nil)))) dpa_nil))))))
/-! format_deed: 0 deed, 1 word -/
abbrev s_format_deed : Stmt := top 32
def N_format_deed : List Str := ["deed", "word"]
theorem sc_format_deed : L2.FnScope N_format_deed ["deed"] (defScope s_format_deed) := ⟨rfl, rfl, rfl, by decide +kernel, rfl, by decide +kernel, by decide +kernel⟩
def m_format_deed : MS := mSeq (mSet 1 (mLoc fIx (mArgs [mName 0, mPure (.tm (.int 0))]))) (mSeq (mIf (mTest (mLoc fEq (mArgs [mName 1, mPure (.tm (.str "cut"))]))) (mRet (ioSlots [false] 0) (mJoined [mPure (.tm (.str "cut ")), mFmt (mCall (r_format_address) [false] (mArgs [mLoc fIx (mArgs [mName 0, mPure (.tm (.int 1))])]))] Str.empty)) (mNx)) (mSeq (mIf (mTest (mLoc fEq (mArgs [mName 1, mPure (.tm (.str "trade"))]))) (mRet (ioSlots [false] 0) (mJoined [mPure (.tm (.str "trade ")), mFmt (mCall (r_format_address) [false] (mArgs [mLoc fIx (mArgs [mName 0, mPure (.tm (.int 1))])])), mPure (.tm (.str " ")), mFmt (mLoc fIx (mArgs [mName 0, mPure (.tm (.int 2))]))] Str.empty)) (mNx)) (mSeq (mIf (mTest (mLoc fEq (mArgs [mName 1, mPure (.tm (.str "put"))]))) (mRet (ioSlots [false] 0) (mJoined [mPure (.tm (.str "put ")), mFmt (mCall (r_format_address) [false] (mArgs [mLoc fIx (mArgs [mName 0, mPure (.tm (.int 1))])])), mPure (.tm (.str " ")), mFmt (mLoc fIx (mArgs [mName 0, mPure (.tm (.int 2))])), mPure (.tm (.str " ")), mFmt (mLoc fIx (mArgs [mName 0, mPure (.tm (.int 3))]))] Str.empty)) (mNx)) (mSeq (mIf (mTest (mLoc fEq (mArgs [mName 1, mPure (.tm (.str "edit"))]))) (mRet (ioSlots [false] 0) (mJoined [mPure (.tm (.str "edit ")), mFmt (mLoc fIx (mArgs [mName 0, mPure (.tm (.int 1))])), mPure (.tm (.str " ")), mFmt (mLoc fIx (mArgs [mName 0, mPure (.tm (.int 2))])), mPure (.tm (.str " ")), mFmt (mLoc fIx (mArgs [mName 0, mPure (.tm (.int 3))]))] Str.empty)) (mNx)) (mRet (ioSlots [false] 0) (mLoc fJoin (mArgs (mStr (mPure (.tm (.str " "))) :: [mName 0]))))))))
def r_format_deed : List D → Ret := mDef 2 [false] m_format_deed
theorem w_format_deed (T : Tx K mg cl ad) : DOk P w K mg base (L2.CX P w) 5 "format_deed" cl r_format_deed [false] := DOk.def (N := N_format_deed) T.a_format_deed sc_format_deed rfl rfl fun f cdv A outer s H E hr => by
  exact (dpss_cons (dps_set (i := 1) sc_format_deed.nd rfl (by first | exact Or.inl rfl | exact Or.inr rfl) rfl (dpe_ix (dpv 0) dpe_int)) (dpss_cons (dps_if (dpt_cmp (op_eqA hr.units) lo_eq (dpv 1) dpe_str) (dpss_one (dps_ret (dpe_joined (.cons dpe_str (.cons (dpe_fmt (dpe_call (w_format_address T) (hr.mono (by decide)) (takes_of rfl rfl rfl rfl) (dpa_cons (dpe_ix (dpv 0) dpe_int) dpa_nil))) .nil))))) dpss_nil) (dpss_cons (dps_if (dpt_cmp (op_eqA hr.units) lo_eq (dpv 1) dpe_str) (dpss_one (dps_ret (dpe_joined (.cons dpe_str (.cons (dpe_fmt (dpe_call (w_format_address T) (hr.mono (by decide)) (takes_of rfl rfl rfl rfl) (dpa_cons (dpe_ix (dpv 0) dpe_int) dpa_nil))) (.cons dpe_str (.cons (dpe_fmt (dpe_ix (dpv 0) dpe_int)) .nil))))))) dpss_nil) (dpss_cons (dps_if (dpt_cmp (op_eqA hr.units) lo_eq (dpv 1) dpe_str) (dpss_one (dps_ret (dpe_joined (.cons dpe_str (.cons (dpe_fmt (dpe_call (w_format_address T) (hr.mono (by decide)) (takes_of rfl rfl rfl rfl) (dpa_cons (dpe_ix (dpv 0) dpe_int) dpa_nil))) (.cons dpe_str (.cons (dpe_fmt (dpe_ix (dpv 0) dpe_int)) (.cons dpe_str (.cons (dpe_fmt (dpe_ix (dpv 0) dpe_int)) .nil))))))))) dpss_nil) (dpss_cons (dps_if (dpt_cmp (op_eqA hr.units) lo_eq (dpv 1) dpe_str) (dpss_one (dps_ret (dpe_joined (.cons dpe_str (.cons (dpe_fmt (dpe_ix (dpv 0) dpe_int)) (.cons dpe_str (.cons (dpe_fmt (dpe_ix (dpv 0) dpe_int)) (.cons dpe_str (.cons (dpe_fmt (dpe_ix (dpv 0) dpe_int)) .nil))))))))) dpss_nil) (dpss_one (dps_ret (dpe_strM PySem.F.slot_str_join PySem.F.type_str_join mt_join lo_join dpe_str (dpa_cons (dpv 0) dpa_nil)))))))))
/-! cut_off: 0 string, 1 part, 2 space, 3 rest -/
abbrev s_cut_off : Stmt := top 30
def N_cut_off : List Str := ["string", "part", "space", "rest"]
theorem sc_cut_off : L2.FnScope N_cut_off ["string"] (defScope s_cut_off) := ⟨rfl, rfl, rfl, by decide +kernel, rfl, by decide +kernel, by decide +kernel⟩
def m_cut_off : MS := mSeq (mAsg (gTp 3 (gsCons (gNm 1) (gsCons (gNm 2) (gsCons (gNm 3) (gsNil))))) (mLoc fPartition (mArgs (mStr (mName 0) :: [mPure (.tm (.str " "))])))) (mSeq (mIf (mTest (mLoc fEq (mArgs [mName 2, mPure (.tm (.str ""))]))) (mRaise "BadLine" (mArgs [mPure (.tm (.str "a space is missing"))])) (mNx)) (mRet (ioSlots [false] 0) (mTup (mArgs [mName 1, mName 3]))))
def r_cut_off : List D → Ret := mDef 4 [false] m_cut_off
theorem w_cut_off (T : Tx K mg cl ad) : DOk P w K mg base (L2.CX P w) 2 "cut_off" cl r_cut_off [false] := DOk.def (N := N_cut_off) T.a_cut_off sc_cut_off rfl rfl fun f cdv A outer s H E hr => by
  exact (dpss_cons (dps_asg (dpe_strM PySem.F.slot_str_partition PySem.F.type_str_partition mt_partition lo_partition (dpv 0) (dpa_cons dpe_str dpa_nil)) (dpg_tup rfl (dpgs_cons (dpg_name (i := 1) sc_cut_off.nd rfl (by first | exact Or.inl rfl | exact Or.inr rfl) rfl) (dpgs_cons (dpg_name (i := 2) sc_cut_off.nd rfl (by first | exact Or.inl rfl | exact Or.inr rfl) rfl) (dpgs_cons (dpg_name (i := 3) sc_cut_off.nd rfl (by first | exact Or.inl rfl | exact Or.inr rfl) rfl) dpgs_nil))))) (dpss_cons (dps_if (dpt_cmp (op_eqA hr.units) lo_eq (dpv 2) dpe_str) (dpss_one (dps_raise rfl (takes_of rfl rfl rfl rfl) T.x_BadLine (dpa_cons dpe_str dpa_nil))) dpss_nil) (dpss_one (dps_ret (dpe_tup (dpa_cons (dpv 1) (dpa_cons (dpv 3) dpa_nil)))))))
/-! only_of: 0 string, 1 signs, 2 letter -/
abbrev s_only_of : Stmt := top 10
def N_only_of : List Str := ["string", "signs", "letter"]
theorem sc_only_of : L2.FnScope N_only_of ["string", "signs"] (defScope s_only_of) := ⟨rfl, rfl, rfl, by decide +kernel, rfl, by decide +kernel, by decide +kernel⟩
def m_only_of : MS := mSeq (mFor (mIter (mName 0)) (gNm 2) (mIf (mTest (mLoc (fIn true) (mArgs [mName 2, mName 1]))) (mRet (ioSlots [false, false] 0) (mPure (.tm (.bl false)))) (mNx))) (mRet (ioSlots [false, false] 0) (mPure (.tm (.bl true))))
def r_only_of : List D → Ret := mDef 3 [false, false] m_only_of
theorem w_only_of (T : Tx K mg cl ad) : DOk P w K mg base (L2.CX P w) 2 "only_of" cl r_only_of [false, false] := DOk.def (N := N_only_of) T.a_only_of sc_only_of rfl rfl fun f cdv A outer s H E hr => by
  exact (dpss_cons (dps_for PassesOwn.leaving rfl (dpi_any (dpv 0)) (dpg_name (i := 2) sc_only_of.nd rfl (by first | exact Or.inl rfl | exact Or.inr rfl) rfl) (dpss_one (dps_if (dpt_cmp (op_notInA (hu65 hr)) (lo_in true) (dpv 2) (dpv 1)) (dpss_one (dps_ret dpe_bl)) dpss_nil))) (dpss_one (dps_ret dpe_bl)))
/-! is_name: 0 value -/
abbrev s_is_name : Stmt := top 11
def N_is_name : List Str := ["value"]
theorem sc_is_name : L2.FnScope N_is_name ["value"] (defScope s_is_name) := ⟨rfl, rfl, rfl, by decide +kernel, rfl, by decide +kernel, by decide +kernel⟩
def m_is_name : MS := mSeq (mIf (mNot (mTruth (mLoc (fIsi ["str"]) (mArgs [mName 0])))) (mRet (ioSlots [false] 0) (mPure (.tm (.bl false)))) (mNx)) (mRet (ioSlots [false] 0) (mBoolV (mAnd (mTest (mChain (fCmpI fun i j => decide (i ≤ j)) (fCmpI fun i j => decide (i ≤ j)) (mPure (.tm (.int 1))) (mLoc fLen (mArgs [mName 0])) (mPure (.tm (.int 12))))) (mTest (mCall (r_only_of) [false, false] (mArgs [mName 0, mPure (.tm (.str "abcdefghijklmnopqrstuvwxyz"))]))))))
def r_is_name : List D → Ret := mDef 1 [false] m_is_name
theorem w_is_name (T : Tx K mg cl ad) : DOk P w K mg base (L2.CX P w) 3 "is_name" cl r_is_name [false] := DOk.def (N := N_is_name) T.a_is_name sc_is_name rfl rfl fun f cdv A outer s H E hr => by
  exact (dpss_cons (dps_if (dpt_not (dpt_truth (dpe_isi T.b_isinstance T.b_str (by decide +kernel) (by decide) (dpv 0)))) (dpss_one (dps_ret dpe_bl)) dpss_nil) (dpss_one (dps_ret (dpe_and (dpe_chain op_le op_le (lo_cmpI fun i j => decide (i ≤ j)) (lo_cmpI fun i j => decide (i ≤ j)) dpe_int (dpe_callB call_len lo_len T.b_len (by decide +kernel) (dpa_cons (dpv 0) dpa_nil)) (dpe_glob T.g_NAME_MOST)) (dpe_one (dpe_call (w_only_of T) (hr.mono (by decide)) (takes_of rfl rfl rfl rfl) (dpa_cons (dpv 0) (dpa_cons (dpe_glob T.g_SMALL) dpa_nil))))))))
/-! name_of: 0 string -/
abbrev s_name_of : Stmt := top 29
def N_name_of : List Str := ["string"]
theorem sc_name_of : L2.FnScope N_name_of ["string"] (defScope s_name_of) := ⟨rfl, rfl, rfl, by decide +kernel, rfl, by decide +kernel, by decide +kernel⟩
def m_name_of : MS := mSeq (mIf (mAnd (mTest (mLoc fNe (mArgs [mName 0, mPure (.tm (.str "="))]))) (mNot (mTruth (mCall (r_is_name) [false] (mArgs [mName 0]))))) (mRaise "BadLine" (mArgs [mPure (.tm (.str "this is not a name"))])) (mNx)) (mRet (ioSlots [false] 0) (mName 0))
def r_name_of : List D → Ret := mDef 1 [false] m_name_of
theorem w_name_of (T : Tx K mg cl ad) : DOk P w K mg base (L2.CX P w) 4 "name_of" cl r_name_of [false] := DOk.def (N := N_name_of) T.a_name_of sc_name_of rfl rfl fun f cdv A outer s H E hr => by
  exact (dpss_cons (dps_if (pw_pt (dpw_and (dpt_cmp (op_neA hr.units) lo_ne (dpv 0) dpe_str) (dpw_and1 (dpt_not (dpt_truth (dpe_call (w_is_name T) (hr.mono (by decide)) (takes_of rfl rfl rfl rfl) (dpa_cons (dpv 0) dpa_nil))))))) (dpss_one (dps_raise rfl (takes_of rfl rfl rfl rfl) T.x_BadLine (dpa_cons dpe_str dpa_nil))) dpss_nil) (dpss_one (dps_ret (dpv 0))))
/-! is_number: 0 part, 1 digit -/
abbrev s_is_number : Stmt := top 19
def N_is_number : List Str := ["part", "digit"]
theorem sc_is_number : L2.FnScope N_is_number ["part"] (defScope s_is_number) := ⟨rfl, rfl, rfl, by decide +kernel, rfl, by decide +kernel, by decide +kernel⟩
def m_is_number : MS := mSeq (mIf (mNot (mTest (mChain (fCmpI fun i j => decide (i ≤ j)) (fCmpI fun i j => decide (i ≤ j)) (mPure (.tm (.int 1))) (mLoc fLen (mArgs [mName 0])) (mPure (.tm (.int 4)))))) (mRet (ioSlots [false] 0) (mPure (.tm (.bl false)))) (mNx)) (mSeq (mFor (mIter (mName 0)) (gNm 1) (mIf (mTest (mLoc (fIn true) (mArgs [mName 1, mPure (.tm (.str "0123456789"))]))) (mRet (ioSlots [false] 0) (mPure (.tm (.bl false)))) (mNx))) (mRet (ioSlots [false] 0) (mBoolV (mOr (mTest (mLoc fEq (mArgs [mName 0, mPure (.tm (.str "0"))]))) (mTest (mLoc fNe (mArgs [mLoc fIx (mArgs [mName 0, mPure (.tm (.int 0))]), mPure (.tm (.str "0"))])))))))
def r_is_number : List D → Ret := mDef 2 [false] m_is_number
theorem wN_is_number (T : Tx K mg cl ad) : DOk P w K mg base (L2N.CX P w) 2 "is_number" cl r_is_number [false] := DOk.defN (N := N_is_number) T.a_is_number sc_is_number rfl rfl fun f cdv A outer s H E hr => by
  exact (dpss_cons (dps_if (dpt_not (dpt_chain op_le op_le (lo_cmpI fun i j => decide (i ≤ j)) (lo_cmpI fun i j => decide (i ≤ j)) dpe_int (dpe_callB call_len lo_len T.b_len (by decide +kernel) (dpa_cons (dpv 0) dpa_nil)) (dpe_glob T.g_DIGITS_MOST))) (dpss_one (dps_ret dpe_bl)) dpss_nil) (dpss_cons (dps_for PassesOwn.leaving rfl (dpi_any (dpv 0)) (dpg_name (i := 1) sc_is_number.nd rfl (by first | exact Or.inl rfl | exact Or.inr rfl) rfl) (dpss_one (dps_if (dpt_cmp (op_notInA (hu65 hr)) (lo_in true) (dpv 1) (dpe_glob T.g_DIGITS_treeletters)) (dpss_one (dps_ret dpe_bl)) dpss_nil))) (dpss_one (dps_ret (dpe_or (dpe_cmp (op_eqA hr.units) lo_eq (dpv 0) dpe_str) (dpe_one (dpe_cmp (op_neA hr.units) lo_ne (dpe_ix (dpv 0) dpe_int) dpe_str)))))))
/-! parse_address: 0 string, 1 answer, 2 part -/
abbrev s_parse_address : Stmt := top 20
def N_parse_address : List Str := ["string", "answer", "part"]
theorem sc_parse_address : L2.FnScope N_parse_address ["string"] (defScope s_parse_address) := ⟨rfl, rfl, rfl, by decide +kernel, rfl, by decide +kernel, by decide +kernel⟩
def m_parse_address : MS := mSeq (mIf (mNot (mTruth (mLoc (fIsi ["str"]) (mArgs [mName 0])))) (mRaise "NoSuch" (mArgs [])) (mNx)) (mSeq (mIf (mTest (mLoc fEq (mArgs [mName 0, mPure (.tm (.str "-"))]))) (mRet (ioSlots [false] 0) (mTup (mArgs []))) (mNx)) (mSeq (mSet 1 (mLst (mArgs []))) (mSeq (mFor (mIter (mLoc fSplit (mArgs (mStr (mName 0) :: [mPure (.tm (.str "."))])))) (gNm 2) (mSeq (mIf (mNot (mTruth (mCall (r_is_number) [false] (mArgs [mName 2])))) (mRaise "NoSuch" (mArgs [])) (mNx)) (mApp 1 (mLoc fInt (mArgs [mName 2]))))) (mRet (ioSlots [false] 0) (mLoc fTupleOf (mArgs [mName 1]))))))
def r_parse_address : List D → Ret := mDef 3 [false] m_parse_address
theorem wN_parse_address (T : Tx K mg cl ad) : DOk P w K mg base (L2N.CX P w) 3 "parse_address" cl r_parse_address [false] := DOk.defN (N := N_parse_address) T.a_parse_address sc_parse_address rfl rfl fun f cdv A outer s H E hr => by
  exact (dpss_cons (dps_if (dpt_not (dpt_truth (dpe_isi T.b_isinstance T.b_str (by decide +kernel) (by decide) (dpv 0)))) (dpss_one (dps_raiseN0 rfl (L2N.takes_of rfl rfl rfl rfl) T.x_NoSuch)) dpss_nil) (dpss_cons (dps_if (dpt_cmp (op_eqA hr.units) lo_eq (dpv 0) dpe_str) (dpss_one (dps_ret (dpe_tup dpa_nil))) dpss_nil) (dpss_cons (dps_set (i := 1) sc_parse_address.nd rfl (by first | exact Or.inl rfl | exact Or.inr rfl) rfl (dpe_lst dpa_nil)) (dpss_cons (dps_for PassesOwn.leaving rfl (dpi_any (dpe_strM PySem.F.slot_str_split PySem.F.type_str_split mt_split lo_split (dpv 0) (dpa_cons dpe_str dpa_nil))) (dpg_name (i := 2) sc_parse_address.nd rfl (by first | exact Or.inl rfl | exact Or.inr rfl) rfl) (dpss_cons (dps_if (dpt_not (dpt_truth (dpe_callN (wN_is_number T) (hr.mono (by decide)) (L2N.takes_of rfl rfl rfl rfl) (dpa_cons (dpv 2) dpa_nil)))) (dpss_one (dps_raiseN0 rfl (L2N.takes_of rfl rfl rfl rfl) T.x_NoSuch)) dpss_nil) (dpss_one (dps_app (i := 1) rfl (by first | exact Or.inl rfl | exact Or.inr (Or.inl rfl)) (dpe_callTy call_intAll lo_int T.b_int (by decide +kernel) (dpa_cons (dpv 2) dpa_nil)))))) (dpss_one (dps_ret (dpe_callTy call_tuple_of lo_tupleOf T.b_tuple (by decide +kernel) (dpa_cons (dpv 1) dpa_nil))))))))
/-! address_of: 0 string -/
abbrev s_address_of : Stmt := top 28
def N_address_of : List Str := ["string"]
theorem sc_address_of : L2.FnScope N_address_of ["string"] (defScope s_address_of) := ⟨rfl, rfl, rfl, by decide +kernel, rfl, by decide +kernel, by decide +kernel⟩
def m_address_of : MS := mTryO ct_NoSuch (mRet (ioSlots [false] 0) (mCall (r_parse_address) [false] (mArgs [mName 0]))) (mRaise "BadLine" (mArgs [mPure (.tm (.str "this is not an address"))]))
def r_address_of : List D → Ret := mDef 1 [false] m_address_of
theorem w_address_of (T : Tx K mg cl ad) : DOk P w K mg base (L2.CX P w) 4 "address_of" cl r_address_of [false] := DOk.def (N := N_address_of) T.a_address_of sc_address_of rfl rfl fun f cdv A outer s H E hr => by
  exact (dpss_one (dps_tryX rfl rfl ⟨rfl, by decide, Or.inl T.x_NoSuch.g⟩ T.ct_NoSuch (fun hd => passesAt_of rfl hd) (takes_of rfl rfl rfl rfl) (fun W pn xe tk po => (dpss_one (dps_ret (dpe_callN (wN_parse_address T) (hr.mono (by decide)) tk (dpa_cons (dpv 0) dpa_nil))))) (fun a pn tk hot => (dpss_one (dps_raiseH hot tk T.x_BadLine (dpa_cons dpe_str dpa_nil))))))
/-! number_of: 0 string, 1 digit -/
abbrev s_number_of : Stmt := top 27
def N_number_of : List Str := ["string", "digit"]
theorem sc_number_of : L2.FnScope N_number_of ["string"] (defScope s_number_of) := ⟨rfl, rfl, rfl, by decide +kernel, rfl, by decide +kernel, by decide +kernel⟩
def m_number_of : MS := mSeq (mIf (mOr (mTest (mLoc fEq (mArgs [mName 0, mPure (.tm (.str ""))]))) (mTest (mLoc (fCmpI fun i j => decide (j < i)) (mArgs [mLoc fLen (mArgs [mName 0]), mPure (.tm (.int 4))])))) (mRaise "BadLine" (mArgs [mPure (.tm (.str "a number has 1 to 4 digits"))])) (mNx)) (mSeq (mFor (mIter (mName 0)) (gNm 1) (mIf (mTest (mLoc (fIn true) (mArgs [mName 1, mPure (.tm (.str "0123456789"))]))) (mRaise "BadLine" (mArgs [mPure (.tm (.str "a number consists of digits"))])) (mNx))) (mSeq (mIf (mAnd (mTest (mLoc (fCmpI fun i j => decide (j < i)) (mArgs [mLoc fLen (mArgs [mName 0]), mPure (.tm (.int 1))]))) (mTest (mLoc fEq (mArgs [mLoc fIx (mArgs [mName 0, mPure (.tm (.int 0))]), mPure (.tm (.str "0"))])))) (mRaise "BadLine" (mArgs [mPure (.tm (.str "a leading zero is not allowed"))])) (mNx)) (mRet (ioSlots [false] 0) (mLoc fInt (mArgs [mName 0])))))
def r_number_of : List D → Ret := mDef 2 [false] m_number_of
theorem w_number_of (T : Tx K mg cl ad) : DOk P w K mg base (L2.CX P w) 2 "number_of" cl r_number_of [false] := DOk.def (N := N_number_of) T.a_number_of sc_number_of rfl rfl fun f cdv A outer s H E hr => by
  exact (dpss_cons (dps_if (pw_pt (dpw_or (dpt_cmp (op_eqA hr.units) lo_eq (dpv 0) dpe_str) (dpw_or1 (dpt_cmp op_gt (lo_cmpI fun i j => decide (j < i)) (dpe_callB call_len lo_len T.b_len (by decide +kernel) (dpa_cons (dpv 0) dpa_nil)) (dpe_glob T.g_MOST_DIGITS))))) (dpss_one (dps_raise rfl (takes_of rfl rfl rfl rfl) T.x_BadLine (dpa_cons dpe_str dpa_nil))) dpss_nil) (dpss_cons (dps_for PassesOwn.leaving rfl (dpi_any (dpv 0)) (dpg_name (i := 1) sc_number_of.nd rfl (by first | exact Or.inl rfl | exact Or.inr rfl) rfl) (dpss_one (dps_if (dpt_cmp (op_notInA (hu65 hr)) (lo_in true) (dpv 1) (dpe_glob T.g_DIGITS_deeds)) (dpss_one (dps_raise rfl (takes_of rfl rfl rfl rfl) T.x_BadLine (dpa_cons dpe_str dpa_nil))) dpss_nil))) (dpss_cons (dps_if (pw_pt (dpw_and (dpt_cmp op_gt (lo_cmpI fun i j => decide (j < i)) (dpe_callB call_len lo_len T.b_len (by decide +kernel) (dpa_cons (dpv 0) dpa_nil)) dpe_int) (dpw_and1 (dpt_cmp (op_eqA hr.units) lo_eq (dpe_ix (dpv 0) dpe_int) dpe_str)))) (dpss_one (dps_raise rfl (takes_of rfl rfl rfl rfl) T.x_BadLine (dpa_cons dpe_str dpa_nil))) dpss_nil) (dpss_one (dps_ret (dpe_callTy call_intAll lo_int T.b_int (by decide +kernel) (dpa_cons (dpv 0) dpa_nil)))))))
/-! parse_deed: 0 line, 1 word, 2 rest, 3 place, 4 letters, 5 behind, 6 index, 7 low, 8 high -/
abbrev s_parse_deed : Stmt := top 31
def N_parse_deed : List Str := ["line", "word", "rest", "place", "letters", "behind", "index", "low", "high"]
theorem sc_parse_deed : L2.FnScope N_parse_deed ["line"] (defScope s_parse_deed) := ⟨rfl, rfl, rfl, by decide +kernel, rfl, by decide +kernel, by decide +kernel⟩
def m_parse_deed : MS := mSeq (mIf (mNot (mTruth (mLoc (fIsi ["str"]) (mArgs [mName 0])))) (mRaise "BadLine" (mArgs [mPure (.tm (.str "a line is a string"))])) (mNx)) (mSeq (mIf (mTest (mLoc (fIn false) (mArgs [mName 0, mPure (.tm (.tup false [(.str "cure"), (.str "undo")]))]))) (mRet (ioSlots [false] 0) (mTup (mArgs [mName 0]))) (mNx)) (mSeq (mAsg (gTp 2 (gsCons (gNm 1) (gsCons (gNm 2) (gsNil)))) (mCall (r_cut_off) [false] (mArgs [mName 0]))) (mSeq (mIf (mTest (mLoc (fIn false) (mArgs [mName 1, mPure (.tm (.tup false [(.str "text"), (.str "spare"), (.str "mend")]))]))) (mRet (ioSlots [false] 0) (mTup (mArgs [mName 1, mName 2]))) (mNx)) (mSeq (mIf (mTest (mLoc (fIn false) (mArgs [mName 1, mPure (.tm (.tup false [(.str "fuller"), (.str "lesser"), (.str "forbid")]))]))) (mRet (ioSlots [false] 0) (mTup (mArgs [mName 1, mCall (r_name_of) [false] (mArgs [mName 2])]))) (mNx)) (mSeq (mIf (mTest (mLoc fEq (mArgs [mName 1, mPure (.tm (.str "cut"))]))) (mRet (ioSlots [false] 0) (mTup (mArgs [mName 1, mCall (r_address_of) [false] (mArgs [mName 2])]))) (mNx)) (mSeq (mIf (mTest (mLoc fEq (mArgs [mName 1, mPure (.tm (.str "trade"))]))) (mSeq (mAsg (gTp 2 (gsCons (gNm 3) (gsCons (gNm 4) (gsNil)))) (mCall (r_cut_off) [false] (mArgs [mName 2]))) (mRet (ioSlots [false] 0) (mTup (mArgs [mName 1, mCall (r_address_of) [false] (mArgs [mName 3]), mName 4])))) (mNx)) (mSeq (mIf (mTest (mLoc fEq (mArgs [mName 1, mPure (.tm (.str "put"))]))) (mSeq (mAsg (gTp 2 (gsCons (gNm 3) (gsCons (gNm 5) (gsNil)))) (mCall (r_cut_off) [false] (mArgs [mName 2]))) (mSeq (mAsg (gTp 2 (gsCons (gNm 6) (gsCons (gNm 4) (gsNil)))) (mCall (r_cut_off) [false] (mArgs [mName 5]))) (mRet (ioSlots [false] 0) (mTup (mArgs [mName 1, mCall (r_address_of) [false] (mArgs [mName 3]), mCall (r_number_of) [false] (mArgs [mName 6]), mName 4]))))) (mNx)) (mSeq (mIf (mTest (mLoc fEq (mArgs [mName 1, mPure (.tm (.str "edit"))]))) (mSeq (mAsg (gTp 2 (gsCons (gNm 7) (gsCons (gNm 5) (gsNil)))) (mCall (r_cut_off) [false] (mArgs [mName 2]))) (mSeq (mAsg (gTp 2 (gsCons (gNm 8) (gsCons (gNm 4) (gsNil)))) (mCall (r_cut_off) [false] (mArgs [mName 5]))) (mRet (ioSlots [false] 0) (mTup (mArgs [mName 1, mCall (r_number_of) [false] (mArgs [mName 7]), mCall (r_number_of) [false] (mArgs [mName 8]), mName 4]))))) (mNx)) (mRaise "BadLine" (mArgs [mPure (.tm (.str "there is no such deed"))]))))))))))
def r_parse_deed : List D → Ret := mDef 9 [false] m_parse_deed
theorem w_parse_deed (T : Tx K mg cl ad) : DOk P w K mg base (L2.CX P w) 5 "parse_deed" cl r_parse_deed [false] := DOk.def (N := N_parse_deed) T.a_parse_deed sc_parse_deed rfl rfl fun f cdv A outer s H E hr => by
  exact (dpss_cons (dps_if (dpt_not (dpt_truth (dpe_isi T.b_isinstance T.b_str (by decide +kernel) (by decide) (dpv 0)))) (dpss_one (dps_raise rfl (takes_of rfl rfl rfl rfl) T.x_BadLine (dpa_cons dpe_str dpa_nil))) dpss_nil) (dpss_cons (dps_if (dpt_cmp (op_inA (hu65 hr)) (lo_in false) (dpv 0) (dpe_glob T.g_BARE_WORDS)) (dpss_one (dps_ret (dpe_tup (dpa_cons (dpv 0) dpa_nil)))) dpss_nil) (dpss_cons (dps_asg (dpe_call (w_cut_off T) (hr.mono (by decide)) (takes_of rfl rfl rfl rfl) (dpa_cons (dpv 0) dpa_nil)) (dpg_tup rfl (dpgs_cons (dpg_name (i := 1) sc_parse_deed.nd rfl (by first | exact Or.inl rfl | exact Or.inr rfl) rfl) (dpgs_cons (dpg_name (i := 2) sc_parse_deed.nd rfl (by first | exact Or.inl rfl | exact Or.inr rfl) rfl) dpgs_nil)))) (dpss_cons (dps_if (dpt_cmp (op_inA (hu65 hr)) (lo_in false) (dpv 1) (dpe_glob T.g_LETTER_WORDS)) (dpss_one (dps_ret (dpe_tup (dpa_cons (dpv 1) (dpa_cons (dpv 2) dpa_nil))))) dpss_nil) (dpss_cons (dps_if (dpt_cmp (op_inA (hu65 hr)) (lo_in false) (dpv 1) (dpe_glob T.g_NAME_WORDS)) (dpss_one (dps_ret (dpe_tup (dpa_cons (dpv 1) (dpa_cons (dpe_call (w_name_of T) (hr.mono (by decide)) (takes_of rfl rfl rfl rfl) (dpa_cons (dpv 2) dpa_nil)) dpa_nil))))) dpss_nil) (dpss_cons (dps_if (dpt_cmp (op_eqA hr.units) lo_eq (dpv 1) dpe_str) (dpss_one (dps_ret (dpe_tup (dpa_cons (dpv 1) (dpa_cons (dpe_call (w_address_of T) (hr.mono (by decide)) (takes_of rfl rfl rfl rfl) (dpa_cons (dpv 2) dpa_nil)) dpa_nil))))) dpss_nil) (dpss_cons (dps_if (dpt_cmp (op_eqA hr.units) lo_eq (dpv 1) dpe_str) (dpss_cons (dps_asg (dpe_call (w_cut_off T) (hr.mono (by decide)) (takes_of rfl rfl rfl rfl) (dpa_cons (dpv 2) dpa_nil)) (dpg_tup rfl (dpgs_cons (dpg_name (i := 3) sc_parse_deed.nd rfl (by first | exact Or.inl rfl | exact Or.inr rfl) rfl) (dpgs_cons (dpg_name (i := 4) sc_parse_deed.nd rfl (by first | exact Or.inl rfl | exact Or.inr rfl) rfl) dpgs_nil)))) (dpss_one (dps_ret (dpe_tup (dpa_cons (dpv 1) (dpa_cons (dpe_call (w_address_of T) (hr.mono (by decide)) (takes_of rfl rfl rfl rfl) (dpa_cons (dpv 3) dpa_nil)) (dpa_cons (dpv 4) dpa_nil))))))) dpss_nil) (dpss_cons (dps_if (dpt_cmp (op_eqA hr.units) lo_eq (dpv 1) dpe_str) (dpss_cons (dps_asg (dpe_call (w_cut_off T) (hr.mono (by decide)) (takes_of rfl rfl rfl rfl) (dpa_cons (dpv 2) dpa_nil)) (dpg_tup rfl (dpgs_cons (dpg_name (i := 3) sc_parse_deed.nd rfl (by first | exact Or.inl rfl | exact Or.inr rfl) rfl) (dpgs_cons (dpg_name (i := 5) sc_parse_deed.nd rfl (by first | exact Or.inl rfl | exact Or.inr rfl) rfl) dpgs_nil)))) (dpss_cons (dps_asg (dpe_call (w_cut_off T) (hr.mono (by decide)) (takes_of rfl rfl rfl rfl) (dpa_cons (dpv 5) dpa_nil)) (dpg_tup rfl (dpgs_cons (dpg_name (i := 6) sc_parse_deed.nd rfl (by first | exact Or.inl rfl | exact Or.inr rfl) rfl) (dpgs_cons (dpg_name (i := 4) sc_parse_deed.nd rfl (by first | exact Or.inl rfl | exact Or.inr rfl) rfl) dpgs_nil)))) (dpss_one (dps_ret (dpe_tup (dpa_cons (dpv 1) (dpa_cons (dpe_call (w_address_of T) (hr.mono (by decide)) (takes_of rfl rfl rfl rfl) (dpa_cons (dpv 3) dpa_nil)) (dpa_cons (dpe_call (w_number_of T) (hr.mono (by decide)) (takes_of rfl rfl rfl rfl) (dpa_cons (dpv 6) dpa_nil)) (dpa_cons (dpv 4) dpa_nil))))))))) dpss_nil) (dpss_cons (dps_if (dpt_cmp (op_eqA hr.units) lo_eq (dpv 1) dpe_str) (dpss_cons (dps_asg (dpe_call (w_cut_off T) (hr.mono (by decide)) (takes_of rfl rfl rfl rfl) (dpa_cons (dpv 2) dpa_nil)) (dpg_tup rfl (dpgs_cons (dpg_name (i := 7) sc_parse_deed.nd rfl (by first | exact Or.inl rfl | exact Or.inr rfl) rfl) (dpgs_cons (dpg_name (i := 5) sc_parse_deed.nd rfl (by first | exact Or.inl rfl | exact Or.inr rfl) rfl) dpgs_nil)))) (dpss_cons (dps_asg (dpe_call (w_cut_off T) (hr.mono (by decide)) (takes_of rfl rfl rfl rfl) (dpa_cons (dpv 5) dpa_nil)) (dpg_tup rfl (dpgs_cons (dpg_name (i := 8) sc_parse_deed.nd rfl (by first | exact Or.inl rfl | exact Or.inr rfl) rfl) (dpgs_cons (dpg_name (i := 4) sc_parse_deed.nd rfl (by first | exact Or.inl rfl | exact Or.inr rfl) rfl) dpgs_nil)))) (dpss_one (dps_ret (dpe_tup (dpa_cons (dpv 1) (dpa_cons (dpe_call (w_number_of T) (hr.mono (by decide)) (takes_of rfl rfl rfl rfl) (dpa_cons (dpv 7) dpa_nil)) (dpa_cons (dpe_call (w_number_of T) (hr.mono (by decide)) (takes_of rfl rfl rfl rfl) (dpa_cons (dpv 8) dpa_nil)) (dpa_cons (dpv 4) dpa_nil))))))))) dpss_nil) (dpss_one (dps_raise rfl (takes_of rfl rfl rfl rfl) T.x_BadLine (dpa_cons dpe_str dpa_nil))))))))))))
/-! _law_fine: 0 value, 1 due, 2 turn, 3 told, 4 e -/
abbrev s_law_fine : Stmt := top 49
def N_law_fine : List Str := ["value", "due", "turn", "told", "e"]
theorem sc_law_fine : L2.FnScope N_law_fine ["value", "due"] (defScope s_law_fine) := ⟨rfl, rfl, rfl, by decide +kernel, rfl, by decide +kernel, by decide +kernel⟩
def m_law_fine : MS := mSeq (mFor (mRng1 (mPure (.tm (.int 2)))) (gNm 2) (mSeq (mSet 3 (mLst (mArgs []))) (mSeq (mTryA 4 ct_BadLine (mSet 3 (mLst (mArgs [mCall (r_parse_deed) [false] (mArgs [mName 0])]))) (mIf (mOr (mNot (mTruth (mIsX tb_0 4))) (mTruth (mIsX tb_1 4))) (mRet (ioSlots [false, false] 0) (mPure (.tm (.bl false)))) (mNx))) (mIf (mNot (mTruth (mCall (r_law_alike 6) [false, false] (mArgs [mName 3, mName 1])))) (mRet (ioSlots [false, false] 0) (mPure (.tm (.bl false)))) (mNx))))) (mRet (ioSlots [false, false] 0) (mBoolV (mOr (mTest (mLoc fEq (mArgs [mLoc fLen (mArgs [mName 1]), mPure (.tm (.int 0))]))) (mTest (mCall (r_law_alike 6) [false, false] (mArgs [mCall (r_format_deed) [false] (mArgs [mLoc fIx (mArgs [mName 1, mPure (.tm (.int 0))])]), mName 0]))))))
def r_law_fine : List D → Ret := mDef 5 [false, false] m_law_fine
theorem w_law_fine (T : Tx K mg cl ad) : DOk P w K mg base (L2.CX P w) 9 "_law_fine" cl r_law_fine [false, false] := DOk.def (N := N_law_fine) T.a_law_fine sc_law_fine rfl rfl fun f cdv A outer s H E hr => by
  exact (dpss_cons (dps_for PassesOwn.leaving rfl (dpi_range1 T.b_range dpe_int) (dpg_name (i := 2) sc_law_fine.nd rfl (by first | exact Or.inl rfl | exact Or.inr rfl) rfl) (dpss_cons (dps_set (i := 3) sc_law_fine.nd rfl (by first | exact Or.inl rfl | exact Or.inr rfl) rfl (dpe_lst dpa_nil)) (dpss_cons (dps_tryA (i := 4) T.fr rfl rfl rfl sc_law_fine.nd rfl rfl ⟨rfl, by decide, Or.inl T.x_BadLine.g⟩ T.ct_BadLine (takes_of rfl rfl rfl rfl) (fun W pn xe tk po => (dpss_one (dps_set (i := 3) sc_law_fine.nd rfl (by first | exact Or.inl rfl | exact Or.inr rfl) rfl (dpe_lst (dpa_cons (dpe_call (w_parse_deed T) (hr.mono (by decide)) tk (dpa_cons (dpv 0) dpa_nil)) dpa_nil))))) (fun a oe cls pn hz hv => (dpss_one (dps_if (pw_pt (dpw_or (dpt_not (dpt_truth (dpe_isX hz hv rfl T.b_isinstance (i := 4) rfl (Or.inl rfl) (pe_bltn (v := .ty "ValueError") rfl T.b_ValueError (by decide +kernel) rfl (by decide) (by decide)) (.ty _) T.i_0))) (dpw_or1 (dpt_truth (dpe_isXT hz hv rfl T.b_isinstance (i := 4) rfl (Or.inl rfl) (pa_cls_cons T.k_BadMarkup (pa_cls_cons T.k_BadTree (pa_cls_cons T.k_Limit (pa_cls_cons T.k_NoSuch (pa_cls_cons T.k_UnknownName pa_tys_nil))))) (.cons (.own _) (.cons (.own _) (.cons (.own _) (.cons (.own _) (.cons (.own _) .nil))))) (Nat.le_of_ble_eq_true rfl) T.i_1))))) (dpss_one (dps_ret dpe_bl)) dpss_nil)))) (dpss_one (dps_if (dpt_not (dpt_truth (dpe_call (w_law_alike T) (hr.mono (by decide)) (takes_of rfl rfl rfl rfl) (dpa_cons (dpv 3) (dpa_cons (dpv 1) dpa_nil))))) (dpss_one (dps_ret dpe_bl)) dpss_nil))))) (dpss_one (dps_ret (dpe_or (dpe_cmp (op_eqA hr.units) lo_eq (dpe_callB call_len lo_len T.b_len (by decide +kernel) (dpa_cons (dpv 1) dpa_nil)) dpe_int) (dpe_one (dpe_call (w_law_alike T) (hr.mono (by decide)) (takes_of rfl rfl rfl rfl) (dpa_cons (dpe_call (w_format_deed T) (hr.mono (by decide)) (takes_of rfl rfl rfl rfl) (dpa_cons (dpe_ix (dpv 1) dpe_int) dpa_nil)) (dpa_cons (dpv 0) dpa_nil))))))))
/-! _law_cut_at: 0 line, 1 many, 2 parts, 3 turn, 4 at -/
abbrev s_law_cut_at : Stmt := top 46
def N_law_cut_at : List Str := ["line", "many", "parts", "turn", "at"]
theorem sc_law_cut_at : L2.FnScope N_law_cut_at ["line", "many"] (defScope s_law_cut_at) := ⟨rfl, rfl, rfl, by decide +kernel, rfl, by decide +kernel, by decide +kernel⟩
def m_law_cut_at : MS := mSeq (mSet 2 (mLst (mArgs []))) (mSeq (mFor (mRng1 (mName 1)) (gNm 3) (mSeq (mSet 4 (mLoc fFind (mArgs (mStr (mName 0) :: [mPure (.tm (.str " "))])))) (mSeq (mIf (mTest (mLoc (fCmpI fun i j => decide (i < j)) (mArgs [mName 4, mPure (.tm (.int 0))]))) (mFl .bk) (mNx)) (mSeq (mApp 2 (mSl (mName 0) mNoP (mPart (mName 4)))) (mSet 0 (mSl (mName 0) (mPart (mLoc fAdd (mArgs [mName 4, mPure (.tm (.int 1))]))) mNoP)))))) (mRet (ioSlots [false, false] 0) (mLoc fAdd (mArgs [mName 2, mLst (mArgs [mName 0])]))))
def r_law_cut_at : List D → Ret := mDef 5 [false, false] m_law_cut_at
theorem w_law_cut_at (T : Tx K mg cl ad) : DOk P w K mg base (L2.CX P w) 2 "_law_cut_at" cl r_law_cut_at [false, false] := DOk.def (N := N_law_cut_at) T.a_law_cut_at sc_law_cut_at rfl rfl fun f cdv A outer s H E hr => by
  exact (dpss_cons (dps_set (i := 2) sc_law_cut_at.nd rfl (by first | exact Or.inl rfl | exact Or.inr rfl) rfl (dpe_lst dpa_nil)) (dpss_cons (dps_for PassesOwn.leaving rfl (dpi_range1 T.b_range (dpv 1)) (dpg_name (i := 3) sc_law_cut_at.nd rfl (by first | exact Or.inl rfl | exact Or.inr rfl) rfl) (dpss_cons (dps_set (i := 4) sc_law_cut_at.nd rfl (by first | exact Or.inl rfl | exact Or.inr rfl) rfl (dpe_strM PySem.F.slot_str_find PySem.F.type_str_find mt_find lo_find (dpv 0) (dpa_cons dpe_str dpa_nil))) (dpss_cons (dps_if (dpt_cmp op_lt (lo_cmpI fun i j => decide (i < j)) (dpv 4) dpe_int) (dpss_one dps_break) dpss_nil) (dpss_cons (dps_app (i := 2) rfl (by first | exact Or.inl rfl | exact Or.inr (Or.inl rfl)) (dpe_sl01 (dpv 0) (dpv 4))) (dpss_one (dps_set (i := 0) sc_law_cut_at.nd rfl (by first | exact Or.inl rfl | exact Or.inr rfl) rfl (dpe_sl10 (dpv 0) (dpe_op op_addAll lo_add (dpv 4) dpe_int)))))))) (dpss_one (dps_ret (dpe_op op_addAll lo_add (dpv 2) (dpe_lst (dpa_cons (dpv 0) dpa_nil)))))))
/-! _law_digits: 0 part, 1 value, 2 sign, 3 at -/
abbrev s_law_digits : Stmt := top 44
def N_law_digits : List Str := ["part", "value", "sign", "at"]
theorem sc_law_digits : L2.FnScope N_law_digits ["part"] (defScope s_law_digits) := ⟨rfl, rfl, rfl, by decide +kernel, rfl, by decide +kernel, by decide +kernel⟩
def m_law_digits : MS := mSeq (mSet 1 (mPure (.tm (.int 0)))) (mSeq (mFor (mIter (mName 0)) (gNm 2) (mSeq (mSet 3 (mLoc fFind (mArgs (mStr (mPure (.tm (.str "0123456789"))) :: [mName 2])))) (mSeq (mIf (mTest (mLoc (fCmpI fun i j => decide (i < j)) (mArgs [mName 3, mPure (.tm (.int 0))]))) (mRet (ioSlots [false] 0) (mLoc fNeg (mArgs [mPure (.tm (.int 1))]))) (mNx)) (mSet 1 (mLoc fAdd (mArgs [mLoc fMul (mArgs [mName 1, mPure (.tm (.int 10))]), mName 3])))))) (mSeq (mIf (mOr (mTest (mLoc fEq (mArgs [mName 0, mPure (.tm (.str ""))]))) (mOr (mTest (mLoc (fCmpI fun i j => decide (j < i)) (mArgs [mLoc fLen (mArgs [mName 0]), mPure (.tm (.int 4))]))) (mAnd (mTest (mLoc (fCmpI fun i j => decide (j < i)) (mArgs [mLoc fLen (mArgs [mName 0]), mPure (.tm (.int 1))]))) (mTest (mLoc fEq (mArgs [mLoc fIx (mArgs [mName 0, mPure (.tm (.int 0))]), mPure (.tm (.str "0"))])))))) (mRet (ioSlots [false] 0) (mLoc fNeg (mArgs [mPure (.tm (.int 1))]))) (mNx)) (mRet (ioSlots [false] 0) (mName 1))))
def r_law_digits : List D → Ret := mDef 4 [false] m_law_digits
theorem w_law_digits (T : Tx K mg cl ad) : DOk P w K mg base (L2.CX P w) 2 "_law_digits" cl r_law_digits [false] := DOk.def (N := N_law_digits) T.a_law_digits sc_law_digits rfl rfl fun f cdv A outer s H E hr => by
  exact (dpss_cons (dps_set (i := 1) sc_law_digits.nd rfl (by first | exact Or.inl rfl | exact Or.inr rfl) rfl dpe_int) (dpss_cons (dps_for PassesOwn.leaving rfl (dpi_any (dpv 0)) (dpg_name (i := 2) sc_law_digits.nd rfl (by first | exact Or.inl rfl | exact Or.inr rfl) rfl) (dpss_cons (dps_set (i := 3) sc_law_digits.nd rfl (by first | exact Or.inl rfl | exact Or.inr rfl) rfl (dpe_strM PySem.F.slot_str_find PySem.F.type_str_find mt_find lo_find dpe_str (dpa_cons (dpv 2) dpa_nil))) (dpss_cons (dps_if (dpt_cmp op_lt (lo_cmpI fun i j => decide (i < j)) (dpv 3) dpe_int) (dpss_one (dps_ret (dpe_neg dpe_int))) dpss_nil) (dpss_one (dps_set (i := 1) sc_law_digits.nd rfl (by first | exact Or.inl rfl | exact Or.inr rfl) rfl (dpe_op op_addAll lo_add (dpe_op op_mulAll lo_mul (dpv 1) dpe_int) (dpv 3))))))) (dpss_cons (dps_if (pw_pt (dpw_or (dpt_cmp (op_eqA hr.units) lo_eq (dpv 0) dpe_str) (dpw_or (dpt_cmp op_gt (lo_cmpI fun i j => decide (j < i)) (dpe_callB call_len lo_len T.b_len (by decide +kernel) (dpa_cons (dpv 0) dpa_nil)) dpe_int) (dpw_or1 (pw_pt (dpw_and (dpt_cmp op_gt (lo_cmpI fun i j => decide (j < i)) (dpe_callB call_len lo_len T.b_len (by decide +kernel) (dpa_cons (dpv 0) dpa_nil)) dpe_int) (dpw_and1 (dpt_cmp (op_eqA hr.units) lo_eq (dpe_ix (dpv 0) dpe_int) dpe_str)))))))) (dpss_one (dps_ret (dpe_neg dpe_int))) dpss_nil) (dpss_one (dps_ret (dpv 1))))))
/-! _law_spots: 0 part, 1 numbers, 2 piece, 3 number -/
abbrev s_law_spots : Stmt := top 45
def N_law_spots : List Str := ["part", "numbers", "piece", "number"]
theorem sc_law_spots : L2.FnScope N_law_spots ["part"] (defScope s_law_spots) := ⟨rfl, rfl, rfl, by decide +kernel, rfl, by decide +kernel, by decide +kernel⟩
def m_law_spots : MS := mSeq (mIf (mTest (mLoc fEq (mArgs [mName 0, mPure (.tm (.str "-"))]))) (mRet (ioSlots [false] 0) (mLst (mArgs [mTup (mArgs [])]))) (mNx)) (mSeq (mSet 1 (mLc [2] (mIter (mLoc fSplit (mArgs (mStr (mName 0) :: [mPure (.tm (.str "."))])))) (gNm 2) (mPure true) (mCall (r_law_digits) [false] (mArgs [mName 2])))) (mSeq (mIf (mTest (mLoc (fCmpI fun i j => decide (j < i)) (mArgs [mLoc fLen (mArgs [mLc [3] (mIter (mName 1)) (gNm 3) (mTest (mLoc (fCmpI fun i j => decide (i < j)) (mArgs [mName 3, mPure (.tm (.int 0))]))) (mName 3)]), mPure (.tm (.int 0))]))) (mRet (ioSlots [false] 0) (mLst (mArgs []))) (mNx)) (mRet (ioSlots [false] 0) (mLst (mArgs [mLoc fTupleOf (mArgs [mName 1])])))))
def r_law_spots : List D → Ret := mDef 4 [false] m_law_spots
theorem w_law_spots (T : Tx K mg cl ad) : DOk P w K mg base (L2.CX P w) 3 "_law_spots" cl r_law_spots [false] := DOk.def (N := N_law_spots) T.a_law_spots sc_law_spots rfl rfl fun f cdv A outer s H E hr => by
  exact (dpss_cons (dps_if (dpt_cmp (op_eqA hr.units) lo_eq (dpv 0) dpe_str) (dpss_one (dps_ret (dpe_lst (dpa_cons (dpe_tup dpa_nil) dpa_nil)))) dpss_nil) (dpss_cons (dps_setLc (own := [("piece", 2)]) (j := 1) 4 rfl rfl sc_law_spots.nd rfl rfl rfl (sw_true rfl rfl rfl (by decide +kernel)) (dpi_any (dpe_strM PySem.F.slot_str_split PySem.F.type_str_split mt_split lo_split (dpv 0) (dpa_cons dpe_str dpa_nil))) (blkOk_by (N := N_law_spots) (sc := defScope s_law_spots) (own := [("piece", 2)]) (by decide +kernel)) (by decide) (fun _ _ _ _ _ => (dpg_name (i := 2) sc_law_spots.nd rfl (by first | exact Or.inl rfl | exact Or.inr rfl) rfl)) (fun _ _ _ _ _ => dpts_nil) (fun _ _ _ _ _ => (dpe_call (w_law_digits T) (hr.mono (by decide)) takes00 (dpa_cons (dpv 2) dpa_nil)))) (dpss_cons (dps_if (dpt_cmp op_gt (lo_cmpI fun i j => decide (j < i)) (dpe_callB call_len lo_len T.b_len (by decide +kernel) (dpa_cons (dpe_lc (own := [("number", 3)]) 4 rfl rfl sc_law_spots.nd (dpi_any (dpv 1)) (blkOk_by (N := N_law_spots) (sc := defScope s_law_spots) (own := [("number", 3)]) (by decide +kernel)) (by decide) (fun _ _ _ _ _ => (dpg_name (i := 3) sc_law_spots.nd rfl (by first | exact Or.inl rfl | exact Or.inr rfl) rfl)) (fun _ _ _ _ _ => (dpts_one (dpt_cmp op_lt (lo_cmpI fun i j => decide (i < j)) (dpv 3) dpe_int))) (fun _ _ _ _ _ => (dpv 3))) dpa_nil)) dpe_int) (dpss_one (dps_ret (dpe_lst dpa_nil))) dpss_nil) (dpss_one (dps_ret (dpe_lst (dpa_cons (dpe_callTy call_tuple_of lo_tupleOf T.b_tuple (by decide +kernel) (dpa_cons (dpv 1) dpa_nil)) dpa_nil)))))))
/-! _law_is_named: 0 part, 1 low, 2 sign -/
abbrev s_law_is_named : Stmt := top 47
def N_law_is_named : List Str := ["part", "low", "sign"]
theorem sc_law_is_named : L2.FnScope N_law_is_named ["part"] (defScope s_law_is_named) := ⟨rfl, rfl, rfl, by decide +kernel, rfl, by decide +kernel, by decide +kernel⟩
def m_law_is_named : MS := mSeq (mSet 1 (mLc [2] (mIter (mName 0)) (gNm 2) (mTest (mLoc (fIn false) (mArgs [mName 2, mPure (.tm (.str "abcdefghijklmnopqrstuvwxyz"))]))) (mName 2))) (mRet (ioSlots [false] 0) (mBoolV (mOr (mTest (mLoc fEq (mArgs [mName 0, mPure (.tm (.str "="))]))) (mTest (mBoolV (mAnd (mTest (mLoc (fCmpI fun i j => decide (j < i)) (mArgs [mLoc fLen (mArgs [mName 0]), mPure (.tm (.int 0))]))) (mAnd (mTest (mLoc (fCmpI fun i j => decide (i < j)) (mArgs [mLoc fLen (mArgs [mName 0]), mPure (.tm (.int 13))]))) (mTest (mLoc fEq (mArgs [mLoc fLen (mArgs [mName 1]), mLoc fLen (mArgs [mName 0])]))))))))))
def r_law_is_named : List D → Ret := mDef 3 [false] m_law_is_named
theorem w_law_is_named (T : Tx K mg cl ad) : DOk P w K mg base (L2.CX P w) 2 "_law_is_named" cl r_law_is_named [false] := DOk.def (N := N_law_is_named) T.a_law_is_named sc_law_is_named rfl rfl fun f cdv A outer s H E hr => by
  exact (dpss_cons (dps_setLc (own := [("sign", 2)]) (j := 1) 3 rfl rfl sc_law_is_named.nd rfl rfl rfl (sw_true rfl rfl rfl (by decide +kernel)) (dpi_any (dpv 0)) (blkOk_by (N := N_law_is_named) (sc := defScope s_law_is_named) (own := [("sign", 2)]) (by decide +kernel)) (by decide) (fun _ _ _ _ _ => (dpg_name (i := 2) sc_law_is_named.nd rfl (by first | exact Or.inl rfl | exact Or.inr rfl) rfl)) (fun _ _ _ _ _ => (dpts_one (dpt_cmp (op_inA (hu65 hr)) (lo_in false) (dpv 2) dpe_str))) (fun _ _ _ _ _ => (dpv 2))) (dpss_one (dps_ret (dpe_or (dpe_cmp (op_eqA hr.units) lo_eq (dpv 0) dpe_str) (dpe_one (dpe_and (dpe_cmp op_gt (lo_cmpI fun i j => decide (j < i)) (dpe_callB call_len lo_len T.b_len (by decide +kernel) (dpa_cons (dpv 0) dpa_nil)) dpe_int) (dpe_and (dpe_cmp op_lt (lo_cmpI fun i j => decide (i < j)) (dpe_callB call_len lo_len T.b_len (by decide +kernel) (dpa_cons (dpv 0) dpa_nil)) dpe_int) (dpe_one (dpe_cmp (op_eqA hr.units) lo_eq (dpe_callB call_len lo_len T.b_len (by decide +kernel) (dpa_cons (dpv 1) dpa_nil)) (dpe_callB call_len lo_len T.b_len (by decide +kernel) (dpa_cons (dpv 0) dpa_nil)))))))))))
/-! _law_read: 0 line, 1 word, 2 behind, 3 parts, 4 i, 5 j, 6 spots, 7 spot, 8 index -/
abbrev s_law_read : Stmt := top 48
def N_law_read : List Str := ["line", "word", "behind", "parts", "i", "j", "spots", "spot", "index"]
theorem sc_law_read : L2.FnScope N_law_read ["line"] (defScope s_law_read) := ⟨rfl, rfl, rfl, by decide +kernel, rfl, by decide +kernel, by decide +kernel⟩
def m_law_read : MS := mSeq (mIf (mOr (mTest (mLoc fEq (mArgs [mName 0, mPure (.tm (.str "cure"))]))) (mTest (mLoc fEq (mArgs [mName 0, mPure (.tm (.str "undo"))])))) (mRet (ioSlots [false] 0) (mLst (mArgs [mTup (mArgs [mName 0])]))) (mNx)) (mSeq (mSet 1 (mLoc fIx (mArgs [mCall (r_law_cut_at) [false, false] (mArgs [mName 0, mPure (.tm (.int 1))]), mPure (.tm (.int 0))]))) (mSeq (mSet 2 (mLoc fDisp (mArgs (flatM [(mPure (.tm (.str "text")), mPure (.tm (.int 1))), (mPure (.tm (.str "spare")), mPure (.tm (.int 1))), (mPure (.tm (.str "mend")), mPure (.tm (.int 1))), (mPure (.tm (.str "fuller")), mPure (.tm (.int 1))), (mPure (.tm (.str "lesser")), mPure (.tm (.int 1))), (mPure (.tm (.str "forbid")), mPure (.tm (.int 1))), (mPure (.tm (.str "cut")), mPure (.tm (.int 1)))])))) (mSeq (mSetIx 2 (mPure (.tm (.str "trade"))) (mPure (.tm (.int 2)))) (mSeq (mSetIx 2 (mPure (.tm (.str "edit"))) (mPure (.tm (.int 3)))) (mSeq (mSetIx 2 (mPure (.tm (.str "put"))) (mPure (.tm (.int 3)))) (mSeq (mIf (mTest (mLoc (fInK true) (mArgs [mName 1, mName 2]))) (mRet (ioSlots [false] 0) (mLst (mArgs []))) (mNx)) (mSeq (mSet 3 (mCall (r_law_cut_at) [false, false] (mArgs [mName 0, mLoc fIxK (mArgs [mName 2, mName 1])]))) (mSeq (mIf (mTest (mLoc fNe (mArgs [mLoc fLen (mArgs [mName 3]), mLoc fAdd (mArgs [mPure (.tm (.int 1)), mLoc fIxK (mArgs [mName 2, mName 1])])]))) (mRet (ioSlots [false] 0) (mLst (mArgs []))) (mNx)) (mSeq (mIf (mTest (mLoc (fIn false) (mArgs [mName 1, mTup (mArgs [mPure (.tm (.str "text")), mPure (.tm (.str "spare")), mPure (.tm (.str "mend"))])]))) (mRet (ioSlots [false] 0) (mLst (mArgs [mLoc fTupleOf (mArgs [mName 3])]))) (mNx)) (mSeq (mIf (mTest (mLoc (fIn false) (mArgs [mName 1, mTup (mArgs [mPure (.tm (.str "fuller")), mPure (.tm (.str "lesser")), mPure (.tm (.str "forbid"))])]))) (mRet (ioSlots [false] 0) (mLoc fMul (mArgs [mLst (mArgs [mLoc fTupleOf (mArgs [mName 3])]), mLoc fInt (mArgs [mCall (r_law_is_named) [false] (mArgs [mLoc fIx (mArgs [mName 3, mPure (.tm (.int 1))])])])]))) (mNx)) (mSeq (mIf (mTest (mLoc fEq (mArgs [mName 1, mPure (.tm (.str "edit"))]))) (mSeq (mSet 4 (mCall (r_law_digits) [false] (mArgs [mLoc fIx (mArgs [mName 3, mPure (.tm (.int 1))])]))) (mSeq (mSet 5 (mCall (r_law_digits) [false] (mArgs [mLoc fIx (mArgs [mName 3, mPure (.tm (.int 2))])]))) (mRet (ioSlots [false] 0) (mLoc fMul (mArgs [mLst (mArgs [mTup (mArgs [mName 1, mName 4, mName 5, mLoc fIx (mArgs [mName 3, mPure (.tm (.int 3))])])]), mLoc fInt (mArgs [mBoolV (mAnd (mTest (mLoc (fCmpI fun i j => decide (j ≤ i)) (mArgs [mName 4, mPure (.tm (.int 0))]))) (mTest (mLoc (fCmpI fun i j => decide (j ≤ i)) (mArgs [mName 5, mPure (.tm (.int 0))]))))])]))))) (mNx)) (mSeq (mSet 6 (mCall (r_law_spots) [false] (mArgs [mLoc fIx (mArgs [mName 3, mPure (.tm (.int 1))])]))) (mSeq (mIf (mTest (mLoc fEq (mArgs [mName 1, mPure (.tm (.str "cut"))]))) (mRet (ioSlots [false] 0) (mLc [7] (mIter (mName 6)) (gNm 7) (mPure true) (mTup (mArgs [mName 1, mName 7])))) (mNx)) (mSeq (mIf (mTest (mLoc fEq (mArgs [mName 1, mPure (.tm (.str "trade"))]))) (mRet (ioSlots [false] 0) (mLc [7] (mIter (mName 6)) (gNm 7) (mPure true) (mTup (mArgs [mName 1, mName 7, mLoc fIx (mArgs [mName 3, mPure (.tm (.int 2))])])))) (mNx)) (mSeq (mSet 8 (mCall (r_law_digits) [false] (mArgs [mLoc fIx (mArgs [mName 3, mPure (.tm (.int 2))])]))) (mRet (ioSlots [false] 0) (mLc [7] (mIter (mName 6)) (gNm 7) (mTest (mLoc (fCmpI fun i j => decide (j ≤ i)) (mArgs [mName 8, mPure (.tm (.int 0))]))) (mTup (mArgs [mName 1, mName 7, mName 8, mLoc fIx (mArgs [mName 3, mPure (.tm (.int 3))])])))))))))))))))))))
def r_law_read : List D → Ret := mDef 9 [false] m_law_read
theorem w_law_read (T : Tx K mg cl ad) : DOk P w K mg base (L2.CX P w) 4 "_law_read" cl r_law_read [false] := DOk.def (N := N_law_read) T.a_law_read sc_law_read rfl rfl fun f cdv A outer s H E hr => by
  exact (dpss_cons (dps_if (pw_pt (dpw_or (dpt_cmp (op_eqA hr.units) lo_eq (dpv 0) dpe_str) (dpw_or1 (dpt_cmp (op_eqA hr.units) lo_eq (dpv 0) dpe_str)))) (dpss_one (dps_ret (dpe_lst (dpa_cons (dpe_tup (dpa_cons (dpv 0) dpa_nil)) dpa_nil)))) dpss_nil) (dpss_cons (dps_set (i := 1) sc_law_read.nd rfl (by first | exact Or.inl rfl | exact Or.inr rfl) rfl (dpe_ix (dpe_call (w_law_cut_at T) (hr.mono (by decide)) (takes_of rfl rfl rfl rfl) (dpa_cons (dpv 0) (dpa_cons dpe_int dpa_nil))) dpe_int)) (dpss_cons (dps_set (i := 2) sc_law_read.nd rfl (by first | exact Or.inl rfl | exact Or.inr rfl) rfl (dpe_disp (ms := [(mPure (.tm (.str "text")), mPure (.tm (.int 1))), (mPure (.tm (.str "spare")), mPure (.tm (.int 1))), (mPure (.tm (.str "mend")), mPure (.tm (.int 1))), (mPure (.tm (.str "fuller")), mPure (.tm (.int 1))), (mPure (.tm (.str "lesser")), mPure (.tm (.int 1))), (mPure (.tm (.str "forbid")), mPure (.tm (.int 1))), (mPure (.tm (.str "cut")), mPure (.tm (.int 1)))]) (dpps_cons dpe_str dpe_int (dpps_cons dpe_str dpe_int (dpps_cons dpe_str dpe_int (dpps_cons dpe_str dpe_int (dpps_cons dpe_str dpe_int (dpps_cons dpe_str dpe_int (dpps_cons dpe_str dpe_int dpps_nil))))))))) (dpss_cons (dps_setIx (i := 2) (hu_of hr) rfl (by first | exact Or.inl rfl | exact Or.inr (Or.inl rfl)) dpe_str dpe_int) (dpss_cons (dps_setIx (i := 2) (hu_of hr) rfl (by first | exact Or.inl rfl | exact Or.inr (Or.inl rfl)) dpe_str dpe_int) (dpss_cons (dps_setIx (i := 2) (hu_of hr) rfl (by first | exact Or.inl rfl | exact Or.inr (Or.inl rfl)) dpe_str dpe_int) (dpss_cons (dps_if (dpt_notInK (hu_of hr) (dpv 1) (dpv 2)) (dpss_one (dps_ret (dpe_lst dpa_nil))) dpss_nil) (dpss_cons (dps_set (i := 3) sc_law_read.nd rfl (by first | exact Or.inl rfl | exact Or.inr rfl) rfl (dpe_call (w_law_cut_at T) (hr.mono (by decide)) (takes_of rfl rfl rfl rfl) (dpa_cons (dpv 0) (dpa_cons (dpe_ixK (hu_of hr) (dpv 2) (dpv 1)) dpa_nil)))) (dpss_cons (dps_if (dpt_cmp (op_neA hr.units) lo_ne (dpe_callB call_len lo_len T.b_len (by decide +kernel) (dpa_cons (dpv 3) dpa_nil)) (dpe_op op_addAll lo_add dpe_int (dpe_ixK (hu_of hr) (dpv 2) (dpv 1)))) (dpss_one (dps_ret (dpe_lst dpa_nil))) dpss_nil) (dpss_cons (dps_if (dpt_cmp (op_inA (hu65 hr)) (lo_in false) (dpv 1) (dpe_tup (dpa_cons dpe_str (dpa_cons dpe_str (dpa_cons dpe_str dpa_nil))))) (dpss_one (dps_ret (dpe_lst (dpa_cons (dpe_callTy call_tuple_of lo_tupleOf T.b_tuple (by decide +kernel) (dpa_cons (dpv 3) dpa_nil)) dpa_nil)))) dpss_nil) (dpss_cons (dps_if (dpt_cmp (op_inA (hu65 hr)) (lo_in false) (dpv 1) (dpe_tup (dpa_cons dpe_str (dpa_cons dpe_str (dpa_cons dpe_str dpa_nil))))) (dpss_one (dps_ret (dpe_op op_mulAll lo_mul (dpe_lst (dpa_cons (dpe_callTy call_tuple_of lo_tupleOf T.b_tuple (by decide +kernel) (dpa_cons (dpv 3) dpa_nil)) dpa_nil)) (dpe_callTy call_intAll lo_int T.b_int (by decide +kernel) (dpa_cons (dpe_call (w_law_is_named T) (hr.mono (by decide)) (takes_of rfl rfl rfl rfl) (dpa_cons (dpe_ix (dpv 3) dpe_int) dpa_nil)) dpa_nil))))) dpss_nil) (dpss_cons (dps_if (dpt_cmp (op_eqA hr.units) lo_eq (dpv 1) dpe_str) (dpss_cons (dps_set (i := 4) sc_law_read.nd rfl (by first | exact Or.inl rfl | exact Or.inr rfl) rfl (dpe_call (w_law_digits T) (hr.mono (by decide)) (takes_of rfl rfl rfl rfl) (dpa_cons (dpe_ix (dpv 3) dpe_int) dpa_nil))) (dpss_cons (dps_set (i := 5) sc_law_read.nd rfl (by first | exact Or.inl rfl | exact Or.inr rfl) rfl (dpe_call (w_law_digits T) (hr.mono (by decide)) (takes_of rfl rfl rfl rfl) (dpa_cons (dpe_ix (dpv 3) dpe_int) dpa_nil))) (dpss_one (dps_ret (dpe_op op_mulAll lo_mul (dpe_lst (dpa_cons (dpe_tup (dpa_cons (dpv 1) (dpa_cons (dpv 4) (dpa_cons (dpv 5) (dpa_cons (dpe_ix (dpv 3) dpe_int) dpa_nil))))) dpa_nil)) (dpe_callTy call_intAll lo_int T.b_int (by decide +kernel) (dpa_cons (dpe_and (dpe_cmp op_ge (lo_cmpI fun i j => decide (j ≤ i)) (dpv 4) dpe_int) (dpe_one (dpe_cmp op_ge (lo_cmpI fun i j => decide (j ≤ i)) (dpv 5) dpe_int))) dpa_nil))))))) dpss_nil) (dpss_cons (dps_set (i := 6) sc_law_read.nd rfl (by first | exact Or.inl rfl | exact Or.inr rfl) rfl (dpe_call (w_law_spots T) (hr.mono (by decide)) (takes_of rfl rfl rfl rfl) (dpa_cons (dpe_ix (dpv 3) dpe_int) dpa_nil))) (dpss_cons (dps_if (dpt_cmp (op_eqA hr.units) lo_eq (dpv 1) dpe_str) (dpss_one (dps_ret (dpe_lc (own := [("spot", 7)]) 9 rfl rfl sc_law_read.nd (dpi_any (dpv 6)) (blkOk_by (N := N_law_read) (sc := defScope s_law_read) (own := [("spot", 7)]) (by decide +kernel)) (by decide) (fun _ _ _ _ _ => (dpg_name (i := 7) sc_law_read.nd rfl (by first | exact Or.inl rfl | exact Or.inr rfl) rfl)) (fun _ _ _ _ _ => dpts_nil) (fun _ _ _ _ _ => (dpe_tup (dpa_cons (dpv 1) (dpa_cons (dpv 7) dpa_nil))))))) dpss_nil) (dpss_cons (dps_if (dpt_cmp (op_eqA hr.units) lo_eq (dpv 1) dpe_str) (dpss_one (dps_ret (dpe_lc (own := [("spot", 7)]) 9 rfl rfl sc_law_read.nd (dpi_any (dpv 6)) (blkOk_by (N := N_law_read) (sc := defScope s_law_read) (own := [("spot", 7)]) (by decide +kernel)) (by decide) (fun _ _ _ _ _ => (dpg_name (i := 7) sc_law_read.nd rfl (by first | exact Or.inl rfl | exact Or.inr rfl) rfl)) (fun _ _ _ _ _ => dpts_nil) (fun _ _ _ _ _ => (dpe_tup (dpa_cons (dpv 1) (dpa_cons (dpv 7) (dpa_cons (dpe_ix (dpv 3) dpe_int) dpa_nil)))))))) dpss_nil) (dpss_cons (dps_set (i := 8) sc_law_read.nd rfl (by first | exact Or.inl rfl | exact Or.inr rfl) rfl (dpe_call (w_law_digits T) (hr.mono (by decide)) (takes_of rfl rfl rfl rfl) (dpa_cons (dpe_ix (dpv 3) dpe_int) dpa_nil))) (dpss_one (dps_ret (dpe_lc (own := [("spot", 7)]) 9 rfl rfl sc_law_read.nd (dpi_any (dpv 6)) (blkOk_by (N := N_law_read) (sc := defScope s_law_read) (own := [("spot", 7)]) (by decide +kernel)) (by decide) (fun _ _ _ _ _ => (dpg_name (i := 7) sc_law_read.nd rfl (by first | exact Or.inl rfl | exact Or.inr rfl) rfl)) (fun _ _ _ _ _ => (dpts_one (dpt_cmp op_ge (lo_cmpI fun i j => decide (j ≤ i)) (dpv 8) dpe_int))) (fun _ _ _ _ _ => (dpe_tup (dpa_cons (dpv 1) (dpa_cons (dpv 7) (dpa_cons (dpv 8) (dpa_cons (dpe_ix (dpv 3) dpe_int) dpa_nil)))))))))))))))))))))))))
/-! _law_no_line: 0 store, 1 name, 2 odd -/
abbrev s_law_no_line : Stmt := top 42
def N_law_no_line : List Str := ["store", "name", "odd"]
theorem sc_law_no_line : L2.FnScope N_law_no_line ["store"] (defScope s_law_no_line) := ⟨rfl, rfl, rfl, by decide +kernel, rfl, by decide +kernel, by decide +kernel⟩
def m_law_no_line : MS := mSeq (mSet 1 (mLoc fAdd (mArgs [mPure (.tm (.str "q")), mSl (mCall (r_law_name) [true] (mArgs [mName 0])) mNoP (mPart (mPure (.tm (.int 11))))]))) (mSeq (mSet 2 (mLst (mArgs [mPure (.tm (.str "")), mPure (.tm (.str " ")), mPure (.tm (.str "text")), mPure (.tm (.str "Text ")), mPure (.tm (.str " text <a>")), mPure (.tm (.str "texts <a>")), mPure (.tm (.str "edit 0 0")), mPure (.tm (.str "edit 0 ")), mPure (.tm (.str "edit 0 01 ")), mPure (.tm (.str "edit 00 0 "))]))) (mSeq (mSet 2 (mLoc fAdd (mArgs [mName 2, mLst (mArgs [mPure (.tm (.str "edit 0 0<a>")), mPure (.tm (.str "edit  0 0 <a>")), mPure (.tm (.str "edit -1 0 <a>")), mPure (.tm (.str "edit 0 10000 ")), mPure (.tm (.str "edit 0 a ")), mPure (.tm (.str "edit 0  0 "))])]))) (mSeq (mSet 2 (mLoc fAdd (mArgs [mName 2, mLst (mArgs [mPure (.tm (.str "put - 0")), mPure (.tm (.str "put 0")), mLoc fAdd (mArgs [mPure (.tm (.str "put - 0")), mName 1]), mPure (.tm (.str "put  0 a")), mPure (.tm (.str "put -- 0 a")), mPure (.tm (.str "put 0. 0 a")), mPure (.tm (.str "put 00 0 a"))])]))) (mSeq (mSet 2 (mLoc fAdd (mArgs [mName 2, mLst (mArgs [mPure (.tm (.str "put - 00 a")), mPure (.tm (.str "put - 10000 a")), mPure (.tm (.str "put () 0 a")), mPure (.tm (.str "put - -1 a")), mPure (.tm (.str "cut")), mPure (.tm (.str "cut ")), mPure (.tm (.str "cut 0 ")), mPure (.tm (.str "cut 0 0"))])]))) (mSeq (mSet 2 (mLoc fAdd (mArgs [mName 2, mLst (mArgs [mPure (.tm (.str "cut a")), mPure (.tm (.str "cut .0")), mPure (.tm (.str "cut 10000")), mPure (.tm (.str "cut 01")), mPure (.tm (.str "cut -\n")), mPure (.tm (.str "trade")), mPure (.tm (.str "trade -")), mPure (.tm (.str "trade 0")), mPure (.tm (.str "trade 0..1 a"))])]))) (mSeq (mSet 2 (mLoc fAdd (mArgs [mName 2, mLst (mArgs [mPure (.tm (.str "spare")), mPure (.tm (.str "mend")), mPure (.tm (.str "fuller")), mPure (.tm (.str "fuller ")), mLoc fAdd (mArgs [mLoc fAdd (mArgs [mPure (.tm (.str "fuller ")), mName 1]), mPure (.tm (.str " "))]), mLoc fAdd (mArgs [mPure (.tm (.str "fuller  ")), mName 1]), mPure (.tm (.str "fuller A"))])]))) (mSeq (mSet 2 (mLoc fAdd (mArgs [mName 2, mLst (mArgs [mPure (.tm (.str "lesser")), mLoc fAdd (mArgs [mPure (.tm (.str "fuller ")), mLoc fMul (mArgs [mPure (.tm (.str "a")), mPure (.tm (.int 13))])]), mPure (.tm (.str "lesser ==")), mLoc fAdd (mArgs [mLoc fAdd (mArgs [mPure (.tm (.str "lesser ")), mName 1]), mPure (.tm (.str "\n"))]), mPure (.tm (.str "cure ")), mPure (.tm (.str " cure"))])]))) (mSeq (mSet 2 (mLoc fAdd (mArgs [mName 2, mLst (mArgs [mLoc fAdd (mArgs [mPure (.tm (.str "cure ")), mName 1]), mPure (.tm (.str "Cure")), mPure (.tm (.str "cure\n")), mPure (.tm (.str "forbid")), mLoc fAdd (mArgs [mLoc fAdd (mArgs [mLoc fAdd (mArgs [mPure (.tm (.str "forbid ")), mName 1]), mPure (.tm (.str " "))]), mName 1]), mPure (.tm (.str "undo ")), mPure (.tm (.str "undo 1"))])]))) (mSeq (mSet 2 (mLoc fAdd (mArgs [mName 2, mLstF (mArgs [mPure (.tm (.str "undo\n")), mPure (.tm (.str "redo")), mLoc fAdd (mArgs [mPure (.tm (.str "fuller\n")), mName 1]), mPure (.tm (.str "lesser 1")), mName 1, mPure (.tm .non), mPure (.tm (.bl true)), mPure (.tm (.int 0)), mTup (mArgs [mPure (.tm (.str "undo"))]), mLst (mArgs [mPure (.tm (.str "undo"))]), mPure (.tm (.dic true []))])]))) (mSeq (mSet 2 (mLoc fAdd (mArgs [mName 2, mLst (mArgs [mTup (mArgs [mPure (.tm (.str "text")), mPure (.tm (.str ""))]), mTup (mArgs []), mPure (.tm (.str "=")), mPure (.tm (.str "text\n<a>")), mPure (.tm (.str "edit 0 0\n")), mPure (.tm (.str "forbid ==")), mPure (.tm (.str "mend\n"))])]))) (mRet (ioSlots [true] 0) (mCall (r_law_pick) [true, false] (mArgs [mName 0, mName 2])))))))))))))
def r_law_no_line : List D → Ret := mDef 3 [true] m_law_no_line
theorem w_law_no_line (T : Tx K mg cl ad) : DOk P w K mg base (L2.CX P w) 6 "_law_no_line" cl r_law_no_line [true] := DOk.def (N := N_law_no_line) T.a_law_no_line sc_law_no_line rfl rfl fun f cdv A outer s H E hr => by
  exact (dpss_cons (dps_set (i := 1) sc_law_no_line.nd rfl (by first | exact Or.inl rfl | exact Or.inr rfl) rfl (dpe_op op_addAll lo_add dpe_str (dpe_sl01 (dpe_call (w_law_name T) (hr.mono (by decide)) (takes_of rfl rfl rfl rfl) (dpa_cons (dpv 0) dpa_nil)) dpe_int))) (dpss_cons (dps_set (i := 2) sc_law_no_line.nd rfl (by first | exact Or.inl rfl | exact Or.inr rfl) rfl (dpe_lst (dpa_cons dpe_str (dpa_cons dpe_str (dpa_cons dpe_str (dpa_cons dpe_str (dpa_cons dpe_str (dpa_cons dpe_str (dpa_cons dpe_str (dpa_cons dpe_str (dpa_cons dpe_str (dpa_cons dpe_str dpa_nil)))))))))))) (dpss_cons (dps_set (i := 2) sc_law_no_line.nd rfl (by first | exact Or.inl rfl | exact Or.inr rfl) rfl (dpe_op op_addAll lo_add (dpv 2) (dpe_lst (dpa_cons dpe_str (dpa_cons dpe_str (dpa_cons dpe_str (dpa_cons dpe_str (dpa_cons dpe_str (dpa_cons dpe_str dpa_nil))))))))) (dpss_cons (dps_set (i := 2) sc_law_no_line.nd rfl (by first | exact Or.inl rfl | exact Or.inr rfl) rfl (dpe_op op_addAll lo_add (dpv 2) (dpe_lst (dpa_cons dpe_str (dpa_cons dpe_str (dpa_cons (dpe_op op_addAll lo_add dpe_str (dpv 1)) (dpa_cons dpe_str (dpa_cons dpe_str (dpa_cons dpe_str (dpa_cons dpe_str dpa_nil)))))))))) (dpss_cons (dps_set (i := 2) sc_law_no_line.nd rfl (by first | exact Or.inl rfl | exact Or.inr rfl) rfl (dpe_op op_addAll lo_add (dpv 2) (dpe_lst (dpa_cons dpe_str (dpa_cons dpe_str (dpa_cons dpe_str (dpa_cons dpe_str (dpa_cons dpe_str (dpa_cons dpe_str (dpa_cons dpe_str (dpa_cons dpe_str dpa_nil))))))))))) (dpss_cons (dps_set (i := 2) sc_law_no_line.nd rfl (by first | exact Or.inl rfl | exact Or.inr rfl) rfl (dpe_op op_addAll lo_add (dpv 2) (dpe_lst (dpa_cons dpe_str (dpa_cons dpe_str (dpa_cons dpe_str (dpa_cons dpe_str (dpa_cons dpe_str (dpa_cons dpe_str (dpa_cons dpe_str (dpa_cons dpe_str (dpa_cons dpe_str dpa_nil)))))))))))) (dpss_cons (dps_set (i := 2) sc_law_no_line.nd rfl (by first | exact Or.inl rfl | exact Or.inr rfl) rfl (dpe_op op_addAll lo_add (dpv 2) (dpe_lst (dpa_cons dpe_str (dpa_cons dpe_str (dpa_cons dpe_str (dpa_cons dpe_str (dpa_cons (dpe_op op_addAll lo_add (dpe_op op_addAll lo_add dpe_str (dpv 1)) dpe_str) (dpa_cons (dpe_op op_addAll lo_add dpe_str (dpv 1)) (dpa_cons dpe_str dpa_nil)))))))))) (dpss_cons (dps_set (i := 2) sc_law_no_line.nd rfl (by first | exact Or.inl rfl | exact Or.inr rfl) rfl (dpe_op op_addAll lo_add (dpv 2) (dpe_lst (dpa_cons dpe_str (dpa_cons (dpe_op op_addAll lo_add dpe_str (dpe_op op_mulAll lo_mul dpe_str dpe_int)) (dpa_cons dpe_str (dpa_cons (dpe_op op_addAll lo_add (dpe_op op_addAll lo_add dpe_str (dpv 1)) dpe_str) (dpa_cons dpe_str (dpa_cons dpe_str dpa_nil))))))))) (dpss_cons (dps_set (i := 2) sc_law_no_line.nd rfl (by first | exact Or.inl rfl | exact Or.inr rfl) rfl (dpe_op op_addAll lo_add (dpv 2) (dpe_lst (dpa_cons (dpe_op op_addAll lo_add dpe_str (dpv 1)) (dpa_cons dpe_str (dpa_cons dpe_str (dpa_cons dpe_str (dpa_cons (dpe_op op_addAll lo_add (dpe_op op_addAll lo_add (dpe_op op_addAll lo_add dpe_str (dpv 1)) dpe_str) (dpv 1)) (dpa_cons dpe_str (dpa_cons dpe_str dpa_nil)))))))))) (dpss_cons (dps_set (i := 2) sc_law_no_line.nd rfl (by first | exact Or.inl rfl | exact Or.inr rfl) rfl (dpe_op op_addAll lo_add (dpv 2) (dpe_lstF (dpa_cons dpe_str (dpa_cons dpe_str (dpa_cons (dpe_op op_addAll lo_add dpe_str (dpv 1)) (dpa_cons dpe_str (dpa_cons (dpv 1) (dpa_cons dpe_non (dpa_cons dpe_bl (dpa_cons dpe_int (dpa_cons (dpe_tup (dpa_cons dpe_str dpa_nil)) (dpa_cons (dpe_lst (dpa_cons dpe_str dpa_nil)) (dpa_cons dpe_dict0 dpa_nil)))))))))))))) (dpss_cons (dps_set (i := 2) sc_law_no_line.nd rfl (by first | exact Or.inl rfl | exact Or.inr rfl) rfl (dpe_op op_addAll lo_add (dpv 2) (dpe_lst (dpa_cons (dpe_tup (dpa_cons dpe_str (dpa_cons dpe_str dpa_nil))) (dpa_cons (dpe_tup dpa_nil) (dpa_cons dpe_str (dpa_cons dpe_str (dpa_cons dpe_str (dpa_cons dpe_str (dpa_cons dpe_str dpa_nil)))))))))) (dpss_one (dps_ret (dpe_call (w_law_pick T) (hr.mono (by decide)) (takes_of rfl rfl rfl rfl) (dpa_cons (dpv 0) (dpa_cons (dpv 2) dpa_nil))))))))))))))))
/-! law: 0 script, 1 store, 2 lines, 3 word, 4 line, 5 short, 6 turn -/
abbrev s_law : Stmt := top 52
def N_law : List Str := ["script", "store", "lines", "word", "line", "short", "turn"]
theorem sc_law : L2.FnScope N_law ["script"] (defScope s_law) := ⟨rfl, rfl, rfl, by decide +kernel, rfl, by decide +kernel, by decide +kernel⟩
def m_law : MS := mSeq (mSet 1 (mCall (r_law_store) [false] (mArgs [mName 0]))) (mSeq (mSet 2 (mLst (mArgs []))) (mSeq (mFor (mIter (mLst (mArgs [mPure (.tm (.str "text")), mPure (.tm (.str "edit")), mPure (.tm (.str "put")), mPure (.tm (.str "cut")), mPure (.tm (.str "trade")), mPure (.tm (.str "spare")), mPure (.tm (.str "mend")), mPure (.tm (.str "fuller")), mPure (.tm (.str "lesser")), mPure (.tm (.str "cure")), mPure (.tm (.str "forbid")), mPure (.tm (.str "undo"))]))) (gNm 3) (mSeq (mSet 4 (mCall (r_law_line) [true, false] (mArgs [mName 1, mName 3]))) (mSeq (mApp 2 (mName 4)) (mSeq (mSet 5 (mLoc fAdd (mArgs [mSl (mName 4) mNoP (mPart (mPure (.tm (.int 14)))), mLoc fMul (mArgs [mPure (.tm (.str ".")), mLoc fInt (mArgs [mLoc (fCmpI fun i j => decide (j < i)) (mArgs [mLoc fLen (mArgs [mName 4]), mPure (.tm (.int 14))])])])]))) (mSeq (mApp 2 (mCall (r_law_bent_string) [true, false] (mArgs [mName 1, mName 4]))) (mApp 2 (mCall (r_law_bent_string) [true, false] (mArgs [mName 1, mName 5])))))))) (mSeq (mFor (mIter (mLoc fAdd (mArgs [mName 2, mSl (mName 2) mNoP (mPart (mPure (.tm (.int 1))))]))) (gNm 4) (mIf (mNot (mTruth (mCall (r_law_fine) [false, false] (mArgs [mName 4, mCall (r_law_read) [false] (mArgs [mName 4])])))) (mRet (ioSlots [false] 0) (mPure (.tm (.bl false)))) (mNx))) (mSeq (mFor (mRng1 (mPure (.tm (.int 6)))) (gNm 6) (mIf (mNot (mTruth (mCall (r_law_fine) [false, false] (mArgs [mCall (r_law_no_line) [true] (mArgs [mName 1]), mLst (mArgs [])])))) (mRet (ioSlots [false] 0) (mPure (.tm (.bl false)))) (mNx))) (mSeq (mFor (mRng1 (mPure (.tm (.int 4)))) (gNm 6) (mSeq (mSet 4 (mCall (r_law_pick) [true, false] (mArgs [mName 1, mName 2]))) (mIf (mNot (mTruth (mCall (r_law_fine) [false, false] (mArgs [mCall (r_law_pick) [true, false] (mArgs [mName 1, mLstF (mArgs [mTup (mArgs [mName 4]), mLst (mArgs [mName 4]), mPure (.tm .non), mPure (.tm (.int 0)), mPure (.tm (.bl true)), mLoc fDisp (mArgs (flatM [(mName 4, mName 4)])), mTup (mArgs [mPure (.tm (.str "text")), mName 4])])]), mLst (mArgs [])])))) (mRet (ioSlots [false] 0) (mPure (.tm (.bl false)))) (mNx)))) (mRet (ioSlots [false] 0) (mPure (.tm (.bl true)))))))))
def r_law : List D → Ret := mDef 7 [false] m_law
theorem wb_law (T : Tx K mg cl ad) {f : Addr} {cdv : Value} {A : Around} {outer : List Env} {s : Shared} {H : Hp} {E : XK} (hr : Room 9 (A.deeper (envOfC "law" (defScope s_law) s.heap.objs.size f cdv))) :
    PSs (cxOf (L2.CX P w) P w K mg base N_law "law" (defScope s_law) f cdv A outer s H E) (defBody s_law) (TSm K cl (Wb E) (ioSlots [false] 0) m_law) := (dpss_cons (dps_set (i := 1) sc_law.nd rfl (by first | exact Or.inl rfl | exact Or.inr rfl) rfl (dpe_call (w_law_store T) (hr.mono (by decide)) (takes_of rfl rfl rfl rfl) (dpa_cons (dpv 0) dpa_nil))) (dpss_cons (dps_set (i := 2) sc_law.nd rfl (by first | exact Or.inl rfl | exact Or.inr rfl) rfl (dpe_lst dpa_nil)) (dpss_cons (dps_for PassesOwn.leaving rfl (dpi_any (dpe_lst (dpa_cons dpe_str (dpa_cons dpe_str (dpa_cons dpe_str (dpa_cons dpe_str (dpa_cons dpe_str (dpa_cons dpe_str (dpa_cons dpe_str (dpa_cons dpe_str (dpa_cons dpe_str (dpa_cons dpe_str (dpa_cons dpe_str (dpa_cons dpe_str dpa_nil)))))))))))))) (dpg_name (i := 3) sc_law.nd rfl (by first | exact Or.inl rfl | exact Or.inr rfl) rfl) (dpss_cons (dps_set (i := 4) sc_law.nd rfl (by first | exact Or.inl rfl | exact Or.inr rfl) rfl (dpe_call (w_law_line T) (hr.mono (by decide)) (takes_of rfl rfl rfl rfl) (dpa_cons (dpv 1) (dpa_cons (dpv 3) dpa_nil)))) (dpss_cons (dps_app (i := 2) rfl (by first | exact Or.inl rfl | exact Or.inr (Or.inl rfl)) (dpv 4)) (dpss_cons (dps_set (i := 5) sc_law.nd rfl (by first | exact Or.inl rfl | exact Or.inr rfl) rfl (dpe_op op_addAll lo_add (dpe_sl01 (dpv 4) dpe_int) (dpe_op op_mulAll lo_mul dpe_str (dpe_callTy call_intAll lo_int T.b_int (by decide +kernel) (dpa_cons (dpe_cmp op_gt (lo_cmpI fun i j => decide (j < i)) (dpe_callB call_len lo_len T.b_len (by decide +kernel) (dpa_cons (dpv 4) dpa_nil)) dpe_int) dpa_nil))))) (dpss_cons (dps_app (i := 2) rfl (by first | exact Or.inl rfl | exact Or.inr (Or.inl rfl)) (dpe_call (w_law_bent_string T) (hr.mono (by decide)) (takes_of rfl rfl rfl rfl) (dpa_cons (dpv 1) (dpa_cons (dpv 4) dpa_nil)))) (dpss_one (dps_app (i := 2) rfl (by first | exact Or.inl rfl | exact Or.inr (Or.inl rfl)) (dpe_call (w_law_bent_string T) (hr.mono (by decide)) (takes_of rfl rfl rfl rfl) (dpa_cons (dpv 1) (dpa_cons (dpv 5) dpa_nil)))))))))) (dpss_cons (dps_for PassesOwn.leaving rfl (dpi_any (dpe_op op_addAll lo_add (dpv 2) (dpe_sl01 (dpv 2) dpe_int))) (dpg_name (i := 4) sc_law.nd rfl (by first | exact Or.inl rfl | exact Or.inr rfl) rfl) (dpss_one (dps_if (dpt_not (dpt_truth (dpe_call (w_law_fine T) (hr.mono (by decide)) (takes_of rfl rfl rfl rfl) (dpa_cons (dpv 4) (dpa_cons (dpe_call (w_law_read T) (hr.mono (by decide)) (takes_of rfl rfl rfl rfl) (dpa_cons (dpv 4) dpa_nil)) dpa_nil))))) (dpss_one (dps_ret dpe_bl)) dpss_nil))) (dpss_cons (dps_for PassesOwn.leaving rfl (dpi_range1 T.b_range dpe_int) (dpg_name (i := 6) sc_law.nd rfl (by first | exact Or.inl rfl | exact Or.inr rfl) rfl) (dpss_one (dps_if (dpt_not (dpt_truth (dpe_call (w_law_fine T) (hr.mono (by decide)) (takes_of rfl rfl rfl rfl) (dpa_cons (dpe_call (w_law_no_line T) (hr.mono (by decide)) (takes_of rfl rfl rfl rfl) (dpa_cons (dpv 1) dpa_nil)) (dpa_cons (dpe_lst dpa_nil) dpa_nil))))) (dpss_one (dps_ret dpe_bl)) dpss_nil))) (dpss_cons (dps_for PassesOwn.leaving rfl (dpi_range1 T.b_range dpe_int) (dpg_name (i := 6) sc_law.nd rfl (by first | exact Or.inl rfl | exact Or.inr rfl) rfl) (dpss_cons (dps_set (i := 4) sc_law.nd rfl (by first | exact Or.inl rfl | exact Or.inr rfl) rfl (dpe_call (w_law_pick T) (hr.mono (by decide)) (takes_of rfl rfl rfl rfl) (dpa_cons (dpv 1) (dpa_cons (dpv 2) dpa_nil)))) (dpss_one (dps_if (dpt_not (dpt_truth (dpe_call (w_law_fine T) (hr.mono (by decide)) (takes_of rfl rfl rfl rfl) (dpa_cons (dpe_call (w_law_pick T) (hr.mono (by decide)) (takes_of rfl rfl rfl rfl) (dpa_cons (dpv 1) (dpa_cons (dpe_lstF (dpa_cons (dpe_tup (dpa_cons (dpv 4) dpa_nil)) (dpa_cons (dpe_lst (dpa_cons (dpv 4) dpa_nil)) (dpa_cons dpe_non (dpa_cons dpe_int (dpa_cons dpe_bl (dpa_cons (dpe_disp (ms := [(mName 4, mName 4)]) (dpps_cons (dpv 4) (dpv 4) dpps_nil)) (dpa_cons (dpe_tup (dpa_cons dpe_str (dpa_cons (dpv 4) dpa_nil))) dpa_nil)))))))) dpa_nil))) (dpa_cons (dpe_lst dpa_nil) dpa_nil))))) (dpss_one (dps_ret dpe_bl)) dpss_nil)))) (dpss_one (dps_ret dpe_bl))))))))
end
end Wk
namespace Wk
open PySem Dy L2
def mixI (n t : Int) : Int :=
  let low := n % 2147483647
  let high := n / 2147483647 % 1000003
  let one := (low * 48271 + high * 69621 + t * 16807 + 12345) % 2147483629
  let two := (one * one + low * 40014 + t * 7) % 2147483587
  (two * two + one * 39373 + t) % 2147483563
theorem mix_ok (n t : Int) (h1 : -(10 ^ 20) ≤ t) (h2 : t ≤ 10 ^ 20) : r_law_mix [.int n, .int t] = .ok (.int (mixI n t)) [] := by
  have a1 := Int.emod_nonneg n (by decide : (2147483647 : Int) ≠ 0)
  have a2 := Int.emod_lt_of_pos n (by decide : (0 : Int) < 2147483647)
  have b1 := Int.emod_nonneg (n / 2147483647) (by decide : (1000003 : Int) ≠ 0)
  have b2 := Int.emod_lt_of_pos (n / 2147483647) (by decide : (0 : Int) < 1000003)
  have f0 : fDiv [.int n, .int 2147483647] = some (.int (n / 2147483647)) := by
    show (if (0 : Int) < 2147483647 ∧ (2147483647 : Int) < 1073741824 then some (D.int (n / 2147483647)) else if (0 : Int) < 2147483647 ∧ (2147483647 : Int).natAbs.log2 < 9000 then some (D.int (n / 2147483647)) else none) = _
    rw [if_neg (by decide), if_pos ⟨by decide, by decide +kernel⟩]
  have f1 := mulI (i := n % 2147483647) (j := 48271) (small (by omega) (by omega)) (small (by decide) (by decide))
  have f2 := mulI (i := n / 2147483647 % 1000003) (j := 69621) (small (by omega) (by omega)) (small (by decide) (by decide))
  have f3 := mulI (i := t) (j := 16807) (small (by omega) (by omega)) (small (by decide) (by decide))
  have f4 := mulI (i := t) (j := 7) (small (by omega) (by omega)) (small (by decide) (by decide))
  have f5 := mulI (i := n % 2147483647) (j := 40014) (small (by omega) (by omega)) (small (by decide) (by decide))
  have c1 := Int.emod_nonneg (n % 2147483647 * 48271 + n / 2147483647 % 1000003 * 69621 + t * 16807 + 12345) (by decide : (2147483629 : Int) ≠ 0)
  have c2 := Int.emod_lt_of_pos (n % 2147483647 * 48271 + n / 2147483647 % 1000003 * 69621 + t * 16807 + 12345) (by decide : (0 : Int) < 2147483629)
  generalize hone : (n % 2147483647 * 48271 + n / 2147483647 % 1000003 * 69621 + t * 16807 + 12345) % 2147483629 = one at c1 c2
  have d1 := Int.emod_nonneg (one * one + n % 2147483647 * 40014 + t * 7) (by decide : (2147483587 : Int) ≠ 0)
  have d2 := Int.emod_lt_of_pos (one * one + n % 2147483647 * 40014 + t * 7) (by decide : (0 : Int) < 2147483587)
  generalize htwo : (one * one + n % 2147483647 * 40014 + t * 7) % 2147483587 = two at d1 d2
  have f6 := mulI (i := one) (j := one) (small (by omega) (by omega)) (small (by omega) (by omega))
  have f7 := mulI (i := one) (j := 39373) (small (by omega) (by omega)) (small (by decide) (by decide))
  have f8 := mulI (i := two) (j := two) (small (by omega) (by omega)) (small (by omega) (by omega))
  unfold r_law_mix m_law_mix
  simp [f0, f1, f2, f3, f4, f5, f6, f7, f8, hone, htwo, mixI]
theorem mixI_nn (n t : Int) : 0 ≤ mixI n t ∧ mixI n t < 2147483563 := ⟨Int.emod_nonneg _ (by decide), Int.emod_lt_of_pos _ (by decide)⟩
/-- the store: its cells, its five ints -/
def stoD (cells : List Int) (a b c k t : Int) : D := .lst true [.lst false (cells.map .int), .int a, .int b, .int c, .int k, .int t]
def Sto (n : Int) (d : D) : Prop := ∃ cells a b c k t, d = stoD cells a b c k t ∧ cells.length ≤ 63 ∧ 0 ≤ a ∧ 0 ≤ k ∧ k ≤ n ∧ 0 ≤ t ∧ t ≤ 10 ^ 10
theorem Sto.mono {n m : Int} {d : D} (h : Sto n d) (hm : n ≤ m) : Sto m d := by
  obtain ⟨cells, a, b, c, k, t, rfl, h1, h2, h3, h4, h5, h6⟩ := h
  exact ⟨cells, a, b, c, k, t, rfl, h1, h2, h3, by omega, h5, h6⟩
theorem cell_at {cells : List Int} {a : Int} (h0 : 0 ≤ a) (h1 : a < cells.length) : ∃ z, atI (cells.map D.int) a = some (.int z) := by
  have h2 : a.toNat < cells.length := by omega
  refine ⟨cells[a.toNat], ?_⟩
  rw [atI_nat h0 (by simpa using h1)]
  simp [h2]
theorem take_ok {n m : Int} {d : D} (h : Sto n d) (hn : n ≤ 10 ^ 19) (hm0 : m < 1073741824) : ∃ v d', r_law_take [d, .int m] = .ok (.int v) [d'] ∧ Sto (n + 1) d' ∧ 0 ≤ v ∧ (2 ≤ m → v < m) ∧ (m < 2 → v = 0) := by
  obtain ⟨cells, a, b, c, k, t, rfl, h1, h2, h3, h4, h5, h6⟩ := h
  unfold r_law_take m_law_take stoD
  by_cases hm : m < 2
  · refine ⟨0, stoD cells a b c k t, ?_, ⟨cells, a, b, c, k, t, rfl, h1, h2, h3, by omega, h5, h6⟩, by omega, by omega, fun _ => rfl⟩
    simp [hm, stoD]
  · have hm1 : 0 < m := by omega
    have i4 : ∀ (x0 x1 x2 x3 x4 x5 : D), atI [x0, x1, x2, x3, x4, x5] 4 = some x4 := fun _ _ _ _ _ _ => rfl
    have i0 : ∀ (x0 x1 x2 x3 x4 x5 : D), atI [x0, x1, x2, x3, x4, x5] 0 = some x0 := fun _ _ _ _ _ _ => rfl
    have i1 : ∀ (x0 x1 x2 x3 x4 x5 : D), atI [x0, x1, x2, x3, x4, x5] 1 = some x1 := fun _ _ _ _ _ _ => rfl
    have i2 : ∀ (x0 x1 x2 x3 x4 x5 : D), atI [x0, x1, x2, x3, x4, x5] 2 = some x2 := fun _ _ _ _ _ _ => rfl
    have i3 : ∀ (x0 x1 x2 x3 x4 x5 : D), atI [x0, x1, x2, x3, x4, x5] 3 = some x3 := fun _ _ _ _ _ _ => rfl
    have i5 : ∀ (x0 x1 x2 x3 x4 x5 : D), atI [x0, x1, x2, x3, x4, x5] 5 = some x5 := fun _ _ _ _ _ _ => rfl
    have j0 : ixN 6 0 = some 0 := rfl
    have j1 : ixN 6 1 = some 1 := rfl
    have j2 : ixN 6 2 = some 2 := rfl
    have j3 : ixN 6 3 = some 3 := rfl
    have j4 : ixN 6 4 = some 4 := rfl
    have hd : ∀ i : Int, fDiv [.int i, .int m] = some (.int (i / m)) := fun i => divI hm1 hm0
    have fin : ∀ (a b c v : Int), 0 ≤ a → 0 ≤ v → v < m → Sto (n + 1) (stoD cells a b c (k + 1) t) ∧ 0 ≤ v ∧ (2 ≤ m → v < m) ∧ (m < 2 → v = 0) := fun a b c v ha hv hv2 =>
      ⟨⟨cells, a, b, c, k + 1, t, rfl, h1, ha, by omega, by omega, h5, h6⟩, hv, fun _ => hv2, fun z => absurd z hm⟩
    have em : ∀ i : Int, 0 ≤ i % m ∧ i % m < m := fun i => ⟨Int.emod_nonneg i (by omega), Int.emod_lt_of_pos i hm1⟩
    by_cases c1 : b = 0 ∧ a < cells.length ∧ ∃ z, atI (cells.map D.int) a = some (.int z) ∧ 10 ^ 18 ≤ z
    · obtain ⟨rfl, c2, z, hz, c3⟩ := c1
      have c4 : 0 < z := by omega
      have c5 : 1000000000000000000 ≤ z := by omega
      refine ⟨z % m, stoD cells (a + 1) (z / m) c (k + 1) t, ?_, fin _ _ _ _ (by omega) (em z).1 (em z).2⟩
      simp [hm, hm1, i0, i1, i2, i3, i4, i5, j0, j1, j2, j3, j4, c2, hz, c3, c4, c5, hd, stoD]
    · have hmx : ∀ i : Int, r_law_mix [.int i, .int (k + 1)] = .ok (.int (mixI i (k + 1))) [] := fun i => mix_ok i (k + 1) (by omega) (by omega)
      by_cases hb0 : 0 < b
      · have hb : ¬ b = 0 := by omega
        refine ⟨b % m, stoD cells a (b / m) c (k + 1) t, ?_, fin _ _ _ _ h2 (em b).1 (em b).2⟩
        simp [hm, hm1, i0, i1, i2, i3, i4, i5, j0, j1, j2, j3, j4, hb, hb0, hd, stoD]
      · by_cases ha : a < cells.length
        · have ha' : ¬ (cells.length : Int) ≤ a := by omega
          obtain ⟨z, hz⟩ := cell_at h2 ha
          by_cases hc : c + 1 = 4
          · refine ⟨mixI z (k + 1) % m, stoD cells (a + 1) b 0 (k + 1) t, ?_, fin _ _ _ _ (by omega) (em _).1 (em _).2⟩
            by_cases hb : b = 0
            · have hz2 : ¬ 1000000000000000000 ≤ z := fun q => c1 ⟨hb, ha, z, hz, by omega⟩
              simp [hm, hm1, i0, i1, i2, i3, i4, i5, j0, j1, j2, j3, j4, hb, ha, ha', hz, hz2, hc, hmx, stoD]
            · simp [hm, hm1, i0, i1, i2, i3, i4, i5, j0, j1, j2, j3, j4, hb, hb0, ha, ha', hz, hc, hmx, stoD]
          · refine ⟨mixI z (k + 1) % m, stoD cells a b (c + 1) (k + 1) t, ?_, fin _ _ _ _ h2 (em _).1 (em _).2⟩
            by_cases hb : b = 0
            · have hz2 : ¬ 1000000000000000000 ≤ z := fun q => c1 ⟨hb, ha, z, hz, by omega⟩
              simp [hm, hm1, i0, i1, i2, i3, i4, i5, j0, j1, j2, j3, j4, hb, ha, ha', hz, hz2, hc, hmx, stoD]
            · simp [hm, hm1, i0, i1, i2, i3, i4, i5, j0, j1, j2, j3, j4, hb, hb0, ha, ha', hz, hc, hmx, stoD]
        · have ha' : (cells.length : Int) ≤ a := by omega
          refine ⟨mixI t (k + 1) % m, stoD cells a b c (k + 1) t, ?_, fin _ _ _ _ h2 (em _).1 (em _).2⟩
          by_cases hb : b = 0
          · simp [hm, hm1, i0, i1, i2, i3, i4, i5, j0, j1, j2, j3, j4, hb, ha, ha', hmx, stoD]
          · simp [hm, hm1, i0, i1, i2, i3, i4, i5, j0, j1, j2, j3, j4, hb, hb0, ha, ha', hmx, stoD]
/-- the store that the script makes -/
theorem store_ok (ns : List Int) (h : ns.length ≤ 63) : ∃ d, r_law_store [.lok (ns.map .int)] = .ok d [] ∧ Sto 0 d := by
  have hc : cutD (ns.map D.int) none (some 63) = ns.map D.int := cutD_all (n := 63) (by simpa using h)
  have hl : lcGo [2] (gNm 2) (mPure true) (mLoc fInt (mArgs [mName 2])) (ns.map D.int) [] [some (.lok (ns.map D.int)), none, none, none] = .ok (ns.map D.int) [some (.lok (ns.map D.int)), none, none, none] := by
    have := lcGo_pure (vs := [2]) (g := gNm 2) (tt := mPure true) (te := mLoc fInt (mArgs [mName 2])) (e := [some (.lok (ns.map D.int)), none, none, none]) (fun _ => true) (fun d => d) (ds := ns.map D.int) (acc := []) (by simp; omega) (fun d hd => by
      obtain ⟨n, _, rfl⟩ := List.mem_map.mp hd
      refine ⟨[some (.lok (ns.map D.int)), none, some (.int n), none], _, by simp, rfl, (fun q => nomatch q), fun _ => ⟨.tm (.int n), [some (.lok (ns.map D.int)), none, some (.int n), none], [some (.lok (ns.map D.int)), none, some (.int n), none], by simp, by simp, by simp⟩⟩)
    rw [this]
    have : (List.map D.int ns).filter (fun _ => true) = List.map D.int ns := List.filter_eq_self.mpr fun _ _ => rfl
    rw [this]
    simp
  have hf := forGo_inv (g := gNm 2) (body := mSet 3 (mCall r_law_mix [false, false] (mArgs [mName 2, mName 3])))
    (fun _ e => ∃ (x : Option D) (t : Int), e = [some (.lok (ns.map D.int)), some (.lst false (ns.map D.int)), x, some (.int t)] ∧ 0 ≤ t ∧ t ≤ 10 ^ 10) (ds := ns.map D.int) (k := 0) (e := [some (.lok (ns.map D.int)), some (.lst false (ns.map D.int)), none, some (.int ns.length)])
    (fun i d e hd hI => by
      obtain ⟨x, t, rfl, h1, h2⟩ := hI
      obtain ⟨n, rfl⟩ : ∃ n, d = .int n := by
        rw [List.getElem?_map] at hd
        cases q : ns[i]? with
        | none => rw [q] at hd; cases hd
        | some n => rw [q] at hd; cases hd; exact ⟨n, rfl⟩
      have hm := mix_ok n t (by omega) (by omega)
      have hn := mixI_nn n t
      refine ⟨[some (.lok (ns.map D.int)), some (.lst false (ns.map D.int)), some (.int n), some (.int t)], .nx, [some (.lok (ns.map D.int)), some (.lst false (ns.map D.int)), some (.int n), some (.int (mixI n t))], by simp, by simp [hm], .inl rfl, _, _, rfl, hn.1, by omega⟩)
    ⟨none, ns.length, rfl, by omega, by omega⟩
  obtain ⟨e', hf1, x, t, rfl, ht1, ht2⟩ := hf
  refine ⟨stoD ns 0 0 0 0 t, ?_, ⟨ns, 0, 0, 0, 0, t, rfl, h, by omega, by omega, by omega, ht1, ht2⟩⟩
  unfold r_law_store m_law_store
  simp [hc, hl, hf1, stoD]
theorem pick_ok {n : Int} {d : D} {o : Bool} {xs : List D} (h : Sto n d) (hn : n ≤ 10 ^ 18) (h0 : xs ≠ []) (hl : xs.length < 1000000) (hz : D.isFzL xs = true) : ∃ x d', r_law_pick [d, .lst o xs] = .ok x [d'] ∧ Sto (n + 1) d' ∧ x ∈ xs := by
  have hp : 0 < xs.length := List.length_pos_iff.mpr h0
  obtain ⟨v, d', h1, h2, h3, h4, h5⟩ := take_ok (m := xs.length) h (by omega) (by omega)
  have hv : v < xs.length := by
    by_cases q : (2 : Int) ≤ xs.length
    · exact h4 q
    · have := h5 (by omega)
      omega
  have hv' : v.toNat < xs.length := by omega
  have ha : atI xs v = some xs[v.toNat] := by
    rw [atI_nat h3 hv]
    exact List.getElem?_eq_getElem hv'
  have hx : xs[v.toNat].isFz = true := by
    rw [isFzL_all, List.all_eq_true] at hz
    exact hz _ (List.getElem_mem hv')
  refine ⟨xs[v.toNat], d', ?_, h2, List.getElem_mem hv'⟩
  have hne : ¬ ((xs.length : Int) = 0) := by omega
  unfold r_law_pick m_law_pick
  simp [h1, ha, hx, h0]
end Wk
namespace Wk
open PySem Dy L2 TL
def digs : List Nat := [48, 49, 50, 51, 52, 53, 54, 55, 56, 57]
def isDig (c : Nat) : Bool := decide (c ∈ digs)
def ltrs : List Nat := [97, 98, 99, 100, 101, 102, 103, 104, 105, 106, 107, 108, 109, 110, 111, 112, 113, 114, 115, 116, 117, 118, 119, 120, 121, 122]
def isLtr (c : Nat) : Bool := decide (c ∈ ltrs)
theorem s_digs : (("0123456789" : Str)) = sx digs := by decide +kernel
theorem s_ltrs : (("abcdefghijklmnopqrstuvwxyz" : Str)) = sx ltrs := by decide +kernel
theorem s_sp : ((" " : Str)) = sx [32] := by decide +kernel
theorem s_mt : (("" : Str)) = sx [] := by decide +kernel
theorem s_dot : (("." : Str)) = sx [46] := by decide +kernel
theorem s_dash : (("-" : Str)) = sx [45] := by decide +kernel
theorem s_zero : (("0" : Str)) = sx [48] := by decide +kernel
theorem s_eq : (("=" : Str)) = sx [61] := by decide +kernel
def chD (c : Nat) : D := .str (sx [c])
/-- its number -/
def val (l : List Nat) : Nat := l.foldl (fun t c => t * 10 + (c - 48)) 0
def numOk (l : List Nat) : Bool := decide (1 ≤ l.length) && (decide (l.length ≤ 4) && (l.all isDig && (decide (l = [48]) || decide (l.head? ≠ some 48))))
theorem head_ix {l : List Nat} (h : l ≠ []) : ∃ c, l.head? = some c ∧ atI l (0 : Int) = some c := by
  cases l with
  | nil => exact absurd rfl h
  | cons c r => exact ⟨c, rfl, by rw [atI_nat (by omega) (by simp)]; rfl⟩
theorem is_number_ok (l : List Nat) (hl : l.length ≤ 100000) : r_is_number [.str (sx l)] = .ok (.bl (numOk l)) [] := by
  have hl1 : l.length ≤ 1000000 := by omega
  obtain ⟨y, hy⟩ := forGo_scan (g := gNm 1) (body := mIf (mTest (mLoc (fIn true) (mArgs [mName 1, mPure (.tm (.str "0123456789"))]))) (mRet (ioSlots [false] 0) (mPure (.tm (.bl false)))) mNx)
    (fun x => [some (.str (sx l)), x]) (fun d => match d with | .str s => (match s.cps.toList with | [c] => isDig c | _ => false) | _ => false) (fun e => .ok (.rt (.bl false)) e) (fun e => .inl ⟨_, rfl⟩) (ds := l.map chD) none
    (fun d m x hp => by
      obtain ⟨c, _, rfl⟩ := List.mem_map.mp m
      have hc : c ∈ digs := of_decide_eq_true hp
      refine ⟨[some (.str (sx l)), some (chD c)], by simp, ?_⟩
      simp [s_digs, chD, hc])
    (fun d m x hp => by
      obtain ⟨c, _, rfl⟩ := List.mem_map.mp m
      have hc : c ∉ digs := of_decide_eq_false hp
      refine ⟨[some (.str (sx l)), some (chD c)], by simp, ?_⟩
      simp [s_digs, chD, hc])
  rw [all_map] at hy
  have hy' : forGo (gNm 1) (mIf (mTest (mLoc (fIn true) (mArgs [mName 1, mPure (.tm (.str "0123456789"))]))) (mRet [] (mPure (.tm (.bl false)))) mNx) (l.map fun c => .str (sx [c])) [some (.str (sx l)), none] = if l.all isDig = true then .ok .nx [some (.str (sx l)), y] else .ok (.rt (.bl false)) [some (.str (sx l)), y] := hy
  unfold r_is_number m_is_number
  have ha : (isTys "str" ["str"]) = true := by decide
  by_cases h1 : 1 ≤ l.length
  · have h1' : (1 : Int) ≤ l.length := by omega
    by_cases h2 : l.length ≤ 4
    · have h2' : (l.length : Int) ≤ 4 := by omega
      have hne : l ≠ [] := by intro q; rw [q] at h1; simp at h1
      obtain ⟨c, hc1, hc2⟩ := head_ix hne
      by_cases h3 : l.all isDig = true
      · rw [if_pos h3] at hy'
        by_cases h4 : l = [48]
        · simp [hl1, h1', h2', hy', s_zero, sx_inj, numOk, h1, h2, h3, eq_true h4]
        · by_cases h5 : c = 48
          · simp [hl1, h1', h2', hy', s_zero, sx_inj, numOk, h1, h2, h3, eq_false h4, hc1, hc2, h5]
          · simp [hl1, h1', h2', hy', s_zero, sx_inj, numOk, h1, h2, h3, eq_false h4, hc1, hc2, h5]
      · rw [if_neg h3] at hy'
        simp [hl1, h1', h2', hy', numOk, h1, h2, h3]
    · have h2' : ¬ (l.length : Int) ≤ 4 := by omega
      simp [hl1, h1', h2', h1, h2, numOk]
  · have h1' : ¬ (1 : Int) ≤ l.length := by omega
    simp [hl1, h1', h1, numOk]
end Wk
namespace Wk
open PySem Dy L2 TL
theorem mulK {i j : Int} {k : Nat} (hi : i.natAbs < 2 ^ k) (hk : 0 < k) (hk2 : k ≤ 900000) (hj : sm j) : fMul [.int i, .int j] = some (.int (i * j)) := by
  have h1 := log2_lt hi hk
  have h2 := log2_lt hj (by decide)
  show (if _ then _ else _) = _
  rw [if_pos (by omega)]
/-! ### digits as numbers -/
theorem isDig_range {c : Nat} (h : isDig c = true) : 48 ≤ c ∧ c ≤ 57 := by
  have := of_decide_eq_true h
  simp only [digs, List.mem_cons, List.not_mem_nil, or_false] at this
  omega
theorem val_snoc (l : List Nat) (c : Nat) : val (l ++ [c]) = val l * 10 + (c - 48) := by
  unfold val
  rw [List.foldl_append]
  rfl
theorem numL_val_of : ∀ {l : List Nat}, numOk l = true → numL (val l) = l ∧ val l < 10000 := by
  intro l h
  unfold numOk at h
  simp only [Bool.and_eq_true, decide_eq_true_eq, Bool.or_eq_true] at h
  obtain ⟨h1, h2, h3, h4⟩ := h
  match l, h1, h2, h3, h4 with
  | [a], _, _, h3, _ =>
    simp only [List.all_cons, List.all_nil, Bool.and_true] at h3
    have := isDig_range h3
    have e : val [a] = a - 48 := by simp [val]
    rw [e]
    exact ⟨by rw [numL_lt (by omega), show 48 + (a - 48) = a by omega], by omega⟩
  | [a, b], _, _, h3, h4 =>
    simp only [List.all_cons, List.all_nil, Bool.and_true, Bool.and_eq_true] at h3
    have r1 := isDig_range h3.1
    have r2 := isDig_range h3.2
    have r3 : a ≠ 48 := by rcases h4 with q | q <;> simp at q; exact q
    have e : val [a, b] = (a - 48) * 10 + (b - 48) := by simp [val]
    rw [e]
    refine ⟨?_, by omega⟩
    rw [numL_step (by omega), show ((a - 48) * 10 + (b - 48)) / 10 = a - 48 by omega, show ((a - 48) * 10 + (b - 48)) % 10 = b - 48 by omega, numL_lt (by omega), show 48 + (a - 48) = a by omega, show 48 + (b - 48) = b by omega]
    rfl
  | [a, b, c], _, _, h3, h4 =>
    simp only [List.all_cons, List.all_nil, Bool.and_true, Bool.and_eq_true] at h3
    have r1 := isDig_range h3.1
    have r2 := isDig_range h3.2.1
    have r4 := isDig_range h3.2.2
    have r3 : a ≠ 48 := by rcases h4 with q | q <;> simp at q; exact q
    have e : val [a, b, c] = ((a - 48) * 10 + (b - 48)) * 10 + (c - 48) := by simp [val]
    rw [e]
    refine ⟨?_, by omega⟩
    rw [numL_step (by omega), show (((a - 48) * 10 + (b - 48)) * 10 + (c - 48)) / 10 = (a - 48) * 10 + (b - 48) by omega, show (((a - 48) * 10 + (b - 48)) * 10 + (c - 48)) % 10 = c - 48 by omega,
      numL_step (by omega), show ((a - 48) * 10 + (b - 48)) / 10 = a - 48 by omega, show ((a - 48) * 10 + (b - 48)) % 10 = b - 48 by omega, numL_lt (by omega), show 48 + (a - 48) = a by omega, show 48 + (b - 48) = b by omega, show 48 + (c - 48) = c by omega]
    rfl
  | [a, b, c, d], _, _, h3, h4 =>
    simp only [List.all_cons, List.all_nil, Bool.and_true, Bool.and_eq_true] at h3
    have r1 := isDig_range h3.1
    have r2 := isDig_range h3.2.1
    have r4 := isDig_range h3.2.2.1
    have r5 := isDig_range h3.2.2.2
    have r3 : a ≠ 48 := by rcases h4 with q | q <;> simp at q; exact q
    have e : val [a, b, c, d] = (((a - 48) * 10 + (b - 48)) * 10 + (c - 48)) * 10 + (d - 48) := by simp [val]
    rw [e]
    refine ⟨?_, by omega⟩
    rw [numL_step (by omega), show ((((a - 48) * 10 + (b - 48)) * 10 + (c - 48)) * 10 + (d - 48)) / 10 = ((a - 48) * 10 + (b - 48)) * 10 + (c - 48) by omega, show ((((a - 48) * 10 + (b - 48)) * 10 + (c - 48)) * 10 + (d - 48)) % 10 = d - 48 by omega,
      numL_step (by omega), show (((a - 48) * 10 + (b - 48)) * 10 + (c - 48)) / 10 = (a - 48) * 10 + (b - 48) by omega, show (((a - 48) * 10 + (b - 48)) * 10 + (c - 48)) % 10 = c - 48 by omega,
      numL_step (by omega), show ((a - 48) * 10 + (b - 48)) / 10 = a - 48 by omega, show ((a - 48) * 10 + (b - 48)) % 10 = b - 48 by omega, numL_lt (by omega), show 48 + (a - 48) = a by omega, show 48 + (b - 48) = b by omega, show 48 + (c - 48) = c by omega, show 48 + (d - 48) = d by omega]
    rfl
theorem str_num (n : Nat) : (toString (n : Int) : Str) = sx (numL n) := ext_tl (by
  have := tl_num n
  exact this)
theorem int_ok {l : List Nat} (h : numOk l = true) : fInt [.str (sx l)] = some (.int (val l)) := by
  obtain ⟨h1, h2⟩ := numL_val_of h
  have hl : l.length ≤ 4 := by
    unfold numOk at h
    simp only [Bool.and_eq_true, decide_eq_true_eq] at h
    exact h.2.1
  have e : intText? (sx l) = some (val l : Int) := by
    have := int_num (n := val l) (by rw [h1]; omega)
    rw [← this]
    congr 1
    exact ext_tl (by rw [tl_num, h1]; rfl)
  show (if _ then _ else _) = _
  rw [if_pos (by rw [sx_len]; omega), e]
  rfl
def BL : Exn := Exn.mk "BadLine" []
theorem number_of_ok (l : List Nat) (hl : l.length ≤ 100000) : r_number_of [.str (sx l)] = if numOk l = true then .ok (.int (val l)) [] else .err BL [] := by
  have hl1 : l.length ≤ 1000000 := by omega
  obtain ⟨y, hy⟩ := forGo_scan (g := gNm 1) (body := mIf (mTest (mLoc (fIn true) (mArgs [mName 1, mPure (.tm (.str "0123456789"))]))) (mRaise "BadLine" (mArgs [mPure (.tm (.str "a number consists of digits"))])) mNx)
    (fun x => [some (.str (sx l)), x]) (fun d => match d with | .str s => (match s.cps.toList with | [c] => isDig c | _ => false) | _ => false) (fun e => .err BL e) (fun e => .inr ⟨_, rfl⟩) (ds := l.map chD) none
    (fun d m x hp => by
      obtain ⟨c, _, rfl⟩ := List.mem_map.mp m
      have hc : c ∈ digs := of_decide_eq_true hp
      refine ⟨[some (.str (sx l)), some (chD c)], by simp, ?_⟩
      simp [s_digs, chD, hc])
    (fun d m x hp => by
      obtain ⟨c, _, rfl⟩ := List.mem_map.mp m
      have hc : c ∉ digs := of_decide_eq_false hp
      refine ⟨[some (.str (sx l)), some (chD c)], by simp, ?_⟩
      simp [s_digs, chD, hc, BL])
  rw [all_map] at hy
  have hy' : forGo (gNm 1) (mIf (mTest (mLoc (fIn true) (mArgs [mName 1, mPure (.tm (.str "0123456789"))]))) (mRaise "BadLine" (mArgs [mPure (.tm (.str "a number consists of digits"))])) mNx) (l.map fun c => .str (sx [c])) [some (.str (sx l)), none] = if l.all isDig = true then .ok .nx [some (.str (sx l)), y] else .err BL [some (.str (sx l)), y] := hy
  by_cases hn : numOk l = true
  · have hi := int_ok hn
    rw [if_pos hn]
    unfold numOk at hn
    simp only [Bool.and_eq_true, decide_eq_true_eq, Bool.or_eq_true] at hn
    obtain ⟨h1, h2, h3, h4⟩ := hn
    rw [if_pos h3] at hy'
    have hne : l ≠ [] := by intro q; rw [q] at h1; simp at h1
    obtain ⟨c, hc1, hc2⟩ := head_ix hne
    have h2' : ¬ (4 : Int) < l.length := by omega
    unfold r_number_of m_number_of
    by_cases h5 : 1 < l.length
    · have h5' : (1 : Int) < l.length := by omega
      have h6 : c ≠ 48 := by
        rcases h4 with q | q
        · rw [q] at h5; simp at h5
        · intro z; exact q (by rw [hc1, z])
      simp [hl1, hy', hi, hne, h2', h5', hc2, h6, s_zero, s_mt, sx_inj]
    · have h5' : ¬ (1 : Int) < l.length := by omega
      simp [hl1, hy', hi, hne, h2', h5', s_zero, s_mt, sx_inj]
  · rw [if_neg hn]
    unfold r_number_of m_number_of
    by_cases h1 : l = []
    · simp [h1, s_mt, BL]
    · by_cases h2 : (4 : Int) < l.length
      · simp [hl1, eq_false h1, h2, s_mt, sx_inj, BL]
      · by_cases h3 : l.all isDig = true
        · rw [if_pos h3] at hy'
          obtain ⟨c, hc1, hc2⟩ := head_ix h1
          have hlen : 1 ≤ l.length := List.length_pos_iff.mpr h1
          have h5 : 1 < l.length ∧ c = 48 := by
            unfold numOk at hn
            simp only [Bool.and_eq_true, decide_eq_true_eq, Bool.or_eq_true, not_and, not_or] at hn
            obtain ⟨q1, q2⟩ := hn hlen (by omega) h3
            have hc : c = 48 := by
              rw [hc1] at q2
              simpa using q2
            refine ⟨?_, hc⟩
            rcases Nat.lt_or_ge 1 l.length with z | z
            · exact z
            · exfalso
              match l, h1, z, hc1 with
              | [a], _, _, hc1 =>
                simp at hc1
                exact q1 (by rw [hc1, hc])
          obtain ⟨h5, rfl⟩ := h5
          have h5' : (1 : Int) < l.length := by omega
          simp [hl1, hy', eq_false h1, h2, h5', hc2, s_zero, s_mt, sx_inj, BL]
        · rw [if_neg h3] at hy'
          simp [hl1, hy', eq_false h1, h2, s_mt, sx_inj, BL]
end Wk
namespace Wk
open PySem Dy L2 TL
theorem find_dig {c : Nat} (h : isDig c = true) : Txt.find (sx digs) (sx [c]) = ((c - 48 : Nat) : Int) := by
  have := of_decide_eq_true h
  rw [find1]
  simp only [digs, List.mem_cons, List.not_mem_nil, or_false] at this ⊢
  rcases this with rfl | rfl | rfl | rfl | rfl | rfl | rfl | rfl | rfl | rfl <;> rfl
theorem find_nodig {c : Nat} (h : isDig c = false) : Txt.find (sx digs) (sx [c]) = -1 := find_none (of_decide_eq_false h)
abbrev digB : MS := mSeq (mSet 3 (mLoc fFind (mArgs (mStr (mPure (.tm (.str "0123456789"))) :: [mName 2])))) (mSeq (mIf (mTest (mLoc (fCmpI fun i j => decide (i < j)) (mArgs [mName 3, mPure (.tm (.int 0))]))) (mRet [] (mLoc fNeg (mArgs [mPure (.tm (.int 1))]))) (mNx)) (mSet 1 (mLoc fAdd (mArgs [mLoc fMul (mArgs [mName 1, mPure (.tm (.int 10))]), mName 3]))))
theorem dig_go (s0 : D) : ∀ (l : List Nat) (v k : Nat) (x y : Option D), v < 2 ^ (4 * k + 4) → k + l.length ≤ 100000 →
    (l.all isDig = true → ∃ x' y', forGo (gNm 2) digB (l.map chD) [some s0, some (.int v), x, y] = .ok .nx [some s0, some (.int ((l.foldl (fun t c => t * 10 + (c - 48)) v : Nat) : Int)), x', y']) ∧
    (l.all isDig = false → ∃ e, forGo (gNm 2) digB (l.map chD) [some s0, some (.int v), x, y] = .ok (.rt (.int (-1))) e)
  | [], v, k, x, y, _, _ => ⟨fun _ => ⟨x, y, rfl⟩, fun h => (by cases h)⟩
  | c :: l, v, k, x, y, hv, hk => by
    have hk' : k + 1 + l.length ≤ 100000 := by rw [List.length_cons] at hk; omega
    cases hc : isDig c with
    | false =>
      refine ⟨fun h => (by rw [List.all_cons, hc] at h; cases h), fun _ => ⟨[some s0, some (.int v), some (chD c), some (.int (-1))], ?_⟩⟩
      have hf := find_nodig hc
      rw [List.map_cons]
      refine forGo_ret (e1 := [some s0, some (.int v), some (chD c), y]) (by simp) ?_
      simp [s_digs, chD, hf]
    | true =>
      have hf := find_dig hc
      have r := isDig_range hc
      have hm := mulK (i := v) (j := 10) (k := 4 * k + 4) (by simpa using hv) (by omega) (by omega) (small (by decide) (by decide))
      have e2 : (v : Int) * 10 + ((c - 48 : Nat) : Int) = ((v * 10 + (c - 48) : Nat) : Int) := by omega
      have ih := dig_go s0 l (v * 10 + (c - 48)) (k + 1) (some (chD c)) (some (.int ((c - 48 : Nat) : Int))) (by
        have : 2 ^ (4 * (k + 1) + 4) = 2 ^ (4 * k + 4) * 16 := by rw [show 4 * (k + 1) + 4 = (4 * k + 4) + 4 by omega, Nat.pow_add]
        omega) hk'
      have step : forGo (gNm 2) digB ((c :: l).map chD) [some s0, some (.int v), x, y] = forGo (gNm 2) digB (l.map chD) [some s0, some (.int ((v * 10 + (c - 48) : Nat) : Int)), some (chD c), some (.int ((c - 48 : Nat) : Int))] := by
        rw [List.map_cons]
        refine forGo_cons (e1 := [some s0, some (.int v), some (chD c), y]) (by simp) ?_
        have hz : ¬ (((c - 48 : Nat) : Int) < 0) := by omega
        simp [s_digs, chD, hf, hz, hm]
      rw [step, List.all_cons, hc, Bool.true_and]
      exact ih
def digI (l : List Nat) : Int := if numOk l = true then val l else -1
theorem digits_ok (l : List Nat) (hl : l.length ≤ 100000) : r_law_digits [.str (sx l)] = .ok (.int (digI l)) [] := by
  have hl1 : l.length ≤ 1000000 := by omega
  obtain ⟨g1, g2⟩ := dig_go (.str (sx l)) l 0 0 none none (by decide) (by omega)
  have ec : (l.map chD) = l.map fun c => .str (sx [c]) := rfl
  unfold r_law_digits m_law_digits digI
  cases h3 : l.all isDig with
  | false =>
    obtain ⟨e, he⟩ := g2 h3
    rw [ec] at he
    have hn : numOk l = false := by
      unfold numOk
      rw [h3]
      simp
    simp at he
    simp [he, hn]
  | true =>
    obtain ⟨x, y, he⟩ := g1 h3
    rw [ec] at he
    simp at he
    by_cases hn : numOk l = true
    · unfold numOk at hn
      have hn' := hn
      simp only [Bool.and_eq_true, decide_eq_true_eq, Bool.or_eq_true] at hn
      obtain ⟨h1, h2, _, h4⟩ := hn
      have hne : l ≠ [] := by intro q; rw [q] at h1; simp at h1
      obtain ⟨c, hc1, hc2⟩ := head_ix hne
      have h2' : ¬ (4 : Int) < l.length := by omega
      have hn2 : numOk l = true := hn'
      by_cases h5 : 1 < l.length
      · have h5' : (1 : Int) < l.length := by omega
        have h6 : c ≠ 48 := by
          rcases h4 with q | q
          · rw [q] at h5; simp at h5
          · intro z; exact q (by rw [hc1, z])
        simp [hl1, he, hne, h2', h5', hc2, h6, s_zero, s_mt, sx_inj, hn2, val]
      · have h5' : ¬ (1 : Int) < l.length := by omega
        simp [hl1, he, hne, h2', h5', s_zero, s_mt, sx_inj, hn2, val]
    · have hn2 : numOk l = false := by simpa using hn
      by_cases h1 : l = []
      · subst h1
        simp [s_mt, hn2]
      · by_cases h2 : (4 : Int) < l.length
        · simp [hl1, he, eq_false h1, h2, s_mt, sx_inj, hn2]
        · obtain ⟨c, hc1, hc2⟩ := head_ix h1
          have hlen : 1 ≤ l.length := List.length_pos_iff.mpr h1
          have h5 : 1 < l.length ∧ c = 48 := by
            unfold numOk at hn
            simp only [Bool.and_eq_true, decide_eq_true_eq, Bool.or_eq_true, not_and, not_or] at hn
            obtain ⟨q1, q2⟩ := hn hlen (by omega) h3
            have hc : c = 48 := by
              rw [hc1] at q2
              simpa using q2
            refine ⟨?_, hc⟩
            rcases Nat.lt_or_ge 1 l.length with z | z
            · exact z
            · exfalso
              match l, h1, z, hc1, q1 with
              | [a], _, _, hc1, q1 =>
                simp at hc1
                exact q1 (by rw [hc1, hc])
          obtain ⟨h5, rfl⟩ := h5
          have h5' : (1 : Int) < l.length := by omega
          simp [hl1, he, eq_false h1, h2, h5', hc2, s_zero, s_mt, sx_inj, hn2]
end Wk
namespace Wk
open PySem Dy L2 TL
def parts (l : List Nat) : List (List Nat) := spl [46] 0 [] l
theorem pre1 (s c : Nat) (r : List Nat) : pre [s] (c :: r) = decide (c = s) := by
  unfold pre
  simp
  by_cases h : c = s <;> simp [h]
theorem spl_join1 : ∀ (l acc : List Nat), joinL [46] (spl [46] 0 acc l) = acc ++ l ∧ spl [46] 0 acc l ≠ []
  | [], acc => by rw [spl_nil]; exact ⟨by simp [joinL], by simp⟩
  | c :: r, acc => by
    by_cases h : c = 46
    · rw [spl_hit (by rw [pre1, h]; rfl)]
      obtain ⟨h1, h2⟩ := spl_join1 r []
      refine ⟨?_, by simp⟩
      rw [show ([46] : List Nat).length - 1 = 0 from rfl]
      cases q : spl [46] 0 [] r with
      | nil => exact absurd q h2
      | cons p ps =>
        rw [q] at h1
        show acc ++ ([46] ++ joinL [46] (p :: ps)) = _
        rw [h1, h]
        simp
    · rw [spl_miss (by rw [pre1]; simp [h])]
      obtain ⟨h1, h2⟩ := spl_join1 r (acc ++ [c])
      exact ⟨by rw [h1]; simp, h2⟩
theorem spl_small : ∀ (l acc : List Nat), (∀ p ∈ spl [46] 0 acc l, p.length ≤ acc.length + l.length) ∧ (spl [46] 0 acc l).length ≤ l.length + 1
  | [], acc => by rw [spl_nil]; simp
  | c :: r, acc => by
    by_cases h : c = 46
    · rw [spl_hit (by rw [pre1, h]; rfl)]
      obtain ⟨h1, h2⟩ := spl_small r []
      rw [show ([46] : List Nat).length - 1 = 0 from rfl]
      refine ⟨fun p m => ?_, by rw [List.length_cons, List.length_cons]; omega⟩
      rcases List.mem_cons.mp m with rfl | m
      · omega
      · have := h1 p m
        simp at this ⊢
        omega
    · rw [spl_miss (by rw [pre1]; simp [h])]
      obtain ⟨h1, h2⟩ := spl_small r (acc ++ [c])
      refine ⟨fun p m => ?_, by rw [List.length_cons]; omega⟩
      have := h1 p m
      simp at this ⊢
      omega
theorem parts_join (l : List Nat) : joinL [46] (parts l) = l := (spl_join1 l []).1
theorem parts_ne (l : List Nat) : parts l ≠ [] := (spl_join1 l []).2
theorem parts_len {l p : List Nat} (h : p ∈ parts l) : p.length ≤ l.length := by
  have := (spl_small l []).1 p h
  simpa using this
theorem parts_many (l : List Nat) : (parts l).length ≤ l.length + 1 := (spl_small l []).2
theorem split_dot (l : List Nat) : Txt.split (sx l) (sx [46]) = (parts l).map sx := by
  have h := split_spl (sx l) (sx [46]) (by simp [tl_sx]) (kind_ok (by decide +kernel))
  have h2 := congrArg (List.map sx) h
  rw [List.map_map] at h2
  have e : (sx ∘ tl) = id := funext fun s => sx_of s
  rw [e, List.map_id] at h2
  exact h2
def NS : Exn := Exn.mk "NoSuch" []
def addrD (l : List Nat) : D := .tup false (if l = [45] then [] else (parts l).map fun p => .int (val p))
def addrOk (l : List Nat) : Bool := decide (l = [45]) || (parts l).all numOk
abbrev pasB : MS := mSeq (mIf (mNot (mTruth (mCall (r_is_number) [false] (mArgs [mName 2])))) (mRaise "NoSuch" (mArgs [])) (mNx)) (mApp 1 (mLoc fInt (mArgs [mName 2])))
theorem pas_go (s0 : D) : ∀ (ps : List (List Nat)) (acc : List D) (x : Option D), (∀ p ∈ ps, p.length ≤ 100000) → acc.length + ps.length < 1000000 →
    (ps.all numOk = true → ∃ x', forGo (gNm 2) pasB (ps.map fun p => .str (sx p)) [some s0, some (.lst true acc), x] = .ok .nx [some s0, some (.lst true (acc ++ ps.map fun p => .int (val p))), x']) ∧
    (ps.all numOk = false → ∃ e, forGo (gNm 2) pasB (ps.map fun p => .str (sx p)) [some s0, some (.lst true acc), x] = .err NS e)
  | [], acc, x, _, _ => ⟨fun _ => ⟨x, by simp⟩, fun h => (by cases h)⟩
  | p :: ps, acc, x, hp, hl => by
    have h1 := is_number_ok p (hp p List.mem_cons_self)
    rw [List.length_cons] at hl
    cases hc : numOk p with
    | false =>
      rw [hc] at h1
      refine ⟨fun h => (by rw [List.all_cons, hc] at h; cases h), fun _ => ⟨[some s0, some (.lst true acc), some (.str (sx p))], ?_⟩⟩
      rw [List.map_cons]
      refine forGo_err (e1 := [some s0, some (.lst true acc), some (.str (sx p))]) (by simp) ?_
      simp [h1, NS]
    | true =>
      rw [hc] at h1
      have hi := int_ok hc
      have ih := pas_go s0 ps (acc ++ [.int (val p)]) (some (.str (sx p))) (fun q m => hp q (List.mem_cons_of_mem _ m)) (by rw [List.length_append, List.length_singleton]; omega)
      have hal : acc.length < 1000000 := by omega
      have step : forGo (gNm 2) pasB ((p :: ps).map fun p => .str (sx p)) [some s0, some (.lst true acc), x] = forGo (gNm 2) pasB (ps.map fun p => .str (sx p)) [some s0, some (.lst true (acc ++ [.int (val p)])), some (.str (sx p))] := by
        rw [List.map_cons]
        refine forGo_cons (e1 := [some s0, some (.lst true acc), some (.str (sx p))]) (by simp) ?_
        simp [h1, hi, isLstAt, hal]
      rw [step, List.all_cons, hc, Bool.true_and]
      have e : acc ++ ((p :: ps).map fun p => D.int (val p)) = acc ++ [D.int (val p)] ++ ps.map fun p => D.int (val p) := by simp
      rw [e]
      exact ih
theorem z_fzVals (ps : List (List Nat)) : D.isFzL (ps.map fun p => D.int (val p)) = true := by
  induction ps with
  | nil => rfl
  | cons a l ih => rw [List.map_cons, z_fzL1, ih]; rfl
theorem map_sx (ps : List (List Nat)) : (ps.map sx).map D.str = ps.map fun p => .str (sx p) := by rw [List.map_map]; rfl
theorem z_fzSx (ps : List (List Nat)) : D.isFzL (ps.map fun p => D.str (sx p)) = true := by rw [← map_sx]; exact z_fzStrs _
theorem parse_address_ok (l : List Nat) (hl : l.length ≤ 100000) : r_parse_address [.str (sx l)] = if addrOk l = true then .ok (addrD l) [] else .err NS [] := by
  have hl1 : l.length ≤ 1000000 := by omega
  have hm := parts_many l
  obtain ⟨g1, g2⟩ := pas_go (.str (sx l)) (parts l) [] none (fun p m => by have := parts_len m; omega) (by simp; omega)
  unfold r_parse_address m_parse_address addrOk addrD
  have ha : (isTys "str" ["str"]) = true := by decide
  by_cases h0 : l = [45]
  · simp [ha, h0, s_dash]
  · have hsp := split_dot l
    have hfz := z_fzSx (parts l)
    have hfv := z_fzVals (parts l)
    have hfr := frL_isFz _ hfz
    have hmap := map_sx (parts l)
    rw [List.map_map] at hmap
    cases h3 : (parts l).all numOk with
    | true =>
      obtain ⟨x, hx⟩ := g1 h3
      simp at hx
      simp [ha, eq_false h0, s_dash, s_dot, sx_inj, hl1, hsp, hfz, hfr, hfv, hmap, hx]
    | false =>
      obtain ⟨e, he⟩ := g2 h3
      simp [ha, eq_false h0, s_dash, s_dot, sx_inj, hl1, hsp, hfz, hfr, hfv, hmap, he]
theorem address_of_ok (l : List Nat) (hl : l.length ≤ 100000) : r_address_of [.str (sx l)] = if addrOk l = true then .ok (addrD l) [] else .err BL [] := by
  have h := parse_address_ok l hl
  unfold r_address_of m_address_of
  cases h0 : addrOk l with
  | true =>
    rw [h0, if_pos rfl] at h
    simp [mTryO, h]
  | false =>
    rw [h0, if_neg Bool.false_ne_true] at h
    have hct : ct_NoSuch "NoSuch" = some true := by decide +kernel
    simp [mTryO, h, NS, hct, BL]
end Wk
namespace Wk
open PySem Dy L2 TL
def strL : D → List Nat
  | .str s => s.cps.toList
  | _ => []
def intV : D → Int
  | .int i => i
  | _ => 0
theorem digI_neg (p : List Nat) : digI p < 0 ↔ numOk p = false := by
  unfold digI
  cases numOk p with
  | true => simp
  | false => simp
theorem digI_ok {p : List Nat} (h : numOk p = true) : digI p = val p := by unfold digI; rw [if_pos h]
/-- the spots: none or one -/
def spotsD (l : List Nat) : D := .lst true (if addrOk l = true then [addrD l] else [])
theorem map_digI (ps : List (List Nat)) : (ps.map fun p => D.str (sx p)).map (fun d => D.int (digI (strL d))) = ps.map fun p => .int (digI p) := by rw [List.map_map]; rfl
theorem z_fzDigs (ps : List (List Nat)) : D.isFzL (ps.map fun p => D.int (digI p)) = true := by
  induction ps with
  | nil => rfl
  | cons a l ih => rw [List.map_cons, z_fzL1, ih]; rfl
theorem spots_ok (l : List Nat) (hl : l.length ≤ 100000) : r_law_spots [.str (sx l)] = .ok (spotsD l) [] := by
  have hl1 : l.length ≤ 1000000 := by omega
  have hm := parts_many l
  unfold r_law_spots m_law_spots spotsD addrOk addrD
  by_cases h0 : l = [45]
  · simp [h0, s_dash]
  · have hsp := split_dot l
    have hfz := z_fzSx (parts l)
    have hfr := frL_isFz _ hfz
    have hmap := map_sx (parts l)
    rw [List.map_map] at hmap
    have hfd := z_fzDigs (parts l)
    have hfdr := frL_isFz _ hfd
    -- the digits
    have c1 : lcGo [2] (gNm 2) (mPure true) (mCall r_law_digits [false] (mArgs [mName 2])) ((parts l).map fun p => .str (sx p)) [] [some (.str (sx l)), none, none, none] = .ok ((parts l).map fun p => .int (digI p)) [some (.str (sx l)), none, none, none] := by
      rw [lcGo_pure (fun _ => true) (fun d => .int (digI (strL d))) (by simp; omega) (fun d hd => by
        obtain ⟨p, hp, rfl⟩ := List.mem_map.mp hd
        have hpl := parts_len hp
        have hk := digits_ok p (by omega)
        refine ⟨[some (.str (sx l)), none, some (.str (sx p)), none], _, by simp, rfl, (fun q => nomatch q), fun _ => ⟨.tm (.int (digI p)), [some (.str (sx l)), none, some (.str (sx p)), none], [some (.str (sx l)), none, some (.str (sx p)), none], by simp [hk], by simp [strL], by simp⟩⟩)]
      rw [List.nil_append, List.filter_eq_self.mpr (fun _ _ => rfl), map_digI]
    -- those below zero
    have c2 : lcGo [3] (gNm 3) (mTest (mLoc (fCmpI fun i j => decide (i < j)) (mArgs [mName 3, mPure (.tm (.int 0))]))) (mName 3) ((parts l).map fun p => .int (digI p)) [] [some (.str (sx l)), some (.lst false ((parts l).map fun p => .int (digI p))), none, none] =
        .ok (((parts l).map fun p => D.int (digI p)).filter fun d => decide (intV d < 0)) [some (.str (sx l)), some (.lst false ((parts l).map fun p => .int (digI p))), none, none] := by
      rw [lcGo_pure (fun d => decide (intV d < 0)) (fun d => d) (by simp; omega) (fun d hd => by
        obtain ⟨p, hp, rfl⟩ := List.mem_map.mp hd
        refine ⟨[some (.str (sx l)), some (.lst false ((parts l).map fun p => .int (digI p))), none, some (.int (digI p))], [some (.str (sx l)), some (.lst false ((parts l).map fun p => .int (digI p))), none, some (.int (digI p))], by simp, by simp [intV]; rfl, fun _ => by simp, fun _ => ⟨.sl 3, [some (.str (sx l)), some (.lst false ((parts l).map fun p => .int (digI p))), none, some (.int (digI p))], [some (.str (sx l)), some (.lst false ((parts l).map fun p => .int (digI p))), none, some (.int (digI p))], by simp, by simp, by simp⟩⟩)]
      simp
    cases h3 : (parts l).all numOk with
    | true =>
      have e0 : ((parts l).map fun p => D.int (digI p)) = (parts l).map fun p => D.int (val p) := List.map_congr_left fun p m => by rw [digI_ok (List.all_eq_true.mp h3 p m)]
      have e1 : (((parts l).map fun p => D.int (digI p)).filter fun d => decide (intV d < 0)) = [] := by
        rw [List.filter_eq_nil_iff]
        intro d hd
        obtain ⟨p, hp, rfl⟩ := List.mem_map.mp hd
        have := digI_ok (List.all_eq_true.mp h3 p hp)
        simp [intV, this]
      rw [e1] at c2
      rw [e0] at c1 c2 hfd hfdr
      simp [eq_false h0, s_dash, s_dot, sx_inj, hl1, hsp, hfz, hfr, hmap, c1, c2, hfd, hfdr]
    | false =>
      have e1 : 0 < (((parts l).map fun p => D.int (digI p)).filter fun d => decide (intV d < 0)).length := by
        have : ¬ (parts l).all numOk = true := by rw [h3]; exact Bool.false_ne_true
        rw [List.all_eq_true] at this
        have hx : ∃ p ∈ parts l, numOk p = false := by
          refine Classical.byContradiction fun q => this fun p hp => ?_
          cases z : numOk p with
          | true => rfl
          | false => exact absurd ⟨p, hp, z⟩ q
        obtain ⟨p, hp, hz⟩ := hx
        have hmem : D.int (digI p) ∈ (((parts l).map fun p => D.int (digI p)).filter fun d => decide (intV d < 0)) := List.mem_filter.mpr ⟨List.mem_map.mpr ⟨p, hp, rfl⟩, decide_eq_true ((digI_neg p).mpr hz)⟩
        exact List.length_pos_of_mem hmem
      generalize (((parts l).map fun p => D.int (digI p)).filter fun d => decide (intV d < 0)) = neg at c2 e1
      simp [eq_false h0, s_dash, s_dot, sx_inj, hl1, hsp, hfz, hfr, hmap, c1, c2, hfd, hfdr, e1]
/-! ### names -/
def nameOk (l : List Nat) : Bool := decide (1 ≤ l.length) && (decide (l.length ≤ 12) && l.all isLtr)
theorem only_ok (l : List Nat) : r_only_of [.str (sx l), .str (sx ltrs)] = .ok (.bl (l.all isLtr)) [] := by
  obtain ⟨y, hy⟩ := forGo_scan (g := gNm 2) (body := mIf (mTest (mLoc (fIn true) (mArgs [mName 2, mName 1]))) (mRet [] (mPure (.tm (.bl false)))) mNx)
    (fun x => [some (.str (sx l)), some (.str (sx ltrs)), x]) (fun d => match d with | .str s => (match s.cps.toList with | [c] => isLtr c | _ => false) | _ => false) (fun e => .ok (.rt (.bl false)) e) (fun e => .inl ⟨_, rfl⟩) (ds := l.map chD) none
    (fun d m x hp => by
      obtain ⟨c, _, rfl⟩ := List.mem_map.mp m
      have hc : c ∈ ltrs := of_decide_eq_true hp
      refine ⟨[some (.str (sx l)), some (.str (sx ltrs)), some (chD c)], by simp, ?_⟩
      simp [chD, hc])
    (fun d m x hp => by
      obtain ⟨c, _, rfl⟩ := List.mem_map.mp m
      have hc : c ∉ ltrs := of_decide_eq_false hp
      refine ⟨[some (.str (sx l)), some (.str (sx ltrs)), some (chD c)], by simp, ?_⟩
      simp [chD, hc])
  rw [all_map] at hy
  have hy' : forGo (gNm 2) (mIf (mTest (mLoc (fIn true) (mArgs [mName 2, mName 1]))) (mRet [] (mPure (.tm (.bl false)))) mNx) (l.map fun c => .str (sx [c])) [some (.str (sx l)), some (.str (sx ltrs)), none] = if l.all isLtr = true then .ok .nx [some (.str (sx l)), some (.str (sx ltrs)), y] else .ok (.rt (.bl false)) [some (.str (sx l)), some (.str (sx ltrs)), y] := hy
  unfold r_only_of m_only_of
  cases h : l.all isLtr with
  | true => rw [h, if_pos rfl] at hy'; simp [hy']
  | false => rw [h, if_neg Bool.false_ne_true] at hy'; simp [hy']
theorem is_name_ok (l : List Nat) (hl : l.length ≤ 100000) : r_is_name [.str (sx l)] = .ok (.bl (nameOk l)) [] := by
  have hl1 : l.length ≤ 1000000 := by omega
  have ha : (isTys "str" ["str"]) = true := by decide
  have h := only_ok l
  unfold r_is_name m_is_name nameOk
  by_cases h1 : 1 ≤ l.length
  · have h1' : (1 : Int) ≤ l.length := by omega
    by_cases h2 : l.length ≤ 12
    · have h2' : (l.length : Int) ≤ 12 := by omega
      simp [ha, hl1, h1, h1', h2, h2', s_ltrs, h]
    · have h2' : ¬ (l.length : Int) ≤ 12 := by omega
      simp [ha, hl1, h1, h1', h2, h2']
  · have h1' : ¬ (1 : Int) ≤ l.length := by omega
    simp [ha, hl1, h1, h1']
theorem name_of_ok (l : List Nat) (hl : l.length ≤ 100000) : r_name_of [.str (sx l)] = if (decide (l = [61]) || nameOk l) = true then .ok (.str (sx l)) [] else .err BL [] := by
  have h := is_name_ok l hl
  unfold r_name_of m_name_of
  by_cases h0 : l = [61]
  · simp [h0, s_eq]
  · cases h1 : nameOk l with
    | true => rw [h1] at h; simp [eq_false h0, s_eq, sx_inj, h]
    | false => rw [h1] at h; simp [eq_false h0, s_eq, sx_inj, h, BL]
theorem filter_all {α : Type} (p : α → Bool) (l : List α) : (l.filter p).length = l.length ↔ l.all p = true := by
  rw [List.length_filter_eq_length_iff, List.all_eq_true]
theorem is_named_ok (l : List Nat) (hl : l.length ≤ 100000) : r_law_is_named [.str (sx l)] = .ok (.bl (decide (l = [61]) || nameOk l)) [] := by
  have hl1 : l.length ≤ 1000000 := by omega
  have c1 : lcGo [2] (gNm 2) (mTest (mLoc (fIn false) (mArgs [mName 2, mPure (.tm (.str "abcdefghijklmnopqrstuvwxyz"))]))) (mName 2) (l.map fun c => .str (sx [c])) [] [some (.str (sx l)), none, none] = .ok ((l.map fun c => D.str (sx [c])).filter fun d => (strL d).all isLtr) [some (.str (sx l)), none, none] := by
    rw [lcGo_pure (fun d => (strL d).all isLtr) (fun d => d) (by simp; omega) (fun d hd => by
      obtain ⟨c, hc, rfl⟩ := List.mem_map.mp hd
      refine ⟨[some (.str (sx l)), none, some (.str (sx [c]))], [some (.str (sx l)), none, some (.str (sx [c]))], by simp, by simp [s_ltrs, strL, isLtr]; rfl, fun _ => by simp, fun _ => ⟨.sl 2, [some (.str (sx l)), none, some (.str (sx [c]))], [some (.str (sx l)), none, some (.str (sx [c]))], by simp, by simp, by simp⟩⟩)]
    simp
  have c2 : ((l.map fun c => D.str (sx [c])).filter fun d => (strL d).all isLtr).length = (l.filter isLtr).length := by
    rw [List.filter_map, List.length_map]
    congr 1
    refine List.filter_congr fun c _ => ?_
    simp [strL]
  generalize ((l.map fun c => D.str (sx [c])).filter fun d => (strL d).all isLtr) = low at c1 c2
  have hiff := filter_all isLtr l
  have hfz : D.isFzL (D.frL low) = true := isFzL_frL low
  have hlen : (D.frL low).length = low.length := by rw [frL_map, List.length_map]
  unfold r_law_is_named m_law_is_named nameOk
  by_cases h0 : l = [61]
  · subst h0
    simp at c1
    simp [c1, s_eq]
  · by_cases h1 : 1 ≤ l.length
    · have h1' : 0 < l.length := by omega
      by_cases h2 : l.length ≤ 12
      · have h2' : (l.length : Int) < 13 := by omega
        by_cases h3 : l.all isLtr = true
        · have h4 : (low.length : Int) = l.length := by rw [c2, hiff.mpr h3]
          simp [c1, eq_false h0, s_eq, sx_inj, hl1, h1, h1', h2, h2', h3, h4]
        · have h4 : ¬ (low.length : Int) = l.length := fun q => h3 (hiff.mp (by rw [← c2]; omega))
          simp [c1, eq_false h0, s_eq, sx_inj, hl1, h1, h1', h2, h2', h3, h4]
      · have h2' : ¬ (l.length : Int) < 13 := by omega
        simp [c1, eq_false h0, s_eq, sx_inj, hl1, h1, h1', h2, h2']
    · have h1' : ¬ 0 < l.length := by omega
      simp [c1, eq_false h0, s_eq, sx_inj, hl1, h1, h1']
end Wk
namespace Wk
open PySem Dy L2 TL
theorem cut_off_none {l : List Nat} (hl : l.length ≤ 100000) (h : 32 ∉ l) : r_cut_off [.str (sx l)] = .err BL [] := by
  have hl1 : l.length ≤ 1000000 := by omega
  have hp := part_none h
  unfold r_cut_off m_cut_off
  simp [s_sp, s_mt, hl1, hp, BL]
theorem cut_off_app {a b : List Nat} (hl : (a ++ 32 :: b).length ≤ 100000) (h : 32 ∉ a) : r_cut_off [.str (sx (a ++ 32 :: b))] = .ok (.tup false [.str (sx a), .str (sx b)]) [] := by
  have hl1 : a.length + (b.length + 1) ≤ 1000000 := by simp at hl; omega
  have hp := part_app (b := b) h
  unfold r_cut_off m_cut_off
  simp [s_sp, s_mt, hl1, hp, sx_inj]
/-- cut at the first n spaces -/
def cutN : Nat → List Nat → List (List Nat) × List Nat
  | 0, l => ([], l)
  | n + 1, l => match par [32] [] l with
    | none => ([], l)
    | some (a, b) => (a :: (cutN n b).1, (cutN n b).2)
theorem cutN_none {n : Nat} {l : List Nat} (h : 32 ∉ l) : cutN n l = ([], l) := by
  cases n with
  | zero => rfl
  | succ n => rw [cutN, par_none1 h]
theorem cutN_app {n : Nat} {a b : List Nat} (h : 32 ∉ a) : cutN (n + 1) (a ++ 32 :: b) = (a :: (cutN n b).1, (cutN n b).2) := by
  have := par_part1 (s := 32) (S := []) (acc := []) (rest := b) h
  rw [cutN, show a ++ 32 :: b = a ++ ([32] ++ b) by simp, this]
  rfl
def strM (ps : List (List Nat)) : List D := ps.map fun p => .str (sx p)
abbrev cutB : MS := mSeq (mSet 4 (mLoc fFind (mArgs (mStr (mName 0) :: [mPure (.tm (.str " "))])))) (mSeq (mIf (mTest (mLoc (fCmpI fun i j => decide (i < j)) (mArgs [mName 4, mPure (.tm (.int 0))]))) (mFl .bk) (mNx)) (mSeq (mApp 2 (mSl (mName 0) mNoP (mPart (mName 4)))) (mSet 0 (mSl (mName 0) (mPart (mLoc fAdd (mArgs [mName 4, mPure (.tm (.int 1))]))) mNoP))))
theorem cut_go (m0 : D) : ∀ (ds : List D) (l : List Nat) (acc : List D) (x y : Option D), l.length ≤ 100000 → acc.length + ds.length ≤ 100000 →
    ∃ x' y', forGo (gNm 3) cutB ds [some (.str (sx l)), some m0, some (.lst true acc), x, y] = .ok .nx [some (.str (sx (cutN ds.length l).2)), some m0, some (.lst true (acc ++ strM (cutN ds.length l).1)), x', y']
  | [], l, acc, x, y, _, _ => ⟨x, y, by simp [cutN, strM]⟩
  | d :: ds, l, acc, x, y, hl, ha => by
    have hl1 : l.length ≤ 1000000 := by omega
    rw [List.length_cons] at ha
    have ha1 : acc.length < 1000000 := by omega
    rcases split1 32 l with h | ⟨a, b, rfl, h⟩
    · have hf := find_none h
      refine ⟨some d, some (.int (-1)), ?_⟩
      rw [cutN_none h, forGo_brk (e1 := [some (.str (sx l)), some m0, some (.lst true acc), some d, y]) (e2 := [some (.str (sx l)), some m0, some (.lst true acc), some d, some (.int (-1))]) (by simp) (by simp [s_sp, hf])]
      simp [strM]
    · have hf := find_app (b := b) h
      have hl2 : a.length + (b.length + 1) ≤ 1000000 := by simp at hl; omega
      have c1 := cut_to (a := a) (b := 32 :: b)
      have c2 := cut_from (a := a ++ [32]) (b := b) (n := a.length + 1) (by simp)
      have e1 : a ++ [32] ++ b = a ++ 32 :: b := by simp
      rw [e1] at c2
      have e2 : ((a.length : Int) + 1) = ((a.length + 1 : Nat) : Int) := by omega
      have hz : ¬ ((a.length : Int) < 0) := by omega
      obtain ⟨x', y', ih⟩ := cut_go m0 ds b (acc ++ [.str (sx a)]) (some d) (some (.int a.length)) (by simp at hl; omega) (by rw [List.length_append, List.length_singleton]; omega)
      refine ⟨x', y', ?_⟩
      rw [List.length_cons, cutN_app h, forGo_cons (e1 := [some (.str (sx (a ++ 32 :: b))), some m0, some (.lst true acc), some d, y]) (e2 := [some (.str (sx b)), some m0, some (.lst true (acc ++ [.str (sx a)])), some d, some (.int a.length)]) (by simp) ?_, ih]
      · simp [strM]
      · have c2' : cutS (sx (a ++ 32 :: b)) (some ((a.length : Int) + 1)) none = sx b := by rw [e2]; exact c2
        simp [s_sp, hf, isLstAt, hl2, c1, c2', ha1, hz]
theorem cut_at_ok (l : List Nat) (n : Nat) (hl : l.length ≤ 100000) (hn : n ≤ 3) : r_law_cut_at [.str (sx l), .int n] = .ok (.lst true (strM ((cutN n l).1 ++ [(cutN n l).2]))) [] := by
  obtain ⟨x, y, h⟩ := cut_go (.int n) (rngD 0 1 n) l [] none none hl (by
    have : (rngD 0 1 n).length = n := by simp [rngD]
    rw [this]; simp; omega)
  have hr : (rngD 0 1 n).length = n := by simp [rngD]
  rw [hr, List.nil_append] at h
  have hk : (cutN n l).1.length ≤ n := by
    have : ∀ (n : Nat) (l : List Nat), (cutN n l).1.length ≤ n := by
      intro n
      induction n with
      | zero => intro l; simp [cutN]
      | succ n ih =>
        intro l
        rcases split1 32 l with h | ⟨a, b, rfl, h⟩
        · rw [cutN_none h]; simp
        · rw [cutN_app h]
          have := ih b
          simp
          omega
    exact this n l
  have hfz : D.isFzL (strM (cutN n l).1) = true := z_fzSx _
  have h1 : -1000000 ≤ (n : Int) := by omega
  have h2 : (n : Int) ≤ 3000000 := by omega
  have h3 : (strM (cutN n l).1).length + 1 ≤ 1000000 := by unfold strM; rw [List.length_map]; omega
  unfold r_law_cut_at m_law_cut_at
  simp [h1, h2, h, hfz, h3]
  simp [strM]
end Wk
namespace Wk
open PySem Dy L2 TL
/-! ### addresses told -/
theorem z_fzI' (ps : List (List Nat)) : D.isFzL (ps.map fun p => D.int (val p)) = true := z_fzVals ps
theorem from_zero_ok (n : Nat) : r_from_zero [.int n] = .ok (.bl true) [] := by
  have h1 : isTys "int" ["int"] = true := by decide
  have h2 : isTys "int" ["bool"] = false := by decide
  unfold r_from_zero m_from_zero
  simp [h1, h2]
theorem is_address_ok (ps : List (List Nat)) : r_is_address [.tup false (ps.map fun p => .int (val p))] = .ok (.bl true) [] := by
  have h1 : isTys "tuple" ["tuple"] = true := by decide
  have hf := forGo_inv (g := gNm 1) (body := mIf (mNot (mTruth (mCall r_from_zero [false] (mArgs [mName 1])))) (mRet [] (mPure (.tm (.bl false)))) mNx)
    (fun _ e => ∃ x, e = [some (.tup false (ps.map fun p => .int (val p))), x]) (ds := ps.map fun p => .int (val p)) (k := 0) (e := [some (.tup false (ps.map fun p => .int (val p))), none])
    (fun i d e hd hI => by
      obtain ⟨x, rfl⟩ := hI
      obtain ⟨p, rfl⟩ : ∃ p, d = .int (val p) := by
        rw [List.getElem?_map] at hd
        cases q : ps[i]? with
        | none => rw [q] at hd; cases hd
        | some p => rw [q] at hd; cases hd; exact ⟨p, rfl⟩
      have h := from_zero_ok (val p)
      exact ⟨[some (.tup false (ps.map fun p => .int (val p))), some (.int (val p))], .nx, [some (.tup false (ps.map fun p => .int (val p))), some (.int (val p))], by simp, by simp [h], .inl rfl, _, rfl⟩) ⟨_, rfl⟩
  obtain ⟨e', hf1, x, rfl⟩ := hf
  have hz := z_fzVals ps
  have hfr := frL_isFz _ hz
  unfold r_is_address m_is_address
  simp [h1, hz, hfr, hf1]
theorem strsD_map (l : List (List Nat)) (f : List Nat → Str) : strsD (l.map fun p => .str (f p)) = some (l.map f) := by
  have := y_strsM (l.map f)
  rw [List.map_map] at this
  exact this
theorem join_len : ∀ (ps : List (List Nat)), ps ≠ [] → (joinL [46] ps).length + 1 = (ps.map (·.length)).sum + ps.length
  | [], h => absurd rfl h
  | [p], _ => by simp [joinL]
  | p :: q :: r, _ => by
    have ih := join_len (q :: r) (by simp)
    have e : joinL [46] (p :: q :: r) = p ++ ([46] ++ joinL [46] (q :: r)) := rfl
    rw [e, List.length_append, List.length_append]
    simp only [List.map_cons, List.sum_cons, List.length_cons, List.length_nil] at ih ⊢
    omega
theorem join_sx (ps : List (List Nat)) : Txt.join (sx [46]) (ps.map sx) = sx (joinL [46] ps) := by
  rw [join_eq]
  refine ext_tl ?_
  rw [tl_join, List.map_map]
  have : tl ∘ sx = id := rfl
  rw [this, List.map_id]
  rfl
theorem format_address_ok {l : List Nat} (hl : l.length ≤ 100000) (h : addrOk l = true) : r_format_address [addrD l] = .ok (.str (sx l)) [] := by
  unfold addrD
  by_cases h0 : l = [45]
  · have h1 := is_address_ok []
    rw [List.map_nil] at h1
    unfold r_format_address m_format_address
    simp [h0, h1, s_dash]
  · rw [if_neg h0]
    unfold addrOk at h
    rw [decide_eq_false h0, Bool.false_or] at h
    have hne := parts_ne l
    have hm := parts_many l
    have h1 := is_address_ok (parts l)
    have hz := z_fzVals (parts l)
    have hfr := frL_isFz _ hz
    have e0 : ((parts l).map fun p => D.int (val p)).isEmpty = false := by
      cases q : parts l with
      | nil => exact absurd q hne
      | cons a b => rfl
    have c1 : lcGo [1] (gNm 1) (mPure true) (mLoc fStrI (mArgs [mName 1])) ((parts l).map fun p => .int (val p)) [] [some (.tup false ((parts l).map fun p => .int (val p))), none] = .ok ((parts l).map fun p => .str (sx p)) [some (.tup false ((parts l).map fun p => .int (val p))), none] := by
      rw [lcGo_pure (fun _ => true) (fun d => .str (toString (intV d))) (by simp; omega) (fun d hd => by
        obtain ⟨p, hp, rfl⟩ := List.mem_map.mp hd
        have hv := (numL_val_of (List.all_eq_true.mp h p hp)).2
        have hlg : ((val p : Nat) : Int).natAbs.log2 < 1920 := log2_lt (k := 1920) (by
          have : ((val p : Nat) : Int).natAbs = val p := Int.natAbs_natCast _
          rw [this]
          exact Nat.lt_trans hv (by decide)) (by decide)
        have hlg' : (val p).log2 < 1920 := by simpa using hlg
        refine ⟨[some (.tup false ((parts l).map fun p => .int (val p))), some (.int (val p))], _, by simp, rfl, (fun q => nomatch q), fun _ => ⟨.tm (.str (toString ((val p : Nat) : Int))), [some (.tup false ((parts l).map fun p => .int (val p))), some (.int (val p))], [some (.tup false ((parts l).map fun p => .int (val p))), some (.int (val p))], by simp [hlg'], by simp [intV], by simp⟩⟩)]
      rw [List.nil_append, List.filter_eq_self.mpr (fun _ _ => rfl), List.map_map]
      congr 1
      refine List.map_congr_left fun p hp => ?_
      show D.str (toString ((val p : Nat) : Int)) = _
      rw [str_num, (numL_val_of (List.all_eq_true.mp h p hp)).1]
    have hs := strsD_map (parts l) sx
    have hlen : ((((parts l).map sx).map (·.length)).sum + ((parts l).map sx).length * 1) ≤ 1000000 := by
      have hj := join_len (parts l) hne
      rw [parts_join] at hj
      have e : ((parts l).map sx).map (·.length) = (parts l).map (·.length) := by
        rw [List.map_map]
        refine List.map_congr_left fun p _ => ?_
        exact sx_len p
      rw [e, List.length_map]
      omega
    have hj := join_sx (parts l)
    rw [parts_join] at hj
    simp only [List.length_map, Nat.mul_one] at hlen
    have hlen2 : (List.map ((fun x : Str => x.length) ∘ sx) (parts l)).sum + (parts l).length ≤ 1000000 := by simpa using hlen
    unfold r_format_address m_format_address
    simp [h1, e0, hne, hz, hfr, c1, hs, hj, s_dot, hlen2]
end Wk
namespace Wk
open PySem Dy L2 TL
def wText : List Nat := [116, 101, 120, 116]
def wSpare : List Nat := [115, 112, 97, 114, 101]
def wMend : List Nat := [109, 101, 110, 100]
def wFuller : List Nat := [102, 117, 108, 108, 101, 114]
def wLesser : List Nat := [108, 101, 115, 115, 101, 114]
def wForbid : List Nat := [102, 111, 114, 98, 105, 100]
def wCut : List Nat := [99, 117, 116]
def wTrade : List Nat := [116, 114, 97, 100, 101]
def wEdit : List Nat := [101, 100, 105, 116]
def wPut : List Nat := [112, 117, 116]
def wCure : List Nat := [99, 117, 114, 101]
def wUndo : List Nat := [117, 110, 100, 111]
theorem s_text : (("text" : Str)) = sx wText := by decide +kernel
theorem s_spare : (("spare" : Str)) = sx wSpare := by decide +kernel
theorem s_mend : (("mend" : Str)) = sx wMend := by decide +kernel
theorem s_fuller : (("fuller" : Str)) = sx wFuller := by decide +kernel
theorem s_lesser : (("lesser" : Str)) = sx wLesser := by decide +kernel
theorem s_forbid : (("forbid" : Str)) = sx wForbid := by decide +kernel
theorem s_cut : (("cut" : Str)) = sx wCut := by decide +kernel
theorem s_trade : (("trade" : Str)) = sx wTrade := by decide +kernel
theorem s_edit : (("edit" : Str)) = sx wEdit := by decide +kernel
theorem s_put : (("put" : Str)) = sx wPut := by decide +kernel
theorem s_cure : (("cure" : Str)) = sx wCure := by decide +kernel
theorem s_undo : (("undo" : Str)) = sx wUndo := by decide +kernel
/-- the table of the law's reader -/
def tab0 : List (Key × D) := [(.inr (sx wText), .int 1), (.inr (sx wSpare), .int 1), (.inr (sx wMend), .int 1), (.inr (sx wFuller), .int 1), (.inr (sx wLesser), .int 1), (.inr (sx wForbid), .int 1), (.inr (sx wCut), .int 1)]
def tab1 : List (Key × D) := tab0 ++ [(.inr (sx wTrade), .int 2)]
def tab2 : List (Key × D) := tab1 ++ [(.inr (sx wEdit), .int 3)]
def tab : List (Key × D) := tab2 ++ [(.inr (sx wPut), .int 3)]
theorem t_disp : fDisp [.str (sx wText), .int 1, .str (sx wSpare), .int 1, .str (sx wMend), .int 1, .str (sx wFuller), .int 1, .str (sx wLesser), .int 1, .str (sx wForbid), .int 1, .str (sx wCut), .int 1] = some (.dic true tab0) := by rfl
theorem t_put1 : putD tab0 (.inr (sx wTrade)) (.int 2) = tab1 := by rfl
theorem t_put2 : putD tab1 (.inr (sx wEdit)) (.int 3) = tab2 := by rfl
theorem t_put3 : putD tab2 (.inr (sx wPut)) (.int 3) = tab := by rfl
theorem t_fz0 : D.isFzK tab0 = true := by rfl
theorem t_fz1 : D.isFzK tab1 = true := by rfl
theorem t_fz2 : D.isFzK tab2 = true := by rfl
theorem t_fz3 : D.isFzK tab = true := by rfl
theorem t_l0 : tab0.length < 1000000 := by decide
theorem t_l1 : tab1.length < 1000000 := by decide
theorem t_l2 : tab2.length < 1000000 := by decide
@[simp] theorem k_str (s : Str) : keyD (.str s) = some (.inr s) := rfl
@[simp] theorem k_in (n : Bool) (d : D) (o : Bool) (kvs : List (Key × D)) : fInK n [d, .dic o kvs] = (match keyD d with
    | some k => some (.bl (if n then !(valD kvs k).isSome else (valD kvs k).isSome))
    | none => none) := rfl
@[simp] theorem k_ix (d : D) (o : Bool) (kvs : List (Key × D)) : fIxK [.dic o kvs, d] = (match keyD d with
    | some k => match valD kvs k with
      | some d => if d.isFz = true then some d else none
      | none => none
    | none => none) := rfl
@[simp] theorem k_frD (o : Bool) (kvs : List (Key × D)) : D.fr (.dic o kvs) = .dic false (D.frK kvs) := rfl
def words : List (List Nat) := [wText, wSpare, wMend, wFuller, wLesser, wForbid, wCut, wTrade, wEdit, wPut]
theorem val_tab (w : List Nat) : valD tab (.inr (sx w)) = if w ∈ [wText, wSpare, wMend, wFuller, wLesser, wForbid, wCut] then some (.int 1) else if w = wTrade then some (.int 2) else if w = wEdit ∨ w = wPut then some (.int 3) else none := by
  have h : ∀ (a : List Nat), ((Sum.inr (sx a) : Key) = Sum.inr (sx w)) ↔ w = a := fun a => ⟨fun q => (sx_inj.mp (Sum.inr.inj q)).symm, fun q => by rw [q]⟩
  show valD ([(.inr (sx wText), .int 1), (.inr (sx wSpare), .int 1), (.inr (sx wMend), .int 1), (.inr (sx wFuller), .int 1), (.inr (sx wLesser), .int 1), (.inr (sx wForbid), .int 1), (.inr (sx wCut), .int 1), (.inr (sx wTrade), .int 2), (.inr (sx wEdit), .int 3), (.inr (sx wPut), .int 3)] : List (Key × D)) (.inr (sx w)) = _
  simp only [valD, h, List.mem_cons, List.not_mem_nil, or_false]
  by_cases h1 : w = wText
  · simp [h1]
  by_cases h2 : w = wSpare
  · simp [h2]
  by_cases h3 : w = wMend
  · simp [h3]
  by_cases h4 : w = wFuller
  · simp [h4]
  by_cases h5 : w = wLesser
  · simp [h5]
  by_cases h6 : w = wForbid
  · simp [h6]
  by_cases h7 : w = wCut
  · simp [h7]
  by_cases h8 : w = wTrade
  · subst h8; rfl
  by_cases h9 : w = wEdit
  · subst h9; rfl
  by_cases h10 : w = wPut
  · subst h10; rfl
  simp [h1, h2, h3, h4, h5, h6, h7, h8, h9, h10]
/-- a word in a written tuple of words -/
theorem in_words (w : Str) (ws : List Str) : inD (.str w) (.tup false (ws.map .str)) = some (decide (w ∈ ws)) := by
  have h : ∀ ws : List Str, ((ws.map D.str).all flatD) = true := by
    intro ws
    induction ws with
    | nil => rfl
    | cons a r ih => rw [List.map_cons, List.all_cons, ih]; rfl
  have h2 : ∀ ws : List Str, ((ws.map D.str).any fun y => eqF y (.str w)) = decide (w ∈ ws) := by
    intro ws
    induction ws with
    | nil => rfl
    | cons a r ih =>
      rw [List.map_cons, List.any_cons, ih]
      show (a == w || decide (w ∈ r)) = _
      by_cases q : a = w
      · subst q; simp
      · have q2 : ¬ w = a := fun z => q z.symm
        simp [q, q2]
  show (if (flatD (.str w) && (ws.map D.str).all flatD) = true then some ((ws.map D.str).any fun y => eqF y (.str w)) else none) = _
  rw [if_pos (by rw [h]; rfl), h2]
end Wk
namespace Wk
open PySem Dy L2 TL
@[simp] theorem S_text : (("text" : Str)) = sx wText := s_text
@[simp] theorem S_spare : (("spare" : Str)) = sx wSpare := s_spare
@[simp] theorem S_mend : (("mend" : Str)) = sx wMend := s_mend
@[simp] theorem S_fuller : (("fuller" : Str)) = sx wFuller := s_fuller
@[simp] theorem S_lesser : (("lesser" : Str)) = sx wLesser := s_lesser
@[simp] theorem S_forbid : (("forbid" : Str)) = sx wForbid := s_forbid
@[simp] theorem S_cut : (("cut" : Str)) = sx wCut := s_cut
@[simp] theorem S_trade : (("trade" : Str)) = sx wTrade := s_trade
@[simp] theorem S_edit : (("edit" : Str)) = sx wEdit := s_edit
@[simp] theorem S_put : (("put" : Str)) = sx wPut := s_put
@[simp] theorem S_cure : (("cure" : Str)) = sx wCure := s_cure
@[simp] theorem S_undo : (("undo" : Str)) = sx wUndo := s_undo
@[simp] theorem S_disp : fDisp [.str (sx wText), .int 1, .str (sx wSpare), .int 1, .str (sx wMend), .int 1, .str (sx wFuller), .int 1, .str (sx wLesser), .int 1, .str (sx wForbid), .int 1, .str (sx wCut), .int 1] = some (.dic true tab0) := t_disp
@[simp] theorem S_put1 : putD tab0 (.inr (sx wTrade)) (.int 2) = tab1 := t_put1
@[simp] theorem S_put2 : putD tab1 (.inr (sx wEdit)) (.int 3) = tab2 := t_put2
@[simp] theorem S_put3 : putD tab2 (.inr (sx wPut)) (.int 3) = tab := t_put3
@[simp] theorem S_fz0 : D.isFzK tab0 = true := t_fz0
@[simp] theorem S_fz1 : D.isFzK tab1 = true := t_fz1
@[simp] theorem S_fz2 : D.isFzK tab2 = true := t_fz2
@[simp] theorem S_l0 : tab0.length < 1000000 := t_l0
@[simp] theorem S_l1 : tab1.length < 1000000 := t_l1
@[simp] theorem S_l2 : tab2.length < 1000000 := t_l2
@[simp] theorem S_inj (a b : List Nat) : (sx a = sx b) = (a = b) := propext sx_inj
@[simp] theorem S_str : isTys "str" ["str"] = true := by decide
@[simp] theorem S_flat0 : flatM [] = [] := rfl
@[simp] theorem S_flat1 (a b : M OV) (r : List (M OV × M OV)) : flatM ((a, b) :: r) = a :: b :: flatM r := rfl
@[simp] theorem A_0 (x : D) (r : List D) : atI (x :: r) 0 = some x := by rw [atI_nat (by omega) (by simp)]; rfl
@[simp] theorem A_1 (x y : D) (r : List D) : atI (x :: y :: r) 1 = some y := by rw [atI_nat (by omega) (by simp; omega)]; rfl
@[simp] theorem A_2 (x y z : D) (r : List D) : atI (x :: y :: z :: r) 2 = some z := by rw [atI_nat (by omega) (by simp; omega)]; rfl
@[simp] theorem A_3 (x y z u : D) (r : List D) : atI (x :: y :: z :: u :: r) 3 = some u := by rw [atI_nat (by omega) (by simp; omega)]; rfl
/-- what a deed holds -/
def Part (d : D) : Prop := (∃ s, d = .str s) ∨ (∃ i, d = .int i) ∨ ∃ is : List Int, d = .tup false (is.map .int) ∧ is.length ≤ 200000
def Good (t : D) : Prop := ∃ xs, t = .tup false xs ∧ xs.length ≤ 4 ∧ ∀ x ∈ xs, Part x
def Both (l : List Nat) : Prop := (∃ t, r_parse_deed [.str (sx l)] = .ok t [] ∧ r_law_read [.str (sx l)] = .ok (.lst true [t]) [] ∧ r_format_deed [t] = .ok (.str (sx l)) [] ∧ Good t) ∨
  (r_parse_deed [.str (sx l)] = .err BL [] ∧ r_law_read [.str (sx l)] = .ok (.lst true []) [])
@[simp] theorem inW2 (l a b : List Nat) : inD (.str (sx l)) (.tup false [.str (sx a), .str (sx b)]) = some (decide (l = a ∨ l = b)) := by
  have := in_words (sx l) [sx a, sx b]
  simp only [List.map_cons, List.map_nil, List.mem_cons, List.not_mem_nil, or_false, sx_inj] at this
  exact this
@[simp] theorem inW3 (l a b c : List Nat) : inD (.str (sx l)) (.tup false [.str (sx a), .str (sx b), .str (sx c)]) = some (decide (l = a ∨ l = b ∨ l = c)) := by
  have := in_words (sx l) [sx a, sx b, sx c]
  simp only [List.map_cons, List.map_nil, List.mem_cons, List.not_mem_nil, or_false, sx_inj] at this
  exact this
theorem not_bare {w r c : List Nat} (h : 32 ∉ c) : ¬ (w ++ 32 :: r = c) := fun q => h (by rw [← q]; simp)
theorem bare_ok {l : List Nat} (h : l = wCure ∨ l = wUndo) : Both l := by
  refine .inl ⟨.tup false [.str (sx l)], ?_, ?_, ?_, [.str (sx l)], rfl, by simp, fun x m => .inl ⟨sx l, by simpa using m⟩⟩
  · unfold r_parse_deed m_parse_deed
    simp [h]
  · unfold r_law_read m_law_read
    rcases h with h | h <;> simp [h]
  · have e : Txt.join (sx [32]) [sx l] = sx l := by
      rw [join_eq]
      exact ext_tl (by rw [tl_join]; rfl)
    have hl : l.length ≤ 1000000 := by rcases h with h | h <;> rw [h] <;> decide
    unfold r_format_deed m_format_deed
    rcases h with h | h <;> subst h <;> simp (config := { decide := true }) [s_sp, e]
theorem none_ok {l : List Nat} (hl : l.length ≤ 100000) (h : 32 ∉ l) (hb1 : ¬ l = wCure) (hb2 : ¬ l = wUndo) : Both l := by
  refine .inr ⟨?_, ?_⟩
  · have hc := cut_off_none hl h
    unfold r_parse_deed m_parse_deed
    simp [hb1, hb2, hc, BL]
  · have c : ∀ k : Nat, k ≤ 3 → r_law_cut_at [.str (sx l), .int k] = .ok (.lst true [.str (sx l)]) [] := fun k hk => by
      have := cut_at_ok l k hl hk
      rw [cutN_none h] at this
      exact this
    have c1 : r_law_cut_at [.str (sx l), .int 1] = .ok (.lst true [.str (sx l)]) [] := c 1 (by decide)
    have c2 : r_law_cut_at [.str (sx l), .int 2] = .ok (.lst true [.str (sx l)]) [] := c 2 (by decide)
    have c3 : r_law_cut_at [.str (sx l), .int 3] = .ok (.lst true [.str (sx l)]) [] := c 3 (by decide)
    have hv := val_tab l
    unfold r_law_read m_law_read
    by_cases h1 : l ∈ [wText, wSpare, wMend, wFuller, wLesser, wForbid, wCut]
    · rw [if_pos h1] at hv
      simp [hb1, hb2, c1, hv]
    · rw [if_neg h1] at hv
      by_cases h2 : l = wTrade
      · rw [if_pos h2] at hv
        simp [hb1, hb2, c1, c2, hv]
      · rw [if_neg h2] at hv
        by_cases h3 : l = wEdit ∨ l = wPut
        · rw [if_pos h3] at hv
          simp [hb1, hb2, c1, c3, hv]
        · rw [if_neg h3] at hv
          simp [hb1, hb2, c1, hv]
end Wk
namespace Wk
open PySem Dy L2 TL
theorem alike_str (n : Nat) (s : Str) : r_law_alike (n + 1) [.str s, .str s] = .ok (.bl true) [] := by
  have a1 : isTys "str" ["list", "tuple"] = false := by decide
  have a2 : isTys "str" ["dict"] = false := by decide
  have a3 : isTys "str" ["int"] = false := by decide
  have a4 : isTys "str" ["bool"] = false := by decide
  have b1 : isNonD (.str s) = false := rfl
  show mDef 4 [false, false] (m_law_alike (r_law_alike n)) [.str s, .str s] = _
  unfold m_law_alike
  simp [a1, a2, a3, a4, fIsN, b1]
theorem alike_int (n : Nat) (i : Int) : r_law_alike (n + 1) [.int i, .int i] = .ok (.bl true) [] := by
  have a1 : isTys "int" ["list", "tuple"] = false := by decide
  have a2 : isTys "int" ["dict"] = false := by decide
  have a3 : isTys "int" ["int"] = true := by decide
  have a4 : isTys "int" ["bool"] = false := by decide
  have a5 : isTys "int" ["str"] = false := by decide
  have b1 : isNonD (.int i) = false := rfl
  show mDef 4 [false, false] (m_law_alike (r_law_alike n)) [.int i, .int i] = _
  unfold m_law_alike
  simp [a1, a2, a3, a4, a5, fIsN, b1]
abbrev alikeT (rec : List D → Ret) : M Bool := mNot (mTruth (mCall (rec) [false, false] (mArgs [mLoc fIx (mArgs [mName 0, mName 2]), mLoc fIx (mArgs [mName 1, mName 2])])))
theorem alike_lc {rec : List D → Ret} {xs : List D} {seq : D} (hs : seq = .lst false xs ∨ seq = .tup false xs) (hz : D.isFzL xs = true) (h : ∀ x ∈ xs, rec [x, x] = .ok (.bl true) []) (hn : xs.length ≤ 1000000) :
    lcGo [2] (gNm 2) (alikeT rec) (mName 2) (rngD 0 1 xs.length) [] [some seq, some seq, none, none] = .ok [] [some seq, some seq, none, none] := by
  have hfr := frL_isFz _ hz
  rw [lcGo_pure (fun _ => false) (fun d => d) (by simp [rngD]; omega) (fun d hd => by
    obtain ⟨i, hi, rfl⟩ := List.mem_map.mp hd
    have hi' : i < xs.length := by simpa using hi
    have e : ((0 : Int) + (i : Nat) * 1) = (i : Int) := by omega
    rw [e]
    have ha : atI xs (i : Int) = some xs[i] := by
      rw [atI_nat (by omega) (by omega)]
      simp
    have hx : xs[i].isFz = true := by
      rw [isFzL_all, List.all_eq_true] at hz
      exact hz _ (List.getElem_mem hi')
    have hxf := fr_isFz _ hx
    have hk := h xs[i] (List.getElem_mem hi')
    refine ⟨[some seq, some seq, some (.int i), none], [some seq, some seq, some (.int i), none], by simp, ?_, fun _ => by simp, fun q => nomatch q⟩
    rcases hs with rfl | rfl <;> simp [ha, hx, hxf, hk, alikeT])]
  simp
theorem alike_seq {n : Nat} {xs : List D} {seq : D} (hs : seq = .lst false xs ∨ seq = .tup false xs) (hz : D.isFzL xs = true) (h : ∀ x ∈ xs, r_law_alike n [x, x] = .ok (.bl true) []) (hn : xs.length ≤ 1000000) :
    r_law_alike (n + 1) [seq, seq] = .ok (.bl true) [] := by
  have hl := alike_lc (rec := r_law_alike n) hs hz h hn
  have h1 : -1000000 ≤ (xs.length : Int) := by omega
  have h2 : (xs.length : Int) ≤ 3000000 := by omega
  have a1 : isTys "list" ["list", "tuple"] = true := by decide
  have a2 : isTys "tuple" ["list", "tuple"] = true := by decide
  have a3 : isTys "list" ["list"] = true := by decide
  have a4 : isTys "list" ["tuple"] = false := by decide
  have a5 : isTys "tuple" ["list"] = false := by decide
  have a6 : isTys "tuple" ["tuple"] = true := by decide
  show mDef 4 [false, false] (m_law_alike (r_law_alike n)) [seq, seq] = _
  unfold m_law_alike
  unfold alikeT at hl
  rcases hs with rfl | rfl
  · simp [a1, a2, a3, a4, a5, a6, h1, h2, hl]
  · simp [a1, a2, a3, a4, a5, a6, h1, h2, hl]
end Wk
namespace Wk
open PySem Dy L2 TL
theorem x_forCons (g : MG) (body : MS) (d : D) (r : List D) (e : En) : forGo g body (d :: r) e = (match g d e with
    | .ok _ e1 => match body e1 with
      | .ok .nx e2 => forGo g body r e2
      | .ok .ct e2 => forGo g body r e2
      | .ok .bk e2 => .ok .nx e2
      | .ok (.rt z) e2 => .ok (.rt z) e2
      | .err x e2 => .err x e2
      | .stuck => .stuck
    | _ => .stuck) := rfl
theorem rng2 : rngD 0 1 2 = [.int 0, .int 1] := rfl
theorem fine_ok {s : Str} {t : D} (hz : t.isFz = true) (hp : r_parse_deed [.str s] = .ok t []) (ha : r_law_alike 5 [t, t] = .ok (.bl true) []) (hf : r_format_deed [t] = .ok (.str s) []) :
    r_law_fine [.str s, .lst false [t]] = .ok (.bl true) [] := by
  have htf := fr_isFz _ hz
  have h1 : r_law_alike 6 [.lst false [t], .lst false [t]] = .ok (.bl true) [] := alike_seq (.inl rfl) (by simp [hz]) (fun x m => by simp at m; rw [m]; exact ha) (by simp)
  have h2 := alike_str 5 s
  unfold r_law_fine m_law_fine
  simp [rng2, x_forCons, mTryA, hp, htf, hz, h1, h2, hf]
theorem fine_err {v : D} (hz : v.isFz = true) (hx : v.noX = true) (hp : r_parse_deed [v] = .err BL []) : r_law_fine [v, .lst false []] = .ok (.bl true) [] := by
  have hvf := fr_isFz _ hz
  have h1 : r_law_alike 6 [.lst false [], .lst false []] = .ok (.bl true) [] := alike_seq (.inl rfl) rfl (fun _ m => nomatch m) (by simp)
  have c1 : ct_BadLine "BadLine" = some true := by decide +kernel
  have c2 : tb_0 "BadLine" = some true := by decide +kernel
  have c3 : tb_1 "BadLine" = some false := by decide +kernel
  have c4 : okNm "BadLine" = true := by decide +kernel
  unfold r_law_fine m_law_fine
  simp [rng2, x_forCons, mTryA, hp, hvf, h1, BL, c1, c2, c3, c4, mIsX, noXE, D.noX, D.noXL, hx]
end Wk
namespace Wk
open PySem Dy L2 TL
theorem odds_ok {n m : Int} {d : D} (h : Sto n d) (hn : n ≤ 10 ^ 18) (hm : m < 1073741824) : ∃ b d', r_law_odds [d, .int m] = .ok (.bl b) [d'] ∧ Sto (n + 1) d' := by
  obtain ⟨v, d', h1, h2, _⟩ := take_ok (m := m) h (by omega) hm
  refine ⟨decide (v = 0), d', ?_, h2⟩
  unfold r_law_odds m_law_odds
  simp [h1]
theorem letter_at {w : List Nat} {v : Int} (h0 : 0 ≤ v) (h1 : v < w.length) : ∃ c, atI w v = some c := by
  have : v.toNat < w.length := by omega
  exact ⟨w[v.toNat], by rw [atI_nat h0 h1]; simp [this]⟩
theorem one_strs : ∀ (zs : List D), (∀ z ∈ zs, ∃ c, z = .str (sx [c])) → ∃ cs : List Nat, zs = cs.map (fun c => .str (sx [c])) ∧ cs.length = zs.length
  | [], _ => ⟨[], rfl, rfl⟩
  | z :: zs, h => by
    obtain ⟨c, rfl⟩ := h z List.mem_cons_self
    obtain ⟨cs, h1, h2⟩ := one_strs zs fun x m => h x (List.mem_cons_of_mem _ m)
    exact ⟨c :: cs, by rw [h1]; rfl, by simp [h2]⟩
theorem strs_of : ∀ (zs : List D) (k : Nat), (∀ z ∈ zs, ∃ l, z = .str (sx l) ∧ l.length ≤ k) → ∃ ls : List (List Nat), zs = ls.map (fun l => .str (sx l)) ∧ ls.length = zs.length ∧ ∀ l ∈ ls, l.length ≤ k
  | [], _, _ => ⟨[], rfl, rfl, fun _ m => nomatch m⟩
  | z :: zs, k, h => by
    obtain ⟨l, rfl, hl⟩ := h z List.mem_cons_self
    obtain ⟨ls, h1, h2, h3⟩ := strs_of zs k fun x m => h x (List.mem_cons_of_mem _ m)
    refine ⟨l :: ls, by rw [h1]; rfl, by simp [h2], fun x m => ?_⟩
    rcases List.mem_cons.mp m with rfl | m
    · exact hl
    · exact h3 x m
theorem joinL_len : ∀ (S : List Nat) (k : Nat) (ls : List (List Nat)), (∀ l ∈ ls, l.length ≤ k) → (joinL S ls).length ≤ ls.length * (k + S.length)
  | S, k, [], _ => by simp [joinL]
  | S, k, [p], h => by
    have := h p (by simp)
    show p.length ≤ _
    simp
    omega
  | S, k, p :: q :: r, h => by
    have ih := joinL_len S k (q :: r) fun l m => h l (List.mem_cons_of_mem _ m)
    have hp := h p List.mem_cons_self
    have e : joinL S (p :: q :: r) = p ++ (S ++ joinL S (q :: r)) := rfl
    rw [e, List.length_append, List.length_append]
    have : (p :: q :: r).length * (k + S.length) = (q :: r).length * (k + S.length) + (k + S.length) := by
      rw [List.length_cons (as := q :: r), Nat.succ_mul]
    omega
theorem sum_le : ∀ (k : Nat) (ls : List (List Nat)), (∀ l ∈ ls, l.length ≤ k) → (ls.map (·.length)).sum ≤ ls.length * k
  | k, [], _ => by simp
  | k, p :: r, h => by
    have ih := sum_le k r fun l m => h l (List.mem_cons_of_mem _ m)
    have hp := h p List.mem_cons_self
    rw [List.map_cons, List.sum_cons, List.length_cons, Nat.succ_mul]
    omega
/-- a joined list of texts -/
theorem join_ok (S : List Nat) (k : Nat) (ls : List (List Nat)) (h : ∀ l ∈ ls, l.length ≤ k) (hk : ls.length * (k + S.length) ≤ 1000000) : fJoin [.str (sx S), .lst true (ls.map fun l => .str (sx l))] = some (.str (sx (joinL S ls))) := by
  have h1 := strsD_map ls sx
  have h2 := sum_le k ls h
  have h3 : ((ls.map sx).map (·.length)) = ls.map (·.length) := by
    rw [List.map_map]
    exact List.map_congr_left fun p _ => sx_len p
  have h4 : Txt.join (sx S) (ls.map sx) = sx (joinL S ls) := by
    rw [join_eq]
    refine ext_tl ?_
    rw [tl_join, List.map_map]
    have : tl ∘ sx = id := rfl
    rw [this, List.map_id]
    rfl
  have h5 : ls.length * (k + S.length) = ls.length * k + ls.length * S.length := Nat.mul_add _ _ _
  rw [y_joinL, h1]
  simp only []
  rw [h3, List.length_map, sx_len, if_pos (by omega), h4]
theorem name_ok {n : Int} {d : D} (h : Sto n d) (hn : n ≤ 10 ^ 17) : ∃ l d', r_law_name [d] = .ok (.str (sx l)) [d'] ∧ Sto (n + 20) d' ∧ l.length ≤ 12 := by
  obtain ⟨x, d1, h1, h2, h3⟩ := pick_ok (o := false) (xs := [.int 1, .int 1, .int 2, .int 3, .int 5, .int 8, .int 11, .int 12]) h (by omega) (by simp) (by simp) (by simp)
  obtain ⟨k, rfl, hk⟩ : ∃ k : Nat, x = .int k ∧ k ≤ 12 := by
    simp at h3
    rcases h3 with rfl | rfl | rfl | rfl | rfl | rfl | rfl
    · exact ⟨1, rfl, by omega⟩
    · exact ⟨2, rfl, by omega⟩
    · exact ⟨3, rfl, by omega⟩
    · exact ⟨5, rfl, by omega⟩
    · exact ⟨8, rfl, by omega⟩
    · exact ⟨11, rfl, by omega⟩
    · exact ⟨12, rfl, by omega⟩
  have hr : (rngD 0 1 k).length = k := by simp [rngD]
  obtain ⟨zs, e', c1, c2, c3, d2, rfl, c4⟩ := lcGo_all (vs := [2]) (g := gNm 2) (tt := mPure true) (te := mLoc fIx (mArgs [mPure (.tm (.str "abcdefghijklmnopqrstuvwxyz")), mCall r_law_take [true, false] (mArgs [mName 0, mPure (.tm (.int 26))])])) (P := fun z => ∃ c, z = .str (sx [c]))
    (fun j e => ∃ d, e = [some d, some (.int k), none] ∧ Sto (n + 1 + j) d) (ds := rngD 0 1 k) (acc := []) (k := 0) (e := [some d1, some (.int k), none]) (by rw [hr]; simp; omega)
    (fun i z e hz hI => by
      obtain ⟨da, rfl, hs⟩ := hI
      have hik : i < k := by
        have := (List.getElem?_eq_some_iff.mp hz).1
        rw [hr] at this
        exact this
      obtain ⟨v, db, t1, t2, t3, t4, _⟩ := take_ok (m := 26) hs (by omega) (by omega)
      obtain ⟨c, hc⟩ := letter_at (w := ltrs) t3 (t4 (by omega))
      have hl26 : ltrs.length ≤ 1000000 := by decide
      refine ⟨[some da, some (.int k), some z], [some da, some (.int k), some z], .tm (.str (sx [c])), [some db, some (.int k), some z], .str (sx [c]), [some db, some (.int k), some z], by simp, by simp, by simp [t1, s_ltrs, hc, hl26], by simp, ⟨c, rfl⟩, db, by simp, ?_⟩
      have e1 : n + 1 + ((0 + i + 1 : Nat) : Int) = n + 1 + ((0 + i : Nat) : Int) + 1 := by omega
      rw [e1]
      exact t2)
    ⟨d1, rfl, by simpa using h2⟩
  obtain ⟨cs, rfl, hcs⟩ := one_strs zs c3
  have hlen : cs.length ≤ 12 := by rw [hcs, c2, hr]; exact hk
  have hj := join_ok [] 1 (cs.map fun c => [c]) (fun l m => by obtain ⟨c, _, rfl⟩ := List.mem_map.mp m; simp) (by simp; omega)
  rw [List.map_map] at hj
  have hj2 := joinL_len [] 1 (cs.map fun c => [c]) (fun l m => by obtain ⟨c, _, rfl⟩ := List.mem_map.mp m; simp)
  refine ⟨joinL [] (cs.map fun c => [c]), d2, ?_, c4.mono (by rw [hr]; omega), by simp at hj2; omega⟩
  have hk1 : -1000000 ≤ (k : Int) := by omega
  have hk2 : (k : Int) ≤ 3000000 := by omega
  have hj3 : fJoin [.str (sx []), .lst true (cs.map fun c => D.str (sx [c]))] = some (.str (sx (joinL [] (cs.map fun c => [c])))) := hj
  rw [List.nil_append] at c1
  rw [y_joinL] at hj3
  unfold r_law_name m_law_name
  simp [h1, hk1, hk2, c1, s_mt]
  simp at hj3
  simp [hj3]
end Wk
namespace Wk
open PySem Dy L2 TL
theorem numL_len5 {k : Nat} (h : k ≤ 10000) : (numL k).length ≤ 5 := numL_len (by decide) (by omega)
theorem number_text_ok {n : Int} {d : D} (h : Sto n d) (hn : n ≤ 10 ^ 17) : ∃ l d', r_law_number_text [d] = .ok (.str (sx l)) [d'] ∧ Sto (n + 2) d' ∧ l.length ≤ 5 := by
  obtain ⟨v, d0, t1, t2, t3, t4, _⟩ := take_ok (m := 10000) h (by omega) (by omega)
  obtain ⟨x, d1, h1, h2, h3⟩ := pick_ok (o := false) (xs := [.int 0, .int 1, .int 2, .int 9, .int 10, .int 99, .int 100, .int 999, .int 1000, .int 9999, .int v]) t2 (by omega) (by simp) (by simp) (by simp)
  obtain ⟨k, rfl, hk⟩ : ∃ k : Nat, x = .int k ∧ k ≤ 10000 := by
    simp at h3
    rcases h3 with rfl | rfl | rfl | rfl | rfl | rfl | rfl | rfl | rfl | rfl | rfl
    · exact ⟨0, rfl, by omega⟩
    · exact ⟨1, rfl, by omega⟩
    · exact ⟨2, rfl, by omega⟩
    · exact ⟨9, rfl, by omega⟩
    · exact ⟨10, rfl, by omega⟩
    · exact ⟨99, rfl, by omega⟩
    · exact ⟨100, rfl, by omega⟩
    · exact ⟨999, rfl, by omega⟩
    · exact ⟨1000, rfl, by omega⟩
    · exact ⟨9999, rfl, by omega⟩
    · have := t4 (by omega)
      exact ⟨v.toNat, by congr 1; omega, by omega⟩
  have hlg : (k : Nat).log2 < 1920 := by
    by_cases z : k = 0
    · rw [z]; decide
    · have := (Nat.log2_lt (k := 14) z).mpr (by omega)
      omega
  refine ⟨numL k, d1, ?_, by have e : n + 2 = n + 1 + 1 := by omega
                             rw [e]; exact h2, numL_len5 hk⟩
  have hs := str_num k
  unfold r_law_number_text m_law_number_text
  simp [t1, h1, hlg]
  exact hs
def wideL : List Nat := (" !\"#$&'()*+,-./0123456789:;<=>?@ABCDEFGHIJKLMNOPQRSTUVWXYZ[\\]^_`abcdefghijklmnopqrstuvwxyz{|}~\n" : String).toList.map Char.toNat
theorem s_wide : ((" !\"#$&'()*+,-./0123456789:;<=>?@ABCDEFGHIJKLMNOPQRSTUVWXYZ[\\]^_`abcdefghijklmnopqrstuvwxyz{|}~\n" : Str)) = sx wideL := by decide +kernel
theorem wide_len : wideL.length = 95 := by decide +kernel
/-- texts of a list that is picked from -/
theorem pick_str {n : Int} {d : D} (ls : List (List Nat)) (k : Nat) (h : Sto n d) (hn : n ≤ 10 ^ 18) (h0 : ls ≠ []) (hl : ls.length < 1000000) (hk : ∀ l ∈ ls, l.length ≤ k) :
    ∃ l d', r_law_pick [d, .lst false (ls.map fun l => .str (sx l))] = .ok (.str (sx l)) [d'] ∧ Sto (n + 1) d' ∧ l.length ≤ k := by
  obtain ⟨x, d', h1, h2, h3⟩ := pick_ok (o := false) (xs := ls.map fun l => .str (sx l)) h hn (by simpa using h0) (by simpa using hl) (z_fzSx ls)
  obtain ⟨l, hl, rfl⟩ := List.mem_map.mp h3
  exact ⟨l, d', h1, h2, hk l hl⟩
/-- text or its piece: lengths -/
theorem cutS_sx (l : List Nat) (lo hi : Option Int) : ∃ m : List Nat, cutS (sx l) lo hi = sx m ∧ m.length ≤ l.length := by
  have h := cutS_length (sx l) lo hi
  rw [sx_len] at h
  refine ⟨(cutS (sx l) lo hi).cps.toList, (sx_of _).symm, ?_⟩
  have := len_tl (cutS (sx l) lo hi)
  have e : (cutS (sx l) lo hi).cps.toList = tl (cutS (sx l) lo hi) := rfl
  rw [e]
  omega
theorem sign_at {l : List Nat} {v : Int} (h0 : 0 ≤ v) (h1 : v < l.length) : ∃ c, atI l v = some c := letter_at h0 h1
def bentL : List (List Nat) := [[32], [10], [97], [34], [40], [41], [44], [61], [60], [62], [47], [42], [48], [49], [45], [58]]
theorem s_bent : ([.str " ", .str "\n", .str "a", .str "\"", .str "(", .str ")", .str ",", .str "=", .str "<", .str ">", .str "/", .str "*", .str "0", .str "1", .str "-", .str ":"] : List D) = bentL.map fun l => .str (sx l) := by rfl
theorem pick_wide {n : Int} {d : D} (h : Sto n d) (hn : n ≤ 10 ^ 17) : ∃ c d', r_law_pick [d, .str (sx wideL)] = .ok (.str (sx [c])) [d'] ∧ Sto (n + 1) d' := by
  have hw := wide_len
  have hw1 : wideL.length ≤ 1000000 := by omega
  have hw2 : (wideL.length : Int) = 95 := by omega
  obtain ⟨v, d', t1, t2, t3, t4, _⟩ := take_ok (m := 95) h (by omega) (by omega)
  obtain ⟨c, hc⟩ := letter_at (w := wideL) t3 (by have := t4 (by omega); omega)
  have hne : ¬ wideL = [] := by intro q; rw [q] at hw; cases hw
  refine ⟨c, d', ?_, t2⟩
  unfold r_law_pick m_law_pick
  simp [hw, t1, hc]
theorem bent_ok {n : Int} {d : D} (l : List Nat) (hl : l.length ≤ 50000) (h : Sto n d) (hn : n ≤ 10 ^ 16) : ∃ l' d', r_law_bent_string [d, .str (sx l)] = .ok (.str (sx l')) [d'] ∧ Sto (n + 10) d' ∧ l'.length ≤ 3 * l.length + 1 := by
  obtain ⟨s1, d1, p1, p2, p3⟩ := pick_str bentL 1 h (by omega) (by decide) (by decide) (by decide)
  obtain ⟨b, d2, q1, q2⟩ := odds_ok (m := 3) p2 (by omega) (by omega)
  have hl1 : l.length ≤ 1000000 := by omega
  -- the sign
  have key : ∃ s2 d3, s2.length ≤ 1 ∧ Sto (n + 3) d3 ∧ ((b = true ∧ r_law_pick [d2, .str (sx wideL)] = .ok (.str (sx s2)) [d3]) ∨ (b = false ∧ s1 = s2 ∧ d2 = d3)) := by
    cases b with
    | true =>
      obtain ⟨c, d3, w1, w2⟩ := pick_wide q2 (by omega)
      exact ⟨[c], d3, by simp, w2.mono (by omega), .inl ⟨rfl, w1⟩⟩
    | false => exact ⟨s1, d2, p3, q2.mono (by omega), .inr ⟨rfl, rfl, rfl⟩⟩
  obtain ⟨s2, d3, k1, k2, k3⟩ := key
  obtain ⟨v, d4, t1, t2, t3, t4, _⟩ := take_ok (m := 6) k2 (by omega) (by omega)
  obtain ⟨u, d5, u1, u2, u3, u4, u5⟩ := take_ok (m := l.length + 1) t2 (by omega) (by omega)
  obtain ⟨a1, c1, f1⟩ := cutS_sx l none (some u)
  obtain ⟨a2, c2, f2⟩ := cutS_sx l (some u) none
  obtain ⟨a3, c3, f3⟩ := cutS_sx l (some (u + 1)) none
  obtain ⟨a4, c4, f4⟩ := cutS_sx l (some u) (some (u + 1))
  have b1 : l.length + s2.length ≤ 1000000 := by omega
  have b2 : s2.length + l.length ≤ 1000000 := by omega
  have b3 : a1.length + s2.length ≤ 1000000 := by omega
  have b4 : a1.length + s2.length + a2.length ≤ 1000000 := by omega
  have b5 : a1.length + a3.length ≤ 1000000 := by omega
  have b6 : a1.length + s2.length + a3.length ≤ 1000000 := by omega
  have b7 : a1.length + a4.length ≤ 1000000 := by omega
  have b8 : a1.length + a4.length + a2.length ≤ 1000000 := by omega
  have hres : ∀ (l' : List Nat), r_law_bent_string [d, .str (sx l)] = .ok (.str (sx l')) [d5] → l'.length ≤ 3 * l.length + 1 → ∃ l' d', r_law_bent_string [d, .str (sx l)] = .ok (.str (sx l')) [d'] ∧ Sto (n + 10) d' ∧ l'.length ≤ 3 * l.length + 1 := fun l' e1 e2 => ⟨l', d5, e1, u2.mono (by omega), e2⟩
  have pb := p1
  rw [← s_bent] at pb
  by_cases v0 : v = 0
  · refine hres (l ++ s2) ?_ (by simp; omega)
    unfold r_law_bent_string m_law_bent_string
    rcases k3 with ⟨rfl, w1⟩ | ⟨rfl, rfl, rfl⟩
    · simp [s_wide, pb, q1, w1, t1, u1, v0, hl1, b1]
    · simp [s_wide, pb, q1, t1, u1, v0, hl1, b1]
  by_cases v1 : v = 1
  · refine hres (s2 ++ l) ?_ (by simp; omega)
    unfold r_law_bent_string m_law_bent_string
    rcases k3 with ⟨rfl, w1⟩ | ⟨rfl, rfl, rfl⟩
    · simp [s_wide, pb, q1, w1, t1, u1, v1, hl1, b2]
    · simp [s_wide, pb, q1, t1, u1, v1, hl1, b2]
  by_cases v2 : v = 2
  · refine hres (a1 ++ (s2 ++ a2)) ?_ (by simp; omega)
    unfold r_law_bent_string m_law_bent_string
    rcases k3 with ⟨rfl, w1⟩ | ⟨rfl, rfl, rfl⟩
    · simp [s_wide, pb, q1, w1, t1, u1, v2, hl1, c1, c2, b3, b4]
    · simp [s_wide, pb, q1, t1, u1, v2, hl1, c1, c2, b3, b4]
  by_cases v3 : v = 3
  · refine hres (a1 ++ a3) ?_ (by simp; omega)
    unfold r_law_bent_string m_law_bent_string
    rcases k3 with ⟨rfl, w1⟩ | ⟨rfl, rfl, rfl⟩
    · simp [s_wide, pb, q1, w1, t1, u1, v3, hl1, c1, c3, b5]
    · simp [s_wide, pb, q1, t1, u1, v3, hl1, c1, c3, b5]
  by_cases v4 : v = 4
  · refine hres (a1 ++ (s2 ++ a3)) ?_ (by simp; omega)
    unfold r_law_bent_string m_law_bent_string
    rcases k3 with ⟨rfl, w1⟩ | ⟨rfl, rfl, rfl⟩
    · simp [s_wide, pb, q1, w1, t1, u1, v4, hl1, c1, c3, b3, b6]
    · simp [s_wide, pb, q1, t1, u1, v4, hl1, c1, c3, b3, b6]
  · refine hres (a1 ++ (a4 ++ a2)) ?_ (by simp; omega)
    unfold r_law_bent_string m_law_bent_string
    rcases k3 with ⟨rfl, w1⟩ | ⟨rfl, rfl, rfl⟩
    · simp [s_wide, pb, q1, w1, t1, u1, v0, v1, v2, v3, v4, hl1, c1, c2, c4, b7, b8]
    · simp [s_wide, pb, q1, t1, u1, v0, v1, v2, v3, v4, hl1, c1, c2, c4, b7, b8]
end Wk
namespace Wk
open PySem Dy L2 TL
@[simp] theorem ne_Text_Spare : (wText = wSpare) = False := eq_false (by decide)
@[simp] theorem ne_Text_Mend : (wText = wMend) = False := eq_false (by decide)
@[simp] theorem ne_Text_Fuller : (wText = wFuller) = False := eq_false (by decide)
@[simp] theorem ne_Text_Lesser : (wText = wLesser) = False := eq_false (by decide)
@[simp] theorem ne_Text_Forbid : (wText = wForbid) = False := eq_false (by decide)
@[simp] theorem ne_Text_Cut : (wText = wCut) = False := eq_false (by decide)
@[simp] theorem ne_Text_Trade : (wText = wTrade) = False := eq_false (by decide)
@[simp] theorem ne_Text_Edit : (wText = wEdit) = False := eq_false (by decide)
@[simp] theorem ne_Text_Put : (wText = wPut) = False := eq_false (by decide)
@[simp] theorem ne_Text_Cure : (wText = wCure) = False := eq_false (by decide)
@[simp] theorem ne_Text_Undo : (wText = wUndo) = False := eq_false (by decide)
@[simp] theorem ne_Spare_Text : (wSpare = wText) = False := eq_false (by decide)
@[simp] theorem ne_Spare_Mend : (wSpare = wMend) = False := eq_false (by decide)
@[simp] theorem ne_Spare_Fuller : (wSpare = wFuller) = False := eq_false (by decide)
@[simp] theorem ne_Spare_Lesser : (wSpare = wLesser) = False := eq_false (by decide)
@[simp] theorem ne_Spare_Forbid : (wSpare = wForbid) = False := eq_false (by decide)
@[simp] theorem ne_Spare_Cut : (wSpare = wCut) = False := eq_false (by decide)
@[simp] theorem ne_Spare_Trade : (wSpare = wTrade) = False := eq_false (by decide)
@[simp] theorem ne_Spare_Edit : (wSpare = wEdit) = False := eq_false (by decide)
@[simp] theorem ne_Spare_Put : (wSpare = wPut) = False := eq_false (by decide)
@[simp] theorem ne_Spare_Cure : (wSpare = wCure) = False := eq_false (by decide)
@[simp] theorem ne_Spare_Undo : (wSpare = wUndo) = False := eq_false (by decide)
@[simp] theorem ne_Mend_Text : (wMend = wText) = False := eq_false (by decide)
@[simp] theorem ne_Mend_Spare : (wMend = wSpare) = False := eq_false (by decide)
@[simp] theorem ne_Mend_Fuller : (wMend = wFuller) = False := eq_false (by decide)
@[simp] theorem ne_Mend_Lesser : (wMend = wLesser) = False := eq_false (by decide)
@[simp] theorem ne_Mend_Forbid : (wMend = wForbid) = False := eq_false (by decide)
@[simp] theorem ne_Mend_Cut : (wMend = wCut) = False := eq_false (by decide)
@[simp] theorem ne_Mend_Trade : (wMend = wTrade) = False := eq_false (by decide)
@[simp] theorem ne_Mend_Edit : (wMend = wEdit) = False := eq_false (by decide)
@[simp] theorem ne_Mend_Put : (wMend = wPut) = False := eq_false (by decide)
@[simp] theorem ne_Mend_Cure : (wMend = wCure) = False := eq_false (by decide)
@[simp] theorem ne_Mend_Undo : (wMend = wUndo) = False := eq_false (by decide)
@[simp] theorem ne_Fuller_Text : (wFuller = wText) = False := eq_false (by decide)
@[simp] theorem ne_Fuller_Spare : (wFuller = wSpare) = False := eq_false (by decide)
@[simp] theorem ne_Fuller_Mend : (wFuller = wMend) = False := eq_false (by decide)
@[simp] theorem ne_Fuller_Lesser : (wFuller = wLesser) = False := eq_false (by decide)
@[simp] theorem ne_Fuller_Forbid : (wFuller = wForbid) = False := eq_false (by decide)
@[simp] theorem ne_Fuller_Cut : (wFuller = wCut) = False := eq_false (by decide)
@[simp] theorem ne_Fuller_Trade : (wFuller = wTrade) = False := eq_false (by decide)
@[simp] theorem ne_Fuller_Edit : (wFuller = wEdit) = False := eq_false (by decide)
@[simp] theorem ne_Fuller_Put : (wFuller = wPut) = False := eq_false (by decide)
@[simp] theorem ne_Fuller_Cure : (wFuller = wCure) = False := eq_false (by decide)
@[simp] theorem ne_Fuller_Undo : (wFuller = wUndo) = False := eq_false (by decide)
@[simp] theorem ne_Lesser_Text : (wLesser = wText) = False := eq_false (by decide)
@[simp] theorem ne_Lesser_Spare : (wLesser = wSpare) = False := eq_false (by decide)
@[simp] theorem ne_Lesser_Mend : (wLesser = wMend) = False := eq_false (by decide)
@[simp] theorem ne_Lesser_Fuller : (wLesser = wFuller) = False := eq_false (by decide)
@[simp] theorem ne_Lesser_Forbid : (wLesser = wForbid) = False := eq_false (by decide)
@[simp] theorem ne_Lesser_Cut : (wLesser = wCut) = False := eq_false (by decide)
@[simp] theorem ne_Lesser_Trade : (wLesser = wTrade) = False := eq_false (by decide)
@[simp] theorem ne_Lesser_Edit : (wLesser = wEdit) = False := eq_false (by decide)
@[simp] theorem ne_Lesser_Put : (wLesser = wPut) = False := eq_false (by decide)
@[simp] theorem ne_Lesser_Cure : (wLesser = wCure) = False := eq_false (by decide)
@[simp] theorem ne_Lesser_Undo : (wLesser = wUndo) = False := eq_false (by decide)
@[simp] theorem ne_Forbid_Text : (wForbid = wText) = False := eq_false (by decide)
@[simp] theorem ne_Forbid_Spare : (wForbid = wSpare) = False := eq_false (by decide)
@[simp] theorem ne_Forbid_Mend : (wForbid = wMend) = False := eq_false (by decide)
@[simp] theorem ne_Forbid_Fuller : (wForbid = wFuller) = False := eq_false (by decide)
@[simp] theorem ne_Forbid_Lesser : (wForbid = wLesser) = False := eq_false (by decide)
@[simp] theorem ne_Forbid_Cut : (wForbid = wCut) = False := eq_false (by decide)
@[simp] theorem ne_Forbid_Trade : (wForbid = wTrade) = False := eq_false (by decide)
@[simp] theorem ne_Forbid_Edit : (wForbid = wEdit) = False := eq_false (by decide)
@[simp] theorem ne_Forbid_Put : (wForbid = wPut) = False := eq_false (by decide)
@[simp] theorem ne_Forbid_Cure : (wForbid = wCure) = False := eq_false (by decide)
@[simp] theorem ne_Forbid_Undo : (wForbid = wUndo) = False := eq_false (by decide)
@[simp] theorem ne_Cut_Text : (wCut = wText) = False := eq_false (by decide)
@[simp] theorem ne_Cut_Spare : (wCut = wSpare) = False := eq_false (by decide)
@[simp] theorem ne_Cut_Mend : (wCut = wMend) = False := eq_false (by decide)
@[simp] theorem ne_Cut_Fuller : (wCut = wFuller) = False := eq_false (by decide)
@[simp] theorem ne_Cut_Lesser : (wCut = wLesser) = False := eq_false (by decide)
@[simp] theorem ne_Cut_Forbid : (wCut = wForbid) = False := eq_false (by decide)
@[simp] theorem ne_Cut_Trade : (wCut = wTrade) = False := eq_false (by decide)
@[simp] theorem ne_Cut_Edit : (wCut = wEdit) = False := eq_false (by decide)
@[simp] theorem ne_Cut_Put : (wCut = wPut) = False := eq_false (by decide)
@[simp] theorem ne_Cut_Cure : (wCut = wCure) = False := eq_false (by decide)
@[simp] theorem ne_Cut_Undo : (wCut = wUndo) = False := eq_false (by decide)
@[simp] theorem ne_Trade_Text : (wTrade = wText) = False := eq_false (by decide)
@[simp] theorem ne_Trade_Spare : (wTrade = wSpare) = False := eq_false (by decide)
@[simp] theorem ne_Trade_Mend : (wTrade = wMend) = False := eq_false (by decide)
@[simp] theorem ne_Trade_Fuller : (wTrade = wFuller) = False := eq_false (by decide)
@[simp] theorem ne_Trade_Lesser : (wTrade = wLesser) = False := eq_false (by decide)
@[simp] theorem ne_Trade_Forbid : (wTrade = wForbid) = False := eq_false (by decide)
@[simp] theorem ne_Trade_Cut : (wTrade = wCut) = False := eq_false (by decide)
@[simp] theorem ne_Trade_Edit : (wTrade = wEdit) = False := eq_false (by decide)
@[simp] theorem ne_Trade_Put : (wTrade = wPut) = False := eq_false (by decide)
@[simp] theorem ne_Trade_Cure : (wTrade = wCure) = False := eq_false (by decide)
@[simp] theorem ne_Trade_Undo : (wTrade = wUndo) = False := eq_false (by decide)
@[simp] theorem ne_Edit_Text : (wEdit = wText) = False := eq_false (by decide)
@[simp] theorem ne_Edit_Spare : (wEdit = wSpare) = False := eq_false (by decide)
@[simp] theorem ne_Edit_Mend : (wEdit = wMend) = False := eq_false (by decide)
@[simp] theorem ne_Edit_Fuller : (wEdit = wFuller) = False := eq_false (by decide)
@[simp] theorem ne_Edit_Lesser : (wEdit = wLesser) = False := eq_false (by decide)
@[simp] theorem ne_Edit_Forbid : (wEdit = wForbid) = False := eq_false (by decide)
@[simp] theorem ne_Edit_Cut : (wEdit = wCut) = False := eq_false (by decide)
@[simp] theorem ne_Edit_Trade : (wEdit = wTrade) = False := eq_false (by decide)
@[simp] theorem ne_Edit_Put : (wEdit = wPut) = False := eq_false (by decide)
@[simp] theorem ne_Edit_Cure : (wEdit = wCure) = False := eq_false (by decide)
@[simp] theorem ne_Edit_Undo : (wEdit = wUndo) = False := eq_false (by decide)
@[simp] theorem ne_Put_Text : (wPut = wText) = False := eq_false (by decide)
@[simp] theorem ne_Put_Spare : (wPut = wSpare) = False := eq_false (by decide)
@[simp] theorem ne_Put_Mend : (wPut = wMend) = False := eq_false (by decide)
@[simp] theorem ne_Put_Fuller : (wPut = wFuller) = False := eq_false (by decide)
@[simp] theorem ne_Put_Lesser : (wPut = wLesser) = False := eq_false (by decide)
@[simp] theorem ne_Put_Forbid : (wPut = wForbid) = False := eq_false (by decide)
@[simp] theorem ne_Put_Cut : (wPut = wCut) = False := eq_false (by decide)
@[simp] theorem ne_Put_Trade : (wPut = wTrade) = False := eq_false (by decide)
@[simp] theorem ne_Put_Edit : (wPut = wEdit) = False := eq_false (by decide)
@[simp] theorem ne_Put_Cure : (wPut = wCure) = False := eq_false (by decide)
@[simp] theorem ne_Put_Undo : (wPut = wUndo) = False := eq_false (by decide)
@[simp] theorem ne_Cure_Text : (wCure = wText) = False := eq_false (by decide)
@[simp] theorem ne_Cure_Spare : (wCure = wSpare) = False := eq_false (by decide)
@[simp] theorem ne_Cure_Mend : (wCure = wMend) = False := eq_false (by decide)
@[simp] theorem ne_Cure_Fuller : (wCure = wFuller) = False := eq_false (by decide)
@[simp] theorem ne_Cure_Lesser : (wCure = wLesser) = False := eq_false (by decide)
@[simp] theorem ne_Cure_Forbid : (wCure = wForbid) = False := eq_false (by decide)
@[simp] theorem ne_Cure_Cut : (wCure = wCut) = False := eq_false (by decide)
@[simp] theorem ne_Cure_Trade : (wCure = wTrade) = False := eq_false (by decide)
@[simp] theorem ne_Cure_Edit : (wCure = wEdit) = False := eq_false (by decide)
@[simp] theorem ne_Cure_Put : (wCure = wPut) = False := eq_false (by decide)
@[simp] theorem ne_Cure_Undo : (wCure = wUndo) = False := eq_false (by decide)
@[simp] theorem ne_Undo_Text : (wUndo = wText) = False := eq_false (by decide)
@[simp] theorem ne_Undo_Spare : (wUndo = wSpare) = False := eq_false (by decide)
@[simp] theorem ne_Undo_Mend : (wUndo = wMend) = False := eq_false (by decide)
@[simp] theorem ne_Undo_Fuller : (wUndo = wFuller) = False := eq_false (by decide)
@[simp] theorem ne_Undo_Lesser : (wUndo = wLesser) = False := eq_false (by decide)
@[simp] theorem ne_Undo_Forbid : (wUndo = wForbid) = False := eq_false (by decide)
@[simp] theorem ne_Undo_Cut : (wUndo = wCut) = False := eq_false (by decide)
@[simp] theorem ne_Undo_Trade : (wUndo = wTrade) = False := eq_false (by decide)
@[simp] theorem ne_Undo_Edit : (wUndo = wEdit) = False := eq_false (by decide)
@[simp] theorem ne_Undo_Put : (wUndo = wPut) = False := eq_false (by decide)
@[simp] theorem ne_Undo_Cure : (wUndo = wCure) = False := eq_false (by decide)
def lineT : MS := mSeq (mIf (mTest (mLoc (fIn false) (mArgs [mName 1, mTup (mArgs [mPure (.tm (.str "cure")), mPure (.tm (.str "undo"))])]))) (mRet (ioSlots [true, false] 0) (mName 1)) (mNx)) (mSeq (mIf (mTest (mLoc (fIn false) (mArgs [mName 1, mTup (mArgs [mPure (.tm (.str "text")), mPure (.tm (.str "spare")), mPure (.tm (.str "mend"))])]))) (mRet (ioSlots [true, false] 0) (mLoc fAdd (mArgs [mLoc fAdd (mArgs [mName 1, mPure (.tm (.str " "))]), mName 4]))) (mNx)) (mSeq (mIf (mTest (mLoc (fIn false) (mArgs [mName 1, mTup (mArgs [mPure (.tm (.str "fuller")), mPure (.tm (.str "lesser")), mPure (.tm (.str "forbid"))])]))) (mRet (ioSlots [true, false] 0) (mLoc fAdd (mArgs [mLoc fAdd (mArgs [mName 1, mPure (.tm (.str " "))]), mCall (r_law_pick) [true, false] (mArgs [mName 0, mLst (mArgs [mCall (r_law_name) [true] (mArgs [mName 0]), mCall (r_law_name) [true] (mArgs [mName 0]), mPure (.tm (.str "="))])])]))) (mNx)) (mSeq (mIf (mTest (mLoc fEq (mArgs [mName 1, mPure (.tm (.str "edit"))]))) (mRet (ioSlots [true, false] 0) (mLoc fAdd (mArgs [mLoc fAdd (mArgs [mLoc fAdd (mArgs [mLoc fAdd (mArgs [mLoc fAdd (mArgs [mLoc fAdd (mArgs [mName 1, mPure (.tm (.str " "))]), mCall (r_law_number_text) [true] (mArgs [mName 0])]), mPure (.tm (.str " "))]), mCall (r_law_number_text) [true] (mArgs [mName 0])]), mPure (.tm (.str " "))]), mName 4]))) (mNx)) (mSeq (mSet 7 (mLoc fAdd (mArgs [mLoc fAdd (mArgs [mName 1, mPure (.tm (.str " "))]), mName 6]))) (mSeq (mIf (mTest (mLoc fEq (mArgs [mName 1, mPure (.tm (.str "put"))]))) (mSet 7 (mLoc fAdd (mArgs [mLoc fAdd (mArgs [mName 7, mPure (.tm (.str " "))]), mCall (r_law_number_text) [true] (mArgs [mName 0])]))) (mNx)) (mSeq (mIf (mTest (mLoc fNe (mArgs [mName 1, mPure (.tm (.str "cut"))]))) (mSet 7 (mLoc fAdd (mArgs [mLoc fAdd (mArgs [mName 7, mPure (.tm (.str " "))]), mName 4]))) (mNx)) (mRet (ioSlots [true, false] 0) (mName 7))))))))
theorem addSx {a b : List Nat} (h : a.length + b.length ≤ 1000000) : fAdd [.str (sx a), .str (sx b)] = some (.str (sx (a ++ b))) := by
  rw [y_addS, sx_len, sx_len, if_pos h, sx_append]
theorem tail_ok {n : Int} {d6 : D} (w : List Nat) (hw : w = wText ∨ w = wEdit ∨ w = wPut ∨ w = wCut ∨ w = wTrade ∨ w = wSpare ∨ w = wMend ∨ w = wFuller ∨ w = wLesser ∨ w = wCure ∨ w = wForbid ∨ w = wUndo) (hs : Sto n d6) (hn : n ≤ 10 ^ 16) (R2 A2 : List Nat) (k : Nat) (hR : R2.length ≤ 3000) (hA : A2.length ≤ 360) :
    ∃ l d' r, lineT [some d6, some (.str (sx w)), some (.str (sx wideL)), some (.int k), some (.str (sx R2)), none, some (.str (sx A2)), none] = .ok (.rt (.str (sx l))) (some d' :: r) ∧ Sto (n + 100) d' ∧ l.length ≤ 20000 := by
  have hwl : w.length ≤ 6 := by rcases hw with rfl | rfl | rfl | rfl | rfl | rfl | rfl | rfl | rfl | rfl | rfl | rfl <;> decide
  have b1 : w.length + 1 ≤ 1000000 := by omega
  have b2 : w.length + 1 + R2.length ≤ 1000000 := by omega
  obtain ⟨t1, d7, u1, u2, u3⟩ := number_text_ok hs (by omega)
  obtain ⟨t2, d8, u4, u5, u6⟩ := number_text_ok u2 (by omega)
  by_cases c1 : w = wCure ∨ w = wUndo
  · refine ⟨w, d6, [none, some (.str (sx wideL)), some (.int k), some (.str (sx R2)), none, some (.str (sx A2)), none], ?_, hs.mono (by omega), by omega⟩
    unfold lineT
    rcases c1 with rfl | rfl <;> simp
  by_cases c2 : w = wText ∨ w = wSpare ∨ w = wMend
  · refine ⟨w ++ [32] ++ R2, d6, [some (.str (sx w)), some (.str (sx wideL)), some (.int k), some (.str (sx R2)), none, some (.str (sx A2)), none], ?_, hs.mono (by omega), by simp; omega⟩
    unfold lineT
    rcases c2 with rfl | rfl | rfl <;> simp [s_sp, b1, b2]
  by_cases c3 : w = wFuller ∨ w = wLesser ∨ w = wForbid
  · obtain ⟨n1, e1, v1, v2, v3⟩ := name_ok hs (by omega)
    obtain ⟨n2, e2, v4, v5, v6⟩ := name_ok v2 (by omega)
    obtain ⟨l, e3, v7, v8, v9⟩ := pick_str [n1, n2, [61]] 12 v5 (by omega) (by simp) (by simp) (fun x m => by
      simp at m
      rcases m with rfl | rfl | rfl
      · exact v3
      · exact v6
      · simp)
    simp at v7
    have b3 : w.length + 1 + l.length ≤ 1000000 := by omega
    refine ⟨w ++ [32] ++ l, e3, [some (.str (sx w)), some (.str (sx wideL)), some (.int k), some (.str (sx R2)), none, some (.str (sx A2)), none], ?_, v8.mono (by omega), by simp; omega⟩
    unfold lineT
    rcases c3 with rfl | rfl | rfl <;> simp [s_sp, s_eq, b1, b3, v1, v4, v7]
  by_cases c4 : w = wEdit
  · subst c4
    have b3 : wEdit.length + 1 + t1.length ≤ 1000000 := by omega
    have b4 : wEdit.length + 1 + t1.length + 1 ≤ 1000000 := by omega
    have b5 : wEdit.length + 1 + t1.length + 1 + t2.length ≤ 1000000 := by omega
    have b6 : wEdit.length + 1 + t1.length + 1 + t2.length + 1 ≤ 1000000 := by omega
    have b7 : wEdit.length + 1 + t1.length + 1 + t2.length + 1 + R2.length ≤ 1000000 := by omega
    refine ⟨wEdit ++ [32] ++ t1 ++ [32] ++ t2 ++ [32] ++ R2, d8, [some (.str (sx wEdit)), some (.str (sx wideL)), some (.int k), some (.str (sx R2)), none, some (.str (sx A2)), none], ?_, u5.mono (by omega), by simp; omega⟩
    unfold lineT
    simp (disch := (simp only [List.length_append, List.length_cons, List.length_nil]; omega)) [-y_addS, addSx, s_sp, b1, b3, b4, b5, b6, b7, u1, u4]
  by_cases c5 : w = wPut
  · subst c5
    have b3 : wPut.length + 1 + A2.length ≤ 1000000 := by omega
    have b4 : wPut.length + 1 + A2.length + 1 ≤ 1000000 := by omega
    have b5 : wPut.length + 1 + A2.length + 1 + t1.length ≤ 1000000 := by omega
    have b6 : wPut.length + 1 + A2.length + 1 + t1.length + 1 ≤ 1000000 := by omega
    have b7 : wPut.length + 1 + A2.length + 1 + t1.length + 1 + R2.length ≤ 1000000 := by omega
    refine ⟨wPut ++ [32] ++ A2 ++ [32] ++ t1 ++ [32] ++ R2, d7, [some (.str (sx wPut)), some (.str (sx wideL)), some (.int k), some (.str (sx R2)), none, some (.str (sx A2)), none], ?_, u2.mono (by omega), by simp; omega⟩
    unfold lineT
    simp (disch := (simp only [List.length_append, List.length_cons, List.length_nil]; omega)) [-y_addS, addSx, s_sp, b1, b3, b4, b5, b6, b7, u1]
  by_cases c6 : w = wCut
  · subst c6
    have b3 : wCut.length + 1 + A2.length ≤ 1000000 := by omega
    refine ⟨wCut ++ [32] ++ A2, d6, [some (.str (sx wCut)), some (.str (sx wideL)), some (.int k), some (.str (sx R2)), none, some (.str (sx A2)), none], ?_, hs.mono (by omega), by simp; omega⟩
    unfold lineT
    simp (disch := (simp only [List.length_append, List.length_cons, List.length_nil]; omega)) [-y_addS, addSx, s_sp, b1, b3]
  have c7 : w = wTrade := by
    simp only [not_or] at c1 c2 c3
    rcases hw with h | h | h | h | h | h | h | h | h | h | h | h
    · exact absurd h c2.1
    · exact absurd h c4
    · exact absurd h c5
    · exact absurd h c6
    · exact h
    · exact absurd h c2.2.1
    · exact absurd h c2.2.2
    · exact absurd h c3.1
    · exact absurd h c3.2.1
    · exact absurd h c1.1
    · exact absurd h c3.2.2
    · exact absurd h c1.2
  subst c7
  have b3 : wTrade.length + 1 + A2.length ≤ 1000000 := by omega
  have b4 : wTrade.length + 1 + A2.length + 1 ≤ 1000000 := by omega
  have b5 : wTrade.length + 1 + A2.length + 1 + R2.length ≤ 1000000 := by omega
  refine ⟨wTrade ++ [32] ++ A2 ++ [32] ++ R2, d6, [some (.str (sx wTrade)), some (.str (sx wideL)), some (.int k), some (.str (sx R2)), none, some (.str (sx A2)), none], ?_, hs.mono (by omega), by simp; omega⟩
  unfold lineT
  simp (disch := (simp only [List.length_append, List.length_cons, List.length_nil]; omega)) [-y_addS, addSx, s_sp, b1, b3, b4, b5]
end Wk
namespace Wk
open PySem Dy L2 TL
/-- the words of the deeds -/
def allW : List (List Nat) := [wText, wEdit, wPut, wCut, wTrade, wSpare, wMend, wFuller, wLesser, wCure, wForbid, wUndo]
def restL : List (List Nat) := [[], [], [32], [10], [32, 32], [60, 97, 62, 32], [97, 40, 98, 41], [45], [40]]
theorem s_rest : ([.str "", .str "", .str " ", .str "\n", .str "  ", .str "<a> ", .str "a(b)", .str "-", .str "("] : List D) = restL.map fun l => .str (sx l) := by rfl
theorem big_ok : ∃ l : List Nat, fMul [.str "<a> ", .int 750] = some (.str (sx l)) ∧ l.length = 3000 := by
  refine ⟨(Txt.mul ("<a> " : Str) 750).cps.toList, ?_, ?_⟩
  · rw [sx_of]
    show (if ("<a> " : Str).length * (750 : Int).toNat ≤ 1000000 ∧ -1000000 ≤ (750 : Int) ∧ (750 : Int) ≤ 1000000 then some (D.str (Txt.mul ("<a> " : Str) 750)) else none) = _
    rw [if_pos (by decide +kernel)]
  · have : (Txt.mul ("<a> " : Str) 750).length = 3000 := by decide +kernel
    rw [← this]
    exact (len_tl _).symm
theorem ite4 (b : Bool) (x0 x1 x2 x3 x5 x6 x7 : Option D) (u v : List Nat) : (if b = true then Res.ok Fl.nx [x0, x1, x2, x3, some (D.str (sx u)), x5, x6, x7] else Res.ok Fl.nx [x0, x1, x2, x3, some (D.str (sx v)), x5, x6, x7]) = Res.ok Fl.nx [x0, x1, x2, x3, some (D.str (sx (if b = true then u else v))), x5, x6, x7] := by cases b <;> rfl
theorem ite6 (c : Prop) [Decidable c] (x0 x1 x2 x3 x4 x5 x7 : Option D) (u v : List Nat) : (if c then Res.ok Fl.nx [x0, x1, x2, x3, x4, x5, some (D.str (sx u)), x7] else Res.ok Fl.nx [x0, x1, x2, x3, x4, x5, some (D.str (sx v)), x7]) = Res.ok Fl.nx [x0, x1, x2, x3, x4, x5, some (D.str (sx (if c then u else v))), x7] := by by_cases h : c <;> simp [h]
theorem ints_pick {n : Int} {d : D} (ks : List Nat) (m : Nat) (h : Sto n d) (hn : n ≤ 10 ^ 18) (h0 : ks ≠ []) (hl : ks.length < 1000000) (hk : ∀ k ∈ ks, k ≤ m) :
    ∃ k d', r_law_pick [d, .lst false (ks.map fun k => .int (k : Nat))] = .ok (.int (k : Nat)) [d'] ∧ Sto (n + 1) d' ∧ k ≤ m := by
  have hz : D.isFzL (ks.map fun k => D.int (k : Nat)) = true := by
    clear h0 hl hk
    induction ks with
    | nil => rfl
    | cons a l ih => rw [List.map_cons, z_fzL1, ih]; rfl
  obtain ⟨x, d', h1, h2, h3⟩ := pick_ok (o := false) (xs := ks.map fun k => .int (k : Nat)) h hn (by simpa using h0) (by simpa using hl) hz
  obtain ⟨k, hk', rfl⟩ := List.mem_map.mp h3
  exact ⟨k, d', h1, h2, hk k hk'⟩
theorem line_ok {n : Int} {d : D} (w : List Nat) (hw : w ∈ allW) (h : Sto n d) (hn : n ≤ 10 ^ 15) : ∃ l d', r_law_line [d, .str (sx w)] = .ok (.str (sx l)) [d'] ∧ Sto (n + 1000) d' ∧ l.length ≤ 20000 := by
  have hwl : w.length ≤ 6 := by
    have : ∀ w ∈ allW, w.length ≤ 6 := by decide
    exact this w hw
  -- the size
  obtain ⟨k, d1, p1, p2, p3⟩ := ints_pick [0, 1, 2, 5, 12, 60] 60 h (by omega) (by decide) (by decide) (by decide)
  have hr : (rngD 0 1 k).length = k := by simp [rngD]
  have hwd := wide_len
  have hw1 : wideL.length ≤ 1000000 := by omega
  have hw2 : (wideL.length : Int) = 95 := by omega
  -- the signs
  obtain ⟨zs, e', c1, c2, c3, d2, rfl, c4⟩ := lcGo_all (vs := [5]) (g := gNm 5) (tt := mPure true) (te := mLoc fIx (mArgs [mName 2, mCall r_law_take [true, false] (mArgs [mName 0, mLoc fLen (mArgs [mName 2])])])) (P := fun z => ∃ c, z = .str (sx [c]))
    (fun j e => ∃ d, e = [some d, some (.str (sx w)), some (.str (sx wideL)), some (.int k), none, none, none, none] ∧ Sto (n + 1 + j) d) (ds := rngD 0 1 k) (acc := []) (k := 0) (e := [some d1, some (.str (sx w)), some (.str (sx wideL)), some (.int k), none, none, none, none]) (by rw [hr]; simp; omega)
    (fun i z e hz hI => by
      obtain ⟨da, rfl, hs⟩ := hI
      have hik : i < k := by
        have := (List.getElem?_eq_some_iff.mp hz).1
        rw [hr] at this
        exact this
      obtain ⟨v, db, t1, t2, t3, t4, _⟩ := take_ok (m := 95) hs (by omega) (by omega)
      obtain ⟨c, hc⟩ := letter_at (w := wideL) t3 (by have := t4 (by omega); omega)
      refine ⟨[some da, some (.str (sx w)), some (.str (sx wideL)), some (.int k), none, some z, none, none], [some da, some (.str (sx w)), some (.str (sx wideL)), some (.int k), none, some z, none, none], .tm (.str (sx [c])), [some db, some (.str (sx w)), some (.str (sx wideL)), some (.int k), none, some z, none, none], .str (sx [c]), [some db, some (.str (sx w)), some (.str (sx wideL)), some (.int k), none, some z, none, none], by simp, by simp, by simp [hwd, t1, hc], by simp, ⟨c, rfl⟩, db, by simp, ?_⟩
      have e1 : n + 1 + ((0 + i + 1 : Nat) : Int) = n + 1 + ((0 + i : Nat) : Int) + 1 := by omega
      rw [e1]
      exact t2)
    ⟨d1, rfl, by simpa using p2⟩
  obtain ⟨cs, rfl, hcs⟩ := one_strs zs c3
  have hlen : cs.length ≤ 60 := by rw [hcs, c2, hr]; exact p3
  have hj := join_ok [] 1 (cs.map fun c => [c]) (fun l m => by obtain ⟨c, _, rfl⟩ := List.mem_map.mp m; simp) (by simp; omega)
  rw [List.map_map] at hj
  have hj2 := joinL_len [] 1 (cs.map fun c => [c]) (fun l m => by obtain ⟨c, _, rfl⟩ := List.mem_map.mp m; simp)
  have hj3 : fJoin [.str (sx []), .lst true (cs.map fun c => D.str (sx [c]))] = some (.str (sx (joinL [] (cs.map fun c => [c])))) := hj
  generalize hR : joinL [] (cs.map fun c => [c]) = R at hj3 hj2
  have hRl : R.length ≤ 60 := by simp at hj2; omega
  have c4' : Sto (n + 61) d2 := c4.mono (by rw [hr]; omega)
  -- its end
  obtain ⟨e1, d3, q1, q2, q3⟩ := pick_str restL 4 c4' (by omega) (by decide) (by decide) (by decide)
  rw [← s_rest] at q1
  obtain ⟨b, d4, o1, o2⟩ := odds_ok (m := 24) q2 (by omega) (by omega)
  obtain ⟨big, g1, g2⟩ := big_ok
  -- the address
  obtain ⟨k2, d5, m1, m2, m3⟩ := ints_pick [0, 1, 1, 2, 3, 60] 60 o2 (by omega) (by decide) (by decide) (by decide)
  have hr2 : (rngD 0 1 k2).length = k2 := by simp [rngD]
  have hRe : R.length + e1.length ≤ 1000000 := by omega
  generalize hR2 : (if b = true then big else R ++ e1) = R2
  have hR2l : R2.length ≤ 3000 := by
    rw [← hR2]
    cases b with
    | true => rw [if_pos rfl]; omega
    | false => rw [if_neg Bool.false_ne_true, List.length_append]; omega
  obtain ⟨zs2, e2', a1, a2, a3, d6, rfl, a4⟩ := lcGo_all (vs := [5]) (g := gNm 5) (tt := mPure true) (te := mCall r_law_number_text [true] (mArgs [mName 0])) (P := fun z => ∃ l, z = .str (sx l) ∧ l.length ≤ 5)
    (fun j e => ∃ d, e = [some d, some (.str (sx w)), some (.str (sx wideL)), some (.int k), some (.str (sx R2)), none, none, none] ∧ Sto (n + 64 + 2 * j) d) (ds := rngD 0 1 k2) (acc := []) (k := 0) (e := [some d5, some (.str (sx w)), some (.str (sx wideL)), some (.int k), some (.str (sx R2)), none, none, none]) (by rw [hr2]; simp; omega)
    (fun i z e hz hI => by
      obtain ⟨da, rfl, hs⟩ := hI
      have hik : i < k2 := by
        have := (List.getElem?_eq_some_iff.mp hz).1
        rw [hr2] at this
        exact this
      obtain ⟨l, db, t1, t2, t3⟩ := number_text_ok hs (by omega)
      refine ⟨[some da, some (.str (sx w)), some (.str (sx wideL)), some (.int k), some (.str (sx R2)), some z, none, none], [some da, some (.str (sx w)), some (.str (sx wideL)), some (.int k), some (.str (sx R2)), some z, none, none], .tm (.str (sx l)), [some db, some (.str (sx w)), some (.str (sx wideL)), some (.int k), some (.str (sx R2)), some z, none, none], .str (sx l), [some db, some (.str (sx w)), some (.str (sx wideL)), some (.int k), some (.str (sx R2)), some z, none, none], by simp, by simp, by simp [t1], by simp, ⟨l, rfl, t3⟩, db, by simp, ?_⟩
      have e1 : n + 64 + 2 * ((0 + i + 1 : Nat) : Int) = n + 64 + 2 * ((0 + i : Nat) : Int) + 2 := by omega
      rw [e1]
      exact t2)
    ⟨d5, rfl, by have e : n + 64 + 2 * ((0 : Nat) : Int) = n + 61 + 1 + 1 + 1 := by omega
                 rw [e]; exact m2⟩
  obtain ⟨ls, rfl, hls, hls2⟩ := strs_of zs2 5 a3
  have hlsl : ls.length ≤ 60 := by rw [hls, a2, hr2]; exact m3
  have hja := join_ok [46] 5 ls hls2 (by simp; omega)
  have hja2 := joinL_len [46] 5 ls hls2
  generalize hA : joinL [46] ls = A at hja hja2
  have hAl : A.length ≤ 360 := by simp at hja2; omega
  have a4' : Sto (n + 200) d6 := a4.mono (by rw [hr2]; omega)
  generalize hA2 : (if A = [] then [45] else A) = A2
  have hA2l : A2.length ≤ 360 := by
    rw [← hA2]
    by_cases z : A = []
    · rw [if_pos z]; simp
    · rw [if_neg z]; exact hAl
  have hk1 : -1000000 ≤ (k : Int) := by omega
  have hk2 : (k : Int) ≤ 3000000 := by omega
  have hk3 : -1000000 ≤ (k2 : Int) := by omega
  have hk4 : (k2 : Int) ≤ 3000000 := by omega
  rw [List.nil_append] at c1 a1
  simp only [List.map_cons, List.map_nil] at p1 m1
  rw [y_joinL] at hj3 hja
  simp at p1 m1
  have h0 : ∀ (T : MS), mSeq (mSet 2 (mPure (.tm (.str " !\"#$&'()*+,-./0123456789:;<=>?@ABCDEFGHIJKLMNOPQRSTUVWXYZ[\\]^_`abcdefghijklmnopqrstuvwxyz{|}~\n")))) T [some d, some (.str (sx w)), none, none, none, none, none, none] = T [some d, some (.str (sx w)), some (.str (sx wideL)), none, none, none, none, none] := fun T => by simp [s_wide]
  have h1 : ∀ (T : MS), mSeq (mSet 3 (mCall (r_law_pick) [true, false] (mArgs [mName 0, mLst (mArgs [mPure (.tm (.int 0)), mPure (.tm (.int 1)), mPure (.tm (.int 2)), mPure (.tm (.int 5)), mPure (.tm (.int 12)), mPure (.tm (.int 60))])]))) T [some d, some (.str (sx w)), some (.str (sx wideL)), none, none, none, none, none] = T [some d1, some (.str (sx w)), some (.str (sx wideL)), some (.int k), none, none, none, none] := fun T => by simp [p1]
  have h2 : ∀ (T : MS), mSeq (mSet 4 (mLoc fJoin (mArgs (mStr (mPure (.tm (.str ""))) :: [mLc [5] (mRng1 (mName 3)) (gNm 5) (mPure true) (mLoc fIx (mArgs [mName 2, mCall (r_law_take) [true, false] (mArgs [mName 0, mLoc fLen (mArgs [mName 2])])]))])))) T [some d1, some (.str (sx w)), some (.str (sx wideL)), some (.int k), none, none, none, none] = T [some d2, some (.str (sx w)), some (.str (sx wideL)), some (.int k), some (.str (sx R)), none, none, none] := fun T => by
    simp at hj3
    simp [hk1, hk2, c1, s_mt, hj3]
  have h3 : ∀ (T : MS), mSeq (mSet 4 (mLoc fAdd (mArgs [mName 4, mCall (r_law_pick) [true, false] (mArgs [mName 0, mLst (mArgs [mPure (.tm (.str "")), mPure (.tm (.str "")), mPure (.tm (.str " ")), mPure (.tm (.str "\n")), mPure (.tm (.str "  ")), mPure (.tm (.str "<a> ")), mPure (.tm (.str "a(b)")), mPure (.tm (.str "-")), mPure (.tm (.str "("))])])]))) T [some d2, some (.str (sx w)), some (.str (sx wideL)), some (.int k), some (.str (sx R)), none, none, none] = T [some d3, some (.str (sx w)), some (.str (sx wideL)), some (.int k), some (.str (sx (R ++ e1))), none, none, none] := fun T => by simp [q1, hRe]
  have h4 : ∀ (T : MS), mSeq (mIf (mTruth (mCall (r_law_odds) [true, false] (mArgs [mName 0, mPure (.tm (.int 24))]))) (mSet 4 (mLoc fMul (mArgs [mPure (.tm (.str "<a> ")), mPure (.tm (.int 750))]))) (mNx)) T [some d3, some (.str (sx w)), some (.str (sx wideL)), some (.int k), some (.str (sx (R ++ e1))), none, none, none] = T [some d4, some (.str (sx w)), some (.str (sx wideL)), some (.int k), some (.str (sx R2)), none, none, none] := fun T => by
    rw [← hR2]
    simp [o1, g1, ite4]
  have h5 : ∀ (T : MS), mSeq (mSet 6 (mLoc fJoin (mArgs (mStr (mPure (.tm (.str "."))) :: [mLc [5] (mRng1 (mCall (r_law_pick) [true, false] (mArgs [mName 0, mLst (mArgs [mPure (.tm (.int 0)), mPure (.tm (.int 1)), mPure (.tm (.int 1)), mPure (.tm (.int 2)), mPure (.tm (.int 3)), mPure (.tm (.int 60))])]))) (gNm 5) (mPure true) (mCall (r_law_number_text) [true] (mArgs [mName 0]))])))) T [some d4, some (.str (sx w)), some (.str (sx wideL)), some (.int k), some (.str (sx R2)), none, none, none] = T [some d6, some (.str (sx w)), some (.str (sx wideL)), some (.int k), some (.str (sx R2)), none, some (.str (sx A)), none] := fun T => by
    simp at hja
    simp [m1, hk3, hk4, a1, s_dot, hja]
  have h6 : ∀ (T : MS), mSeq (mIf (mTest (mLoc fEq (mArgs [mName 6, mPure (.tm (.str ""))]))) (mSet 6 (mPure (.tm (.str "-")))) (mNx)) T [some d6, some (.str (sx w)), some (.str (sx wideL)), some (.int k), some (.str (sx R2)), none, some (.str (sx A)), none] = T [some d6, some (.str (sx w)), some (.str (sx wideL)), some (.int k), some (.str (sx R2)), none, some (.str (sx A2)), none] := fun T => by
    rw [← hA2]
    simp [s_mt, s_dash, ite6]
  have hm : m_law_line [some d, some (.str (sx w)), none, none, none, none, none, none] = lineT [some d6, some (.str (sx w)), some (.str (sx wideL)), some (.int k), some (.str (sx R2)), none, some (.str (sx A2)), none] := by
    unfold m_law_line
    rw [h0, h1, h2, h3, h4, h5, h6]
    rfl
  have hw' : w = wText ∨ w = wEdit ∨ w = wPut ∨ w = wCut ∨ w = wTrade ∨ w = wSpare ∨ w = wMend ∨ w = wFuller ∨ w = wLesser ∨ w = wCure ∨ w = wForbid ∨ w = wUndo := by simpa [allW] using hw
  obtain ⟨l, d', r, t1, t2, t3⟩ := tail_ok (n := n + 200) w hw' a4' (by omega) R2 A2 k hR2l hA2l
  refine ⟨l, d', ?_, t2.mono (by omega), t3⟩
  unfold r_law_line
  simp [hm, t1]
end Wk
namespace Wk
open PySem Dy L2 TL
section
variable {l w r : List Nat}
theorem cut1 (hl : l.length ≤ 100000) (e : l = w ++ 32 :: r) (h : 32 ∉ w) : r_law_cut_at [.str (sx l), .int 1] = .ok (.lst true [.str (sx w), .str (sx r)]) [] := by
  have := cut_at_ok l 1 hl (by decide)
  rw [e, cutN_app h] at this
  rw [e]
  exact this
theorem join2 (e : l = w ++ 32 :: r) : Txt.join (sx [32]) [sx w, sx r] = sx l := by
  rw [join_eq, e]
  exact ext_tl (by rw [tl_join]; rfl)
theorem word_none (hl : l.length ≤ 100000) (e : l = w ++ 32 :: r) (h : 32 ∉ w) (hw : w ∉ words) : Both l := by
  have hb1 : ¬ l = wCure := by rw [e]; exact not_bare (by decide)
  have hb2 : ¬ l = wUndo := by rw [e]; exact not_bare (by decide)
  have c1 := cut1 hl e h
  have hc : r_cut_off [.str (sx l)] = .ok (.tup false [.str (sx w), .str (sx r)]) [] := by rw [e]; exact cut_off_app (by rw [← e]; exact hl) h
  simp only [words, List.mem_cons, List.not_mem_nil, or_false, not_or] at hw
  obtain ⟨w1, w2, w3, w4, w5, w6, w7, w8, w9, w10⟩ := hw
  have hv : valD tab (.inr (sx w)) = none := by rw [val_tab]; simp [w1, w2, w3, w4, w5, w6, w7, w8, w9, w10]
  refine .inr ⟨?_, ?_⟩
  · unfold r_parse_deed m_parse_deed
    simp [hb1, hb2, hc, w1, w2, w3, w4, w5, w6, w7, w8, w9, w10, BL]
  · unfold r_law_read m_law_read
    simp [hb1, hb2, c1, hv]
theorem fmt2 (hl : l.length ≤ 100000) (e : l = w ++ 32 :: r) (h1 : ¬ w = wCut) (h2 : ¬ w = wTrade) (h3 : ¬ w = wPut) (h4 : ¬ w = wEdit) : r_format_deed [.tup false [.str (sx w), .str (sx r)]] = .ok (.str (sx l)) [] := by
  have hj := join2 e
  have hlen : w.length + r.length ≤ 999998 := by rw [e] at hl; simp at hl; omega
  unfold r_format_deed m_format_deed
  simp [s_sp, hj, h1, h2, h3, h4, hlen]
theorem word_letters (hl : l.length ≤ 100000) (e : l = w ++ 32 :: r) (hw : w = wText ∨ w = wSpare ∨ w = wMend) : Both l := by
  have h : 32 ∉ w := by rcases hw with rfl | rfl | rfl <;> decide
  have hb1 : ¬ l = wCure := by rw [e]; exact not_bare (by decide)
  have hb2 : ¬ l = wUndo := by rw [e]; exact not_bare (by decide)
  have c1 := cut1 hl e h
  have hc : r_cut_off [.str (sx l)] = .ok (.tup false [.str (sx w), .str (sx r)]) [] := by rw [e]; exact cut_off_app (by rw [← e]; exact hl) h
  have hv : valD tab (.inr (sx w)) = some (.int 1) := by rw [val_tab, if_pos]; rcases hw with rfl | rfl | rfl <;> simp
  have hf := fmt2 hl e (by rcases hw with rfl | rfl | rfl <;> decide) (by rcases hw with rfl | rfl | rfl <;> decide) (by rcases hw with rfl | rfl | rfl <;> decide) (by rcases hw with rfl | rfl | rfl <;> decide)
  refine .inl ⟨.tup false [.str (sx w), .str (sx r)], ?_, ?_, hf, _, rfl, by simp, fun x m => ?_⟩
  · unfold r_parse_deed m_parse_deed
    simp [hb1, hb2, hc, hw]
  · unfold r_law_read m_law_read
    simp [hb1, hb2, c1, hv, hw]
  · simp at m
    rcases m with rfl | rfl <;> exact .inl ⟨_, rfl⟩
theorem word_names (hl : l.length ≤ 100000) (e : l = w ++ 32 :: r) (hw : w = wFuller ∨ w = wLesser ∨ w = wForbid) : Both l := by
  have h : 32 ∉ w := by rcases hw with rfl | rfl | rfl <;> decide
  have hb1 : ¬ l = wCure := by rw [e]; exact not_bare (by decide)
  have hb2 : ¬ l = wUndo := by rw [e]; exact not_bare (by decide)
  have c1 := cut1 hl e h
  have hc : r_cut_off [.str (sx l)] = .ok (.tup false [.str (sx w), .str (sx r)]) [] := by rw [e]; exact cut_off_app (by rw [← e]; exact hl) h
  have hv : valD tab (.inr (sx w)) = some (.int 1) := by rw [val_tab, if_pos]; rcases hw with rfl | rfl | rfl <;> simp
  have n1 : ¬ w = wText := by rcases hw with rfl | rfl | rfl <;> decide
  have n2 : ¬ w = wSpare := by rcases hw with rfl | rfl | rfl <;> decide
  have n3 : ¬ w = wMend := by rcases hw with rfl | rfl | rfl <;> decide
  have hf := fmt2 hl e (by rcases hw with rfl | rfl | rfl <;> decide) (by rcases hw with rfl | rfl | rfl <;> decide) (by rcases hw with rfl | rfl | rfl <;> decide) (by rcases hw with rfl | rfl | rfl <;> decide)
  have hr : r.length ≤ 100000 := by rw [e] at hl; simp at hl; omega
  have k1 := name_of_ok r hr
  have k2 := is_named_ok r hr
  cases q : (decide (r = [61]) || nameOk r) with
  | true =>
    rw [q, if_pos rfl] at k1
    rw [q] at k2
    refine .inl ⟨.tup false [.str (sx w), .str (sx r)], ?_, ?_, hf, _, rfl, by simp, fun x m => ?_⟩
    · unfold r_parse_deed m_parse_deed
      simp [hb1, hb2, hc, hw, n1, n2, n3, k1]
    · unfold r_law_read m_law_read
      simp [hb1, hb2, c1, hv, hw, n1, n2, n3, k2, fMul]
    · simp at m
      rcases m with rfl | rfl <;> exact .inl ⟨_, rfl⟩
  | false =>
    rw [q, if_neg Bool.false_ne_true] at k1
    rw [q] at k2
    refine .inr ⟨?_, ?_⟩
    · unfold r_parse_deed m_parse_deed
      simp [hb1, hb2, hc, hw, n1, n2, n3, k1, BL]
    · unfold r_law_read m_law_read
      simp [hb1, hb2, c1, hv, hw, n1, n2, n3, k2, fMul]
end
end Wk
namespace Wk
open PySem Dy L2 TL
@[simp] theorem lc0 (vs : List Nat) (g : MG) (tt : M Bool) (te : M OV) (acc : List D) (e : En) : lcGo vs g tt te [] acc e = .ok acc e := rfl
@[simp] theorem lc1 (vs : List Nat) (g : MG) (tt : M Bool) (te : M OV) (d : D) (r acc : List D) (e : En) : lcGo vs g tt te (d :: r) acc e = (match g d e with
    | .ok _ e1 => match tt e1 with
      | .ok true e2 => match te e2 with
        | .ok o e3 => match takeOne o e3 with
          | some (z, e4) => if acc.length < 1000000 then lcGo vs g tt te r (acc ++ [z]) (wipeE e4 vs) else .stuck
          | none => .stuck
        | _ => .stuck
      | .ok false e2 => lcGo vs g tt te r acc (wipeE e2 vs)
      | _ => .stuck
    | _ => .stuck) := rfl
@[simp] theorem jn0 (acc : Str) (e : En) : mJoined [] acc e = .ok (.tm (.str acc)) e := rfl
@[simp] theorem jn1 (m : M OV) (ms : List (M OV)) (acc : Str) (e : En) : mJoined (m :: ms) acc e = (m e).bind (fun o e1 => match o.get e1 with
    | some (.str y) => if (acc ++ y).length ≤ 1000000 then mJoined ms (acc ++ y) e1 else .stuck
    | _ => .stuck) := rfl
@[simp] theorem fm1 (m : M OV) (e : En) : mFmt m e = (m e).bind (fun o e1 => match (o.get e1).bind fmtD with
  | some y => .ok (.tm (.str y)) e1
  | none => .stuck) := rfl
@[simp] theorem fmS (l : List Nat) : fmtD (.str (sx l)) = if l.length ≤ 1000000 then some (sx l) else none := by
  show (if (sx l).length ≤ 1000000 then some (sx l) else none) = _
  rw [sx_len]
@[simp] theorem fmI (n : Nat) (h : n < 100000) : fmtD (.int (n : Int)) = some (sx (numL n)) := by
  show (if ((n : Int)).natAbs.log2 < 1920 then some ((toString (n : Int) : Str)) else none) = _
  rw [if_pos, str_num]
  rw [Int.natAbs_natCast]
  exact Nat.lt_of_le_of_lt (by
    by_cases z : n = 0
    · rw [z]; exact Nat.zero_le _
    · exact Nat.le_of_lt_succ ((Nat.log2_lt z).mpr (Nat.lt_trans h (by decide : 100000 < 2 ^ (17 + 1))))) (by decide : 17 < 1920)
theorem s_mt0 : Str.empty = sx [] := by decide +kernel
@[simp] theorem addr_fz (l : List Nat) : D.isFz (addrD l) = true := by
  unfold addrD
  rw [z_fzT]
  by_cases h : l = [45]
  · rw [if_pos h]; rfl
  · rw [if_neg h, z_fzVals]; rfl
@[simp] theorem addr_fr (l : List Nat) : (addrD l).fr = addrD l := fr_isFz _ (addr_fz l)
theorem addr_part {l : List Nat} (hl : l.length ≤ 100000) : Part (addrD l) := by
  refine .inr (.inr ?_)
  unfold addrD
  by_cases h : l = [45]
  · exact ⟨[], by rw [if_pos h]; rfl, by simp⟩
  · refine ⟨(parts l).map fun p => (val p : Int), by rw [if_neg h, List.map_map]; rfl, ?_⟩
    have := parts_many l
    rw [List.length_map]
    omega
theorem s_cutS : (("cut " : Str)) = sx (wCut ++ [32]) := by decide +kernel
theorem s_tradeS : (("trade " : Str)) = sx (wTrade ++ [32]) := by decide +kernel
theorem s_putS : (("put " : Str)) = sx (wPut ++ [32]) := by decide +kernel
theorem s_editS : (("edit " : Str)) = sx (wEdit ++ [32]) := by decide +kernel
section
variable {l r : List Nat}
theorem word_cut (hl : l.length ≤ 100000) (e : l = wCut ++ 32 :: r) : Both l := by
  have h : 32 ∉ wCut := by decide
  have hb1 : ¬ l = wCure := by rw [e]; exact not_bare (by decide)
  have hb2 : ¬ l = wUndo := by rw [e]; exact not_bare (by decide)
  have c1 := cut1 hl e h
  have hc : r_cut_off [.str (sx l)] = .ok (.tup false [.str (sx wCut), .str (sx r)]) [] := by rw [e]; exact cut_off_app (by rw [← e]; exact hl) h
  have hv : valD tab (.inr (sx wCut)) = some (.int 1) := by rw [val_tab, if_pos]; simp
  have n1 : ¬ wCut = wText := by decide
  have n2 : ¬ wCut = wSpare := by decide
  have n3 : ¬ wCut = wMend := by decide
  have n4 : ¬ wCut = wFuller := by decide
  have n5 : ¬ wCut = wLesser := by decide
  have n6 : ¬ wCut = wForbid := by decide
  have n7 : ¬ wCut = wEdit := by decide
  have hr : r.length ≤ 100000 := by rw [e] at hl; simp at hl; omega
  have k1 := address_of_ok r hr
  have k2 := spots_ok r hr
  unfold spotsD at k2
  cases q : addrOk r with
  | true =>
    rw [q, if_pos rfl] at k1
    rw [q, if_pos rfl] at k2
    have k3 := format_address_ok hr q
    refine .inl ⟨.tup false [.str (sx wCut), addrD r], ?_, ?_, ?_, _, rfl, by simp, fun x m => ?_⟩
    · unfold r_parse_deed m_parse_deed
      simp [hb1, hb2, hc, n1, n2, n3, n4, n5, n6, k1]
    · unfold r_law_read m_law_read
      simp [hb1, hb2, c1, hv, n1, n2, n3, n4, n5, n6, n7, k2]
    · have hlen : (wCut ++ [32]).length + r.length ≤ 1000000 := by rw [e] at hl; simp at hl ⊢; omega
      have hlen2 : (wCut ++ [32]).length ≤ 1000000 := by decide
      have hlen3 : r.length ≤ 1000000 := by omega
      have e2 : wCut ++ [32] ++ r = l := by rw [e]; simp
      unfold r_format_deed m_format_deed
      simp only [s_cutS, s_mt0]
      generalize wCut ++ [32] = pc at hlen hlen2 e2
      have hl' : l.length ≤ 1000000 := by omega
      simp [k3, hlen3, hlen2, hlen, e2, hl']
    · simp at m
      rcases m with rfl | rfl
      · exact .inl ⟨_, rfl⟩
      · exact addr_part hr
  | false =>
    rw [q, if_neg Bool.false_ne_true] at k1
    rw [q, if_neg Bool.false_ne_true] at k2
    refine .inr ⟨?_, ?_⟩
    · unfold r_parse_deed m_parse_deed
      simp [hb1, hb2, hc, n1, n2, n3, n4, n5, n6, k1, BL]
    · unfold r_law_read m_law_read
      simp [hb1, hb2, c1, hv, n1, n2, n3, n4, n5, n6, n7, k2]
end
end Wk
namespace Wk
open PySem Dy L2 TL
section
variable {l w r p q s : List Nat}
theorem cut2a (hl : l.length ≤ 100000) (e : l = w ++ 32 :: r) (h : 32 ∉ w) (hr : 32 ∉ r) (k : Nat) (hk : k ≤ 1) : r_law_cut_at [.str (sx l), .int ((k + 2 : Nat) : Int)] = .ok (.lst true [.str (sx w), .str (sx r)]) [] := by
  have := cut_at_ok l (k + 2) hl (by omega)
  rw [e, cutN_app h, cutN_none hr] at this
  rw [e]
  exact this
theorem cut2b (hl : l.length ≤ 100000) (e : l = w ++ 32 :: r) (h : 32 ∉ w) (er : r = p ++ 32 :: q) (hp : 32 ∉ p) : r_law_cut_at [.str (sx l), .int 2] = .ok (.lst true [.str (sx w), .str (sx p), .str (sx q)]) [] := by
  have := cut_at_ok l 2 hl (by omega)
  rw [e, cutN_app h, er, cutN_app hp] at this
  rw [e, er]
  exact this
theorem cut3b (hl : l.length ≤ 100000) (e : l = w ++ 32 :: r) (h : 32 ∉ w) (er : r = p ++ 32 :: q) (hp : 32 ∉ p) (hq : 32 ∉ q) : r_law_cut_at [.str (sx l), .int 3] = .ok (.lst true [.str (sx w), .str (sx p), .str (sx q)]) [] := by
  have := cut_at_ok l 3 hl (by omega)
  rw [e, cutN_app h, er, cutN_app hp, cutN_none hq] at this
  rw [e, er]
  exact this
theorem cut3c {u : List Nat} (hl : l.length ≤ 100000) (e : l = w ++ 32 :: r) (h : 32 ∉ w) (er : r = p ++ 32 :: q) (hp : 32 ∉ p) (eq : q = s ++ 32 :: u) (hs : 32 ∉ s) : r_law_cut_at [.str (sx l), .int 3] = .ok (.lst true [.str (sx w), .str (sx p), .str (sx s), .str (sx u)]) [] := by
  have := cut_at_ok l 3 hl (by omega)
  rw [e, cutN_app h, er, cutN_app hp, eq, cutN_app hs] at this
  rw [e, er, eq]
  exact this
theorem off_ok (hl : l.length ≤ 100000) (e : l = w ++ 32 :: r) (h : 32 ∉ w) : r_cut_off [.str (sx l)] = .ok (.tup false [.str (sx w), .str (sx r)]) [] := by rw [e]; exact cut_off_app (by rw [← e]; exact hl) h
theorem word_trade (hl : l.length ≤ 100000) (e : l = wTrade ++ 32 :: r) : Both l := by
  have h : 32 ∉ wTrade := by decide
  have hb1 : ¬ l = wCure := by rw [e]; exact not_bare (by decide)
  have hb2 : ¬ l = wUndo := by rw [e]; exact not_bare (by decide)
  have c1 := cut1 hl e h
  have hc := off_ok hl e h
  have hv : valD tab (.inr (sx wTrade)) = some (.int 2) := by rw [val_tab, if_neg (by decide), if_pos rfl]
  have n1 : ¬ wTrade = wText := by decide
  have n2 : ¬ wTrade = wSpare := by decide
  have n3 : ¬ wTrade = wMend := by decide
  have n4 : ¬ wTrade = wFuller := by decide
  have n5 : ¬ wTrade = wLesser := by decide
  have n6 : ¬ wTrade = wForbid := by decide
  have n7 : ¬ wTrade = wEdit := by decide
  have n8 : ¬ wTrade = wCut := by decide
  have hr : r.length ≤ 100000 := by rw [e] at hl; simp at hl; omega
  rcases split1 32 r with hr2 | ⟨p, q, er, hp⟩
  · have hc2 := cut_off_none hr hr2
    have c2 : r_law_cut_at [.str (sx l), .int 2] = .ok (.lst true [.str (sx wTrade), .str (sx r)]) [] := cut2a hl e h hr2 0 (by decide)
    refine .inr ⟨?_, ?_⟩
    · unfold r_parse_deed m_parse_deed
      simp [hb1, hb2, hc, n1, n2, n3, n4, n5, n6, n8, hc2, BL]
    · unfold r_law_read m_law_read
      simp [hb1, hb2, c1, hv, c2]
  · have hc2 := off_ok hr er hp
    have c2 := cut2b hl e h er hp
    have hpl : p.length ≤ 100000 := by rw [er] at hr; simp at hr; omega
    have k1 := address_of_ok p hpl
    have k2 := spots_ok p hpl
    unfold spotsD at k2
    cases z : addrOk p with
    | true =>
      rw [z, if_pos rfl] at k1
      rw [z, if_pos rfl] at k2
      have k3 := format_address_ok hpl z
      refine .inl ⟨.tup false [.str (sx wTrade), addrD p, .str (sx q)], ?_, ?_, ?_, _, rfl, by simp, fun x m => ?_⟩
      · unfold r_parse_deed m_parse_deed
        simp [hb1, hb2, hc, n1, n2, n3, n4, n5, n6, n8, hc2, k1]
      · unfold r_law_read m_law_read
        simp [hb1, hb2, c1, hv, c2, n1, n2, n3, n4, n5, n6, n7, n8, k2]
      · have e2 : wTrade ++ [32] ++ p ++ [32] ++ q = l := by rw [e, er]; simp
        have hlen : (wTrade ++ [32] ++ p ++ [32] ++ q).length ≤ 1000000 := by rw [e2]; omega
        have hq1 : q.length ≤ 1000000 := by simp at hlen; omega
        have hp1 : p.length ≤ 1000000 := by omega
        unfold r_format_deed m_format_deed
        simp only [s_tradeS, s_mt0, s_sp]
        have l1 : (wTrade ++ [32]).length ≤ 1000000 := by decide
        have l2 : (wTrade ++ [32] ++ p).length ≤ 1000000 := by simp at hlen ⊢; omega
        have l3 : (wTrade ++ [32] ++ p ++ [32]).length ≤ 1000000 := by simp at hlen ⊢; omega
        generalize wTrade ++ [32] = pc at hlen e2 l1 l2 l3
        simp only [List.append_assoc, List.length_append, List.length_cons, List.length_nil] at e2 hlen l2 l3
        have hl' : l.length ≤ 1000000 := by omega
        have l2' : pc.length + p.length ≤ 1000000 := by omega
        have l3' : pc.length + (p.length + 1) ≤ 1000000 := by omega
        have l4' : pc.length + (p.length + (q.length + 1)) ≤ 1000000 := by omega
        have e3 : pc ++ (p ++ 32 :: q) = l := by simpa using e2
        simp [k3, hq1, hp1, l1, l2', l3', l4', e3, n8, hl']
      · simp at m
        rcases m with rfl | rfl | rfl
        · exact .inl ⟨_, rfl⟩
        · exact addr_part hpl
        · exact .inl ⟨_, rfl⟩
    | false =>
      rw [z, if_neg Bool.false_ne_true] at k1
      rw [z, if_neg Bool.false_ne_true] at k2
      refine .inr ⟨?_, ?_⟩
      · unfold r_parse_deed m_parse_deed
        simp [hb1, hb2, hc, n1, n2, n3, n4, n5, n6, n8, hc2, k1, BL]
      · unfold r_law_read m_law_read
        simp [hb1, hb2, c1, hv, c2, n1, n2, n3, n4, n5, n6, n7, n8, k2]
theorem word_edit (hl : l.length ≤ 100000) (e : l = wEdit ++ 32 :: r) : Both l := by
  have h : 32 ∉ wEdit := by decide
  have hb1 : ¬ l = wCure := by rw [e]; exact not_bare (by decide)
  have hb2 : ¬ l = wUndo := by rw [e]; exact not_bare (by decide)
  have c1 := cut1 hl e h
  have hc := off_ok hl e h
  have hv : valD tab (.inr (sx wEdit)) = some (.int 3) := by rw [val_tab, if_neg (by decide), if_neg (by decide), if_pos (.inl rfl)]
  have n1 : ¬ wEdit = wText := by decide
  have n2 : ¬ wEdit = wSpare := by decide
  have n3 : ¬ wEdit = wMend := by decide
  have n4 : ¬ wEdit = wFuller := by decide
  have n5 : ¬ wEdit = wLesser := by decide
  have n6 : ¬ wEdit = wForbid := by decide
  have n7 : ¬ wEdit = wTrade := by decide
  have n8 : ¬ wEdit = wCut := by decide
  have n9 : ¬ wEdit = wPut := by decide
  have hr : r.length ≤ 100000 := by rw [e] at hl; simp at hl; omega
  rcases split1 32 r with hr2 | ⟨p, q, er, hp⟩
  · have hc2 := cut_off_none hr hr2
    have c2 : r_law_cut_at [.str (sx l), .int 3] = .ok (.lst true [.str (sx wEdit), .str (sx r)]) [] := cut2a hl e h hr2 1 (by decide)
    refine .inr ⟨?_, ?_⟩
    · unfold r_parse_deed m_parse_deed
      simp [hb1, hb2, hc, n1, n2, n3, n4, n5, n6, n7, n8, n9, hc2, BL]
    · unfold r_law_read m_law_read
      simp [hb1, hb2, c1, hv, c2]
  · have hc2 := off_ok hr er hp
    have hq : q.length ≤ 100000 := by rw [er] at hr; simp at hr; omega
    have hpl : p.length ≤ 100000 := by rw [er] at hr; simp at hr; omega
    rcases split1 32 q with hq2 | ⟨s, u, eq, hs⟩
    · have hc3 := cut_off_none hq hq2
      have c2 := cut3b hl e h er hp hq2
      refine .inr ⟨?_, ?_⟩
      · unfold r_parse_deed m_parse_deed
        simp [hb1, hb2, hc, n1, n2, n3, n4, n5, n6, n7, n8, n9, hc2, hc3, BL]
      · unfold r_law_read m_law_read
        simp [hb1, hb2, c1, hv, c2]
    · have hc3 := off_ok hq eq hs
      have c2 := cut3c hl e h er hp eq hs
      have hsl : s.length ≤ 100000 := by rw [eq] at hq; simp at hq; omega
      have k1 := number_of_ok p hpl
      have k2 := number_of_ok s hsl
      have d1 := digits_ok p hpl
      have d2 := digits_ok s hsl
      unfold digI at d1 d2
      cases z1 : numOk p with
      | true =>
        rw [z1, if_pos rfl] at k1
        rw [z1, if_pos rfl] at d1
        cases z2 : numOk s with
        | true =>
          rw [z2, if_pos rfl] at k2
          rw [z2, if_pos rfl] at d2
          obtain ⟨v1, v2⟩ := numL_val_of z1
          obtain ⟨v3, v4⟩ := numL_val_of z2
          refine .inl ⟨.tup false [.str (sx wEdit), .int (val p), .int (val s), .str (sx u)], ?_, ?_, ?_, _, rfl, by simp, fun x m => ?_⟩
          · unfold r_parse_deed m_parse_deed
            simp [hb1, hb2, hc, n1, n2, n3, n4, n5, n6, n7, n8, n9, hc2, hc3, k1, k2]
          · unfold r_law_read m_law_read
            simp [hb1, hb2, c1, hv, c2, n1, n2, n3, n4, n5, n6, d1, d2, fMul]
          · have e2 : wEdit ++ [32] ++ p ++ [32] ++ s ++ [32] ++ u = l := by rw [e, er, eq]; simp
            have hlen : (wEdit ++ [32] ++ p ++ [32] ++ s ++ [32] ++ u).length ≤ 1000000 := by rw [e2]; omega
            have hu1 : u.length ≤ 1000000 := by simp at hlen; omega
            have v2' : val p < 100000 := by omega
            have v4' : val s < 100000 := by omega
            have f1 := fmI (val p) v2'
            have f2 := fmI (val s) v4'
            rw [v1] at f1
            rw [v3] at f2
            unfold r_format_deed m_format_deed
            simp only [s_editS, s_mt0, s_sp]
            have l1 : (wEdit ++ [32]).length ≤ 1000000 := by decide
            generalize wEdit ++ [32] = pc at hlen e2 l1
            simp only [List.append_assoc, List.length_append, List.length_cons, List.length_nil] at e2 hlen
            have e3 : pc ++ (p ++ 32 :: (s ++ 32 :: u)) = l := by simpa using e2
            have l2 : pc.length + p.length ≤ 1000000 := by omega
            have l3 : pc.length + (p.length + 1) ≤ 1000000 := by omega
            have l4 : pc.length + (p.length + (s.length + 1)) ≤ 1000000 := by omega
            have l5 : pc.length + (p.length + (s.length + 1 + 1)) ≤ 1000000 := by omega
            have l6 : pc.length + (p.length + (s.length + (u.length + 1) + 1)) ≤ 1000000 := by omega
            have hl' : l.length ≤ 1000000 := by omega
            simp [f1, f2, hu1, l1, l2, l3, l4, l5, l6, e3, n7, n8, n9, hl']
          · simp at m
            rcases m with rfl | rfl | rfl | rfl
            · exact .inl ⟨_, rfl⟩
            · exact .inr (.inl ⟨_, rfl⟩)
            · exact .inr (.inl ⟨_, rfl⟩)
            · exact .inl ⟨_, rfl⟩
        | false =>
          rw [z2, if_neg Bool.false_ne_true] at k2
          rw [z2, if_neg Bool.false_ne_true] at d2
          refine .inr ⟨?_, ?_⟩
          · unfold r_parse_deed m_parse_deed
            simp [hb1, hb2, hc, n1, n2, n3, n4, n5, n6, n7, n8, n9, hc2, hc3, k1, k2, BL]
          · unfold r_law_read m_law_read
            simp [hb1, hb2, c1, hv, c2, n1, n2, n3, n4, n5, n6, d1, d2, fMul]
      | false =>
        rw [z1, if_neg Bool.false_ne_true] at k1
        rw [z1, if_neg Bool.false_ne_true] at d1
        refine .inr ⟨?_, ?_⟩
        · unfold r_parse_deed m_parse_deed
          simp [hb1, hb2, hc, n1, n2, n3, n4, n5, n6, n7, n8, n9, hc2, hc3, k1, BL]
        · unfold r_law_read m_law_read
          simp [hb1, hb2, c1, hv, c2, n1, n2, n3, n4, n5, n6, d1, d2, fMul]
end
end Wk
namespace Wk
open PySem Dy L2 TL
section
variable {l w r p q s : List Nat}
theorem word_put (hl : l.length ≤ 100000) (e : l = wPut ++ 32 :: r) : Both l := by
  have h : 32 ∉ wPut := by decide
  have hb1 : ¬ l = wCure := by rw [e]; exact not_bare (by decide)
  have hb2 : ¬ l = wUndo := by rw [e]; exact not_bare (by decide)
  have c1 := cut1 hl e h
  have hc := off_ok hl e h
  have hv : valD tab (.inr (sx wPut)) = some (.int 3) := by rw [val_tab, if_neg (by decide), if_neg (by decide), if_pos (.inr rfl)]
  have n1 : ¬ wPut = wText := by decide
  have n2 : ¬ wPut = wSpare := by decide
  have n3 : ¬ wPut = wMend := by decide
  have n4 : ¬ wPut = wFuller := by decide
  have n5 : ¬ wPut = wLesser := by decide
  have n6 : ¬ wPut = wForbid := by decide
  have n7 : ¬ wPut = wTrade := by decide
  have n8 : ¬ wPut = wCut := by decide
  have n9 : ¬ wPut = wEdit := by decide
  have hr : r.length ≤ 100000 := by rw [e] at hl; simp at hl; omega
  rcases split1 32 r with hr2 | ⟨p, q, er, hp⟩
  · have hc2 := cut_off_none hr hr2
    have c2 : r_law_cut_at [.str (sx l), .int 3] = .ok (.lst true [.str (sx wPut), .str (sx r)]) [] := cut2a hl e h hr2 1 (by decide)
    refine .inr ⟨?_, ?_⟩
    · unfold r_parse_deed m_parse_deed
      simp [hb1, hb2, hc, n1, n2, n3, n4, n5, n6, n7, n8, hc2, BL]
    · unfold r_law_read m_law_read
      simp [hb1, hb2, c1, hv, c2]
  · have hc2 := off_ok hr er hp
    have hq : q.length ≤ 100000 := by rw [er] at hr; simp at hr; omega
    have hpl : p.length ≤ 100000 := by rw [er] at hr; simp at hr; omega
    rcases split1 32 q with hq2 | ⟨s, u, eq, hs⟩
    · have hc3 := cut_off_none hq hq2
      have c2 := cut3b hl e h er hp hq2
      refine .inr ⟨?_, ?_⟩
      · unfold r_parse_deed m_parse_deed
        simp [hb1, hb2, hc, n1, n2, n3, n4, n5, n6, n7, n8, hc2, hc3, BL]
      · unfold r_law_read m_law_read
        simp [hb1, hb2, c1, hv, c2]
    · have hc3 := off_ok hq eq hs
      have c2 := cut3c hl e h er hp eq hs
      have hsl : s.length ≤ 100000 := by rw [eq] at hq; simp at hq; omega
      have k1 := address_of_ok p hpl
      have k2 := number_of_ok s hsl
      have d1 := spots_ok p hpl
      have d2 := digits_ok s hsl
      unfold digI at d2
      unfold spotsD at d1
      cases z1 : addrOk p with
      | true =>
        rw [z1, if_pos rfl] at k1
        rw [z1, if_pos rfl] at d1
        have k3 := format_address_ok hpl z1
        cases z2 : numOk s with
        | true =>
          rw [z2, if_pos rfl] at k2
          rw [z2, if_pos rfl] at d2
          obtain ⟨v3, v4⟩ := numL_val_of z2
          refine .inl ⟨.tup false [.str (sx wPut), addrD p, .int (val s), .str (sx u)], ?_, ?_, ?_, _, rfl, by simp, fun x m => ?_⟩
          · unfold r_parse_deed m_parse_deed
            simp [hb1, hb2, hc, n1, n2, n3, n4, n5, n6, n7, n8, hc2, hc3, k1, k2]
          · unfold r_law_read m_law_read
            simp [hb1, hb2, c1, hv, c2, n1, n2, n3, n4, n5, n6, n7, n8, n9, d1, d2]
          · have e2 : wPut ++ [32] ++ p ++ [32] ++ s ++ [32] ++ u = l := by rw [e, er, eq]; simp
            have hlen : (wPut ++ [32] ++ p ++ [32] ++ s ++ [32] ++ u).length ≤ 1000000 := by rw [e2]; omega
            have hu1 : u.length ≤ 1000000 := by simp at hlen; omega
            have hp1 : p.length ≤ 1000000 := by omega
            have v4' : val s < 100000 := by omega
            have f2 := fmI (val s) v4'
            rw [v3] at f2
            unfold r_format_deed m_format_deed
            simp only [s_putS, s_mt0, s_sp]
            have l1 : (wPut ++ [32]).length ≤ 1000000 := by decide
            generalize wPut ++ [32] = pc at hlen e2 l1
            simp only [List.append_assoc, List.length_append, List.length_cons, List.length_nil] at e2 hlen
            have e3 : pc ++ (p ++ 32 :: (s ++ 32 :: u)) = l := by simpa using e2
            have l2 : pc.length + p.length ≤ 1000000 := by omega
            have l3 : pc.length + (p.length + 1) ≤ 1000000 := by omega
            have l4 : pc.length + (p.length + (s.length + 1)) ≤ 1000000 := by omega
            have l5 : pc.length + (p.length + (s.length + 1 + 1)) ≤ 1000000 := by omega
            have l6 : pc.length + (p.length + (s.length + (u.length + 1) + 1)) ≤ 1000000 := by omega
            have hl' : l.length ≤ 1000000 := by omega
            simp [k3, f2, hu1, hp1, l1, l2, l3, l4, l5, l6, e3, n7, n8, n9, hl']
          · simp at m
            rcases m with rfl | rfl | rfl | rfl
            · exact .inl ⟨_, rfl⟩
            · exact addr_part hpl
            · exact .inr (.inl ⟨_, rfl⟩)
            · exact .inl ⟨_, rfl⟩
        | false =>
          rw [z2, if_neg Bool.false_ne_true] at k2
          rw [z2, if_neg Bool.false_ne_true] at d2
          refine .inr ⟨?_, ?_⟩
          · unfold r_parse_deed m_parse_deed
            simp [hb1, hb2, hc, n1, n2, n3, n4, n5, n6, n7, n8, hc2, hc3, k1, k2, BL]
          · unfold r_law_read m_law_read
            simp [hb1, hb2, c1, hv, c2, n1, n2, n3, n4, n5, n6, n7, n8, n9, d1, d2]
      | false =>
        rw [z1, if_neg Bool.false_ne_true] at k1
        rw [z1, if_neg Bool.false_ne_true] at d1
        refine .inr ⟨?_, ?_⟩
        · unfold r_parse_deed m_parse_deed
          simp [hb1, hb2, hc, n1, n2, n3, n4, n5, n6, n7, n8, hc2, hc3, k1, BL]
        · unfold r_law_read m_law_read
          simp [hb1, hb2, c1, hv, c2, n1, n2, n3, n4, n5, n6, n7, n8, n9, d1, d2]
/-- the deed of a line, read both ways -/
theorem both (l : List Nat) (hl : l.length ≤ 100000) : Both l := by
  by_cases hb1 : l = wCure
  · exact bare_ok (.inl hb1)
  by_cases hb2 : l = wUndo
  · exact bare_ok (.inr hb2)
  rcases split1 32 l with h | ⟨w, r, e, h⟩
  · exact none_ok hl h hb1 hb2
  by_cases hw : w ∈ words
  · simp only [words, List.mem_cons, List.not_mem_nil, or_false] at hw
    rcases hw with hw | hw | hw | hw | hw | hw | hw | hw | hw | hw
    · exact word_letters hl e (.inl hw)
    · exact word_letters hl e (.inr (.inl hw))
    · exact word_letters hl e (.inr (.inr hw))
    · exact word_names hl e (.inl hw)
    · exact word_names hl e (.inr (.inl hw))
    · exact word_names hl e (.inr (.inr hw))
    · exact word_cut hl (by rw [e, hw])
    · exact word_trade hl (by rw [e, hw])
    · exact word_edit hl (by rw [e, hw])
    · exact word_put hl (by rw [e, hw])
  · exact word_none hl e h hw
end
end Wk
namespace Wk
open PySem Dy L2 TL
/-! ### what no deed is -/
def Bad (x : D) : Prop := x.isFz = true ∧ x.noX = true ∧ r_parse_deed [x] = .err BL []
def badB (x : D) : Bool := x.isFz && (x.noX && (match r_parse_deed [x] with
  | .err (.mk C []) [] => decide (C = "BadLine")
  | _ => false))
theorem badB_ok {x : D} (h : badB x = true) : Bad x := by
  unfold badB at h
  simp only [Bool.and_eq_true] at h
  obtain ⟨h1, h2, h3⟩ := h
  refine ⟨h1, h2, ?_⟩
  split at h3
  · rename_i C hq
    rw [hq, of_decide_eq_true h3]
    rfl
  · cases h3
theorem bad_all {l : List D} (h : l.all badB = true) : ∀ x ∈ l, Bad x := fun x m => badB_ok (List.all_eq_true.mp h x m)
theorem bad_none {l : List Nat} (hl : l.length ≤ 100000) (h : 32 ∉ l) (hb1 : ¬ l = wCure) (hb2 : ¬ l = wUndo) : Bad (.str (sx l)) := by
  refine ⟨rfl, rfl, ?_⟩
  have hc := cut_off_none hl h
  unfold r_parse_deed m_parse_deed
  simp [hb1, hb2, hc, BL]
theorem bad_word {l w r : List Nat} (hl : l.length ≤ 100000) (e : l = w ++ 32 :: r) (h : 32 ∉ w) (hw : w ∉ words) : Bad (.str (sx l)) := by
  refine ⟨rfl, rfl, ?_⟩
  have hb1 : ¬ l = wCure := by rw [e]; exact not_bare (by decide)
  have hb2 : ¬ l = wUndo := by rw [e]; exact not_bare (by decide)
  have hc := off_ok hl e h
  simp only [words, List.mem_cons, List.not_mem_nil, or_false, not_or] at hw
  obtain ⟨w1, w2, w3, w4, w5, w6, w7, w8, w9, w10⟩ := hw
  unfold r_parse_deed m_parse_deed
  simp [hb1, hb2, hc, w1, w2, w3, w4, w5, w6, w7, w8, w9, w10, BL]
theorem bad_name {l w r : List Nat} (hl : l.length ≤ 100000) (e : l = w ++ 32 :: r) (hw : w = wFuller ∨ w = wLesser ∨ w = wForbid) (hr : (decide (r = [61]) || nameOk r) = false) : Bad (.str (sx l)) := by
  refine ⟨rfl, rfl, ?_⟩
  have h : 32 ∉ w := by rcases hw with rfl | rfl | rfl <;> decide
  have hb1 : ¬ l = wCure := by rw [e]; exact not_bare (by decide)
  have hb2 : ¬ l = wUndo := by rw [e]; exact not_bare (by decide)
  have hc := off_ok hl e h
  have n1 : ¬ w = wText := by rcases hw with rfl | rfl | rfl <;> decide
  have n2 : ¬ w = wSpare := by rcases hw with rfl | rfl | rfl <;> decide
  have n3 : ¬ w = wMend := by rcases hw with rfl | rfl | rfl <;> decide
  have hrl : r.length ≤ 100000 := by rw [e] at hl; simp at hl; omega
  have k1 := name_of_ok r hrl
  rw [hr, if_neg Bool.false_ne_true] at k1
  unfold r_parse_deed m_parse_deed
  simp [hb1, hb2, hc, hw, n1, n2, n3, k1, BL]
theorem bad_put {l q : List Nat} (hl : l.length ≤ 100000) (e : l = wPut ++ 32 :: ([45] ++ 32 :: q)) (hq : 32 ∉ q) : Bad (.str (sx l)) := by
  refine ⟨rfl, rfl, ?_⟩
  have hb1 : ¬ l = wCure := by rw [e]; exact not_bare (by decide)
  have hb2 : ¬ l = wUndo := by rw [e]; exact not_bare (by decide)
  have hc := off_ok hl e (by decide)
  have hrl : ([45] ++ 32 :: q).length ≤ 100000 := by rw [e] at hl; simp at hl ⊢; omega
  have hc2 := off_ok (l := [45] ++ 32 :: q) hrl rfl (by decide)
  have hc3 := cut_off_none (l := q) (by simp at hrl; omega) hq
  simp only [List.singleton_append] at hc hc2
  unfold r_parse_deed m_parse_deed
  simp [hb1, hb2, hc, hc2, hc3, BL]
/-- no text: no deed -/
theorem bad_ty {v : D} {t : String} (h1 : v.isFz = true) (h2 : v.noX = true) (h3 : tyNm v = some t) (h4 : isTys t ["str"] = false) : Bad v := by
  refine ⟨h1, h2, ?_⟩
  have hv := fr_isFz _ h1
  unfold r_parse_deed m_parse_deed
  simp [h3, h4, BL]
theorem bad_fine {v : D} (h : Bad v) : r_law_fine [v, .lst false []] = .ok (.bl true) [] := fine_err h.1 h.2.1 h.2.2
/-- a line's own verdict -/
theorem line_fine (l : List Nat) (hl : l.length ≤ 100000) : ∃ due, r_law_read [.str (sx l)] = .ok due [] ∧ r_law_fine [.str (sx l), due.fr] = .ok (.bl true) [] := by
  rcases both l hl with ⟨t, h1, h2, h3, xs, rfl, h4, h5⟩ | ⟨h1, h2⟩
  · have hp : ∀ x ∈ xs, x.isFz = true ∧ r_law_alike 4 [x, x] = .ok (.bl true) [] := fun x m => by
      rcases h5 x m with ⟨s, rfl⟩ | ⟨i, rfl⟩ | ⟨is, rfl, hi⟩
      · exact ⟨rfl, alike_str 3 s⟩
      · exact ⟨rfl, alike_int 3 i⟩
      · refine ⟨by rw [z_fzT, z_fzInts]; rfl, alike_seq (n := 3) (.inr rfl) (z_fzInts is) (fun y my => ?_) (by rw [List.length_map]; omega)⟩
        obtain ⟨j, _, rfl⟩ := List.mem_map.mp my
        exact alike_int 2 j
    have hz : D.isFzL xs = true := by
      rw [isFzL_all, List.all_eq_true]
      exact fun x m => (hp x m).1
    have ht : D.isFz (.tup false xs) = true := by rw [z_fzT, hz]; rfl
    refine ⟨_, h2, ?_⟩
    rw [z_frL, z_frL1, z_frL0, fr_isFz _ ht]
    exact fine_ok ht h1 (alike_seq (n := 4) (.inr rfl) hz (fun x m => (hp x m).2) (by omega)) h3
  · exact ⟨_, h2, fine_err rfl rfl h1⟩
end Wk
namespace Wk
open PySem Dy L2 TL
theorem name_ok' {n : Int} {d : D} (h : Sto n d) (hn : n ≤ 10 ^ 17) : ∃ l d', r_law_name [d] = .ok (.str (sx l)) [d'] ∧ Sto (n + 20) d' ∧ l.length ≤ 12 ∧ l.all isLtr = true := by
  obtain ⟨x, d1, h1, h2, h3⟩ := pick_ok (o := false) (xs := [.int 1, .int 1, .int 2, .int 3, .int 5, .int 8, .int 11, .int 12]) h (by omega) (by simp) (by simp) (by simp)
  obtain ⟨k, rfl, hk⟩ : ∃ k : Nat, x = .int k ∧ k ≤ 12 := by
    simp at h3
    rcases h3 with rfl | rfl | rfl | rfl | rfl | rfl | rfl
    · exact ⟨1, rfl, by omega⟩
    · exact ⟨2, rfl, by omega⟩
    · exact ⟨3, rfl, by omega⟩
    · exact ⟨5, rfl, by omega⟩
    · exact ⟨8, rfl, by omega⟩
    · exact ⟨11, rfl, by omega⟩
    · exact ⟨12, rfl, by omega⟩
  have hr : (rngD 0 1 k).length = k := by simp [rngD]
  obtain ⟨zs, e', c1, c2, c3, d2, rfl, c4⟩ := lcGo_all (vs := [2]) (g := gNm 2) (tt := mPure true) (te := mLoc fIx (mArgs [mPure (.tm (.str "abcdefghijklmnopqrstuvwxyz")), mCall r_law_take [true, false] (mArgs [mName 0, mPure (.tm (.int 26))])])) (P := fun z => ∃ c, z = .str (sx [c]) ∧ isLtr c = true)
    (fun j e => ∃ d, e = [some d, some (.int k), none] ∧ Sto (n + 1 + j) d) (ds := rngD 0 1 k) (acc := []) (k := 0) (e := [some d1, some (.int k), none]) (by rw [hr]; simp; omega)
    (fun i z e hz hI => by
      obtain ⟨da, rfl, hs⟩ := hI
      have hik : i < k := by
        have := (List.getElem?_eq_some_iff.mp hz).1
        rw [hr] at this
        exact this
      obtain ⟨v, db, t1, t2, t3, t4, _⟩ := take_ok (m := 26) hs (by omega) (by omega)
      obtain ⟨c, hc⟩ := letter_at (w := ltrs) t3 (t4 (by omega))
      have hcm : isLtr c = true := by
        have h26 : (26 : Int) = ltrs.length := rfl
        rw [atI_nat t3 (by rw [← h26]; exact t4 (by omega))] at hc
        exact decide_eq_true (List.mem_of_getElem? hc)
      have hl26 : ltrs.length ≤ 1000000 := by decide
      refine ⟨[some da, some (.int k), some z], [some da, some (.int k), some z], .tm (.str (sx [c])), [some db, some (.int k), some z], .str (sx [c]), [some db, some (.int k), some z], by simp, by simp, by simp [t1, s_ltrs, hc, hl26], by simp, ⟨c, rfl, hcm⟩, db, by simp, ?_⟩
      have e1 : n + 1 + ((0 + i + 1 : Nat) : Int) = n + 1 + ((0 + i : Nat) : Int) + 1 := by omega
      rw [e1]
      exact t2)
    ⟨d1, rfl, by simpa using h2⟩
  obtain ⟨cs, rfl, hcs⟩ := one_strs zs fun z m => (c3 z m).imp fun _ h => h.1
  have hall : cs.all isLtr = true := by
    rw [List.all_eq_true]
    intro c hc
    obtain ⟨c', e1, e2⟩ := c3 _ (List.mem_map.mpr ⟨c, hc, rfl⟩)
    injection e1 with e1
    have e3 := sx_inj.mp e1
    injection e3 with e4
    rw [e4]
    exact e2
  have hjc : joinL [] (cs.map fun c => [c]) = cs := by
    clear c1 c2 c3 c4 hcs hall
    induction cs with
    | nil => rfl
    | cons a r ih =>
      cases r with
      | nil => rfl
      | cons b r => exact congrArg (a :: ·) ih
  have hlen : cs.length ≤ 12 := by rw [hcs, c2, hr]; exact hk
  have hj := join_ok [] 1 (cs.map fun c => [c]) (fun l m => by obtain ⟨c, _, rfl⟩ := List.mem_map.mp m; simp) (by simp; omega)
  rw [List.map_map] at hj
  have hj2 := joinL_len [] 1 (cs.map fun c => [c]) (fun l m => by obtain ⟨c, _, rfl⟩ := List.mem_map.mp m; simp)
  refine ⟨joinL [] (cs.map fun c => [c]), d2, ?_, c4.mono (by rw [hr]; omega), by rw [hjc]; exact hlen, by rw [hjc]; exact hall⟩
  have hk1 : -1000000 ≤ (k : Int) := by omega
  have hk2 : (k : Int) ≤ 3000000 := by omega
  have hj3 : fJoin [.str (sx []), .lst true (cs.map fun c => D.str (sx [c]))] = some (.str (sx (joinL [] (cs.map fun c => [c])))) := hj
  rw [List.nil_append] at c1
  rw [y_joinL] at hj3
  unfold r_law_name m_law_name
  simp [h1, hk1, hk2, c1, s_mt]
  simp at hj3
  simp [hj3]

end Wk
namespace Wk
open PySem Dy L2 TL
theorem addC {s : Str} {c : List Nat} (h : s = sx c) (x : List Nat) (hl : c.length + x.length ≤ 1000000) : fAdd [.str s, .str (sx x)] = some (.str (sx (c ++ x))) := by rw [h]; exact addSx hl
theorem addE {s : Str} {c : List Nat} (h : s = sx c) (x : List Nat) (hl : x.length + c.length ≤ 1000000) : fAdd [.str (sx x), .str s] = some (.str (sx (x ++ c))) := by rw [h]; exact addSx hl
theorem mul13 : fMul [.str "a", .int 13] = some (.str "aaaaaaaaaaaaa") := by kernel_rfl
theorem add13 : fAdd [.str "fuller ", .str "aaaaaaaaaaaaa"] = some (.str "fuller aaaaaaaaaaaaa") := by kernel_rfl
@[simp] theorem x_lstF (ma : M (List OV)) (e : En) : mLstF ma e = (ma e).bind (fun os e1 => match takeAll os e1 with
  | some (ds, e2) => if ds.length ≤ 1000000 then .ok (.tm (.lst true (D.frL ds))) e2 else .stuck
  | none => .stuck) := rfl
@[simp] theorem k_fzD (o : Bool) (kvs : List (Key × D)) : D.isFz (.dic o kvs) = (!o && D.isFzK kvs) := rfl
@[simp] theorem k_fz0 : D.isFzK [] = true := rfl
@[simp] theorem k_fr0 : D.frK [] = [] := rfl
def g_0 (nm : List Nat) : List D := [.str "", .str " ", .str "text", .str "Text ", .str " text <a>", .str "texts <a>", .str "edit 0 0", .str "edit 0 ", .str "edit 0 01 ", .str "edit 00 0 "]
def g_1 (nm : List Nat) : List D := [.str "edit 0 0<a>", .str "edit  0 0 <a>", .str "edit -1 0 <a>", .str "edit 0 10000 ", .str "edit 0 a ", .str "edit 0  0 "]
def g_2 (nm : List Nat) : List D := [.str "put - 0", .str "put 0", .str (sx ([112, 117, 116, 32, 45, 32, 48] ++ nm)), .str "put  0 a", .str "put -- 0 a", .str "put 0. 0 a", .str "put 00 0 a"]
def g_3 (nm : List Nat) : List D := [.str "put - 00 a", .str "put - 10000 a", .str "put () 0 a", .str "put - -1 a", .str "cut", .str "cut ", .str "cut 0 ", .str "cut 0 0"]
def g_4 (nm : List Nat) : List D := [.str "cut a", .str "cut .0", .str "cut 10000", .str "cut 01", .str "cut -\n", .str "trade", .str "trade -", .str "trade 0", .str "trade 0..1 a"]
def g_5 (nm : List Nat) : List D := [.str "spare", .str "mend", .str "fuller", .str "fuller ", .str (sx (([102, 117, 108, 108, 101, 114, 32] ++ nm) ++ [32])), .str (sx ([102, 117, 108, 108, 101, 114, 32, 32] ++ nm)), .str "fuller A"]
def g_6 (nm : List Nat) : List D := [.str "lesser", .str "fuller aaaaaaaaaaaaa", .str "lesser ==", .str (sx (([108, 101, 115, 115, 101, 114, 32] ++ nm) ++ [10])), .str "cure ", .str " cure"]
def g_7 (nm : List Nat) : List D := [.str (sx ([99, 117, 114, 101, 32] ++ nm)), .str "Cure", .str "cure\n", .str "forbid", .str (sx ((([102, 111, 114, 98, 105, 100, 32] ++ nm) ++ [32]) ++ nm)), .str "undo ", .str "undo 1"]
def g_8 (nm : List Nat) : List D := [.str "undo\n", .str "redo", .str (sx ([102, 117, 108, 108, 101, 114, 10] ++ nm)), .str "lesser 1", .str (sx nm), .non, .bl true, .int 0, .tup false [.str "undo"], .lst false [.str "undo"], .dic false []]
def g_9 (nm : List Nat) : List D := [.tup false [.str "text", .str ""], .tup false [], .str "=", .str "text\n<a>", .str "edit 0 0\n", .str "forbid ==", .str "mend\n"]
section
variable {nm : List Nat} (hn : nm.length ≤ 13)
include hn
theorem A1 : fAdd [.str "put - 0", .str (sx nm)] = some (.str (sx ([112, 117, 116, 32, 45, 32, 48] ++ nm))) := addC (by decide +kernel) nm (by simp; omega)
theorem A2 : fAdd [.str "fuller ", .str (sx nm)] = some (.str (sx ([102, 117, 108, 108, 101, 114, 32] ++ nm))) := addC (by decide +kernel) nm (by simp; omega)
theorem A3 : fAdd [.str "fuller  ", .str (sx nm)] = some (.str (sx ([102, 117, 108, 108, 101, 114, 32, 32] ++ nm))) := addC (by decide +kernel) nm (by simp; omega)
theorem A4 : fAdd [.str "lesser ", .str (sx nm)] = some (.str (sx ([108, 101, 115, 115, 101, 114, 32] ++ nm))) := addC (by decide +kernel) nm (by simp; omega)
theorem A5 : fAdd [.str "cure ", .str (sx nm)] = some (.str (sx ([99, 117, 114, 101, 32] ++ nm))) := addC (by decide +kernel) nm (by simp; omega)
theorem A6 : fAdd [.str "forbid ", .str (sx nm)] = some (.str (sx ([102, 111, 114, 98, 105, 100, 32] ++ nm))) := addC (by decide +kernel) nm (by simp; omega)
theorem A7 : fAdd [.str "fuller\n", .str (sx nm)] = some (.str (sx ([102, 117, 108, 108, 101, 114, 10] ++ nm))) := addC (by decide +kernel) nm (by simp; omega)
theorem B1 : fAdd [.str (sx (102 :: 117 :: 108 :: 108 :: 101 :: 114 :: 32 :: nm)), .str " "] = some (.str (sx ((102 :: 117 :: 108 :: 108 :: 101 :: 114 :: 32 :: nm) ++ [32]))) := addE (by decide +kernel) _ (by simp; omega)
theorem B2 : fAdd [.str (sx (108 :: 101 :: 115 :: 115 :: 101 :: 114 :: 32 :: nm)), .str "\n"] = some (.str (sx ((108 :: 101 :: 115 :: 115 :: 101 :: 114 :: 32 :: nm) ++ [10]))) := addE (by decide +kernel) _ (by simp; omega)
theorem B3 : fAdd [.str (sx (102 :: 111 :: 114 :: 98 :: 105 :: 100 :: 32 :: nm)), .str " "] = some (.str (sx ((102 :: 111 :: 114 :: 98 :: 105 :: 100 :: 32 :: nm) ++ [32]))) := addE (by decide +kernel) _ (by simp; omega)
theorem B4 : fAdd [.str (sx (102 :: 111 :: 114 :: 98 :: 105 :: 100 :: 32 :: (nm ++ [32]))), .str (sx nm)] = some (.str (sx ((102 :: 111 :: 114 :: 98 :: 105 :: 100 :: 32 :: (nm ++ [32])) ++ nm))) := addSx (by simp; omega)
theorem nl_1 (d : D) (T : MS) : mSeq (mSet 2 (mLst (mArgs [mPure (.tm (.str "")), mPure (.tm (.str " ")), mPure (.tm (.str "text")), mPure (.tm (.str "Text ")), mPure (.tm (.str " text <a>")), mPure (.tm (.str "texts <a>")), mPure (.tm (.str "edit 0 0")), mPure (.tm (.str "edit 0 ")), mPure (.tm (.str "edit 0 01 ")), mPure (.tm (.str "edit 00 0 "))]))) T [some d, some (.str (sx nm)), none] = T [some d, some (.str (sx nm)), some (.lst true (g_0 nm))] := by
  unfold g_0
  simp
theorem nl_2 (d : D) (acc : List D) (hz : D.isFzL acc = true) (hl : acc.length ≤ 1000) (T : MS) : mSeq (mSet 2 (mLoc fAdd (mArgs [mName 2, mLst (mArgs [mPure (.tm (.str "edit 0 0<a>")), mPure (.tm (.str "edit  0 0 <a>")), mPure (.tm (.str "edit -1 0 <a>")), mPure (.tm (.str "edit 0 10000 ")), mPure (.tm (.str "edit 0 a ")), mPure (.tm (.str "edit 0  0 "))])]))) T [some d, some (.str (sx nm)), some (.lst true acc)] = T [some d, some (.str (sx nm)), some (.lst true (acc ++ g_1 nm))] := by
  have hl1 : acc.length + 6 ≤ 1000000 := by omega
  unfold g_1
  simp [hz, hl1]
theorem nl_3 (d : D) (acc : List D) (hz : D.isFzL acc = true) (hl : acc.length ≤ 1000) (T : MS) : mSeq (mSet 2 (mLoc fAdd (mArgs [mName 2, mLst (mArgs [mPure (.tm (.str "put - 0")), mPure (.tm (.str "put 0")), mLoc fAdd (mArgs [mPure (.tm (.str "put - 0")), mName 1]), mPure (.tm (.str "put  0 a")), mPure (.tm (.str "put -- 0 a")), mPure (.tm (.str "put 0. 0 a")), mPure (.tm (.str "put 00 0 a"))])]))) T [some d, some (.str (sx nm)), some (.lst true acc)] = T [some d, some (.str (sx nm)), some (.lst true (acc ++ g_2 nm))] := by
  have hl1 : acc.length + 7 ≤ 1000000 := by omega
  unfold g_2
  simp [-y_addS, hz, hl1, A1 hn, A2 hn, A3 hn, A4 hn, A5 hn, A6 hn, A7 hn, B1 hn, B2 hn, B3 hn, B4 hn]
theorem nl_4 (d : D) (acc : List D) (hz : D.isFzL acc = true) (hl : acc.length ≤ 1000) (T : MS) : mSeq (mSet 2 (mLoc fAdd (mArgs [mName 2, mLst (mArgs [mPure (.tm (.str "put - 00 a")), mPure (.tm (.str "put - 10000 a")), mPure (.tm (.str "put () 0 a")), mPure (.tm (.str "put - -1 a")), mPure (.tm (.str "cut")), mPure (.tm (.str "cut ")), mPure (.tm (.str "cut 0 ")), mPure (.tm (.str "cut 0 0"))])]))) T [some d, some (.str (sx nm)), some (.lst true acc)] = T [some d, some (.str (sx nm)), some (.lst true (acc ++ g_3 nm))] := by
  have hl1 : acc.length + 8 ≤ 1000000 := by omega
  unfold g_3
  simp [hz, hl1]
theorem nl_5 (d : D) (acc : List D) (hz : D.isFzL acc = true) (hl : acc.length ≤ 1000) (T : MS) : mSeq (mSet 2 (mLoc fAdd (mArgs [mName 2, mLst (mArgs [mPure (.tm (.str "cut a")), mPure (.tm (.str "cut .0")), mPure (.tm (.str "cut 10000")), mPure (.tm (.str "cut 01")), mPure (.tm (.str "cut -\n")), mPure (.tm (.str "trade")), mPure (.tm (.str "trade -")), mPure (.tm (.str "trade 0")), mPure (.tm (.str "trade 0..1 a"))])]))) T [some d, some (.str (sx nm)), some (.lst true acc)] = T [some d, some (.str (sx nm)), some (.lst true (acc ++ g_4 nm))] := by
  have hl1 : acc.length + 9 ≤ 1000000 := by omega
  unfold g_4
  simp [hz, hl1]
theorem nl_6 (d : D) (acc : List D) (hz : D.isFzL acc = true) (hl : acc.length ≤ 1000) (T : MS) : mSeq (mSet 2 (mLoc fAdd (mArgs [mName 2, mLst (mArgs [mPure (.tm (.str "spare")), mPure (.tm (.str "mend")), mPure (.tm (.str "fuller")), mPure (.tm (.str "fuller ")), mLoc fAdd (mArgs [mLoc fAdd (mArgs [mPure (.tm (.str "fuller ")), mName 1]), mPure (.tm (.str " "))]), mLoc fAdd (mArgs [mPure (.tm (.str "fuller  ")), mName 1]), mPure (.tm (.str "fuller A"))])]))) T [some d, some (.str (sx nm)), some (.lst true acc)] = T [some d, some (.str (sx nm)), some (.lst true (acc ++ g_5 nm))] := by
  have hl1 : acc.length + 7 ≤ 1000000 := by omega
  unfold g_5
  simp [-y_addS, hz, hl1, A1 hn, A2 hn, A3 hn, A4 hn, A5 hn, A6 hn, A7 hn, B1 hn, B2 hn, B3 hn, B4 hn]
theorem nl_7 (d : D) (acc : List D) (hz : D.isFzL acc = true) (hl : acc.length ≤ 1000) (T : MS) : mSeq (mSet 2 (mLoc fAdd (mArgs [mName 2, mLst (mArgs [mPure (.tm (.str "lesser")), mLoc fAdd (mArgs [mPure (.tm (.str "fuller ")), mLoc fMul (mArgs [mPure (.tm (.str "a")), mPure (.tm (.int 13))])]), mPure (.tm (.str "lesser ==")), mLoc fAdd (mArgs [mLoc fAdd (mArgs [mPure (.tm (.str "lesser ")), mName 1]), mPure (.tm (.str "\n"))]), mPure (.tm (.str "cure ")), mPure (.tm (.str " cure"))])]))) T [some d, some (.str (sx nm)), some (.lst true acc)] = T [some d, some (.str (sx nm)), some (.lst true (acc ++ g_6 nm))] := by
  have hl1 : acc.length + 6 ≤ 1000000 := by omega
  unfold g_6
  simp [-y_addS, hz, hl1, A1 hn, A2 hn, A3 hn, A4 hn, A5 hn, A6 hn, A7 hn, B1 hn, B2 hn, B3 hn, B4 hn, mul13, add13]
theorem nl_8 (d : D) (acc : List D) (hz : D.isFzL acc = true) (hl : acc.length ≤ 1000) (T : MS) : mSeq (mSet 2 (mLoc fAdd (mArgs [mName 2, mLst (mArgs [mLoc fAdd (mArgs [mPure (.tm (.str "cure ")), mName 1]), mPure (.tm (.str "Cure")), mPure (.tm (.str "cure\n")), mPure (.tm (.str "forbid")), mLoc fAdd (mArgs [mLoc fAdd (mArgs [mLoc fAdd (mArgs [mPure (.tm (.str "forbid ")), mName 1]), mPure (.tm (.str " "))]), mName 1]), mPure (.tm (.str "undo ")), mPure (.tm (.str "undo 1"))])]))) T [some d, some (.str (sx nm)), some (.lst true acc)] = T [some d, some (.str (sx nm)), some (.lst true (acc ++ g_7 nm))] := by
  have hl1 : acc.length + 7 ≤ 1000000 := by omega
  unfold g_7
  simp [-y_addS, hz, hl1, A1 hn, A2 hn, A3 hn, A4 hn, A5 hn, A6 hn, A7 hn, B1 hn, B2 hn, B3 hn, B4 hn]
theorem nl_9 (d : D) (acc : List D) (hz : D.isFzL acc = true) (hl : acc.length ≤ 1000) (T : MS) : mSeq (mSet 2 (mLoc fAdd (mArgs [mName 2, mLstF (mArgs [mPure (.tm (.str "undo\n")), mPure (.tm (.str "redo")), mLoc fAdd (mArgs [mPure (.tm (.str "fuller\n")), mName 1]), mPure (.tm (.str "lesser 1")), mName 1, mPure (.tm .non), mPure (.tm (.bl true)), mPure (.tm (.int 0)), mTup (mArgs [mPure (.tm (.str "undo"))]), mLst (mArgs [mPure (.tm (.str "undo"))]), mPure (.tm (.dic true []))])]))) T [some d, some (.str (sx nm)), some (.lst true acc)] = T [some d, some (.str (sx nm)), some (.lst true (acc ++ g_8 nm))] := by
  have hl1 : acc.length + 11 ≤ 1000000 := by omega
  unfold g_8
  simp [-y_addS, hz, hl1, A1 hn, A2 hn, A3 hn, A4 hn, A5 hn, A6 hn, A7 hn, B1 hn, B2 hn, B3 hn, B4 hn]
theorem nl_10 (d : D) (acc : List D) (hz : D.isFzL acc = true) (hl : acc.length ≤ 1000) (T : MS) : mSeq (mSet 2 (mLoc fAdd (mArgs [mName 2, mLst (mArgs [mTup (mArgs [mPure (.tm (.str "text")), mPure (.tm (.str ""))]), mTup (mArgs []), mPure (.tm (.str "=")), mPure (.tm (.str "text\n<a>")), mPure (.tm (.str "edit 0 0\n")), mPure (.tm (.str "forbid ==")), mPure (.tm (.str "mend\n"))])]))) T [some d, some (.str (sx nm)), some (.lst true acc)] = T [some d, some (.str (sx nm)), some (.lst true (acc ++ g_9 nm))] := by
  have hl1 : acc.length + 7 ≤ 1000000 := by omega
  unfold g_9
  simp [hz, hl1]
end
end Wk
namespace Wk
open PySem Dy L2 TL
theorem ltr_ne {c : Nat} (h : isLtr c = true) : 97 ≤ c ∧ c ≤ 122 := by
  have := of_decide_eq_true h
  simp only [ltrs, List.mem_cons, List.not_mem_nil, or_false] at this
  omega
theorem no_sp {l : List Nat} (h : l.all isLtr = true) : 32 ∉ l := fun m => by
  have := ltr_ne (List.all_eq_true.mp h 32 m)
  omega
theorem not_name {l : List Nat} {c : Nat} (m : c ∈ l) (hc : isLtr c = false) (h2 : l ≠ [61]) : (decide (l = [61]) || nameOk l) = false := by
  have : l.all isLtr = false := by
    cases q : l.all isLtr with
    | false => rfl
    | true => rw [List.all_eq_true.mp q c m] at hc; cases hc
  unfold nameOk
  rw [this, decide_eq_false h2]
  simp
section
variable {m : List Nat} (hm : m.all isLtr = true) (hl : m.length ≤ 12)
abbrev nmOf (m : List Nat) : List Nat := 113 :: m
include hm hl
theorem nm_all : (nmOf m).all isLtr = true := by rw [List.all_cons, hm]; rfl
theorem nm_len : (nmOf m).length ≤ 13 := by simp; omega
theorem bad_0 : ∀ x ∈ g_0 (nmOf m), Bad x := by
  have : (g_0 (nmOf m)) = g_0 [] := rfl
  rw [this]
  exact bad_all (by decide +kernel)
theorem bad_1 : ∀ x ∈ g_1 (nmOf m), Bad x := by
  have : (g_1 (nmOf m)) = g_1 [] := rfl
  rw [this]
  exact bad_all (by decide +kernel)
theorem bad_3 : ∀ x ∈ g_3 (nmOf m), Bad x := by
  have : (g_3 (nmOf m)) = g_3 [] := rfl
  rw [this]
  exact bad_all (by decide +kernel)
theorem bad_4 : ∀ x ∈ g_4 (nmOf m), Bad x := by
  have : (g_4 (nmOf m)) = g_4 [] := rfl
  rw [this]
  exact bad_all (by decide +kernel)
theorem bad_9 : ∀ x ∈ g_9 (nmOf m), Bad x := by
  have : (g_9 (nmOf m)) = g_9 [] := rfl
  rw [this]
  exact bad_all (by decide +kernel)
theorem bad_2 : ∀ x ∈ g_2 (nmOf m), Bad x := by
  have h1 := nm_all hm hl
  have h2 := nm_len hm hl
  have hs := no_sp h1
  unfold g_2
  refine List.forall_mem_cons.mpr ⟨badB_ok (by decide +kernel), List.forall_mem_cons.mpr ⟨badB_ok (by decide +kernel), List.forall_mem_cons.mpr ⟨?_, bad_all (by decide +kernel)⟩⟩⟩
  exact bad_put (q := 48 :: nmOf m) (by simp; omega) rfl (by
    intro q
    rcases List.mem_cons.mp q with z | z
    · cases z
    · exact hs z)
theorem bad_5 : ∀ x ∈ g_5 (nmOf m), Bad x := by
  have h1 := nm_all hm hl
  have h2 := nm_len hm hl
  unfold g_5
  refine List.forall_mem_cons.mpr ⟨badB_ok (by decide +kernel), List.forall_mem_cons.mpr ⟨badB_ok (by decide +kernel), List.forall_mem_cons.mpr ⟨badB_ok (by decide +kernel), List.forall_mem_cons.mpr ⟨badB_ok (by decide +kernel), List.forall_mem_cons.mpr ⟨?_, List.forall_mem_cons.mpr ⟨?_, bad_all (by decide +kernel)⟩⟩⟩⟩⟩⟩
  · exact bad_name (w := wFuller) (r := nmOf m ++ [32]) (by simp; omega) (by simp [wFuller]) (.inl rfl) (not_name (c := 32) (by simp) (by decide) (by simp))
  · exact bad_name (w := wFuller) (r := 32 :: nmOf m) (by simp; omega) (by simp [wFuller]) (.inl rfl) (not_name (c := 32) (by simp) (by decide) (by simp))
theorem bad_6 : ∀ x ∈ g_6 (nmOf m), Bad x := by
  have h1 := nm_all hm hl
  have h2 := nm_len hm hl
  unfold g_6
  refine List.forall_mem_cons.mpr ⟨badB_ok (by decide +kernel), List.forall_mem_cons.mpr ⟨badB_ok (by decide +kernel), List.forall_mem_cons.mpr ⟨badB_ok (by decide +kernel), List.forall_mem_cons.mpr ⟨?_, bad_all (by decide +kernel)⟩⟩⟩⟩
  exact bad_name (w := wLesser) (r := nmOf m ++ [10]) (by simp; omega) (by simp [wLesser]) (.inr (.inl rfl)) (not_name (c := 10) (by simp) (by decide) (by simp))
theorem bad_7 : ∀ x ∈ g_7 (nmOf m), Bad x := by
  have h1 := nm_all hm hl
  have h2 := nm_len hm hl
  unfold g_7
  refine List.forall_mem_cons.mpr ⟨?_, List.forall_mem_cons.mpr ⟨badB_ok (by decide +kernel), List.forall_mem_cons.mpr ⟨badB_ok (by decide +kernel), List.forall_mem_cons.mpr ⟨badB_ok (by decide +kernel), List.forall_mem_cons.mpr ⟨?_, bad_all (by decide +kernel)⟩⟩⟩⟩⟩
  · exact bad_word (w := wCure) (r := nmOf m) (by simp; omega) (by simp [wCure]) (by decide) (by decide)
  · exact bad_name (w := wForbid) (r := nmOf m ++ 32 :: nmOf m) (by simp; omega) (by simp [wForbid]) (.inr (.inr rfl)) (not_name (c := 32) (by simp) (by decide) (by simp))
theorem bad_8 : ∀ x ∈ g_8 (nmOf m), Bad x := by
  have h1 := nm_all hm hl
  have h2 := nm_len hm hl
  have hs := no_sp h1
  unfold g_8
  refine List.forall_mem_cons.mpr ⟨badB_ok (by decide +kernel), List.forall_mem_cons.mpr ⟨badB_ok (by decide +kernel), List.forall_mem_cons.mpr ⟨?_, List.forall_mem_cons.mpr ⟨badB_ok (by decide +kernel), List.forall_mem_cons.mpr ⟨?_, bad_all (by decide +kernel)⟩⟩⟩⟩⟩
  · exact bad_none (by simp; omega) (by simp at hs ⊢; exact hs) (by simp [wCure]) (by simp [wUndo])
  · exact bad_none (by omega) hs (by simp [wCure]) (by simp [wUndo])
end
end Wk
namespace Wk
open PySem Dy L2 TL
theorem cut_mem (l : List Nat) (lo hi : Option Int) : ∃ m : List Nat, cutS (sx l) lo hi = sx m ∧ m.length ≤ l.length ∧ ∀ c ∈ m, c ∈ l := by
  refine ⟨_, rfl, ?_, fun c h => ?_⟩
  · rw [sx_tl]
    simp
    omega
  · exact List.mem_of_mem_drop (List.mem_of_mem_take h)
theorem fz_app {a b : List D} (ha : D.isFzL a = true) (hb : D.isFzL b = true) : D.isFzL (a ++ b) = true := by
  rw [isFzL_all] at ha hb ⊢
  rw [List.all_append, ha, hb]
  rfl
def odd (nm : List Nat) : List D := g_0 nm ++ g_1 nm ++ g_2 nm ++ g_3 nm ++ g_4 nm ++ g_5 nm ++ g_6 nm ++ g_7 nm ++ g_8 nm ++ g_9 nm
theorem no_line_ok {n : Int} {d : D} (h : Sto n d) (hn : n ≤ 10 ^ 16) : ∃ x d', r_law_no_line [d] = .ok x [d'] ∧ Sto (n + 50) d' ∧ Bad x := by
  obtain ⟨l, d1, a1, a2, a3, a4⟩ := name_ok' h (by omega)
  obtain ⟨m, b1, b2, b3⟩ := cut_mem l none (some 11)
  have hm : m.all isLtr = true := by
    rw [List.all_eq_true]
    exact fun c hc => List.all_eq_true.mp a4 c (b3 c hc)
  have hml : m.length ≤ 12 := by omega
  have hnl := nm_len hm hml
  have hq := addC (s := "q") (c := [113]) (by decide +kernel) m (by simp; omega)
  have hl1 : l.length ≤ 1000000 := by omega
  have z0 : D.isFzL (g_0 (nmOf m)) = true := rfl
  have z1 := fz_app z0 (show D.isFzL (g_1 (nmOf m)) = true from rfl)
  have z2 := fz_app z1 (show D.isFzL (g_2 (nmOf m)) = true from rfl)
  have z3 := fz_app z2 (show D.isFzL (g_3 (nmOf m)) = true from rfl)
  have z4 := fz_app z3 (show D.isFzL (g_4 (nmOf m)) = true from rfl)
  have z5 := fz_app z4 (show D.isFzL (g_5 (nmOf m)) = true from rfl)
  have z6 := fz_app z5 (show D.isFzL (g_6 (nmOf m)) = true from rfl)
  have z7 := fz_app z6 (show D.isFzL (g_7 (nmOf m)) = true from rfl)
  have z8 := fz_app z7 (show D.isFzL (g_8 (nmOf m)) = true from rfl)
  have z9 := fz_app z8 (show D.isFzL (g_9 (nmOf m)) = true from rfl)
  have hod : (odd (nmOf m)).length ≤ 1000 := by simp [odd, g_0, g_1, g_2, g_3, g_4, g_5, g_6, g_7, g_8, g_9]
  obtain ⟨x, d2, p1, p2, p3⟩ := pick_ok (o := false) (xs := odd (nmOf m)) a2 (by omega) (by simp [odd, g_0]) (by omega) z9
  have hbad : Bad x := by
    simp only [odd, List.mem_append] at p3
    rcases p3 with ((((((((p | p) | p) | p) | p) | p) | p) | p) | p) | p
    · exact bad_0 hm hml x p
    · exact bad_1 hm hml x p
    · exact bad_2 hm hml x p
    · exact bad_3 hm hml x p
    · exact bad_4 hm hml x p
    · exact bad_5 hm hml x p
    · exact bad_6 hm hml x p
    · exact bad_7 hm hml x p
    · exact bad_8 hm hml x p
    · exact bad_9 hm hml x p
  have hfr : D.frL (odd (nmOf m)) = odd (nmOf m) := frL_isFz _ z9
  have hx := hbad.1
  have h0 : ∀ (T : MS), mSeq (mSet 1 (mLoc fAdd (mArgs [mPure (.tm (.str "q")), mSl (mCall (r_law_name) [true] (mArgs [mName 0])) mNoP (mPart (mPure (.tm (.int 11))))]))) T [some d, none, none] = T [some d1, some (.str (sx (nmOf m))), none] := fun T => by
    simp [-y_addS, a1, b1, hq, hl1]
  have hmn : m_law_no_line [some d, none, none] = (mRet [0] (mCall (r_law_pick) [true, false] (mArgs [mName 0, mName 2]))) [some d1, some (.str (sx (nmOf m))), some (.lst true (odd (nmOf m)))] := by
    unfold m_law_no_line
    rw [h0, nl_1 hnl, nl_2 hnl _ _ z0 (by simp [g_0]), nl_3 hnl _ _ z1 (by simp [g_0, g_1]), nl_4 hnl _ _ z2 (by simp [g_0, g_1, g_2]), nl_5 hnl _ _ z3 (by simp [g_0, g_1, g_2, g_3]), nl_6 hnl _ _ z4 (by simp [g_0, g_1, g_2, g_3, g_4]), nl_7 hnl _ _ z5 (by simp [g_0, g_1, g_2, g_3, g_4, g_5]),
      nl_8 hnl _ _ z6 (by simp [g_0, g_1, g_2, g_3, g_4, g_5, g_6]), nl_9 hnl _ _ z7 (by simp [g_0, g_1, g_2, g_3, g_4, g_5, g_6, g_7]), nl_10 hnl _ _ z8 (by simp [g_0, g_1, g_2, g_3, g_4, g_5, g_6, g_7, g_8])]
    rfl
  refine ⟨x, d2, ?_, p2.mono (by omega), hbad⟩
  unfold r_law_no_line
  simp [hmn, hfr, p1]
end Wk
namespace Wk
open PySem Dy L2 TL
abbrev lwB1 : MS := mSeq (mSet 4 (mCall (r_law_line) [true, false] (mArgs [mName 1, mName 3]))) (mSeq (mApp 2 (mName 4)) (mSeq (mSet 5 (mLoc fAdd (mArgs [mSl (mName 4) mNoP (mPart (mPure (.tm (.int 14)))), mLoc fMul (mArgs [mPure (.tm (.str ".")), mLoc fInt (mArgs [mLoc (fCmpI fun i j => decide (j < i)) (mArgs [mLoc fLen (mArgs [mName 4]), mPure (.tm (.int 14))])])])]))) (mSeq (mApp 2 (mCall (r_law_bent_string) [true, false] (mArgs [mName 1, mName 4]))) (mApp 2 (mCall (r_law_bent_string) [true, false] (mArgs [mName 1, mName 5]))))))
theorem dot1 : fMul [.str ".", .int 1] = some (.str (sx [46])) := by kernel_rfl
theorem dot0 : fMul [.str ".", .int 0] = some (.str (sx [])) := by kernel_rfl
theorem body1_ok {n : Int} {d s0 : D} (w : List Nat) (hw : w ∈ allW) (hs : Sto n d) (hn : n ≤ 10 ^ 15) (ls : List (List Nat)) (hl : ls.length ≤ 1000) (x y z : Option D) :
    ∃ d' l1 l2 l3 y', lwB1 [some s0, some d, some (.lst true (strM ls)), some (.str (sx w)), x, y, z] = .ok .nx [some s0, some d', some (.lst true (strM (ls ++ [l1, l2, l3]))), some (.str (sx w)), some (.str (sx l1)), y', z] ∧
      Sto (n + 1100) d' ∧ l1.length ≤ 100000 ∧ l2.length ≤ 100000 ∧ l3.length ≤ 100000 := by
  obtain ⟨l1, d1, a1, a2, a3⟩ := line_ok w hw hs hn
  obtain ⟨m, c1, c2, _⟩ := cut_mem l1 none (some 14)
  obtain ⟨l2, d2, b1, b2, b3⟩ := bent_ok l1 (by omega) a2 (by omega)
  have hl1 : l1.length ≤ 1000000 := by omega
  have k1 : (strM ls).length < 1000000 := by unfold strM; rw [List.length_map]; omega
  have k2 : (strM ls).length + 1 < 1000000 := by unfold strM; rw [List.length_map]; omega
  have k3 : (strM ls).length + 2 < 1000000 := by unfold strM; rw [List.length_map]; omega
  have e3 : ∀ l3 : List Nat, strM (ls ++ [l1, l2, l3]) = strM ls ++ [.str (sx l1), .str (sx l2), .str (sx l3)] := fun l3 => by simp [strM]
  by_cases hc : (14 : Int) < l1.length
  · obtain ⟨l3, d3, f1, f2, f3⟩ := bent_ok (m ++ [46]) (by simp; omega) b2 (by omega)
    have hm : fAdd [.str (sx m), .str (sx [46])] = some (.str (sx (m ++ [46]))) := addSx (by simp; omega)
    refine ⟨d3, l1, l2, l3, some (.str (sx (m ++ [46]))), ?_, f2.mono (by omega), by omega, by omega, by simp at f3; omega⟩
    rw [e3]
    simp [-y_addS, isLstAt, a1, k1, k2, k3, hl1, c1, hc, dot1, hm, b1, f1]
  · obtain ⟨l3, d3, f1, f2, f3⟩ := bent_ok (m ++ []) (by simp; omega) b2 (by omega)
    have hm : fAdd [.str (sx m), .str (sx [])] = some (.str (sx (m ++ []))) := addSx (by simp; omega)
    rw [List.append_nil] at hm f1
    refine ⟨d3, l1, l2, l3, some (.str (sx m)), ?_, f2.mono (by omega), by omega, by omega, by simp at f3; omega⟩
    rw [e3]
    simp [-y_addS, isLstAt, a1, k1, k2, k3, hl1, c1, hc, dot0, hm, b1, f1]
def allS : List D := [.str "text", .str "edit", .str "put", .str "cut", .str "trade", .str "spare", .str "mend", .str "fuller", .str "lesser", .str "cure", .str "forbid", .str "undo"]
theorem allS_is : allS = allW.map fun w => .str (sx w) := by rfl
theorem loop1 {d s0 : D} (hs : Sto 0 d) : ∃ d' ls x y z, forGo (gNm 3) lwB1 (allW.map fun w => .str (sx w)) [some s0, some d, some (.lst true []), none, none, none, none] = .ok .nx [some s0, some d', some (.lst true (strM ls)), x, y, z, none] ∧ Sto 20000 d' ∧ ls ≠ [] ∧ ls.length ≤ 1000 ∧ ∀ l ∈ ls, l.length ≤ 100000 := by
  obtain ⟨e', h1, d', ls, x, y, z, rfl, h2, h3, h4⟩ := forGo_inv (g := gNm 3) (body := lwB1) (fun k e => ∃ d ls x y z, e = [some s0, some d, some (.lst true (strM ls)), x, y, z, none] ∧ Sto (1100 * (k : Nat)) d ∧ ls.length = 3 * k ∧ ∀ l ∈ ls, l.length ≤ 100000) (ds := allW.map fun w => .str (sx w)) (k := 0) (e := [some s0, some d, some (.lst true []), none, none, none, none])
    (fun i dd e hd hI => by
      obtain ⟨d, ls, x, y, z, rfl, h2, h3, h4⟩ := hI
      have hi : i < 12 := by
        have := (List.getElem?_eq_some_iff.mp hd).1
        simpa [allW] using this
      obtain ⟨w, hw, rfl⟩ : ∃ w ∈ allW, dd = .str (sx w) := by
        have := List.mem_of_getElem? hd
        obtain ⟨w, hw, e⟩ := List.mem_map.mp this
        exact ⟨w, hw, e.symm⟩
      obtain ⟨d', l1, l2, l3, y', b1, b2, b3, b4, b5⟩ := body1_ok (s0 := s0) w hw h2 (by omega) ls (by omega) y z none
      refine ⟨[some s0, some d, some (.lst true (strM ls)), some (.str (sx w)), y, z, none], .nx, _, by simp, b1, .inl rfl, d', ls ++ [l1, l2, l3], some (.str (sx w)), some (.str (sx l1)), y', rfl, b2.mono (by omega), by simp; omega, fun l m => ?_⟩
      rcases List.mem_append.mp m with m | m
      · exact h4 l m
      · simp at m
        rcases m with rfl | rfl | rfl <;> assumption)
    ⟨d, [], none, none, none, rfl, hs.mono (by omega), rfl, fun _ m => nomatch m⟩
  have h12 : (allW.map fun w => D.str (sx w)).length = 12 := rfl
  rw [h12] at h2 h3
  exact ⟨d', ls, x, y, z, h1, h2.mono (by omega), (by intro q; rw [q] at h3; cases h3), by omega, h4⟩
end Wk
namespace Wk
open PySem Dy L2 TL
abbrev lwB2 : MS := mIf (mNot (mTruth (mCall (r_law_fine) [false, false] (mArgs [mName 4, mCall (r_law_read) [false] (mArgs [mName 4])])))) (mRet (ioSlots [false] 0) (mPure (.tm (.bl false)))) (mNx)
abbrev lwB3 : MS := mIf (mNot (mTruth (mCall (r_law_fine) [false, false] (mArgs [mCall (r_law_no_line) [true] (mArgs [mName 1]), mLst (mArgs [])])))) (mRet (ioSlots [false] 0) (mPure (.tm (.bl false)))) (mNx)
abbrev lwB4 : MS := mSeq (mSet 4 (mCall (r_law_pick) [true, false] (mArgs [mName 1, mName 2]))) (mIf (mNot (mTruth (mCall (r_law_fine) [false, false] (mArgs [mCall (r_law_pick) [true, false] (mArgs [mName 1, mLstF (mArgs [mTup (mArgs [mName 4]), mLst (mArgs [mName 4]), mPure (.tm .non), mPure (.tm (.int 0)), mPure (.tm (.bl true)), mLoc fDisp (mArgs (flatM [(mName 4, mName 4)])), mTup (mArgs [mPure (.tm (.str "text")), mName 4])])]), mLst (mArgs [])])))) (mRet (ioSlots [false] 0) (mPure (.tm (.bl false)))) (mNx))
theorem ios0 : ioSlots [false] 0 = [] := rfl
theorem loop2 {s0 d x3 : D} : True := trivial
theorem loopB2 (s0 d dl : D) (x y z : Option D) (ls : List (List Nat)) (hl : ∀ l ∈ ls, l.length ≤ 100000) (x4 : Option D) : ∃ x4', forGo (gNm 4) lwB2 (ls.map fun l => .str (sx l)) [some s0, some d, some dl, x, x4, y, z] = .ok .nx [some s0, some d, some dl, x, x4', y, z] := by
  obtain ⟨e', h1, x4', rfl⟩ := forGo_inv (g := gNm 4) (body := lwB2) (fun _ e => ∃ x4, e = [some s0, some d, some dl, x, x4, y, z]) (ds := ls.map fun l => .str (sx l)) (k := 0) (e := [some s0, some d, some dl, x, x4, y, z])
    (fun i dd e hd hI => by
      obtain ⟨x4, rfl⟩ := hI
      obtain ⟨l, hm, e⟩ := List.mem_map.mp (List.mem_of_getElem? hd)
      subst e
      obtain ⟨due, r1, r2⟩ := line_fine l (hl l hm)
      refine ⟨[some s0, some d, some dl, x, some (.str (sx l)), y, z], .nx, [some s0, some d, some dl, x, some (.str (sx l)), y, z], by simp, ?_, .inl rfl, _, rfl⟩
      simp [r1, r2]) ⟨x4, rfl⟩
  exact ⟨x4', h1⟩
theorem loopB3 {n : Int} (s0 d dl : D) (x y z4 : Option D) (hs : Sto n d) (hn : n ≤ 10 ^ 15) (x6 : Option D) : ∃ d' x6', forGo (gNm 6) lwB3 (rngD 0 1 6) [some s0, some d, some dl, x, z4, y, x6] = .ok .nx [some s0, some d', some dl, x, z4, y, x6'] ∧ Sto (n + 300) d' := by
  obtain ⟨e', h1, d', x6', rfl, h2⟩ := forGo_inv (g := gNm 6) (body := lwB3) (fun k e => ∃ d x6, e = [some s0, some d, some dl, x, z4, y, x6] ∧ Sto (n + 50 * (k : Nat)) d) (ds := rngD 0 1 6) (k := 0) (e := [some s0, some d, some dl, x, z4, y, x6])
    (fun i dd e hd hI => by
      obtain ⟨d, x6, rfl, h⟩ := hI
      have hi : i < 6 := by
        have := (List.getElem?_eq_some_iff.mp hd).1
        simpa [rngD] using this
      obtain ⟨v, d', r1, r2, r3⟩ := no_line_ok h (by omega)
      have hv := fr_isFz _ r3.1
      have hf := bad_fine r3
      refine ⟨[some s0, some d, some dl, x, z4, y, some dd], .nx, [some s0, some d', some dl, x, z4, y, some dd], by simp, ?_, .inl rfl, d', _, rfl, r2.mono (by omega)⟩
      simp [r1, hv, hf]) ⟨d, x6, rfl, hs.mono (by omega)⟩
  have : (rngD 0 1 6).length = 6 := rfl
  rw [this] at h2
  exact ⟨d', x6', h1, h2.mono (by omega)⟩
theorem pickL (l : List Nat) : ∀ x ∈ ([.tup false [.str (sx l)], .lst false [.str (sx l)], .non, .int 0, .bl true, .dic false [(.inr (sx l), .str (sx l))], .tup false [.str (sx wText), .str (sx l)]] : List D), Bad x := by
  intro x m
  simp at m
  rcases m with rfl | rfl | rfl | rfl | rfl | rfl | rfl
  · exact bad_ty (t := "tuple") rfl rfl rfl (by decide)
  · exact bad_ty (t := "list") rfl rfl rfl (by decide)
  · exact bad_ty (t := "NoneType") rfl rfl rfl (by decide)
  · exact bad_ty (t := "int") rfl rfl rfl (by decide)
  · exact bad_ty (t := "bool") rfl rfl rfl (by decide)
  · exact bad_ty (t := "dict") rfl rfl rfl (by decide)
  · exact bad_ty (t := "tuple") rfl rfl rfl (by decide)
theorem disp1 (l : List Nat) : fDisp [.str (sx l), .str (sx l)] = some (.dic true [(.inr (sx l), .str (sx l))]) := rfl
@[simp] theorem k_fr1 (k : Key) (d : D) (r : List (Key × D)) : D.frK ((k, d) :: r) = (k, d.fr) :: D.frK r := rfl
@[simp] theorem k_fz1 (k : Key) (d : D) (r : List (Key × D)) : D.isFzK ((k, d) :: r) = (d.isFz && D.isFzK r) := rfl
theorem loopB4 {n : Int} (s0 d : D) (x y : Option D) (ls : List (List Nat)) (h0 : ls ≠ []) (hll : ls.length ≤ 1000) (hs : Sto n d) (hn : n ≤ 10 ^ 15) (x4 x6 : Option D) (o : Bool) : ∃ d' o' x4' x6', forGo (gNm 6) lwB4 (rngD 0 1 4) [some s0, some d, some (.lst o (strM ls)), x, x4, y, x6] = .ok .nx [some s0, some d', some (.lst o' (strM ls)), x, x4', y, x6'] := by
  have hz : D.isFzL (strM ls) = true := z_fzSx ls
  have hfr := frL_isFz _ hz
  obtain ⟨e', h1, d', o', x4', x6', rfl, h2⟩ := forGo_inv (g := gNm 6) (body := lwB4) (fun k e => ∃ d o x4 x6, e = [some s0, some d, some (.lst o (strM ls)), x, x4, y, x6] ∧ Sto (n + 2 * (k : Nat)) d) (ds := rngD 0 1 4) (k := 0) (e := [some s0, some d, some (.lst o (strM ls)), x, x4, y, x6])
    (fun i dd e hd hI => by
      obtain ⟨d, o, x4, x6, rfl, h⟩ := hI
      have hi : i < 4 := by
        have := (List.getElem?_eq_some_iff.mp hd).1
        simpa [rngD] using this
      obtain ⟨w, d1, p1, p2, p3⟩ := pick_ok (o := false) (xs := strM ls) h (by omega) (by simpa [strM] using h0) (by simp [strM]; omega) hz
      obtain ⟨l, _, rfl⟩ := List.mem_map.mp p3
      obtain ⟨v, d2, q1, q2, q3⟩ := pick_ok (o := false) (xs := [.tup false [.str (sx l)], .lst false [.str (sx l)], .non, .int 0, .bl true, .dic false [(.inr (sx l), .str (sx l))], .tup false [.str (sx wText), .str (sx l)]]) p2 (by omega) (by simp) (by simp) rfl
      have hb := pickL l v q3
      have hv := fr_isFz _ hb.1
      have hf := bad_fine hb
      refine ⟨[some s0, some d, some (.lst o (strM ls)), x, x4, y, some dd], .nx, [some s0, some d2, some (.lst false (strM ls)), x, some (.str (sx l)), y, some dd], by simp, ?_, .inl rfl, d2, false, _, _, rfl, q2.mono (by omega)⟩
      simp [hfr, p1, disp1, q1, hv, hf]) ⟨d, o, x4, x6, rfl, hs.mono (by omega)⟩
  exact ⟨d', o', x4', x6', h1⟩
theorem plain2 (ns : List Int) (h : ns.length ≤ 63) : ∃ ios, r_law [.lok (ns.map .int)] = .ok (.bl true) ios := by
  obtain ⟨d, st1, st2⟩ := store_ok ns h
  obtain ⟨d1, ls, x, y, z, l1, l2, l3, l4, l5⟩ := loop1 (s0 := .lok (ns.map .int)) st2
  have hz : D.isFzL (strM ls) = true := z_fzSx ls
  have hfr := frL_isFz _ hz
  obtain ⟨ct, hc1, hc2⟩ : ∃ ct : List (List Nat), cutD (strM ls) none (some 1) = strM ct ∧ ∀ l ∈ ct, l ∈ ls := by
    refine ⟨ls.take (HT.sIx ls.length ls.length (some 1)), ?_, fun l m => List.mem_of_mem_take m⟩
    unfold cutD strM
    rw [HT.sIx_none, List.length_map, List.drop_zero, Nat.sub_zero, List.map_take]
  have hctl : (strM ct).length ≤ 100000 := by
    rw [← hc1]
    unfold cutD
    simp
    have : (strM ls).length = ls.length := by simp [strM]
    omega
  have hz2 : D.isFzL (strM ct) = true := z_fzSx ct
  have hz3 := fz_app hz hz2
  have hfr3 := frL_isFz _ hz3
  have hlen : (strM ls).length + (strM ct).length ≤ 1000000 := by
    have : (strM ls).length = ls.length := by simp [strM]
    omega
  have e1 : strM ls ++ strM ct = (ls ++ ct).map fun l => .str (sx l) := by simp [strM]
  obtain ⟨x4, f1⟩ := loopB2 (.lok (ns.map .int)) d1 (.lst true (strM ls)) x z none (ls ++ ct) (fun l m => by
    rcases List.mem_append.mp m with m | m
    · exact l5 l m
    · exact l5 l (hc2 l m)) y
  rw [← e1] at f1
  obtain ⟨d2, x6, f2, f3⟩ := loopB3 (.lok (ns.map .int)) d1 (.lst true (strM ls)) x z x4 l2 (by omega) none
  obtain ⟨d3, o', x4', x6', f4⟩ := loopB4 (.lok (ns.map .int)) d2 x z ls l3 l4 f3 (by omega) x4 x6 true
  have k1 : ∀ (T : MS), mSeq (mSet 1 (mCall (r_law_store) [false] (mArgs [mName 0]))) T [some (.lok (ns.map .int)), none, none, none, none, none, none] = T [some (.lok (ns.map .int)), some d, none, none, none, none, none] := fun T => by simp [st1]
  have k2 : ∀ (T : MS), mSeq (mSet 2 (mLst (mArgs []))) T [some (.lok (ns.map .int)), some d, none, none, none, none, none] = T [some (.lok (ns.map .int)), some d, some (.lst true []), none, none, none, none] := fun T => by simp
  have k3 : ∀ (T : MS), mSeq (mFor (mIter (mLst (mArgs [mPure (.tm (.str "text")), mPure (.tm (.str "edit")), mPure (.tm (.str "put")), mPure (.tm (.str "cut")), mPure (.tm (.str "trade")), mPure (.tm (.str "spare")), mPure (.tm (.str "mend")), mPure (.tm (.str "fuller")), mPure (.tm (.str "lesser")), mPure (.tm (.str "cure")), mPure (.tm (.str "forbid")), mPure (.tm (.str "undo"))]))) (gNm 3) (mSeq (mSet 4 (mCall (r_law_line) [true, false] (mArgs [mName 1, mName 3]))) (mSeq (mApp 2 (mName 4)) (mSeq (mSet 5 (mLoc fAdd (mArgs [mSl (mName 4) mNoP (mPart (mPure (.tm (.int 14)))), mLoc fMul (mArgs [mPure (.tm (.str ".")), mLoc fInt (mArgs [mLoc (fCmpI fun i j => decide (j < i)) (mArgs [mLoc fLen (mArgs [mName 4]), mPure (.tm (.int 14))])])])]))) (mSeq (mApp 2 (mCall (r_law_bent_string) [true, false] (mArgs [mName 1, mName 4]))) (mApp 2 (mCall (r_law_bent_string) [true, false] (mArgs [mName 1, mName 5])))))))) T [some (.lok (ns.map .int)), some d, some (.lst true []), none, none, none, none] = T [some (.lok (ns.map .int)), some d1, some (.lst true (strM ls)), x, y, z, none] := fun T => by
    have : (allW.map fun w => D.str (sx w)) = [.str (sx wText), .str (sx wEdit), .str (sx wPut), .str (sx wCut), .str (sx wTrade), .str (sx wSpare), .str (sx wMend), .str (sx wFuller), .str (sx wLesser), .str (sx wCure), .str (sx wForbid), .str (sx wUndo)] := rfl
    rw [this] at l1
    unfold lwB1 at l1
    simp [l1]
  have k4 : ∀ (T : MS), mSeq (mFor (mIter (mLoc fAdd (mArgs [mName 2, mSl (mName 2) mNoP (mPart (mPure (.tm (.int 1))))]))) (gNm 4) (mIf (mNot (mTruth (mCall (r_law_fine) [false, false] (mArgs [mName 4, mCall (r_law_read) [false] (mArgs [mName 4])])))) (mRet (ioSlots [false] 0) (mPure (.tm (.bl false)))) (mNx))) T [some (.lok (ns.map .int)), some d1, some (.lst true (strM ls)), x, y, z, none] = T [some (.lok (ns.map .int)), some d1, some (.lst true (strM ls)), x, x4, z, none] := fun T => by
    unfold lwB2 at f1
    rw [ios0] at f1
    simp [hz, hc1, hz2, hlen, hz3, hfr3, f1]
  have k5 : ∀ (T : MS), mSeq (mFor (mRng1 (mPure (.tm (.int 6)))) (gNm 6) (mIf (mNot (mTruth (mCall (r_law_fine) [false, false] (mArgs [mCall (r_law_no_line) [true] (mArgs [mName 1]), mLst (mArgs [])])))) (mRet (ioSlots [false] 0) (mPure (.tm (.bl false)))) (mNx))) T [some (.lok (ns.map .int)), some d1, some (.lst true (strM ls)), x, x4, z, none] = T [some (.lok (ns.map .int)), some d2, some (.lst true (strM ls)), x, x4, z, x6] := fun T => by
    unfold lwB3 at f2
    rw [ios0] at f2
    simp [f2]
  have k6 : ∀ (T : MS), mSeq (mFor (mRng1 (mPure (.tm (.int 4)))) (gNm 6) (mSeq (mSet 4 (mCall (r_law_pick) [true, false] (mArgs [mName 1, mName 2]))) (mIf (mNot (mTruth (mCall (r_law_fine) [false, false] (mArgs [mCall (r_law_pick) [true, false] (mArgs [mName 1, mLstF (mArgs [mTup (mArgs [mName 4]), mLst (mArgs [mName 4]), mPure (.tm .non), mPure (.tm (.int 0)), mPure (.tm (.bl true)), mLoc fDisp (mArgs (flatM [(mName 4, mName 4)])), mTup (mArgs [mPure (.tm (.str "text")), mName 4])])]), mLst (mArgs [])])))) (mRet (ioSlots [false] 0) (mPure (.tm (.bl false)))) (mNx)))) T [some (.lok (ns.map .int)), some d2, some (.lst true (strM ls)), x, x4, z, x6] = T [some (.lok (ns.map .int)), some d3, some (.lst o' (strM ls)), x, x4', z, x6'] := fun T => by
    unfold lwB4 at f4
    rw [ios0] at f4
    simp only [S_text, S_flat1, S_flat0] at f4
    simp [f4]
  have hm : m_law [some (.lok (ns.map .int)), none, none, none, none, none, none] = .ok (.rt (.bl true)) [some (.lok (ns.map .int)), some d3, some (.lst o' (strM ls)), x, x4', z, x6'] := by
    unfold m_law
    rw [k1, k2, k3, k4, k5, k6]
    rfl
  refine ⟨[], ?_⟩
  unfold r_law
  simp [hm]
end Wk
namespace Wk
def names : List PySem.Str := ["BadLine", "BadMarkup", "BadTree", "Limit", "NoSuch", "UnknownName"]
end Wk
section
open PySem PySem.Spec PyProof.Rows Dy
theorem Wk.fin {P : Program} {w : World} {K : PySem.W.Frag} {h : Heap} {mg : Str → Option Value} {fa : Addr} (X : K.In h) (G : h.Ns mainGlobals mg) (hmg : mg "law" = some (.ref fa)) (T : Wk.Tx K mg (clK K Wk.names) (adK K)) (LI : ∃ f, mg "law" = some (.ref f) ∧ LawIn K Wk.s_law f) :
    ∃ fd : FuncData, (∀ (s : Shared) (u : Value), BindsTo s fd ⟨[u], []⟩ [("script", u)]) ∧ ∀ base : Heap, K.In base → base.Ns mainGlobals mg → L2.FnOk P w K mg base (L2.CX P w) 10 fa fd ["script"] (spM K (clK K Wk.names) Wk.r_law [false]) := by
  obtain ⟨f, hf, LI⟩ := LI
  obtain rfl : fa = f := by
    have z := hmg.symm.trans hf
    cases z
    rfl
  exact Dy.law_fn (N := Wk.N_law) (n := 7) LI Wk.sc_law rfl (fun _ _ _ _ _ _ _ => rfl) (fun base cdv A outer s H E hr => Wk.wb_law T hr)
end
open PySem PySem.W PyProof.Rows Dy Wk
theorem Wk.plain : ∀ ns : List Int, ns.length ≤ 63 → (∀ z ∈ ns, Builtin.Int.intBits z ≤ 1048576) → ∃ ios, Wk.r_law [.lok (ns.map .int)] = .ok (.bl true) ios := fun ns h _ => Wk.plain2 ns h
theorem PySem.Challenge.cw_endsleftout_k33_deeds_there_and_back_holds : PySem.Challenge.rw_endsleftout_k33_deeds_there_and_back.Holds := by
  w_on; o_law; k_head; (case hw => w_witness2)
  k_fill
  refine Dy.law_walk (l := PySem.Challenge.rw_endsleftout_k33_deeds_there_and_back) (k := 10) (names := Wk.names) (fm := Wk.r_law) Wk.plain rfl rfl ⟨rfl, by decide, by decide⟩ (fun w h Y => PySem.W.kIn_of Y) ?F
  case F =>
    intro w mg fa h KX G hmg
    replace hmg : mg ("law" : PySem.Str) = some (.ref fa) := hmg
    refine Wk.fin KX G hmg ?T ?LI
    case T =>
      constructor
      · exact Dy.fr_of (by decide +kernel)
      · exact PySem.W.mg_none_of KX G (by k_is)
      · exact PySem.W.mg_none_of KX G (by k_is)
      · exact PySem.W.mg_none_of KX G (by k_is)
      · exact PySem.W.mg_none_of KX G (by k_is)
      · exact PySem.W.mg_none_of KX G (by k_is)
      · exact PySem.W.mg_none_of KX G (by k_is)
      · exact PySem.W.mg_none_of KX G (by k_is)
      · exact PySem.W.mg_none_of KX G (by k_is)
      · exact PySem.W.mg_none_of KX G (by k_is)
      · exact PySem.W.mg_none_of KX G (by k_is)
      · exact PySem.W.mg_none_of KX G (by k_is)
      · exact PySem.W.mg_none_of KX G (by k_is)
      · refine' Dy.gc_tup KX G ?q14_e ?q14_l ?q14_z ?q14_p; (case q14_e => k_is); (case q14_l => k_is); (case q14_z => decide); (case q14_p => exact (.str (.str .nil)))
      · refine' Dy.gc_int KX G ?q15_e; (case q15_e => k_is)
      · refine' Dy.gc_str KX G ?q16_e; (case q16_e => k_is)
      · refine' Dy.gc_str KX G ?q17_e; (case q17_e => k_is)
      · refine' Dy.gc_tup KX G ?q18_e ?q18_l ?q18_z ?q18_p; (case q18_e => k_is); (case q18_l => k_is); (case q18_z => decide); (case q18_p => exact (.str (.str (.str .nil))))
      · refine' Dy.gc_int KX G ?q19_e; (case q19_e => k_is)
      · refine' Dy.gc_int KX G ?q20_e; (case q20_e => k_is)
      · refine' Dy.gc_tup KX G ?q21_e ?q21_l ?q21_z ?q21_p; (case q21_e => k_is); (case q21_l => k_is); (case q21_z => decide); (case q21_p => exact (.str (.str (.str .nil))))
      · refine' Dy.gc_str KX G ?q22_e; (case q22_e => k_is)
      · refine' Dy.xc_of KX G ?q23_n ?q23_e ?q23_x ?q23_k ?q23_b ?q23_t; (case q23_e => k_is); (case q23_n => decide +kernel); (case q23_x => kernel_rfl); (case q23_k => k_is); (case q23_b => k_is); (case q23_t => k_is)
      · refine' Dy.xc_of KX G ?q24_n ?q24_e ?q24_x ?q24_k ?q24_b ?q24_t; (case q24_e => k_is); (case q24_n => decide +kernel); (case q24_x => kernel_rfl); (case q24_k => k_is); (case q24_b => k_is); (case q24_t => k_is)
      · refine' (Eq.trans (PySem.W.mg_of KX G ?q25_e) (congrArg (fun z => some (Value.ref z)) (Dy.ad_of ?q25_e2).symm)); (case q25_e => k_is); (case q25_e2 => k_is)
      · refine' (Eq.trans (PySem.W.mg_of KX G ?q26_e) (congrArg (fun z => some (Value.ref z)) (Dy.ad_of ?q26_e2).symm)); (case q26_e => k_is); (case q26_e2 => k_is)
      · refine' (Eq.trans (PySem.W.mg_of KX G ?q27_e) (congrArg (fun z => some (Value.ref z)) (Dy.ad_of ?q27_e2).symm)); (case q27_e => k_is); (case q27_e2 => k_is)
      · refine' (Eq.trans (PySem.W.mg_of KX G ?q28_e) (congrArg (fun z => some (Value.ref z)) (Dy.ad_of ?q28_e2).symm)); (case q28_e => k_is); (case q28_e2 => k_is)
      · refine' (Eq.trans (PySem.W.mg_of KX G ?q29_e) (congrArg (fun z => some (Value.ref z)) (Dy.ad_of ?q29_e2).symm)); (case q29_e => k_is); (case q29_e2 => k_is)
      · refine' Dy.caught_of ?q30_hh; refine' Dy.all_cons ?q30_a0 ?q30_hh0; (case q30_a0 => kernel_rfl); refine' Dy.all_cons ?q30_a1 ?q30_hh1; (case q30_a1 => kernel_rfl); exact Dy.all_nil
      · refine' Dy.caught_of ?q31_hh; refine' Dy.all_cons ?q31_a0 ?q31_hh0; (case q31_a0 => kernel_rfl); refine' Dy.all_cons ?q31_a1 ?q31_hh1; (case q31_a1 => kernel_rfl); exact Dy.all_nil
      · refine' Dy.istab_of ?q32_hh; refine' Dy.all_cons ?q32_a0 ?q32_hh0; (case q32_a0 => exact ⟨⟨by kernel_rfl, by kernel_rfl, ⟨none, by kernel_rfl⟩, by kernel_rfl, by kernel_rfl, by kernel_rfl, by kernel_rfl, by kernel_rfl⟩, by kernel_rfl⟩); refine' Dy.all_cons ?q32_a1 ?q32_hh1; (case q32_a1 => exact ⟨⟨by kernel_rfl, by kernel_rfl, ⟨none, by kernel_rfl⟩, by kernel_rfl, by kernel_rfl, by kernel_rfl, by kernel_rfl, by kernel_rfl⟩, by kernel_rfl⟩); exact Dy.all_nil
      · refine' Dy.istab_of ?q33_hh; refine' Dy.all_cons ?q33_a0 ?q33_hh0; (case q33_a0 => exact ⟨⟨by kernel_rfl, by kernel_rfl, ⟨none, by kernel_rfl⟩, by kernel_rfl, by kernel_rfl, by kernel_rfl, by kernel_rfl, by kernel_rfl⟩, by kernel_rfl⟩); refine' Dy.all_cons ?q33_a1 ?q33_hh1; (case q33_a1 => exact ⟨⟨by kernel_rfl, by kernel_rfl, ⟨none, by kernel_rfl⟩, by kernel_rfl, by kernel_rfl, by kernel_rfl, by kernel_rfl, by kernel_rfl⟩, by kernel_rfl⟩); exact Dy.all_nil
      · refine' Dy.at_of KX G ?q34_e ?q34_l ?q34_c ?q34_k ?q34_b; (case q34_e => k_is); (case q34_l => k_is); (case q34_c => k_is); (case q34_k => k_is); (case q34_b => exact fun _ _ _ _ _ _ us hl => match us, hl with | [_, _], _ => rfl)
      · refine' Dy.at_of KX G ?q35_e ?q35_l ?q35_c ?q35_k ?q35_b; (case q35_e => k_is); (case q35_l => k_is); (case q35_c => k_is); (case q35_k => k_is); (case q35_b => exact fun _ _ _ _ _ _ us hl => match us, hl with | [_], _ => rfl)
      · refine' Dy.at_of KX G ?q36_e ?q36_l ?q36_c ?q36_k ?q36_b; (case q36_e => k_is); (case q36_l => k_is); (case q36_c => k_is); (case q36_k => k_is); (case q36_b => exact fun _ _ _ _ _ _ us hl => match us, hl with | [_, _], _ => rfl)
      · refine' Dy.at_of KX G ?q37_e ?q37_l ?q37_c ?q37_k ?q37_b; (case q37_e => k_is); (case q37_l => k_is); (case q37_c => k_is); (case q37_k => k_is); (case q37_b => exact fun _ _ _ _ _ _ us hl => match us, hl with | [_, _], _ => rfl)
      · refine' Dy.at_of KX G ?q38_e ?q38_l ?q38_c ?q38_k ?q38_b; (case q38_e => k_is); (case q38_l => k_is); (case q38_c => k_is); (case q38_k => k_is); (case q38_b => exact fun _ _ _ _ _ _ us hl => match us, hl with | [_, _], _ => rfl)
      · refine' Dy.at_of KX G ?q39_e ?q39_l ?q39_c ?q39_k ?q39_b; (case q39_e => k_is); (case q39_l => k_is); (case q39_c => k_is); (case q39_k => k_is); (case q39_b => exact fun _ _ _ _ _ _ us hl => match us, hl with | [_], _ => rfl)
      · refine' Dy.at_of KX G ?q40_e ?q40_l ?q40_c ?q40_k ?q40_b; (case q40_e => k_is); (case q40_l => k_is); (case q40_c => k_is); (case q40_k => k_is); (case q40_b => exact fun _ _ _ _ _ _ us hl => match us, hl with | [_], _ => rfl)
      · refine' Dy.at_of KX G ?q41_e ?q41_l ?q41_c ?q41_k ?q41_b; (case q41_e => k_is); (case q41_l => k_is); (case q41_c => k_is); (case q41_k => k_is); (case q41_b => exact fun _ _ _ _ _ _ us hl => match us, hl with | [_, _], _ => rfl)
      · refine' Dy.at_of KX G ?q42_e ?q42_l ?q42_c ?q42_k ?q42_b; (case q42_e => k_is); (case q42_l => k_is); (case q42_c => k_is); (case q42_k => k_is); (case q42_b => exact fun _ _ _ _ _ _ us hl => match us, hl with | [_, _], _ => rfl)
      · refine' Dy.at_of KX G ?q43_e ?q43_l ?q43_c ?q43_k ?q43_b; (case q43_e => k_is); (case q43_l => k_is); (case q43_c => k_is); (case q43_k => k_is); (case q43_b => exact fun _ _ _ _ _ _ us hl => match us, hl with | [_, _], _ => rfl)
      · refine' Dy.at_of KX G ?q44_e ?q44_l ?q44_c ?q44_k ?q44_b; (case q44_e => k_is); (case q44_l => k_is); (case q44_c => k_is); (case q44_k => k_is); (case q44_b => exact fun _ _ _ _ _ _ us hl => match us, hl with | [_], _ => rfl)
      · refine' Dy.at_of KX G ?q45_e ?q45_l ?q45_c ?q45_k ?q45_b; (case q45_e => k_is); (case q45_l => k_is); (case q45_c => k_is); (case q45_k => k_is); (case q45_b => exact fun _ _ _ _ _ _ us hl => match us, hl with | [_], _ => rfl)
      · refine' Dy.at_of KX G ?q46_e ?q46_l ?q46_c ?q46_k ?q46_b; (case q46_e => k_is); (case q46_l => k_is); (case q46_c => k_is); (case q46_k => k_is); (case q46_b => exact fun _ _ _ _ _ _ us hl => match us, hl with | [_], _ => rfl)
      · refine' Dy.at_of KX G ?q47_e ?q47_l ?q47_c ?q47_k ?q47_b; (case q47_e => k_is); (case q47_l => k_is); (case q47_c => k_is); (case q47_k => k_is); (case q47_b => exact fun _ _ _ _ _ _ us hl => match us, hl with | [_], _ => rfl)
      · refine' Dy.at_of KX G ?q48_e ?q48_l ?q48_c ?q48_k ?q48_b; (case q48_e => k_is); (case q48_l => k_is); (case q48_c => k_is); (case q48_k => k_is); (case q48_b => exact fun _ _ _ _ _ _ us hl => match us, hl with | [_], _ => rfl)
      · refine' Dy.at_of KX G ?q49_e ?q49_l ?q49_c ?q49_k ?q49_b; (case q49_e => k_is); (case q49_l => k_is); (case q49_c => k_is); (case q49_k => k_is); (case q49_b => exact fun _ _ _ _ _ _ us hl => match us, hl with | [_, _], _ => rfl)
      · refine' Dy.at_of KX G ?q50_e ?q50_l ?q50_c ?q50_k ?q50_b; (case q50_e => k_is); (case q50_l => k_is); (case q50_c => k_is); (case q50_k => k_is); (case q50_b => exact fun _ _ _ _ _ _ us hl => match us, hl with | [_], _ => rfl)
      · refine' Dy.at_of KX G ?q51_e ?q51_l ?q51_c ?q51_k ?q51_b; (case q51_e => k_is); (case q51_l => k_is); (case q51_c => k_is); (case q51_k => k_is); (case q51_b => exact fun _ _ _ _ _ _ us hl => match us, hl with | [_], _ => rfl)
      · refine' Dy.at_of KX G ?q52_e ?q52_l ?q52_c ?q52_k ?q52_b; (case q52_e => k_is); (case q52_l => k_is); (case q52_c => k_is); (case q52_k => k_is); (case q52_b => exact fun _ _ _ _ _ _ us hl => match us, hl with | [_], _ => rfl)
      · refine' Dy.at_of KX G ?q53_e ?q53_l ?q53_c ?q53_k ?q53_b; (case q53_e => k_is); (case q53_l => k_is); (case q53_c => k_is); (case q53_k => k_is); (case q53_b => exact fun _ _ _ _ _ _ us hl => match us, hl with | [_], _ => rfl)
      · refine' Dy.at_of KX G ?q54_e ?q54_l ?q54_c ?q54_k ?q54_b; (case q54_e => k_is); (case q54_l => k_is); (case q54_c => k_is); (case q54_k => k_is); (case q54_b => exact fun _ _ _ _ _ _ us hl => match us, hl with | [_], _ => rfl)
      · refine' Dy.at_of KX G ?q55_e ?q55_l ?q55_c ?q55_k ?q55_b; (case q55_e => k_is); (case q55_l => k_is); (case q55_c => k_is); (case q55_k => k_is); (case q55_b => exact fun _ _ _ _ _ _ us hl => match us, hl with | [_], _ => rfl)
      · refine' Dy.at_of KX G ?q56_e ?q56_l ?q56_c ?q56_k ?q56_b; (case q56_e => k_is); (case q56_l => k_is); (case q56_c => k_is); (case q56_k => k_is); (case q56_b => exact fun _ _ _ _ _ _ us hl => match us, hl with | [_], _ => rfl)
      · refine' Dy.at_of KX G ?q57_e ?q57_l ?q57_c ?q57_k ?q57_b; (case q57_e => k_is); (case q57_l => k_is); (case q57_c => k_is); (case q57_k => k_is); (case q57_b => exact fun _ _ _ _ _ _ us hl => match us, hl with | [_, _], _ => rfl)
      · refine' Dy.at_of KX G ?q58_e ?q58_l ?q58_c ?q58_k ?q58_b; (case q58_e => k_is); (case q58_l => k_is); (case q58_c => k_is); (case q58_k => k_is); (case q58_b => exact fun _ _ _ _ _ _ us hl => match us, hl with | [_, _], _ => rfl)
      · refine' Dy.at_of KX G ?q59_e ?q59_l ?q59_c ?q59_k ?q59_b; (case q59_e => k_is); (case q59_l => k_is); (case q59_c => k_is); (case q59_k => k_is); (case q59_b => exact fun _ _ _ _ _ _ us hl => match us, hl with | [_], _ => rfl)
      · refine' Dy.at_of KX G ?q60_e ?q60_l ?q60_c ?q60_k ?q60_b; (case q60_e => k_is); (case q60_l => k_is); (case q60_c => k_is); (case q60_k => k_is); (case q60_b => exact fun _ _ _ _ _ _ us hl => match us, hl with | [_], _ => rfl)
      · refine' Dy.at_of KX G ?q61_e ?q61_l ?q61_c ?q61_k ?q61_b; (case q61_e => k_is); (case q61_l => k_is); (case q61_c => k_is); (case q61_k => k_is); (case q61_b => exact fun _ _ _ _ _ _ us hl => match us, hl with | [_], _ => rfl)
      · refine' Dy.at_of KX G ?q62_e ?q62_l ?q62_c ?q62_k ?q62_b; (case q62_e => k_is); (case q62_l => k_is); (case q62_c => k_is); (case q62_k => k_is); (case q62_b => exact fun _ _ _ _ _ _ us hl => match us, hl with | [_], _ => rfl)
      · refine' Dy.at_of KX G ?q63_e ?q63_l ?q63_c ?q63_k ?q63_b; (case q63_e => k_is); (case q63_l => k_is); (case q63_c => k_is); (case q63_k => k_is); (case q63_b => exact fun _ _ _ _ _ _ us hl => match us, hl with | [_], _ => rfl)
      · refine' Dy.at_of KX G ?q64_e ?q64_l ?q64_c ?q64_k ?q64_b; (case q64_e => k_is); (case q64_l => k_is); (case q64_c => k_is); (case q64_k => k_is); (case q64_b => exact fun _ _ _ _ _ _ us hl => match us, hl with | [_], _ => rfl)
    case LI =>
      · refine' Dy.law_in KX G ?q65_e ?q65_l ?q65_c ?q65_k; (case q65_e => k_is); (case q65_l => k_is); (case q65_c => k_is); (case q65_k => k_is)
#print axioms PySem.Challenge.cw_endsleftout_k33_deeds_there_and_back_holds
