import PyProof.Rows.All
import Wide.All
import OpenK.AllK
import Wide.FinOn
import HandS.ForMost
import HandS.ForExc
import HandS.WordsExc
import HandS.ExcOwn
import HandS.TupAny
import HandS.Deep
import HandS.IsInst
import HandS.Walk
import HandS.Defaults
import HandS.TupLen
import HandS.More
import KE.KStateDown
import HandS.Ends
import HandS.HeadEnd
import KE.SortData
import KE.DataMinMax
import KE.DataFind
import HandS.Conv
import KE.DataEq
import HandS.Text
import HandS.HeadHook1
import KE.DatumMoreOrd
import HandS.Head0
import HandS.Head1
import HandS.Head2
import HandS.HeadHook2
import PySem.Challenge.RW_openhouses_k07_whole_up_and_down_a_tree
set_option Elab.async false
set_option linter.all false
set_option maxRecDepth 100000
set_option maxHeartbeats 4000000
/-! DLa: data D, who owns what (Own), the state of a frame (Sta). -/
namespace DL
open PySem PySem.Spec L2

inductive Con where
  | tup
  | lst (o : Bool)
  | dic (o : Bool) (ks : List Key)
  | dit (o : Bool) (ks : List (List Key))
  | scr
  deriving DecidableEq
inductive D where
  | non | bl (b : Bool) | int (i : Int) | str (x : Str) | nd (c : Con) (xs : List D)
  deriving Inhabited
abbrev D.tup (xs : List D) : D := .nd .tup xs
abbrev D.lst (o : Bool) (xs : List D) : D := .nd (.lst o) xs
abbrev D.dic (o : Bool) (ks : List Key) (xs : List D) : D := .nd (.dic o ks) xs

theorem same_rd {G H : Hp} {a : Addr} {u : HO} (s : Same G H) (h : Rd G a u) : Rd H a u := by
  rcases h with h | ⟨o, h⟩
  · exact Or.inl (s a _ h)
  · exact Or.inr ⟨o, s a _ h⟩
theorem same_l {K : PySem.W.Frag} {G H : Hp} {a : Addr} {xs : List V} (s : Same G H) (h : SqL K G a xs) : SqL K H a xs := by
  rcases h with h | h
  · exact Or.inl (same_rd s h)
  · exact Or.inr h
theorem same_t {K : PySem.W.Frag} {G H : Hp} {a : Addr} {xs : List V} (s : Same G H) (h : SqT K G a xs) : SqT K H a xs := by
  rcases h with h | h
  · exact Or.inl (same_rd s h)
  · exact Or.inr h
theorem same_refl (H : Hp) : Same H H := fun _ _ e => e
theorem same_trans {G H I : Hp} (a : Same G H) (b : Same H I) : Same G I := fun x o e => b x o (a x o e)
theorem same_upd {H : Hp} {p : Addr} {o : HO} (h : H p = none) : Same H (upd H p o) := fun a u e => by
  rw [upd_ne (ne_of_none e h)]; exact e

/-- what a frozen container's object holds; what an owned one's does -/
def Con.Fz (K : PySem.W.Frag) (G : Hp) (a : Addr) (vs : List V) : Con → Prop
  | .tup => G a = some (.tup vs)
  | .lst o => o = false ∧ Rd G a (.lst vs)
  | .dic o ks => o = false ∧ ks.length = vs.length ∧ Rd G a (.dK (ks.zip vs))
  | .dit o ks => o = false ∧ ks.length = vs.length ∧ Rd G a (.dT (ks.zip vs))
  | .scr => SqL K G a vs
def Con.Ow (H : Hp) (a : Addr) (vs : List V) : Con → Prop
  | .tup => False
  | .lst o => o = true ∧ H a = some (.lst vs)
  | .dic o ks => o = true ∧ ks.length = vs.length ∧ H a = some (.dK (ks.zip vs))
  | .dit o ks => o = true ∧ ks.length = vs.length ∧ H a = some (.dT (ks.zip vs))
  | .scr => False
theorem Con.Fz.mono {K : PySem.W.Frag} {G G' : Hp} {a : Addr} {vs : List V} {c : Con} (s : Same G G') (h : c.Fz K G a vs) : c.Fz K G' a vs := by
  cases c with
  | tup => exact s _ _ h
  | lst o => exact ⟨h.1, same_rd s h.2⟩
  | dic o ks => exact ⟨h.1, h.2.1, same_rd s h.2.2⟩
  | dit o ks => exact ⟨h.1, h.2.1, same_rd s h.2.2⟩
  | scr => exact same_l s h
theorem Con.Ow.mono {H H' : Hp} {a : Addr} {vs : List V} {c : Con} (s : ∀ o, H a = some o → H' a = some o) (h : c.Ow H a vs) : c.Ow H' a vs := by
  cases c with
  | tup => exact h.elim
  | lst o => exact ⟨h.1, s _ h.2⟩
  | dic o ks => exact ⟨h.1, h.2.1, s _ h.2.2⟩
  | dit o ks => exact ⟨h.1, h.2.1, s _ h.2.2⟩
  | scr => exact h.elim
theorem Con.Ow.at {H : Hp} {a : Addr} {vs : List V} {c : Con} (h : c.Ow H a vs) : ∃ o, H a = some o := by
  cases c with
  | tup => exact h.elim
  | lst o => exact ⟨_, h.2⟩
  | dic o ks => exact ⟨_, h.2.2⟩
  | dit o ks => exact ⟨_, h.2.2⟩
  | scr => exact h.elim
def Con.frz : Con → Con
  | .tup => .tup
  | .lst _ => .lst false
  | .dic _ ks => .dic false ks
  | .dit _ ks => .dit false ks
  | .scr => .scr
theorem Con.Ow.frz {K : PySem.W.Frag} {H : Hp} {a : Addr} {vs : List V} {c : Con} (h : c.Ow H a vs) : c.frz.Fz K H a vs := by
  cases c with
  | tup => exact h.elim
  | lst o => exact ⟨rfl, .inl h.2⟩
  | dic o ks => exact ⟨rfl, h.2.1, .inl h.2.2⟩
  | dit o ks => exact ⟨rfl, h.2.1, .inl h.2.2⟩
  | scr => exact h.elim
theorem Con.Fz.frz {K : PySem.W.Frag} {G : Hp} {a : Addr} {vs : List V} {c : Con} (h : c.Fz K G a vs) : c.frz.Fz K G a vs := by
  cases c with
  | tup => exact h
  | lst o => exact ⟨rfl, h.2⟩
  | dic o ks => exact ⟨rfl, h.2⟩
  | dit o ks => exact ⟨rfl, h.2⟩
  | scr => exact h
theorem Con.frz_ow {H : Hp} {a : Addr} {vs : List V} {c : Con} (h : c.frz.Ow H a vs) : False := by
  cases c with
  | tup => exact h
  | lst o => exact nomatch h.1
  | dic o ks => exact nomatch h.1
  | dit o ks => exact nomatch h.1
  | scr => exact h
@[simp] theorem Con.frz_frz (c : Con) : c.frz.frz = c.frz := by cases c <;> rfl

mutual
def D.frz : D → D
  | .non => .non
  | .bl b => .bl b
  | .int i => .int i
  | .str x => .str x
  | .nd c xs => .nd c.frz (frzL xs)
def frzL : List D → List D
  | [] => []
  | d :: ds => d.frz :: frzL ds
end
theorem frzL_map : ∀ ds : List D, frzL ds = ds.map D.frz
  | [] => rfl
  | d :: ds => by unfold frzL; rw [frzL_map ds, List.map_cons]
@[simp] theorem frz_non : D.non.frz = .non := rfl
@[simp] theorem frz_bl (b : Bool) : (D.bl b).frz = .bl b := rfl
@[simp] theorem frz_int (i : Int) : (D.int i).frz = .int i := rfl
@[simp] theorem frz_str (x : Str) : (D.str x).frz = .str x := rfl
@[simp] theorem frz_nd (c : Con) (xs : List D) : (D.nd c xs).frz = .nd c.frz (xs.map D.frz) := by
  show D.nd c.frz (frzL xs) = _
  rw [frzL_map]

mutual
/-- v stands for d; f: the addresses of what is owned in it -/
inductive Own (K : PySem.W.Frag) (G H : Hp) : V → D → List Addr → Prop
  | non : Own K G H .non .non []
  | bl (b : Bool) : Own K G H (.bl b) (.bl b) []
  | int (i : Int) : Own K G H (.int i) (.int i) []
  | str (x : Str) : Own K G H (.str x) (.str x) []
  | fz {a : Addr} {c : Con} {vs : List V} {ds : List D} {f : List Addr} : c.Fz K G a vs → OwnL K G H vs ds f → Own K G H (.ref a) (.nd c ds) f
  | ow {a : Addr} {c : Con} {vs : List V} {ds : List D} {f : List Addr} : c.Ow H a vs → G a = none → OwnL K G H vs ds f → Own K G H (.ref a) (.nd c ds) (a :: f)
inductive OwnL (K : PySem.W.Frag) (G H : Hp) : List V → List D → List Addr → Prop
  | nil : OwnL K G H [] [] []
  | cons {v : V} {d : D} {f : List Addr} {vs : List V} {ds : List D} {g : List Addr} : Own K G H v d f → OwnL K G H vs ds g → OwnL K G H (v :: vs) (d :: ds) (f ++ g)
end
section
variable {K : PySem.W.Frag} {G H G' H' : Hp}
mutual
theorem Own.mono (hg : Same G G') : ∀ {v : V} {d : D} {f : List Addr}, Own K G H v d f → (∀ a ∈ f, ∀ o, H a = some o → H' a = some o) → (∀ a ∈ f, G' a = none) → Own K G' H' v d f
  | _, _, _, .non, _, _ => .non
  | _, _, _, .bl b, _, _ => .bl b
  | _, _, _, .int i, _, _ => .int i
  | _, _, _, .str x, _, _ => .str x
  | _, _, _, .fz h t, k, n => .fz (h.mono hg) (t.mono hg k n)
  | _, _, _, .ow h g t, k, n => .ow (h.mono (k _ List.mem_cons_self)) (n _ List.mem_cons_self) (t.mono hg (fun a ha => k a (List.mem_cons_of_mem _ ha)) fun a ha => n a (List.mem_cons_of_mem _ ha))
theorem OwnL.mono (hg : Same G G') : ∀ {v : List V} {d : List D} {f : List Addr}, OwnL K G H v d f → (∀ a ∈ f, ∀ o, H a = some o → H' a = some o) → (∀ a ∈ f, G' a = none) → OwnL K G' H' v d f
  | _, _, _, .nil, _, _ => .nil
  | _, _, _, .cons h t, k, n => .cons (h.mono hg (fun a ha => k a (List.mem_append_left _ ha)) fun a ha => n a (List.mem_append_left _ ha)) (t.mono hg (fun a ha => k a (List.mem_append_right _ ha)) fun a ha => n a (List.mem_append_right _ ha))
end
mutual
theorem Own.fp : ∀ {v : V} {d : D} {f : List Addr}, Own K G H v d f → ∀ a ∈ f, G a = none ∧ ∃ o, H a = some o
  | _, _, _, .non, a, h => nomatch h
  | _, _, _, .bl _, a, h => nomatch h
  | _, _, _, .int _, a, h => nomatch h
  | _, _, _, .str _, a, h => nomatch h
  | _, _, _, .fz _ t, a, h => t.fp a h
  | _, _, _, .ow o g t, a, h => by
    rcases List.mem_cons.mp h with e | h
    · subst e; exact ⟨g, o.at⟩
    · exact t.fp a h
theorem OwnL.fp : ∀ {v : List V} {d : List D} {f : List Addr}, OwnL K G H v d f → ∀ a ∈ f, G a = none ∧ ∃ o, H a = some o
  | _, _, _, .nil, a, h => nomatch h
  | _, _, _, .cons x t, a, h => by
    rcases List.mem_append.mp h with h | h
    · exact x.fp a h
    · exact t.fp a h
end
mutual
theorem Own.frz (hg : Same G G') : ∀ {v : V} {d : D} {f : List Addr}, Own K G H v d f → (∀ a ∈ f, ∀ o, H a = some o → G' a = some o) → Own K G' H' v d.frz []
  | _, _, _, .non, _ => .non
  | _, _, _, .bl b, _ => .bl b
  | _, _, _, .int i, _ => .int i
  | _, _, _, .str x, _ => .str x
  | _, _, _, .fz h t, k => .fz (h.mono hg).frz (t.frz hg k)
  | _, _, _, .ow h g t, k => .fz (h.mono (k _ List.mem_cons_self)).frz (t.frz hg fun a ha => k a (List.mem_cons_of_mem _ ha))
theorem OwnL.frz (hg : Same G G') : ∀ {v : List V} {d : List D} {f : List Addr}, OwnL K G H v d f → (∀ a ∈ f, ∀ o, H a = some o → G' a = some o) → OwnL K G' H' v (frzL d) []
  | _, _, _, .nil, _ => .nil
  | _, _, _, .cons h t, k => .cons (f := []) (g := []) (h.frz hg fun a ha => k a (List.mem_append_left _ ha)) (t.frz hg fun a ha => k a (List.mem_append_right _ ha))
end
mutual
theorem own_frz_nil : ∀ (d : D) {v : V} {f : List Addr}, Own K G H v d.frz f → f = []
  | .non, _, _, h => by cases h; rfl
  | .bl b, _, _, h => by cases h; rfl
  | .int i, _, _, h => by cases h; rfl
  | .str x, _, _, h => by cases h; rfl
  | .nd c xs, _, _, h => by
    have h' : Own K G H _ (.nd c.frz (frzL xs)) _ := h
    cases h' with
    | fz _ t => exact ownL_frz_nil xs t
    | ow o _ _ => exact (Con.frz_ow o).elim
theorem ownL_frz_nil : ∀ (d : List D) {v : List V} {f : List Addr}, OwnL K G H v (frzL d) f → f = []
  | [], _, _, h => by cases h; rfl
  | d :: ds, _, _, h => by
    have h' : OwnL K G H _ (d.frz :: frzL ds) _ := h
    cases h' with
    | cons a b => rw [own_frz_nil d a, ownL_frz_nil ds b]; rfl
end
mutual
theorem frz_frz : ∀ d : D, d.frz.frz = d.frz
  | .non => rfl
  | .bl b => rfl
  | .int i => rfl
  | .str x => rfl
  | .nd c xs => by
    show D.nd c.frz.frz (frzL (frzL xs)) = D.nd c.frz (frzL xs)
    rw [Con.frz_frz, frzL_frzL xs]
theorem frzL_frzL : ∀ ds : List D, frzL (frzL ds) = frzL ds
  | [] => rfl
  | d :: ds => by
    show d.frz.frz :: frzL (frzL ds) = d.frz :: frzL ds
    rw [frz_frz d, frzL_frzL ds]
end
theorem OwnL.length : ∀ {vs : List V} {ds : List D} {f : List Addr}, OwnL K G H vs ds f → vs.length = ds.length
  | _, _, _, .nil => rfl
  | _, _, _, .cons _ t => by simp [t.length]
theorem OwnL.append : ∀ {vs : List V} {ds : List D} {f : List Addr} {ws : List V} {es : List D} {g : List Addr}, OwnL K G H vs ds f → OwnL K G H ws es g → OwnL K G H (vs ++ ws) (ds ++ es) (f ++ g)
  | _, _, _, _, _, _, .nil, h => h
  | _, _, _, _, _, _, .cons x t, h => by
    rw [List.append_assoc]
    exact .cons x (t.append h)
theorem OwnL.split : ∀ {vs : List V} {ds es : List D} {f : List Addr}, OwnL K G H vs (ds ++ es) f → ∃ v1 v2 f1 f2, vs = v1 ++ v2 ∧ f = f1 ++ f2 ∧ OwnL K G H v1 ds f1 ∧ OwnL K G H v2 es f2
  | vs, [], es, f, h => ⟨[], vs, [], f, rfl, rfl, .nil, h⟩
  | _, d :: ds, es, _, .cons x t => by
    obtain ⟨v1, v2, f1, f2, rfl, rfl, h1, h2⟩ := t.split (ds := ds)
    exact ⟨_ :: v1, v2, _ ++ f1, f2, rfl, by simp, .cons x h1, h2⟩
theorem OwnL.get : ∀ {vs : List V} {ds : List D} {f : List Addr} {i : Nat} {d : D}, OwnL K G H vs ds f → ds[i]? = some d → ∃ v f1 f2 f3, vs[i]? = some v ∧ f = f1 ++ (f2 ++ f3) ∧ Own K G H v d f2
  | _, _, _, _, _, .nil, e => by simp at e
  | _, _, _, 0, _, .cons (f := f) (g := g) x t, e => by
    simp at e; subst e
    exact ⟨_, [], f, g, rfl, rfl, x⟩
  | _, _, _, i + 1, _, .cons (f := f) (g := g) x t, e => by
    obtain ⟨v, f1, f2, f3, h1, h2, h3⟩ := t.get (i := i) (by simpa using e)
    exact ⟨v, f ++ f1, f2, f3, by simpa using h1, by rw [h2]; simp, h3⟩
/-- frozen items: each by itself -/
theorem OwnL.getF {vs : List V} {ds : List D} {i : Nat} {d : D} (h : OwnL K G H vs ds []) (e : ds[i]? = some d) : ∃ v, vs[i]? = some v ∧ Own K G H v d [] := by
  obtain ⟨v, f1, f2, f3, h1, h2, h3⟩ := h.get e
  have : f2 = [] := by
    cases f2 with
    | nil => rfl
    | cons a l => simp at h2
  subst this
  exact ⟨v, h1, h3⟩
end

/-! ### a frame -/
abbrev Env := List (Option D)
inductive OwnS (K : PySem.W.Frag) (G H : Hp) : St → Env → List Addr → Prop
  | nil : OwnS K G H [] [] []
  | no {x : Option V} {σ : St} {ρ : Env} {f : List Addr} : OwnS K G H σ ρ f → OwnS K G H (x :: σ) (none :: ρ) f
  | yes {v : V} {d : D} {f : List Addr} {σ : St} {ρ : Env} {g : List Addr} : Own K G H v d f → OwnS K G H σ ρ g → OwnS K G H (some v :: σ) (some d :: ρ) (f ++ g)
inductive OwnT (K : PySem.W.Frag) (G H : Hp) : List (V × D) → List Addr → Prop
  | nil : OwnT K G H [] []
  | cons {v : V} {d : D} {f : List Addr} {τ : List (V × D)} {g : List Addr} : Own K G H v d f → OwnT K G H τ g → OwnT K G H ((v, d) :: τ) (f ++ g)
section
variable {K : PySem.W.Frag} {G H G' H' : Hp}
theorem OwnS.mono (hg : Same G G') : ∀ {σ : St} {ρ : Env} {f : List Addr}, OwnS K G H σ ρ f → (∀ a ∈ f, ∀ o, H a = some o → H' a = some o) → (∀ a ∈ f, G' a = none) → OwnS K G' H' σ ρ f
  | _, _, _, .nil, _, _ => .nil
  | _, _, _, .no t, k, n => .no (t.mono hg k n)
  | _, _, _, .yes h t, k, n => .yes (h.mono hg (fun a ha => k a (List.mem_append_left _ ha)) fun a ha => n a (List.mem_append_left _ ha)) (t.mono hg (fun a ha => k a (List.mem_append_right _ ha)) fun a ha => n a (List.mem_append_right _ ha))
theorem OwnT.mono (hg : Same G G') : ∀ {τ : List (V × D)} {f : List Addr}, OwnT K G H τ f → (∀ a ∈ f, ∀ o, H a = some o → H' a = some o) → (∀ a ∈ f, G' a = none) → OwnT K G' H' τ f
  | _, _, .nil, _, _ => .nil
  | _, _, .cons h t, k, n => .cons (h.mono hg (fun a ha => k a (List.mem_append_left _ ha)) fun a ha => n a (List.mem_append_left _ ha)) (t.mono hg (fun a ha => k a (List.mem_append_right _ ha)) fun a ha => n a (List.mem_append_right _ ha))
theorem OwnS.fp : ∀ {σ : St} {ρ : Env} {f : List Addr}, OwnS K G H σ ρ f → ∀ a ∈ f, G a = none ∧ ∃ o, H a = some o
  | _, _, _, .nil, a, h => nomatch h
  | _, _, _, .no t, a, h => t.fp a h
  | _, _, _, .yes x t, a, h => by
    rcases List.mem_append.mp h with h | h
    · exact x.fp a h
    · exact t.fp a h
theorem OwnT.fp : ∀ {τ : List (V × D)} {f : List Addr}, OwnT K G H τ f → ∀ a ∈ f, G a = none ∧ ∃ o, H a = some o
  | _, _, .nil, a, h => nomatch h
  | _, _, .cons x t, a, h => by
    rcases List.mem_append.mp h with h | h
    · exact x.fp a h
    · exact t.fp a h
theorem OwnS.length : ∀ {σ : St} {ρ : Env} {f : List Addr}, OwnS K G H σ ρ f → σ.length = ρ.length
  | _, _, _, .nil => rfl
  | _, _, _, .no t => by simp [t.length]
  | _, _, _, .yes _ t => by simp [t.length]
/-- a slot is taken out -/
theorem OwnS.out : ∀ {σ : St} {ρ : Env} {f : List Addr} {i : Nat} {d : D}, OwnS K G H σ ρ f → ρ[i]? = some (some d) → ∃ v f1 f2, σ[i]? = some (some v) ∧ f.Perm (f1 ++ f2) ∧ Own K G H v d f1 ∧ OwnS K G H σ (ρ.set i none) f2
  | _, _, _, _, _, .nil, e => by simp at e
  | _, _, _, 0, _, .no _, e => by simp at e
  | _, _, _, i + 1, _, .no t, e => by
    obtain ⟨v, f1, f2, h1, h2, h3, h4⟩ := t.out (i := i) (by simpa using e)
    exact ⟨v, f1, f2, by simpa using h1, h2, h3, by simpa using OwnS.no h4⟩
  | _, _, _, 0, _, .yes (f := f) (g := g) x t, e => by
    simp at e; subst e
    exact ⟨_, f, g, rfl, .refl _, x, by simpa using OwnS.no t⟩
  | _, _, _, i + 1, _, .yes (f := f) (g := g) x t, e => by
    obtain ⟨v, f1, f2, h1, h2, h3, h4⟩ := t.out (i := i) (by simpa using e)
    refine ⟨v, f1, f ++ f2, by simpa using h1, ?_, h3, by simpa using OwnS.yes x h4⟩
    exact ((h2.append_left f).trans (by rw [← List.append_assoc, ← List.append_assoc]; exact List.perm_append_comm.append_right f2))
/-- a slot is given a value -/
theorem OwnS.inn {v : V} {d : D} {fd : List Addr} (x : Own K G H v d fd) : ∀ {σ : St} {ρ : Env} {f : List Addr} {i : Nat}, OwnS K G H σ ρ f → i < ρ.length →
    ∃ f1 f2 f', f.Perm (f1 ++ f2) ∧ f'.Perm (fd ++ f2) ∧ OwnS K G H (σ.set i (some v)) (ρ.set i (some d)) f'
  | _, _, _, _, .nil, e => by simp at e
  | _, _, f, 0, .no t, e => ⟨[], f, fd ++ f, .refl _, .refl _, by simpa using OwnS.yes x t⟩
  | _, _, _, 0, .yes (f := f) (g := g) y t, e => ⟨f, g, fd ++ g, .refl _, .refl _, by simpa using OwnS.yes x t⟩
  | _, _, _, i + 1, .no t, e => by
    obtain ⟨f1, f2, f', h1, h2, h3⟩ := OwnS.inn x t (i := i) (by simpa using e)
    exact ⟨f1, f2, f', h1, h2, by simpa using OwnS.no h3⟩
  | _, _, _, i + 1, .yes (f := f) (g := g) y t, e => by
    obtain ⟨f1, f2, f', h1, h2, h3⟩ := OwnS.inn x t (i := i) (by simpa using e)
    refine ⟨f1, f ++ f2, f ++ f', ?_, ?_, by simpa using OwnS.yes y h3⟩
    · exact ((h1.append_left f).trans (by rw [← List.append_assoc, ← List.append_assoc]; exact List.perm_append_comm.append_right f2))
    · exact ((h2.append_left f).trans (by rw [← List.append_assoc, ← List.append_assoc]; exact List.perm_append_comm.append_right f2))
/-- a slot keeps its value: the abstract side forgets it, or has it back -/
theorem OwnS.back {v : V} {d : D} {fd : List Addr} (x : Own K G H v d fd) : ∀ {σ : St} {ρ : Env} {f : List Addr} {i : Nat}, OwnS K G H σ ρ f → ρ[i]? = some none → σ[i]? = some (some v) →
    ∃ f', f'.Perm (fd ++ f) ∧ OwnS K G H σ (ρ.set i (some d)) f'
  | _, _, _, _, .nil, e, _ => by simp at e
  | _, _, f, 0, .no t, e, q => by
    simp at q; subst q
    exact ⟨_, .refl _, by simpa using OwnS.yes x t⟩
  | _, _, _, 0, .yes _ _, e, _ => by simp at e
  | _, _, _, i + 1, .no t, e, q => by
    obtain ⟨f', h1, h2⟩ := OwnS.back x t (i := i) (by simpa using e) (by simpa using q)
    exact ⟨f', h1, by simpa using OwnS.no h2⟩
  | _, _, _, i + 1, .yes (f := f) (g := g) y t, e, q => by
    obtain ⟨f', h1, h2⟩ := OwnS.back x t (i := i) (by simpa using e) (by simpa using q)
    refine ⟨f ++ f', ?_, by simpa using OwnS.yes y h2⟩
    exact ((h1.append_left f).trans (by rw [← List.append_assoc, ← List.append_assoc]; exact List.perm_append_comm.append_right g))
theorem OwnT.perm {τ τ' : List (V × D)} (p : τ.Perm τ') : ∀ {f : List Addr}, OwnT K G H τ f → ∃ f', f.Perm f' ∧ OwnT K G H τ' f' := by
  induction p with
  | nil => intro f h; exact ⟨f, .refl _, h⟩
  | cons x _ ih =>
    intro f h
    cases h with
    | cons a t =>
      obtain ⟨f', h1, h2⟩ := ih t
      exact ⟨_, h1.append_left _, .cons a h2⟩
  | swap x y l =>
    intro f h
    cases h with
    | @cons _ _ fa _ _ a t =>
      cases t with
      | @cons _ _ fb _ g b t =>
        refine ⟨fb ++ (fa ++ g), ?_, .cons b (.cons a t)⟩
        rw [← List.append_assoc, ← List.append_assoc]
        exact List.perm_append_comm.append_right g
  | trans _ _ ih1 ih2 =>
    intro f h
    obtain ⟨f1, h1, h2⟩ := ih1 h
    obtain ⟨f2, h3, h4⟩ := ih2 h2
    exact ⟨f2, h1.trans h3, h4⟩
theorem OwnT.zip : ∀ {vs : List V} {ds : List D} {τ : List (V × D)} {f : List Addr}, vs.length = ds.length → OwnT K G H (vs.zip ds ++ τ) f → ∃ f1 f2, f = f1 ++ f2 ∧ OwnL K G H vs ds f1 ∧ OwnT K G H τ f2
  | [], [], τ, f, _, h => ⟨[], f, rfl, .nil, h⟩
  | v :: vs, d :: ds, τ, f, e, h => by
    cases h with
    | cons a t =>
      obtain ⟨f1, f2, rfl, h1, h2⟩ := OwnT.zip (vs := vs) (ds := ds) (by simpa using e) t
      exact ⟨_, f2, by simp, .cons a h1, h2⟩
  | [], _ :: _, _, _, e, _ => by simp at e
  | _ :: _, [], _, _, e, _ => by simp at e
theorem OwnT.unzip : ∀ {vs : List V} {ds : List D} {τ : List (V × D)} {f1 f2 : List Addr}, OwnL K G H vs ds f1 → OwnT K G H τ f2 → OwnT K G H (vs.zip ds ++ τ) (f1 ++ f2)
  | _, _, τ, _, _, .nil, h => h
  | _, _, τ, _, _, .cons a t, h => by
    rw [List.append_assoc]
    exact .cons a (OwnT.unzip t h)
end

/-- what stood at the def's entry: the frozen part, the heap, what was handed in to be changed -/
structure C0 where
  G : Hp
  H : Hp
  f : List Addr
structure Sta1 (K : PySem.W.Frag) (c : C0) (G H : Hp) (σ : St) (ρ : Env) (τ : List (V × D)) (f1 f2 : List Addr) : Prop where
  sub : Same G H
  tmp : OwnT K G H τ f1
  own : OwnS K G H σ ρ f2
  nd : (f1 ++ f2).Nodup
  g0 : Same c.G G
  k0 : ∀ b o, c.H b = some o → b ∉ c.f → H b = some o
  n0 : ∀ b, b ∈ f1 ++ f2 → b ∈ c.f ∨ c.H b = none
  gn : ∀ b o, G b = some o → c.G b = some o ∨ b ∈ c.f ∨ c.H b = none
def Sta (K : PySem.W.Frag) (c : C0) (H : Hp) (σ : St) (ρ : Env) (τ : List (V × D)) : Prop := ∃ G f1 f2, Sta1 K c G H σ ρ τ f1 f2
section
variable {K : PySem.W.Frag} {c : C0} {G H : Hp} {σ : St} {ρ : Env} {τ : List (V × D)} {v : V} {d : D} {f1 f2 : List Addr}
theorem Sta.len (S : Sta K c H σ ρ τ) : σ.length = ρ.length := by
  obtain ⟨G, f1, f2, S⟩ := S
  exact S.own.length
theorem Sta.drop (S : Sta K c H σ ρ ((v, d) :: τ)) : Sta K c H σ ρ τ := by
  obtain ⟨G, f1, f2, sub, tmp, own, nd, g0, k0, n0, gn⟩ := S
  cases tmp with
  | @cons _ _ f _ g a t =>
    exact ⟨G, g, f2, sub, t, own, by rw [List.append_assoc] at nd; exact (List.nodup_append.mp nd).2.1, g0, k0, fun b hb => n0 b (by rw [List.append_assoc]; exact List.mem_append_right _ hb), gn⟩
theorem Sta.dropN : ∀ {τ' : List (V × D)}, Sta K c H σ ρ (τ' ++ τ) → Sta K c H σ ρ τ
  | [], S => S
  | (_, _) :: _, S => Sta.dropN (Sta.drop S)
/-- what owns nothing is told -/
theorem Sta.push (S : Sta K c H σ ρ τ) (h : ∀ G, Same G H → Own K G H v d []) : Sta K c H σ ρ ((v, d) :: τ) := by
  obtain ⟨G, f1, f2, sub, tmp, own, nd, g0, k0, n0, gn⟩ := S
  exact ⟨G, [] ++ f1, f2, sub, .cons (h G sub) tmp, own, nd, g0, k0, n0, gn⟩
theorem Sta.non (S : Sta K c H σ ρ τ) : Sta K c H σ ρ ((.non, .non) :: τ) := S.push fun _ _ => .non
theorem Sta.bl (S : Sta K c H σ ρ τ) (b : Bool) : Sta K c H σ ρ ((.bl b, .bl b) :: τ) := S.push fun _ _ => .bl b
theorem Sta.int (S : Sta K c H σ ρ τ) (i : Int) : Sta K c H σ ρ ((.int i, .int i) :: τ) := S.push fun _ _ => .int i
theorem Sta.str (S : Sta K c H σ ρ τ) (x : Str) : Sta K c H σ ρ ((.str x, .str x) :: τ) := S.push fun _ _ => .str x
theorem Sta.perm {τ' : List (V × D)} (S : Sta K c H σ ρ τ) (p : τ.Perm τ') : Sta K c H σ ρ τ' := by
  obtain ⟨G, f1, f2, sub, tmp, own, nd, g0, k0, n0, gn⟩ := S
  obtain ⟨f', h1, h2⟩ := tmp.perm p
  exact ⟨G, f', f2, sub, h2, own, (h1.append_right f2).nodup_iff.mp nd, g0, k0, fun b hb => n0 b ((h1.append_right f2).mem_iff.mpr hb), gn⟩
/-- a slot's value comes among the temporaries, the slot is left open -/
theorem Sta.out {i : Nat} (S : Sta K c H σ ρ τ) (e : ρ[i]? = some (some d)) : ∃ v, σ[i]? = some (some v) ∧ Sta K c H σ (ρ.set i none) ((v, d) :: τ) := by
  obtain ⟨G, f1, f2, sub, tmp, own, nd, g0, k0, n0, gn⟩ := S
  obtain ⟨v, g1, g2, h1, h2, h3, h4⟩ := own.out e
  have p : (f1 ++ f2).Perm ((g1 ++ f1) ++ g2) := (h2.append_left f1).trans (by rw [← List.append_assoc]; exact List.perm_append_comm.append_right g2)
  exact ⟨v, h1, G, g1 ++ f1, g2, sub, .cons h3 tmp, h4, p.nodup_iff.mp nd, g0, k0, fun b hb => n0 b (p.mem_iff.mpr hb), gn⟩
theorem Sta.back {i : Nat} (S : Sta K c H σ ρ ((v, d) :: τ)) (e : ρ[i]? = some none) (q : σ[i]? = some (some v)) : Sta K c H σ (ρ.set i (some d)) τ := by
  obtain ⟨G, f1, f2, sub, tmp, own, nd, g0, k0, n0, gn⟩ := S
  cases tmp with
  | @cons _ _ f _ g a t =>
    obtain ⟨f', h1, h2⟩ := OwnS.back a own e q
    have p : ((f ++ g) ++ f2).Perm (g ++ f') := (List.perm_append_comm.append_right f2).trans (by rw [List.append_assoc]; exact h1.symm.append_left g)
    exact ⟨G, g, f', sub, t, h2, p.nodup_iff.mp nd, g0, k0, fun b hb => n0 b (p.mem_iff.mpr hb), gn⟩
/-- a slot is given the temporary -/
theorem Sta.put {i : Nat} (S : Sta K c H σ ρ ((v, d) :: τ)) (e : i < ρ.length) : Sta K c H (σ.set i (some v)) (ρ.set i (some d)) τ := by
  obtain ⟨G, f1, f2, sub, tmp, own, nd, g0, k0, n0, gn⟩ := S
  cases tmp with
  | @cons _ _ f _ g a t =>
    obtain ⟨e1, e2, f', h1, h2, h3⟩ := OwnS.inn a own e
    have p : ((f ++ g) ++ f2).Perm (e1 ++ (g ++ f')) := by
      refine (h1.append_left (f ++ g)).trans ?_
      refine List.Perm.trans ?_ ((h2.symm.append_left g).append_left e1)
      refine (List.perm_append_comm (l₁ := f ++ g)).trans ?_
      rw [List.append_assoc]
      refine List.Perm.append_left e1 ?_
      refine List.perm_append_comm.trans ?_
      refine (List.perm_append_comm.append_right e2).trans ?_
      rw [List.append_assoc]
    have nd' := p.nodup_iff.mp nd
    exact ⟨G, g, f', sub, t, h3, (List.nodup_append.mp nd').2.1, g0, k0, fun b hb => n0 b (p.mem_iff.mpr (List.mem_append_right _ hb)), gn⟩
theorem Sta.frz (S : Sta K c H σ ρ ((v, d) :: τ)) : Sta K c H σ ρ ((v, d.frz) :: τ) := by
  obtain ⟨G, f1, f2, sub, tmp, own, nd, g0, k0, n0, gn⟩ := S
  cases tmp with
  | @cons _ _ f _ g a t =>
    have nd' : f.Nodup ∧ (g ++ f2).Nodup ∧ ∀ x ∈ f, ∀ y ∈ g ++ f2, x ≠ y := by
      rw [List.append_assoc] at nd
      exact List.nodup_append.mp nd
    let G' : Hp := fun b => if b ∈ f then H b else G b
    have hg : Same G G' := fun b o e => by
      have hb : b ∉ f := fun hb => by rw [(a.fp b hb).1] at e; cases e
      show (if b ∈ f then H b else G b) = some o
      rw [if_neg hb]; exact e
    have hs : Same G' H := fun b o e => by
      by_cases hb : b ∈ f
      · have e' : (if b ∈ f then H b else G b) = some o := e
        rw [if_pos hb] at e'; exact e'
      · have e' : (if b ∈ f then H b else G b) = some o := e
        rw [if_neg hb] at e'; exact sub _ _ e'
    have hn : ∀ b ∈ g ++ f2, G b = none → G' b = none := fun b hb e => by
      show (if b ∈ f then H b else G b) = none
      rw [if_neg fun q => nd'.2.2 b q b hb rfl]; exact e
    refine ⟨G', [] ++ g, f2, hs, .cons (a.frz hg fun b hb o e => by show (if b ∈ f then H b else G b) = some o; rw [if_pos hb]; exact e)
      (t.mono hg (fun _ _ _ e => e) fun b hb => hn b (List.mem_append_left _ hb) (t.fp b hb).1), own.mono hg (fun _ _ _ e => e) fun b hb => hn b (List.mem_append_right _ hb) (own.fp b hb).1,
      nd'.2.1, same_trans g0 hg, k0, fun b hb => n0 b (by rw [List.append_assoc]; exact List.mem_append_right _ hb), fun b o e => ?_⟩
    have e' : (if b ∈ f then H b else G b) = some o := e
    by_cases hb : b ∈ f
    · exact .inr (n0 b (List.mem_append_left _ (List.mem_append_left _ hb)))
    · rw [if_neg hb] at e'; exact gn b o e'
theorem Sta.dup (S : Sta K c H σ ρ ((v, d.frz) :: τ)) : Sta K c H σ ρ ((v, d.frz) :: (v, d.frz) :: τ) := by
  obtain ⟨G, f1, f2, sub, tmp, own, nd, g0, k0, n0, gn⟩ := S
  cases tmp with
  | @cons _ _ f _ g a t =>
    have e := own_frz_nil d a
    subst e
    exact ⟨G, [] ++ ([] ++ g), f2, sub, .cons a (.cons a t), own, nd, g0, k0, n0, gn⟩
/-- a slot is read: what it holds is frozen from then on -/
theorem Sta.var {i : Nat} (S : Sta K c H σ ρ τ) (e : ρ[i]? = some (some d)) : ∃ v, σ[i]? = some (some v) ∧ Sta K c H σ (ρ.set i (some d.frz)) ((v, d.frz) :: τ) := by
  obtain ⟨v, h1, h2⟩ := S.out e
  have hi : i < ρ.length := (List.getElem?_eq_some_iff.mp e).1
  have h3 := h2.frz.dup.back (i := i) (by simp [hi]) h1
  rw [List.set_set] at h3
  exact ⟨v, h1, h3⟩
end
end DL
/-! DLb: mirrors (M), their readings, expressions. -/
namespace DL
open PySem PySem.Spec L2

/-- an exception: its class by name, its arguments -/
structure Exc where
  c : Str
  as : List D
inductive R (S α : Type) where
  | ok (a : α) (s : S)
  | err (e : Exc) (s : S)
  | stuck
abbrev M (α : Type) := Env → R Env α
def pur {α : Type} (a : α) : M α := fun ρ => .ok a ρ
def bnd {α β : Type} (m : M α) (k : α → M β) : M β := fun ρ => match m ρ with
  | .ok a ρ' => k a ρ'
  | .err e ρ' => .err e ρ'
  | .stuck => .stuck
def lft {α : Type} (o : Option α) : M α := fun ρ => match o with
  | some a => .ok a ρ
  | none => .stuck
abbrev WW := Exc → L2.St → Hp → Prop
section
variable (K : PySem.W.Frag) (c : C0) (W : WW) (p : Bool)
def wE (σ : L2.St) (H : Hp) (τ : List (V × D)) (Q : VK) : R Env D → Prop
  | .ok d ρ' => ∀ v H', (p = true → Same H H') → Sta K c H' σ ρ' ((v, d) :: τ) → Q v H'
  | .err e ρ' => ∀ H', Sta K c H' σ ρ' τ → W e σ H'
  | .stuck => False
def rdE (m : M D) : TE := fun σ H Q => ∃ ρ τ, Sta K c H σ ρ τ ∧ wE K c W p σ H τ Q (m ρ)
def wT (σ : L2.St) (H : Hp) (τ : List (V × D)) (Q : Bool → Hp → Prop) : R Env Bool → Prop
  | .ok b ρ' => ∀ H', (p = true → Same H H') → Sta K c H' σ ρ' τ → Q b H'
  | .err e ρ' => ∀ H', Sta K c H' σ ρ' τ → W e σ H'
  | .stuck => False
def rdT (m : M Bool) : TT := fun σ H Q => ∃ ρ τ, Sta K c H σ ρ τ ∧ wT K c W p σ H τ Q (m ρ)
def wA (σ : L2.St) (H : Hp) (τ : List (V × D)) (Q : List V → Hp → Prop) : R Env (List D) → Prop
  | .ok ds ρ' => ∀ vs H', (p = true → Same H H') → vs.length = ds.length → Sta K c H' σ ρ' (vs.zip ds ++ τ) → Q vs H'
  | .err e ρ' => ∀ H', Sta K c H' σ ρ' τ → W e σ H'
  | .stuck => False
def rdA (m : M (List D)) : TA := fun σ H Q => ∃ ρ τ, Sta K c H σ ρ τ ∧ wA K c W p σ H τ Q (m ρ)
def wO (σ : L2.St) (H : Hp) (τ : List (V × D)) (Q : Option Int → Hp → Prop) : R Env (Option Int) → Prop
  | .ok o ρ' => ∀ H', (p = true → Same H H') → Sta K c H' σ ρ' τ → Q o H'
  | .err e ρ' => ∀ H', Sta K c H' σ ρ' τ → W e σ H'
  | .stuck => False
def rdO (m : M (Option Int)) : TO := fun σ H Q => ∃ ρ τ, Sta K c H σ ρ τ ∧ wO K c W p σ H τ Q (m ρ)
end
def EE (X : Cx) (c : C0) (W : WW) (p : Bool) (e : Expr) (m : M D) : Prop := PE X e (rdE X.K c W p m)
def ET (X : Cx) (c : C0) (W : WW) (p : Bool) (e : Expr) (m : M Bool) : Prop := PT X e (rdT X.K c W p m)
def EA (X : Cx) (c : C0) (W : WW) (p : Bool) (es : List Expr) (m : M (List D)) : Prop := PA X es (rdA X.K c W p m)
def EO (X : Cx) (c : C0) (W : WW) (p : Bool) (e : Option Expr) (m : M (Option Int)) : Prop := PO X e (rdO X.K c W p m)
theorem pe_mono {X : Cx} {e : Expr} {t t' : TE} (h : PE X e t) (k : ∀ σ H Q, t' σ H Q → t σ H Q) : PE X e t' := ⟨fun pins s σ H Q I q => h.run pins s σ H Q I (k σ H Q q)⟩
theorem pt_mono {X : Cx} {e : Expr} {t t' : TT} (h : PT X e t) (k : ∀ σ H Q, t' σ H Q → t σ H Q) : PT X e t' := ⟨fun pins s σ H Q I q => h.run pins s σ H Q I (k σ H Q q)⟩
theorem pa_mono {X : Cx} {e : List Expr} {t t' : TA} (h : PA X e t) (k : ∀ σ H Q, t' σ H Q → t σ H Q) : PA X e t' := ⟨fun pos pins s σ H Q I q => h.run pos pins s σ H Q I (k σ H Q q)⟩
theorem opR_imp {X : Cx} {f : Value → Value → Sem Value} {r r' : R2} (h : OpR X f r) (k : ∀ x y H Q, r' x y H Q → r x y H Q) : OpR X f r' := fun pins s σ H x y v u Q I rx ry q => h pins s σ H x y v u Q I rx ry (k _ _ _ _ q)
theorem opR_or {X : Cx} {f : Value → Value → Sem Value} {r r' : R2} (h : OpR X f r) (h' : OpR X f r') : OpR X f (fun x y H Q => r x y H Q ∨ r' x y H Q) := fun pins s σ H x y v u Q I rx ry q => by
  rcases q with q | q
  · exact h pins s σ H x y v u Q I rx ry q
  · exact h' pins s σ H x y v u Q I rx ry q
theorem callR_imp {X : Cx} {f : Value} {r r' : List V → Hp → VK → Prop} (h : CallR X f r) (k : ∀ xs H Q, r' xs H Q → r xs H Q) : CallR X f r' := fun pins s σ H xs us Q I rx q => h pins s σ H xs us Q I rx (k _ _ _ q)
theorem callR_or {X : Cx} {f : Value} {r r' : List V → Hp → VK → Prop} (h : CallR X f r) (h' : CallR X f r') : CallR X f (fun xs H Q => r xs H Q ∨ r' xs H Q) := fun pins s σ H xs us Q I rx q => by
  rcases q with q | q
  · exact h pins s σ H xs us Q I rx q
  · exact h' pins s σ H xs us Q I rx q

section
variable {K : PySem.W.Frag} {c : C0} {W : WW} {p : Bool} {σ : L2.St} {H : Hp} {ρ : Env} {τ τ0 : List (V × D)}
/-- an expression, then the rest of what is asked -/
theorem rdE_of {β : Type} {m : M D} {k : D → M β} {Out : R Env β → Prop} {Q : VK} (S : Sta K c H σ ρ τ) (h : Out (bnd m k ρ)) (he : ∀ e ρ', Out (.err e ρ') → ∀ H', Sta K c H' σ ρ' τ → W e σ H') (hs : ¬ Out .stuck)
    (go : ∀ d ρ1 v H1, (p = true → Same H H1) → Sta K c H1 σ ρ1 ((v, d) :: τ) → Out (k d ρ1) → Q v H1) : rdE K c W p m σ H Q := by
  refine ⟨ρ, τ, S, ?_⟩
  unfold bnd at h
  cases e : m ρ with
  | ok d ρ1 =>
    rw [e] at h
    exact fun v H1 q S1 => go d ρ1 v H1 q S1 h
  | err x ρ1 =>
    rw [e] at h
    exact fun H' S' => he _ _ h H' S'
  | stuck =>
    rw [e] at h
    exact (hs h).elim
theorem rdT_of {β : Type} {m : M Bool} {k : Bool → M β} {Out : R Env β → Prop} {Q : Bool → Hp → Prop} (S : Sta K c H σ ρ τ) (h : Out (bnd m k ρ)) (he : ∀ e ρ', Out (.err e ρ') → ∀ H', Sta K c H' σ ρ' τ → W e σ H') (hs : ¬ Out .stuck)
    (go : ∀ b ρ1 H1, (p = true → Same H H1) → Sta K c H1 σ ρ1 τ → Out (k b ρ1) → Q b H1) : rdT K c W p m σ H Q := by
  refine ⟨ρ, τ, S, ?_⟩
  unfold bnd at h
  cases e : m ρ with
  | ok d ρ1 =>
    rw [e] at h
    exact fun H1 q S1 => go d ρ1 H1 q S1 h
  | err x ρ1 =>
    rw [e] at h
    exact fun H' S' => he _ _ h H' S'
  | stuck =>
    rw [e] at h
    exact (hs h).elim
theorem rdA_of {β : Type} {m : M (List D)} {k : List D → M β} {Out : R Env β → Prop} {Q : List V → Hp → Prop} (S : Sta K c H σ ρ τ) (h : Out (bnd m k ρ)) (he : ∀ e ρ', Out (.err e ρ') → ∀ H', Sta K c H' σ ρ' τ → W e σ H') (hs : ¬ Out .stuck)
    (go : ∀ ds ρ1 vs H1, (p = true → Same H H1) → vs.length = ds.length → Sta K c H1 σ ρ1 (vs.zip ds ++ τ) → Out (k ds ρ1) → Q vs H1) : rdA K c W p m σ H Q := by
  refine ⟨ρ, τ, S, ?_⟩
  unfold bnd at h
  cases e : m ρ with
  | ok d ρ1 =>
    rw [e] at h
    exact fun v H1 q l S1 => go d ρ1 v H1 q l S1 h
  | err x ρ1 =>
    rw [e] at h
    exact fun H' S' => he _ _ h H' S'
  | stuck =>
    rw [e] at h
    exact (hs h).elim
theorem rdO_of {β : Type} {m : M (Option Int)} {k : Option Int → M β} {Out : R Env β → Prop} {Q : Option Int → Hp → Prop} (S : Sta K c H σ ρ τ) (h : Out (bnd m k ρ)) (he : ∀ e ρ', Out (.err e ρ') → ∀ H', Sta K c H' σ ρ' τ → W e σ H') (hs : ¬ Out .stuck)
    (go : ∀ b ρ1 H1, (p = true → Same H H1) → Sta K c H1 σ ρ1 τ → Out (k b ρ1) → Q b H1) : rdO K c W p m σ H Q := by
  refine ⟨ρ, τ, S, ?_⟩
  unfold bnd at h
  cases e : m ρ with
  | ok d ρ1 =>
    rw [e] at h
    exact fun H1 q S1 => go d ρ1 H1 q S1 h
  | err x ρ1 =>
    rw [e] at h
    exact fun H' S' => he _ _ h H' S'
  | stuck =>
    rw [e] at h
    exact (hs h).elim
theorem out_lft {α β : Type} {o : Option α} {k : α → M β} {Out : R Env β → Prop} (h : Out (bnd (lft o) k ρ)) (hs : ¬ Out .stuck) : ∃ a, o = some a ∧ Out (k a ρ) := by
  cases o with
  | none => exact (hs h).elim
  | some a => exact ⟨a, rfl, h⟩
theorem wE_stuck {Q : VK} : ¬ wE K c W p σ H τ Q .stuck := fun h => h
theorem wT_stuck {Q : Bool → Hp → Prop} : ¬ wT K c W p σ H τ Q .stuck := fun h => h
theorem wA_stuck {Q : List V → Hp → Prop} : ¬ wA K c W p σ H τ Q .stuck := fun h => h
/-- what is left of the purity -/
theorem pp {p : Bool} {H H1 H2 : Hp} (a : p = true → Same H H1) (b : p = true → Same H1 H2) : p = true → Same H H2 := fun h => same_trans (a h) (b h)
end

/-! ### values by what they stand for -/
section
variable {K : PySem.W.Frag} {c : C0} {σ : L2.St} {H : Hp} {ρ : Env} {τ : List (V × D)} {v : V} {d : D}
theorem Sta.hd (S : Sta K c H σ ρ ((v, d) :: τ)) : ∃ G f, Same G H ∧ Own K G H v d f := by
  obtain ⟨G, f1, f2, sub, tmp, _⟩ := S
  cases tmp with
  | cons a t => exact ⟨G, _, sub, a⟩
theorem Sta.isNon (S : Sta K c H σ ρ ((v, .non) :: τ)) : v = .non := by
  obtain ⟨_, _, _, h⟩ := S.hd
  cases h; rfl
theorem Sta.isBl {b : Bool} (S : Sta K c H σ ρ ((v, .bl b) :: τ)) : v = .bl b := by
  obtain ⟨_, _, _, h⟩ := S.hd
  cases h; rfl
theorem Sta.isInt {i : Int} (S : Sta K c H σ ρ ((v, .int i) :: τ)) : v = .int i := by
  obtain ⟨_, _, _, h⟩ := S.hd
  cases h; rfl
theorem Sta.isStr {x : Str} (S : Sta K c H σ ρ ((v, .str x) :: τ)) : v = .str x := by
  obtain ⟨_, _, _, h⟩ := S.hd
  cases h; rfl
/-- a list that is read -/
theorem Sta.isLst {o : Bool} {ds : List D} (S : Sta K c H σ ρ ((v, .nd (.lst o) ds) :: τ)) : ∃ a vs, v = .ref a ∧ SqL K H a vs ∧ vs.length = ds.length := by
  obtain ⟨G, f, s, h⟩ := S.hd
  cases h with
  | fz q t => exact ⟨_, _, rfl, .inl (same_rd s q.2), t.length⟩
  | ow q _ t => exact ⟨_, _, rfl, .inl (.inl q.2), t.length⟩
theorem Sta.isTup {ds : List D} (S : Sta K c H σ ρ ((v, .nd .tup ds) :: τ)) : ∃ a vs, v = .ref a ∧ H a = some (.tup vs) ∧ vs.length = ds.length := by
  obtain ⟨G, f, s, h⟩ := S.hd
  cases h with
  | fz q t => exact ⟨_, _, rfl, s _ _ q, t.length⟩
  | ow q _ t => exact q.elim
/-- an item of what is frozen -/
theorem Sta.item {cn : Con} {ds : List D} {a : Addr} {vs : List V} {i : Nat} {e : D} (S : Sta K c H σ ρ ((.ref a, .nd cn (ds.map D.frz)) :: τ)) (hc : cn.frz = cn) (hv : ∀ ws, cn.Fz K H a ws → ws = vs) (he : ds[i]? = some e) : ∃ w, vs[i]? = some w ∧ Sta K c H σ ρ ((w, e.frz) :: (.ref a, .nd cn (ds.map D.frz)) :: τ) := by
  obtain ⟨G, f1, f2, sub, tmp, own, nd, g0, k0, n0, gn⟩ := S
  cases tmp with
  | @cons _ _ f _ g x t =>
    have x' := x
    have e0 : f = [] := own_frz_nil (.nd cn ds) (by
      have q : D.frz (.nd cn ds) = .nd cn (ds.map D.frz) := by rw [frz_nd, hc]
      rw [q]; exact x)
    subst e0
    cases x with
    | fz q l =>
      obtain ⟨w, h1, h2⟩ := l.getF (i := i) (d := e.frz) (by rw [List.getElem?_map, he]; rfl)
      have ew := hv _ (q.mono sub)
      subst ew
      exact ⟨w, h1, G, [] ++ ([] ++ g), f2, sub, .cons h2 (.cons x' t), own, nd, g0, k0, n0, gn⟩
/-- a new tracked object that owns its temporaries -/
theorem Sta.newO {cn : Con} {vs : List V} {ds : List D} {a : Addr} {o : HO} (hl : vs.length = ds.length) (S : Sta K c H σ ρ (vs.zip ds ++ τ)) (ha : H a = none) (ho : cn.Ow (upd H a o) a vs) : Sta K c (upd H a o) σ ρ ((.ref a, .nd cn ds) :: τ) := by
  obtain ⟨G, f1, f2, sub, tmp, own, nd, g0, k0, n0, gn⟩ := S
  obtain ⟨e1, e2, rfl, h1, h2⟩ := OwnT.zip hl tmp
  have hG : G a = none := by
    cases q : G a with
    | none => rfl
    | some u => rw [sub a u q] at ha; cases ha
  have ne : ∀ b, (∃ u, H b = some u) → b ≠ a := fun b ⟨u, h⟩ e => by subst e; rw [ha] at h; cases h
  have kp : ∀ (f : List Addr), (∀ b ∈ f, G b = none ∧ ∃ u, H b = some u) → ∀ b ∈ f, ∀ u, H b = some u → upd H a o b = some u := fun f hf b hb u e => by rw [upd_ne (ne b ⟨u, e⟩)]; exact e
  refine ⟨G, (a :: e1) ++ e2, f2, same_trans sub (same_upd ha), .cons (.ow ho hG (h1.mono (same_refl G) (kp _ h1.fp) fun b hb => (h1.fp b hb).1)) (h2.mono (same_refl G) (kp _ h2.fp) fun b hb => (h2.fp b hb).1),
    own.mono (same_refl G) (kp _ own.fp) (fun b hb => (own.fp b hb).1), ?_, g0, fun b u e nb => same_upd ha _ _ (k0 b u e nb), fun b hb => ?_, gn⟩
  · rw [List.cons_append, List.cons_append]
    refine List.nodup_cons.mpr ⟨fun hb => ?_, nd⟩
    have : ∃ u, H a = some u := by
      rcases List.mem_append.mp hb with hb | hb
      · rcases List.mem_append.mp hb with hb | hb
        · exact (h1.fp a hb).2
        · exact (h2.fp a hb).2
      · exact (own.fp a hb).2
    exact ne a this rfl
  · rw [List.cons_append, List.cons_append] at hb
    rcases List.mem_cons.mp hb with rfl | hb
    · by_cases hb : b ∈ c.f
      · exact .inl hb
      · right
        cases q : c.H b with
        | none => rfl
        | some u => rw [k0 b u q hb] at ha; cases ha
    · exact n0 b hb
/-- a new tuple -/
theorem Sta.newT {vs : List V} {ds : List D} {a : Addr} (hl : vs.length = ds.length) (S : Sta K c H σ ρ (vs.zip ds ++ τ)) (ha : H a = none) : Sta K c (upd H a (.tup vs)) σ ρ ((.ref a, .nd .tup ds) :: τ) := by
  obtain ⟨G, f1, f2, sub, tmp, own, nd, g0, k0, n0, gn⟩ := S
  obtain ⟨e1, e2, rfl, h1, h2⟩ := OwnT.zip hl tmp
  have hG : G a = none := by
    cases q : G a with
    | none => rfl
    | some u => rw [sub a u q] at ha; cases ha
  have ne : ∀ b, (∃ u, H b = some u) → b ≠ a := fun b ⟨u, h⟩ e => by subst e; rw [ha] at h; cases h
  have kp : ∀ (f : List Addr), (∀ b ∈ f, G b = none ∧ ∃ u, H b = some u) → ∀ b ∈ f, ∀ u, H b = some u → upd H a (.tup vs) b = some u := fun f hf b hb u e => by rw [upd_ne (ne b ⟨u, e⟩)]; exact e
  have gp : ∀ (f : List Addr), (∀ b ∈ f, G b = none ∧ ∃ u, H b = some u) → ∀ b ∈ f, upd G a (.tup vs) b = none := fun f hf b hb => by rw [upd_ne (ne b (hf b hb).2)]; exact (hf b hb).1
  have sg : Same G (upd G a (.tup vs)) := same_upd hG
  have c0 : a ∈ c.f ∨ c.H a = none := by
    by_cases hb : a ∈ c.f
    · exact .inl hb
    · right
      cases q : c.H a with
      | none => rfl
      | some u => rw [k0 a u q hb] at ha; cases ha
  refine ⟨upd G a (.tup vs), e1 ++ e2, f2, fun b u e => ?_, .cons (.fz (show upd G a (.tup vs) a = some (.tup vs) from upd_same) (h1.mono sg (kp _ h1.fp) (gp _ h1.fp))) (h2.mono sg (kp _ h2.fp) (gp _ h2.fp)),
    own.mono sg (kp _ own.fp) (gp _ own.fp), nd, same_trans g0 sg, fun b u e nb => same_upd ha _ _ (k0 b u e nb), n0, fun b u e => ?_⟩
  · by_cases hb : b = a
    · subst hb; rw [upd_same] at e ⊢; exact e
    · rw [upd_ne hb] at e ⊢; exact sub b u e
  · by_cases hb : b = a
    · subst hb; exact .inr c0
    · rw [upd_ne hb] at e; exact gn b u e
end

/-! ### expressions -/
section
variable {X : Cx} {c : C0} {W : WW} {p : Bool}
/-- constants -/
theorem ee_c {e : Expr} {v : V} {d : D} (h : PE X e (tC v)) (ho : ∀ G H, Own X.K G H v d []) : EE X c W p e (pur d) := pe_mono h fun σ H Q ⟨ρ, τ, S, q⟩ => q v H (fun _ => same_refl H) (S.push fun _ _ => ho _ _)
theorem ee_non {j : Nat} {pos : Pos} : EE X c W p (.Constant .none j pos) (pur .non) := ee_c pe_non fun _ _ => .non
theorem ee_bl {b : Bool} {j : Nat} {pos : Pos} : EE X c W p (.Constant (.bool b) j pos) (pur (.bl b)) := ee_c pe_bl fun _ _ => .bl b
theorem ee_int {i : Int} {j : Nat} {pos : Pos} : EE X c W p (.Constant (.int i) j pos) (pur (.int i)) := ee_c pe_int fun _ _ => .int i
theorem ee_str {x : Str} {j : Nat} {pos : Pos} : EE X c W p (.Constant (.str x) j pos) (pur (.str x)) := ee_c pe_str fun _ _ => .str x
/-- a slot, read -/
def mVar (i : Nat) : M D := fun ρ => match ρ[i]? with
  | some (some d) => .ok d.frz (ρ.set i (some d.frz))
  | _ => .stuck
theorem ee_var {e : Expr} (i : Nat) (h : PE X e (tVar i)) : EE X c W p e (mVar i) := pe_mono h fun σ H Q ⟨ρ, τ, S, q⟩ => by
  unfold mVar at q
  split at q
  · rename_i d ed
    obtain ⟨v, h1, h2⟩ := S.var ed
    exact ⟨v, h1, q v H (fun _ => same_refl H) h2⟩
  · exact q.elim
/-- a slot, moved out -/
def mMov (i : Nat) : M D := fun ρ => match ρ[i]? with
  | some (some d) => .ok d (ρ.set i none)
  | _ => .stuck
theorem ee_mov {e : Expr} (i : Nat) (h : PE X e (tVar i)) : EE X c W p e (mMov i) := pe_mono h fun σ H Q ⟨ρ, τ, S, q⟩ => by
  unfold mMov at q
  split at q
  · rename_i d ed
    obtain ⟨v, h1, h2⟩ := S.out ed
    exact ⟨v, h1, q v H (fun _ => same_refl H) h2⟩
  · exact q.elim
/-- frozen at once -/
def mFrz (m : M D) : M D := bnd m fun d => pur d.frz
theorem ee_frz {e : Expr} {m : M D} (h : EE X c W p e m) : EE X c W p e (mFrz m) := pe_mono h fun σ H Q ⟨ρ, τ, S, q⟩ =>
  rdE_of S q (fun _ _ h => h) wE_stuck fun d ρ1 v H1 s S1 q1 => q1 v H1 s S1.frz

/-! ### two-place operations -/
def rOp2 (K : PySem.W.Frag) (fo : D → D → Option D) : R2 := fun x y H Q => ∃ c σ ρ τ dx dy dz, Sta K c H σ ρ ((y, dy) :: (x, dx) :: τ) ∧ fo dx dy = some dz ∧ ∀ v H', Same H H' → Sta K c H' σ ρ ((v, dz) :: τ) → Q v H'
def m2 (fo : D → D → Option D) (ma mb : M D) : M D := bnd ma fun x => bnd mb fun y => lft (fo x y)
theorem rd2 {fo : D → D → Option D} {ma mb : M D} {r : R2} (hr : ∀ x y H Q, rOp2 X.K fo x y H Q → r x y H Q) {σ : L2.St} {H : Hp} {Q : VK} (h : rdE X.K c W p (m2 fo ma mb) σ H Q) : tOp r (rdE X.K c W p ma) (rdE X.K c W p mb) σ H Q := by
  obtain ⟨ρ, τ, S, q⟩ := h
  refine rdE_of S q (fun _ _ h => h) wE_stuck fun x ρ1 v1 H1 s1 S1 q1 => ?_
  refine rdE_of S1 q1 (fun _ _ h H' S' => h H' S'.drop) wE_stuck fun y ρ2 v2 H2 s2 S2 q2 => ?_
  cases e : fo x y with
  | none => rw [e] at q2; exact q2.elim
  | some z =>
    rw [e] at q2
    exact hr _ _ _ _ ⟨c, σ, ρ2, τ, x, y, z, S2, e, fun v H' s S' => q2 v H' (pp s1 (pp s2 fun _ => s)) S'⟩
theorem ee_op {op : Operator} {a b : Expr} {pos : Pos} {fo : D → D → Option D} {ma mb : M D} (ho : OpR X (binaryOp op) (rOp2 X.K fo)) (ha : EE X c W p a ma) (hb : EE X c W p b mb) : EE X c W p (.BinOp a op b pos) (m2 fo ma mb) :=
  pe_mono (pe_op ho ha hb) fun σ H Q h => rd2 (fun _ _ _ _ h => h) h
theorem ee_cmp {op : CmpOp} {a b : Expr} {pos : Pos} {fo : D → D → Option D} {ma mb : M D} (ho : OpR X (compareOp op) (rOp2 X.K fo)) (ha : EE X c W p a ma) (hb : EE X c W p b mb) (hm : behindInMarks op b = false) : EE X c W p (.Compare a [op] [b] pos) (m2 fo ma mb) :=
  pe_mono (pe_cmpR ho ha hb hm) fun σ H Q h => rd2 (fun _ _ _ _ h => h) h
/-- scalars in, a scalar out -/
theorem rOp2_two {fo : D → D → Option D} {r : R2} (h : ∀ x y dx dy dz H Q, (∃ G f g, Same G H ∧ Own X.K G H x dx f ∧ Own X.K G H y dy g) → fo dx dy = some dz → (∀ v, (∀ G H, Own X.K G H v dz []) → Q v H) → r x y H Q) : ∀ x y H Q, rOp2 X.K fo x y H Q → r x y H Q := fun x y H Q ⟨c, σ, ρ, τ, dx, dy, dz, S, e, q⟩ => by
  refine h x y dx dy dz H Q ?_ e fun v hv => q v H (same_refl H) (S.drop.drop.push fun G _ => hv G H)
  obtain ⟨G, f1, f2, sub, tmp, _⟩ := S
  cases tmp with
  | cons a t =>
    cases t with
    | cons b t => exact ⟨G, _, _, sub, b, a⟩
def fII (C : Int → Int → Bool) (g : Int → Int → D) : D → D → Option D
  | .int i, .int j => if C i j = true then some (g i j) else none
  | _, _ => none
theorem opII {f : Value → Value → Sem Value} {C : Int → Int → Bool} {C' : Int → Int → Prop} {g : Int → Int → D} {g' : Int → Int → V} (h : OpR X f (rI C' g')) (hC : ∀ i j, C i j = true → C' i j) (hg : ∀ i j G H, Own X.K G H (g' i j) (g i j) []) : OpR X f (rOp2 X.K (fII C g)) :=
  opR_imp h (rOp2_two fun x y dx dy dz H Q hx e k => by
    obtain ⟨G, _, _, _, ox, oy⟩ := hx
    unfold fII at e
    split at e
    · rename_i i j
      cases ox; cases oy
      by_cases hc : C i j = true
      · rw [if_pos hc] at e
        cases e
        exact ⟨i, j, rfl, rfl, hC i j hc, k _ fun G H => hg i j G H⟩
      · rw [if_neg hc] at e; cases e
    · cases e)
theorem opII0 {f : Value → Value → Sem Value} {g : Int → Int → D} {g' : Int → Int → V} (h : OpR X f (rI0 g')) (hg : ∀ i j G H, Own X.K G H (g' i j) (g i j) []) : OpR X f (rOp2 X.K (fII (fun _ _ => true) g)) :=
  opR_imp h (rOp2_two fun x y dx dy dz H Q hx e k => by
    obtain ⟨G, _, _, _, ox, oy⟩ := hx
    unfold fII at e
    split at e
    · rename_i i j
      cases ox; cases oy
      rw [if_pos rfl] at e
      cases e
      exact ⟨i, j, rfl, rfl, k _ fun G H => hg i j G H⟩
    · cases e)
theorem o_sub : OpR X (binaryOp .Sub) (rOp2 X.K (fII (fun _ _ => true) fun i j => .int (i - j))) := opII0 op_sub fun _ _ _ _ => .int _
def cMul (i j : Int) : Bool := decide (-(2 ^ 64) < i ∧ i < 2 ^ 64) || decide (-(2 ^ 64) < j ∧ j < 2 ^ 64)
theorem cMul_ok {i j : Int} (h : cMul i j = true) : CMul i j := by
  unfold cMul at h
  rcases Bool.or_eq_true_iff.mp h with h | h
  · exact .inl (of_decide_eq_true h)
  · exact .inr (of_decide_eq_true h)
theorem o_mul : OpR X (binaryOp .Mult) (rOp2 X.K (fII cMul fun i j => .int (i * j))) := opII op_mul (fun _ _ => cMul_ok) fun _ _ _ _ => .int _
def cDiv (i j : Int) : Bool := decide (0 < j ∧ j < 1073741824)
theorem o_fdiv : OpR X (binaryOp .FloorDiv) (rOp2 X.K (fII cDiv fun i j => .int (i / j))) := opII op_fdiv (fun i j h => show 0 < j ∧ j < 1073741824 from of_decide_eq_true h) fun _ _ _ _ => .int _
theorem o_mod : OpR X (binaryOp .Mod) (rOp2 X.K (fII (fun _ j => decide (0 < j)) fun i j => .int (i % j))) := opII op_mod (fun _ _ h => of_decide_eq_true h) fun _ _ _ _ => .int _
def cPow (i j : Int) : Bool := decide (0 ≤ j ∧ j ≤ 1000000 ∧ i.natAbs < 2 ^ 64)
theorem o_pow : OpR X (binaryOp .Pow) (rOp2 X.K (fII cPow fun i j => .int (i ^ j.toNat))) := opII op_pow (fun i j h => show 0 ≤ j ∧ j ≤ 1000000 ∧ i.natAbs < 2 ^ 64 from of_decide_eq_true h) fun _ _ _ _ => .int _
theorem o_shl : OpR X (binaryOp .LShift) (rOp2 X.K (fII cPow fun i j => .int (i * 2 ^ j.toNat))) := opII op_shl (fun i j h => show 0 ≤ j ∧ j ≤ 1000000 ∧ i.natAbs < 2 ^ 64 from of_decide_eq_true h) fun _ _ _ _ => .int _
theorem o_shr : OpR X (binaryOp .RShift) (rOp2 X.K (fII (fun _ j => decide (0 ≤ j)) fun i j => .int (i / 2 ^ j.toNat))) := opII op_shr (fun _ _ h => of_decide_eq_true h) fun _ _ _ _ => .int _
theorem o_and : OpR X (binaryOp .BitAnd) (rOp2 X.K (fII (fun _ _ => true) fun i j => .int (Builtin.bitAnd i j))) := opII0 op_and fun _ _ _ _ => .int _
theorem o_or : OpR X (binaryOp .BitOr) (rOp2 X.K (fII (fun _ _ => true) fun i j => .int (Builtin.bitOr i j))) := opII0 op_or fun _ _ _ _ => .int _
end
end DL
/-! DLc: children, paths, places; what is read and what is changed there. -/
namespace DL
open PySem PySem.Spec L2

/-! ### children of an owned or frozen container -/
section
variable {K : PySem.W.Frag} {G H G' H' : Hp}
theorem OwnL.at : ∀ {vs : List V} {ds : List D} {f : List Addr} {j : Nat} {e : D}, OwnL K G H vs ds f → ds[j]? = some e → ∃ w f2 f', vs[j]? = some w ∧ f.Perm (f2 ++ f') ∧ Own K G H w e f2 ∧
    ∀ (G' H' : Hp) (e' : D) (g : List Addr), Same G G' → (∀ a ∈ f', ∀ o, H a = some o → H' a = some o) → (∀ a ∈ f', G' a = none) → Own K G' H' w e' g → ∃ f'', f''.Perm (g ++ f') ∧ OwnL K G' H' vs (ds.set j e') f''
  | _, _, _, _, _, .nil, q => by simp at q
  | _, _, _, 0, _, .cons (f := f) (g := g0) x t, q => by
    simp at q; subst q
    exact ⟨_, f, g0, rfl, .refl _, x, fun G' H' e' g s k n y => ⟨g ++ g0, .refl _, by simpa using OwnL.cons y (t.mono s k n)⟩⟩
  | _, _, _, j + 1, _, .cons (f := f) (g := g0) x t, q => by
    obtain ⟨w, f2, f', h1, h2, h3, h4⟩ := t.at (j := j) (by simpa using q)
    refine ⟨w, f2, f ++ f', by simpa using h1, ?_, h3, fun G' H' e' g s k n y => ?_⟩
    · exact ((h2.append_left f).trans (by rw [← List.append_assoc, ← List.append_assoc]; exact List.perm_append_comm.append_right f'))
    · obtain ⟨f'', p1, p2⟩ := h4 G' H' e' g s (fun a ha => k a (List.mem_append_right _ ha)) (fun a ha => n a (List.mem_append_right _ ha)) y
      refine ⟨f ++ f'', ?_, by simpa using OwnL.cons (x.mono s (fun a ha => k a (List.mem_append_left _ ha)) fun a ha => n a (List.mem_append_left _ ha)) p2⟩
      exact ((p1.append_left f).trans (by rw [← List.append_assoc, ← List.append_assoc]; exact List.perm_append_comm.append_right f'))
end
/-- the owned containers -/
def Con.isO : Con → Bool
  | .tup => false
  | .lst o => o
  | .dic o _ => o
  | .dit o _ => o
  | .scr => false
theorem Con.Fz.isO {K : PySem.W.Frag} {G : Hp} {a : Addr} {vs : List V} {c : Con} (h : c.Fz K G a vs) : c.isO = false := by
  cases c with
  | tup => rfl
  | lst o => exact h.1
  | dic o ks => exact h.1
  | dit o ks => exact h.1
  | scr => rfl
theorem Con.Ow.isO {H : Hp} {a : Addr} {vs : List V} {c : Con} (h : c.Ow H a vs) : c.isO = true := by
  cases c with
  | tup => exact h.elim
  | lst o => exact h.1
  | dic o ks => exact h.1
  | dit o ks => exact h.1
  | scr => exact h.elim
theorem Con.Ow.inj {H : Hp} {a : Addr} {vs ws : List V} {c c' : Con} (h : c.Ow H a vs) (h' : c'.Ow H a ws) : vs = ws := by
  have zz : ∀ {κ : Type} (ks ks' : List κ) (vs ws : List V), ks.length = vs.length → ks'.length = ws.length → ks.zip vs = ks'.zip ws → vs = ws := fun ks ks' vs ws e1 e2 e => by
    have := congrArg (List.map Prod.snd) e
    rwa [List.map_snd_zip (by omega), List.map_snd_zip (by omega)] at this
  cases c with
  | tup => exact h.elim
  | lst o =>
    cases c' with
    | tup => exact h'.elim
    | lst o' => have := h.2.symm.trans h'.2; cases this; rfl
    | dic o' ks => have := h.2.symm.trans h'.2.2; cases this
    | dit o' ks => have := h.2.symm.trans h'.2.2; cases this
    | scr => exact h'.elim
  | dic o ks =>
    cases c' with
    | tup => exact h'.elim
    | lst o' => have := h.2.2.symm.trans h'.2; cases this
    | dic o' ks' => have := h.2.2.symm.trans h'.2.2; injection this with e; injection e with e; exact zz _ _ _ _ h.2.1 h'.2.1 e
    | dit o' ks' => have := h.2.2.symm.trans h'.2.2; cases this
    | scr => exact h'.elim
  | dit o ks =>
    cases c' with
    | tup => exact h'.elim
    | lst o' => have := h.2.2.symm.trans h'.2; cases this
    | dic o' ks' => have := h.2.2.symm.trans h'.2.2; cases this
    | dit o' ks' => have := h.2.2.symm.trans h'.2.2; injection this with e; injection e with e; exact zz _ _ _ _ h.2.1 h'.2.1 e
    | scr => exact h'.elim
  | scr => exact h.elim

/-- the value at the end of a path through owned containers -/
def VAt (H : Hp) : V → List Nat → V → Prop
  | u, [], v => v = u
  | u, j :: π, v => ∃ a cn vs w, u = .ref a ∧ Con.Ow H a vs cn ∧ vs[j]? = some w ∧ VAt H w π v
theorem VAt.mono {H H' : Hp} (s : Same H H') : ∀ {π : List Nat} {u v : V}, VAt H u π v → VAt H' u π v
  | [], _, _, h => h
  | _ :: _, _, _, ⟨a, cn, vs, w, h1, h2, h3, h4⟩ => ⟨a, cn, vs, w, h1, h2.mono (s a), h3, h4.mono s⟩
theorem VAt.inj {H : Hp} : ∀ {π : List Nat} {u v v' : V}, VAt H u π v → VAt H u π v' → v = v'
  | [], _, _, _, h, h' => h.trans h'.symm
  | _ :: _, _, _, _, ⟨a, cn, vs, w, h1, h2, h3, h4⟩, ⟨a', cn', vs', w', h1', h2', h3', h4'⟩ => by
    rw [h1] at h1'; cases h1'
    have e := h2.inj h2'
    subst e
    rw [h3] at h3'; cases h3'
    exact h4.inj h4'
theorem VAt.snoc {H : Hp} {j : Nat} {a : Addr} {cn : Con} {vs : List V} {w : V} (h2 : cn.Ow H a vs) (h3 : vs[j]? = some w) : ∀ {π : List Nat} {u : V}, VAt H u π (.ref a) → VAt H u (π ++ [j]) w
  | [], _, h => ⟨a, cn, vs, w, h.symm, h2, h3, rfl⟩
  | _ :: _, _, ⟨b, cn', vs', w', k1, k2, k3, k4⟩ => ⟨b, cn', vs', w', k1, k2, k3, VAt.snoc h2 h3 k4⟩
/-- the datum there; another one put there -/
def D.at : D → List Nat → Option D
  | d, [] => some d
  | .nd cn xs, j :: π => if cn.isO = true then xs[j]?.bind fun e => D.at e π else none
  | _, _ :: _ => none
termination_by _ π => π.length
def D.put : D → List Nat → D → D
  | _, [], e => e
  | .nd cn xs, j :: π, e => match xs[j]? with
    | some x => .nd cn (xs.set j (D.put x π e))
    | none => .nd cn xs
  | d, _ :: _, _ => d
termination_by _ π _ => π.length
theorem at_nil (d : D) : d.at [] = some d := by unfold D.at; rfl
theorem at_cons (cn : Con) (xs : List D) (j : Nat) (π : List Nat) : (D.nd cn xs).at (j :: π) = if cn.isO = true then xs[j]?.bind fun e => D.at e π else none := by
  rw [D.at]
theorem put_nil (d e : D) : d.put [] e = e := by unfold D.put; rfl
theorem put_cons (cn : Con) (xs : List D) (j : Nat) (π : List Nat) (e : D) : (D.nd cn xs).put (j :: π) e = match xs[j]? with
    | some x => .nd cn (xs.set j (D.put x π e))
    | none => .nd cn xs := by rw [D.put]
section
variable {K : PySem.W.Frag} {G H : Hp}
theorem Own.at : ∀ {π : List Nat} {v : V} {d e : D} {f : List Addr}, Own K G H v d f → d.at π = some e → ∃ w f2 f', VAt H v π w ∧ f.Perm (f2 ++ f') ∧ Own K G H w e f2 ∧
    ∀ (G' H' : Hp) (e' : D) (g : List Addr), Same G G' → (∀ a ∈ f', ∀ o, H a = some o → H' a = some o) → (∀ a ∈ f', G' a = none) → Own K G' H' w e' g → ∃ f'', f''.Perm (g ++ f') ∧ Own K G' H' v (d.put π e') f''
  | [], v, d, e, f, h, q => by
    rw [at_nil] at q; cases q
    exact ⟨v, f, [], rfl, by simp, h, fun G' H' e' g _ _ _ y => ⟨g, by simp, by rw [put_nil]; exact y⟩⟩
  | j :: π, v, .nd cn xs, e, _, h, q => by
    rw [at_cons] at q
    by_cases hc : cn.isO = true
    · rw [if_pos hc] at q
      cases ex : xs[j]? with
      | none => rw [ex] at q; cases q
      | some x =>
        rw [ex] at q
        cases h with
        | fz z _ => rw [z.isO] at hc; cases hc
        | @ow a _ vs _ f0 z gn l =>
          obtain ⟨w, f2, f', h1, h2, h3, h4⟩ := l.at ex
          obtain ⟨w', g2, g', k1, k2, k3, k4⟩ := Own.at (π := π) h3 q
          refine ⟨w', g2, a :: (g' ++ f'), ⟨a, cn, vs, w, rfl, z, h1, k1⟩, ?_, k3, fun G' H' e' g s k n y => ?_⟩
          · refine ((h2.trans (k2.append_right f')).cons a).trans ?_
            rw [List.append_assoc]
            exact List.perm_middle.symm
          · obtain ⟨f'', p1, p2⟩ := k4 G' H' e' g s (fun b hb => k b (List.mem_cons_of_mem _ (List.mem_append_left _ hb))) (fun b hb => n b (List.mem_cons_of_mem _ (List.mem_append_left _ hb))) y
            obtain ⟨f3, p3, p4⟩ := h4 G' H' _ f'' s (fun b hb => k b (List.mem_cons_of_mem _ (List.mem_append_right _ hb))) (fun b hb => n b (List.mem_cons_of_mem _ (List.mem_append_right _ hb))) p2
            refine ⟨a :: f3, ?_, ?_⟩
            · refine ((p3.trans (p1.append_right f')).cons a).trans ?_
              rw [List.append_assoc]
              exact List.perm_middle.symm
            · rw [put_cons, ex]
              exact .ow (z.mono (k a List.mem_cons_self)) (n a List.mem_cons_self) p4
    · rw [if_neg hc] at q; cases q
  | j :: π, v, .non, e, f, h, q => by rw [D.at] at q; cases q; exact fun _ _ h => nomatch h
  | j :: π, v, .bl _, e, f, h, q => by rw [D.at] at q; cases q; exact fun _ _ h => nomatch h
  | j :: π, v, .int _, e, f, h, q => by rw [D.at] at q; cases q; exact fun _ _ h => nomatch h
  | j :: π, v, .str _, e, f, h, q => by rw [D.at] at q; cases q; exact fun _ _ h => nomatch h
end

/-! ### the state, at a place -/
section
variable {K : PySem.W.Frag} {c : C0} {H : Hp} {σ : L2.St} {ρ : Env} {τ : List (V × D)}
/-- the subtree at a place is frozen and read -/
theorem Sta.pread {i : Nat} {π : List Nat} {d e : D} (S : Sta K c H σ ρ τ) (e1 : ρ[i]? = some (some d)) (e2 : d.at π = some e) :
    ∃ u w, σ[i]? = some (some u) ∧ VAt H u π w ∧ Sta K c H σ (ρ.set i (some (d.put π e.frz))) ((w, e.frz) :: τ) := by
  have hi : i < ρ.length := (List.getElem?_eq_some_iff.mp e1).1
  obtain ⟨u, h1, G, f1, f2, sub, tmp, own, nd, g0, k0, n0, gn⟩ := S.out e1
  cases tmp with
  | @cons _ _ f _ g x t =>
    obtain ⟨w, q1, q2, v1, p1, x1, back⟩ := x.at e2
    have pall : ((f ++ g) ++ f2).Perm (q1 ++ (q2 ++ (g ++ f2))) := by
      rw [List.append_assoc]
      refine (p1.append_right (g ++ f2)).trans ?_
      rw [List.append_assoc]
    have nd' := List.nodup_append.mp (pall.nodup_iff.mp nd)
    let G' : Hp := fun b => if b ∈ q1 then H b else G b
    have gfp : ∀ b ∈ q1, G b = none := fun b hb => (x1.fp b hb).1
    have hg : Same G G' := fun b o e => by
      have hb : b ∉ q1 := fun hb => by rw [gfp b hb] at e; cases e
      show (if b ∈ q1 then H b else G b) = some o
      rw [if_neg hb]; exact e
    have hs : Same G' H := fun b o e => by
      have e' : (if b ∈ q1 then H b else G b) = some o := e
      by_cases hb : b ∈ q1
      · rw [if_pos hb] at e'; exact e'
      · rw [if_neg hb] at e'; exact sub _ _ e'
    have hn : ∀ b ∈ q2 ++ (g ++ f2), G b = none → G' b = none := fun b hb e => by
      show (if b ∈ q1 then H b else G b) = none
      rw [if_neg fun q => nd'.2.2 b q b hb rfl]; exact e
    have xz : Own K G' H w e.frz [] := x1.frz hg fun b hb o e => by show (if b ∈ q1 then H b else G b) = some o; rw [if_pos hb]; exact e
    have q2fp : ∀ b ∈ q2, G b = none := fun b hb => (x.fp b (p1.mem_iff.mpr (List.mem_append_right _ hb))).1
    obtain ⟨f'', p2, x2⟩ := back G' H e.frz [] hg (fun _ _ _ e => e) (fun b hb => hn b (List.mem_append_left _ hb) (q2fp b hb)) xz
    have own' := own.mono hg (fun _ _ _ e => e) fun b hb => hn b (List.mem_append_right _ (List.mem_append_right _ hb)) (own.fp b hb).1
    have t' := t.mono hg (fun _ _ _ e => e) fun b hb => hn b (List.mem_append_right _ (List.mem_append_left _ hb)) (t.fp b hb).1
    have nd3 : ((f'' ++ ([] ++ g)) ++ f2).Nodup := by
      have : ((f'' ++ ([] ++ g)) ++ f2).Perm (q2 ++ (g ++ f2)) := by
        rw [List.append_assoc]
        exact p2.append_right _
      exact this.nodup_iff.mpr nd'.2.1
    have S2 : Sta K c H σ (ρ.set i none) ((u, d.put π e.frz) :: (w, e.frz) :: τ) := ⟨G', f'' ++ ([] ++ g), f2, hs, .cons x2 (.cons xz t'), own', nd3, same_trans g0 hg, k0, fun b hb => n0 b ?_, fun b o e => ?_⟩
    · have S3 := S2.back (i := i) (by simp [hi]) h1
      rw [List.set_set] at S3
      exact ⟨u, w, h1, v1, S3⟩
    · have : ((f'' ++ ([] ++ g)) ++ f2).Perm (q2 ++ (g ++ f2)) := by
        rw [List.append_assoc]
        exact p2.append_right _
      exact pall.mem_iff.mpr (List.mem_append_right _ (this.mem_iff.mp hb))
    · have e' : (if b ∈ q1 then H b else G b) = some o := e
      by_cases hb : b ∈ q1
      · exact .inr (n0 b (pall.mem_iff.mpr (List.mem_append_left _ hb)))
      · rw [if_neg hb] at e'; exact gn b o e'
/-- the place's value alone -/
theorem Sta.pval {i : Nat} {π : List Nat} {d e : D} (S : Sta K c H σ ρ τ) (e1 : ρ[i]? = some (some d)) (e2 : d.at π = some e) : ∃ u w, σ[i]? = some (some u) ∧ VAt H u π w ∧ ∃ G f, Same G H ∧ Own K G H w e f := by
  obtain ⟨u, h1, G, f1, f2, sub, tmp, _⟩ := S.out e1
  cases tmp with
  | cons x t =>
    obtain ⟨w, q1, q2, v1, p1, x1, _⟩ := x.at e2
    exact ⟨u, w, h1, v1, G, q1, sub, x1⟩
/-- the object at a place is changed: its children and the temporaries T become other children and the temporaries L -/
theorem Sta.mut {i : Nat} {π : List Nat} {d : D} {cn : Con} {ds : List D} {T : List (V × D)} (S : Sta K c H σ ρ (T ++ τ)) (e1 : ρ[i]? = some (some d)) (e2 : d.at π = some (.nd cn ds)) (hc : cn.isO = true) :
    ∃ u a vs, σ[i]? = some (some u) ∧ VAt H u π (.ref a) ∧ cn.Ow H a vs ∧ vs.length = ds.length ∧
      ∀ (cn' : Con) (vs' : List V) (ds' : List D) (L : List (V × D)) (o' : HO), vs'.length = ds'.length → (vs.zip ds ++ T).Perm (vs'.zip ds' ++ L) → cn'.Ow (upd H a o') a vs' → Sta K c (upd H a o') σ (ρ.set i (some (d.put π (.nd cn' ds')))) (L ++ τ) := by
  have hi : i < ρ.length := (List.getElem?_eq_some_iff.mp e1).1
  obtain ⟨u, h1, G, f1, f2, sub, tmp, own, nd, g0, k0, n0, gn⟩ := S.out e1
  cases tmp with
  | @cons _ _ f _ g x t =>
    obtain ⟨w, q1, q2, v1, p1, x1, back⟩ := x.at e2
    cases x1 with
    | fz z _ => rw [z.isO] at hc; cases hc
    | @ow a _ vs _ fc z ga l =>
      refine ⟨u, a, vs, h1, v1, z, l.length, fun cn' vs' ds' L o' hl' pm z' => ?_⟩
      have pall : ((f ++ g) ++ f2).Perm (a :: (fc ++ (q2 ++ (g ++ f2)))) := by
        rw [List.append_assoc]
        refine (p1.append_right (g ++ f2)).trans ?_
        rw [List.append_assoc, List.cons_append]
      have nd' := List.nodup_cons.mp (pall.nodup_iff.mp nd)
      have T2 : OwnT K G H ((vs.zip ds ++ T) ++ τ) (fc ++ g) := by
        rw [List.append_assoc]
        exact OwnT.unzip l t
      obtain ⟨g', pg, T3⟩ := T2.perm (pm.append_right τ)
      rw [List.append_assoc] at T3
      obtain ⟨g1, g2, rfl, l', t'⟩ := OwnT.zip hl' T3
      have pall2 : (fc ++ (q2 ++ (g ++ f2))).Perm (g1 ++ (q2 ++ (g2 ++ f2))) := by
        have a1 : (fc ++ (q2 ++ (g ++ f2))).Perm ((fc ++ g) ++ (q2 ++ f2)) := by
          rw [List.append_assoc]
          refine List.Perm.append_left fc ?_
          rw [← List.append_assoc, ← List.append_assoc]
          exact List.perm_append_comm.append_right f2
        have a2 : ((g1 ++ g2) ++ (q2 ++ f2)).Perm (g1 ++ (q2 ++ (g2 ++ f2))) := by
          rw [List.append_assoc]
          refine List.Perm.append_left g1 ?_
          rw [← List.append_assoc, ← List.append_assoc]
          exact List.perm_append_comm.append_right f2
        exact a1.trans ((pg.append_right _).trans a2)
      have nda : a ∉ g1 ++ (q2 ++ (g2 ++ f2)) := fun h => nd'.1 (pall2.mem_iff.mpr h)
      have kp : ∀ b, b ≠ a → ∀ o, H b = some o → upd H a o' b = some o := fun b hb o e => by rw [upd_ne hb]; exact e
      have ne : ∀ b, b ∈ g1 ++ (q2 ++ (g2 ++ f2)) → b ≠ a := fun b hb e => by subst e; exact nda hb
      have sub' : Same G (upd H a o') := fun b o e => by
        have hb : b ≠ a := fun q => by subst q; rw [ga] at e; cases e
        rw [upd_ne hb]; exact sub b o e
      have l2 := l'.mono (same_refl G) (fun b hb => kp b (ne b (by simp [hb]))) fun b hb => (l'.fp b hb).1
      have t2 := t'.mono (same_refl G) (fun b hb => kp b (ne b (by simp [hb]))) fun b hb => (t'.fp b hb).1
      have own2 := own.mono (same_refl G) (fun b hb => kp b (ne b (by simp [hb]))) fun b hb => (own.fp b hb).1
      have q2fp : ∀ b ∈ q2, G b = none := fun b hb => (x.fp b (p1.mem_iff.mpr (List.mem_append_right _ hb))).1
      obtain ⟨f'', p2, x2⟩ := back G (upd H a o') (.nd cn' ds') (a :: g1) (same_refl G) (fun b hb => kp b (ne b (by simp [hb]))) q2fp (.ow z' ga l2)
      have pfin : ((f'' ++ g2) ++ f2).Perm (a :: (g1 ++ (q2 ++ (g2 ++ f2)))) := by
        rw [List.append_assoc]
        refine (p2.append_right (g2 ++ f2)).trans ?_
        rw [List.append_assoc, List.cons_append]
      have S2 : Sta K c (upd H a o') σ (ρ.set i none) ((u, d.put π (.nd cn' ds')) :: (L ++ τ)) := by
        refine ⟨G, f'' ++ g2, f2, sub', .cons x2 t2, own2, pfin.nodup_iff.mpr (List.nodup_cons.mpr ⟨nda, pall2.nodup_iff.mp nd'.2⟩), g0, fun b o e nb => ?_, fun b hb => n0 b (pall.mem_iff.mpr ?_), gn⟩
        · have hb : b ≠ a := fun q => by
            subst q
            rcases n0 b (pall.mem_iff.mpr List.mem_cons_self) with h | h
            · exact nb h
            · rw [h] at e; cases e
          rw [upd_ne hb]; exact k0 b o e nb
        · rcases List.mem_cons.mp (pfin.mem_iff.mp hb) with h | h
          · exact List.mem_cons.mpr (.inl h)
          · exact List.mem_cons_of_mem _ (pall2.mem_iff.mpr h)
      have S3 := S2.back (i := i) (by simp [hi]) h1
      rw [List.set_set] at S3
      exact S3
end
end DL
/-! DLd: places, subscripts, targets, statements. -/
namespace DL
open PySem PySem.Spec L2

/-! ### which child -/
def keyOf : D → Option Key
  | .int i => some (.inl i)
  | .str x => some (.inr x)
  | _ => none
def keysOf : List D → Option (List Key)
  | [] => some []
  | d :: ds => match keyOf d, keysOf ds with
    | some k, some ks => some (k :: ks)
    | _, _ => none
def findK {κ : Type} [DecidableEq κ] : List κ → κ → Option Nat
  | [], _ => none
  | a :: as, k => if a = k then some 0 else (findK as k).map (· + 1)
def ixOf (c : Con) (n : Nat) (k : D) : Option Nat := match c, k with
  | .tup, .int i => ixN n i
  | .lst _, .int i => ixN n i
  | .scr, .int i => ixN n i
  | .dic _ ks, .int i => findK ks (.inl i)
  | .dic _ ks, .str x => findK ks (.inr x)
  | .dit _ ks, .nd .tup ys => (keysOf ys).bind fun q => findK ks q
  | _, _ => none
theorem ixOf_frz (c : Con) (n : Nat) (k : D) : ixOf c.frz n k = ixOf c n k := by
  cases c <;> cases k <;> first
    | rfl
    | (rename_i c' xs; cases c' <;> rfl)
theorem findK_valV {κ : Type} [DecidableEq κ] : ∀ {ks : List κ} {vs : List V} {k : κ}, ks.length = vs.length → valV (ks.zip vs) k = (findK ks k).bind fun j => vs[j]?
  | [], [], k, _ => rfl
  | a :: as, v :: vs, k, h => by
    unfold findK
    by_cases e : a = k
    · rw [if_pos e]
      simp [valV, List.zip_cons_cons, e]
    · rw [if_neg e]
      have ih := findK_valV (ks := as) (vs := vs) (k := k) (by simpa using h)
      have : valV (List.zip (a :: as) (v :: vs)) k = valV (as.zip vs) k := by simp [valV, List.zip_cons_cons, List.find?_cons, e]
      rw [this, ih]
      cases findK as k with
      | none => rfl
      | some j => simp
  | [], _ :: _, _, h => by simp at h
  | _ :: _, [], _, h => by simp at h
theorem findK_lt {κ : Type} [DecidableEq κ] : ∀ {ks : List κ} {k : κ} {j : Nat}, findK ks k = some j → j < ks.length ∧ ks[j]? = some k
  | [], k, j, h => by unfold findK at h; cases h
  | a :: as, k, j, h => by
    unfold findK at h
    by_cases e : a = k
    · rw [if_pos e] at h; cases h; exact ⟨by simp, by simp [e]⟩
    · rw [if_neg e] at h
      cases q : findK as k with
      | none => rw [q] at h; cases h
      | some i =>
        rw [q] at h; cases h
        have := findK_lt q
        exact ⟨by simpa using this.1, by simpa using this.2⟩
section
variable {K : PySem.W.Frag} {G H : Hp}
theorem keysOf_vals : ∀ {ys : List D} {vs : List V} {q : List Key} {f : List Addr}, OwnL K G H vs ys f → keysOf ys = some q → vs = q.map kV
  | [], _, q, _, h, e => by cases h; cases e; rfl
  | d :: ds, _, q, _, .cons x t, e => by
    unfold keysOf at e
    split at e
    · rename_i k ks e1 e2
      cases e
      have := keysOf_vals t e2
      subst this
      cases d with
      | int i => cases e1; cases x; rfl
      | str z => cases e1; cases x; rfl
      | _ => cases e1
    · cases e
theorem ixN_lt {n : Nat} {i : Int} {j : Nat} (h : ixN n i = some j) : j < n := by
  unfold ixN at h
  split at h
  · split at h
    · cases h; omega
    · cases h
  · split at h
    · cases h; omega
    · cases h
theorem ixOf_lt {c : Con} {n : Nat} {k : D} {j : Nat} (h : ixOf c n k = some j) : (∀ o ks, c = .dic o ks → ks.length = n) → (∀ o ks, c = .dit o ks → ks.length = n) → j < n := by
  intro h1 h2
  unfold ixOf at h
  split at h
  · exact ixN_lt h
  · exact ixN_lt h
  · exact ixN_lt h
  · rename_i o ks i
    rw [← h1 o ks rfl]; exact (findK_lt h).1
  · rename_i o ks x
    rw [← h1 o ks rfl]; exact (findK_lt h).1
  · rename_i o ks ys
    rw [← h2 o ks rfl]
    cases q : keysOf ys with
    | none => rw [q] at h; cases h
    | some r => rw [q] at h; exact (findK_lt h).1
  · cases h
end
/-! ### a subscript by values -/
def rIxDk : R2 := fun x y H Q => ∃ a v, x = .ref a ∧ DGet H a y (some v) ∧ Q v H
theorem ix_dk {X : Cx} (hu : X.A.units + 1 < cLine) : IxR X rIxDk := by
  intro value slice pins s σ H x y v u Q I rx ry h hs
  obtain ⟨a, z, rfl, g, q⟩ := h
  cases rx
  exact PyProof.Rows.tail_any (dict_typeIs I g) PySem.F.slot_dict_getitem.lookup (d_getItem hu I g ry fun w' s3 I3 rw' => ⟨z, H, I3, rw', q⟩) hs
def rIxA (K : PySem.W.Frag) : R2 := fun x y H Q => rIx K x y H Q ∨ rIxDk x y H Q
theorem ix_all {X : Cx} (hu : X.A.units + 1 < cLine) : IxR X (rIxA X.K) := ix_seq.or (ix_dk hu)
section
variable {K : PySem.W.Frag} {G H : Hp}
theorem at_ixN {vs : List V} {i : Int} {j : Nat} {w : V} (h : ixN vs.length i = some j) (e : vs[j]? = some w) : atI vs i = some w := by
  unfold atI
  rw [h]; exact e
/-- a child of what is owned or frozen, read -/
theorem kid_read {a : Addr} {cn : Con} {ds : List D} {f g : List Addr} {yv : V} {k : D} {j : Nat} (sub : Same G H) (x : Own K G H (.ref a) (.nd cn ds) f) (y : Own K G H yv k g) (e : ixOf cn ds.length k = some j) :
    ∃ vs w, (cn.Ow H a vs ∨ cn.Fz K G a vs) ∧ vs.length = ds.length ∧ OwnL K G H vs ds (if cn.isO = true then f.tail else f) ∧ vs[j]? = some w ∧ j < ds.length ∧ ∀ Q : VK, Q w H → rIxA K (.ref a) yv H Q := by
  have main : ∀ vs, (cn.Ow H a vs ∨ cn.Fz K G a vs) → vs.length = ds.length → ∃ w, vs[j]? = some w ∧ j < ds.length ∧ ∀ Q : VK, Q w H → rIxA K (.ref a) yv H Q := fun vs hv hl => by
    have hlt : j < ds.length := ixOf_lt e (fun o ks q => by
      subst q
      rcases hv with hv | hv
      · rw [← hl]; exact hv.2.1
      · rw [← hl]; exact hv.2.1) (fun o ks q => by
      subst q
      rcases hv with hv | hv
      · rw [← hl]; exact hv.2.1
      · rw [← hl]; exact hv.2.1)
    have ew : vs[j]? = some (vs[j]'(by omega)) := by simp [hl, hlt]
    refine ⟨_, ew, hlt, fun Q q => ?_⟩
    unfold ixOf at e
    split at e
    · rename_i i
      cases y
      have ht : SqT K H a vs := by
        rcases hv with hv | hv
        · exact hv.elim
        · exact .inl (.inl (sub _ _ hv))
      exact .inl (.inr (.inl ⟨a, vs, i, _, rfl, rfl, ht, at_ixN (by rw [hl]; exact e) ew, q⟩))
    · rename_i o i
      cases y
      have ht : SqL K H a vs := by
        rcases hv with hv | hv
        · exact .inl (.inl hv.2)
        · exact .inl (same_rd sub hv.2)
      exact .inl (.inl ⟨a, vs, i, _, rfl, rfl, ht, at_ixN (by rw [hl]; exact e) ew, q⟩)
    · rename_i i
      cases y
      have ht : SqL K H a vs := by
        rcases hv with hv | hv
        · exact hv.elim
        · exact same_l sub hv
      exact .inl (.inl ⟨a, vs, i, _, rfl, rfl, ht, at_ixN (by rw [hl]; exact e) ew, q⟩)
    · rename_i o ks i
      cases y
      have ht : Rd H a (.dK (ks.zip vs)) ∧ ks.length = vs.length := by
        rcases hv with hv | hv
        · exact ⟨.inl hv.2.2, hv.2.1⟩
        · exact ⟨same_rd sub hv.2.2, hv.2.1⟩
      exact .inr ⟨a, _, rfl, .inl ⟨_, .inl i, ht.1, rfl, by rw [findK_valV ht.2, e]; exact ew.symm⟩, q⟩
    · rename_i o ks z
      cases y
      have ht : Rd H a (.dK (ks.zip vs)) ∧ ks.length = vs.length := by
        rcases hv with hv | hv
        · exact ⟨.inl hv.2.2, hv.2.1⟩
        · exact ⟨same_rd sub hv.2.2, hv.2.1⟩
      exact .inr ⟨a, _, rfl, .inl ⟨_, .inr z, ht.1, rfl, by rw [findK_valV ht.2, e]; exact ew.symm⟩, q⟩
    · rename_i o ks ys
      cases eq : keysOf ys with
      | none => rw [eq] at e; cases e
      | some kk =>
        rw [eq] at e
        have e' : findK ks kk = some j := e
        cases y with
        | @fz b _ ws _ _ z l =>
          have := keysOf_vals l eq
          subst this
          have ht : Rd H a (.dT (ks.zip vs)) ∧ ks.length = vs.length := by
            rcases hv with hv | hv
            · exact ⟨.inl hv.2.2, hv.2.1⟩
            · exact ⟨same_rd sub hv.2.2, hv.2.1⟩
          exact .inr ⟨a, _, rfl, .inr ⟨_, kk, b, ht.1, rfl, sub _ _ z, by rw [findK_valV ht.2, e']; exact ew.symm⟩, q⟩
        | ow z _ _ => exact z.elim
    · cases e
  cases x with
  | @fz _ _ vs _ _ z l =>
    obtain ⟨w, h1, h2, h3⟩ := main vs (.inr z) l.length
    exact ⟨vs, w, .inr z, l.length, by rw [z.isO, if_neg (by decide)]; exact l, h1, h2, h3⟩
  | @ow _ _ vs _ fc z gn l =>
    obtain ⟨w, h1, h2, h3⟩ := main vs (.inl z) l.length
    exact ⟨vs, w, .inl z, l.length, by rw [z.isO, if_pos rfl]; exact l, h1, h2, h3⟩
end

/-! ### places -/
inductive Pl where
  | at (i : Nat) (π : List Nat)
  | vl (d : D)
section
variable (K : PySem.W.Frag) (c : C0) (W : WW) (p : Bool)
def wP (σ : L2.St) (H : Hp) (τ : List (V × D)) (Q : VK) : R Env Pl → Prop
  | .ok (.at i π) ρ' => ∀ u v H', (p = true → Same H H') → σ[i]? = some (some u) → VAt H' u π v → Sta K c H' σ ρ' τ → Q v H'
  | .ok (.vl d) ρ' => ∀ v H', (p = true → Same H H') → Sta K c H' σ ρ' ((v, d) :: τ) → Q v H'
  | .err e ρ' => ∀ H', Sta K c H' σ ρ' τ → W e σ H'
  | .stuck => False
def rdP (m : M Pl) : TE := fun σ H Q => ∃ ρ τ, Sta K c H σ ρ τ ∧ wP K c W p σ H τ Q (m ρ)
end
def EP (X : Cx) (c : C0) (W : WW) (p : Bool) (e : Expr) (m : M Pl) : Prop := PE X e (rdP X.K c W p m)
/-- the datum at a place -/
def atP (ρ : Env) (i : Nat) (π : List Nat) : Option D := match ρ[i]? with
  | some (some d) => d.at π
  | _ => none
/-- another one there -/
def putP (ρ : Env) (i : Nat) (π : List Nat) (e : D) : Env := match ρ[i]? with
  | some (some d) => ρ.set i (some (d.put π e))
  | _ => ρ
theorem atP_some {ρ : Env} {i : Nat} {π : List Nat} {e : D} (h : atP ρ i π = some e) : ∃ d, ρ[i]? = some (some d) ∧ d.at π = some e ∧ ∀ e', putP ρ i π e' = ρ.set i (some (d.put π e')) := by
  unfold atP at h
  split at h
  · rename_i d hd
    refine ⟨d, hd, h, fun e' => ?_⟩
    unfold putP
    rw [hd]
  · cases h
section
variable {X : Cx} {c : C0} {W : WW} {p : Bool}
theorem rdP_of {K : PySem.W.Frag} {σ : L2.St} {H : Hp} {ρ : Env} {τ : List (V × D)} {β : Type} {m : M Pl} {k : Pl → M β} {Out : R Env β → Prop} {Q : VK} (S : Sta K c H σ ρ τ) (h : Out (bnd m k ρ)) (he : ∀ e ρ', Out (.err e ρ') → ∀ H', Sta K c H' σ ρ' τ → W e σ H') (hs : ¬ Out .stuck)
    (ga : ∀ i π ρ1 u v H1, (p = true → Same H H1) → σ[i]? = some (some u) → VAt H1 u π v → Sta K c H1 σ ρ1 τ → Out (k (.at i π) ρ1) → Q v H1)
    (gv : ∀ d ρ1 v H1, (p = true → Same H H1) → Sta K c H1 σ ρ1 ((v, d) :: τ) → Out (k (.vl d) ρ1) → Q v H1) : rdP K c W p m σ H Q := by
  refine ⟨ρ, τ, S, ?_⟩
  unfold bnd at h
  cases e : m ρ with
  | ok d ρ1 =>
    rw [e] at h
    cases d with
    | «at» i π => exact fun u v H1 q e1 e2 S1 => ga i π ρ1 u v H1 q e1 e2 S1 h
    | vl d => exact fun v H1 q S1 => gv d ρ1 v H1 q S1 h
  | err x ρ1 =>
    rw [e] at h
    exact fun H' S' => he _ _ h H' S'
  | stuck =>
    rw [e] at h
    exact (hs h).elim
def mPv (i : Nat) : M Pl := fun ρ => match ρ[i]? with
  | some (some _) => .ok (.at i []) ρ
  | _ => .stuck
theorem ep_var {e : Expr} (i : Nat) (h : PE X e (tVar i)) : EP X c W p e (mPv i) := pe_mono h fun σ H Q ⟨ρ, τ, S, q⟩ => by
  unfold mPv at q
  split at q
  · rename_i d ed
    obtain ⟨u, w, h1, h2, _⟩ := S.pval ed (at_nil d)
    exact ⟨u, h1, q u u H (fun _ => same_refl H) h1 rfl S⟩
  · exact q.elim
theorem ep_val {e : Expr} {m : M D} (h : EE X c W p e m) : EP X c W p e (bnd m fun d => pur (.vl d)) := pe_mono h fun σ H Q ⟨ρ, τ, S, q⟩ =>
  rdE_of S q (fun _ _ h => h) (fun h => h) fun d ρ1 v H1 s S1 q1 => q1 v H1 s S1
/-- the place is read -/
def mRd (m : M Pl) : M D := bnd m fun pl => match pl with
  | .vl d => pur d
  | .at i π => fun ρ => match atP ρ i π with
    | some e => .ok e.frz (putP ρ i π e.frz)
    | none => .stuck
theorem ee_rd {e : Expr} {m : M Pl} (h : EP X c W p e m) : EE X c W p e (mRd m) := pe_mono h fun σ H Q ⟨ρ, τ, S, q⟩ =>
  rdP_of S q (fun _ _ h => h) (fun h => h) (fun i π ρ1 u v H1 s e1 e2 S1 q1 => by
    dsimp only at q1
    split at q1
    · rename_i e he
      obtain ⟨d, h1, h2, h3⟩ := atP_some he
      obtain ⟨u', w, k1, k2, k3⟩ := S1.pread h1 h2
      rw [e1] at k1; cases k1
      have := e2.inj k2
      subst this
      rw [h3] at q1
      exact q1 v H1 s k3
    · exact q1.elim) fun d ρ1 v H1 s S1 q1 => q1 v H1 s S1
/-- a subscript by value -/
def fIx : D → D → Option D
  | .nd cn ds, k => (ixOf cn ds.length k).bind fun j => ds[j]?.map D.frz
  | .str z, .int i => if z.length ≤ sizeLine then (atI z.cps.toList i).map fun x => .str ⟨#[x]⟩ else none
  | _, _ => none
def mPix (mo : M Pl) (mk : M D) : M Pl := bnd mo fun pl => bnd mk fun k => match pl with
  | .vl d => lft ((fIx d k).map .vl)
  | .at i π => fun ρ => match atP ρ i π with
    | some (.nd cn ds) => if cn.isO = true then (match ixOf cn ds.length k with
        | some j => .ok (.at i (π ++ [j])) ρ
        | none => .stuck)
      else (match fIx (.nd cn ds) k with
        | some e => .ok (.vl e) (putP ρ i π (D.nd cn ds).frz)
        | none => .stuck)
    | some d => (match fIx d k with
        | some e => .ok (.vl e) ρ
        | none => .stuck)
    | none => .stuck
theorem fIx_read {K : PySem.W.Frag} {σ : L2.St} {H : Hp} {ρ : Env} {τ : List (V × D)} {xv yv : V} {x k e : D} (S : Sta K c H σ ρ ((yv, k) :: (xv, x.frz) :: τ)) (he : fIx x k = some e) {Q : VK} (q : ∀ v, Sta K c H σ ρ ((v, e) :: τ) → Q v H) : rIxA K xv yv H Q := by
  obtain ⟨G, f1, f2, sub, tmp, own, nd, g0, k0, n0, gn⟩ := S
  cases tmp with
  | @cons _ _ fy _ g1 y t =>
    cases t with
    | @cons _ _ fx _ g x' t =>
      have ex := own_frz_nil x x'
      subst ex
      cases x with
      | nd cn ds =>
        rw [frz_nd] at x'
        have he : ((ixOf cn ds.length k).bind fun j => ds[j]?.map D.frz) = some e := he
        cases ej : ixOf cn ds.length k with
        | none => rw [ej] at he; cases he
        | some j =>
          rw [ej] at he
          cases ed : ds[j]? with
          | none => rw [show (Option.some j).bind (fun j => ds[j]?.map D.frz) = ds[j]?.map D.frz from rfl, ed] at he; cases he
          | some d0 =>
            rw [show (Option.some j).bind (fun j => ds[j]?.map D.frz) = ds[j]?.map D.frz from rfl, ed] at he
            cases he
            have ej' : ixOf cn.frz (ds.map D.frz).length k = some j := by
              rw [List.length_map, ixOf_frz]
              exact ej
            cases x' with
            | fz z l =>
              obtain ⟨vs, w, a1, a2, a3, a4, a5, a6⟩ := kid_read sub (.fz z l) y ej'
              rw [z.isO, if_neg (by decide)] at a3
              obtain ⟨w', b1, b2⟩ := a3.getF (i := j) (d := d0.frz) (by rw [List.getElem?_map, ed]; rfl)
              rw [a4] at b1; cases b1
              refine a6 Q (q w ⟨G, [] ++ g, f2, sub, .cons b2 t, own, ?_, g0, k0, fun b hb => n0 b ?_, gn⟩)
              · have : ((fy ++ ([] ++ g)) ++ f2).Nodup := nd
                rw [List.append_assoc] at this
                exact (List.nodup_append.mp this).2.1
              · rw [List.append_assoc]
                exact List.mem_append_right _ hb
      | str z =>
        unfold fIx at he
        split at he
        · rename_i h
          cases h
        · rename_i z' i h1
          cases h1
          by_cases hz : z.length ≤ sizeLine
          · rw [if_pos hz] at he
            cases ea : atI z.cps.toList i with
            | none => rw [ea] at he; cases he
            | some ch =>
              rw [ea] at he; cases he
              cases y
              cases x'
              exact .inl (.inr (.inr ⟨z, i, ch, rfl, rfl, hz, ea, q _ ⟨G, [] ++ g, f2, sub, .cons (.str _) t, own, nd, g0, k0, n0, gn⟩⟩))
          · rw [if_neg hz] at he; cases he
        · cases he
      | non => unfold fIx at he; cases he
      | bl b => unfold fIx at he; cases he
      | int i => unfold fIx at he; cases he
theorem ep_ix {o k : Expr} {pos : Pos} {mo : M Pl} {mk : M D} (hu : X.A.units + 1 < cLine) (ho : EP X c W p o mo) (hk : EE X c W true k mk) (hs : PlainIx k) : EP X c W p (.Subscript o k pos) (mPix mo mk) :=
  pe_mono (pe_ix (ix_all hu) ho hk hs) fun σ H Q ⟨ρ, τ, S, q⟩ => by
    refine rdP_of S q (fun _ _ h => h) (fun h => h) (fun i π ρ1 u v H1 s e1 e2 S1 q1 => ?_) fun d ρ1 v H1 s S1 q1 => ?_
    · refine rdE_of S1 q1 (fun _ _ h H' S' => h H' S') (fun h => h) fun k ρ2 yv H2 s2 S2 q2 => ?_
      dsimp only at q2
      have s2' := s2 rfl
      have e3 := e2.mono s2'
      split at q2
      · rename_i cn ds he
        obtain ⟨d, h1, h2, h3⟩ := atP_some he
        by_cases hc : cn.isO = true
        · rw [if_pos hc] at q2
          split at q2
          · rename_i j ej
            obtain ⟨u', h4, G, f1, f2, sub, tmp, own, _⟩ := S2.out h1
            rw [e1] at h4; cases h4
            cases tmp with
            | cons x t =>
              cases t with
              | cons y t =>
                obtain ⟨w, g1, g2, k1, k2, k3, _⟩ := x.at h2
                have := e3.inj k1
                subst this
                cases k3 with
                | fz z _ => rw [z.isO] at hc; cases hc
                | @ow a _ _ _ _ z ga l =>
                  obtain ⟨vs, w, a1, a2, a3, a4, a5, a6⟩ := kid_read sub (.ow z ga l) y ej
                  have z' : cn.Ow H2 a vs := by
                    rcases a1 with a1 | a1
                    · exact a1
                    · rw [a1.isO] at hc; cases hc
                  exact a6 Q (q2 u w H2 (pp s (fun _ => s2')) e1 (VAt.snoc z' a4 k1) S2.drop)
          · exact q2.elim
        · rw [if_neg hc] at q2
          split at q2
          · rename_i e ee
            obtain ⟨u', w, k1, k2, k3⟩ := S2.pread h1 h2
            rw [e1] at k1; cases k1
            have := e3.inj k2
            subst this
            rw [h3] at q2
            exact fIx_read (k3.perm (.swap _ _ _)) ee fun v' S' => q2 v' H2 (pp s (fun _ => s2')) S'
          · exact q2.elim
      · rename_i d0 hne he
        split at q2
        · rename_i e ee
          obtain ⟨d, h1, h2, h3⟩ := atP_some he
          obtain ⟨u', w, k1, k2, k3⟩ := S2.pread h1 h2
          rw [e1] at k1; cases k1
          have := e3.inj k2
          subst this
          obtain ⟨u2, w2, m1, m2, G, f, m3, m4⟩ := S2.pval h1 h2
          rw [e1] at m1; cases m1
          have := e3.inj m2
          subst this
          cases d0 with
          | nd cn ds => exact (hne cn ds rfl).elim
          | str z =>
            cases m4
            cases k with
            | int i =>
              obtain ⟨_, _, _, y⟩ := S2.hd
              cases y
              exact fIx_read (x := .str z) ((S2.drop.str z).int i) ee fun v' S' => q2 v' H2 (pp s (fun _ => s2')) S'
            | _ => unfold fIx at ee; cases ee
          | non => unfold fIx at ee; cases ee
          | bl _ => unfold fIx at ee; cases ee
          | int _ => unfold fIx at ee; cases ee
        · exact q2.elim
      · exact q2.elim
    · refine rdE_of S1 q1 (fun _ _ h H' S' => h H' S'.drop) (fun h => h) fun k ρ2 yv H2 s2 S2 q2 => ?_
      obtain ⟨pl, e, q3⟩ := out_lft (k := pur) (show wP X.K c W p σ H τ Q (bnd (lft ((fIx d k).map Pl.vl)) pur ρ2) by
        dsimp only at q2
        cases ef : fIx d k with
        | none => rw [ef] at q2; exact q2.elim
        | some a => rw [ef] at q2; exact q2) (fun h => h)
      cases ef : fIx d k with
      | none => rw [ef] at e; cases e
      | some a =>
        rw [ef] at e; cases e
        have S3 : Sta X.K c H2 σ ρ2 ((yv, k) :: (v, d.frz) :: τ) := ((S2.perm (.swap _ _ _)).frz).perm (.swap _ _ _)
        exact fIx_read S3 ef fun v' S' => q3 v' H2 (pp s (fun h => s2 rfl)) S'
end
end DL
/-! DLe: targets, statements, loops. -/
namespace DL
open PySem PySem.Spec L2

inductive Fl where
  | nx | rt (d : D) | bk | ct
def Pin (P : List Nat) (σ σ' : L2.St) : Prop := ∀ i ∈ P, σ'[i]? = σ[i]?
theorem Pin.refl (P : List Nat) (σ : L2.St) : Pin P σ σ := fun _ _ => rfl
theorem Pin.trans {P : List Nat} {σ σ1 σ2 : L2.St} (a : Pin P σ σ1) (b : Pin P σ1 σ2) : Pin P σ σ2 := fun i h => (b i h).trans (a i h)
theorem Pin.set {P : List Nat} {σ : L2.St} {i : Nat} {x : Option V} (h : i ∉ P) : Pin P σ (σ.set i x) := fun j hj => by
  rw [List.getElem?_set_ne]
  rintro rfl
  exact h hj
section
variable (K : PySem.W.Frag) (c : C0) (W : WW) (P : List Nat)
def wG (σ : L2.St) (τ : List (V × D)) (Q : L2.St → Hp → Prop) : R Env Unit → Prop
  | .ok _ ρ' => ∀ σ' H', Pin P σ σ' → Sta K c H' σ' ρ' τ → Q σ' H'
  | .err e ρ' => ∀ σ' H', Pin P σ σ' → Sta K c H' σ' ρ' τ → W e σ' H'
  | .stuck => False
def rdG (tg : D → M Unit) : TG := fun v σ H Q => ∃ d ρ τ, Sta K c H σ ρ ((v, d) :: τ) ∧ wG K c W P σ τ Q (tg d ρ)
def rdGs (tg : List D → M Unit) : TGs := fun vs σ H Q => ∃ ds ρ τ, vs.length = ds.length ∧ Sta K c H σ ρ (vs.zip ds ++ τ) ∧ wG K c W P σ τ Q (tg ds ρ)
def wS (Dn : Ends) (σ : L2.St) (τ : List (V × D)) : R Env Fl → Prop
  | .ok .nx ρ' => ∀ σ' H', Pin P σ σ' → Sta K c H' σ' ρ' τ → Dn.nx σ' H'
  | .ok (.rt d) ρ' => ∀ v σ' H', Pin P σ σ' → Sta K c H' σ' ρ' ((v, d) :: τ) → Dn.rt v H'
  | .ok .bk ρ' => ∀ σ' H', Pin P σ σ' → Sta K c H' σ' ρ' τ → Dn.bk σ' H'
  | .ok .ct ρ' => ∀ σ' H', Pin P σ σ' → Sta K c H' σ' ρ' τ → Dn.ct σ' H'
  | .err e ρ' => ∀ σ' H', Pin P σ σ' → Sta K c H' σ' ρ' τ → W e σ' H'
  | .stuck => False
def rdS (m : M Fl) : TS := fun Dn σ H => ∃ ρ τ, Sta K c H σ ρ τ ∧ wS K c W P Dn σ τ (m ρ)
/-- what a loop walks: J yields ds as long as the temporaries τ' stand -/
def JW (J : It) (τ' : List (V × D)) (ds : List D) : Prop := ∀ H σ ρ τ, Sta K c H σ ρ (τ' ++ τ) →
  (∀ i, i < ds.length → J.go i H) ∧ J.stop ds.length H ∧ ∀ i x H' d, ds[i]? = some d → J.yld i H x H' → Sta K c H' σ ρ ((x, d) :: (τ' ++ τ))
def wI (σ : L2.St) (H : Hp) (τ : List (V × D)) (R' : It → Hp → Prop) : R Env (List D) → Prop
  | .ok ds ρ' => ∀ J τ' H', Sta K c H' σ ρ' (τ' ++ τ) → JW K c J τ' ds → R' J H'
  | .err e ρ' => ∀ H', Sta K c H' σ ρ' τ → W e σ H'
  | .stuck => False
def rdI (m : M (List D)) : TI := fun σ H R' => ∃ ρ τ, Sta K c H σ ρ τ ∧ wI K c W σ H τ R' (m ρ)
end
def EG (X : Cx) (c : C0) (W : WW) (P : List Nat) (e : Expr) (m : D → M Unit) : Prop := PG X e (rdG X.K c W P m)
def EGs (X : Cx) (c : C0) (W : WW) (P : List Nat) (es : List Expr) (m : List D → M Unit) : Prop := PGs X es (rdGs X.K c W P m)
def SS (X : Cx) (c : C0) (W : WW) (P : List Nat) (st : Stmt) (m : M Fl) : Prop := PS X st (rdS X.K c W P m)
def SL (X : Cx) (c : C0) (W : WW) (P : List Nat) (st : List Stmt) (m : M Fl) : Prop := PSs X st (rdS X.K c W P m)
def EI (X : Cx) (c : C0) (W : WW) (tg e : Expr) (m : M (List D)) : Prop := PI X tg e (rdI X.K c W m)
theorem ps_mono {X : Cx} {st : Stmt} {t t' : TS} (h : PS X st t) (k : ∀ Dn σ H, t' Dn σ H → t Dn σ H) : PS X st t' := ⟨fun pins s σ H D I q => h.run pins s σ H D I (k D σ H q)⟩
theorem pss_mono {X : Cx} {st : List Stmt} {t t' : TS} (h : PSs X st t) (k : ∀ Dn σ H, t' Dn σ H → t Dn σ H) : PSs X st t' := ⟨fun pins s σ H D I q => h.run pins s σ H D I (k D σ H q)⟩
theorem pg_mono {X : Cx} {e : Expr} {t t' : TG} (h : PG X e t) (k : ∀ v σ H Q, t' v σ H Q → t v σ H Q) : PG X e t' := ⟨fun pins s σ H v u Q I r q => h.run pins s σ H v u Q I r (k v σ H Q q)⟩
theorem pgs_mono {X : Cx} {es : List Expr} {t t' : TGs} (h : PGs X es t) (k : ∀ v σ H Q, t' v σ H Q → t v σ H Q) : PGs X es t' := ⟨fun pins s σ H v u Q I r q => h.run pins s σ H v u Q I r (k v σ H Q q)⟩
theorem pi_mono {X : Cx} {tg e : Expr} {t t' : TI} (h : PI X tg e t) (k : ∀ σ H R', t' σ H R' → t σ H R') : PI X tg e t' := ⟨fun pins s σ H R' I q => h.run pins s σ H R' I (k σ H R' q)⟩
section
variable {K : PySem.W.Frag} {c : C0} {W : WW} {P : List Nat} {σ σ1 : L2.St} {τ τ0 : List (V × D)} {Dn : Ends}
theorem wS_pin (h : Pin P σ σ1) : ∀ {r : R Env Fl}, wS K c W P Dn σ τ r → wS K c W P Dn σ1 τ r
  | .ok .nx _, q => fun σ' H' a => q σ' H' (h.trans a)
  | .ok (.rt _) _, q => fun v σ' H' a => q v σ' H' (h.trans a)
  | .ok .bk _, q => fun σ' H' a => q σ' H' (h.trans a)
  | .ok .ct _, q => fun σ' H' a => q σ' H' (h.trans a)
  | .err _ _, q => fun σ' H' a => q σ' H' (h.trans a)
  | .stuck, q => q
theorem wG_pin {Q : L2.St → Hp → Prop} (h : Pin P σ σ1) : ∀ {r : R Env Unit}, wG K c W P σ τ Q r → wG K c W P σ1 τ Q r
  | .ok _ _, q => fun σ' H' a => q σ' H' (h.trans a)
  | .err _ _, q => fun σ' H' a => q σ' H' (h.trans a)
  | .stuck, q => q
/-- more temporaries below -/
theorem wS_more : ∀ {r : R Env Fl}, wS K c W P Dn σ τ r → wS K c W P Dn σ (τ0 ++ τ) r
  | .ok .nx _, q => fun σ' H' a S => q σ' H' a S.dropN
  | .ok (.rt _) _, q => fun v σ' H' a S => q v σ' H' a (Sta.dropN (τ' := τ0) (S.perm (by
      rw [← List.cons_append]
      exact (List.perm_middle (a := _) (l₁ := τ0) (l₂ := τ)).symm)))
  | .ok .bk _, q => fun σ' H' a S => q σ' H' a S.dropN
  | .ok .ct _, q => fun σ' H' a S => q σ' H' a S.dropN
  | .err _ _, q => fun σ' H' a S => q σ' H' a S.dropN
  | .stuck, q => q
end

/-! ### targets -/
section
variable {X : Cx} {c : C0} {W : WW} {P : List Nat} {pos : Pos}
def tgN (i : Nat) : D → M Unit := fun d ρ => if i < ρ.length then .ok () (ρ.set i (some d)) else .stuck
theorem eg_name {e : Expr} {i : Nat} (h : PG X e (gName i)) (hP : i ∉ P) : EG X c W P e (tgN i) := pg_mono h fun v σ H Q ⟨d, ρ, τ, S, q⟩ => by
  unfold tgN at q
  by_cases hi : i < ρ.length
  · rw [if_pos hi] at q
    exact q _ H (Pin.set hP) (S.put hi)
  · rw [if_neg hi] at q; exact q.elim
def tgs0 : List D → M Unit := fun ds => match ds with
  | [] => pur ()
  | _ :: _ => fun _ => .stuck
def tgsC (t : D → M Unit) (u : List D → M Unit) : List D → M Unit := fun ds => match ds with
  | [] => fun _ => .stuck
  | d :: r => bnd (t d) fun _ => u r
theorem egs_nil : EGs X c W P [] tgs0 := pgs_mono pgs_nil fun vs σ H Q ⟨ds, ρ, τ, l, S, q⟩ => by
  cases ds with
  | nil =>
    cases vs with
    | nil => exact ⟨rfl, q σ H (Pin.refl _ _) S⟩
    | cons _ _ => simp at l
  | cons _ _ => exact q.elim
theorem egs_cons {e : Expr} {es : List Expr} {t : D → M Unit} {u : List D → M Unit} (h1 : EG X c W P e t) (h2 : EGs X c W P es u)
    (hs : (assignEach (e :: es) X.env).map (·.2) = assign e X.env :: (assignEach es X.env).map (·.2) := by rfl) : EGs X c W P (e :: es) (tgsC t u) := pgs_mono (pgs_cons h1 h2 hs) fun vs σ H Q ⟨ds, ρ, τ, l, S, q⟩ => by
  cases ds with
  | nil => exact q.elim
  | cons d r =>
    cases vs with
    | nil => simp at l
    | cons v vr =>
      refine ⟨v, vr, rfl, d, ρ, vr.zip r ++ τ, S, ?_⟩
      have q' : wG X.K c W P σ τ Q (bnd (t d) (fun _ => u r) ρ) := q
      unfold bnd at q'
      split at q'
      · rename_i a ρ1 e1
        rw [e1]
        exact fun σ1 H1 p1 S1 => ⟨r, ρ1, τ, by simpa using l, S1, wG_pin p1 q'⟩
      · rename_i x ρ1 e1
        rw [e1]
        exact fun σ1 H1 p1 S1 => q' σ1 H1 p1 S1.dropN
      · exact q'.elim
/-- the children of a frozen tuple, list -/
theorem Sta.items {K : PySem.W.Frag} {σ : L2.St} {H : Hp} {ρ : Env} {τ : List (V × D)} {a : V} {cn : Con} {ds : List D} (S : Sta K c H σ ρ ((a, .nd cn ds) :: τ)) : ∃ b vs, a = .ref b ∧ vs.length = ds.length ∧ (cn.Fz K H b vs ∨ cn.Ow H b vs) ∧ Sta K c H σ ρ (vs.zip (ds.map D.frz) ++ τ) := by
  have S2 := S.frz
  rw [frz_nd] at S2
  obtain ⟨G0, _, sub0, x0⟩ := S.hd
  obtain ⟨G, f1, f2, sub, tmp, own, nd, g0, k0, n0, gn⟩ := S2
  cases tmp with
  | @cons _ _ f _ g x t =>
    have ex := own_frz_nil (.nd cn ds) (by rw [frz_nd]; exact x)
    subst ex
    cases x with
    | @fz b _ vs _ _ z l =>
      have hc : cn.Fz K H b vs ∨ cn.Ow H b vs := by
        cases x0 with
        | fz z0 _ =>
          left
          cases cn with
          | tup => exact sub _ _ z
          | lst o => exact ⟨z0.1, same_rd sub z.2⟩
          | dic o ks => exact ⟨z0.1, z.2.1, same_rd sub z.2.2⟩
          | dit o ks => exact ⟨z0.1, z.2.1, same_rd sub z.2.2⟩
          | scr => exact same_l sub z
        | ow z0 _ _ =>
          cases cn with
          | tup => exact z0.elim
          | lst o =>
            rcases same_rd sub z.2 with h | ⟨_, h⟩
            · exact .inr ⟨z0.1, h⟩
            · rw [z0.2] at h; cases h
          | dic o ks =>
            rcases same_rd sub z.2.2 with h | ⟨_, h⟩
            · exact .inr ⟨z0.1, z.2.1, h⟩
            · rw [z0.2.2] at h; cases h
          | dit o ks =>
            rcases same_rd sub z.2.2 with h | ⟨_, h⟩
            · exact .inr ⟨z0.1, z.2.1, h⟩
            · rw [z0.2.2] at h; cases h
          | scr => exact z0.elim
      refine ⟨b, vs, rfl, by rw [l.length, List.length_map], hc, G, [] ++ g, f2, sub, OwnT.unzip l t, own, nd, g0, k0, n0, gn⟩
def tgT (n : Nat) (t : List D → M Unit) : D → M Unit := fun d => match d with
  | .nd .tup ds => if ds.length = n then t (ds.map D.frz) else fun _ => .stuck
  | _ => fun _ => .stuck
theorem eg_tup {es : List Expr} {k n : Nat} {t : List D → M Unit} (hc : X.calm = true) (h : EGs X c W P es t)
    (hn : (assignEach es X.env).length = n := by rfl) (hst : (assignEach es X.env).findIdx? (·.1) = none := by rfl) : EG X c W P (.Tuple es k pos) (tgT n t) := pg_mono (pg_tup hc h hn hst) fun v σ H Q ⟨d, ρ, τ, S, q⟩ => by
  unfold tgT at q
  split at q
  · rename_i ds
    by_cases hl : ds.length = n
    · rw [if_pos hl] at q
      obtain ⟨b, vs, e, l, hf, S2⟩ := S.items
      have ht : H b = some (.tup vs) := by
        rcases hf with hf | hf
        · exact hf
        · exact hf.elim
      exact ⟨b, vs, e, .inl (.inl ht), l.trans hl, ds.map D.frz, ρ, τ, by rw [List.length_map]; exact l, S2, q⟩
    · rw [if_neg hl] at q; exact q.elim
  · exact q.elim

/-! ### statements -/
def mSeq (a b : M Fl) : M Fl := fun ρ => match a ρ with
  | .ok .nx ρ' => b ρ'
  | r => r
theorem sl_nil : SL X c W P [] (pur .nx) := pss_mono pss_nil fun Dn σ H ⟨ρ, τ, S, q⟩ => q σ H (Pin.refl _ _) S
theorem sl_cons {st : Stmt} {rest : List Stmt} {a b : M Fl} (h1 : SS X c W P st a) (h2 : SL X c W P rest b) : SL X c W P (st :: rest) (mSeq a b) := pss_mono (pss_cons h1 h2) fun Dn σ H ⟨ρ, τ, S, q⟩ => by
  refine ⟨ρ, τ, S, ?_⟩
  unfold mSeq at q
  split at q
  · rename_i ρ' e
    rw [e]
    exact fun σ1 H1 p1 S1 => ⟨ρ', τ, S1, wS_pin p1 q⟩
  · rename_i hn
    cases e : a ρ with
    | ok f ρ' =>
      rw [e] at q
      cases f with
      | nx => exact (hn ρ' e).elim
      | rt d => exact q
      | bk => exact q
      | ct => exact q
    | err x ρ' => rw [e] at q; exact q
    | stuck => rw [e] at q; exact q
theorem sl_one {st : Stmt} {a : M Fl} (h1 : SS X c W P st a) : SL X c W P [st] a := pss_mono (pss_one h1) fun Dn σ H h => h
theorem ss_pass : SS X c W P (.Pass pos) (pur .nx) := ps_mono ps_pass fun Dn σ H ⟨ρ, τ, S, q⟩ => q σ H (Pin.refl _ _) S
theorem ss_break : SS X c W P (.Break pos) (pur .bk) := ps_mono ps_break fun Dn σ H ⟨ρ, τ, S, q⟩ => q σ H (Pin.refl _ _) S
theorem ss_continue : SS X c W P (.Continue pos) (pur .ct) := ps_mono ps_continue fun Dn σ H ⟨ρ, τ, S, q⟩ => q σ H (Pin.refl _ _) S
theorem rdS_err {Dn : Ends} {σ : L2.St} {τ τ' : List (V × D)} {H : Hp} : ∀ e ρ', wS X.K c W P Dn σ τ (.err e ρ') → ∀ H', Sta X.K c H' σ ρ' (τ' ++ τ) → W e σ H' := fun e ρ' h H' S' => h σ H' (Pin.refl _ _) S'.dropN
def mExp (m : M D) : M Fl := bnd m fun _ => pur .nx
theorem ss_expr {e : Expr} {m : M D} (he : EE X c W false e m) (hs : swapsWith e none pos.line X.env = pure false := by rfl) : SS X c W P (.Expr e pos) (mExp m) := ps_mono (ps_expr he hs) fun Dn σ H ⟨ρ, τ, S, q⟩ =>
  rdE_of S q (fun e ρ' h H' S' => h σ H' (Pin.refl _ _) S') (fun h => h) fun d ρ1 v H1 s S1 q1 => q1 σ H1 (Pin.refl _ _) S1.drop
def mRet (m : M D) : M Fl := bnd m fun d => pur (.rt d)
theorem ss_ret {e : Expr} {m : M D} (he : EE X c W false e m) : SS X c W P (.Return (some e) pos) (mRet m) := ps_mono (ps_ret he) fun Dn σ H ⟨ρ, τ, S, q⟩ =>
  rdE_of S q (fun e ρ' h H' S' => h σ H' (Pin.refl _ _) S') (fun h => h) fun d ρ1 v H1 s S1 q1 => q1 v σ H1 (Pin.refl _ _) S1
theorem ss_retN : SS X c W P (.Return none pos) (pur (.rt .non)) := ps_mono ps_retN fun Dn σ H ⟨ρ, τ, S, q⟩ => q .non σ H (Pin.refl _ _) S.non
def mIf (t : M Bool) (a b : M Fl) : M Fl := bnd t fun x => if x = true then a else b
theorem ss_if {t : Expr} {a b : List Stmt} {mt : M Bool} {ma mb : M Fl} (ht : ET X c W false t mt) (ha : SL X c W P a ma) (hb : SL X c W P b mb) : SS X c W P (.If t a b pos) (mIf mt ma mb) := ps_mono (ps_if ht ha hb) fun Dn σ H ⟨ρ, τ, S, q⟩ =>
  rdT_of S q (fun e ρ' h H' S' => h σ H' (Pin.refl _ _) S') (fun h => h) fun b ρ1 H1 s S1 q1 => by
    cases b with
    | true => exact ⟨ρ1, τ, S1, q1⟩
    | false => exact ⟨ρ1, τ, S1, q1⟩
/-- target = value -/
def mAsg (tg : D → M Unit) (m : M D) : M Fl := bnd m fun d => bnd (tg d) fun _ => pur .nx
theorem wS_asg {Dn : Ends} {σ : L2.St} {τ : List (V × D)} {r : R Env Unit} {ρ0 : Env} {tg : M Unit} (e : tg ρ0 = r) (h : wS X.K c W P Dn σ τ (bnd tg (fun _ => pur .nx) ρ0)) : wG X.K c W P σ τ Dn.nx r := by
  subst e
  unfold bnd at h
  split at h
  · rename_i a ρ1 e1
    rw [e1]
    exact fun σ1 H1 p1 S1 => h σ1 H1 p1 S1
  · rename_i x ρ1 e1
    rw [e1]
    exact h
  · exact h.elim
theorem rd_asg {te : TE} {g : TG} {tg : D → M Unit} {m : M D} {Dn : Ends} {σ : L2.St} {H : Hp} (h : rdS X.K c W P (mAsg tg m) Dn σ H) : tAsg (rdE X.K c W false m) (rdG X.K c W P tg) Dn σ H := by
  obtain ⟨ρ, τ, S, q⟩ := h
  exact rdE_of S q (fun e ρ' h H' S' => h σ H' (Pin.refl _ _) S') (fun h => h) fun d ρ1 v H1 s S1 q1 => ⟨d, ρ1, τ, S1, wS_asg rfl q1⟩
theorem ss_asg {tg e : Expr} {m : M D} {t : D → M Unit} (he : EE X c W false e m) (hg : EG X c W P tg t) (hs : swapsWithSole [tg] e pos.line X.env = pure false := by rfl) (hw : swappedStores [tg] e X.env = pure none := by rfl)
    (h1 : (assignEach [tg] X.env).map (·.2) = [assign tg X.env] := by rfl) : SS X c W P (.Assign [tg] e pos) (mAsg t m) := ps_mono (ps_asg he hg hs hw h1) fun Dn σ H h => rd_asg (te := rdE X.K c W false m) (g := rdG X.K c W P t) h
theorem ss_set {i : Nat} {x : Str} {e : Expr} {m : M D} {pos' : Pos} (hP : i ∉ P) (hN : X.N.Nodup) (hi : X.N[i]? = some x) (hx : Loc X.env.scope x) (he : EE X c W false e m) (hs : swapsWith e (some (.Name x pos')) pos.line X.env = pure false := by rfl)
    (hf : X.fn x = true ∨ X.env.scope.names.lookup x = some .local := by first | exact .inl rfl | exact .inr rfl | assumption) : SS X c W P (.Assign [.Name x pos'] e pos) (mAsg (tgN i) m) :=
  ps_mono (ps_set hN hi hx he hs hf) fun Dn σ H h => by
    obtain ⟨ρ, τ, S, q⟩ := h
    refine rdE_of S q (fun e ρ' h H' S' => h σ H' (Pin.refl _ _) S') (fun h => h) fun d ρ1 v H1 s S1 q1 => ?_
    unfold tgN bnd at q1
    dsimp only at q1
    by_cases hl : i < ρ1.length
    · rw [if_pos hl] at q1
      exact q1 _ H1 (Pin.set hP) (S1.put hl)
    · rw [if_neg hl] at q1; exact q1.elim

/-! ### loops -/
def mLoop (tg : D → M Unit) (body : M Fl) : List D → M Fl
  | [] => pur .nx
  | d :: ds => fun ρ => match tg d ρ with
    | .ok _ ρ1 => (match body ρ1 with
      | .ok .nx ρ2 => mLoop tg body ds ρ2
      | .ok .ct ρ2 => mLoop tg body ds ρ2
      | .ok .bk ρ2 => .ok .nx ρ2
      | r => r)
    | .err e ρ1 => .err e ρ1
    | .stuck => .stuck
def mFor (mi : M (List D)) (tg : D → M Unit) (body : M Fl) : M Fl := bnd mi fun ds => mLoop tg body ds
theorem ss_for {tg iter : Expr} {body : List Stmt} {mi : M (List D)} {t : D → M Unit} {mb : M Fl} (hp : PassesOwn (model X.prog X.w) X.A X.env X.xe) (hc : X.calm = true) (hi : EI X c W tg iter mi) (hg : EG X c W P tg t) (hb : SL X c W P body mb)
    (hs : ∀ x, foldedSetIterable iter X.env x = pure x := by intro _; rfl) : SS X c W P (.For tg iter body [] pos) (mFor mi t mb) := ps_mono (ps_for hp hc hi hg hb hs) fun Dn σ0 H0 ⟨ρ0, τ, S0, q0⟩ => by
  refine ⟨ρ0, τ, S0, ?_⟩
  unfold mFor bnd at q0
  split at q0
  · rename_i ds ρ1 e1
    rw [e1]
    refine fun J τ' H1 S1 jw => ⟨fun i m σ H => m = ds.length - i ∧ i ≤ ds.length ∧ ∃ ρ, Sta X.K c H σ ρ (τ' ++ τ) ∧ wS X.K c W P Dn σ (τ' ++ τ) (mLoop t mb (ds.drop i) ρ), ⟨ds.length, by simp, Nat.zero_le _, ρ1, S1, by rw [List.drop_zero]; exact wS_more q0⟩, ?_⟩
    rintro i m σ H ⟨rfl, hi, ρ, S, q⟩
    obtain ⟨j1, j2, j3⟩ := jw H σ ρ τ S
    by_cases hlt : i < ds.length
    · right
      have ed : ds[i]? = some ds[i] := by simp [hlt]
      rw [List.drop_eq_getElem_cons hlt] at q
      refine ⟨j1 i hlt, fun σ' H' => ∃ ρ', Sta X.K c H' σ' ρ' (τ' ++ τ) ∧ wS X.K c W P Dn σ' (τ' ++ τ) (mLoop t mb (ds.drop (i + 1)) ρ'), fun σ' H' ⟨ρ', S', q'⟩ => ⟨ds.length - (i + 1), by omega, rfl, hlt, ρ', S', q'⟩, fun x H' y => ?_⟩
      have S2 := j3 i x H' _ ed y
      refine ⟨_, ρ, τ' ++ τ, S2, ?_⟩
      unfold mLoop at q
      split at q
      · rename_i a ρ2 e2
        rw [e2]
        refine fun σ2 H2 p2 S3 => ⟨ρ2, τ' ++ τ, S3, ?_⟩
        split at q
        · rename_i ρ3 e3
          rw [e3]
          exact fun σ3 H3 p3 S4 => ⟨ρ3, S4, wS_pin (p2.trans p3) q⟩
        · rename_i ρ3 e3
          rw [e3]
          exact fun σ3 H3 p3 S4 => ⟨ρ3, S4, wS_pin (p2.trans p3) q⟩
        · rename_i ρ3 e3
          rw [e3]
          exact fun σ3 H3 p3 S4 => q σ3 H3 (p2.trans p3) S4
        · rename_i r n1 n2 n3
          cases e3 : mb ρ2 with
          | ok f ρ3 =>
            rw [e3] at q
            cases f with
            | nx => exact (n1 ρ3 e3).elim
            | ct => exact (n2 ρ3 e3).elim
            | bk => exact (n3 ρ3 e3).elim
            | rt d => exact fun v σ3 H3 p3 S4 => q v σ3 H3 (p2.trans p3) S4
          | err x ρ3 => rw [e3] at q; exact fun σ3 H3 p3 S4 => q σ3 H3 (p2.trans p3) S4
          | stuck => rw [e3] at q; exact q
      · rename_i x ρ2 e2
        rw [e2]
        exact fun σ2 H2 p2 S3 => q σ2 H2 p2 S3
      · exact q.elim
    · left
      have e : i = ds.length := by omega
      subst e
      rw [List.drop_length] at q
      exact ⟨j2, q σ H (Pin.refl _ _) S⟩
  · rename_i x ρ1 e1
    rw [e1]
    exact fun H' S' => q0 σ0 H' (Pin.refl _ _) S'
  · exact q0.elim
/-- while, at most n turns -/
def mWhile (t : M Bool) (body : M Fl) : Nat → M Fl
  | 0 => fun _ => .stuck
  | n + 1 => bnd t fun b => if b = true then (fun ρ => match body ρ with
      | .ok .nx ρ2 => mWhile t body n ρ2
      | .ok .ct ρ2 => mWhile t body n ρ2
      | .ok .bk ρ2 => .ok .nx ρ2
      | r => r) else pur .nx
theorem ss_while {t : Expr} {body : List Stmt} {mt : M Bool} {mb : M Fl} (n : Nat) (hp : PassesOwn (model X.prog X.w) X.A X.env X.xe) (ht : ET X c W false t mt) (hb : SL X c W P body mb) : SS X c W P (.While t body [] pos) (mWhile mt mb n) := ps_mono (ps_while hp ht hb) fun Dn σ0 H0 ⟨ρ0, τ, S0, q0⟩ => by
  refine ⟨fun m σ H => ∃ ρ, Sta X.K c H σ ρ τ ∧ wS X.K c W P Dn σ τ (mWhile mt mb m ρ), ⟨n, ρ0, S0, q0⟩, ?_⟩
  rintro m σ H ⟨ρ, S, q⟩
  cases m with
  | zero => exact q.elim
  | succ m =>
    refine rdT_of S q (fun e ρ' h H' S' => h σ H' (Pin.refl _ _) S') (fun h => h) fun b ρ1 H1 s S1 q1 => ?_
    cases b with
    | false => exact q1 σ H1 (Pin.refl _ _) S1
    | true =>
      rw [if_pos rfl] at q1 ⊢
      refine ⟨fun σ' H' => ∃ ρ', Sta X.K c H' σ' ρ' τ ∧ wS X.K c W P Dn σ' τ (mWhile mt mb m ρ'), fun σ' H' h => ⟨m, Nat.lt_succ_self _, h⟩, ρ1, τ, S1, ?_⟩
      split at q1
      · rename_i ρ3 e3
        rw [e3]
        exact fun σ3 H3 p3 S4 => ⟨ρ3, S4, wS_pin p3 q1⟩
      · rename_i ρ3 e3
        rw [e3]
        exact fun σ3 H3 p3 S4 => ⟨ρ3, S4, wS_pin p3 q1⟩
      · rename_i ρ3 e3
        rw [e3]
        exact fun σ3 H3 p3 S4 => q1 σ3 H3 p3 S4
      · rename_i r n1 n2 n3
        cases e3 : mb ρ1 with
        | ok f ρ3 =>
          rw [e3] at q1
          cases f with
          | nx => exact (n1 ρ3 e3).elim
          | ct => exact (n2 ρ3 e3).elim
          | bk => exact (n3 ρ3 e3).elim
          | rt d => exact q1
        | err x ρ3 => rw [e3] at q1; exact q1
        | stuck => rw [e3] at q1; exact q1
end
end DL
/-! DLf: calls of defs, what a def promises, argument lists, what is walked, tests. -/
namespace DL
open PySem PySem.Spec L2

/-! ### what a def promises -/
structure Did (G H : Hp) (f : List Addr) (G' H' : Hp) (f' : List Addr) : Prop where
  gg : Same G G'
  sub : Same G' H'
  keep : ∀ b o, H b = some o → b ∉ f → H' b = some o
  new : ∀ b, b ∈ f' → b ∈ f ∨ H b = none
  gn : ∀ b o, G' b = some o → G b = some o ∨ b ∈ f ∨ H b = none
  nd : f'.Nodup
/-- the parameters that are changed (true), the others are frozen -/
def Fzn : List Bool → List D → Prop
  | [], [] => True
  | b :: bs, d :: ds => (b = true ∨ d.frz = d) ∧ Fzn bs ds
  | _, _ => False
/-- a class's value by name -/
abbrev CV := Str → Value
def spM (K : PySem.W.Frag) (cv : CV) (P : List Bool) (mf : List D → R (List D) D) : Sp := fun vs H Q E => ∃ G ds f, Same G H ∧ OwnL K G H vs ds f ∧ f.Nodup ∧ Fzn P ds ∧ match mf ds with
  | .ok d ds' => ∀ v G' H' fv fa, Did G H f G' H' (fv ++ fa) → Own K G' H' v d fv → OwnL K G' H' vs ds' fa → Q v H'
  | .err e ds' => ∀ G' H' fa, Did G H f G' H' fa → OwnL K G' H' vs ds' fa → E (cv e.c) none H'
  | .stuck => False
theorem Fzn.len : ∀ {P : List Bool} {ds : List D}, Fzn P ds → ds.length = P.length
  | [], [], _ => rfl
  | _ :: _, _ :: _, h => by simp [Fzn.len h.2]
  | [], _ :: _, h => h.elim
  | _ :: _, [], h => h.elim
theorem spM_len {K : PySem.W.Frag} {cv : CV} {P : List Bool} {mf : List D → R (List D) D} {vs : List V} {H : Hp} {Q : VK} {E : XK} (h : spM K cv P mf vs H Q E) : vs.length = P.length := by
  obtain ⟨G, ds, f, _, o, _, z, _⟩ := h
  rw [o.length, z.len]

/-! ### arguments: a temporary, or a slot that the callee may change -/
inductive Arg where
  | tm (d : D)
  | sl (i : Nat)
def tmps : List V → List Arg → List (V × D)
  | v :: vs, .tm d :: as => (v, d.frz) :: tmps vs as
  | _ :: vs, .sl _ :: as => tmps vs as
  | _, _ => []
def slsOk (σ : L2.St) : List V → List Arg → Prop
  | v :: vs, .tm _ :: as => slsOk σ vs as
  | v :: vs, .sl i :: as => σ[i]? = some (some v) ∧ slsOk σ vs as
  | [], [] => True
  | _, _ => False
def pull : List Arg → Env → Option (List D × Env)
  | [], ρ => some ([], ρ)
  | .tm d :: as, ρ => (pull as ρ).map fun q => (d.frz :: q.1, q.2)
  | .sl i :: as, ρ => match ρ[i]? with
    | some (some d) => (pull as (ρ.set i none)).map fun q => (d :: q.1, q.2)
    | _ => none
def pushb : List Arg → List D → Env → Env
  | .sl i :: as, d :: ds, ρ => (pushb as ds ρ).set i (some d)
  | .tm _ :: as, _ :: ds, ρ => pushb as ds ρ
  | _, _, ρ => ρ
def argB : List Arg → List Bool
  | [] => []
  | .tm _ :: as => false :: argB as
  | .sl _ :: as => true :: argB as
section
variable {K : PySem.W.Frag} {c : C0} {σ : L2.St} {H : Hp}
theorem perm_mid {α : Type} (a : α) (l m : List α) : (a :: (l ++ m)).Perm (l ++ a :: m) := List.perm_middle.symm
theorem Sta.pull : ∀ {as : List Arg} {vs : List V} {ρ ρ' : Env} {τ : List (V × D)} {ds : List D}, slsOk σ vs as → DL.pull as ρ = some (ds, ρ') → Sta K c H σ ρ (tmps vs as ++ τ) → vs.length = ds.length ∧ Sta K c H σ ρ' (vs.zip ds ++ τ) ∧ Fzn (argB as) ds
  | [], [], ρ, ρ', τ, ds, _, e, S => by cases e; exact ⟨rfl, S, True.intro⟩
  | .tm d :: as, v :: vs, ρ, ρ', τ, ds, h, e, S => by
    unfold DL.pull at e
    cases q : DL.pull as ρ with
    | none => rw [q] at e; cases e
    | some r =>
      rw [q] at e
      obtain ⟨es, ρ2⟩ := r
      cases e
      have S1 : Sta K c H σ ρ (tmps vs as ++ (v, d.frz) :: τ) := S.perm (perm_mid _ _ _)
      obtain ⟨h1, h2, h3⟩ := Sta.pull (as := as) (vs := vs) h q S1
      exact ⟨by simp [h1], h2.perm (perm_mid _ _ _).symm, .inr (frz_frz d), h3⟩
  | .sl i :: as, v :: vs, ρ, ρ', τ, ds, h, e, S => by
    unfold DL.pull at e
    split at e
    · rename_i d ed
      cases q : DL.pull as (ρ.set i none) with
      | none => rw [q] at e; cases e
      | some r =>
        rw [q] at e
        obtain ⟨es, ρ2⟩ := r
        cases e
        obtain ⟨v', k1, k2⟩ := S.out ed
        rw [h.1] at k1; cases k1
        have S1 : Sta K c H σ (ρ.set i none) (tmps vs as ++ (v, d) :: τ) := k2.perm (perm_mid _ _ _)
        obtain ⟨h1, h2, h3⟩ := Sta.pull (as := as) (vs := vs) h.2 q S1
        exact ⟨by simp [h1], h2.perm (perm_mid _ _ _).symm, .inl rfl, h3⟩
    · cases e
  | [], _ :: _, _, _, _, _, h, _, _ => h.elim
  | .tm _ :: _, [], _, _, _, _, h, _, _ => h.elim
  | .sl _ :: _, [], _, _, _, _, h, _, _ => h.elim
theorem pull_open : ∀ {as : List Arg} {ρ ρ' : Env} {ds : List D}, DL.pull as ρ = some (ds, ρ') → (∀ i : Nat, ρ[i]? = some none → ρ'[i]? = some none) ∧ ρ'.length = ρ.length
  | [], ρ, ρ', ds, e => by cases e; exact ⟨fun _ h => h, rfl⟩
  | .tm d :: as, ρ, ρ', ds, e => by
    unfold DL.pull at e
    cases q : DL.pull as ρ with
    | none => rw [q] at e; cases e
    | some r => rw [q] at e; cases e; exact pull_open q
  | .sl i :: as, ρ, ρ', ds, e => by
    unfold DL.pull at e
    split at e
    · rename_i d ed
      cases q : DL.pull as (ρ.set i none) with
      | none => rw [q] at e; cases e
      | some r =>
        rw [q] at e; cases e
        obtain ⟨h1, h2⟩ := pull_open q
        refine ⟨fun j hj => h1 j ?_, by rw [h2, List.length_set]⟩
        by_cases e : j = i
        · subst e
          have := (List.getElem?_eq_some_iff.mp hj).1
          simp [this]
        · rw [List.getElem?_set_ne (Ne.symm e)]; exact hj
    · cases e
theorem pushb_open {i : Nat} : ∀ {as : List Arg} {ds es : List D} {ρ ρ' : Env}, DL.pull as ρ = some (ds, ρ') → ρ[i]? = some none → (DL.pushb as es ρ')[i]? = some none := by
  intro as
  induction as with
  | nil => intro ds es ρ ρ' e h; cases e; unfold DL.pushb; exact h
  | cons x as ih =>
    intro ds es ρ ρ' e h
    cases x with
    | tm d =>
      unfold DL.pull at e
      cases q : DL.pull as ρ with
      | none => rw [q] at e; cases e
      | some r =>
        rw [q] at e; cases e
        cases es with
        | nil => unfold DL.pushb; exact (pull_open q).1 i h
        | cons y ys => unfold DL.pushb; exact ih q h
    | sl j =>
      unfold DL.pull at e
      split at e
      · rename_i d ed
        cases q : DL.pull as (ρ.set j none) with
        | none => rw [q] at e; cases e
        | some r =>
          rw [q] at e; cases e
          have nj : j ≠ i := fun z => by
            rw [z, h] at ed; cases ed
          have h' : (ρ.set j none)[i]? = some none := by rw [List.getElem?_set_ne nj]; exact h
          cases es with
          | nil => unfold DL.pushb; exact (pull_open q).1 i h'
          | cons y ys =>
            unfold DL.pushb
            rw [List.getElem?_set_ne nj]
            exact ih q h'
      · cases e
theorem pushb_length : ∀ {as : List Arg} {ds : List D} {ρ : Env}, (pushb as ds ρ).length = ρ.length
  | [], _, _ => by unfold pushb; rfl
  | .tm _ :: as, [], _ => by unfold pushb; rfl
  | .sl _ :: as, [], _ => by unfold pushb; rfl
  | .tm _ :: as, _ :: ds, ρ => by unfold pushb; exact pushb_length
  | .sl _ :: as, _ :: ds, ρ => by unfold pushb; rw [List.length_set]; exact pushb_length
theorem Sta.pushb : ∀ {as : List Arg} {vs : List V} {ρ ρ' : Env} {τ : List (V × D)} {ds es : List D}, slsOk σ vs as → DL.pull as ρ = some (ds, ρ') → vs.length = es.length → Sta K c H σ ρ' (vs.zip es ++ τ) → Sta K c H σ (DL.pushb as es ρ') τ
  | [], [], ρ, ρ', τ, ds, es, _, e, l, S => by cases es with
    | nil => exact S
    | cons _ _ => simp at l
  | .tm d :: as, v :: vs, ρ, ρ', τ, ds, e :: es, h, q0, l, S => by
    unfold DL.pull at q0
    cases q : DL.pull as ρ with
    | none => rw [q] at q0; cases q0
    | some r =>
      rw [q] at q0; cases q0
      exact Sta.pushb (as := as) (vs := vs) (es := es) h q (by simpa using l) S.drop
  | .sl i :: as, v :: vs, ρ, ρ', τ, ds, e :: es, h, q0, l, S => by
    unfold DL.pull at q0
    split at q0
    · rename_i d ed
      cases q : DL.pull as (ρ.set i none) with
      | none => rw [q] at q0; cases q0
      | some r =>
        rw [q] at q0; cases q0
        have hi : i < ρ.length := (List.getElem?_eq_some_iff.mp ed).1
        have S1 : Sta K c H σ r.2 (vs.zip es ++ (v, e) :: τ) := S.perm (perm_mid _ _ _)
        have S2 := Sta.pushb (as := as) (vs := vs) (es := es) h.2 q (by simpa using l) S1
        have S3 := S2.back (i := i) (pushb_open q (by simp [hi])) h.1
        exact S3
    · cases q0
  | .tm _ :: _, _ :: _, _, _, _, _, [], _, _, l, _ => by simp at l
  | .sl _ :: _, _ :: _, _, _, _, _, [], _, _, l, _ => by simp at l
  | [], _ :: _, _, _, _, _, _, h, _, _, _ => h.elim
  | .tm _ :: _, [], _, _, _, _, _, h, _, _, _ => h.elim
  | .sl _ :: _, [], _, _, _, _, _, h, _, _, _ => h.elim
/-- behind a call -/
theorem Sta.called {G : Hp} {ρ : Env} {τ : List (V × D)} {vs : List V} {ds ds' : List D} {v : Option (V × D)} {fa ft f2 : List Addr} (sub : Same G H) (l : OwnL K G H vs ds fa) (t : OwnT K G H τ ft) (own : OwnS K G H σ ρ f2) (nd : ((fa ++ ft) ++ f2).Nodup) (g0 : Same c.G G)
    (k0 : ∀ b o, c.H b = some o → b ∉ c.f → H b = some o) (n0 : ∀ b, b ∈ (fa ++ ft) ++ f2 → b ∈ c.f ∨ c.H b = none) (gn : ∀ b o, G b = some o → c.G b = some o ∨ b ∈ c.f ∨ c.H b = none)
    {G' H' : Hp} {fv fb : List Addr} (did : Did G H fa G' H' (fv ++ fb)) (hv : OwnT K G' H' v.toList fv) (hl : OwnL K G' H' vs ds' fb) : Sta K c H' σ ρ (v.toList ++ (vs.zip ds' ++ τ)) := by
  have dis : ∀ b, b ∈ ft ++ f2 → b ∉ fa := fun b hb ha => by
    rw [List.append_assoc] at nd
    exact (List.nodup_append.mp nd).2.2 b ha b hb rfl
  have fp : ∀ b, b ∈ ft ++ f2 → G b = none ∧ ∃ o, H b = some o := fun b hb => by
    rcases List.mem_append.mp hb with h | h
    · exact t.fp b h
    · exact own.fp b h
  have kp : ∀ b, b ∈ ft ++ f2 → ∀ o, H b = some o → H' b = some o := fun b hb o e => did.keep b o e (dis b hb)
  have gp : ∀ b, b ∈ ft ++ f2 → G' b = none := fun b hb => by
    cases q : G' b with
    | none => rfl
    | some o =>
      obtain ⟨g, o', e⟩ := fp b hb
      rcases did.gn b o q with h | h | h
      · rw [g] at h; cases h
      · exact (dis b hb h).elim
      · rw [h] at e; cases e
  have hz : OwnT K G' H' (v.toList ++ (vs.zip ds' ++ τ)) (fv ++ (fb ++ ft)) := by
    have h1 := OwnT.unzip hl (t.mono did.gg (fun b hb => kp b (List.mem_append_left _ hb)) fun b hb => gp b (List.mem_append_left _ hb))
    cases v with
    | none =>
      have hv' : OwnT K G' H' [] fv := hv
      cases hv'
      exact h1
    | some p =>
      have hv' : OwnT K G' H' [p] fv := hv
      cases hv' with
      | cons a b =>
        cases b
        rw [List.append_nil]
        exact .cons a h1
  have disn : ∀ b, b ∈ fv ++ fb → b ∉ ft ++ f2 := fun b hb ht => by
    rcases did.new b hb with h | h
    · exact dis b ht h
    · obtain ⟨_, o, e⟩ := fp b ht
      rw [h] at e; cases e
  refine ⟨G', fv ++ (fb ++ ft), f2, did.sub, hz, own.mono did.gg (fun b hb => kp b (List.mem_append_right _ hb)) fun b hb => gp b (List.mem_append_right _ hb), ?_, same_trans g0 did.gg, fun b o e nb => ?_, fun b hb => ?_, fun b o e => ?_⟩
  · have e : (fv ++ (fb ++ ft)) ++ f2 = (fv ++ fb) ++ (ft ++ f2) := by simp
    rw [e]
    refine List.nodup_append.mpr ⟨did.nd, ?_, fun a ha b hb e => disn a ha (e ▸ hb)⟩
    rw [List.append_assoc] at nd
    exact (List.nodup_append.mp nd).2.1
  · refine did.keep b o (k0 b o e nb) fun hb => ?_
    rcases n0 b (List.mem_append_left _ (List.mem_append_left _ hb)) with h | h
    · exact nb h
    · rw [h] at e; cases e
  · have e : (fv ++ (fb ++ ft)) ++ f2 = (fv ++ fb) ++ (ft ++ f2) := by simp
    rw [e] at hb
    rcases List.mem_append.mp hb with h | h
    · rcases did.new b h with h | h
      · exact n0 b (List.mem_append_left _ (List.mem_append_left _ h))
      · by_cases hc : b ∈ c.f
        · exact .inl hc
        · right
          cases q : c.H b with
          | none => rfl
          | some o => rw [k0 b o q hc] at h; cases h
    · exact n0 b (by rw [List.append_assoc]; exact List.mem_append_right _ h)
  · rcases did.gn b o e with h | h | h
    · exact gn b o h
    · exact .inr (n0 b (List.mem_append_left _ (List.mem_append_left _ h)))
    · by_cases hc : b ∈ c.f
      · exact .inr (.inl hc)
      · right; right
        cases q : c.H b with
        | none => rfl
        | some o => rw [k0 b o q hc] at h; cases h
end

/-! ### argument lists -/
section
variable (K : PySem.W.Frag) (c : C0) (W : WW) (p : Bool)
def wR (σ : L2.St) (H : Hp) (τ : List (V × D)) (Q : List V → Hp → Prop) : R Env (List Arg) → Prop
  | .ok as ρ' => ∀ vs H', (p = true → Same H H') → slsOk σ vs as → Sta K c H' σ ρ' (tmps vs as ++ τ) → Q vs H'
  | .err e ρ' => ∀ H', Sta K c H' σ ρ' τ → W e σ H'
  | .stuck => False
def rdR (m : M (List Arg)) : TA := fun σ H Q => ∃ ρ τ, Sta K c H σ ρ τ ∧ wR K c W p σ H τ Q (m ρ)
end
def ER (X : Cx) (c : C0) (W : WW) (p : Bool) (es : List Expr) (m : M (List Arg)) : Prop := PA X es (rdR X.K c W p m)
section
variable {X : Cx} {c : C0} {W : WW} {p : Bool}
theorem rdR_of {K : PySem.W.Frag} {σ : L2.St} {H : Hp} {ρ : Env} {τ : List (V × D)} {β : Type} {m : M (List Arg)} {k : List Arg → M β} {Out : R Env β → Prop} {Q : List V → Hp → Prop} (S : Sta K c H σ ρ τ) (h : Out (bnd m k ρ)) (he : ∀ e ρ', Out (.err e ρ') → ∀ H', Sta K c H' σ ρ' τ → W e σ H') (hs : ¬ Out .stuck)
    (go : ∀ as ρ1 vs H1, (p = true → Same H H1) → slsOk σ vs as → Sta K c H1 σ ρ1 (tmps vs as ++ τ) → Out (k as ρ1) → Q vs H1) : rdR K c W p m σ H Q := by
  refine ⟨ρ, τ, S, ?_⟩
  unfold bnd at h
  cases e : m ρ with
  | ok d ρ1 =>
    rw [e] at h
    exact fun v H1 q l S1 => go d ρ1 v H1 q l S1 h
  | err x ρ1 =>
    rw [e] at h
    exact fun H' S' => he _ _ h H' S'
  | stuck =>
    rw [e] at h
    exact (hs h).elim
theorem er_nil : ER X c W p [] (pur []) := pa_mono pa_nil fun σ H Q ⟨ρ, τ, S, q⟩ => q [] H (fun _ => same_refl H) True.intro S
def mTm (m : M D) (r : M (List Arg)) : M (List Arg) := bnd m fun d => bnd r fun as => pur (.tm d :: as)
def mSl (i : Nat) (r : M (List Arg)) : M (List Arg) := fun ρ => match ρ[i]? with
  | some (some _) => bnd r (fun as => pur (.sl i :: as)) ρ
  | _ => .stuck
theorem er_tm {e : Expr} {es : List Expr} {m : M D} {r : M (List Arg)} (he : EE X c W p e m) (hr : ER X c W p es r) (hs : starEach (e :: es) X.env = (false, eval e X.env) :: starEach es X.env := by rfl) : ER X c W p (e :: es) (mTm m r) :=
  pa_mono (pa_cons he hr hs) fun σ H Q ⟨ρ, τ, S, q⟩ => by
    refine rdE_of S q (fun _ _ h => h) (fun h => h) fun d ρ1 v H1 s S1 q1 => ?_
    refine rdR_of S1.frz q1 (fun _ _ h H' S' => h H' S'.drop) (fun h => h) fun as ρ2 vs H2 s2 ok S2 q2 => ?_
    exact q2 (v :: vs) H2 (pp s s2) ok (S2.perm (perm_mid _ _ _).symm)
theorem er_sl {e : Expr} {es : List Expr} {r : M (List Arg)} (i : Nat) (he : PE X e (tVar i)) (hr : ER X c W p es r) (hs : starEach (e :: es) X.env = (false, eval e X.env) :: starEach es X.env := by rfl) : ER X c W p (e :: es) (mSl i r) :=
  pa_mono (pa_cons he hr hs) fun σ H Q ⟨ρ, τ, S, q⟩ => by
    unfold mSl at q
    split at q
    · rename_i d ed
      obtain ⟨u, w, h1, h2, _⟩ := S.pval ed (at_nil d)
      refine ⟨u, h1, ?_⟩
      refine rdR_of S q (fun _ _ h => h) (fun h => h) fun as ρ2 vs H2 s2 ok S2 q2 => ?_
      exact q2 (u :: vs) H2 s2 ⟨h1, ok⟩ S2
    · exact q.elim
/-- the arguments of a display, of a built-in: temporaries all -/
theorem ea_nil : EA X c W p [] (pur []) := pa_mono pa_nil fun σ H Q ⟨ρ, τ, S, q⟩ => q [] H (fun _ => same_refl H) rfl S
def mC (m : M D) (r : M (List D)) : M (List D) := bnd m fun d => bnd r fun ds => pur (d :: ds)
theorem ea_cons {e : Expr} {es : List Expr} {m : M D} {r : M (List D)} (he : EE X c W p e m) (hr : EA X c W p es r) (hs : starEach (e :: es) X.env = (false, eval e X.env) :: starEach es X.env := by rfl) : EA X c W p (e :: es) (mC m r) :=
  pa_mono (pa_cons he hr hs) fun σ H Q ⟨ρ, τ, S, q⟩ => by
    refine rdE_of S q (fun _ _ h => h) (fun h => h) fun d ρ1 v H1 s S1 q1 => ?_
    refine rdA_of S1 q1 (fun _ _ h H' S' => h H' S'.drop) (fun h => h) fun ds ρ2 vs H2 s2 l S2 q2 => ?_
    exact q2 (v :: vs) H2 (pp s s2) (by simp [l]) (S2.perm (perm_mid _ _ _).symm)

/-! ### a call -/
def wx (cv : CV) (W : WW) : WX := fun cls d σ H => ∃ e : Exc, cls = cv e.c ∧ d = none ∧ W e σ H
def mCall (P : List Bool) (mf : List D → R (List D) D) (ma : M (List Arg)) : M D := bnd ma fun as ρ => if argB as = P then (match pull as ρ with
  | none => .stuck
  | some (ds, ρ1) => (match mf ds with
    | .ok d ds' => .ok d (pushb as ds' ρ1)
    | .err e ds' => .err e (pushb as ds' ρ1)
    | .stuck => .stuck)) else .stuck
theorem fzn_all {K : PySem.W.Frag} {G H : Hp} : ∀ {P : List Bool} {vs : List V} {ds : List D} {f : List Addr}, P.all (fun b => !b) = true → Fzn P ds → OwnL K G H vs ds f → f = []
  | [], _, [], _, _, _, o => by cases o; rfl
  | b :: bs, _, d :: ds, _, h, z, .cons x t => by
    simp only [List.all_cons, Bool.and_eq_true] at h
    obtain ⟨z1, z2⟩ := z
    have e2 := fzn_all h.2 z2 t
    subst e2
    rcases z1 with z1 | z1
    · subst z1; exact absurd h.1 (by decide)
    · rw [← z1] at x
      rw [own_frz_nil d x]; rfl
  | [], _, _ :: _, _, _, z, _ => z.elim
theorem ee_call {k : Nat} {f : Addr} {fd : FuncData} {ps : List Str} {cv : CV} {P : List Bool} {mf : List D → R (List D) D} {x : Str} {pp0 pos : Pos} {e : Expr} {es : List Expr} {ma : M (List Arg)}
    (F : FnOk X.prog X.w X.K X.mg X.base (L2.CX X.prog X.w) k f fd ps (spM X.K cv P mf)) (hr : Room k X.A) (hg : Gl X x) (hm : X.mg x = some (.ref f)) (hk : PySem.W.keepIn X.K (.ref f) = true) (hb : Binds X.K fd ps []) (tk : Takes X (wx cv W))
    (hp : p = true → P.all (fun b => !b) = true) (ha : ER X c W p (e :: es) ma) (hdb : (x == ("__debug__" : Str)) = false := by decide) (he : starEach (e :: es) X.env = (false, eval e X.env) :: starEach es X.env := by rfl) (hpl : (backTo pos (starEach es X.env)).any (·.1) = false := by rfl) :
    EE X c W p (.Call (.Name x pp0) (e :: es) [] pos) (mCall P mf ma) := pe_mono (pe_callS (E := WE (wx cv W)) F hr hg hm hk hb (fun σ => passAt tk σ) ha hdb he hpl) fun σ H Q ⟨ρ, τ, S, q⟩ => by
  refine rdR_of S q (fun _ _ h => h) (fun h => h) fun as ρ1 vs H1 s ok S1 q1 => ?_
  by_cases hB : argB as = P
  · rw [if_pos hB] at q1
    split at q1
    · exact q1.elim
    · rename_i ds ρ2 epl
      obtain ⟨hl, S2, hz⟩ := Sta.pull ok epl S1
      rw [hB] at hz
      obtain ⟨G, f1, f2, sub, tmp, own, nd, g0, k0, n0, gn⟩ := S2
      obtain ⟨fa, ft, rfl, l, t⟩ := OwnT.zip hl tmp
      refine ⟨G, ds, fa, sub, l, ?_, hz, ?_⟩
      · rw [List.append_assoc] at nd
        exact (List.nodup_append.mp nd).1
      · split at q1
        · rename_i d ds' em
          refine fun v G' H' fv fb did ov ol => ?_
          have S3 := Sta.called (v := some (v, d)) sub l t own nd g0 k0 n0 gn (fv := fv) did (by simpa using OwnT.cons ov OwnT.nil) ol
          have S4 : Sta X.K c H' σ ρ2 (vs.zip ds' ++ (v, d) :: τ) := Sta.perm (show Sta X.K c H' σ ρ2 ((v, d) :: (vs.zip ds' ++ τ)) from S3) (perm_mid _ _ _)
          have S5 := Sta.pushb ok epl ol.length S4
          refine q1 v H' (pp s fun h => fun b o e => ?_) S5
          have e0 := fzn_all (hp h) hz l
          subst e0
          exact did.keep b o e (by simp)
        · rename_i x ds' em
          refine fun G' H' fb did ol => ⟨x, rfl, rfl, ?_⟩
          have S3 := Sta.called (v := none) sub l t own nd g0 k0 n0 gn (fv := []) (by simpa using did) OwnT.nil ol
          exact q1 H' (Sta.pushb ok epl ol.length S3)
        · exact q1.elim
  · rw [if_neg hB] at q1; exact q1.elim

/-! ### a def keeps its promise -/
end
def exArgs : Nat → List Bool → List D → List Arg
  | i, true :: P, _ :: ds => .sl i :: exArgs (i + 1) P ds
  | i, false :: P, d :: ds => .tm d :: exArgs (i + 1) P ds
  | _, _, _ => []
def pinsOf : Nat → List Bool → List Nat
  | i, true :: P => i :: pinsOf (i + 1) P
  | i, false :: P => pinsOf (i + 1) P
  | _, [] => []
/-- a def's mirror: n slots, the changed parameters P, the body m -/
def mkF (n : Nat) (P : List Bool) (m : M Fl) (ds : List D) : R (List D) D := match m (ds.map some ++ List.replicate (n - ds.length) none) with
  | .ok .nx ρ => (match pull (exArgs 0 P ds) ρ with
    | some (ds', _) => .ok .non ds'
    | none => .stuck)
  | .ok (.rt d) ρ => (match pull (exArgs 0 P ds) ρ with
    | some (ds', _) => .ok d ds'
    | none => .stuck)
  | .ok _ _ => .stuck
  | .err e ρ => (match pull (exArgs 0 P ds) ρ with
    | some (ds', _) => .err e ds'
    | none => .stuck)
  | .stuck => .stuck
section
variable {K : PySem.W.Frag} {G H : Hp}
theorem ownS_of : ∀ {vs : List V} {ds : List D} {f : List Addr} {n : Nat}, OwnL K G H vs ds f → OwnS K G H (vs.map some ++ List.replicate n none) (ds.map some ++ List.replicate n none) f
  | _, _, _, n, .nil => by
    induction n with
    | zero => exact .nil
    | succ n ih => exact .no ih
  | _, _, _, n, .cons x t => .yes x (ownS_of t)
theorem ownT_of : ∀ {P : List Bool} {vs : List V} {ds : List D} {f : List Addr} {i : Nat}, Fzn P ds → OwnL K G H vs ds f → OwnT K G H (tmps vs (exArgs i P ds)) []
  | [], _, [], _, _, _, .nil => .nil
  | true :: P, _, d :: ds, _, i, z, .cons x t => ownT_of (i := i + 1) z.2 t
  | false :: P, _, d :: ds, _, i, z, .cons (f := f) x t => by
    have e : d.frz = d := by
      rcases z.1 with h | h
      · cases h
      · exact h
    have e2 : f = [] := by
      rw [← e] at x
      exact own_frz_nil d x
    subst e2
    have h := OwnT.cons (f := []) (by rw [e]; exact x : Own K G H _ d.frz []) (ownT_of (i := i + 1) z.2 t)
    exact h
theorem slsOk_of : ∀ {P : List Bool} {vs : List V} {ds : List D} {i : Nat} {σ : L2.St}, Fzn P ds → vs.length = ds.length → (∀ j v, vs[j]? = some v → (i + j) ∈ pinsOf i P → σ[i + j]? = some (some v)) → slsOk σ vs (exArgs i P ds)
  | [], [], [], _, _, _, _, _ => True.intro
  | true :: P, v :: vs, d :: ds, i, σ, z, l, h => by
    refine ⟨h 0 v rfl (by unfold pinsOf; exact List.mem_cons_self), slsOk_of z.2 (by simpa using l) fun j w e hm => ?_⟩
    have := h (j + 1) w (by simpa using e) (by unfold pinsOf; rw [show i + (j + 1) = i + 1 + j by omega]; exact List.mem_cons_of_mem _ hm)
    rwa [show i + (j + 1) = i + 1 + j by omega] at this
  | false :: P, v :: vs, d :: ds, i, σ, z, l, h => by
    refine slsOk_of (i := i + 1) z.2 (by simpa using l) fun j w e hm => ?_
    have := h (j + 1) w (by simpa using e) (by unfold pinsOf; rw [show i + (j + 1) = i + 1 + j by omega]; exact hm)
    rwa [show i + (j + 1) = i + 1 + j by omega] at this
  | [], [], _ :: _, _, _, z, _, _ => z.elim
  | [], _ :: _, [], _, _, _, l, _ => by simp at l
  | [], _ :: _, _ :: _, _, _, z, _, _ => z.elim
  | _ :: _, [], [], _, _, z, _, _ => z.elim
  | _ :: _, [], _ :: _, _, _, _, l, _ => by simp at l
  | _ :: _, _ :: _, [], _, _, z, _, _ => z.elim
end
theorem fn_ok {prog : Program} {w : World} {K : PySem.W.Frag} {mg : Str → Option Value} {base : Heap} {x qual : Str} {params : Arguments} {body : List Stmt} {scope : Scope} {f : Addr} {fd : FuncData} {N ps : List Str} {k : Nat} {cv : CV} {P : List Bool} {m : M Fl} {dvs : List V} {kws : List (Str × V)}
    (F : FunD K x qual params body scope dvs kws f fd) (S : FnScope N ps scope) (hl : P.length = ps.length)
    (hbody : ∀ (cdv : Value) (A : Around) (outer : List PySem.Env) (s : Shared) (H : Hp) (E : XK) (c : C0), Room k (A.deeper (PyProof.Rows.envOfC qual scope s.heap.objs.size f cdv)) →
      Takes (cxOf (L2.CX prog w) prog w K mg base N qual scope f cdv A outer s H E) (wx cv fun e _ H' => E (cv e.c) none H') →
      SL (cxOf (L2.CX prog w) prog w K mg base N qual scope f cdv A outer s H E) c (fun e _ H' => E (cv e.c) none H') (pinsOf 0 P) body m) :
    FnOk prog w K mg base (L2.CX prog w) (k + 1) f fd ps (spM K cv P (mkF N.length P m)) := by
  refine F.ok S (fun vs H Q E h => (spM_len h).trans hl) fun cdv A outer s H vs Q E hr h => ?_
  obtain ⟨G, ds, fp, sub, o, nd, z, q⟩ := h
  have hv := o.length
  have tk : Takes (cxOf (L2.CX prog w) prog w K mg base N qual scope f cdv A outer s H E) (wx cv fun e _ H' => E (cv e.c) none H') := (takes_of rfl rfl rfl rfl).imp fun cls d σ H' ⟨e, e1, e2, hE⟩ => by subst e1 e2; exact hE
  refine ⟨_, hbody cdv A outer s H E ⟨G, H, fp⟩ hr tk, ?_⟩
  have S0 : Sta K ⟨G, H, fp⟩ H (L2.start N vs) (ds.map some ++ List.replicate (N.length - ds.length) none) (tmps vs (exArgs 0 P ds)) := by
    refine ⟨G, [], fp, sub, ownT_of z o, ?_, nd, same_refl G, fun _ _ e _ => e, fun b hb => .inl hb, fun b u e => .inl e⟩
    unfold L2.start
    rw [hv]
    exact ownS_of o
  refine ⟨_, _, S0, ?_⟩
  have pk : ∀ {σ' : L2.St}, Pin (pinsOf 0 P) (L2.start N vs) σ' → slsOk σ' vs (exArgs 0 P ds) := fun {σ'} pin => slsOk_of z hv fun j v e hm => by
    rw [Nat.zero_add] at hm ⊢
    rw [pin j hm]
    unfold L2.start
    have hj := (List.getElem?_eq_some_iff.mp e).1
    rw [List.getElem?_append_left (by simpa using hj), List.getElem?_map, e]
    rfl
  unfold mkF at q
  cases em : m (ds.map some ++ List.replicate (N.length - ds.length) none) with
  | ok fl ρ =>
    rw [em] at q
    cases fl with
    | nx =>
      cases ep : pull (exArgs 0 P ds) ρ with
      | none => simp only [ep] at q
      | some r =>
        obtain ⟨ds', ρ2⟩ := r
        simp only [ep] at q
        refine fun σ' H' pin S1 => ?_
        have S1' : Sta K ⟨G, H, fp⟩ H' σ' ρ (tmps vs (exArgs 0 P ds) ++ [(V.non, D.non)]) := (S1.non).perm (by simpa using (perm_mid (V.non, D.non) (tmps vs (exArgs 0 P ds)) []))
        obtain ⟨hl2, S2, _⟩ := Sta.pull (pk pin) ep S1'
        obtain ⟨G', f1, f2, sub', tmp, own, nd', g0, k0, n0, gn⟩ := S2
        obtain ⟨fa, ft, rfl, l', t'⟩ := OwnT.zip hl2 tmp
        refine q .non G' H' [] fa ⟨g0, sub', k0, fun b hb => n0 b (by simp at hb; simp [hb]), gn, ?_⟩ .non l'
        rw [List.append_assoc] at nd'
        simpa using (List.nodup_append.mp nd').1
    | rt d =>
      cases ep : pull (exArgs 0 P ds) ρ with
      | none => simp only [ep] at q
      | some r =>
        obtain ⟨ds', ρ2⟩ := r
        simp only [ep] at q
        refine fun v σ' H' pin S1 => ?_
        have S1' : Sta K ⟨G, H, fp⟩ H' σ' ρ (tmps vs (exArgs 0 P ds) ++ [(v, d)]) := S1.perm (by simpa using (perm_mid (v, d) (tmps vs (exArgs 0 P ds)) []))
        obtain ⟨hl2, S2, _⟩ := Sta.pull (pk pin) ep S1'
        obtain ⟨G', f1, f2, sub', tmp, own, nd', g0, k0, n0, gn⟩ := S2
        obtain ⟨fa, ft, rfl, l', t'⟩ := OwnT.zip hl2 tmp
        cases t' with
        | @cons _ _ fv _ g ov tn =>
          cases tn
          have pm : ((fa ++ (fv ++ [])) ++ f2).Perm ((fv ++ fa) ++ f2) := by
            rw [List.append_nil]
            exact List.perm_append_comm.append_right f2
          refine q v G' H' fv fa ⟨g0, sub', k0, fun b hb => n0 b (pm.mem_iff.mpr (List.mem_append_left _ hb)), gn, ?_⟩ ov l'
          exact (List.nodup_append.mp (pm.nodup_iff.mp nd')).1
    | bk => exact q.elim
    | ct => exact q.elim
  | err e ρ =>
    rw [em] at q
    cases ep : pull (exArgs 0 P ds) ρ with
    | none => simp only [ep] at q
    | some r =>
      obtain ⟨ds', ρ2⟩ := r
      simp only [ep] at q
      refine fun σ' H' pin S1 => ?_
      have S1' : Sta K ⟨G, H, fp⟩ H' σ' ρ (tmps vs (exArgs 0 P ds) ++ []) := by rw [List.append_nil]; exact S1
      obtain ⟨hl2, S2, _⟩ := Sta.pull (pk pin) ep S1'
      obtain ⟨G', f1, f2, sub', tmp, own, nd', g0, k0, n0, gn⟩ := S2
      obtain ⟨fa, ft, rfl, l', t'⟩ := OwnT.zip hl2 tmp
      refine q G' H' fa ⟨g0, sub', k0, fun b hb => n0 b (List.mem_append_left _ (List.mem_append_left _ hb)), gn, ?_⟩ l'
      rw [List.append_assoc] at nd'
      exact (List.nodup_append.mp nd').1
  | stuck => rw [em] at q; exact q.elim
end DL
/-! DLg: tests, comparisons, displays, what is walked, comprehensions. -/
namespace DL
open PySem PySem.Spec L2

/-! ### tests -/
def EW (X : Cx) (c : C0) (W : WW) (p : Bool) (e : Expr) (m : M Bool) : Prop := PW X e (rdT X.K c W p m)
theorem pw_mono {X : Cx} {e : Expr} {t t' : TT} (h : PW X e t) (k : ∀ σ H Q, t' σ H Q → t σ H Q) : PW X e t' := ⟨fun wh pins s σ H Q I q => h.run wh pins s σ H Q I (k σ H Q q)⟩
section
variable {X : Cx} {c : C0} {W : WW} {p : Bool} {pos : Pos}
def toB (d : D) : M Bool := fun ρ => match d with
  | .bl b => .ok b ρ
  | _ => .stuck
def mB (m : M D) : M Bool := bnd m toB
theorem out_toB {β : Type} {d : D} {k : Bool → M β} {ρ : Env} {Out : R Env β → Prop} (h : Out (bnd (toB d) k ρ)) (hs : ¬ Out .stuck) : ∃ b, d = .bl b ∧ Out (k b ρ) := by
  cases d with
  | bl b => exact ⟨b, rfl, h⟩
  | _ => exact (hs h).elim
theorem rd_B {t : TE} {m : M D} {σ : L2.St} {H : Hp} {Q : Bool → Hp → Prop} (h : rdT X.K c W p (mB m) σ H Q) : (rdE X.K c W p m) σ H fun x H' => ∃ k, x = .bl k ∧ Q k H' := by
  obtain ⟨ρ, τ, S, q⟩ := h
  refine rdE_of S q (fun _ _ h => h) (fun h => h) fun d ρ1 v H1 s S1 q1 => ?_
  cases d with
  | bl b => exact ⟨b, S1.isBl, q1 H1 s S1.drop⟩
  | _ => exact q1.elim
theorem et_val {e : Expr} {m : M D} (h : EE X c W p e m) (he : ∀ whole, isTrue e X.env whole = (do let v ← whole; standAt e.pos; holding [v] (truthy v)) := by intro _; rfl) : ET X c W p e (mB m) :=
  pt_mono (pt_val h he) fun σ H Q q => rd_B (t := rdE X.K c W p m) q
theorem et_cmp {op : CmpOp} {a b : Expr} {fo : D → D → Option D} {ma mb : M D} (ho : OpR X (compareOp op) (rOp2 X.K fo)) (ha : EE X c W p a ma) (hb : EE X c W p b mb) (hm : behindInMarks op b = false) : ET X c W p (.Compare a [op] [b] pos) (mB (m2 fo ma mb)) :=
  pt_mono (pt_cmpR ho ha hb hm) fun σ H Q ⟨ρ, τ, S, q⟩ => by
    have q' : wT X.K c W p σ H τ Q (bnd ma (fun x => bnd mb fun y => bnd (lft (fo x y)) toB) ρ) := by
      have e : mB (m2 fo ma mb) ρ = bnd ma (fun x => bnd mb fun y => bnd (lft (fo x y)) toB) ρ := by
        unfold mB m2 bnd
        cases ma ρ with
        | ok x ρ1 =>
          dsimp only
          cases mb ρ1 <;> rfl
        | err _ _ => rfl
        | stuck => rfl
      rw [← e]; exact q
    refine rdE_of S q' (fun _ _ h => h) (fun h => h) fun x ρ1 v1 H1 s1 S1 q1 => ?_
    refine rdE_of S1 q1 (fun _ _ h H' S' => h H' S'.drop) (fun h => h) fun y ρ2 v2 H2 s2 S2 q2 => ?_
    obtain ⟨z, ez, q3⟩ := out_lft q2 (fun h => h)
    refine ⟨c, σ, ρ2, τ, x, y, z, S2, ez, fun v H' s S' => ?_⟩
    cases z with
    | bl b => exact ⟨b, S'.isBl, q3 H' (pp s1 (pp s2 fun _ => s)) S'.drop⟩
    | _ => exact q3.elim
def mNot (m : M Bool) : M Bool := bnd m fun b => pur (!b)
theorem et_not {a : Expr} {m : M Bool} (h : ET X c W p a m) : ET X c W p (.UnaryOp .Not a pos) (mNot m) := pt_mono (pt_not h) fun σ H Q ⟨ρ, τ, S, q⟩ =>
  rdT_of S q (fun _ _ h => h) (fun h => h) fun b ρ1 H1 s S1 q1 => q1 H1 s S1
theorem et_w {e : Expr} {m : M Bool} (h : EW X c W p e m) : ET X c W p e m := h.pt
theorem ew_and1 {a : Expr} {m : M Bool} (h : ET X c W p a m) : EW X c W p (.BoolOp .And [a] pos) m := pw_and1 h
theorem ew_or1 {a : Expr} {m : M Bool} (h : ET X c W p a m) : EW X c W p (.BoolOp .Or [a] pos) m := pw_or1 h
def mAndT (a b : M Bool) : M Bool := bnd a fun x => if x = true then b else pur false
def mOrT (a b : M Bool) : M Bool := bnd a fun x => if x = true then pur true else b
theorem ew_and {a b : Expr} {rest : List Expr} {ma mb : M Bool} (ha : ET X c W p a ma) (hb : EW X c W p (.BoolOp .And (b :: rest) pos) mb) : EW X c W p (.BoolOp .And (a :: b :: rest) pos) (mAndT ma mb) :=
  pw_mono (pw_and ha hb) fun σ H Q ⟨ρ, τ, S, q⟩ => rdT_of S q (fun _ _ h => h) (fun h => h) fun b ρ1 H1 s S1 q1 => by
    cases b with
    | false => exact q1 H1 s S1
    | true =>
      refine ⟨ρ1, τ, S1, ?_⟩
      rw [if_pos rfl] at q1
      cases e : mb ρ1 with
      | ok x ρ2 => rw [e] at q1; exact fun H2 s2 S2 => q1 H2 (pp s s2) S2
      | err x ρ2 => rw [e] at q1; exact q1
      | stuck => rw [e] at q1; exact q1
theorem ew_or {a b : Expr} {rest : List Expr} {ma mb : M Bool} (ha : ET X c W p a ma) (hb : EW X c W p (.BoolOp .Or (b :: rest) pos) mb) : EW X c W p (.BoolOp .Or (a :: b :: rest) pos) (mOrT ma mb) :=
  pw_mono (pw_or ha hb) fun σ H Q ⟨ρ, τ, S, q⟩ => rdT_of S q (fun _ _ h => h) (fun h => h) fun b ρ1 H1 s S1 q1 => by
    cases b with
    | true => exact q1 H1 s S1
    | false =>
      refine ⟨ρ1, τ, S1, ?_⟩
      rw [if_neg (by decide)] at q1
      cases e : mb ρ1 with
      | ok x ρ2 => rw [e] at q1; exact fun H2 s2 S2 => q1 H2 (pp s s2) S2
      | err x ρ2 => rw [e] at q1; exact q1
      | stuck => rw [e] at q1; exact q1
/-! .. as values -/
theorem ee_one {op : BoolOp} {a : Expr} {m : M D} (h : EE X c W p a m) : EE X c W p (.BoolOp op [a] pos) m := pe_one h
def mAndV (a b : M D) : M D := bnd a fun d => bnd (toB d) fun x => if x = true then b else pur (.bl false)
def mOrV (a b : M D) : M D := bnd a fun d => bnd (toB d) fun x => if x = true then pur (.bl true) else b
theorem wE_pp {σ : L2.St} {H H1 : Hp} {τ : List (V × D)} {Q : VK} {r : R Env D} (s : p = true → Same H H1) (q : wE X.K c W p σ H τ Q r) : wE X.K c W p σ H1 τ Q r := by
  cases r with
  | ok d ρ => exact fun v H' s' S' => q v H' (pp s s') S'
  | err e ρ => exact q
  | stuck => exact q
theorem ee_and {a b : Expr} {rest : List Expr} {ma mb : M D} (ha : EE X c W p a ma) (hb : EE X c W p (.BoolOp .And (b :: rest) pos) mb) : EE X c W p (.BoolOp .And (a :: b :: rest) pos) (mAndV ma mb) :=
  pe_mono (pe_and ha hb) fun σ H Q ⟨ρ, τ, S, q⟩ => rdE_of S q (fun _ _ h => h) (fun h => h) fun d ρ1 v H1 s S1 q1 => by
    obtain ⟨b, rfl, q2⟩ := out_toB q1 (fun h => h)
    refine ⟨b, S1.isBl, ?_⟩
    cases b with
    | false => exact q2 (.bl false) H1 s (Sta.bl (Sta.drop S1) false)
    | true => exact ⟨ρ1, τ, S1.drop, wE_pp s q2⟩
theorem ee_or {a b : Expr} {rest : List Expr} {ma mb : M D} (ha : EE X c W p a ma) (hb : EE X c W p (.BoolOp .Or (b :: rest) pos) mb) : EE X c W p (.BoolOp .Or (a :: b :: rest) pos) (mOrV ma mb) :=
  pe_mono (pe_or ha hb) fun σ H Q ⟨ρ, τ, S, q⟩ => rdE_of S q (fun _ _ h => h) (fun h => h) fun d ρ1 v H1 s S1 q1 => by
    obtain ⟨b, rfl, q2⟩ := out_toB q1 (fun h => h)
    refine ⟨b, S1.isBl, ?_⟩
    cases b with
    | true => exact q2 (.bl true) H1 s (S1.drop.bl true)
    | false => exact ⟨ρ1, τ, S1.drop, wE_pp s q2⟩
def mNotV (a : M D) : M D := bnd a fun d => bnd (toB d) fun x => pur (.bl (!x))
theorem ee_not {a : Expr} {ma : M D} (ha : EE X c W p a ma) : EE X c W p (.UnaryOp .Not a pos) (mNotV ma) :=
  pe_mono (pe_not ha) fun σ H Q ⟨ρ, τ, S, q⟩ => rdE_of S q (fun _ _ h => h) (fun h => h) fun d ρ1 v H1 s S1 q1 => by
    obtain ⟨b, rfl, q2⟩ := out_toB q1 (fun h => h)
    exact ⟨b, S1.isBl, q2 _ H1 s (S1.drop.bl (!b))⟩
/-- a op b op' c -/
def mChain (fo fo' : D → D → Option D) (ma mb mc : M D) : M D := bnd ma fun x => bnd mb fun y => bnd (lft (fo x y.frz)) fun z => bnd (toB z) fun k => if k = true then bnd mc fun w => lft (fo' y.frz w) else pur (.bl false)
theorem rd_chain {fo fo' : D → D → Option D} {ma mb mc : M D} {σ : L2.St} {H : Hp} {Q : VK} (h : rdE X.K c W p (mChain fo fo' ma mb mc) σ H Q) : tChain (rOp2 X.K fo) (rOp2 X.K fo') (rdE X.K c W p ma) (rdE X.K c W p mb) (rdE X.K c W p mc) σ H Q := by
  obtain ⟨ρ, τ, S, q⟩ := h
  refine rdE_of S q (fun _ _ h => h) (fun h => h) fun x ρ1 v1 H1 s1 S1 q1 => ?_
  refine rdE_of S1 q1 (fun _ _ h H' S' => h H' S'.drop) (fun h => h) fun y ρ2 v2 H2 s2 S2 q2 => ?_
  obtain ⟨z, ez, q3⟩ := out_lft q2 (fun h => h)
  have S3 : Sta X.K c H2 σ ρ2 ((v2, y.frz) :: (v1, x) :: (v2, y.frz) :: τ) := (S2.frz.dup).perm (.cons _ (.swap _ _ _))
  refine ⟨c, σ, ρ2, (v2, y.frz) :: τ, x, y.frz, z, S3, ez, fun v H' s S' => ?_⟩
  obtain ⟨k, rfl, q4⟩ := out_toB q3 (fun h => h)
  refine ⟨k, S'.isBl, ?_⟩
  cases k with
  | false => exact q4 _ H' (pp s1 (pp s2 fun _ => s)) (S'.drop.drop.bl false)
  | true =>
    rw [if_pos rfl] at q4 ⊢
    refine rdE_of S'.drop q4 (fun _ _ h H' S' => h H' S'.drop) (fun h => h) fun w ρ3 v3 H3 s3 S3 q5 => ?_
    cases ew : fo' y.frz w with
    | none => rw [ew] at q5; exact q5.elim
    | some u =>
      rw [ew] at q5
      exact ⟨c, σ, ρ3, τ, y.frz, w, u, S3, ew, fun v H'' s'' S'' => q5 v H'' (pp (pp s1 (pp s2 fun _ => s)) (pp s3 fun _ => s'')) S''⟩
theorem ee_chain {op op' : CmpOp} {a b e : Expr} {fo fo' : D → D → Option D} {ma mb mc : M D} (ho : OpR X (compareOp op) (rOp2 X.K fo)) (ho' : OpR X (compareOp op') (rOp2 X.K fo')) (ha : EE X c W p a ma) (hb : EE X c W p b mb) (hc : EE X c W p e mc)
    (hm : lastMarks [op, op'] [b, e] = false := by with_unfolding_all rfl) : EE X c W p (.Compare a [op, op'] [b, e] pos) (mChain fo fo' ma mb mc) := pe_mono (pe_chain ho ho' ha hb hc hm) fun σ H Q h => rd_chain h
theorem et_chain {op op' : CmpOp} {a b e : Expr} {fo fo' : D → D → Option D} {ma mb mc : M D} (ho : OpR X (compareOp op) (rOp2 X.K fo)) (ho' : OpR X (compareOp op') (rOp2 X.K fo')) (ha : EE X c W p a ma) (hb : EE X c W p b mb) (hc : EE X c W p e mc)
    (hm : lastMarks [op, op'] [b, e] = false := by with_unfolding_all rfl) : ET X c W p (.Compare a [op, op'] [b, e] pos) (mB (mChain fo fo' ma mb mc)) := pt_mono (pt_chain ho ho' ha hb hc hm) fun σ H Q h => rd_chain (rd_B (t := rdE X.K c W p (mChain fo fo' ma mb mc)) h)
/-- an if else of values -/
def mIfE (t : M Bool) (a b : M D) : M D := bnd t fun x => if x = true then a else b
theorem ee_ifE {t a b : Expr} {mt : M Bool} {ma mb : M D} (ht : ET X c W p t mt) (ha : EE X c W p a ma) (hb : EE X c W p b mb) : EE X c W p (.IfExp t a b pos) (mIfE mt ma mb) :=
  pe_mono (pe_ifExp ht ha hb) fun σ H Q ⟨ρ, τ, S, q⟩ => rdT_of S q (fun _ _ h => h) (fun h => h) fun b ρ1 H1 s S1 q1 => by
    cases b with
    | true => exact ⟨ρ1, τ, S1, wE_pp s q1⟩
    | false => exact ⟨ρ1, τ, S1, wE_pp s q1⟩

/-! ### comparisons -/
def fCmp (g : Int → Int → Bool) (h : List Nat → List Nat → Bool) : D → D → Option D
  | .int i, .int j => some (.bl (g i j))
  | .str x, .str y => some (.bl (h x.cps.toList y.cps.toList))
  | _, _ => none
theorem opCmp {op : CmpOp} {g : Int → Int → Bool} {h : List Nat → List Nat → Bool} (hi : OpR X (compareOp op) (rI0 fun i j => .bl (g i j))) (hs : ∀ (x y : Str) (t u : Tok) (s : Shared) (Q : Value → Shared → Prop), Q (.bool (h x.cps.toList y.cps.toList)) s → wpAny (model X.prog X.w) X.A (compareOp op (.str x t) (.str y u)) Q X.xe s) :
    OpR X (compareOp op) (rOp2 X.K (fCmp g h)) := by
  have h2 : OpR X (compareOp op) (fun x y H Q => ∃ i j, x = .str i ∧ y = .str j ∧ Q (.bl (h i.cps.toList j.cps.toList)) H) := by
    intro pins s σ H x y v u Q I rx ry q
    obtain ⟨i, j, rfl, rfl, q⟩ := q
    obtain ⟨t, rfl⟩ := rx
    obtain ⟨t', rfl⟩ := ry
    exact hs i j t t' s _ ⟨.bl _, H, I, rfl, q⟩
  refine opR_imp (opR_or hi h2) (rOp2_two fun x y dx dy dz H Q hx e k => ?_)
  obtain ⟨G, _, _, _, ox, oy⟩ := hx
  unfold fCmp at e
  split at e
  · cases ox; cases oy; cases e
    exact .inl ⟨_, _, rfl, rfl, k _ fun _ _ => .bl _⟩
  · cases ox; cases oy; cases e
    exact .inr ⟨_, _, rfl, rfl, k _ fun _ _ => .bl _⟩
  · cases e
abbrev fLt := fCmp (fun i j => decide (i < j)) (fun x y => decide (x < y))
abbrev fLe := fCmp (fun i j => decide (i ≤ j)) (fun x y => !decide (y < x))
abbrev fGt := fCmp (fun i j => decide (j < i)) (fun x y => decide (y < x))
abbrev fGe := fCmp (fun i j => decide (j ≤ i)) (fun x y => !decide (x < y))
theorem o_lt : OpR X (compareOp .Lt) (rOp2 X.K fLt) := opCmp op_lt fun _ _ _ _ _ _ q => PyProof.Rows.lt_str q
theorem o_le : OpR X (compareOp .LtE) (rOp2 X.K fLe) := opCmp op_le fun _ _ _ _ _ _ q => PySem.P.le_str q
theorem o_gt : OpR X (compareOp .Gt) (rOp2 X.K fGt) := opCmp op_gt fun _ _ _ _ _ _ q => PySem.P.gt_str q
theorem o_ge : OpR X (compareOp .GtE) (rOp2 X.K fGe) := opCmp op_ge fun _ _ _ _ _ _ q => PySem.P.ge_str q
/-- is None -/
def isNon : D → Bool
  | .non => true
  | _ => false
def fIs : D → D → Option D
  | x, .non => some (.bl (isNon x))
  | _, _ => none
def fIsNot : D → D → Option D
  | x, .non => some (.bl (!isNon x))
  | _, _ => none
theorem isNon_V {K : PySem.W.Frag} {G H : Hp} {v : V} {d : D} {f : List Addr} (h : Own K G H v d f) : decide (v = .non) = isNon d := by
  cases h <;> rfl
theorem o_is : OpR X (compareOp .Is) (rOp2 X.K fIs) := opR_imp op_isN (rOp2_two fun x y dx dy dz H Q hx e k => by
  obtain ⟨G, _, _, _, ox, oy⟩ := hx
  unfold fIs at e
  split at e
  · cases oy; cases e
    exact ⟨rfl, by rw [isNon_V ox]; exact k _ fun _ _ => .bl _⟩
  · cases e)
theorem o_isNot : OpR X (compareOp .IsNot) (rOp2 X.K fIsNot) := opR_imp op_notN (rOp2_two fun x y dx dy dz H Q hx e k => by
  obtain ⟨G, _, _, _, ox, oy⟩ := hx
  unfold fIsNot at e
  split at e
  · cases oy; cases e
    exact ⟨rfl, by rw [isNon_V ox]; exact k _ fun _ _ => .bl _⟩
  · cases e)
/-! == and in, at any depth -/
mutual
def toPy : D → Option PyData
  | .non => some .none
  | .bl b => some (.bool b)
  | .int i => some (.int i)
  | .str x => some (.str x)
  | .nd .tup ds => (toPyL ds).map .tuple
  | .nd (.lst _) ds => (toPyL ds).map .list
  | .nd (.dic _ _) _ => none
  | .nd (.dit _ _) _ => none
  | .nd .scr _ => none
def toPyL : List D → Option (List PyData)
  | [] => some []
  | d :: ds => match toPy d, toPyL ds with
    | some x, some xs => some (x :: xs)
    | _, _ => none
end
section
variable {K : PySem.W.Frag} {G H : Hp}
mutual
theorem Own.dp (s : Same G H) : ∀ {v : V} {d : D} {f : List Addr} {y : PyData}, Own K G H v d f → toPy d = some y → Dp K H v y
  | _, _, _, _, .non, e => by cases e; exact .non
  | _, _, _, _, .bl b, e => by cases e; exact .bl b
  | _, _, _, _, .int i, e => by cases e; exact .int i
  | _, _, _, _, .str x, e => by cases e; exact .str x
  | _, .nd cn ds, _, y, .fz z t, e => by
    cases cn with
    | tup =>
      have e : (toPyL ds).map PyData.tuple = some y := e
      cases q : toPyL ds with
      | none => rw [q] at e; cases e
      | some ys => rw [q] at e; cases e; exact .tup (.inl (.inl (s _ _ z))) (t.dp s q)
    | lst o =>
      have e : (toPyL ds).map PyData.list = some y := e
      cases q : toPyL ds with
      | none => rw [q] at e; cases e
      | some ys => rw [q] at e; cases e; exact .lst (.inl (same_rd s z.2)) (t.dp s q)
    | dic o ks => cases e
    | dit o ks => cases e
    | scr => cases e
  | _, .nd cn ds, _, y, .ow z g t, e => by
    cases cn with
    | tup => exact z.elim
    | lst o =>
      have e : (toPyL ds).map PyData.list = some y := e
      cases q : toPyL ds with
      | none => rw [q] at e; cases e
      | some ys => rw [q] at e; cases e; exact .lst (.inl (.inl z.2)) (t.dp s q)
    | dic o ks => cases e
    | dit o ks => cases e
    | scr => cases e
theorem OwnL.dp (s : Same G H) : ∀ {v : List V} {d : List D} {f : List Addr} {y : List PyData}, OwnL K G H v d f → toPyL d = some y → DpAll K H v y
  | _, [], _, _, .nil, e => by
    unfold toPyL at e; cases e; exact .nil
  | _, d :: ds, _, y, .cons x t, e => by
    unfold toPyL at e
    cases q : toPy d with
    | none => rw [q] at e; cases e
    | some a =>
      cases q2 : toPyL ds with
      | none => rw [q, q2] at e; cases e
      | some b => rw [q, q2] at e; cases e; exact .cons (x.dp s q) (t.dp s q2)
end
end
def eqD (x y : D) : Option Bool := match toPy x, toPy y with
  | some a, some b => if SeqAt.shaped a && SeqAt.shaped b then some (PyData.eqv a b) else none
  | _, _ => none
def fEq (x y : D) : Option D := (eqD x y).map .bl
def fNe (x y : D) : Option D := (eqD x y).map fun b => .bl (!b)
theorem eqD_some {x y : D} {b : Bool} (h : eqD x y = some b) : ∃ a e, toPy x = some a ∧ toPy y = some e ∧ SeqAt.shaped a = true ∧ SeqAt.shaped e = true ∧ b = PyData.eqv a e := by
  unfold eqD at h
  split at h
  · rename_i a e h1 h2
    by_cases hs : (SeqAt.shaped a && SeqAt.shaped e) = true
    · rw [if_pos hs] at h
      obtain ⟨s1, s2⟩ := Bool.and_eq_true_iff.mp hs
      exact ⟨a, e, h1, h2, s1, s2, (Option.some.inj h).symm⟩
    · rw [if_neg hs] at h; cases h
  · cases h
theorem o_eq (hu : X.A.units + 64 < cLine) : OpR X (compareOp .Eq) (rOp2 X.K fEq) := opR_imp (op_eqD hu) (rOp2_two fun x y dx dy dz H Q hx e k => by
  obtain ⟨G, _, _, s, ox, oy⟩ := hx
  unfold fEq at e
  cases q : eqD dx dy with
  | none => rw [q] at e; cases e
  | some b =>
    rw [q] at e; cases e
    obtain ⟨a, e2, h1, h2, h3, h4, rfl⟩ := eqD_some q
    exact ⟨a, e2, ox.dp s h1, oy.dp s h2, h3, h4, k _ fun _ _ => .bl _⟩)
theorem o_ne (hu : X.A.units + 64 < cLine) : OpR X (compareOp .NotEq) (rOp2 X.K fNe) := opR_imp (op_neD hu) (rOp2_two fun x y dx dy dz H Q hx e k => by
  obtain ⟨G, _, _, s, ox, oy⟩ := hx
  unfold fNe at e
  cases q : eqD dx dy with
  | none => rw [q] at e; cases e
  | some b =>
    rw [q] at e; cases e
    obtain ⟨a, e2, h1, h2, h3, h4, rfl⟩ := eqD_some q
    exact ⟨a, e2, ox.dp s h1, oy.dp s h2, h3, h4, k _ fun _ _ => .bl _⟩)
/-! x in y -/
def rInT (K : PySem.W.Frag) : R2 := fun x y H Q => ∃ d ds, Dp K H x d ∧ Dp K H y (.tuple ds) ∧ SeqAt.shaped d = true ∧ SeqAt.shaped (.tuple ds) = true ∧ Q (.bl (ds.any fun z => PyData.eqv z d)) H
def rNotInT (K : PySem.W.Frag) : R2 := fun x y H Q => ∃ d ds, Dp K H x d ∧ Dp K H y (.tuple ds) ∧ SeqAt.shaped d = true ∧ SeqAt.shaped (.tuple ds) = true ∧ Q (.bl (!ds.any fun z => PyData.eqv z d)) H
theorem op_inT (hu : X.A.units + 65 < cLine) : OpR X (compareOp .In) (rInT X.K) := by
  intro pins s σ H x y v u Q I rx ry h
  obtain ⟨d, ds, hd, he, sd, se, q⟩ := h
  obtain ⟨as, r1⟩ := Dp.reads I d x v hd rx
  obtain ⟨bs, r2⟩ := Dp.reads I (.tuple ds) y u he ry
  exact SeqAt.in_tuple_reads r2 r1 (SeqAt.canLay_of_shaped se) (SeqAt.canLay_of_shaped sd) (PyProof.Rows.room_in_shaped sd hu) ⟨.bl _, H, I, rfl, q⟩
theorem op_notInT (hu : X.A.units + 65 < cLine) : OpR X (compareOp .NotIn) (rNotInT X.K) := by
  intro pins s σ H x y v u Q I rx ry h
  obtain ⟨d, ds, hd, he, sd, se, q⟩ := h
  obtain ⟨as, r1⟩ := Dp.reads I d x v hd rx
  obtain ⟨bs, r2⟩ := Dp.reads I (.tuple ds) y u he ry
  exact SeqAt.notIn_tuple_reads r2 r1 (SeqAt.canLay_of_shaped se) (SeqAt.canLay_of_shaped sd) (PyProof.Rows.room_in_shaped sd hu) ⟨.bl _, H, I, rfl, q⟩
def rInDk (neg : Bool) : R2 := fun x y H Q => ∃ a o, y = .ref a ∧ DGet H a x o ∧ Q (.bl (if neg then !o.isSome else o.isSome)) H
theorem op_inDk (hu : X.A.units + 1 < cLine) : OpR X (compareOp .In) (rInDk false) := by
  intro pins s σ H x y v u Q I rx ry h
  obtain ⟨a, o, rfl, g, q⟩ := h
  cases ry
  exact d_in hu I g rx fun s3 I3 => ⟨.bl _, H, I3, rfl, q⟩
theorem op_notInDk (hu : X.A.units + 1 < cLine) : OpR X (compareOp .NotIn) (rInDk true) := by
  intro pins s σ H x y v u Q I rx ry h
  obtain ⟨a, o, rfl, g, q⟩ := h
  cases ry
  exact d_notIn hu I g rx fun s3 I3 => ⟨.bl _, H, I3, rfl, q⟩
def inSeq (x : D) (ds : List D) (tup : Bool) : Option Bool := match toPy x, toPyL ds with
  | some a, some bs => if SeqAt.shaped a && SeqAt.shaped (if tup then .tuple bs else .list bs) then some (bs.any fun z => PyData.eqv z a) else none
  | _, _ => none
def inD (x y : D) : Option Bool := match y with
  | .nd .tup ds => inSeq x ds true
  | .nd (.lst _) ds => inSeq x ds false
  | .nd (.dic _ ks) ds => if ks.length = ds.length then (keyOf x).map fun k => (findK ks k).isSome else none
  | .nd (.dit _ ks) ds => if ks.length = ds.length then (match x with
    | .nd .tup ys => (keysOf ys).map fun k => (findK ks k).isSome
    | _ => none) else none
  | .str z => match x with
    | .str w => some (!(Builtin.Str.occurrences z w 0 z.length 1).isEmpty)
    | _ => none
  | _ => none
def fIn (x y : D) : Option D := (inD x y).map .bl
def fNotIn (x y : D) : Option D := (inD x y).map fun b => .bl (!b)
theorem inSeq_some {x : D} {ds : List D} {t b : Bool} (h : inSeq x ds t = some b) : ∃ a bs, toPy x = some a ∧ toPyL ds = some bs ∧ SeqAt.shaped a = true ∧ SeqAt.shaped (if t then .tuple bs else .list bs) = true ∧ b = bs.any fun z => PyData.eqv z a := by
  unfold inSeq at h
  split at h
  · rename_i a bs h1 h2
    by_cases hs : (SeqAt.shaped a && SeqAt.shaped (if t then .tuple bs else .list bs)) = true
    · rw [if_pos hs] at h
      obtain ⟨s1, s2⟩ := Bool.and_eq_true_iff.mp hs
      exact ⟨a, bs, h1, h2, s1, s2, (Option.some.inj h).symm⟩
    · rw [if_neg hs] at h; cases h
  · cases h
theorem findK_isSome {κ : Type} [DecidableEq κ] {ks : List κ} {vs : List V} {k : κ} (h : ks.length = vs.length) : (valV (ks.zip vs) k).isSome = (findK ks k).isSome := by
  rw [findK_valV h]
  cases q : findK ks k with
  | none => rfl
  | some j =>
    have := (findK_lt q).1
    have e : vs[j]? = some (vs[j]'(by omega)) := by simp [show j < vs.length by omega]
    rw [Option.bind_some, e]; rfl
theorem in_read {K : PySem.W.Frag} {G H : Hp} {x y : V} {dx dy : D} {f g : List Addr} {b : Bool} (s : Same G H) (ox : Own K G H x dx f) (oy : Own K G H y dy g) (h : inD dx dy = some b) :
    (∃ d ds, Dp K H x d ∧ Dp K H y (.list ds) ∧ SeqAt.shaped d = true ∧ SeqAt.shaped (.list ds) = true ∧ b = ds.any fun z => PyData.eqv z d) ∨
    (∃ d ds, Dp K H x d ∧ Dp K H y (.tuple ds) ∧ SeqAt.shaped d = true ∧ SeqAt.shaped (.tuple ds) = true ∧ b = ds.any fun z => PyData.eqv z d) ∨
    (∃ i j, x = .str i ∧ y = .str j ∧ b = (!(Builtin.Str.occurrences j i 0 j.length 1).isEmpty)) ∨ ∃ a o, y = .ref a ∧ DGet H a x o ∧ b = o.isSome := by
  unfold inD at h
  split at h
  · rename_i ds
    obtain ⟨a, bs, h1, h2, h3, h4, h5⟩ := inSeq_some h
    have e : toPy (.nd .tup ds) = some (.tuple bs) := by
      show (toPyL ds).map PyData.tuple = _
      rw [h2]; rfl
    exact .inr (.inl ⟨a, bs, ox.dp s h1, oy.dp s e, h3, h4, h5⟩)
  · rename_i o ds
    obtain ⟨a, bs, h1, h2, h3, h4, h5⟩ := inSeq_some h
    have e : toPy (.nd (.lst o) ds) = some (.list bs) := by
      show (toPyL ds).map PyData.list = _
      rw [h2]; rfl
    exact .inl ⟨a, bs, ox.dp s h1, oy.dp s e, h3, h4, h5⟩
  · rename_i o ks ds
    split at h
    · rename_i hl
      have main : ∀ a vs k, y = .ref a → Rd H a (.dK (ks.zip vs)) → ks.length = vs.length → keyOf dx = some k → ∃ a o, y = .ref a ∧ DGet H a x o ∧ b = o.isSome := fun a vs k e1 e2 e3 e4 => by
        rw [e4] at h
        have h : some (findK ks k).isSome = some b := h
        have ek : x = kV k := by
          cases dx with
          | int i => cases e4; cases ox; rfl
          | str z => cases e4; cases ox; rfl
          | _ => cases e4
        exact ⟨a, _, e1, .inl ⟨_, k, e2, ek, rfl⟩, by rw [findK_isSome e3]; exact (Option.some.inj h).symm⟩
      cases ek : keyOf dx with
      | none => rw [ek] at h; cases h
      | some k =>
        cases oy with
        | fz z l => exact .inr (.inr (.inr (main _ _ k rfl (same_rd s z.2.2) z.2.1 ek)))
        | ow z _ l => exact .inr (.inr (.inr (main _ _ k rfl (.inl z.2.2) z.2.1 ek)))
    · cases h
  · rename_i o ks ds
    split at h
    · rename_i hl
      split at h
      · rename_i ys
        cases ek : keysOf ys with
        | none => rw [ek] at h; cases h
        | some k =>
          rw [ek] at h
          have h : some (findK ks k).isSome = some b := h
          cases ox with
          | @fz bb _ ws _ _ zz ll =>
            have := keysOf_vals ll ek
            subst this
            have main : ∀ a vs, y = .ref a → Rd H a (.dT (ks.zip vs)) → ks.length = vs.length → ∃ a o, y = .ref a ∧ DGet H a (.ref bb) o ∧ b = o.isSome := fun a vs e1 e2 e3 =>
              ⟨a, _, e1, .inr ⟨_, k, bb, e2, rfl, s _ _ zz, rfl⟩, by rw [findK_isSome e3]; exact (Option.some.inj h).symm⟩
            cases oy with
            | fz z l => exact .inr (.inr (.inr (main _ _ rfl (same_rd s z.2.2) z.2.1)))
            | ow z _ l => exact .inr (.inr (.inr (main _ _ rfl (.inl z.2.2) z.2.1)))
          | ow zz _ _ => exact zz.elim
      · cases h
    · cases h
  · split at h
    · cases ox; cases oy; cases h
      exact .inr (.inr (.inl ⟨_, _, rfl, rfl, rfl⟩))
    · cases h
  · cases h
theorem o_in (hu : X.A.units + 65 < cLine) : OpR X (compareOp .In) (rOp2 X.K fIn) := opR_imp (opR_or (op_inD hu) (opR_or (op_inT hu) (opR_or op_in_str (op_inDk (by omega))))) (rOp2_two fun x y dx dy dz H Q hx e k => by
  obtain ⟨G, _, _, s, ox, oy⟩ := hx
  unfold fIn at e
  cases q : inD dx dy with
  | none => rw [q] at e; cases e
  | some b =>
    rw [q] at e; cases e
    rcases in_read s ox oy q with ⟨d, ds, h1, h2, h3, h4, rfl⟩ | ⟨d, ds, h1, h2, h3, h4, rfl⟩ | ⟨i, j, rfl, rfl, rfl⟩ | ⟨a, o, rfl, g, rfl⟩
    · exact .inl ⟨d, ds, h1, h2, h3, h4, k _ fun _ _ => .bl _⟩
    · exact .inr (.inl ⟨d, ds, h1, h2, h3, h4, k _ fun _ _ => .bl _⟩)
    · exact .inr (.inr (.inl ⟨i, j, rfl, rfl, k _ fun _ _ => .bl _⟩))
    · exact .inr (.inr (.inr ⟨a, o, rfl, g, k _ fun _ _ => .bl _⟩)))
theorem o_notIn (hu : X.A.units + 65 < cLine) : OpR X (compareOp .NotIn) (rOp2 X.K fNotIn) := opR_imp (opR_or (op_notInD hu) (opR_or (op_notInT hu) (opR_or op_notin_str (op_notInDk (by omega))))) (rOp2_two fun x y dx dy dz H Q hx e k => by
  obtain ⟨G, _, _, s, ox, oy⟩ := hx
  unfold fNotIn at e
  cases q : inD dx dy with
  | none => rw [q] at e; cases e
  | some b =>
    rw [q] at e; cases e
    rcases in_read s ox oy q with ⟨d, ds, h1, h2, h3, h4, rfl⟩ | ⟨d, ds, h1, h2, h3, h4, rfl⟩ | ⟨i, j, rfl, rfl, rfl⟩ | ⟨a, o, rfl, g, rfl⟩
    · exact .inl ⟨d, ds, h1, h2, h3, h4, k _ fun _ _ => .bl _⟩
    · exact .inr (.inl ⟨d, ds, h1, h2, h3, h4, k _ fun _ _ => .bl _⟩)
    · exact .inr (.inr (.inl ⟨i, j, rfl, rfl, k _ fun _ _ => .bl _⟩))
    · exact .inr (.inr (.inr ⟨a, o, rfl, g, k _ fun _ _ => .bl _⟩)))
end
end DL
/-! DLh: built-in calls, displays, what is walked, comprehensions. -/
namespace DL
open PySem PySem.Spec L2

section
variable {K : PySem.W.Frag} {c : C0} {σ : L2.St} {H : Hp} {ρ : Env} {τ : List (V × D)} {v : V} {d : D}
/-- a new object that nobody holds -/
theorem Sta.more {a : Addr} {o : HO} (S : Sta K c H σ ρ τ) (ha : H a = none) : Sta K c (upd H a o) σ ρ τ := by
  obtain ⟨G, f1, f2, sub, tmp, own, nd, g0, k0, n0, gn⟩ := S
  have kp : ∀ b u, H b = some u → upd H a o b = some u := same_upd ha
  exact ⟨G, f1, f2, same_trans sub kp, tmp.mono (same_refl G) (fun b _ u e => kp b u e) (fun b hb => (tmp.fp b hb).1), own.mono (same_refl G) (fun b _ u e => kp b u e) (fun b hb => (own.fp b hb).1), nd, g0, fun b u e nb => kp b u (k0 b u e nb), n0, gn⟩
/-- the owned object of a temporary is changed -/
theorem Sta.mutT {cn : Con} {ds : List D} {T : List (V × D)} (S : Sta K c H σ ρ (T ++ (v, .nd cn ds) :: τ)) (hc : cn.isO = true) : ∃ a vs, v = .ref a ∧ cn.Ow H a vs ∧ vs.length = ds.length ∧
    ∀ (cn' : Con) (vs' : List V) (ds' : List D) (L : List (V × D)) (o' : HO), vs'.length = ds'.length → (vs.zip ds ++ T).Perm (vs'.zip ds' ++ L) → cn'.Ow (upd H a o') a vs' → Sta K c (upd H a o') σ ρ ((v, .nd cn' ds') :: (L ++ τ)) := by
  have S1 : Sta K c H σ ρ ((v, .nd cn ds) :: (T ++ τ)) := S.perm (perm_mid _ _ _).symm
  obtain ⟨G, f1, f2, sub, tmp, own, nd, g0, k0, n0, gn⟩ := S1
  cases tmp with
  | @cons _ _ f _ g x t =>
    cases x with
    | fz z _ => rw [z.isO] at hc; cases hc
    | @ow a _ vs _ fc z ga l =>
      refine ⟨a, vs, rfl, z, l.length, fun cn' vs' ds' L o' hl' pm z' => ?_⟩
      have T2 : OwnT K G H ((vs.zip ds ++ T) ++ τ) (fc ++ g) := by
        rw [List.append_assoc]
        exact OwnT.unzip l t
      obtain ⟨g', pg, T3⟩ := T2.perm (pm.append_right τ)
      rw [List.append_assoc] at T3
      obtain ⟨g1, g2, rfl, l', t'⟩ := OwnT.zip hl' T3
      have p1 : ((fc ++ g) ++ f2).Perm ((g1 ++ g2) ++ f2) := pg.append_right f2
      have nd' := List.nodup_cons.mp (show (a :: ((fc ++ g) ++ f2)).Nodup from nd)
      have nda : a ∉ (g1 ++ g2) ++ f2 := fun h => nd'.1 (p1.mem_iff.mpr h)
      have ne : ∀ b, b ∈ (g1 ++ g2) ++ f2 → b ≠ a := fun b hb e => by subst e; exact nda hb
      have kp : ∀ b, b ≠ a → ∀ o, H b = some o → upd H a o' b = some o := fun b hb o e => by rw [upd_ne hb]; exact e
      have sub' : Same G (upd H a o') := fun b o e => by
        have hb : b ≠ a := fun q => by subst q; rw [ga] at e; cases e
        rw [upd_ne hb]; exact sub b o e
      have l2 := l'.mono (same_refl G) (fun b hb => kp b (ne b (by simp [hb]))) fun b hb => (l'.fp b hb).1
      have t2 := t'.mono (same_refl G) (fun b hb => kp b (ne b (by simp [hb]))) fun b hb => (t'.fp b hb).1
      have own2 := own.mono (same_refl G) (fun b hb => kp b (ne b (by simp [hb]))) fun b hb => (own.fp b hb).1
      refine ⟨G, (a :: g1) ++ g2, f2, sub', .cons (.ow z' ga l2) t2, own2, List.nodup_cons.mpr ⟨nda, p1.nodup_iff.mp nd'.2⟩, g0, fun b o e nb => ?_, fun b hb => ?_, gn⟩
      · have hb : b ≠ a := fun q => by
          subst q
          rcases n0 b List.mem_cons_self with h | h
          · exact nb h
          · rw [h] at e; cases e
        rw [upd_ne hb]; exact k0 b o e nb
      · rcases List.mem_cons.mp hb with h | h
        · exact n0 b (h ▸ List.mem_cons_self)
        · exact n0 b (List.mem_cons_of_mem _ (p1.mem_iff.mpr h))
end

/-! ### built-in calls -/
def rCall (K : PySem.W.Frag) (fo : List D → Option D) : List V → Hp → VK → Prop := fun xs H Q => ∃ c σ ρ τ ds dz, xs.length = ds.length ∧ Sta K c H σ ρ (xs.zip ds ++ τ) ∧ fo ds = some dz ∧ ∀ v H', Same H H' → Sta K c H' σ ρ ((v, dz) :: τ) → Q v H'
def mCB (fo : List D → Option D) (ma : M (List D)) : M D := bnd ma fun ds => lft (fo ds)
section
variable {X : Cx} {c : C0} {W : WW} {p : Bool} {pos pos' : Pos}
theorem rd_CB {fo : List D → Option D} {ma : M (List D)} {σ : L2.St} {H : Hp} {Q : VK} (h : rdE X.K c W p (mCB fo ma) σ H Q) : tCB (rCall X.K fo) (rdA X.K c W p ma) σ H Q := by
  obtain ⟨ρ, τ, S, q⟩ := h
  refine rdA_of S q (fun _ _ h => h) (fun h => h) fun ds ρ1 vs H1 s l S1 q1 => ?_
  cases e : fo ds with
  | none => rw [e] at q1; exact q1.elim
  | some z =>
    rw [e] at q1
    exact ⟨c, σ, ρ1, τ, ds, z, l, S1, e, fun v H' s' S' => q1 v H' (pp s fun _ => s') S'⟩
theorem ee_callB {x : Str} {id : String} {e : Expr} {es : List Expr} {fo : List D → Option D} {ma : M (List D)} (hc : CallR X (.builtin id) (rCall X.K fo)) (hg : Gl X x) (hm : X.mg x = none) (hv : bootBuiltins x = some (.builtin id)) (ha : EA X c W p (e :: es) ma) (hn : x ≠ "__name__" := by decide) (hdb : (x == ("__debug__" : Str)) = false := by decide)
    (he : starEach (e :: es) X.env = (false, eval e X.env) :: starEach es X.env := by rfl) (hpl : (backTo pos (starEach es X.env)).any (·.1) = false := by rfl) : EE X c W p (.Call (.Name x pos') (e :: es) [] pos) (mCB fo ma) :=
  pe_mono (pe_callB hc hg hm hv ha hn hdb he hpl) fun σ H Q h => rd_CB h
theorem ee_callTy {x : Str} {T : String} {e : Expr} {es : List Expr} {fo : List D → Option D} {ma : M (List D)} (hc : CallR X (.type T) (rCall X.K fo)) (hg : Gl X x) (hm : X.mg x = none) (hv : bootBuiltins x = some (.type T)) (ha : EA X c W p (e :: es) ma) (hn : x ≠ "__name__" := by decide) (hdb : (x == ("__debug__" : Str)) = false := by decide)
    (he : starEach (e :: es) X.env = (false, eval e X.env) :: starEach es X.env := by rfl) (hpl : (backTo pos (starEach es X.env)).any (·.1) = false := by rfl) : EE X c W p (.Call (.Name x pos') (e :: es) [] pos) (mCB fo ma) :=
  pe_mono (pe_callTy hc hg hm hv ha hn hdb he hpl) fun σ H Q h => rd_CB h
theorem Sta.args {K : PySem.W.Frag} {c : C0} {σ : L2.St} {H : Hp} {ρ : Env} {τ : List (V × D)} {vs : List V} {ds : List D} (l : vs.length = ds.length) (S : Sta K c H σ ρ (vs.zip ds ++ τ)) : ∃ G f, Same G H ∧ OwnL K G H vs ds f := by
  obtain ⟨G, f1, f2, sub, tmp, _⟩ := S
  obtain ⟨e1, e2, rfl, h1, h2⟩ := OwnT.zip l tmp
  exact ⟨G, e1, sub, h1⟩
/-- what gives back something that owns nothing, and lays nothing -/
theorem rCall_sc {K : PySem.W.Frag} {fo : List D → Option D} {r : List V → Hp → VK → Prop} (h : ∀ xs ds dz H Q, (∃ G f, Same G H ∧ OwnL K G H xs ds f) → fo ds = some dz → (∀ v, (∀ G H, Own K G H v dz []) → Q v H) → r xs H Q) : ∀ xs H Q, rCall K fo xs H Q → r xs H Q :=
  fun xs H Q ⟨c, σ, ρ, τ, ds, dz, l, S, e, q⟩ => h xs ds dz H Q (Sta.args l S) e fun v hv => q v H (same_refl H) (S.dropN.push fun G _ => hv G H)
theorem call_lenA : CallR X (.builtin "len") (fun xs H Q => ∃ a n, xs = [.ref a] ∧ ((∃ ys, SqL X.K H a ys ∧ n = ys.length) ∨ (∃ ys, SqT X.K H a ys ∧ n = ys.length) ∨ (∃ kvs, Rd H a (.dK kvs) ∧ n = kvs.length) ∨ (∃ kvs, Rd H a (.dT kvs) ∧ n = kvs.length)) ∧ Q (.int n) H) := by
  intro pins s σ H xs us Q I r h
  obtain ⟨a, n, rfl, h, q⟩ := h
  rcases h with ⟨ys, h, rfl⟩ | ⟨ys, h, rfl⟩ | ⟨kvs, h, rfl⟩ | ⟨kvs, h, rfl⟩
  · exact call_len pins s σ H _ us Q I r ⟨.ref a, ys.length, rfl, .inl ⟨ys, h, rfl⟩, q⟩
  · exact call_len pins s σ H _ us Q I r ⟨.ref a, ys.length, rfl, .inr ⟨ys, h, rfl⟩, q⟩
  · obtain ⟨u, rfl, ru⟩ := vals1 r
    cases ru
    exact d_len I h fun t s' I' => ⟨.int kvs.length, H, I', ⟨t, rfl⟩, q⟩
  · obtain ⟨u, rfl, ru⟩ := vals1 r
    cases ru
    obtain ⟨z, hd, ys, rel, dd⟩ := dt_rd I.hok h
    have hl : kvs.length = ys.length := Paired.length rel
    refine call_len_dictH hd dd (by rw [← hl]; rw [sizeLine_eq] at z; omega) ?_
    rw [← hl]
    exact ⟨.int ((kvs.length : Nat) : Int), H, I.tok _, ⟨_, rfl⟩, q⟩
def fLen : List D → Option D
  | [.nd _ ds] => some (.int ds.length)
  | [.str z] => if z.length ≤ sizeLine then some (.int z.length) else none
  | _ => none
theorem one_of {α : Type} {xs : List V} {a : α} (l : xs.length = [a].length) : ∃ x, xs = [x] := by
  cases xs with
  | nil => simp at l
  | cons x r =>
    cases r with
    | nil => exact ⟨x, rfl⟩
    | cons _ _ => simp at l
theorem two_of {α : Type} {xs : List V} {a b : α} (l : xs.length = [a, b].length) : ∃ x y, xs = [x, y] := by
  cases xs with
  | nil => simp at l
  | cons x r =>
    obtain ⟨y, rfl⟩ := one_of (a := b) (xs := r) (by simpa using l)
    exact ⟨x, y, rfl⟩
theorem c_len : CallR X (.builtin "len") (rCall X.K fLen) := callR_imp (callR_or call_lenA call_len_str) fun xs H Q ⟨c, σ, ρ, τ, ds, dz, l, S, e, q⟩ => by
  unfold fLen at e
  split at e
  · rename_i cn es
    cases e
    obtain ⟨x, rfl⟩ := one_of l
    obtain ⟨b, vs, rfl, hl, hf, S2⟩ := (show Sta X.K c H σ ρ ((x, .nd cn es) :: τ) from S).items
    refine .inl ⟨b, es.length, rfl, ?_, q _ H (same_refl H) (Sta.int (Sta.drop (show Sta X.K c H σ ρ ((V.ref b, .nd cn es) :: τ) from S)) _)⟩
    have zl : ∀ {κ : Type} (ks : List κ), ks.length = vs.length → es.length = (ks.zip vs).length := fun ks h => by simp [h, hl]
    cases cn with
    | tup =>
      rcases hf with hf | hf
      · exact .inr (.inl ⟨vs, .inl (.inl hf), hl.symm⟩)
      · exact hf.elim
    | lst o =>
      rcases hf with hf | hf
      · exact .inl ⟨vs, .inl hf.2, hl.symm⟩
      · exact .inl ⟨vs, .inl (.inl hf.2), hl.symm⟩
    | dic o ks => exact .inr (.inr (.inl ⟨ks.zip vs, hf.elim (fun h => h.2.2) fun h => .inl h.2.2, zl ks (hf.elim (fun h => h.2.1) fun h => h.2.1)⟩))
    | dit o ks => exact .inr (.inr (.inr ⟨ks.zip vs, hf.elim (fun h => h.2.2) fun h => .inl h.2.2, zl ks (hf.elim (fun h => h.2.1) fun h => h.2.1)⟩))
    | scr => exact .inl ⟨vs, hf.elim id fun h => h.elim, hl.symm⟩
  · rename_i z
    by_cases hz : z.length ≤ sizeLine
    · rw [if_pos hz] at e; cases e
      obtain ⟨x, rfl⟩ := one_of l
      have S' : Sta X.K c H σ ρ ((x, .str z) :: τ) := S
      cases S'.isStr
      exact .inr ⟨z, rfl, hz, q _ H (same_refl H) (S'.drop.int _)⟩
    · rw [if_neg hz] at e; cases e
  · cases e
def fAbs : List D → Option D
  | [.int i] => some (.int (if i < 0 then -i else i))
  | _ => none
theorem ownL1 {K : PySem.W.Frag} {G H : Hp} {xs : List V} {d : D} {f : List Addr} (h : OwnL K G H xs [d] f) : ∃ x g, xs = [x] ∧ Own K G H x d g := by
  cases h with
  | cons a b => cases b; exact ⟨_, _, rfl, a⟩
theorem ownL2 {K : PySem.W.Frag} {G H : Hp} {xs : List V} {d e : D} {f : List Addr} (h : OwnL K G H xs [d, e] f) : ∃ x y g g', xs = [x, y] ∧ Own K G H x d g ∧ Own K G H y e g' := by
  cases h with
  | cons a b =>
    obtain ⟨y, g, rfl, h⟩ := ownL1 b
    exact ⟨_, _, _, _, rfl, a, h⟩
theorem c_abs : CallR X (.builtin "abs") (rCall X.K fAbs) := callR_imp call_abs (rCall_sc fun xs ds dz H Q hx e k => by
  obtain ⟨G, f, s, o⟩ := hx
  unfold fAbs at e
  split at e
  · obtain ⟨x, g, rfl, o1⟩ := ownL1 o
    cases o1; cases e
    exact ⟨_, rfl, k _ fun _ _ => .int _⟩
  · cases e)
def fInt : List D → Option D
  | [.int i] => some (.int i)
  | [.bl b] => some (.int (if b then 1 else 0))
  | _ => none
theorem c_int : CallR X (.type "int") (rCall X.K fInt) := callR_imp call_int1 (rCall_sc fun xs ds dz H Q hx e k => by
  obtain ⟨G, f, s, o⟩ := hx
  unfold fInt at e
  split at e
  · obtain ⟨x, g, rfl, o1⟩ := ownL1 o
    cases o1; cases e
    exact .inl ⟨_, rfl, k _ fun _ _ => .int _⟩
  · obtain ⟨x, g, rfl, o1⟩ := ownL1 o
    cases o1; cases e
    exact .inr ⟨_, rfl, k _ fun _ _ => .int _⟩
  · cases e)
/-! all, any: a list of truths -/
def blsOf : List D → Option (List Bool)
  | [] => some []
  | .bl b :: ds => (blsOf ds).map (b :: ·)
  | _ => none
theorem bls_vals {K : PySem.W.Frag} {G H : Hp} : ∀ {ds : List D} {vs : List V} {bs : List Bool} {f : List Addr}, OwnL K G H vs ds f → blsOf ds = some bs → vs = bs.map V.bl
  | [], _, _, _, .nil, e => by cases e; rfl
  | d :: ds, _, bs, _, .cons x t, e => by
    cases d with
    | bl b =>
      have e : (blsOf ds).map (b :: ·) = some bs := e
      cases q : blsOf ds with
      | none => rw [q] at e; cases e
      | some r =>
        rw [q] at e; cases e
        rw [bls_vals t q]
        cases x; rfl
    | _ => cases e
def fAll : List D → Option D
  | [.nd (.lst _) ds] => (blsOf ds).map fun bs => .bl (bs.all id)
  | _ => none
def fAny : List D → Option D
  | [.nd (.lst _) ds] => (blsOf ds).map fun bs => .bl (bs.any id)
  | _ => none
theorem lst_of {K : PySem.W.Frag} {G H : Hp} {v : V} {o : Bool} {ds : List D} {f : List Addr} (s : Same G H) (h : Own K G H v (.nd (.lst o) ds) f) : ∃ a vs g, v = .ref a ∧ Rd H a (.lst vs) ∧ OwnL K G H vs ds g := by
  cases h with
  | fz z t => exact ⟨_, _, _, rfl, same_rd s z.2, t⟩
  | ow z _ t => exact ⟨_, _, _, rfl, .inl z.2, t⟩
end
section
variable {X : Cx} {c : C0} {W : WW} {p : Bool} {pos pos' : Pos}
theorem c_all (hr : CallR X (.builtin "all") (rAll X.K)) : CallR X (.builtin "all") (rCall X.K fAll) := callR_imp hr (rCall_sc fun xs ds dz H Q hx e k => by
  obtain ⟨G, f, s, o⟩ := hx
  unfold fAll at e
  split at e
  · rename_i oo es
    obtain ⟨x, g, rfl, o1⟩ := ownL1 o
    obtain ⟨a, vs, g2, rfl, hr, ol⟩ := lst_of s o1
    cases q : blsOf es with
    | none => rw [q] at e; cases e
    | some bs =>
      rw [q] at e; cases e
      have := bls_vals ol q
      subst this
      exact ⟨a, bs, rfl, .inl hr, k _ fun _ _ => .bl _⟩
  · cases e)
theorem c_any (hr : CallR X (.builtin "any") (rAny X.K)) : CallR X (.builtin "any") (rCall X.K fAny) := callR_imp hr (rCall_sc fun xs ds dz H Q hx e k => by
  obtain ⟨G, f, s, o⟩ := hx
  unfold fAny at e
  split at e
  · rename_i oo es
    obtain ⟨x, g, rfl, o1⟩ := ownL1 o
    obtain ⟨a, vs, g2, rfl, hr, ol⟩ := lst_of s o1
    cases q : blsOf es with
    | none => rw [q] at e; cases e
    | some bs =>
      rw [q] at e; cases e
      have := bls_vals ol q
      subst this
      exact ⟨a, bs, rfl, .inl hr, k _ fun _ _ => .bl _⟩
  · cases e)
/-! isinstance -/
def tyN : D → Option String
  | .non => some "NoneType"
  | .bl _ => some "bool"
  | .int _ => some "int"
  | .str _ => some "str"
  | .nd .tup _ => some "tuple"
  | .nd (.lst _) _ => some "list"
  | .nd (.dic _ _) _ => some "dict"
  | .nd (.dit true _) _ => some "dict"
  | .nd (.dit false _) _ => none
  | .nd .scr _ => none
theorem own_ty {K : PySem.W.Frag} {G H : Hp} {v : V} {d : D} {f : List Addr} {n : String} (s : Same G H) (h : Own K G H v d f) (e : tyN d = some n) : TyX K H v (.type n) := by
  cases h with
  | non => cases e; exact .base .non
  | bl b => cases e; exact .base (.bl b)
  | int i => cases e; exact .base (.int i)
  | str x => cases e; exact .base (.str x)
  | @fz a cn vs ds f z t =>
    cases cn with
    | tup => cases e; exact .base (.tup (s _ _ z))
    | lst o =>
      cases e
      rcases same_rd s z.2 with h | ⟨_, h⟩
      · exact .base (.lst h)
      · exact .base (.frz h)
    | dic o ks =>
      cases e
      rcases same_rd s z.2.2 with h | ⟨_, h⟩
      · exact .base (.dK h)
      · exact .fDict h
    | dit o ks =>
      obtain rfl := z.1
      cases e
    | scr => cases e
  | @ow a cn vs ds f z _ t =>
    cases cn with
    | tup => exact z.elim
    | lst o => cases e; exact .base (.lst z.2)
    | dic o ks => cases e; exact .base (.dK z.2.2)
    | dit o ks =>
      obtain rfl := z.1
      cases e
      exact .base (.dT z.2.2)
    | scr => exact z.elim
/-- isinstance(x, T) -/
def mIsi (T : String) (m : M D) : M D := bnd m fun d => lft ((tyN d).bind fun n => (kitB n T).map .bl)
theorem ee_isi {x y : Str} {T : String} {e : Expr} {m : M D} (hg : Gl X x) (hm : X.mg x = none) (hv : bootBuiltins x = some (.builtin "isinstance")) (hg' : Gl X y) (hm' : X.mg y = none) (hv' : bootBuiltins y = some (.type T)) (he : EE X c W p e m) (hn' : y ≠ "__name__" := by decide) (hdb' : (y == ("__debug__" : Str)) = false := by decide)
    (hn : x ≠ "__name__" := by decide) (hdb : (x == ("__debug__" : Str)) = false := by decide) {ps2 : Pos}
    (h1 : starEach [e, .Name y ps2] X.env = (false, eval e X.env) :: starEach [.Name y ps2] X.env := by rfl) (h2 : starEach [.Name y ps2] X.env = (false, eval (.Name y ps2) X.env) :: starEach [] X.env := by rfl)
    (hpl : (backTo pos (starEach [.Name y ps2] X.env)).any (·.1) = false := by rfl) : EE X c W p (.Call (.Name x pos') [e, .Name y ps2] [] pos) (mIsi T m) :=
  pe_mono (pe_callB call_isi hg hm hv (pa_cons he (pa_cons (pe_bltn (v := .ty T) hg' hm' hv' rfl hn' hdb') pa_nil h2) h1) hn hdb h1 hpl) fun σ H Q ⟨ρ, τ, S, q⟩ => by
    refine rdE_of S q (fun _ _ h => h) (fun h => h) fun d ρ1 v H1 s S1 q1 => ?_
    obtain ⟨G, f, sub, o⟩ := S1.hd
    cases e1 : tyN d with
    | none => rw [e1] at q1; exact q1.elim
    | some n =>
      cases e2 : kitB n T with
      | none => rw [e1] at q1; simp only [Option.bind_some, e2] at q1; exact q1.elim
      | some b =>
        rw [e1] at q1; simp only [Option.bind_some, e2] at q1
        exact ⟨v, .ty T, .type n, .type T, b, rfl, .ty T, own_ty sub o e1, kit_ty e2, q1 _ H1 s (S1.drop.bl b)⟩
def kitAnyB (n : String) : List String → Option Bool
  | [] => some false
  | T :: Ts => match kitB n T with
    | some true => some true
    | some false => kitAnyB n Ts
    | none => none
/-! ### displays -/
def mLst (ma : M (List D)) : M D := bnd ma fun ds => if ds.length ≤ sizeLine then pur (.nd (.lst true) ds) else fun _ => .stuck
def mTup (ma : M (List D)) : M D := bnd ma fun ds => if ds.length ≤ sizeLine then pur (.nd .tup ds) else fun _ => .stuck
theorem ee_lst {es : List Expr} {ma : M (List D)} (h : EA X c W p es ma) : EE X c W p (.List es pos) (mLst ma) := pe_mono (pe_lst h) fun σ H Q ⟨ρ, τ, S, q⟩ => by
  refine rdA_of S q (fun _ _ h => h) (fun h => h) fun ds ρ1 vs H1 s l S1 q1 => ?_
  by_cases hz : ds.length ≤ sizeLine
  · rw [if_pos hz] at q1
    refine ⟨by rw [l]; exact hz, fun a ha => q1 _ _ (pp s fun _ => same_upd ha) (Sta.newO l S1 ha ⟨rfl, upd_same⟩)⟩
  · rw [if_neg hz] at q1; exact q1.elim
theorem ee_tup {es : List Expr} {k : Nat} {ma : M (List D)} (h : EA X c W p es ma) : EE X c W p (.Tuple es k pos) (mTup ma) := pe_mono (pe_tup h) fun σ H Q ⟨ρ, τ, S, q⟩ => by
  refine rdA_of S q (fun _ _ h => h) (fun h => h) fun ds ρ1 vs H1 s l S1 q1 => ?_
  by_cases hz : ds.length ≤ sizeLine
  · rw [if_pos hz] at q1
    refine ⟨by rw [l]; exact hz, fun a ha => q1 _ _ (pp s fun _ => same_upd ha) (Sta.newT l S1 ha)⟩
  · rw [if_neg hz] at q1; exact q1.elim
theorem ee_dic0 : EE X c W p (.Dict [] [] pos) (pur (.nd (.dic true []) [])) := pe_mono pe_dnewK fun σ H Q ⟨ρ, τ, S, q⟩ a ha =>
  q _ _ (fun _ => same_upd ha) (Sta.newO (vs := []) (ds := []) rfl S ha ⟨rfl, rfl, upd_same⟩)
theorem ee_dit0 : EE X c W p (.Dict [] [] pos) (pur (.nd (.dit true []) [])) := pe_mono pe_dnewT fun σ H Q ⟨ρ, τ, S, q⟩ a ha =>
  q _ _ (fun _ => same_upd ha) (Sta.newO (vs := []) (ds := []) rfl S ha ⟨rfl, rfl, upd_same⟩)
/-- the pairs of a display: the keys ints and texts -/
def PR (X : Cx) (c : C0) (W : WW) (p : Bool) (pos : Pos) (ks : List (Option Expr)) (es : List Expr) (m : M (List Key × List D)) : Prop := ∃ trs, PPs X pos ks es trs ∧ ∀ σ H ρ τ (Q : List (V × V) → Hp → Prop), Sta X.K c H σ ρ τ →
  (match m ρ with
    | .ok (kk, ds) ρ' => ∀ vs H', (p = true → Same H H') → vs.length = ds.length → kk.length = ds.length → Sta X.K c H' σ ρ' (vs.zip ds ++ τ) → Q ((kk.map kV).zip vs) H'
    | .err e ρ' => ∀ H', Sta X.K c H' σ ρ' τ → W e σ H'
    | .stuck => False) → tPairs trs σ H Q
def toK (d : D) : M Key := fun ρ => match keyOf d with
  | some k => .ok k ρ
  | none => .stuck
def mPr (mk mv : M D) (mr : M (List Key × List D)) : M (List Key × List D) := bnd mk fun k => bnd (toK k) fun k => bnd mv fun v => bnd mr fun r => pur (k :: r.1, v :: r.2)
theorem pr_nil : PR X c W p pos [] [] (pur ([], [])) := ⟨[], pps_nil, fun σ H ρ τ Q S q => q [] H (fun _ => same_refl H) rfl rfl S⟩
theorem pr_cons {k v : Expr} {ks : List (Option Expr)} {es : List Expr} {mk mv : M D} {mr : M (List Key × List D)} (hk : EE X c W p k mk) (hv : EE X c W p v mv) (hr : PR X c W p pos ks es mr) : PR X c W p pos (some k :: ks) (v :: es) (mPr mk mv mr) := by
  obtain ⟨trs, h1, h2⟩ := hr
  refine ⟨(rdE X.K c W p mk, rdE X.K c W p mv) :: trs, pps_cons hk hv h1, fun σ H ρ τ Q S q => ?_⟩
  let Out : R Env (List Key × List D) → Prop := fun r => match r with
    | .ok (kk, ds) ρ' => ∀ vs H', (p = true → Same H H') → vs.length = ds.length → kk.length = ds.length → Sta X.K c H' σ ρ' (vs.zip ds ++ τ) → Q ((kk.map kV).zip vs) H'
    | .err e ρ' => ∀ H', Sta X.K c H' σ ρ' τ → W e σ H'
    | .stuck => False
  refine rdE_of (Out := Out) S q (fun _ _ h => h) (fun h => h) fun d ρ1 x H1 s1 S1 q1 => ?_
  cases ek : keyOf d with
  | none =>
    have : toK d ρ1 = .stuck := by unfold toK; rw [ek]
    unfold bnd at q1
    rw [this] at q1
    exact q1.elim
  | some kk =>
    have e1 : toK d ρ1 = .ok kk ρ1 := by unfold toK; rw [ek]
    have q2 : Out (bnd mv (fun v => bnd mr fun r => pur (kk :: r.1, v :: r.2)) ρ1) := by
      unfold bnd at q1
      rw [e1] at q1
      exact q1
    have ex : x = kV kk := by
      obtain ⟨_, _, _, o⟩ := S1.hd
      cases d with
      | int i => cases ek; cases o; rfl
      | str z => cases ek; cases o; rfl
      | _ => cases ek
    refine rdE_of (Out := Out) S1.drop q2 (fun _ _ h => h) (fun h => h) fun d2 ρ2 y H2 s2 S2 q3 => ?_
    refine h2 σ H2 ρ2 ((y, d2) :: τ) _ S2 ?_
    cases em : mr ρ2 with
    | ok r ρ3 =>
      obtain ⟨kr, dr⟩ := r
      unfold bnd at q3
      rw [em] at q3
      refine fun vs H3 s3 l3 l4 S3 => ?_
      have := q3 (y :: vs) H3 (pp s1 (pp s2 s3)) (by simp [l3]) (by simp [l4]) (S3.perm (perm_mid _ _ _).symm)
      rw [ex]
      exact this
    | err e ρ3 =>
      unfold bnd at q3
      rw [em] at q3
      exact fun H' S' => q3 H' S'.drop
    | stuck =>
      unfold bnd at q3
      rw [em] at q3
      exact q3.elim
def mDic (m : M (List Key × List D)) : M D := bnd m fun r => if r.1.Nodup ∧ r.1.length ≤ 15 then pur (.nd (.dic true r.1) r.2) else fun _ => .stuck
theorem merge_nd : ∀ (more kvs : List (Key × V)), ((kvs ++ more).map (·.1)).Nodup → mergeK kvs more = kvs ++ more
  | [], kvs, _ => by simp [mergeK]
  | x :: more, kvs, h => by
    have hn : valV kvs x.1 = none := by
      cases e : valV kvs x.1 with
      | none => rfl
      | some v =>
        exfalso
        have hm : x.1 ∈ kvs.map (·.1) := by
          unfold valV at e
          cases q : kvs.find? (fun kv => decide (kv.1 = x.1)) with
          | none => rw [q] at e; cases e
          | some z =>
            have h1 := List.find?_some q
            have h2 := List.mem_of_find?_eq_some q
            exact List.mem_map.mpr ⟨z, h2, of_decide_eq_true h1⟩
        rw [List.map_append] at h
        exact (List.nodup_append.mp h).2.2 x.1 hm x.1 (by simp) rfl
    have e1 : putK kvs x.1 x.2 = kvs ++ [x] := putK_new _ hn
    show mergeK (putK kvs x.1 x.2) more = _
    rw [e1, merge_nd more (kvs ++ [x]) (by simpa using h)]
    simp
theorem ee_dic {ks : List (Option Expr)} {es : List Expr} {m : M (List Key × List D)} (h : PR X c W p pos ks es m) (hall : ks.all (·.isSome) = true) (hl : ks.length = es.length) (h0 : ks ≠ []) (h15 : ks.length ≤ 15) : EE X c W p (.Dict ks es pos) (mDic m) := by
  obtain ⟨trs, h1, h2⟩ := h
  refine pe_mono (pe_disp h1 hall hl h0 h15) fun σ H Q ⟨ρ, τ, S, q⟩ a ha => ?_
  have S1 : Sta X.K c (upd H a (.dK [])) σ ρ ((.ref a, .nd (.dic true []) []) :: τ) := Sta.newO (vs := []) (ds := []) rfl S ha ⟨rfl, rfl, upd_same⟩
  refine h2 σ _ ρ _ _ S1 ?_
  unfold mDic bnd at q
  cases em : m ρ with
  | ok r ρ1 =>
    obtain ⟨kk, ds⟩ := r
    rw [em] at q
    refine fun vs H' s l l2 S2 => ?_
    dsimp only at q
    by_cases hk : kk.Nodup ∧ kk.length ≤ 15
    · rw [if_pos hk] at q
      obtain ⟨b, ws, e1, e2, e3, go⟩ := S2.mutT rfl
      cases e1
      cases ws with
      | cons _ _ => simp at e3
      | nil =>
        refine ⟨e2.2.2, kk.zip vs, ?_, by rw [List.length_zip]; omega, ?_⟩
        · have zz : ∀ (kk : List Key) (vs : List V), (kk.map kV).zip vs = (kk.zip vs).map fun kv => (kV kv.1, kv.2) := fun kk => by
            induction kk with
            | nil => intro vs; rfl
            | cons k kk ih =>
              intro vs
              cases vs with
              | nil => rfl
              | cons v vs => simp [ih]
          exact zz kk vs
        · have em2 : mergeK [] (kk.zip vs) = kk.zip vs := by
            have := merge_nd (kk.zip vs) [] (by simpa [List.map_fst_zip (show kk.length ≤ vs.length by omega)] using hk.1)
            simpa using this
          rw [em2]
          have S3 := go (.dic true kk) vs ds [] (.dK (kk.zip vs)) l (by simp) ⟨rfl, by omega, upd_same⟩
          refine q _ _ (fun hp => ?_) S3
          intro b o e
          have hb : b ≠ a := fun z => by subst z; rw [ha] at e; cases e
          have := s hp b o (by rw [upd_ne hb]; exact e)
          rw [upd_ne hb]; exact this
    · rw [if_neg hk] at q; exact q.elim
  | err e ρ1 =>
    rw [em] at q
    exact fun H' S' => q H' S'.drop
  | stuck => rw [em] at q; exact q.elim
end
end DL
/-! DLi: what is walked, comprehensions, stores. -/
namespace DL
open PySem PySem.Spec L2

section
variable {X : Cx} {c : C0} {W : WW} {p : Bool} {pos pos' : Pos}
/-- what is walked by its value: a list, a tuple, a text -/
def iAny (K : PySem.W.Frag) (te : TE) : TI := fun σ H R => te σ H fun x H1 => (∃ a xs, x = .ref a ∧ SqL K H1 a xs ∧ R (Itl K a) H1) ∨ (∃ a xs, x = .ref a ∧ SqT K H1 a xs ∧ R (Itt K a) H1) ∨ ∃ z, x = .str z ∧ R (Its z) H1
theorem pi_any {tg e : Expr} {te : TE} (he : PE X e te) : PI X tg e (iAny X.K te) := by
  refine ⟨fun pins s σ H R I h => ?_⟩
  refine thn (he.run pins s σ H _ I h) fun v s1 ⟨x, H1, I1, r1, q1⟩ => ?_
  rcases q1 with ⟨a, xs, rfl, hq, q⟩ | ⟨a, xs, rfl, hq, q⟩ | ⟨z, rfl, q⟩
  · cases r1
    obtain ⟨its, rv, p, hz⟩ := I1.list hq
    refine wpAny_pyIter_list p.isList ?_
    refine ⟨s1.heap.objs.size, [s1.heap.objs.size], _, _, H1, rfl, I1.kept (t' := s1.toks) fun b o e => Heap.get?_push_of_some _ e, turn_list a _, ⟨_, Heap.get?_push_size _ rfl, rfl, rfl⟩, fun b hb => ?_, q⟩
    have e : b = s1.heap.objs.size := by simpa using hb
    subst e
    exact I1.fpOk (Nat.le_refl _) (I1.hok.fresh (Nat.le_refl _))
  · cases r1
    obtain ⟨its, rv, p, hz⟩ := I1.tuple hq
    refine wpAny_pyIter_tuple (show s1.heap.IsTuple a its.toArray from p) ?_
    refine ⟨s1.heap.objs.size, [s1.heap.objs.size], _, _, H1, rfl, I1.kept (t' := s1.toks) fun b o e => Heap.get?_push_of_some _ e, turn_tuple a _, ⟨_, Heap.get?_push_size _ rfl, rfl, rfl⟩, fun b hb => ?_, q⟩
    have e : b = s1.heap.objs.size := by simpa using hb
    subst e
    exact I1.fpOk (Nat.le_refl _) (I1.hok.fresh (Nat.le_refl _))
  · obtain ⟨t, rfl⟩ := r1
    cases ha : z.cps.all (· < 128)
    · exact wpAny_pyIter_wide ha (pi_one (tk := s1.toks) I1 _ (turn_str _ z t "str_iterator" (.inr rfl)) ⟨_, Heap.get?_push_size _ rfl, rfl, rfl⟩ q)
    · exact wpAny_pyIter_ascii ha (pi_one (tk := s1.toks) I1 _ (turn_str _ z t "str_ascii_iterator" (.inl rfl)) ⟨_, Heap.get?_push_size _ rfl, rfl, rfl⟩ q)
def itemsD : D → Option (List D)
  | .nd .tup ds => some (ds.map D.frz)
  | .nd (.lst _) ds => some (ds.map D.frz)
  | .str z => some (z.cps.toList.map fun x => .str ⟨#[x]⟩)
  | _ => none
def mIt (m : M D) : M (List D) := bnd m fun d => lft (itemsD d)
/-- an item of a frozen sequence that stands among the temporaries -/
theorem Sta.itemAt {K : PySem.W.Frag} {c : C0} {σ : L2.St} {H : Hp} {ρ : Env} {τ : List (V × D)} {a : Addr} {cn : Con} {ds : List D} {vs : List V} {i : Nat} {d : D} (S : Sta K c H σ ρ ((.ref a, .nd cn ds) :: τ)) (hd : D.frz (.nd cn ds) = .nd cn ds) (hv : ∀ ws, cn.Fz K H a ws → ws = vs) (e : ds[i]? = some d) :
    ∃ w, vs[i]? = some w ∧ Sta K c H σ ρ ((w, d) :: (.ref a, .nd cn ds) :: τ) := by
  rw [frz_nd] at hd
  injection hd with hc hm
  have ed : d.frz = d := by
    have := congrArg (·[i]?) hm
    simp only [List.getElem?_map, e] at this
    exact Option.some.inj this
  have S' : Sta K c H σ ρ ((.ref a, .nd cn (ds.map D.frz)) :: τ) := by rw [hm]; exact S
  obtain ⟨w, h1, h2⟩ := S'.item hc hv e
  rw [ed, hm] at h2
  exact ⟨w, h1, h2⟩
theorem ei_any {tg e : Expr} {m : M D} (he : EE X c W false e m) : EI X c W tg e (mIt m) := pi_mono (pi_any he) fun σ H R' ⟨ρ, τ, S, q⟩ => by
  refine rdE_of S q (fun _ _ h => h) (fun h => h) fun d ρ1 v H1 s S1 q1 => ?_
  cases ei : itemsD d with
  | none => rw [ei] at q1; exact q1.elim
  | some es =>
    rw [ei] at q1
    have S2 := S1.frz
    cases d with
    | str z =>
      cases ei
      cases S1.isStr
      refine .inr (.inr ⟨z, rfl, q1 (Its z) [] H1 S1.drop fun H σ ρ τ S => ⟨fun i hi => ?_, ?_, fun i x H' d ed y => ?_⟩⟩)
      · show i < z.cps.size
        simpa using hi
      · show z.cps.size ≤ _
        simp
      · obtain ⟨rfl, ch, h1, rfl⟩ := y
        have e2 : d = .str ⟨#[ch]⟩ := by
          rw [List.getElem?_map] at ed
          have h3 : z.cps.toList[i]? = some ch := by simpa using h1
          rw [h3] at ed
          exact (Option.some.inj ed).symm
        subst e2
        exact S.str _
    | nd cn ds =>
      cases cn with
      | tup =>
        cases ei
        rw [frz_nd] at S2
        obtain ⟨a, vs, rfl, h1, h2⟩ := S2.isTup
        refine .inr (.inl ⟨a, vs, rfl, .inl (.inl h1), q1 (Itt X.K a) [(V.ref a, .nd .tup (ds.map D.frz))] H1 S2 fun H σ ρ τ S => ?_⟩)
        obtain ⟨a', vs', e, k1, k2⟩ := Sta.isTup S
        cases e
        refine ⟨fun i hi => ⟨vs', vs'[i]'(by omega), .inl (.inl k1), by simp [show i < vs'.length by omega]⟩, ⟨vs', .inl (.inl k1), by omega⟩, fun i x H' d ed y => ?_⟩
        obtain ⟨rfl, y⟩ := y
        have hx := y vs' (.inl (.inl k1))
        obtain ⟨w, h5, h6⟩ := Sta.itemAt (vs := vs') S (by rw [frz_nd]; simp [Con.frz, frz_frz]) (fun ws hw => by
          have hw : H' a = some (.tup ws) := hw
          rw [k1] at hw; cases hw; rfl) ed
        rw [hx] at h5; cases h5
        exact h6
      | lst o =>
        cases ei
        rw [frz_nd] at S2
        obtain ⟨a, vs, rfl, h1, h2⟩ := S2.isLst
        refine .inl ⟨a, vs, rfl, h1, q1 (Itl X.K a) [(V.ref a, .nd (.lst false) (ds.map D.frz))] H1 S2 fun H σ ρ τ S => ?_⟩
        obtain ⟨G, f, sub, x⟩ := Sta.hd S
        cases x with
        | ow z _ _ => exact nomatch z.1
        | @fz _ _ vs' _ _ z l =>
          have k1 : Rd H a (.lst vs') := same_rd sub z.2
          have k2 := l.length
          refine ⟨fun i hi => ⟨vs', vs'[i]'(by omega), .inl k1, by simp [show i < vs'.length by omega]⟩, ⟨vs', .inl k1, by omega⟩, fun i x H' d ed y => ?_⟩
          obtain ⟨rfl, y⟩ := y
          have hx := y vs' (.inl k1)
          obtain ⟨w, h5, h6⟩ := Sta.itemAt (vs := vs') S (by rw [frz_nd]; simp [Con.frz, frz_frz]) (fun ws hw => by
            rcases k1 with k1 | ⟨_, k1⟩
            · rcases hw.2 with hw | ⟨_, hw⟩
              · rw [k1] at hw; cases hw; rfl
              · rw [k1] at hw; cases hw
            · rcases hw.2 with hw | ⟨_, hw⟩
              · rw [k1] at hw; cases hw
              · rw [k1] at hw; cases hw; rfl) ed
          rw [hx] at h5; cases h5
          exact h6
      | dic o ks => cases ei
      | dit o ks => cases ei
      | scr => cases ei
    | non => cases ei
    | bl _ => cases ei
    | int _ => cases ei
/-- range(n), range(a, b) -/
@[irreducible] def smallI (i : Int) : Bool := decide (-(2 ^ 62) ≤ i ∧ i < 2 ^ 62)
def rangeD (i j : Int) : List D := (List.range (j - i).toNat).map fun k => .int (i + (k : Nat))
def mRange1 (m : M D) : M (List D) := bnd m fun d => match d with
  | .int j => if smallI j = true then pur (rangeD 0 j) else fun _ => .stuck
  | _ => fun _ => .stuck
def mRange2 (m n : M D) : M (List D) := bnd m fun d => bnd n fun e => match d, e with
  | .int i, .int j => if (smallI i && smallI j) = true then pur (rangeD i j) else fun _ => .stuck
  | _, _ => fun _ => .stuck
theorem jw_range {K : PySem.W.Frag} {c : C0} {i j : Int} {τ' : List (V × D)} : JW K c (Itr i (j - i).toNat) τ' (rangeD i j) := fun H σ ρ τ S => by
  have hl : (rangeD i j).length = (j - i).toNat := by simp [rangeD]
  refine ⟨fun k hk => by rw [hl] at hk; exact hk, by rw [hl]; exact Nat.le_refl _, fun k x H' d ed y => ?_⟩
  obtain ⟨rfl, rfl⟩ := y
  have e2 : d = .int (i + (k : Nat)) := by
    unfold rangeD at ed
    rw [List.getElem?_map] at ed
    cases q : (List.range (j - i).toNat)[k]? with
    | none => rw [q] at ed; cases ed
    | some n =>
      rw [q] at ed
      rw [List.getElem?_range (by
        have := (List.getElem?_eq_some_iff.mp q).1
        simpa using this)] at q
      cases q
      exact (Option.some.inj ed).symm
  subst e2
  exact S.int _
theorem ei_range1 {tg a : Expr} {m : M D} (hg : Gl X "range") (hm : X.mg "range" = none) (ha : EE X c W false a m) (hs : starEach [a] X.env = [(false, eval a X.env)] := by rfl) : EI X c W tg (.Call (.Name "range" pos') [a] [] pos) (mRange1 m) := pi_mono (pi_range1 hg hm (pa_cons ha pa_nil hs) hs) fun σ H R' ⟨ρ, τ, S, q⟩ => by
  refine rdE_of S q (fun _ _ h => h) (fun h => h) fun d ρ1 v H1 s S1 q1 => ?_
  split at q1
  · rename_i j
    by_cases hj : smallI j = true
    · rw [if_pos hj] at q1
      cases S1.isInt
      have hj' : -(2 ^ 62) ≤ j ∧ j < 2 ^ 62 := by unfold smallI at hj; exact of_decide_eq_true hj
      refine ⟨j, rfl, hj'.1, hj'.2, q1 _ [] H1 S1.drop ?_⟩
      have := jw_range (K := X.K) (c := c) (i := 0) (j := j) (τ' := [])
      rwa [Int.sub_zero] at this
    · rw [if_neg hj] at q1; exact q1.elim
  · exact q1.elim
theorem ei_range2 {tg a b : Expr} {m n : M D} (hg : Gl X "range") (hm : X.mg "range" = none) (ha : EE X c W false a m) (hb : EE X c W false b n) (hs : starEach [a, b] X.env = [(false, eval a X.env), (false, eval b X.env)] := by rfl) (hs2 : starEach [b] X.env = [(false, eval b X.env)] := by rfl) : EI X c W tg (.Call (.Name "range" pos') [a, b] [] pos) (mRange2 m n) := pi_mono (pi_range2 hg hm (pa_cons ha (pa_cons hb pa_nil hs2) (by rw [hs, hs2])) hs hs2) fun σ H R' ⟨ρ, τ, S, q⟩ => by
  refine rdE_of S q (fun _ _ h => h) (fun h => h) fun d ρ1 v H1 s S1 q1 => ?_
  refine rdE_of S1 q1 (fun _ _ h H' S' => h H' S'.drop) (fun h => h) fun e ρ2 v2 H2 s2 S2 q2 => ?_
  split at q2
  · rename_i i j
    by_cases hj : (smallI i && smallI j) = true
    · rw [if_pos hj] at q2
      obtain ⟨h1, h2⟩ := Bool.and_eq_true_iff.mp hj
      cases S2.isInt
      cases S2.drop.isInt
      have h1' : -(2 ^ 62) ≤ i ∧ i < 2 ^ 62 := by unfold smallI at h1; exact of_decide_eq_true h1
      have h2' : -(2 ^ 62) ≤ j ∧ j < 2 ^ 62 := by unfold smallI at h2; exact of_decide_eq_true h2
      exact ⟨i, j, rfl, ⟨h1'.1, h1'.2, h2'.1, h2'.2⟩, q2 _ [] H2 S2.drop.drop jw_range⟩
    · rw [if_neg hj] at q2; exact q2.elim
  · exact q2.elim

/-! ### comprehensions -/
def wipeE (ρ : Env) : List Nat → Env
  | [] => ρ
  | v :: vs => (wipeE ρ vs).set v none
def restE (ρ : Env) : List Nat → Env → Env
  | [], ρ' => ρ'
  | v :: vs, ρ' => restE ρ vs (match ρ[v]? with
    | some (some d) => ρ'.set v (some d)
    | _ => ρ')
def Con0 : Unit := ()
theorem wipeE_length (ρ : Env) : ∀ vs : List Nat, (wipeE ρ vs).length = ρ.length
  | [] => rfl
  | v :: vs => by unfold wipeE; rw [List.length_set, wipeE_length ρ vs]
theorem wipeE_ne (ρ : Env) {j : Nat} : ∀ {vs : List Nat}, j ∉ vs → (wipeE ρ vs)[j]? = ρ[j]?
  | [], _ => rfl
  | v :: vs, h => by
    unfold wipeE
    rw [List.getElem?_set_ne (fun e => h (by subst e; exact List.mem_cons_self)), wipeE_ne ρ fun q => h (List.mem_cons_of_mem _ q)]
theorem wipeE_in (ρ : Env) {j : Nat} (hj : j < ρ.length) : ∀ {vs : List Nat}, j ∈ vs → (wipeE ρ vs)[j]? = some none
  | [], h => nomatch h
  | v :: vs, h => by
    unfold wipeE
    by_cases e : v = j
    · subst e; simp [wipeE_length, hj]
    · rw [List.getElem?_set_ne e]
      exact wipeE_in ρ hj ((List.mem_cons.mp h).resolve_left (Ne.symm e))
section
variable {K : PySem.W.Frag} {c : C0} {σ : L2.St} {H : Hp} {ρ : Env} {τ : List (V × D)}
/-- an open slot's value does not matter -/
theorem OwnS.open {G : Hp} {j : Nat} {x : Option V} : ∀ {σ : L2.St} {ρ : Env} {f : List Addr}, OwnS K G H σ ρ f → (∀ d, ρ[j]? ≠ some (some d)) → OwnS K G H (σ.set j x) ρ f := by
  induction j with
  | zero =>
    intro σ ρ f h hn
    cases h with
    | nil => exact .nil
    | no t => exact .no t
    | yes a t => exact (hn _ rfl).elim
  | succ j ih =>
    intro σ ρ f h hn
    cases h with
    | nil => exact .nil
    | no t => exact .no (ih t fun d e => hn d (by simpa using e))
    | yes a t => exact .yes a (ih t fun d e => hn d (by simpa using e))
theorem Sta.open {j : Nat} {x : Option V} (S : Sta K c H σ ρ τ) (hn : ∀ d, ρ[j]? ≠ some (some d)) : Sta K c H (σ.set j x) ρ τ := by
  obtain ⟨G, f1, f2, sub, tmp, own, nd, g0, k0, n0, gn⟩ := S
  exact ⟨G, f1, f2, sub, tmp, own.open hn, nd, g0, k0, n0, gn⟩
theorem Sta.clear {j : Nat} (S : Sta K c H σ ρ τ) : Sta K c H σ (ρ.set j none) τ := by
  by_cases h : ∃ d, ρ[j]? = some (some d)
  · obtain ⟨d, h⟩ := h
    obtain ⟨v, _, S2⟩ := S.out h
    exact S2.drop
  · have e : ρ.set j none = ρ := by
      apply List.ext_getElem?
      intro i
      by_cases hi : j = i
      · subst hi
        rw [List.getElem?_set]
        simp only [if_true]
        by_cases hl : j < ρ.length
        · rw [if_pos hl]
          have hq : ρ[j]? = some ρ[j] := by simp [hl]
          cases q : ρ[j] with
          | none => rw [hq, q]
          | some d => exact (h ⟨d, by rw [hq, q]⟩).elim
        · rw [if_neg hl, List.getElem?_eq_none (by omega)]
      · rw [List.getElem?_set_ne hi]
    rw [e]; exact S
theorem Sta.wipe (S : Sta K c H σ ρ τ) : ∀ vs : List Nat, Sta K c H (wipe σ vs) (wipeE ρ vs) τ
  | [] => S
  | v :: vs => by
    have S1 := (Sta.wipe S vs).clear (j := v)
    refine S1.open fun d e => ?_
    by_cases hl : v < (wipeE ρ vs).length
    · rw [List.getElem?_set_self hl] at e; cases e
    · rw [List.getElem?_eq_none (by simp; omega)] at e; cases e
/-- the slots vs are taken out, and given back -/
theorem Sta.save : ∀ (vs : List Nat), vs.Nodup → Sta K c H σ ρ τ → ∃ tv, Sta K c H (L2.wipe σ vs) (wipeE ρ vs) (tv ++ τ) ∧ ∀ H' ρ' τ', ρ'.length = ρ.length → (∀ j ∈ vs, ∀ d, ρ'[j]? ≠ some (some d)) → Sta K c H' (L2.wipe σ vs) ρ' (tv ++ τ') → Sta K c H' σ (restE ρ vs ρ') τ'
  | [], _, S => ⟨[], S, fun H' ρ' τ' _ _ S' => S'⟩
  | v :: vs, hn, S => by
    obtain ⟨nv, nvs⟩ := List.nodup_cons.mp hn
    obtain ⟨tv, S1, back⟩ := Sta.save vs nvs S
    have hs : ∀ (x y : Option V), ((L2.wipe σ vs).set v x).set v y = (L2.wipe σ vs).set v y := fun x y => by rw [List.set_set]
    have eg : (wipeE ρ vs)[v]? = ρ[v]? := wipeE_ne ρ nv
    by_cases h : ∃ d, ρ[v]? = some (some d)
    · obtain ⟨d, h⟩ := h
      obtain ⟨u, h1, S2⟩ := S1.out (eg.trans h)
      have hv : v < ρ.length := (List.getElem?_eq_some_iff.mp h).1
      refine ⟨(u, d) :: tv, S2.open (fun e q => by rw [List.getElem?_set_self (by rw [wipeE_length]; exact hv)] at q; cases q), fun H' ρ' τ' hl ho S' => ?_⟩
      have hσ : v < (L2.wipe σ vs).length := (List.getElem?_eq_some_iff.mp h1).1
      have S3 : Sta K c H' (L2.wipe σ vs) ρ' ((u, d) :: (tv ++ τ')) := by
        have S3 := Sta.open (j := v) (x := some u) S' (ho v List.mem_cons_self)
        have e : (L2.wipe σ (v :: vs)).set v (some u) = L2.wipe σ vs := by
          show ((L2.wipe σ vs).set v none).set v (some u) = _
          rw [List.set_set]
          apply List.ext_getElem?
          intro i
          by_cases hi : v = i
          · subst hi; rw [List.getElem?_set_self hσ]; exact h1.symm
          · rw [List.getElem?_set_ne hi]
        rw [e] at S3
        exact S3
      have hn0 : ρ'[v]? = some none := by
        have hq : ρ'[v]? = some (ρ'[v]'(by omega)) := by simp [show v < ρ'.length by omega]
        cases q : ρ'[v]'(by omega) with
        | none => rw [hq, q]
        | some d => exact (ho v List.mem_cons_self d (by rw [hq, q])).elim
      have S4 := S3.back hn0 h1
      unfold restE
      rw [h]
      refine back H' _ τ' (by rw [List.length_set]; exact hl) (fun j hj e => ?_) S4
      have nj : v ≠ j := fun z => nv (z ▸ hj)
      rw [List.getElem?_set_ne nj]
      exact ho j (List.mem_cons_of_mem _ hj) e
    · have hno : ∀ d, ρ[v]? ≠ some (some d) := fun d e => h ⟨d, e⟩
      have S2 := S1.clear (j := v)
      refine ⟨tv, S2.open (fun e q => ?_), fun H' ρ' τ' hl ho S' => ?_⟩
      · by_cases hv : v < ρ.length
        · rw [List.getElem?_set_self (by rw [wipeE_length]; exact hv)] at q; cases q
        · rw [List.getElem?_eq_none (by simp [wipeE_length]; omega)] at q; cases q
      · have e1 : restE ρ (v :: vs) ρ' = restE ρ vs ρ' := by
          show restE ρ vs (match ρ[v]? with
            | some (some d) => ρ'.set v (some d)
            | _ => ρ') = _
          cases q : ρ[v]? with
          | none => rfl
          | some o =>
            cases o with
            | none => rfl
            | some d => exact (hno d q).elim
        rw [e1]
        refine back H' ρ' τ' hl (fun j hj => ho j (List.mem_cons_of_mem _ hj)) ?_
        have S3 := Sta.open (j := v) (x := (L2.wipe σ vs)[v]?.join) S' (ho v List.mem_cons_self)
        have e : (L2.wipe σ (v :: vs)).set v ((L2.wipe σ vs)[v]?.join) = L2.wipe σ vs := by
          show ((L2.wipe σ vs).set v none).set v _ = _
          rw [List.set_set]
          apply List.ext_getElem?
          intro i
          by_cases hi : v = i
          · subst hi
            by_cases hv : v < (L2.wipe σ vs).length
            · rw [List.getElem?_set_self hv]
              have hq : (L2.wipe σ vs)[v]? = some (L2.wipe σ vs)[v] := by simp [hv]
              rw [hq]; rfl
            · rw [List.getElem?_eq_none (by simp; omega), List.getElem?_eq_none (by omega)]
          · rw [List.getElem?_set_ne hi]
        rw [e] at S3
        exact S3
end
/-- the slots but vs -/
def cpl (n : Nat) (vs : List Nat) : List Nat := (List.range n).filter fun i => !vs.contains i
theorem wipe_pin {n : Nat} {vs : List Nat} {σ σ2 : L2.St} (h : Pin (cpl n vs) (wipe σ vs) σ2) (hl : σ.length = n) (hl2 : σ2.length = n) : wipe σ2 vs = wipe σ vs := by
  have hw : ∀ (σ : L2.St) (j : Nat), j ∈ vs → j < σ.length → (wipe σ vs)[j]? = some none := fun σ j hj hlt => by
    have : ∀ {us : List Nat}, j ∈ us → (wipe σ us)[j]? = some none := by
      intro us
      induction us with
      | nil => intro h; exact nomatch h
      | cons v us ih =>
        intro h
        show ((wipe σ us).set v none)[j]? = _
        by_cases e : v = j
        · subst e; rw [List.getElem?_set_self (by rw [wipe_length]; exact hlt)]
        · rw [List.getElem?_set_ne e]; exact ih ((List.mem_cons.mp h).resolve_left (Ne.symm e))
    exact this hj
  have hn : ∀ (σ : L2.St) (j : Nat), j ∉ vs → (wipe σ vs)[j]? = σ[j]? := fun σ j hj => by
    have : ∀ {us : List Nat}, j ∉ us → (wipe σ us)[j]? = σ[j]? := by
      intro us
      induction us with
      | nil => intro _; rfl
      | cons v us ih =>
        intro h
        show ((wipe σ us).set v none)[j]? = _
        rw [List.getElem?_set_ne (fun e => h (by subst e; exact List.mem_cons_self)), ih fun q => h (List.mem_cons_of_mem _ q)]
    exact this hj
  apply List.ext_getElem?
  intro j
  by_cases hj : j < n
  · by_cases hm : j ∈ vs
    · rw [hw σ2 j hm (by omega), hw σ j hm (by omega)]
    · rw [hn σ2 j hm]
      exact h j (List.mem_filter.mpr ⟨List.mem_range.mpr hj, by simpa using hm⟩)
  · rw [List.getElem?_eq_none (by rw [wipe_length]; omega), List.getElem?_eq_none (by rw [wipe_length]; omega)]
def mComp (tg : D → M Unit) (tt : M Bool) (te : M D) (vs : List Nat) : List D → List D → M (List D)
  | [], acc => pur acc
  | d :: ds, acc => fun ρ => match tg d (wipeE ρ vs) with
    | .ok _ ρ1 => if ρ1.length = ρ.length then (match tt ρ1 with
      | .ok true ρ2 => (match te ρ2 with
        | .ok y ρ3 => if acc.length < sizeLine then mComp tg tt te vs ds (acc ++ [y]) ρ3 else .stuck
        | _ => .stuck)
      | .ok false ρ2 => mComp tg tt te vs ds acc ρ2
      | _ => .stuck) else .stuck
    | _ => .stuck
def mLc (mi : M (List D)) (tg : D → M Unit) (tt : M Bool) (te : M D) (vs : List Nat) : M D := bnd mi fun ds ρ => match mComp tg tt te vs ds [] (wipeE ρ vs) with
  | .ok acc ρ' => if ρ'.length = ρ.length then .ok (.nd (.lst true) acc) (restE ρ vs (wipeE ρ' vs)) else .stuck
  | _ => .stuck
def W0 : WW := fun _ _ _ => False
def mYes : M Bool := pur true
/-- a clause's tests -/
def EPs (X : Cx) (c : C0) (W : WW) (es : List Expr) (m : M Bool) : Prop := PTs X es (rdT X.K c W false m)
theorem eps_nil : EPs X c W [] mYes := ⟨fun pins s σ H Q I ⟨ρ, τ, S, q⟩ => pts_nil.run pins s σ H Q I (q H (fun h => nomatch h) S)⟩
theorem eps_one {e : Expr} {m : M Bool} (h : ET X c W false e m) : EPs X c W [e] m := ⟨fun pins s σ H Q I q => (pts_one h).run pins s σ H Q I q⟩
theorem rd_lc {σ : L2.St} {H : Hp} {Q : VK} {mi : M (List D)} {tg : D → M Unit} {tt : M Bool} {te : M D} {vs : List Nat} {n : Nat} (nvs : vs.Nodup) (hn : σ.length = n) (h : rdE X.K c W false (mLc mi tg tt te vs) σ H Q) :
    tLc (rdI X.K c W mi) (rdG X.K c W0 (cpl n vs) tg) (rdT X.K c W0 false tt) (rdE X.K c W0 false te) vs σ H Q := by
  obtain ⟨ρ0, τ, S0, q0⟩ := h
  refine ⟨ρ0, τ, S0, ?_⟩
  unfold mLc bnd at q0
  split at q0
  · rename_i ds ρ1 e1
    rw [e1]
    refine fun J τ' H1 S1 jw D0 hD => ?_
    obtain ⟨tv, S2, back⟩ := Sta.save vs nvs S1
    have S3 : Sta X.K c (upd H1 D0 (.lst [])) (wipe σ vs) (wipeE ρ1 vs) ((.ref D0, .nd (.lst true) []) :: (tv ++ (τ' ++ τ))) := Sta.newO (vs := []) (ds := []) rfl S2 hD ⟨rfl, upd_same⟩
    let rest : List (V × D) → List (V × D) := fun t => t
    have pm1 : ∀ (x : V × D), (x :: (tv ++ (τ' ++ τ))).Perm (τ' ++ (x :: (tv ++ τ))) := fun x => by
      refine List.Perm.trans (.cons x ?_) (perm_mid x τ' (tv ++ τ))
      rw [← List.append_assoc, ← List.append_assoc]
      exact List.perm_append_comm.append_right τ
    let Fin : R Env (List D) → Prop := fun r => match r with
      | .ok acc ρ' => ρ'.length = ρ1.length ∧ ∀ v H', Sta X.K c H' σ (restE ρ1 vs (wipeE ρ' vs)) ((v, .nd (.lst true) acc) :: τ) → Q v H'
      | _ => False
    have qf : Fin (mComp tg tt te vs ds [] (wipeE ρ1 vs)) := by
      dsimp only at q0
      split at q0
      · rename_i acc ρ' e2
        by_cases hl : ρ'.length = ρ1.length
        · rw [if_pos hl] at q0
          rw [e2]
          exact ⟨hl, fun v H' S => q0 v H' (fun h => nomatch h) S⟩
        · rw [if_neg hl] at q0; exact q0.elim
      · exact q0.elim
    clear q0
    refine ⟨fun i m H => m = ds.length - i ∧ i ≤ ds.length ∧ ∃ ρ acc, Sta X.K c H (wipe σ vs) (wipeE ρ vs) (τ' ++ ((.ref D0, .nd (.lst true) acc) :: (tv ++ τ))) ∧ Fin (mComp tg tt te vs (ds.drop i) acc ρ), ⟨ds.length, by simp, Nat.zero_le _, wipeE ρ1 vs, [], ?_, by rw [List.drop_zero]; exact qf⟩, ?_⟩
    · have S4 := S3.perm (pm1 _)
      have := S4.wipe vs
      have e : wipe (wipe σ vs) vs = wipe σ vs := wipe_pin (n := n) (Pin.refl _ _) hn (by rw [wipe_length]; exact hn)
      rw [e] at this
      exact this
    · rintro i m H ⟨rfl, hi, ρ, acc, S, q⟩
      obtain ⟨j1, j2, j3⟩ := jw H (wipe σ vs) (wipeE ρ vs) ((.ref D0, .nd (.lst true) acc) :: (tv ++ τ)) S
      by_cases hlt : i < ds.length
      · right
        have ed : ds[i]? = some ds[i] := by simp [hlt]
        rw [List.drop_eq_getElem_cons hlt] at q
        refine ⟨j1 i hlt, fun H' => ∃ ρ acc, Sta X.K c H' (wipe σ vs) (wipeE ρ vs) (τ' ++ ((.ref D0, .nd (.lst true) acc) :: (tv ++ τ))) ∧ Fin (mComp tg tt te vs (ds.drop (i + 1)) acc ρ), fun H' ⟨ρ', acc', S', q'⟩ => ⟨ds.length - (i + 1), by omega, rfl, hlt, ρ', acc', S', q'⟩, fun x H' y => ?_⟩
        have S5 := j3 i x H' _ ed y
        refine ⟨_, wipeE ρ vs, _, S5, ?_⟩
        unfold mComp at q
        split at q
        · rename_i a ρ2 e2
          rw [e2]
          refine fun σ2 H2 p2 S6 => ?_
          by_cases hll : ρ2.length = ρ.length
          case neg => rw [if_neg hll] at q; exact q.elim
          rw [if_pos hll] at q
          have hl2 : σ2.length = n := by
            have h1 := S.len
            rw [wipe_length, wipeE_length] at h1
            rw [S6.len, hll, ← h1, hn]
          have ew := wipe_pin p2 hn hl2
          refine ⟨ew, ρ2, _, S6, ?_⟩
          split at q
          · rename_i ρ3 e3
            rw [e3]
            refine fun H3 _ S7 => ?_
            change if true = true then _ else _
            rw [if_pos rfl]
            refine ⟨ρ3, _, S7, ?_⟩
            split at q
            · rename_i y ρ4 e4
              rw [e4]
              refine fun v H4 _ S8 => ?_
              by_cases hz : acc.length < sizeLine
              · rw [if_pos hz] at q
                have S9 : Sta X.K c H4 σ2 ρ4 ([(v, y)] ++ (.ref D0, .nd (.lst true) acc) :: (τ' ++ (tv ++ τ))) := S8.perm (.cons _ (perm_mid _ _ _).symm)
                obtain ⟨a0, ws, ea, eo, el, go⟩ := S9.mutT rfl
                cases ea
                refine ⟨ws, eo.2, by omega, ρ4, acc ++ [y], ?_, q⟩
                have S10 := go (.lst true) (ws ++ [v]) (acc ++ [y]) [] (.lst (ws ++ [v])) (by simp [el]) (by rw [List.zip_append el]; simp) ⟨rfl, upd_same⟩
                have S11 := (S10.wipe vs).perm (perm_mid _ τ' (tv ++ τ))
                rw [ew] at S11
                exact S11
              · rw [if_neg hz] at q; exact q.elim
            · exact q.elim
          · rename_i ρ3 e3
            rw [e3]
            refine fun H3 _ S7 => ?_
            change if false = true then _ else _
            rw [if_neg (by decide)]
            refine ⟨ρ3, acc, ?_, q⟩
            have S8 := S7.wipe vs
            rw [ew] at S8
            exact S8
          · exact q.elim
        · exact q.elim
      · left
        have e : i = ds.length := by omega
        subst e
        rw [List.drop_length] at q
        refine ⟨j2, ?_⟩
        obtain ⟨hl, q⟩ := q
        refine q _ H (back H (wipeE ρ vs) _ (by rw [wipeE_length]; exact hl) (fun j hj d e => ?_) ?_)
        · by_cases hlt : j < ρ.length
          · rw [wipeE_in ρ hlt hj] at e; cases e
          · rw [List.getElem?_eq_none (by rw [wipeE_length]; omega)] at e; cases e
        · have S4 := S.perm (List.perm_append_comm.trans (show (((V.ref D0, D.nd (.lst true) acc) :: (tv ++ τ)) ++ τ').Perm (tv ++ ((V.ref D0, D.nd (.lst true) acc) :: τ) ++ τ') from (perm_mid _ tv τ).append_right τ'))
          exact Sta.dropN (τ' := τ') (S4.perm (List.perm_append_comm)) 
  · rename_i x ρ1 e1
    rw [e1]
    exact q0
  · exact q0.elim
end
end DL
/-! DLj: comprehensions as rules, sums of sequences, slices, stores, methods. -/
namespace DL
open PySem PySem.Spec L2

section
variable {X : Cx} {c : C0} {W : WW} {p : Bool} {pos pos' : Pos}
theorem ee_lc {elt tg iter : Expr} {ifs : List Expr} {scope : Scope} {own : List (Str × Nat)} {mi : M (List D)} {t : D → M Unit} {mt : M Bool} {me : M D} (n : Nat) (hn : X.N.length = n) (nd : (own.map (·.2)).Nodup) (hc : X.calm = true) (hN : X.N.Nodup) (hi : EI X c W tg iter mi) (ok : BlkOk X.N X.env.scope scope own)
    (hg : ∀ (s : Shared) (H : Hp) (C : Addr) (cl : List (Str × Addr)) (fp : List Addr), EG (X.blk s H scope (compEnvC scope cl C X.env) fp) c W0 (cpl n (own.map (·.2))) tg t) (ht : ∀ (s : Shared) (H : Hp) (C : Addr) (cl : List (Str × Addr)) (fp : List Addr), EPs (X.blk s H scope (compEnvC scope cl C X.env) fp) c W0 ifs mt)
    (he : ∀ (s : Shared) (H : Hp) (C : Addr) (cl : List (Str × Addr)) (fp : List Addr), EE (X.blk s H scope (compEnvC scope cl C X.env) fp) c W0 false elt me) (hs : ∀ x, foldedSetIterable iter X.env x = pure x := by intro _; rfl) :
    EE X c W false (.ListComp elt [⟨tg, iter, ifs, 0⟩] scope pos) (mLc mi t mt me (own.map (·.2))) :=
  ⟨fun pins s σ H Q I h => (pe_lc (wi := rdI X.K c W mi) (g := rdG X.K c W0 (cpl n (own.map fun (q : Str × Nat) => q.2)) t) (tt := rdT X.K c W0 false mt) (te := rdE X.K c W0 false me) hc hN hi ok hg ht he hs).run pins s σ H Q I (rd_lc nd (I.len.trans hn) h)⟩
theorem ss_lc {i : Nat} {y : Str} {py spos : Pos} {elt tg iter : Expr} {ifs : List Expr} {scope : Scope} {own : List (Str × Nat)} {P : List Nat} {mi : M (List D)} {t : D → M Unit} {mt : M Bool} {me : M D} (n : Nat) (hP : i ∉ P) (hn : X.N.length = n) (nd : (own.map (·.2)).Nodup) (hc : X.calm = true) (hN : X.N.Nodup) (hy : X.N[i]? = some y) (hyl : X.env.scope.names.lookup y = some .local)
    (hsw : swapsWith (.ListComp elt [⟨tg, iter, ifs, 0⟩] scope pos) (some (.Name y py)) spos.line X.env = pure true) (hi : EI X c W tg iter mi) (ok : BlkOk X.N X.env.scope scope own)
    (hg : ∀ (s : Shared) (H : Hp) (C : Addr) (cl : List (Str × Addr)) (fp : List Addr), EG (X.blk s H scope (compEnvC scope cl C X.env) fp) c W0 (cpl n (own.map (·.2))) tg t) (ht : ∀ (s : Shared) (H : Hp) (C : Addr) (cl : List (Str × Addr)) (fp : List Addr), EPs (X.blk s H scope (compEnvC scope cl C X.env) fp) c W0 ifs mt)
    (he : ∀ (s : Shared) (H : Hp) (C : Addr) (cl : List (Str × Addr)) (fp : List Addr), EE (X.blk s H scope (compEnvC scope cl C X.env) fp) c W0 false elt me) (hs : ∀ x, foldedSetIterable iter X.env x = pure x := by intro _; rfl) :
    SS X c W P (.Assign [.Name y py] (.ListComp elt [⟨tg, iter, ifs, 0⟩] scope pos) spos) (mAsg (tgN i) (mLc mi t mt me (own.map (·.2)))) :=
  ⟨fun pins s σ H Dn I h => (ps_setLc (wi := rdI X.K c W mi) (g := rdG X.K c W0 (cpl n (own.map fun (q : Str × Nat) => q.2)) t) (tt := rdT X.K c W0 false mt) (te := rdE X.K c W0 false me) hc hN hy hyl hsw hi ok hg ht he hs).run pins s σ H Dn I (by
    obtain ⟨ρ, τ, S, q⟩ := h
    refine rd_lc nd (I.len.trans hn) ?_
    refine rdE_of S q (fun e ρ' h H' S' => h σ H' (Pin.refl _ _) S') (fun h => h) fun d ρ1 v H1 s S1 q1 => ?_
    unfold tgN bnd at q1
    dsimp only at q1
    by_cases hl : i < ρ1.length
    · rw [if_pos hl] at q1
      exact q1 _ H1 (Pin.set hP) (S1.put hl)
    · rw [if_neg hl] at q1; exact q1.elim)⟩
/-- a constant of the module -/
theorem ee_gstr {x z : Str} {t : Tok} (hg : Gl X x) (hm : X.mg x = some (.str z t)) (hd : (x == ("__debug__" : Str)) = false := by decide) : EE X c W p (.Name x pos) (pur (.str z)) := ee_c (v := .str z) (pe_glob hg hm ⟨t, rfl⟩ hd) fun _ _ => .str z
theorem ee_gint {x : Str} {i : Int} {t : Tok} (hg : Gl X x) (hm : X.mg x = some (.int i t)) (hd : (x == ("__debug__" : Str)) = false := by decide) : EE X c W p (.Name x pos) (pur (.int i)) := ee_c (v := .int i) (pe_glob hg hm ⟨t, rfl⟩ hd) fun _ _ => .int i
/-! a minus ahead -/
def mUn (fo : D → Option D) (m : M D) : M D := bnd m fun d => lft (fo d)
def fNeg : D → Option D
  | .int i => some (.int (-i))
  | _ => none
theorem ee_neg {a : Expr} {m : M D} (ha : EE X c W p a m) : EE X c W p (.UnaryOp .USub a pos) (mUn fNeg m) := pe_mono (pe_un un_neg ha) fun σ H Q ⟨ρ, τ, S, q⟩ => by
  refine rdE_of S q (fun _ _ h => h) (fun h => h) fun d ρ1 v H1 s S1 q1 => ?_
  cases d with
  | int i =>
    cases S1.isInt
    exact ⟨i, rfl, q1 _ H1 s (S1.drop.int _)⟩
  | _ => exact q1.elim

/-! ### + -/
def fAdd : D → D → Option D
  | .int i, .int j => some (.int (i + j))
  | .str x, .str y => if x.length + y.length ≤ sizeLine then some (.str (x ++ y)) else none
  | .nd (.lst _) xs, .nd (.lst _) ys => if xs.length + ys.length ≤ sizeLine then some (.nd (.lst true) ((xs ++ ys).map D.frz)) else none
  | .nd .tup xs, .nd .tup ys => if xs.length + ys.length ≤ sizeLine then some (.nd .tup ((xs ++ ys).map D.frz)) else none
  | _, _ => none
/-- list + list, whatever lists are read -/
def rCatL : R2 := fun x y H Q => ∃ l b xs zs, x = .ref l ∧ y = .ref b ∧ Rd H l (.lst xs) ∧ Rd H b (.lst zs) ∧ xs.length + zs.length ≤ sizeLine ∧ ∀ p, H p = none → Q (.ref p) (upd H p (.lst (xs ++ zs)))
theorem op_catL : OpR X (binaryOp .Add) rCatL := by
  intro pins s σ H x y v u Q I rx ry h
  obtain ⟨l, b, xs, zs, rfl, rfl, hH, hB, hz, q⟩ := h
  cases rx
  cases ry
  obtain ⟨z1, its, n, r, e⟩ := hH.ok I.hok
  obtain ⟨z2, its2, n2, r2, e2⟩ := hB.ok I.hok
  have h1 := r.length
  have h2 := r2.length
  refine PySem.P.add_list e e2 ?_ (by rw [List.size_toArray, List.size_toArray]; omega)
  have ea : its.toArray ++ its2.toArray = (its ++ its2).toArray := by simp
  rw [ea]
  exact ⟨.ref _, _, I.lnew (t' := s.toks) (r.append r2) (by rw [List.length_append]; omega), rfl, q _ I.fresh⟩
theorem items_two {K : PySem.W.Frag} {c : C0} {σ : L2.St} {H : Hp} {ρ : Env} {τ : List (V × D)} {x y : V} {c1 c2 : Con} {ds es : List D} (S : Sta K c H σ ρ ((y, .nd c2 es) :: (x, .nd c1 ds) :: τ)) : ∃ a b vs ws, x = .ref a ∧ y = .ref b ∧ vs.length = ds.length ∧ ws.length = es.length ∧ (c1.Fz K H a vs ∨ c1.Ow H a vs) ∧ (c2.Fz K H b ws ∨ c2.Ow H b ws) ∧ Sta K c H σ ρ ((vs ++ ws).zip ((ds ++ es).map D.frz) ++ τ) := by
  obtain ⟨b, ws, rfl, l2, f2, S2⟩ := S.items
  have S3 : Sta K c H σ ρ ((x, .nd c1 ds) :: (ws.zip (es.map D.frz) ++ τ)) := S2.perm (perm_mid _ _ _).symm
  obtain ⟨a, vs, rfl, l1, f1, S4⟩ := S3.items
  refine ⟨a, b, vs, ws, rfl, rfl, l1, l2, f1, f2, ?_⟩
  rw [List.map_append, List.zip_append (by simp [l1]), List.append_assoc]
  exact S4
theorem sq_l {K : PySem.W.Frag} {H : Hp} {a : Addr} {vs : List V} {o : Bool} (h : Con.Fz K H a vs (.lst o) ∨ Con.Ow H a vs (.lst o)) : Rd H a (.lst vs) := by
  rcases h with h | h
  · exact h.2
  · exact .inl h.2
theorem sq_t {K : PySem.W.Frag} {H : Hp} {a : Addr} {vs : List V} (h : Con.Fz K H a vs .tup ∨ Con.Ow H a vs .tup) : H a = some (.tup vs) := by
  rcases h with h | h
  · exact h
  · exact h.elim
theorem o_add : OpR X (binaryOp .Add) (rOp2 X.K fAdd) := opR_imp (opR_or op_add (opR_or op_add_str (opR_or op_catL op_catA))) fun x y H Q ⟨c, σ, ρ, τ, dx, dy, dz, S, e, q⟩ => by
  unfold fAdd at e
  split at e
  · cases e
    cases S.isInt
    cases S.drop.isInt
    exact .inl ⟨_, _, rfl, rfl, q _ H (same_refl H) (S.drop.drop.int _)⟩
  · rename_i a b
    by_cases hz : a.length + b.length ≤ sizeLine
    · rw [if_pos hz] at e; cases e
      cases S.isStr
      cases S.drop.isStr
      exact .inr (.inl ⟨_, _, rfl, rfl, hz, q _ H (same_refl H) (S.drop.drop.str _)⟩)
    · rw [if_neg hz] at e; cases e
  · rename_i o1 ds o2 es
    by_cases hz : ds.length + es.length ≤ sizeLine
    · rw [if_pos hz] at e; cases e
      obtain ⟨a, b, vs, ws, rfl, rfl, l1, l2, f1, f2, S2⟩ := items_two S
      refine .inr (.inr (.inl ⟨a, b, vs, ws, rfl, rfl, sq_l f1, sq_l f2, by omega, fun p hp => q _ _ (same_upd hp) (Sta.newO (by simp [l1, l2]) S2 hp ⟨rfl, upd_same⟩)⟩))
    · rw [if_neg hz] at e; cases e
  · rename_i ds es
    by_cases hz : ds.length + es.length ≤ sizeLine
    · rw [if_pos hz] at e; cases e
      have S0 := S
      obtain ⟨a, b, vs, ws, rfl, rfl, l1, l2, f1, f2, S2⟩ := items_two S
      refine .inr (.inr (.inr ⟨a, b, vs, ws, rfl, rfl, .inl (.inl (sq_t f1)), .inl (.inl (sq_t f2)), by omega, fun hx => ?_, fun hx hy => ?_, fun _ _ p hp => q _ _ (same_upd hp) (Sta.newT (by simp [l1, l2]) S2 hp)⟩))
      · subst hx
        have : ds = [] := List.length_eq_zero_iff.mp (by simpa using l1.symm)
        subst this
        have S5 := (S0.perm (.swap _ _ _)).drop.frz
        rw [frz_nd] at S5
        exact q _ H (same_refl H) S5
      · subst hy
        have : es = [] := List.length_eq_zero_iff.mp (by simpa using l2.symm)
        subst this
        have S5 := S0.drop.frz
        rw [frz_nd] at S5
        rw [List.append_nil] at q
        exact q _ H (same_refl H) S5
    · rw [if_neg hz] at e; cases e
  · cases e

/-! ### slices -/
theorem eo_none : EO X c W p none (pur none) := ⟨fun pins s σ H Q I ⟨ρ, τ, S, q⟩ => po_none.run pins s σ H Q I (q H (fun _ => same_refl H) S)⟩
def mPart (m : M D) : M (Option Int) := bnd m fun d => match d with
  | .int i => pur (some i)
  | _ => fun _ => .stuck
theorem eo_some {e : Expr} {m : M D} (h : EE X c W p e m) : EO X c W p (some e) (mPart m) := ⟨fun pins s σ H Q I ⟨ρ, τ, S, q⟩ => (po_some h).run pins s σ H Q I (by
  refine rdE_of S q (fun _ _ h => h) (fun h => h) fun d ρ1 v H1 s S1 q1 => ?_
  cases d with
  | int i => exact ⟨i, S1.isInt, q1 H1 s S1.drop⟩
  | _ => exact q1.elim)⟩
def cutD (xs : List D) (lo hi : Option Int) : List D := (xs.drop (HT.sIx xs.length 0 lo)).take (HT.sIx xs.length xs.length hi - HT.sIx xs.length 0 lo)
def fSl (d : D) (lo hi : Option Int) : Option D := match d with
  | .str z => if z.length ≤ sizeLine then some (.str (cutS z lo hi)) else none
  | .nd (.lst _) ds => some (.nd (.lst true) ((cutD ds lo hi).map D.frz))
  | .nd .tup ds => some (.nd .tup ((cutD ds lo hi).map D.frz))
  | _ => none
def mSlice (m : M D) (l h : M (Option Int)) : M D := bnd m fun d => bnd l fun a => bnd h fun b => lft (fSl d a b)
def rSlAll (K : PySem.W.Frag) : V → Option Int → Option Int → Hp → VK → Prop := fun x lo hi H Q => rSlS x lo hi H Q ∨ rSlL K x lo hi H Q ∨ rSlA K x lo hi H Q
theorem sl_all : SlR X (rSlAll X.K) := sl_str.or (sl_list.or sl_tupA)
theorem zip_drop {α β : Type} : ∀ (n : Nat) (xs : List α) (ys : List β), (xs.zip ys).drop n = (xs.drop n).zip (ys.drop n)
  | 0, _, _ => rfl
  | n + 1, [], ys => by simp
  | n + 1, _ :: _, [] => by simp
  | n + 1, _ :: xs, _ :: ys => by simpa using zip_drop n xs ys
theorem zip_take {α β : Type} : ∀ (n : Nat) (xs : List α) (ys : List β), (xs.zip ys).take n = (xs.take n).zip (ys.take n)
  | 0, _, _ => by simp
  | n + 1, [], ys => by simp
  | n + 1, _ :: _, [] => by simp
  | n + 1, _ :: xs, _ :: ys => by simpa using zip_take n xs ys
theorem zip_cut {vs : List V} {ds : List D} (h : vs.length = ds.length) (lo hi : Option Int) : (cutV vs lo hi).zip (cutD ds lo hi) = ((vs.zip ds).drop (HT.sIx ds.length 0 lo)).take (HT.sIx ds.length ds.length hi - HT.sIx ds.length 0 lo) := by
  unfold cutV cutD
  rw [h, zip_drop, zip_take]
theorem cutD_map (f : D → D) (ds : List D) (lo hi : Option Int) : (cutD ds lo hi).map f = cutD (ds.map f) lo hi := by
  unfold cutD
  rw [List.map_take, List.map_drop, List.length_map]
theorem cut_len {vs : List V} {ds : List D} (h : vs.length = ds.length) (lo hi : Option Int) : (cutV vs lo hi).length = (cutD ds lo hi).length := by
  unfold cutV cutD
  simp [h]
theorem perm_cut {α : Type} (l : List α) (i k : Nat) : l.Perm ((l.drop i).take k ++ (l.take i ++ (l.drop i).drop k)) := by
  have e1 : l = l.take i ++ ((l.drop i).take k ++ (l.drop i).drop k) := by
    rw [List.take_append_drop, List.take_append_drop]
  refine (List.Perm.of_eq e1).trans ?_
  rw [← List.append_assoc, ← List.append_assoc]
  exact List.perm_append_comm.append_right _
/-- the children of a cut, the others dropped -/
theorem Sta.cut {K : PySem.W.Frag} {c : C0} {σ : L2.St} {H : Hp} {ρ : Env} {τ : List (V × D)} {vs : List V} {ds : List D} (h : vs.length = ds.length) (lo hi : Option Int) (S : Sta K c H σ ρ (vs.zip ds ++ τ)) : Sta K c H σ ρ ((cutV vs lo hi).zip (cutD ds lo hi) ++ τ) := by
  rw [zip_cut h]
  have S2 := S.perm ((perm_cut (vs.zip ds) (HT.sIx ds.length 0 lo) (HT.sIx ds.length ds.length hi - HT.sIx ds.length 0 lo)).append_right τ)
  rw [List.append_assoc] at S2
  have S3 := S2.perm (List.perm_append_comm)
  rw [List.append_assoc] at S3
  have S4 := Sta.dropN S3
  exact S4.perm List.perm_append_comm
theorem ee_slice {e : Expr} {lo hi : Option Expr} {p2 : Pos} {m : M D} {ml mh : M (Option Int)} (he : EE X c W p e m) (hl : EO X c W p lo ml) (hh : EO X c W p hi mh) : EE X c W p (.Subscript e (.Slice lo hi none p2) pos) (mSlice m ml mh) := pe_mono (pe_slice sl_all he hl hh) fun σ H Q ⟨ρ, τ, S, q⟩ => by
  refine rdE_of S q (fun _ _ h => h) (fun h => h) fun d ρ1 v H1 s1 S1 q1 => ?_
  refine rdO_of S1 q1 (fun _ _ h H' S' => h H' S'.drop) (fun h => h) fun a ρ2 H2 s2 S2 q2 => ?_
  refine rdO_of S2 q2 (fun _ _ h H' S' => h H' S'.drop) (fun h => h) fun b ρ3 H3 s3 S3 q3 => ?_
  have ps : p = true → Same H H3 := pp s1 (pp s2 s3)
  cases ef : fSl d a b with
  | none => rw [ef] at q3; exact q3.elim
  | some z =>
    rw [ef] at q3
    cases d with
    | str w =>
      have ef : (if w.length ≤ sizeLine then some (D.str (cutS w a b)) else none) = some z := ef
      by_cases hz : w.length ≤ sizeLine
      · rw [if_pos hz] at ef; cases ef
        cases S3.isStr
        exact .inl ⟨w, rfl, hz, q3 _ H3 ps (S3.drop.str _)⟩
      · rw [if_neg hz] at ef; cases ef
    | nd cn ds =>
      cases cn with
      | lst o =>
        cases ef
        obtain ⟨x, vs, rfl, l, f, S4⟩ := S3.items
        refine .inr (.inl ⟨x, vs, rfl, .inl (sq_l f), fun p' hp => q3 _ _ (pp ps fun _ => same_upd hp) ?_⟩)
        have S5 := Sta.cut (by simp [l]) a b S4
        rw [cutD_map]
        exact Sta.newO (cut_len (by simp [l]) a b) S5 hp ⟨rfl, upd_same⟩
      | tup =>
        cases ef
        have S0 := S3
        obtain ⟨x, vs, rfl, l, f, S4⟩ := S3.items
        have S5 := Sta.cut (by simp [l]) a b S4
        refine .inr (.inr ⟨x, vs, rfl, .inl (.inl (sq_t f)), fun hw => ?_, fun _ p' hp => q3 _ _ (pp ps fun _ => same_upd hp) ?_⟩)
        · have S6 := S0.frz
          rw [frz_nd] at S6
          have ec : cutD ds a b = ds := by
            unfold cutD
            rw [← l, hw.1, hw.2]
            simp [l]
          rw [ec] at q3
          exact q3 _ H3 ps S6
        · rw [cutD_map]
          exact Sta.newT (cut_len (by simp [l]) a b) S5 hp
      | dic o ks => cases ef
      | dit o ks => cases ef
      | scr => cases ef
    | non => cases ef
    | bl _ => cases ef
    | int _ => cases ef
end
end DL
/-! DLk: stores, methods that change their object. -/
namespace DL
open PySem PySem.Spec L2

theorem zip_set {α β : Type} : ∀ (j : Nat) (xs : List α) (ys : List β) (x : α) (y : β), (xs.set j x).zip (ys.set j y) = (xs.zip ys).set j (x, y)
  | _, [], _, _, _ => by simp
  | _, _ :: _, [], _, _ => by simp
  | 0, _ :: _, _ :: _, _, _ => by simp
  | j + 1, _ :: xs, _ :: ys, x, y => by simpa using zip_set j xs ys x y
theorem zip_set1 {α β : Type} : ∀ (j : Nat) (xs : List α) (ys : List β) (a : α) (y : β), xs[j]? = some a → xs.zip (ys.set j y) = (xs.zip ys).set j (a, y)
  | _, [], _, _, _, h => by simp at h
  | _, _ :: _, [], _, _, _ => by simp
  | 0, _ :: _, _ :: _, a, _, h => by simp at h; simp [h]
  | j + 1, _ :: xs, _ :: ys, a, y, h => by simpa using zip_set1 j xs ys a y (by simpa using h)
theorem perm_set {α : Type} : ∀ (l : List α) (j : Nat) (x y : α), l[j]? = some y → (l ++ [x]).Perm (l.set j x ++ [y])
  | [], _, _, _, h => by simp at h
  | a :: l, 0, x, y, h => by
    simp at h; subst h
    simp only [List.set_cons_zero, List.cons_append]
    refine (List.Perm.cons a (List.perm_append_comm (l₁ := l) (l₂ := [x]))).trans ?_
    simp only [List.singleton_append]
    refine (List.Perm.swap x a l).trans (.cons x ?_)
    exact (List.perm_append_comm (l₁ := l) (l₂ := [a])).symm
  | a :: l, j + 1, x, y, h => by
    simp only [List.set_cons_succ, List.cons_append]
    exact (perm_set l j x y (by simpa using h)).cons a
theorem zip_get {α β : Type} {xs : List α} {ys : List β} {j : Nat} {a : α} {b : β} (h1 : xs[j]? = some a) (h2 : ys[j]? = some b) : (xs.zip ys)[j]? = some (a, b) := by
  simp [List.zip, List.getElem?_zipWith, h1, h2]
section
variable {κ : Type} [DecidableEq κ]
theorem putK_old : ∀ {ks : List κ} {vs : List V} {k : κ} {j : Nat} (v : V), ks.length = vs.length → ks.Nodup → findK ks k = some j → putK (ks.zip vs) k v = ks.zip (vs.set j v) := by
  intro ks vs k j v hl nd hf
  have hany : (ks.zip vs).any (fun kv => decide (kv.1 = k)) = true := by
    obtain ⟨h1, h2⟩ := findK_lt hf
    have hv : vs[j]? = some (vs[j]'(by omega)) := by simp [show j < vs.length by omega]
    exact List.any_eq_true.mpr ⟨_, List.mem_of_getElem? (zip_get h2 hv), by simp⟩
  unfold putK
  rw [if_pos hany]
  clear hany
  induction ks generalizing vs j with
  | nil => unfold findK at hf; cases hf
  | cons a as ih =>
    cases vs with
    | nil => simp at hl
    | cons w ws =>
      obtain ⟨na, nds⟩ := List.nodup_cons.mp nd
      unfold findK at hf
      by_cases e : a = k
      · rw [if_pos e] at hf; cases hf
        subst e
        simp only [List.zip_cons_cons, List.map_cons, if_true, List.set_cons_zero]
        congr 1
        have : ∀ p ∈ as.zip ws, (if p.1 = a then (p.1, v) else p) = p := fun p hp => by
          rw [if_neg]
          intro z
          exact na (z ▸ (List.of_mem_zip (show (p.1, p.2) ∈ as.zip ws from hp)).1)
        rw [List.map_congr_left this, List.map_id']
      · rw [if_neg e] at hf
        cases q : findK as k with
        | none => rw [q] at hf; cases hf
        | some i =>
          rw [q] at hf; cases hf
          simp only [List.zip_cons_cons, List.map_cons, List.set_cons_succ, if_neg e]
          rw [ih (by simpa using hl) nds q]
theorem findK_none : ∀ {ks : List κ} {k : κ}, findK ks k = none → k ∉ ks
  | [], _, _ => by simp
  | a :: as, k, h => by
    unfold findK at h
    by_cases e : a = k
    · rw [if_pos e] at h; cases h
    · rw [if_neg e] at h
      cases q : findK as k with
      | none => simp [Ne.symm e, findK_none q]
      | some i => rw [q] at h; cases h
theorem putK_fresh {ks : List κ} {vs : List V} {k : κ} (v : V) (hl : ks.length = vs.length) (hf : findK ks k = none) : putK (ks.zip vs) k v = (ks ++ [k]).zip (vs ++ [v]) := by
  have hn : (ks.zip vs).any (fun kv => decide (kv.1 = k)) = false := by
    rw [List.any_eq_false]
    intro p hp
    have := (List.of_mem_zip (show (p.1, p.2) ∈ ks.zip vs from hp)).1
    intro e
    exact findK_none hf (of_decide_eq_true e ▸ this)
  unfold putK
  rw [hn, if_neg (by decide), List.zip_append hl]
  rfl
end
/-- an item, an entry stored -/
def stK {κ : Type} [DecidableEq κ] (mk : List κ → Con) (ks : List κ) (ds : List D) (k : κ) (d : D) : Option (Con × List D) := if ds.length < sizeLine ∧ ks.length = ds.length then (match findK ks k with
  | some j => if ks.Nodup then some (mk ks, ds.set j d) else none
  | none => some (mk (ks ++ [k]), ds ++ [d])) else none
theorem stK_some {κ : Type} [DecidableEq κ] {mk : List κ → Con} {ks : List κ} {ds ds' : List D} {k : κ} {d : D} {cn : Con} (h : stK mk ks ds k d = some (cn, ds')) : ds.length < sizeLine ∧ ks.length = ds.length ∧
    ((∃ j, findK ks k = some j ∧ ks.Nodup ∧ cn = mk ks ∧ ds' = ds.set j d) ∨ (findK ks k = none ∧ cn = mk (ks ++ [k]) ∧ ds' = ds ++ [d])) := by
  unfold stK at h
  split at h
  · rename_i hl
    refine ⟨hl.1, hl.2, ?_⟩
    split at h
    · rename_i j ej
      split at h
      · rename_i nd
        cases h
        exact .inl ⟨j, ej, nd, rfl, rfl⟩
      · cases h
    · rename_i ej
      cases h
      exact .inr ⟨ej, rfl, rfl⟩
  · cases h
def stD (cn : Con) (ds : List D) (k d : D) : Option (Con × List D) := match cn, k with
  | .lst true, .int i => (ixN ds.length i).map fun j => (.lst true, ds.set j d)
  | .dic true ks, .int i => stK (.dic true) ks ds (Sum.inl i : Key) d
  | .dic true ks, .str x => stK (.dic true) ks ds (Sum.inr x : Key) d
  | .dit true ks, .nd .tup ys => (keysOf ys).bind fun q => stK (.dit true) ks ds q d
  | _, _ => none
def rSetA : V → V → V → Hp → (Hp → Prop) → Prop := fun o i v H Q => rSetL o i v H Q ∨ ∃ a H', o = .ref a ∧ DPut H a i v H' ∧ Q H'
section
variable {X : Cx} {c : C0} {W : WW} {p : Bool} {pos pos' : Pos} {P : List Nat}
theorem set_all (hu : X.A.units + 1 < cLine) : PSet X rSetA := by
  intro pins s σ H o i v ov iv u Q I ro ri rv h
  rcases h with h | ⟨a, H', rfl, g, q⟩
  · exact set_list pins s σ H o i v ov iv u Q I ro ri rv h
  · cases ro
    exact d_setItem hu I g ri rv fun s' I' => ⟨H', I', q⟩
/-- the state behind a store at a place -/
theorem store_at {K : PySem.W.Frag} {c : C0} {σ : L2.St} {H : Hp} {ρ : Env} {τ : List (V × D)} {i : Nat} {π : List Nat} {cn cn' : Con} {ds ds' : List D} {u x kv v : V} {k d : D} {Q : Hp → Prop} (S : Sta K c H σ ρ ((kv, k) :: (v, d) :: τ)) (ha : atP ρ i π = some (.nd cn ds)) (hs : stD cn ds k d = some (cn', ds')) (e1 : σ[i]? = some (some u)) (e2 : VAt H u π x)
    (q : ∀ H', Sta K c H' σ (putP ρ i π (.nd cn' ds')) τ → Q H') : rSetA x kv v H Q := by
  obtain ⟨d0, h1, h2, h3⟩ := atP_some ha
  have hc : cn.isO = true := by
    unfold stD at hs
    split at hs <;> first
      | rfl
      | cases hs
  obtain ⟨G, f, sub, ok⟩ := S.hd
  have S1 : Sta K c H σ ρ ([(v, d)] ++ τ) := S.drop
  obtain ⟨u', a, vs, k1, k2, k3, k4, go⟩ := S1.mut h1 h2 hc
  rw [e1] at k1; cases k1
  have := e2.inj k2
  subst this
  have sto : ∀ (j : Nat) (cn2 : Con) (o : HO), j < ds.length → cn2.Ow (upd H a o) a (vs.set j v) → Sta K c (upd H a o) σ (putP ρ i π (.nd cn2 (ds.set j d))) τ := fun j cn2 o hj hw => by
    have hv : vs[j]? = some (vs[j]'(by omega)) := by simp [show j < vs.length by omega]
    have hd : ds[j]? = some ds[j] := by simp [hj]
    rw [h3]
    exact (go cn2 (vs.set j v) (ds.set j d) [(_, _)] o (by simp [k4]) (by rw [zip_set]; exact perm_set _ _ _ _ (zip_get hv hd)) hw).drop
  have app : ∀ (cn2 : Con) (o : HO), cn2.Ow (upd H a o) a (vs ++ [v]) → Sta K c (upd H a o) σ (putP ρ i π (.nd cn2 (ds ++ [d]))) τ := fun cn2 o hw => by
    rw [h3]
    exact go cn2 (vs ++ [v]) (ds ++ [d]) [] o (by simp [k4]) (by rw [List.zip_append k4]; simp) hw
  unfold stD at hs
  split at hs
  · rename_i ii
    cases ej : ixN ds.length ii with
    | none => rw [ej] at hs; cases hs
    | some j =>
      rw [ej] at hs; cases hs
      cases ok
      exact .inl ⟨a, vs, ii, j, rfl, rfl, k3.2, by rw [k4]; exact ej, q _ (sto j (.lst true) _ (ixN_lt ej) ⟨rfl, upd_same⟩)⟩
  · rename_i ks ii
    cases ok
    obtain ⟨hz, hl0, h | h⟩ := stK_some hs
    · obtain ⟨j, ej, nd, rfl, rfl⟩ := h
      have hl : ks.length = vs.length := by omega
      refine .inr ⟨a, _, rfl, .inl ⟨_, .inl ii, k3.2.2, rfl, by rw [List.length_zip]; omega, rfl⟩, ?_⟩
      rw [putK_old v hl nd ej]
      exact q _ (sto j (.dic true ks) _ (by have := (findK_lt ej).1; omega) ⟨rfl, by simp [hl], upd_same⟩)
    · obtain ⟨ej, rfl, rfl⟩ := h
      have hl : ks.length = vs.length := by omega
      refine .inr ⟨a, _, rfl, .inl ⟨_, .inl ii, k3.2.2, rfl, by rw [List.length_zip]; omega, rfl⟩, ?_⟩
      rw [putK_fresh v hl ej]
      exact q _ (app (.dic true (ks ++ [.inl ii])) _ ⟨rfl, by simp [hl], upd_same⟩)
  · rename_i ks z
    cases ok
    obtain ⟨hz, hl0, h | h⟩ := stK_some hs
    · obtain ⟨j, ej, nd, rfl, rfl⟩ := h
      have hl : ks.length = vs.length := by omega
      refine .inr ⟨a, _, rfl, .inl ⟨_, .inr z, k3.2.2, rfl, by rw [List.length_zip]; omega, rfl⟩, ?_⟩
      rw [putK_old v hl nd ej]
      exact q _ (sto j (.dic true ks) _ (by have := (findK_lt ej).1; omega) ⟨rfl, by simp [hl], upd_same⟩)
    · obtain ⟨ej, rfl, rfl⟩ := h
      have hl : ks.length = vs.length := by omega
      refine .inr ⟨a, _, rfl, .inl ⟨_, .inr z, k3.2.2, rfl, by rw [List.length_zip]; omega, rfl⟩, ?_⟩
      rw [putK_fresh v hl ej]
      exact q _ (app (.dic true (ks ++ [.inr z])) _ ⟨rfl, by simp [hl], upd_same⟩)
  · rename_i ks ys
    cases eq : keysOf ys with
    | none => rw [eq] at hs; cases hs
    | some kk =>
      rw [eq] at hs
      have hs : stK (.dit true) ks ds kk d = some (cn', ds') := hs
      cases ok with
      | ow zz _ _ => exact zz.elim
      | @fz b _ ws _ _ zz ll =>
        have := keysOf_vals ll eq
        subst this
        obtain ⟨hz, hl0, h | h⟩ := stK_some hs
        · obtain ⟨j, ej, nd, rfl, rfl⟩ := h
          have hl : ks.length = vs.length := by omega
          refine .inr ⟨a, _, rfl, .inr ⟨_, kk, b, k3.2.2, rfl, sub _ _ zz, by rw [List.length_zip]; omega, rfl⟩, ?_⟩
          rw [putK_old v hl nd ej]
          exact q _ (sto j (.dit true ks) _ (by have := (findK_lt ej).1; omega) ⟨rfl, by simp [hl], upd_same⟩)
        · obtain ⟨ej, rfl, rfl⟩ := h
          have hl : ks.length = vs.length := by omega
          refine .inr ⟨a, _, rfl, .inr ⟨_, kk, b, k3.2.2, rfl, sub _ _ zz, by rw [List.length_zip]; omega, rfl⟩, ?_⟩
          rw [putK_fresh v hl ej]
          exact q _ (app (.dit true (ks ++ [kk])) _ ⟨rfl, by simp [hl], upd_same⟩)
  · cases hs
/-- place[key] = value -/
def tgSub (mo : M Pl) (mk : M D) : D → M Unit := fun d => bnd mo fun pl => bnd mk fun k => match pl with
  | .at i π => fun ρ => match atP ρ i π with
    | some (.nd cn ds) => (match stD cn ds k d with
      | some (cn', ds') => .ok () (putP ρ i π (.nd cn' ds'))
      | none => .stuck)
    | _ => .stuck
  | .vl _ => fun _ => .stuck
theorem eg_sub {o k : Expr} {mo : M Pl} {mk : M D} (hu : X.A.units + 1 < cLine) (ho : EP X c W false o mo) (hk : EE X c W true k mk)
    (ha : ∀ v, assign (.Subscript o k pos) X.env v = (do
      let ov ← holding [v] (eval o X.env)
      let iv ← holding [v, ov] (eval k X.env)
      standAt pos
      holding [v, ov, iv] (setItem ov iv v)
      release [v, ov, iv] []) := by intro _; rfl) : EG X c W P (.Subscript o k pos) (tgSub mo mk) := pg_mono (pg_sub ho hk (set_all hu) ha) fun v σ H Q ⟨d, ρ, τ, S, q⟩ => by
  refine rdP_of (τ := (v, d) :: τ) S q (fun _ _ h H' S' => h σ H' (Pin.refl _ _) S'.drop) (fun h => h) (fun i π ρ1 u x H1 s e1 e2 S1 q1 => ?_) fun d ρ1 v H1 s S1 q1 => ?_
  · refine rdE_of (W := W) S1 q1 (fun _ _ h H' S' => h σ H' (Pin.refl _ _) S'.drop) (fun h => h) fun k ρ2 kv H2 s2 S2 q2 => ?_
    dsimp only at q2
    split at q2
    · rename_i cn ds he
      split at q2
      · rename_i cn' ds' es
        exact store_at S2 he es e1 (e2.mono (s2 rfl)) fun H' S' => q2 σ H' (Pin.refl _ _) S'
      · exact q2.elim
    · exact q2.elim
  · refine ⟨ρ1, _, S1, ?_⟩
    unfold bnd at q1
    cases e : mk ρ1 with
    | ok _ _ => rw [e] at q1; exact q1.elim
    | err _ _ => rw [e] at q1; exact fun H' S' => q1 σ H' (Pin.refl _ _) S'.drop.drop
    | stuck => rw [e] at q1; exact q1.elim

/-! ### methods that change their object -/
abbrev FM := Con → List D → List D → Option (D × Con × List D)
def rMt (K : PySem.W.Frag) (fo : FM) : V → List V → Hp → VK → Prop := fun x xs H Q => ∃ c σ ρ τ i π cn ds as z cn' ds' u, xs.length = as.length ∧ Sta K c H σ ρ (xs.zip as ++ τ) ∧ atP ρ i π = some (.nd cn ds) ∧ cn.isO = true ∧ σ[i]? = some (some u) ∧ VAt H u π x ∧ fo cn ds as = some (z, cn', ds') ∧
  ∀ v H', Sta K c H' σ (putP ρ i π (.nd cn' ds')) ((v, z) :: τ) → Q v H'
def conT : Con → String
  | .tup => "tuple"
  | .lst _ => "list"
  | .dic _ _ => "dict"
  | .dit _ _ => "dict"
  | .scr => "list"
theorem ow_ty {K : PySem.W.Frag} {H : Hp} {a : Addr} {vs : List V} {cn : Con} (h : cn.Ow H a vs) : tyV K (conT cn) (.ref a) H := by
  cases cn with
  | tup => exact h.elim
  | lst o => exact .inl ⟨rfl, vs, .inl (.inl h.2)⟩
  | dic o ks => exact .inr (.inr (.inl ⟨rfl, .inl ⟨_, h.2.2⟩⟩))
  | dit o ks => exact .inr (.inr (.inl ⟨rfl, .inr ⟨_, h.2.2⟩⟩))
  | scr => exact h.elim
/-- o.m(e, ..), o a slot's name -/
def mMt0 (i : Nat) (T : String) (fo : FM) (ma : M (List D)) : M D := fun ρ => match atP ρ i [] with
  | some (.nd cn0 _) => if cn0.isO = true ∧ conT cn0 = T then bnd ma (fun as ρ' => match atP ρ' i [] with
    | some (.nd cn ds) => if cn.isO = true then (match fo cn ds as with
      | some (z, cn', ds') => .ok z (putP ρ' i [] (.nd cn' ds'))
      | none => .stuck) else .stuck
    | _ => .stuck) ρ else .stuck
  | _ => .stuck
theorem ee_mt0 {o e : Expr} {es : List Expr} {name : Str} {apos cpos : Pos} {T id : String} {fo : FM} {ma : M (List D)} (i : Nat) (pa : PlainAttrs T) (slot : Slot T name id) (hty : typeOf (.builtin id) = pure (.type "method_descriptor")) (hm : MtR X id (rMt X.K fo)) (ho : PE X o (tVar i)) (ha : EA X c W false (e :: es) ma)
    (hbase : attributeBase o name X.env (eval o X.env) = eval o X.env := by rfl)
    (hfew : ((backTo cpos (starEach (e :: es) X.env)).all (fun x => !x.1) && (backToKw cpos (keywordEach [] X.env)).all (fun x => x.1.isSome)
      && decide ((e :: es).length + ([] : List Keyword).length + (if ([] : List Keyword).isEmpty then 0 else 1) < 30)) = true := by rfl)
    (hline : (apos.endLine == cpos.line) = true := by rfl) (hs : starEach (e :: es) X.env = (false, eval e X.env) :: starEach es X.env := by rfl) (hplain : (backTo cpos (starEach es X.env)).any (·.1) = false := by rfl) :
    EE X c W false (.Call (.Attribute o name apos) (e :: es) [] cpos) (mMt0 i T fo ma) := pe_mono (pe_bm pa slot hty hm ho ha hbase hfew hline hs hplain) fun σ H Q ⟨ρ, τ, S, q⟩ => by
  unfold mMt0 at q
  split at q
  · rename_i cn0 ds0 e0
    by_cases hc : cn0.isO = true ∧ conT cn0 = T
    · rw [if_pos hc] at q
      obtain ⟨d0, h1, h2, h3⟩ := atP_some e0
      obtain ⟨u, w, k1, k2, G, f, sub, x⟩ := S.pval h1 h2
      have k2' : w = u := k2
      subst k2'
      refine ⟨w, k1, ?_, ?_⟩
      · cases x with
        | fz z _ => rw [z.isO] at hc; exact absurd hc.1 (by decide)
        | ow z _ _ => rw [← hc.2]; exact ow_ty z
      · refine rdA_of S q (fun _ _ h => h) (fun h => h) fun as ρ1 vs H1 s l S1 q1 => ?_
        split at q1
        · rename_i cn ds e1
          by_cases hc1 : cn.isO = true
          · rw [if_pos hc1] at q1
            split at q1
            · rename_i z cn' ds' e2
              exact ⟨c, σ, ρ1, τ, i, [], cn, ds, as, z, cn', ds', w, l, S1, e1, hc1, k1, rfl, e2, fun v H' S' => q1 v H' (fun h => nomatch h) S'⟩
            · exact q1.elim
          · rw [if_neg hc1] at q1; exact q1.elim
        · exact q1.elim
    · rw [if_neg hc] at q; exact q.elim
  · exact q.elim
/-- o.m(), o a slot's name -/
theorem ee_mt00 {o : Expr} {name : Str} {apos cpos : Pos} {T id : String} {fo : FM} (i : Nat) (pa : PlainAttrs T) (slot : Slot T name id) (hty : typeOf (.builtin id) = pure (.type "method_descriptor")) (hm : MtR X id (rMt X.K fo)) (ho : PE X o (tVar i))
    (hbase : attributeBase o name X.env (eval o X.env) = eval o X.env := by rfl) (hline : (apos.endLine == cpos.line) = true := by rfl) :
    EE X c W false (.Call (.Attribute o name apos) [] [] cpos) (mMt0 i T fo (pur [])) := pe_mono (pe_bm0 pa slot hty hm ho hbase hline) fun σ H Q ⟨ρ, τ, S, q⟩ => by
  unfold mMt0 at q
  split at q
  · rename_i cn0 ds0 e0
    by_cases hc : cn0.isO = true ∧ conT cn0 = T
    · rw [if_pos hc] at q
      obtain ⟨d0, h1, h2, h3⟩ := atP_some e0
      obtain ⟨u, w, k1, k2, G, f, sub, x⟩ := S.pval h1 h2
      have k2' : w = u := k2
      subst k2'
      refine ⟨w, k1, ?_, ?_⟩
      · cases x with
        | fz z _ => rw [z.isO] at hc; exact absurd hc.1 (by decide)
        | ow z _ _ => rw [← hc.2]; exact ow_ty z
      · unfold bnd pur at q
        dsimp only at q
        split at q
        · rename_i cn ds e1
          by_cases hc1 : cn.isO = true
          · rw [if_pos hc1] at q
            split at q
            · rename_i z cn' ds' e2
              exact ⟨c, σ, ρ, τ, i, [], cn, ds, [], z, cn', ds', w, rfl, S, e1, hc1, k1, rfl, e2, fun v H' S' => q v H' (fun h => nomatch h) S'⟩
            · exact q.elim
          · rw [if_neg hc1] at q; exact q.elim
        · exact q.elim
    · rw [if_neg hc] at q; exact q.elim
  · exact q.elim
/-- place.m(e, ..), the arguments change nothing -/
def mMtP (T : String) (fo : FM) (mo : M Pl) (ma : M (List D)) : M D := bnd mo fun pl => match pl with
  | .at i π => fun ρ => (match atP ρ i π with
    | some (.nd cn0 _) => if cn0.isO = true ∧ conT cn0 = T then bnd ma (fun as ρ' => match atP ρ' i π with
      | some (.nd cn ds) => if cn.isO = true then (match fo cn ds as with
        | some (z, cn', ds') => .ok z (putP ρ' i π (.nd cn' ds'))
        | none => .stuck) else .stuck
      | _ => .stuck) ρ else .stuck
    | _ => .stuck)
  | .vl _ => fun _ => .stuck
theorem ee_mtP {o e : Expr} {es : List Expr} {name : Str} {apos cpos : Pos} {T id : String} {fo : FM} {mo : M Pl} {ma : M (List D)} (pa : PlainAttrs T) (slot : Slot T name id) (hty : typeOf (.builtin id) = pure (.type "method_descriptor")) (hm : MtR X id (rMt X.K fo)) (ho : EP X c W false o mo) (ha : EA X c W true (e :: es) ma)
    (hbase : attributeBase o name X.env (eval o X.env) = eval o X.env := by rfl)
    (hfew : ((backTo cpos (starEach (e :: es) X.env)).all (fun x => !x.1) && (backToKw cpos (keywordEach [] X.env)).all (fun x => x.1.isSome)
      && decide ((e :: es).length + ([] : List Keyword).length + (if ([] : List Keyword).isEmpty then 0 else 1) < 30)) = true := by rfl)
    (hline : (apos.endLine == cpos.line) = true := by rfl) (hs : starEach (e :: es) X.env = (false, eval e X.env) :: starEach es X.env := by rfl) (hplain : (backTo cpos (starEach es X.env)).any (·.1) = false := by rfl) :
    EE X c W false (.Call (.Attribute o name apos) (e :: es) [] cpos) (mMtP T fo mo ma) := pe_mono (pe_bm pa slot hty hm ho ha hbase hfew hline hs hplain) fun σ H Q ⟨ρ, τ, S, q⟩ => by
  refine rdP_of S q (fun _ _ h => h) (fun h => h) (fun i π ρ1 u x H1 s e1 e2 S1 q1 => ?_) fun d ρ1 v H1 s S1 q1 => q1.elim
  dsimp only at q1
  split at q1
  · rename_i cn0 ds0 e0
    by_cases hc : cn0.isO = true ∧ conT cn0 = T
    · rw [if_pos hc] at q1
      obtain ⟨d0, h1, h2, h3⟩ := atP_some e0
      obtain ⟨u', w, k1, k2, G, f, sub, y⟩ := S1.pval h1 h2
      rw [e1] at k1; cases k1
      have := e2.inj k2
      subst this
      refine ⟨?_, ?_⟩
      · cases y with
        | fz z _ => rw [z.isO] at hc; exact absurd hc.1 (by decide)
        | ow z _ _ => rw [← hc.2]; exact ow_ty z
      · refine rdA_of S1 q1 (fun _ _ h => h) (fun h => h) fun as ρ2 vs H2 s2 l S2 q2 => ?_
        split at q2
        · rename_i cn ds e3
          by_cases hc1 : cn.isO = true
          · rw [if_pos hc1] at q2
            split at q2
            · rename_i z cn' ds' e4
              exact ⟨c, σ, ρ2, τ, i, π, cn, ds, as, z, cn', ds', u, l, S2, e3, hc1, e1, e2.mono (s2 rfl), e4, fun v H' S' => q2 v H' (fun h => nomatch h) S'⟩
            · exact q2.elim
          · rw [if_neg hc1] at q2; exact q2.elim
        · exact q2.elim
    · rw [if_neg hc] at q1; exact q1.elim
  · exact q1.elim
/-! the methods -/
theorem mtR_imp {id : String} {r r' : V → List V → Hp → VK → Prop} (h : MtR X id r) (k : ∀ x xs H Q, r' x xs H Q → r x xs H Q) : MtR X id r' := fun pins s σ H x xs v us Q I rx rs q => h pins s σ H x xs v us Q I rx rs (k _ _ _ _ q)
def foAppend : FM := fun cn ds as => match cn, as with
  | .lst true, [d] => if ds.length < sizeLine then some (.non, .lst true, ds ++ [d]) else none
  | _, _ => none
theorem m_append : MtR X "list.append" (rMt X.K foAppend) := mtR_imp mt_append fun x xs H Q ⟨c, σ, ρ, τ, i, π, cn, ds, as, z, cn', ds', u, l, S, ha, hc, e1, e2, ef, q⟩ => by
  unfold foAppend at ef
  split at ef
  · rename_i d
    by_cases hz : ds.length < sizeLine
    · rw [if_pos hz] at ef; cases ef
      obtain ⟨y, rfl⟩ := one_of l
      obtain ⟨d0, h1, h2, h3⟩ := atP_some ha
      obtain ⟨u', a, vs, k1, k2, k3, k4, go⟩ := Sta.mut (T := [(y, d)]) S h1 h2 hc
      rw [e1] at k1; cases k1
      have := e2.inj k2
      subst this
      refine ⟨a, vs, y, rfl, rfl, k3.2, by omega, q _ _ ?_⟩
      rw [h3]
      exact (go (.lst true) (vs ++ [y]) (ds ++ [d]) [] _ (by simp [k4]) (by rw [List.zip_append k4]; simp) ⟨rfl, upd_same⟩).non
    · rw [if_neg hz] at ef; cases ef
  · cases ef
def foPop : FM := fun cn ds as => match cn, as with
  | .lst true, [] => (ds[ds.length - 1]?).map fun d => (d, .lst true, ds.dropLast)
  | _, _ => none
theorem perm_last {α : Type} (l : List α) (x : α) (h : l[l.length - 1]? = some x) : l.Perm (l.dropLast ++ [x]) := by
  have hn : l ≠ [] := by
    rintro rfl
    simp at h
  have e : l.getLast hn = x := by
    rw [List.getLast_eq_getElem]
    have hl : l.length - 1 < l.length := by have := List.length_pos_iff.mpr hn; omega
    rw [List.getElem?_eq_getElem hl] at h
    exact Option.some.inj h
  have := List.dropLast_concat_getLast hn
  rw [e] at this
  exact List.Perm.of_eq this.symm
theorem m_pop : MtR X "list.pop" (rMt X.K foPop) := mtR_imp mt_pop fun x xs H Q ⟨c, σ, ρ, τ, i, π, cn, ds, as, z, cn', ds', u, l, S, ha, hc, e1, e2, ef, q⟩ => by
  unfold foPop at ef
  split at ef
  · cases ed : ds[ds.length - 1]? with
    | none => rw [ed] at ef; cases ef
    | some d =>
      rw [ed] at ef; cases ef
      cases xs with
      | cons _ _ => simp at l
      | nil =>
        obtain ⟨d0, h1, h2, h3⟩ := atP_some ha
        obtain ⟨u', a, vs, k1, k2, k3, k4, go⟩ := Sta.mut (T := []) S h1 h2 hc
        rw [e1] at k1; cases k1
        have := e2.inj k2
        subst this
        have hl : ds.length - 1 < vs.length := by have := (List.getElem?_eq_some_iff.mp ed).1; omega
        obtain ⟨w, ev⟩ : ∃ w, vs[vs.length - 1]? = some w := ⟨vs[vs.length - 1]'(by omega), by rw [List.getElem?_eq_getElem]⟩
        refine ⟨a, vs, w, rfl, rfl, k3.2, ev, q _ _ ?_⟩
        rw [h3]
        have hzip : vs.dropLast.zip ds.dropLast = (vs.zip ds).dropLast := by
          rw [List.dropLast_eq_take, List.dropLast_eq_take, List.dropLast_eq_take, zip_take, List.length_zip, k4, Nat.min_self]
        exact go (.lst true) vs.dropLast ds.dropLast [(_, _)] _ (by simp [k4]) (by
          rw [List.append_nil, hzip]
          refine perm_last _ _ ?_
          have el : (vs.zip ds).length - 1 = vs.length - 1 := by rw [List.length_zip, k4, Nat.min_self]
          rw [el]
          exact zip_get ev (by rw [k4]; exact ed)) ⟨rfl, upd_same⟩
  · cases ef
def foPopAt : FM := fun cn ds as => match cn, as with
  | .lst true, [.int i] => if -(2 ^ 63) ≤ i ∧ i < 2 ^ 63 then (seqIndex? i ds.length).bind fun k => ds[k]?.map fun d => (d, .lst true, ds.eraseIdx k) else none
  | _, _ => none
theorem zip_erase {α β : Type} : ∀ (k : Nat) (xs : List α) (ys : List β), (xs.eraseIdx k).zip (ys.eraseIdx k) = (xs.zip ys).eraseIdx k
  | _, [], _ => by simp
  | _, _ :: _, [] => by simp
  | 0, _ :: _, _ :: _ => by simp
  | k + 1, _ :: xs, _ :: ys => by simpa using zip_erase k xs ys
theorem perm_erase {α : Type} : ∀ (k : Nat) (l : List α) (x : α), l[k]? = some x → l.Perm (l.eraseIdx k ++ [x])
  | _, [], _, h => by simp at h
  | 0, a :: l, x, h => by
    simp at h; subst h
    simp only [List.eraseIdx_cons_zero]
    exact (List.perm_append_comm (l₁ := l) (l₂ := [a])).symm
  | k + 1, a :: l, x, h => by
    simp only [List.eraseIdx_cons_succ, List.cons_append]
    exact (perm_erase k l x (by simpa using h)).cons a
theorem m_popAt : MtR X "list.pop" (rMt X.K foPopAt) := mtR_imp mt_popAt fun x xs H Q ⟨c, σ, ρ, τ, i, π, cn, ds, as, z, cn', ds', u, l, S, ha, hc, e1, e2, ef, q⟩ => by
  unfold foPopAt at ef
  split at ef
  · rename_i ii
    by_cases hb : -(2 ^ 63) ≤ ii ∧ ii < 2 ^ 63
    · rw [if_pos hb] at ef
      cases es : seqIndex? ii ds.length with
      | none => rw [es] at ef; cases ef
      | some k =>
        rw [es] at ef
        have ef : (ds[k]?.map fun d => (d, Con.lst true, ds.eraseIdx k)) = some (z, cn', ds') := ef
        cases ed : ds[k]? with
        | none => rw [ed] at ef; cases ef
        | some d =>
          rw [ed] at ef; cases ef
          obtain ⟨y, rfl⟩ := one_of l
          cases (show Sta X.K c H σ ρ ((y, .int ii) :: τ) from S).isInt
          obtain ⟨d0, h1, h2, h3⟩ := atP_some ha
          obtain ⟨u', a, vs, k1, k2, k3, k4, go⟩ := Sta.mut (T := []) (Sta.drop S) h1 h2 hc
          rw [e1] at k1; cases k1
          have := e2.inj k2
          subst this
          have hk : k < vs.length := by have := (List.getElem?_eq_some_iff.mp ed).1; omega
          have ev : vs[k]? = some vs[k] := by rw [List.getElem?_eq_getElem]
          refine ⟨a, vs, ii, k, _, rfl, rfl, k3.2, hb.1, hb.2, by rw [k4]; exact es, ev, q _ _ ?_⟩
          rw [h3]
          exact go (.lst true) (vs.eraseIdx k) (ds.eraseIdx k) [(_, _)] _ (by simp [List.length_eraseIdx, k4]) (by
            rw [List.append_nil, zip_erase]
            exact perm_erase _ _ _ (zip_get ev ed)) ⟨rfl, upd_same⟩
    · rw [if_neg hb] at ef; cases ef
  · cases ef
def foInsert : FM := fun cn ds as => match cn, as with
  | .lst true, [.int i, d] => if ds.length < sizeLine ∧ 0 ≤ i ∧ i < 2 ^ 63 then some (.non, .lst true, ds.take i.toNat ++ [d] ++ ds.drop i.toNat) else none
  | _, _ => none
theorem m_insert : MtR X "list.insert" (rMt X.K foInsert) := mtR_imp mt_insert fun x xs H Q ⟨c, σ, ρ, τ, i, π, cn, ds, as, z, cn', ds', u, l, S, ha, hc, e1, e2, ef, q⟩ => by
  unfold foInsert at ef
  split at ef
  · rename_i ii d
    by_cases hb : ds.length < sizeLine ∧ 0 ≤ ii ∧ ii < 2 ^ 63
    · rw [if_pos hb] at ef; cases ef
      obtain ⟨y, w, rfl⟩ := two_of l
      have S' : Sta X.K c H σ ρ ((y, .int ii) :: (w, d) :: τ) := S
      cases S'.isInt
      obtain ⟨d0, h1, h2, h3⟩ := atP_some ha
      obtain ⟨u', a, vs, k1, k2, k3, k4, go⟩ := Sta.mut (T := [(w, d)]) S'.drop h1 h2 hc
      rw [e1] at k1; cases k1
      have := e2.inj k2
      subst this
      refine ⟨a, vs, ii, w, rfl, rfl, k3.2, by omega, hb.2.1, hb.2.2, q _ _ ?_⟩
      rw [h3]
      exact (go (.lst true) (vs.take ii.toNat ++ [w] ++ vs.drop ii.toNat) (ds.take ii.toNat ++ [d] ++ ds.drop ii.toNat) [] _ (by simp [k4]) (by
        rw [List.append_nil, List.zip_append (by simp [k4]), List.zip_append (by simp [k4]), ← zip_take, ← zip_drop]
        have e : vs.zip ds = (vs.zip ds).take ii.toNat ++ (vs.zip ds).drop ii.toNat := (List.take_append_drop _ _).symm
        refine ((List.Perm.of_eq e).append_right _).trans ?_
        rw [List.append_assoc, List.append_assoc]
        exact List.Perm.append_left _ List.perm_append_comm) ⟨rfl, upd_same⟩).non
    · rw [if_neg hb] at ef; cases ef
  · cases ef
def foClear : FM := fun cn ds as => match cn, as with
  | .lst true, [] => some (.non, .lst true, [])
  | _, _ => none
theorem m_clear : MtR X "list.clear" (rMt X.K foClear) := mtR_imp mt_clear fun x xs H Q ⟨c, σ, ρ, τ, i, π, cn, ds, as, z, cn', ds', u, l, S, ha, hc, e1, e2, ef, q⟩ => by
  unfold foClear at ef
  split at ef
  · cases ef
    cases xs with
    | cons _ _ => simp at l
    | nil =>
      obtain ⟨d0, h1, h2, h3⟩ := atP_some ha
      obtain ⟨u', a, vs, k1, k2, k3, k4, go⟩ := Sta.mut (T := []) S h1 h2 hc
      rw [e1] at k1; cases k1
      have := e2.inj k2
      subst this
      refine ⟨a, vs, rfl, rfl, k3.2, q _ _ ?_⟩
      rw [h3]
      exact (go (.lst true) [] [] (vs.zip ds) _ rfl (by simp) ⟨rfl, upd_same⟩).dropN.non
  · cases ef
end
end DL
/-! DLl: a def by its name, calls, views, comparisons of places. -/
namespace DL
open PySem PySem.Spec L2

/-- a def by its name: the promise that its mirror makes -/
def Dk (prog : Program) (w : World) (K : PySem.W.Frag) (mg : Str → Option Value) (base : Heap) (cv : CV) (k : Nat) (x : Str) (ps : List Str) (P : List Bool) (F : List D → R (List D) D) : Prop :=
  ∃ f fd, FnOk prog w K mg base (L2.CX prog w) k f fd ps (spM K cv P F) ∧ mg x = some (.ref f) ∧ PySem.W.keepIn K (.ref f) = true ∧ Binds K fd ps []
theorem dk_of_fn {prog : Program} {w : World} {K : PySem.W.Frag} {mg : Str → Option Value} {base : Heap} {x qual : Str} {params : Arguments} {body : List Stmt} {scope : Scope} {f : Addr} {fd : FuncData} {N ps : List Str} {k : Nat} {cv : CV} {P : List Bool} {m : M Fl}
    (F : FunD K x qual params body scope [] [] f fd) (gf : mg x = some (.ref f)) (S : FnScope N ps scope) (hl : P.length = ps.length)
    (hb : ∀ (kV doc pm : Value) (an : Option Addr) (cdv ct : Value) (us : List Value), us.length = ps.length → bindArgs (PySem.W.fnOf x qual params body scope .none kV doc pm an cdv ct) ⟨us, []⟩ = pure (ps.zip us))
    (hbody : ∀ (cdv : Value) (A : Around) (outer : List PySem.Env) (s : Shared) (H : Hp) (E : XK) (c : C0), Room k (A.deeper (PyProof.Rows.envOfC qual scope s.heap.objs.size f cdv)) →
      Takes (cxOf (L2.CX prog w) prog w K mg base N qual scope f cdv A outer s H E) (wx cv fun e _ H' => E (cv e.c) none H') →
      SL (cxOf (L2.CX prog w) prog w K mg base N qual scope f cdv A outer s H E) c (fun e _ H' => E (cv e.c) none H') (pinsOf 0 P) body m) :
    Dk prog w K mg base cv (k + 1) x ps P (mkF N.length P m) :=
  ⟨f, fd, fn_ok F S hl hbody, gf, F.kp, FunD.bindsN F hb⟩
section
variable {X : Cx} {c : C0} {W : WW} {p : Bool} {pos pos' : Pos}
theorem ee_cd {k j : Nat} {ps : List Str} {cv : CV} {P : List Bool} {mf : List D → R (List D) D} {x : Str} {pp0 pos : Pos} {e : Expr} {es : List Expr} {ma : M (List Arg)}
    (F : Dk X.prog X.w X.K X.mg X.base cv k x ps P mf) (hr : Room j X.A) (hj : k ≤ j) (hg : Gl X x) (tk : Takes X (wx cv W)) (hp : p = true → P.all (fun b => !b) = true) (ha : ER X c W p (e :: es) ma) (hdb : (x == ("__debug__" : Str)) = false := by decide)
    (he : starEach (e :: es) X.env = (false, eval e X.env) :: starEach es X.env := by rfl) (hpl : (backTo pos (starEach es X.env)).any (·.1) = false := by rfl) :
    EE X c W p (.Call (.Name x pp0) (e :: es) [] pos) (mCall P mf ma) := by
  obtain ⟨f, fd, F, hm, hk, hb⟩ := F
  exact ee_call F (hr.mono hj) hg hm hk hb tk hp ha hdb he hpl
/-- in a comprehension nothing is let out -/
theorem tk0 {cv : CV} : Takes X (wx cv W0) := fun u s' ⟨a, B, sI, pins, σ, H, cls, d, e, I, nb, up, sky, na, os, ag, w⟩ => by
  obtain ⟨_, _, _, h⟩ := w
  exact h.elim
theorem hu1 {k : Nat} {A : Around} (r : Room k A) : A.units + 1 < cLine := by have := r.un; omega
theorem hu64 {k : Nat} {A : Around} (r : Room k A) : A.units + 64 < cLine := by have := r.un; omega
theorem hu65 {k : Nat} {A : Around} (r : Room k A) : A.units + 65 < cLine := by have := r.un; omega

/-! ### views: what is looked at, where it lies -/
section
variable (K : PySem.W.Frag) (c : C0) (W : WW) (p : Bool)
def wV (σ : L2.St) (H : Hp) (τ : List (V × D)) (Q : VK) : R Env D → Prop
  | .ok d ρ' => ∀ v H', (p = true → Same H H') → (∃ G f, Same G H' ∧ Own K G H' v d f) → Sta K c H' σ ρ' τ → Q v H'
  | .err e ρ' => ∀ H', Sta K c H' σ ρ' τ → W e σ H'
  | .stuck => False
def rdV (m : M D) : TE := fun σ H Q => ∃ ρ τ, Sta K c H σ ρ τ ∧ wV K c W p σ H τ Q (m ρ)
end
def EV (X : Cx) (c : C0) (W : WW) (p : Bool) (e : Expr) (m : M D) : Prop := PE X e (rdV X.K c W p m)
theorem rdV_of {K : PySem.W.Frag} {σ : L2.St} {H : Hp} {ρ : Env} {τ : List (V × D)} {β : Type} {m : M D} {k : D → M β} {Out : R Env β → Prop} {Q : VK} (S : Sta K c H σ ρ τ) (h : Out (bnd m k ρ)) (he : ∀ e ρ', Out (.err e ρ') → ∀ H', Sta K c H' σ ρ' τ → W e σ H') (hs : ¬ Out .stuck)
    (go : ∀ d ρ1 v H1, (p = true → Same H H1) → (∃ G f, Same G H1 ∧ Own K G H1 v d f) → Sta K c H1 σ ρ1 τ → Out (k d ρ1) → Q v H1) : rdV K c W p m σ H Q := by
  refine ⟨ρ, τ, S, ?_⟩
  unfold bnd at h
  cases e : m ρ with
  | ok d ρ1 =>
    rw [e] at h
    exact fun v H1 q o S1 => go d ρ1 v H1 q o S1 h
  | err x ρ1 =>
    rw [e] at h
    exact fun H' S' => he _ _ h H' S'
  | stuck =>
    rw [e] at h
    exact (hs h).elim
/-- a place, looked at -/
def mVw (m : M Pl) : M D := bnd m fun pl => match pl with
  | .vl d => pur d
  | .at i π => fun ρ => match atP ρ i π with
    | some e => .ok e ρ
    | none => .stuck
theorem Sta.view {K : PySem.W.Frag} {σ : L2.St} {H : Hp} {ρ : Env} {τ : List (V × D)} {i : Nat} {π : List Nat} {u v : V} {e : D} (S : Sta K c H σ ρ τ) (ha : atP ρ i π = some e) (e1 : σ[i]? = some (some u)) (e2 : VAt H u π v) : ∃ G f, Same G H ∧ Own K G H v e f := by
  obtain ⟨d0, h1, h2, h3⟩ := atP_some ha
  obtain ⟨u', w, k1, k2, G, f, sub, x⟩ := S.pval h1 h2
  rw [e1] at k1; cases k1
  have := e2.inj k2
  subst this
  exact ⟨G, f, sub, x⟩
theorem ev_p {e : Expr} {m : M Pl} (h : EP X c W p e m) : EV X c W p e (mVw m) := pe_mono h fun σ H Q ⟨ρ, τ, S, q⟩ =>
  rdP_of S q (fun _ _ h => h) (fun h => h) (fun i π ρ1 u v H1 s e1 e2 S1 q1 => by
    dsimp only at q1
    split at q1
    · rename_i e he
      exact q1 v H1 s (S1.view he e1 e2) S1
    · exact q1.elim) fun d ρ1 v H1 s S1 q1 => q1 v H1 s S1.hd S1.drop
/-- a slot, looked at -/
def mLk (i : Nat) : M D := fun ρ => match ρ[i]? with
  | some (some d) => .ok d ρ
  | _ => .stuck
theorem ev_var {e : Expr} (i : Nat) (h : PE X e (tVar i)) : EV X c W p e (mLk i) := pe_mono h fun σ H Q ⟨ρ, τ, S, q⟩ => by
  unfold mLk at q
  split at q
  · rename_i d ed
    obtain ⟨u, w, h1, h2, o⟩ := S.pval ed (at_nil d)
    have h2 : w = u := h2
    subst h2
    exact ⟨w, h1, q w H (fun _ => same_refl H) o S⟩
  · exact q.elim
theorem ev_val {e : Expr} {m : M D} (h : EE X c W p e m) : EV X c W p e m := pe_mono h fun σ H Q ⟨ρ, τ, S, q⟩ => by
  refine ⟨ρ, τ, S, ?_⟩
  cases e : m ρ with
  | ok d ρ1 => rw [e] at q; exact fun v H1 s S1 => q v H1 s S1.hd S1.drop
  | err x ρ1 => rw [e] at q; exact q
  | stuck => rw [e] at q; exact q
/-- an operation upon one view, a scalar told -/
def mV1 (fo : D → Option D) (m : M D) : M D := bnd m fun d => lft (fo d)

/-! ### two views -/
def rV2 (K : PySem.W.Frag) (fo : D → D → Option D) : R2 := fun x y H Q => ∃ dx dy dz, (∃ G f, Same G H ∧ Own K G H x dx f) ∧ (∃ G f, Same G H ∧ Own K G H y dy f) ∧ fo dx dy = some dz ∧ ∀ v, (∀ G H, Own K G H v dz []) → Q v H
/-- a place is looked at, then a second one (that lays, but changes nothing) -/
def plD (pl : Pl) : M D := match pl with
  | .vl d => pur d
  | .at i π => fun ρ => match atP ρ i π with
    | some e => .ok e ρ
    | none => .stuck
def mP2 (fo : D → D → Option D) (ma mb : M Pl) : M D := bnd ma fun a => bnd mb fun b => bnd (plD a) fun x => bnd (plD b) fun y => lft (fo x y)
theorem wE_sc {K : PySem.W.Frag} {σ : L2.St} {H H' : Hp} {ρ : Env} {τ : List (V × D)} {Q : VK} {d : D} {v : V} (q : wE K c W p σ H τ Q (.ok d ρ)) (s : p = true → Same H H') (S : Sta K c H' σ ρ τ) (ho : ∀ G H, Own K G H v d []) : Q v H' := q v H' s (S.push fun G _ => ho G H')
theorem rd_P2 {fo : D → D → Option D} {ma mb : M Pl} {r : R2} (hr : ∀ x y H Q, rV2 X.K fo x y H Q → r x y H Q) {σ : L2.St} {H : Hp} {Q : VK} (h : rdE X.K c W p (mP2 fo ma mb) σ H Q) : tOp r (rdP X.K c W p ma) (rdP X.K c W true mb) σ H Q := by
  obtain ⟨ρ, τ, S, q⟩ := h
  have fin : ∀ {a b : Pl} {ρ2 : Env} {τ' : List (V × D)} {H2 : Hp} {x y : V}, wE X.K c W p σ H τ Q (bnd (plD a) (fun x => bnd (plD b) fun y => lft (fo x y)) ρ2) → (p = true → Same H H2) → Sta X.K c H2 σ ρ2 (τ' ++ τ) →
      (∀ d, plD a ρ2 = .ok d ρ2 → ∃ G f, Same G H2 ∧ Own X.K G H2 x d f) → (∀ d, plD b ρ2 = .ok d ρ2 → ∃ G f, Same G H2 ∧ Own X.K G H2 y d f) → r x y H2 Q := by
    intro a b ρ2 τ' H2 x y q s S2 ha hb
    have pl : ∀ (a : Pl), (∃ d, plD a ρ2 = .ok d ρ2) ∨ plD a ρ2 = .stuck := by
      intro a
      cases a with
      | vl d => exact .inl ⟨d, rfl⟩
      | «at» i π =>
        unfold plD
        dsimp only
        cases e : atP ρ2 i π with
        | none => exact .inr rfl
        | some d => exact .inl ⟨d, rfl⟩
    rcases pl a with ⟨dx, ea⟩ | ea
    · rcases pl b with ⟨dy, eb⟩ | eb
      · unfold bnd at q
        rw [ea] at q
        dsimp only at q
        rw [eb] at q
        dsimp only at q
        cases ef : fo dx dy with
        | none => rw [ef] at q; exact q.elim
        | some dz =>
          rw [ef] at q
          exact hr _ _ _ _ ⟨dx, dy, dz, ha _ ea, hb _ eb, ef, fun v hv => wE_sc q s S2.dropN hv⟩
      · unfold bnd at q
        rw [ea] at q
        dsimp only at q
        rw [eb] at q
        exact q.elim
    · unfold bnd at q
      rw [ea] at q
      exact q.elim
  refine rdP_of S q (fun _ _ h => h) (fun h => h) (fun i π ρ1 u v H1 s e1 e2 S1 q1 => ?_) fun d ρ1 v H1 s S1 q1 => ?_
  · refine rdP_of S1 q1 (fun _ _ h => h) (fun h => h) (fun i' π' ρ2 u' v' H2 s2 e1' e2' S2 q2 => ?_) fun d' ρ2 v' H2 s2 S2 q2 => ?_
    · refine fin (τ' := []) q2 (pp s fun _ => s2 rfl) S2 (fun d ed => ?_) fun d ed => ?_
      · cases e : atP ρ2 i π with
        | none => unfold plD at ed; simp only [e] at ed; cases ed
        | some d0 =>
          unfold plD at ed; simp only [e] at ed; cases ed
          exact S2.view e e1 (e2.mono (s2 rfl))
      · cases e : atP ρ2 i' π' with
        | none => unfold plD at ed; simp only [e] at ed; cases ed
        | some d0 =>
          unfold plD at ed; simp only [e] at ed; cases ed
          exact S2.view e e1' e2'
    · refine fin (τ' := [(v', d')]) q2 (pp s fun _ => s2 rfl) S2 (fun d ed => ?_) fun d ed => ?_
      · cases e : atP ρ2 i π with
        | none => unfold plD at ed; simp only [e] at ed; cases ed
        | some d0 =>
          unfold plD at ed; simp only [e] at ed; cases ed
          exact S2.view e e1 (e2.mono (s2 rfl))
      · cases ed
        exact S2.hd
  · refine rdP_of S1 q1 (fun _ _ h H' S' => h H' S'.drop) (fun h => h) (fun i' π' ρ2 u' v' H2 s2 e1' e2' S2 q2 => ?_) fun d' ρ2 v' H2 s2 S2 q2 => ?_
    · refine fin (τ' := [(v, d)]) q2 (pp s fun _ => s2 rfl) S2 (fun d ed => ?_) fun d ed => ?_
      · cases ed
        exact S2.hd
      · cases e : atP ρ2 i' π' with
        | none => unfold plD at ed; simp only [e] at ed; cases ed
        | some d0 =>
          unfold plD at ed; simp only [e] at ed; cases ed
          exact S2.view e e1' e2'
    · refine fin (τ' := [(v', d'), (v, d)]) q2 (pp s fun _ => s2 rfl) S2 (fun d ed => ?_) fun d ed => ?_
      · cases ed
        exact S2.drop.hd
      · cases ed
        exact S2.hd
theorem ee_cmpP {op : CmpOp} {a b : Expr} {fo : D → D → Option D} {ma mb : M Pl} (ho : OpR X (compareOp op) (rV2 X.K fo)) (ha : EP X c W p a ma) (hb : EP X c W true b mb) (hm : behindInMarks op b = false) : EE X c W p (.Compare a [op] [b] pos) (mP2 fo ma mb) :=
  pe_mono (pe_cmpR ho ha hb hm) fun σ H Q h => rd_P2 (fun _ _ _ _ h => h) h
theorem et_of {e : Expr} {m : M D} (h : EE X c W p e m) (he : ∀ whole, isTrue e X.env whole = (do let v ← whole; standAt e.pos; holding [v] (truthy v)) := by intro _; rfl) : ET X c W p e (mB m) := et_val h he
theorem et_cmpP {op : CmpOp} {a b : Expr} {fo : D → D → Option D} {ma mb : M Pl} (ho : OpR X (compareOp op) (rV2 X.K fo)) (ha : EP X c W p a ma) (hb : EP X c W true b mb) (hm : behindInMarks op b = false) : ET X c W p (.Compare a [op] [b] pos) (mB (mP2 fo ma mb)) :=
  pt_mono (pt_cmpR ho ha hb hm) fun σ H Q h => by
    have h2 := rd_B (t := fun _ _ _ => True) h
    exact rd_P2 (fun _ _ _ _ h => h) h2
/-! the comparisons of views -/
theorem v_cmp {op : CmpOp} {g : Int → Int → Bool} {h : List Nat → List Nat → Bool} (hi : OpR X (compareOp op) (rI0 fun i j => .bl (g i j))) (hs : ∀ (x y : Str) (t u : Tok) (s : Shared) (Q : Value → Shared → Prop), Q (.bool (h x.cps.toList y.cps.toList)) s → wpAny (model X.prog X.w) X.A (compareOp op (.str x t) (.str y u)) Q X.xe s) :
    OpR X (compareOp op) (rV2 X.K (fCmp g h)) := by
  have h2 : OpR X (compareOp op) (fun x y H Q => ∃ i j, x = .str i ∧ y = .str j ∧ Q (.bl (h i.cps.toList j.cps.toList)) H) := by
    intro pins s σ H x y v u Q I rx ry q
    obtain ⟨i, j, rfl, rfl, q⟩ := q
    obtain ⟨t, rfl⟩ := rx
    obtain ⟨t', rfl⟩ := ry
    exact hs i j t t' s _ ⟨.bl _, H, I, rfl, q⟩
  refine opR_imp (opR_or hi h2) fun x y H Q ⟨dx, dy, dz, ⟨_, _, _, ox⟩, ⟨_, _, _, oy⟩, e, k⟩ => ?_
  unfold fCmp at e
  split at e
  · cases ox; cases oy; cases e
    exact .inl ⟨_, _, rfl, rfl, k _ fun _ _ => .bl _⟩
  · cases ox; cases oy; cases e
    exact .inr ⟨_, _, rfl, rfl, k _ fun _ _ => .bl _⟩
  · cases e
theorem v_lt : OpR X (compareOp .Lt) (rV2 X.K fLt) := v_cmp op_lt fun _ _ _ _ _ _ q => PyProof.Rows.lt_str q
theorem v_le : OpR X (compareOp .LtE) (rV2 X.K fLe) := v_cmp op_le fun _ _ _ _ _ _ q => PySem.P.le_str q
theorem v_gt : OpR X (compareOp .Gt) (rV2 X.K fGt) := v_cmp op_gt fun _ _ _ _ _ _ q => PySem.P.gt_str q
theorem v_ge : OpR X (compareOp .GtE) (rV2 X.K fGe) := v_cmp op_ge fun _ _ _ _ _ _ q => PySem.P.ge_str q
theorem v_is : OpR X (compareOp .Is) (rV2 X.K fIs) := opR_imp op_isN fun x y H Q ⟨dx, dy, dz, ⟨_, _, _, ox⟩, ⟨_, _, _, oy⟩, e, k⟩ => by
  unfold fIs at e
  split at e
  · cases oy; cases e
    exact ⟨rfl, by rw [isNon_V ox]; exact k _ fun _ _ => .bl _⟩
  · cases e
theorem v_isNot : OpR X (compareOp .IsNot) (rV2 X.K fIsNot) := opR_imp op_notN fun x y H Q ⟨dx, dy, dz, ⟨_, _, _, ox⟩, ⟨_, _, _, oy⟩, e, k⟩ => by
  unfold fIsNot at e
  split at e
  · cases oy; cases e
    exact ⟨rfl, by rw [isNon_V ox]; exact k _ fun _ _ => .bl _⟩
  · cases e
theorem v_eq (hu : X.A.units + 64 < cLine) : OpR X (compareOp .Eq) (rV2 X.K fEq) := opR_imp (op_eqD hu) fun x y H Q ⟨dx, dy, dz, ⟨_, _, s, ox⟩, ⟨_, _, s', oy⟩, e, k⟩ => by
  unfold fEq at e
  cases q : eqD dx dy with
  | none => rw [q] at e; cases e
  | some b =>
    rw [q] at e; cases e
    obtain ⟨a, e2, h1, h2, h3, h4, rfl⟩ := eqD_some q
    exact ⟨a, e2, ox.dp s h1, oy.dp s' h2, h3, h4, k _ fun _ _ => .bl _⟩
theorem v_ne (hu : X.A.units + 64 < cLine) : OpR X (compareOp .NotEq) (rV2 X.K fNe) := opR_imp (op_neD hu) fun x y H Q ⟨dx, dy, dz, ⟨_, _, s, ox⟩, ⟨_, _, s', oy⟩, e, k⟩ => by
  unfold fNe at e
  cases q : eqD dx dy with
  | none => rw [q] at e; cases e
  | some b =>
    rw [q] at e; cases e
    obtain ⟨a, e2, h1, h2, h3, h4, rfl⟩ := eqD_some q
    exact ⟨a, e2, ox.dp s h1, oy.dp s' h2, h3, h4, k _ fun _ _ => .bl _⟩
end
end DL
/-! DLm: subscripts with a changing index, isinstance and len of views, comprehensions over a slot's list. -/
namespace DL
open PySem PySem.Spec L2
section
variable {X : Cx} {c : C0} {W : WW} {p : Bool} {pos pos' : Pos}
/-- a subscript of a slot's value; the index may change other things -/
def pixK (i : Nat) (k : D) : M Pl := fun ρ => match atP ρ i [] with
    | some (.nd cn ds) => if cn.isO = true then (match ixOf cn ds.length k with
        | some j => .ok (.at i [j]) ρ
        | none => .stuck)
      else (match fIx (.nd cn ds) k with
        | some e => .ok (.vl e) (putP ρ i [] (D.nd cn ds).frz)
        | none => .stuck)
    | some d => (match fIx d k with
        | some e => .ok (.vl e) ρ
        | none => .stuck)
    | none => .stuck
def mPixs (i : Nat) (mk : M D) : M Pl := fun ρ => match ρ[i]? with
  | some (some _) => bnd mk (fun k => pixK i k) ρ
  | _ => .stuck
theorem ep_ixs {o k : Expr} {mk : M D} (i : Nat) (hu : X.A.units + 1 < cLine) (ho : PE X o (tVar i)) (hk : EE X c W p k mk) (hs : PlainIx k) : EP X c W p (.Subscript o k pos) (mPixs i mk) :=
  pe_mono (pe_ix (ix_all hu) ho hk hs) fun σ H Q ⟨ρ, τ, S, q⟩ => by
    unfold mPixs at q
    split at q
    case h_2 => exact q.elim
    rename_i d0 ed0
    obtain ⟨u, w, h1, h2, o0⟩ := S.pval ed0 (at_nil d0)
    refine ⟨u, h1, ?_⟩
    refine rdE_of S q (fun _ _ h H' S' => h H' S') (fun h => h) fun k ρ2 yv H2 s2 S2 q2 => ?_
    unfold pixK at q2
    split at q2
    · rename_i cn ds he
      obtain ⟨d, k1, k2, k3⟩ := atP_some he
      rw [at_nil] at k2; cases k2
      by_cases hc : cn.isO = true
      · rw [if_pos hc] at q2
        split at q2
        · rename_i j ej
          obtain ⟨u', h4, G, f1, f2, sub, tmp, own, _⟩ := S2.out k1
          rw [h1] at h4; cases h4
          cases tmp with
          | cons x t =>
            cases t with
            | cons y t =>
              cases x with
              | fz z _ => rw [z.isO] at hc; cases hc
              | @ow a _ _ _ _ z ga l =>
                obtain ⟨vs, w, a1, a2, a3, a4, a5, a6⟩ := kid_read sub (.ow z ga l) y ej
                have z' : cn.Ow H2 a vs := by
                  rcases a1 with a1 | a1
                  · exact a1
                  · rw [a1.isO] at hc; cases hc
                exact a6 Q (q2 _ w H2 s2 h1 ⟨a, cn, vs, w, rfl, z', a4, rfl⟩ S2.drop)
        · exact q2.elim
      · rw [if_neg hc] at q2
        split at q2
        · rename_i e ee
          obtain ⟨u', w, j1, j2, j3⟩ := S2.pread k1 (at_nil _)
          rw [h1] at j1; cases j1
          have j2 : w = u := j2
          subst j2
          rw [k3] at q2
          exact fIx_read (j3.perm (.swap _ _ _)) ee fun v' S' => q2 v' H2 s2 S'
        · exact q2.elim
    · rename_i d1 hne he
      split at q2
      · rename_i e ee
        obtain ⟨d, k1, k2, k3⟩ := atP_some he
        rw [at_nil] at k2; cases k2
        obtain ⟨u2, w2, m1, m2, G, f, m3, m4⟩ := S2.pval k1 (at_nil _)
        rw [h1] at m1; cases m1
        have m2 : w2 = u := m2
        subst m2
        cases d1 with
        | nd cn ds => exact (hne cn ds rfl).elim
        | str z =>
          cases m4
          cases k with
          | int i =>
            cases S2.isInt
            exact fIx_read (x := .str z) ((S2.drop.str z).int i) ee fun v' S' => q2 v' H2 s2 S'
          | _ => unfold fIx at ee; cases ee
        | non => unfold fIx at ee; cases ee
        | bl _ => unfold fIx at ee; cases ee
        | int _ => unfold fIx at ee; cases ee
      · exact q2.elim
    · exact q2.elim
/-- a value's subscript -/
theorem ee_ixv {a k : Expr} {ma mk : M D} (hu : X.A.units + 1 < cLine) (ha : EE X c W p a ma) (hk : EE X c W p k mk) (hs : PlainIx k) : EE X c W p (.Subscript a k pos) (m2 fIx ma mk) :=
  pe_mono (pe_ix (ix_all hu) ha hk hs) fun σ H Q ⟨ρ, τ, S, q⟩ => by
    refine rdE_of S q (fun _ _ h => h) (fun h => h) fun x ρ1 v1 H1 s1 S1 q1 => ?_
    refine rdE_of S1 q1 (fun _ _ h H' S' => h H' S'.drop) (fun h => h) fun y ρ2 v2 H2 s2 S2 q2 => ?_
    cases ef : fIx x y with
    | none => rw [ef] at q2; exact q2.elim
    | some z =>
      rw [ef] at q2
      have S3 : Sta X.K c H2 σ ρ2 ((v2, y) :: (v1, x.frz) :: τ) := ((S2.perm (.swap _ _ _)).frz).perm (.swap _ _ _)
      exact fIx_read S3 ef fun v' S' => q2 v' H2 (pp s1 s2) S'
/-! isinstance, len of views -/
theorem ee_isiV {x y : Str} {T : String} {e : Expr} {m : M D} (hg : Gl X x) (hm : X.mg x = none) (hv : bootBuiltins x = some (.builtin "isinstance")) (hg' : Gl X y) (hm' : X.mg y = none) (hv' : bootBuiltins y = some (.type T)) (he : EV X c W p e m) (hn' : y ≠ "__name__" := by decide) (hdb' : (y == ("__debug__" : Str)) = false := by decide)
    (hn : x ≠ "__name__" := by decide) (hdb : (x == ("__debug__" : Str)) = false := by decide) {ps2 : Pos}
    (h1 : starEach [e, .Name y ps2] X.env = (false, eval e X.env) :: starEach [.Name y ps2] X.env := by rfl) (h2 : starEach [.Name y ps2] X.env = (false, eval (.Name y ps2) X.env) :: starEach [] X.env := by rfl)
    (hpl : (backTo pos (starEach [.Name y ps2] X.env)).any (·.1) = false := by rfl) : EE X c W p (.Call (.Name x pos') [e, .Name y ps2] [] pos) (mIsi T m) :=
  pe_mono (pe_callB call_isi hg hm hv (pa_cons he (pa_cons (pe_bltn (v := .ty T) hg' hm' hv' rfl hn' hdb') pa_nil h2) h1) hn hdb h1 hpl) fun σ H Q ⟨ρ, τ, S, q⟩ => by
    refine rdV_of S q (fun _ _ h => h) (fun h => h) fun d ρ1 v H1 s o S1 q1 => ?_
    obtain ⟨G, f, sub, o⟩ := o
    cases e1 : tyN d with
    | none => rw [e1] at q1; exact q1.elim
    | some n =>
      cases e2 : kitB n T with
      | none => rw [e1] at q1; simp only [Option.bind_some, e2] at q1; exact q1.elim
      | some b =>
        rw [e1] at q1; simp only [Option.bind_some, e2] at q1
        exact ⟨v, .ty T, .type n, .type T, b, rfl, .ty T, own_ty sub o e1, kit_ty e2, q1 _ H1 s (S1.bl b)⟩
def mIsi2 (T U : String) (m : M D) : M D := bnd m fun d => lft ((tyN d).bind fun n => (kitAnyB n [T, U]).map .bl)
theorem kitAnyB_ok {K : PySem.W.Frag} {n : String} : ∀ {Ts : List String} {b : Bool}, kitAnyB n Ts = some b → PySem.W.kitAny K (.type n) (Ts.map Value.type) = some b
  | [], b, h => by unfold kitAnyB at h; cases h; rfl
  | T :: Ts, b, h => by
    unfold kitAnyB at h
    split at h
    · rename_i e
      cases h
      exact kitAny_cons (kit_ty e) (fun h => nomatch h) fun _ => rfl
    · rename_i e
      exact kitAny_cons (kit_ty e) (fun _ => kitAnyB_ok h) fun h => nomatch h
    · cases h
theorem ee_isi2V {x y z : Str} {T U : String} {e : Expr} {m : M D} (hg : Gl X x) (hm : X.mg x = none) (hv : bootBuiltins x = some (.builtin "isinstance")) (hg' : Gl X y) (hm' : X.mg y = none) (hv' : bootBuiltins y = some (.type T)) (hg2 : Gl X z) (hm2 : X.mg z = none) (hv2 : bootBuiltins z = some (.type U)) (he : EV X c W p e m)
    (hn' : y ≠ "__name__" := by decide) (hdb' : (y == ("__debug__" : Str)) = false := by decide) (hn2 : z ≠ "__name__" := by decide) (hdb2 : (z == ("__debug__" : Str)) = false := by decide)
    (hn : x ≠ "__name__" := by decide) (hdb : (x == ("__debug__" : Str)) = false := by decide) {ps2 ps3 ps4 : Pos} {k4 : Nat}
    (h0 : starEach [.Name y ps2, .Name z ps3] X.env = (false, eval (.Name y ps2) X.env) :: starEach [.Name z ps3] X.env := by rfl) (h0' : starEach [.Name z ps3] X.env = (false, eval (.Name z ps3) X.env) :: starEach [] X.env := by rfl)
    (h1 : starEach [e, .Tuple [.Name y ps2, .Name z ps3] k4 ps4] X.env = (false, eval e X.env) :: starEach [.Tuple [.Name y ps2, .Name z ps3] k4 ps4] X.env := by rfl) (h2 : starEach [.Tuple [.Name y ps2, .Name z ps3] k4 ps4] X.env = (false, eval (.Tuple [.Name y ps2, .Name z ps3] k4 ps4) X.env) :: starEach [] X.env := by rfl)
    (hpl : (backTo pos (starEach [.Tuple [.Name y ps2, .Name z ps3] k4 ps4] X.env)).any (·.1) = false := by rfl) : EE X c W p (.Call (.Name x pos') [e, .Tuple [.Name y ps2, .Name z ps3] k4 ps4] [] pos) (mIsi2 T U m) :=
  pe_mono (pe_callB call_isiT hg hm hv (pa_cons he (pa_cons (pe_tup (pa_cons (pe_bltn (v := .ty T) hg' hm' hv' rfl hn' hdb') (pa_cons (pe_bltn (v := .ty U) hg2 hm2 hv2 rfl hn2 hdb2) pa_nil h0') h0)) pa_nil h2) h1) hn hdb h1 hpl) fun σ H Q ⟨ρ, τ, S, q⟩ => by
    refine rdV_of S q (fun _ _ h => h) (fun h => h) fun d ρ1 v H1 s o S1 q1 => ?_
    obtain ⟨G, f, sub, o⟩ := o
    cases e1 : tyN d with
    | none => rw [e1] at q1; exact q1.elim
    | some n =>
      cases e2 : kitAnyB n [T, U] with
      | none => rw [e1] at q1; simp only [Option.bind_some, e2] at q1; exact q1.elim
      | some b =>
        rw [e1] at q1; simp only [Option.bind_some, e2] at q1
        refine ⟨by show 2 ≤ sizeLine; rw [sizeLine_eq]; omega, fun tp htp => ?_⟩
        have su : Same H1 (upd H1 tp (.tup [.ty T, .ty U])) := same_upd htp
        exact ⟨v, tp, _, .type n, [.type T, .type U], b, rfl, upd_same, .cons (.ty T) (.cons (.ty U) .nil), own_ty (same_trans sub su) (o.mono (same_refl G) (fun a _ u e => su _ _ e) fun a ha => (o.fp a ha).1) e1, kitAnyB_ok (Ts := [T, U]) e2, q1 _ _ (pp s fun _ => su) ((S1.more htp).bl b)⟩
def fLenV : D → Option D
  | .nd _ ds => some (.int ds.length)
  | .str z => if z.length ≤ sizeLine then some (.int z.length) else none
  | _ => none
theorem own_len {K : PySem.W.Frag} {G H : Hp} {x : V} {cn : Con} {ds : List D} {f : List Addr} (s : Same G H) (h : Own K G H x (.nd cn ds) f) :
    ∃ a, x = .ref a ∧ ((∃ ys, SqL K H a ys ∧ ds.length = ys.length) ∨ (∃ ys, SqT K H a ys ∧ ds.length = ys.length) ∨ (∃ kvs, Rd H a (.dK kvs) ∧ ds.length = kvs.length) ∨ (∃ kvs, Rd H a (.dT kvs) ∧ ds.length = kvs.length)) := by
  have zl : ∀ {κ : Type} (ks : List κ) (vs : List V), ks.length = vs.length → vs.length = ds.length → ds.length = (ks.zip vs).length := fun ks vs h h2 => by simp [h, h2]
  cases h with
  | fz z l =>
    have hl := l.length
    refine ⟨_, rfl, ?_⟩
    cases cn with
    | tup => exact .inr (.inl ⟨_, .inl (.inl (s _ _ z)), hl.symm⟩)
    | lst o => exact .inl ⟨_, .inl (same_rd s z.2), hl.symm⟩
    | dic o ks => exact .inr (.inr (.inl ⟨_, same_rd s z.2.2, zl ks _ z.2.1 hl⟩))
    | dit o ks => exact .inr (.inr (.inr ⟨_, same_rd s z.2.2, zl ks _ z.2.1 hl⟩))
    | scr => exact .inl ⟨_, same_l s z, hl.symm⟩
  | ow z _ l =>
    have hl := l.length
    refine ⟨_, rfl, ?_⟩
    cases cn with
    | tup => exact z.elim
    | lst o => exact .inl ⟨_, .inl (.inl z.2), hl.symm⟩
    | dic o ks => exact .inr (.inr (.inl ⟨_, .inl z.2.2, zl ks _ z.2.1 hl⟩))
    | dit o ks => exact .inr (.inr (.inr ⟨_, .inl z.2.2, zl ks _ z.2.1 hl⟩))
    | scr => exact z.elim
theorem ee_lenV {x : Str} {e : Expr} {m : M D} (hg : Gl X x) (hm : X.mg x = none) (hv : bootBuiltins x = some (.builtin "len")) (he : EV X c W p e m) (hn : x ≠ "__name__" := by decide) (hdb : (x == ("__debug__" : Str)) = false := by decide)
    (h1 : starEach [e] X.env = (false, eval e X.env) :: starEach [] X.env := by rfl) (hpl : (backTo pos (starEach [] X.env)).any (·.1) = false := by rfl) : EE X c W p (.Call (.Name x pos') [e] [] pos) (mV1 fLenV m) :=
  pe_mono (pe_callB (callR_or call_lenA call_len_str) hg hm hv (pa_cons he pa_nil h1) hn hdb h1 hpl) fun σ H Q ⟨ρ, τ, S, q⟩ => by
    refine rdV_of S q (fun _ _ h => h) (fun h => h) fun d ρ1 v H1 s o S1 q1 => ?_
    obtain ⟨G, f, sub, o⟩ := o
    cases d with
    | nd cn ds =>
      obtain ⟨a, rfl, h⟩ := own_len sub o
      exact .inl ⟨a, ds.length, rfl, h, q1 _ H1 s (S1.int _)⟩
    | str z =>
      cases o
      by_cases hz : z.length ≤ sizeLine
      · have e : fLenV (.str z) = some (.int z.length) := by unfold fLenV; exact if_pos hz
        rw [e] at q1
        exact .inr ⟨z, rfl, hz, q1 _ H1 s (S1.int _)⟩
      · have e : fLenV (.str z) = none := by unfold fLenV; exact if_neg hz
        rw [e] at q1
        exact q1.elim
    | non => exact q1.elim
    | bl _ => exact q1.elim
    | int _ => exact q1.elim
end
section
variable {X : Cx} {c : C0} {W : WW} {p : Bool} {pos pos' : Pos}
/-- the children of a list in a slot are frozen -/
theorem Sta.kidsF {K : PySem.W.Frag} {c : C0} {σ : L2.St} {H : Hp} {ρ : Env} {τ : List (V × D)} {v : V} {o : Bool} {ds : List D} (S : Sta K c H σ ρ ((v, .nd (.lst o) ds) :: τ)) : Sta K c H σ ρ ((v, .nd (.lst o) (ds.map D.frz)) :: τ) := by
  obtain ⟨G, f1, f2, sub, tmp, own, nd, g0, k0, n0, gn⟩ := S
  cases tmp with
  | @cons _ _ f _ g x t =>
    have key : ∀ (q : List Addr) (qs : List Addr), (∀ a ∈ q, G a = none ∧ ∃ o, H a = some o) → f = qs ++ q → ∃ G' : Hp, Same G G' ∧ Same G' H ∧ (∀ b ∈ q, ∀ o, H b = some o → G' b = some o) ∧ (∀ b, b ∉ q → G' b = G b) ∧ (∀ b o, G' b = some o → G b = some o ∨ b ∈ q) := fun q qs hq hf => by
      refine ⟨fun b => if b ∈ q then H b else G b, fun b o e => ?_, fun b o e => ?_, fun b hb o e => ?_, fun b hb => ?_, fun b o e => ?_⟩
      · have hb : b ∉ q := fun hb => by rw [(hq b hb).1] at e; cases e
        show (if b ∈ q then H b else G b) = some o
        rw [if_neg hb]; exact e
      · have e' : (if b ∈ q then H b else G b) = some o := e
        by_cases hb : b ∈ q
        · rw [if_pos hb] at e'; exact e'
        · rw [if_neg hb] at e'; exact sub _ _ e'
      · show (if b ∈ q then H b else G b) = some o
        rw [if_pos hb]; exact e
      · show (if b ∈ q then H b else G b) = _
        rw [if_neg hb]
      · have e' : (if b ∈ q then H b else G b) = some o := e
        by_cases hb : b ∈ q
        · exact .inr hb
        · rw [if_neg hb] at e'; exact .inl e'
    rw [List.append_assoc] at nd
    have nd' := List.nodup_append.mp nd
    cases x with
    | @fz a _ vs _ _ z l =>
      obtain ⟨G', hg, hs, hq, hn, ho⟩ := key f [] l.fp (by simp)
      have keep : ∀ b ∈ g ++ f2, G b = none → G' b = none := fun b hb e => by rw [hn b fun q => nd'.2.2 b q b hb rfl]; exact e
      refine ⟨G', [] ++ g, f2, hs, .cons (.fz (z.mono hg) (by rw [← frzL_map]; exact l.frz hg hq)) (t.mono hg (fun _ _ _ e => e) fun b hb => keep b (List.mem_append_left _ hb) (t.fp b hb).1), own.mono hg (fun _ _ _ e => e) fun b hb => keep b (List.mem_append_right _ hb) (own.fp b hb).1,
        nd'.2.1, same_trans g0 hg, k0, fun b hb => n0 b (by rw [List.append_assoc]; exact List.mem_append_right _ hb), fun b o e => ?_⟩
      rcases ho b o e with h | h
      · exact gn b o h
      · exact .inr (n0 b (List.mem_append_left _ (List.mem_append_left _ h)))
    | @ow a _ vs _ fc z ga l =>
      obtain ⟨G', hg, hs, hq, hn, ho⟩ := key fc [a] l.fp (by simp)
      have nf := List.nodup_cons.mp nd'.1
      have keep : ∀ b ∈ g ++ f2, G b = none → G' b = none := fun b hb e => by rw [hn b fun q => nd'.2.2 b (List.mem_cons_of_mem _ q) b hb rfl]; exact e
      refine ⟨G', [a] ++ g, f2, hs, .cons (.ow z (by rw [hn a nf.1]; exact ga) (by rw [← frzL_map]; exact l.frz hg hq)) (t.mono hg (fun _ _ _ e => e) fun b hb => keep b (List.mem_append_left _ hb) (t.fp b hb).1), own.mono hg (fun _ _ _ e => e) fun b hb => keep b (List.mem_append_right _ hb) (own.fp b hb).1,
        ?_, same_trans g0 hg, k0, fun b hb => n0 b ?_, fun b o e => ?_⟩
      · rw [List.append_assoc]
        exact List.nodup_cons.mpr ⟨fun h => nd'.2.2 a List.mem_cons_self a h rfl, nd'.2.1⟩
      · rw [List.append_assoc] at hb ⊢
        rcases List.mem_cons.mp hb with h | h
        · exact List.mem_cons.mpr (.inl h)
        · exact List.mem_cons_of_mem _ (List.mem_append_right _ h)
      · rcases ho b o e with h | h
        · exact gn b o h
        · exact .inr (n0 b (List.mem_append_left _ (List.mem_append_left _ (List.mem_cons_of_mem _ h))))
theorem Sta.itemL {K : PySem.W.Frag} {c : C0} {σ : L2.St} {H : Hp} {ρ : Env} {τ : List (V × D)} {u : V} {o : Bool} {ds : List D} {i : Nat} {d : D} (S : Sta K c H σ ρ ((u, .nd (.lst o) ds) :: τ)) (hf : d.frz = d) (e : ds[i]? = some d) :
    ∃ a vs w, u = .ref a ∧ Rd H a (.lst vs) ∧ vs[i]? = some w ∧ Sta K c H σ ρ ((w, d) :: (u, .nd (.lst o) ds) :: τ) := by
  obtain ⟨G, f1, f2, sub, tmp, own, nd, g0, k0, n0, gn⟩ := S
  cases tmp with
  | @cons _ _ f _ g x t =>
    have x' := x
    have main : ∀ {a : Addr} {vs : List V} {fl : List Addr}, Rd H a (.lst vs) → OwnL K G H vs ds fl → u = .ref a → ∃ a vs w, u = .ref a ∧ Rd H a (.lst vs) ∧ vs[i]? = some w ∧ Sta K c H σ ρ ((w, d) :: (u, .nd (.lst o) ds) :: τ) := fun {a vs fl} hr l eu => by
      obtain ⟨w, e1, e2, e3, h1, h2, h3⟩ := l.get e
      have ez : e2 = [] := by rw [← hf] at h3; exact own_frz_nil d h3
      subst ez
      exact ⟨a, vs, w, eu, hr, h1, G, [] ++ (f ++ g), f2, sub, .cons h3 (.cons x' t), own, nd, g0, k0, n0, gn⟩
    cases x with
    | fz z l => exact main (same_rd sub z.2) l rfl
    | ow z _ l => exact main (.inl z.2) l rfl
theorem jw_taken {K : PySem.W.Frag} {c : C0} {a : Addr} {o : Bool} {ds : List D} (hf : ∀ d ∈ ds, d.frz = d) : JW K c (Itl K a) [(V.ref a, .nd (.lst o) ds)] ds := fun H σ ρ τ S => by
  obtain ⟨b, vs0, e, hl, hc, _⟩ := (show Sta K c H σ ρ ((V.ref a, .nd (.lst o) ds) :: τ) from S).items
  cases e
  have hr := sq_l hc
  refine ⟨fun i hi => ⟨vs0, vs0[i]'(by omega), .inl hr, by simp [show i < vs0.length by omega]⟩, ⟨vs0, .inl hr, by omega⟩, fun i x H' d ed y => ?_⟩
  obtain ⟨rfl, y⟩ := y
  obtain ⟨a2, vs, w, eu, h1, h2, h3⟩ := Sta.itemL (τ := τ) S (hf d (List.mem_of_getElem? ed)) ed
  cases eu
  have hx := y vs (.inl h1)
  rw [h2] at hx; cases hx
  exact h3
def mLcT (i : Nat) (tg : D → M Unit) (tt : M Bool) (te : M D) (vs : List Nat) : M D := fun ρ => match ρ[i]? with
  | some (some (.nd (.lst o) ds)) => (match mComp tg tt te vs (ds.map D.frz) [] (wipeE (ρ.set i none) vs) with
    | .ok acc ρ' => if ρ'.length = ρ.length then .ok (.nd (.lst true) acc) ((restE (ρ.set i none) vs (wipeE ρ' vs)).set i (some (.nd (.lst o) (ds.map D.frz)))) else .stuck
    | _ => .stuck)
  | _ => .stuck
/-- what is walked: the list in slot i, taken out of it -/
def rdIT (K : PySem.W.Frag) (c : C0) (i : Nat) : TI := fun σ H R' => ∃ ρ τ o ds, Sta K c H σ ρ τ ∧ ρ[i]? = some (some (.nd (.lst o) ds)) ∧ ∀ a J, σ[i]? = some (some (V.ref a)) → Sta K c H σ (ρ.set i none) ((V.ref a, .nd (.lst o) (ds.map D.frz)) :: τ) → JW K c J [(V.ref a, .nd (.lst o) (ds.map D.frz))] (ds.map D.frz) → R' J H
theorem ei_taken {tg e : Expr} (i : Nat) (he : PE X e (tVar i)) : PI X tg e (rdIT X.K c i) := pi_mono (pi_any he) fun σ H R' ⟨ρ, τ, o, ds, S, e1, q⟩ => by
  obtain ⟨v, h1, S1⟩ := S.out e1
  have S2 := S1.kidsF
  obtain ⟨a, vs, rfl, h2, h3⟩ := S2.isLst
  exact ⟨_, h1, .inl ⟨a, vs, rfl, h2, q a (Itl X.K a) h1 S2 (jw_taken fun d hd => by
    obtain ⟨d0, _, rfl⟩ := List.mem_map.mp hd
    exact frz_frz d0)⟩⟩
theorem rd_lcT {σ : L2.St} {H : Hp} {Q : VK} {sl : Nat} {tg : D → M Unit} {tt : M Bool} {te : M D} {vs : List Nat} {n : Nat} (hiv : sl ∉ vs) (nvs : vs.Nodup) (hn : σ.length = n) (h : rdE X.K c W false (mLcT sl tg tt te vs) σ H Q) :
    tLc (rdIT X.K c sl) (rdG X.K c W0 (cpl n vs) tg) (rdT X.K c W0 false tt) (rdE X.K c W0 false te) vs σ H Q := by
  obtain ⟨ρ0, τ, S0, q0⟩ := h
  unfold mLcT at q0
  split at q0
  case h_2 => exact q0.elim
  rename_i o ds0 e0
  refine ⟨ρ0, τ, o, ds0, S0, e0, fun a J hσ S1 jw D0 hD => ?_⟩
  generalize hds : ds0.map D.frz = ds at *
  have hi0 : sl < ρ0.length := (List.getElem?_eq_some_iff.mp e0).1
  generalize hτ : [(V.ref a, D.nd (.lst o) ds)] = τ' at *
  replace S1 : Sta X.K c H σ (ρ0.set sl none) (τ' ++ τ) := by rw [← hτ]; exact S1
  generalize hρ1 : ρ0.set sl none = ρ1 at *
  have hl01 : ρ1.length = ρ0.length := by rw [← hρ1, List.length_set]
  obtain ⟨tv, S2, back⟩ := Sta.save vs nvs S1
  have S3 : Sta X.K c (upd H D0 (.lst [])) (wipe σ vs) (wipeE ρ1 vs) ((.ref D0, .nd (.lst true) []) :: (tv ++ (τ' ++ τ))) := Sta.newO (vs := []) (ds := []) rfl S2 hD ⟨rfl, upd_same⟩
  let rest : List (V × D) → List (V × D) := fun t => t
  have pm1 : ∀ (x : V × D), (x :: (tv ++ (τ' ++ τ))).Perm (τ' ++ (x :: (tv ++ τ))) := fun x => by
    refine List.Perm.trans (.cons x ?_) (perm_mid x τ' (tv ++ τ))
    rw [← List.append_assoc, ← List.append_assoc]
    exact List.perm_append_comm.append_right τ
  let Fin : R Env (List D) → Prop := fun r => match r with
    | .ok acc ρ' => ρ'.length = ρ1.length ∧ ∀ v H', Sta X.K c H' σ ((restE ρ1 vs (wipeE ρ' vs)).set sl (some (.nd (.lst o) ds))) ((v, .nd (.lst true) acc) :: τ) → Q v H'
    | _ => False
  have qf : Fin (mComp tg tt te vs ds [] (wipeE ρ1 vs)) := by
    split at q0
    · rename_i acc ρ' e2
      rw [← hl01] at q0
      by_cases hl : ρ'.length = ρ1.length
      · rw [if_pos hl] at q0
        rw [e2]
        exact ⟨hl, fun v H' S => q0 v H' (fun h => nomatch h) S⟩
      · rw [if_neg hl] at q0; exact q0.elim
    · exact q0.elim
  clear q0
  refine ⟨fun i m H => m = ds.length - i ∧ i ≤ ds.length ∧ ∃ ρ acc, Sta X.K c H (wipe σ vs) (wipeE ρ vs) (τ' ++ ((.ref D0, .nd (.lst true) acc) :: (tv ++ τ))) ∧ Fin (mComp tg tt te vs (ds.drop i) acc ρ), ⟨ds.length, by simp, Nat.zero_le _, wipeE ρ1 vs, [], ?_, by rw [List.drop_zero]; exact qf⟩, ?_⟩
  · have S4 := S3.perm (pm1 _)
    have := S4.wipe vs
    have e : wipe (wipe σ vs) vs = wipe σ vs := wipe_pin (n := n) (Pin.refl _ _) hn (by rw [wipe_length]; exact hn)
    rw [e] at this
    exact this
  · rintro i m H ⟨rfl, hi, ρ, acc, S, q⟩
    obtain ⟨j1, j2, j3⟩ := jw H (wipe σ vs) (wipeE ρ vs) ((.ref D0, .nd (.lst true) acc) :: (tv ++ τ)) S
    by_cases hlt : i < ds.length
    · right
      have ed : ds[i]? = some ds[i] := by simp [hlt]
      rw [List.drop_eq_getElem_cons hlt] at q
      refine ⟨j1 i hlt, fun H' => ∃ ρ acc, Sta X.K c H' (wipe σ vs) (wipeE ρ vs) (τ' ++ ((.ref D0, .nd (.lst true) acc) :: (tv ++ τ))) ∧ Fin (mComp tg tt te vs (ds.drop (i + 1)) acc ρ), fun H' ⟨ρ', acc', S', q'⟩ => ⟨ds.length - (i + 1), by omega, rfl, hlt, ρ', acc', S', q'⟩, fun x H' y => ?_⟩
      have S5 := j3 i x H' _ ed y
      refine ⟨_, wipeE ρ vs, _, S5, ?_⟩
      unfold mComp at q
      split at q
      · rename_i a ρ2 e2
        rw [e2]
        refine fun σ2 H2 p2 S6 => ?_
        by_cases hll : ρ2.length = ρ.length
        case neg => rw [if_neg hll] at q; exact q.elim
        rw [if_pos hll] at q
        have hl2 : σ2.length = n := by
          have h1 := S.len
          rw [wipe_length, wipeE_length] at h1
          rw [S6.len, hll, ← h1, hn]
        have ew := wipe_pin p2 hn hl2
        refine ⟨ew, ρ2, _, S6, ?_⟩
        split at q
        · rename_i ρ3 e3
          rw [e3]
          refine fun H3 _ S7 => ?_
          change if true = true then _ else _
          rw [if_pos rfl]
          refine ⟨ρ3, _, S7, ?_⟩
          split at q
          · rename_i y ρ4 e4
            rw [e4]
            refine fun v H4 _ S8 => ?_
            by_cases hz : acc.length < sizeLine
            · rw [if_pos hz] at q
              have S9 : Sta X.K c H4 σ2 ρ4 ([(v, y)] ++ (.ref D0, .nd (.lst true) acc) :: (τ' ++ (tv ++ τ))) := S8.perm (.cons _ (perm_mid _ _ _).symm)
              obtain ⟨a0, ws, ea, eo, el, go⟩ := S9.mutT rfl
              cases ea
              refine ⟨ws, eo.2, by omega, ρ4, acc ++ [y], ?_, q⟩
              have S10 := go (.lst true) (ws ++ [v]) (acc ++ [y]) [] (.lst (ws ++ [v])) (by simp [el]) (by rw [List.zip_append el]; simp) ⟨rfl, upd_same⟩
              have S11 := (S10.wipe vs).perm (perm_mid _ τ' (tv ++ τ))
              rw [ew] at S11
              exact S11
            · rw [if_neg hz] at q; exact q.elim
          · exact q.elim
        · rename_i ρ3 e3
          rw [e3]
          refine fun H3 _ S7 => ?_
          change if false = true then _ else _
          rw [if_neg (by decide)]
          refine ⟨ρ3, acc, ?_, q⟩
          have S8 := S7.wipe vs
          rw [ew] at S8
          exact S8
        · exact q.elim
      · exact q.elim
    · left
      have e : i = ds.length := by omega
      subst e
      rw [List.drop_length] at q
      refine ⟨j2, ?_⟩
      obtain ⟨hl, q⟩ := q
      have S5 : Sta X.K c H σ (restE ρ1 vs (wipeE ρ vs)) ((V.ref a, .nd (.lst o) ds) :: (V.ref D0, .nd (.lst true) acc) :: τ) := by
        refine back H (wipeE ρ vs) _ (by rw [wipeE_length]; exact hl) (fun j hj d e => ?_) ?_
        · by_cases hlt : j < ρ.length
          · rw [wipeE_in ρ hlt hj] at e; cases e
          · rw [List.getElem?_eq_none (by rw [wipeE_length]; omega)] at e; cases e
        · rw [← hτ] at S
          refine S.perm ?_
          refine (List.Perm.cons _ (perm_mid _ tv τ)).trans ?_
          exact perm_mid _ tv _
      have hle : ∀ (vs : List Nat) (ρ1 ρ2 : Env), (restE ρ1 vs ρ2).length = ρ2.length := by
        intro vs
        induction vs with
        | nil => intro _ _; rfl
        | cons v vs ih =>
          intro ρ1 ρ2
          show (restE ρ1 vs _).length = _
          rw [ih]
          split
          · rw [List.length_set]
          · rfl
      have S6 := (S5.clear (j := sl)).back (i := sl) (by rw [List.getElem?_set_self (by rw [hle, wipeE_length, hl, hl01]; exact hi0)]) hσ
      rw [List.set_set] at S6
      exact q _ H S6

theorem ee_lcT {elt tg iter : Expr} {ifs : List Expr} {scope : Scope} {own : List (Str × Nat)} {i : Nat} {t : D → M Unit} {mt : M Bool} {me : M D} (n : Nat) (hi0 : PE X iter (tVar i)) (hiv : i ∉ own.map (·.2)) (hn : X.N.length = n) (nd : (own.map (·.2)).Nodup) (hc : X.calm = true) (hN : X.N.Nodup) (ok : BlkOk X.N X.env.scope scope own)
    (hg : ∀ (s : Shared) (H : Hp) (C : Addr) (cl : List (Str × Addr)) (fp : List Addr), EG (X.blk s H scope (compEnvC scope cl C X.env) fp) c W0 (cpl n (own.map (·.2))) tg t) (ht : ∀ (s : Shared) (H : Hp) (C : Addr) (cl : List (Str × Addr)) (fp : List Addr), EPs (X.blk s H scope (compEnvC scope cl C X.env) fp) c W0 ifs mt)
    (he : ∀ (s : Shared) (H : Hp) (C : Addr) (cl : List (Str × Addr)) (fp : List Addr), EE (X.blk s H scope (compEnvC scope cl C X.env) fp) c W0 false elt me) (hs : ∀ x, foldedSetIterable iter X.env x = pure x := by intro _; rfl) :
    EE X c W false (.ListComp elt [⟨tg, iter, ifs, 0⟩] scope pos) (mLcT i t mt me (own.map (·.2))) :=
  ⟨fun pins s σ H Q I h => (pe_lc (wi := rdIT X.K c i) (g := rdG X.K c W0 (cpl n (own.map fun (q : Str × Nat) => q.2)) t) (tt := rdT X.K c W0 false mt) (te := rdE X.K c W0 false me) hc hN (ei_taken i hi0) ok hg ht he hs).run pins s σ H Q I (rd_lcT hiv nd (I.len.trans hn) h)⟩
theorem ss_lcT {i i0 : Nat} {y : Str} {py spos : Pos} {elt tg iter : Expr} {ifs : List Expr} {scope : Scope} {own : List (Str × Nat)} {P : List Nat} {t : D → M Unit} {mt : M Bool} {me : M D} (n : Nat) (hi0 : PE X iter (tVar i0)) (hiv : i0 ∉ own.map (·.2)) (hP : i ∉ P) (hn : X.N.length = n) (nd : (own.map (·.2)).Nodup) (hc : X.calm = true) (hN : X.N.Nodup) (hy : X.N[i]? = some y) (hyl : X.env.scope.names.lookup y = some .local)
    (hsw : swapsWith (.ListComp elt [⟨tg, iter, ifs, 0⟩] scope pos) (some (.Name y py)) spos.line X.env = pure true) (ok : BlkOk X.N X.env.scope scope own)
    (hg : ∀ (s : Shared) (H : Hp) (C : Addr) (cl : List (Str × Addr)) (fp : List Addr), EG (X.blk s H scope (compEnvC scope cl C X.env) fp) c W0 (cpl n (own.map (·.2))) tg t) (ht : ∀ (s : Shared) (H : Hp) (C : Addr) (cl : List (Str × Addr)) (fp : List Addr), EPs (X.blk s H scope (compEnvC scope cl C X.env) fp) c W0 ifs mt)
    (he : ∀ (s : Shared) (H : Hp) (C : Addr) (cl : List (Str × Addr)) (fp : List Addr), EE (X.blk s H scope (compEnvC scope cl C X.env) fp) c W0 false elt me) (hs : ∀ x, foldedSetIterable iter X.env x = pure x := by intro _; rfl) :
    SS X c W P (.Assign [.Name y py] (.ListComp elt [⟨tg, iter, ifs, 0⟩] scope pos) spos) (mAsg (tgN i) (mLcT i0 t mt me (own.map (·.2)))) :=
  ⟨fun pins s σ H Dn I h => (ps_setLc (wi := rdIT X.K c i0) (g := rdG X.K c W0 (cpl n (own.map fun (q : Str × Nat) => q.2)) t) (tt := rdT X.K c W0 false mt) (te := rdE X.K c W0 false me) hc hN hy hyl hsw (ei_taken i0 hi0) ok hg ht he hs).run pins s σ H Dn I (by
    obtain ⟨ρ, τ, S, q⟩ := h
    refine rd_lcT (W := W) hiv nd (I.len.trans hn) ?_
    refine rdE_of S q (fun e ρ' h H' S' => h σ H' (Pin.refl _ _) S') (fun h => h) fun d ρ1 v H1 s S1 q1 => ?_
    unfold tgN bnd at q1
    dsimp only at q1
    by_cases hl : i < ρ1.length
    · rw [if_pos hl] at q1
      exact q1 _ H1 (Pin.set hP) (S1.put hl)
    · rw [if_neg hl] at q1; exact q1.elim)⟩
end
section
variable {X : Cx}
theorem in_read2 {K : PySem.W.Frag} {G G2 H : Hp} {x y : V} {dx dy : D} {f g : List Addr} {b : Bool} (s : Same G H) (s2 : Same G2 H) (ox : Own K G H x dx f) (oy : Own K G2 H y dy g) (h : inD dx dy = some b) :
    (∃ d ds, Dp K H x d ∧ Dp K H y (.list ds) ∧ SeqAt.shaped d = true ∧ SeqAt.shaped (.list ds) = true ∧ b = ds.any fun z => PyData.eqv z d) ∨
    (∃ d ds, Dp K H x d ∧ Dp K H y (.tuple ds) ∧ SeqAt.shaped d = true ∧ SeqAt.shaped (.tuple ds) = true ∧ b = ds.any fun z => PyData.eqv z d) ∨
    (∃ i j, x = .str i ∧ y = .str j ∧ b = (!(Builtin.Str.occurrences j i 0 j.length 1).isEmpty)) ∨ ∃ a o, y = .ref a ∧ DGet H a x o ∧ b = o.isSome := by
  unfold inD at h
  split at h
  · rename_i ds
    obtain ⟨a, bs, h1, h2, h3, h4, h5⟩ := inSeq_some h
    have e : toPy (.nd .tup ds) = some (.tuple bs) := by
      show (toPyL ds).map PyData.tuple = _
      rw [h2]; rfl
    exact .inr (.inl ⟨a, bs, ox.dp s h1, oy.dp s2 e, h3, h4, h5⟩)
  · rename_i o ds
    obtain ⟨a, bs, h1, h2, h3, h4, h5⟩ := inSeq_some h
    have e : toPy (.nd (.lst o) ds) = some (.list bs) := by
      show (toPyL ds).map PyData.list = _
      rw [h2]; rfl
    exact .inl ⟨a, bs, ox.dp s h1, oy.dp s2 e, h3, h4, h5⟩
  · rename_i o ks ds
    split at h
    · rename_i hl
      have main : ∀ a vs k, y = .ref a → Rd H a (.dK (ks.zip vs)) → ks.length = vs.length → keyOf dx = some k → ∃ a o, y = .ref a ∧ DGet H a x o ∧ b = o.isSome := fun a vs k e1 e2 e3 e4 => by
        rw [e4] at h
        have h : some (findK ks k).isSome = some b := h
        have ek : x = kV k := by
          cases dx with
          | int i => cases e4; cases ox; rfl
          | str z => cases e4; cases ox; rfl
          | _ => cases e4
        exact ⟨a, _, e1, .inl ⟨_, k, e2, ek, rfl⟩, by rw [findK_isSome e3]; exact (Option.some.inj h).symm⟩
      cases ek : keyOf dx with
      | none => rw [ek] at h; cases h
      | some k =>
        cases oy with
        | fz z l => exact .inr (.inr (.inr (main _ _ k rfl (same_rd s2 z.2.2) z.2.1 ek)))
        | ow z _ l => exact .inr (.inr (.inr (main _ _ k rfl (.inl z.2.2) z.2.1 ek)))
    · cases h
  · rename_i o ks ds
    split at h
    · rename_i hl
      split at h
      · rename_i ys
        cases ek : keysOf ys with
        | none => rw [ek] at h; cases h
        | some k =>
          rw [ek] at h
          have h : some (findK ks k).isSome = some b := h
          cases ox with
          | @fz bb _ ws _ _ zz ll =>
            have := keysOf_vals ll ek
            subst this
            have main : ∀ a vs, y = .ref a → Rd H a (.dT (ks.zip vs)) → ks.length = vs.length → ∃ a o, y = .ref a ∧ DGet H a (.ref bb) o ∧ b = o.isSome := fun a vs e1 e2 e3 =>
              ⟨a, _, e1, .inr ⟨_, k, bb, e2, rfl, s _ _ zz, rfl⟩, by rw [findK_isSome e3]; exact (Option.some.inj h).symm⟩
            cases oy with
            | fz z l => exact .inr (.inr (.inr (main _ _ rfl (same_rd s2 z.2.2) z.2.1)))
            | ow z _ l => exact .inr (.inr (.inr (main _ _ rfl (.inl z.2.2) z.2.1)))
          | ow zz _ _ => exact zz.elim
      · cases h
    · cases h
  · split at h
    · cases ox; cases oy; cases h
      exact .inr (.inr (.inl ⟨_, _, rfl, rfl, rfl⟩))
    · cases h
  · cases h
theorem v_in (hu : X.A.units + 65 < cLine) : OpR X (compareOp .In) (rV2 X.K fIn) := opR_imp (opR_or (op_inD hu) (opR_or (op_inT hu) (opR_or op_in_str (op_inDk (by omega))))) fun x y H Q ⟨dx, dy, dz, ⟨_, _, s, ox⟩, ⟨_, _, s2, oy⟩, e, k⟩ => by
  unfold fIn at e
  cases q : inD dx dy with
  | none => rw [q] at e; cases e
  | some b =>
    rw [q] at e; cases e
    rcases in_read2 s s2 ox oy q with ⟨d, ds, h1, h2, h3, h4, rfl⟩ | ⟨d, ds, h1, h2, h3, h4, rfl⟩ | ⟨i, j, rfl, rfl, rfl⟩ | ⟨a, o, rfl, g, rfl⟩
    · exact .inl ⟨d, ds, h1, h2, h3, h4, k _ fun _ _ => .bl _⟩
    · exact .inr (.inl ⟨d, ds, h1, h2, h3, h4, k _ fun _ _ => .bl _⟩)
    · exact .inr (.inr (.inl ⟨i, j, rfl, rfl, k _ fun _ _ => .bl _⟩))
    · exact .inr (.inr (.inr ⟨a, o, rfl, g, k _ fun _ _ => .bl _⟩))
theorem v_notIn (hu : X.A.units + 65 < cLine) : OpR X (compareOp .NotIn) (rV2 X.K fNotIn) := opR_imp (opR_or (op_notInD hu) (opR_or (op_notInT hu) (opR_or op_notin_str (op_notInDk (by omega))))) fun x y H Q ⟨dx, dy, dz, ⟨_, _, s, ox⟩, ⟨_, _, s2, oy⟩, e, k⟩ => by
  unfold fNotIn at e
  cases q : inD dx dy with
  | none => rw [q] at e; cases e
  | some b =>
    rw [q] at e; cases e
    rcases in_read2 s s2 ox oy q with ⟨d, ds, h1, h2, h3, h4, rfl⟩ | ⟨d, ds, h1, h2, h3, h4, rfl⟩ | ⟨i, j, rfl, rfl, rfl⟩ | ⟨a, o, rfl, g, rfl⟩
    · exact .inl ⟨d, ds, h1, h2, h3, h4, k _ fun _ _ => .bl _⟩
    · exact .inr (.inl ⟨d, ds, h1, h2, h3, h4, k _ fun _ _ => .bl _⟩)
    · exact .inr (.inr (.inl ⟨i, j, rfl, rfl, k _ fun _ _ => .bl _⟩))
    · exact .inr (.inr (.inr ⟨a, o, rfl, g, k _ fun _ _ => .bl _⟩))
end
abbrev fSub : D → D → Option D := fII (fun _ _ => true) fun i j => .int (i - j)
abbrev fMul : D → D → Option D := fII cMul fun i j => .int (i * j)
abbrev fDiv : D → D → Option D := fII cDiv fun i j => .int (i / j)
abbrev fMod : D → D → Option D := fII (fun _ j => decide (0 < j)) fun i j => .int (i % j)
abbrev fPow : D → D → Option D := fII cPow fun i j => .int (i ^ j.toNat)
abbrev fShl : D → D → Option D := fII cPow fun i j => .int (i * 2 ^ j.toNat)
abbrev fShr : D → D → Option D := fII (fun _ j => decide (0 ≤ j)) fun i j => .int (i / 2 ^ j.toNat)
abbrev fAnd : D → D → Option D := fII (fun _ _ => true) fun i j => .int (Builtin.bitAnd i j)
abbrev fOr : D → D → Option D := fII (fun _ _ => true) fun i j => .int (Builtin.bitOr i j)
abbrev mVl (m : M D) : M Pl := bnd m fun d => pur (.vl d)
end DL
/-! DLn: a law's end. -/
namespace DL
open PySem PySem.Spec L2 PyProof.Rows
theorem walk_ofEw {l : PySem.W.OpenLaw} {n k : Nat} {q : Program} {loose : List Str} {XP : (Str → Option Value) → Heap → Prop} {YP : World → Heap → Prop} {d : DefRec} {CX : World → CXT} {x : Str}
    (hn : l.most = some n) (hn2 : n ≤ sizeLine) (hdf : d.params.defaults = []) (hr : Room k callerA)
    (F : ∀ (w : World) (mg : Str → Option Value) (fa : Addr) (h : Heap), YP w h → h.Ns mainGlobals mg → mg d.name = some (.ref fa) →
      ∃ (K : PySem.W.Frag) (fd : FuncData) (sp : Sp), K.In h ∧ (∀ (s : Shared) (u : Value), BindsTo s fd ⟨[u], []⟩ [(x, u)]) ∧
        (∀ (H : Hp) (a : Addr) (ns : List Int), ns.length ≤ n → Only H → SqL K H a (ns.map V.int) → sp [.ref a] H (fun v _ => v = .bl true) fun _ _ _ => False) ∧
        ∀ base : Heap, K.In base → base.Ns mainGlobals mg → FnOk l.prog w K mg base (CX w) k fa fd [x] sp)
    (hCX : ∀ (w : World) (H : Hp) (s : Shared) (e : Value) (s' : Shared), CX w [] H s (fun _ _ _ => False) e s' → False) :
    PySem.W.WalkO q loose XP YP l.row.toRowW d [] (fun f vs => PySem.call f vs) := by
  refine Att.attach_call hn hdf fun w s₀ s₁ mg mb fa o pm cd doc a vs ns G Y ho hd hcd hmg hobj hints hlen hg => ?_
  obtain ⟨K, fd, sp, KX, hb, hsp, hF⟩ := F w mg fa _ Y G.T.g hmg
  exact law_call KX G.T.g G.T.b G.T.builtins G.T.nolimit hg hobj hints (Nat.le_trans hlen hn2) hr hF hb (fun H hO hS => hsp H a ns hlen hO hS) fun H e s' => hCX w H s₁ e s'
theorem no_exc {prog : Program} {w : World} {H : Hp} {s : Shared} {e : Value} {s' : Shared} (h : L2.CX prog w [] H s (fun _ _ _ => False) e s') : False := by
  obtain ⟨_, _, _, _, _, _, h⟩ := h
  simp_all
/-- the law's promise, by its mirror -/
theorem sp_law {K : PySem.W.Frag} {cv : CV} {F : List D → R (List D) D} {H : Hp} {a : Addr} {ns : List Int} (hS : SqL K H a (ns.map V.int)) (h : ∃ ds', F [.nd .scr (ns.map D.int)] = .ok (.bl true) ds') : spM K cv [false] F [.ref a] H (fun v _ => v = .bl true) fun _ _ _ => False := by
  obtain ⟨ds', h⟩ := h
  have hl : ∀ ns : List Int, OwnL K H H (ns.map V.int) (ns.map D.int) [] := by
    intro ns
    induction ns with
    | nil => exact .nil
    | cons n ns ih => exact .cons (f := []) (g := []) (.int n) ih
  have ho : Own K H H (.ref a) (.nd .scr (ns.map D.int)) [] := .fz (c := .scr) hS (hl ns)
  refine ⟨H, [.nd .scr (ns.map D.int)], [], same_refl H, .cons (f := []) (g := []) ho .nil, .nil, ⟨.inr ?_, True.intro⟩, ?_⟩
  · rw [frz_nd]
    simp [Con.frz, Function.comp_def]
  · rw [h]
    intro v G' H' fv fa _ o _
    cases o
    rfl
end DL
/-! DLt: list, tuple, sorted, min, max, sum of data; remove, join. -/
namespace DL
open PySem PySem.Spec L2
/-! ### list(x), tuple(x) -/
def fList : List D → Option D
  | [.nd (.lst _) ds] => some (.nd (.lst true) (ds.map D.frz))
  | [.nd .tup ds] => some (.nd (.lst true) (ds.map D.frz))
  | _ => none
def fTuple : List D → Option D
  | [.nd (.lst _) ds] => some (.nd .tup (ds.map D.frz))
  | [.nd .tup ds] => some (.nd .tup (ds.map D.frz))
  | _ => none
section
variable {X : Cx}
theorem c_list : CallR X (.type "list") (rCall X.K fList) := callR_imp call_list_of fun xs H Q ⟨c, σ, ρ, τ, ds, dz, l, S, e, q⟩ => by
  unfold fList at e
  split at e
  · cases e
    obtain ⟨x, rfl⟩ := one_of l
    obtain ⟨b, vs, rfl, hl, hf, S2⟩ := (show Sta X.K c H σ ρ ((x, .nd (.lst _) _) :: τ) from S).items
    exact ⟨b, vs, rfl, .inl (.inl (sq_l hf)), fun p hp => q _ _ (same_upd hp) (Sta.newO (by simp [hl]) S2 hp ⟨rfl, upd_same⟩)⟩
  · cases e
    obtain ⟨x, rfl⟩ := one_of l
    obtain ⟨b, vs, rfl, hl, hf, S2⟩ := (show Sta X.K c H σ ρ ((x, .nd .tup _) :: τ) from S).items
    exact ⟨b, vs, rfl, .inr (.inl (.inl (sq_t hf))), fun p hp => q _ _ (same_upd hp) (Sta.newO (by simp [hl]) S2 hp ⟨rfl, upd_same⟩)⟩
  · cases e
theorem c_tuple : CallR X (.type "tuple") (rCall X.K fTuple) := callR_imp call_tuple_of fun xs H Q ⟨c, σ, ρ, τ, ds, dz, l, S, e, q⟩ => by
  unfold fTuple at e
  split at e
  · cases e
    obtain ⟨x, rfl⟩ := one_of l
    obtain ⟨b, vs, rfl, hl, hf, S2⟩ := (show Sta X.K c H σ ρ ((x, .nd (.lst _) _) :: τ) from S).items
    exact ⟨b, vs, rfl, .inl ⟨.inl (sq_l hf), fun p hp => q _ _ (same_upd hp) (Sta.newT (by simp [hl]) S2 hp)⟩⟩
  · cases e
    obtain ⟨x, rfl⟩ := one_of l
    have S0 : Sta X.K c H σ ρ ((x, .nd .tup _) :: τ) := S
    obtain ⟨b, vs, rfl, hl, hf, S2⟩ := S0.items
    have S3 := S0.frz
    rw [frz_nd] at S3
    exact ⟨b, vs, rfl, .inr ⟨.inl (.inl (sq_t hf)), q _ H (same_refl H) S3⟩⟩
  · cases e
end
/-! ### data by their reading -/
mutual
def ofPy : PyData → D
  | .none => .non
  | .bool b => .bl b
  | .int i => .int i
  | .str x => .str x
  | .tuple ds => .nd .tup (ofPyL ds)
  | .list ds => .nd (.lst false) (ofPyL ds)
  | .dict _ => .non
def ofPyL : List PyData → List D
  | [] => []
  | d :: ds => ofPy d :: ofPyL ds
end
mutual
theorem ofPy_toPy : ∀ (d : D) (y : PyData), toPy d = some y → ofPy y = d.frz
  | .non, y, h => by cases h; rfl
  | .bl b, y, h => by cases h; rfl
  | .int i, y, h => by cases h; rfl
  | .str x, y, h => by cases h; rfl
  | .nd cn ds, y, h => by
    cases cn with
    | tup =>
      have h : (toPyL ds).map PyData.tuple = some y := h
      cases q : toPyL ds with
      | none => rw [q] at h; cases h
      | some ys =>
        rw [q] at h; cases h
        show D.nd .tup (ofPyL ys) = .nd .tup (frzL ds)
        rw [ofPyL_toPyL ds ys q]
    | lst o =>
      have h : (toPyL ds).map PyData.list = some y := h
      cases q : toPyL ds with
      | none => rw [q] at h; cases h
      | some ys =>
        rw [q] at h; cases h
        show D.nd (.lst false) (ofPyL ys) = .nd (.lst false) (frzL ds)
        rw [ofPyL_toPyL ds ys q]
    | dic o ks => cases h
    | dit o ks => cases h
    | scr => cases h
theorem ofPyL_toPyL : ∀ (ds : List D) (ys : List PyData), toPyL ds = some ys → ofPyL ys = frzL ds
  | [], ys, h => by unfold toPyL at h; cases h; rfl
  | d :: ds, ys, h => by
    unfold toPyL at h
    cases q : toPy d with
    | none => rw [q] at h; cases h
    | some a =>
      cases q2 : toPyL ds with
      | none => rw [q, q2] at h; cases h
      | some b =>
        rw [q, q2] at h; cases h
        show ofPy a :: ofPyL b = d.frz :: frzL ds
        rw [ofPy_toPy d a q, ofPyL_toPyL ds b q2]
end
def pyOf (d : D) : PyData := (toPy d).getD .none
theorem toPyL_pyOf : ∀ {ds : List D} {ys : List PyData}, toPyL ds = some ys → ys = ds.map pyOf
  | [], ys, h => by unfold toPyL at h; cases h; rfl
  | d :: ds, ys, h => by
    unfold toPyL at h
    cases q : toPy d with
    | none => rw [q] at h; cases h
    | some a =>
      cases q2 : toPyL ds with
      | none => rw [q, q2] at h; cases h
      | some b =>
        rw [q, q2] at h; cases h
        rw [List.map_cons, ← toPyL_pyOf q2]
        congr 1
        unfold pyOf; rw [q]; rfl
theorem toPyL_at : ∀ {ds : List D} {ys : List PyData} {i : Nat} {d : D}, toPyL ds = some ys → ds[i]? = some d → ∃ y, ys[i]? = some y ∧ toPy d = some y
  | [], ys, i, d, h, e => by simp at e
  | d0 :: ds, ys, i, d, h, e => by
    unfold toPyL at h
    cases q : toPy d0 with
    | none => rw [q] at h; cases h
    | some a =>
      cases q2 : toPyL ds with
      | none => rw [q, q2] at h; cases h
      | some b =>
        rw [q, q2] at h; cases h
        cases i with
        | zero => simp at e; subst e; exact ⟨a, rfl, q⟩
        | succ i =>
          obtain ⟨y, h1, h2⟩ := toPyL_at q2 (i := i) (by simpa using e)
          exact ⟨y, by simpa using h1, h2⟩
mutual
theorem toPy_frz : ∀ d : D, toPy d.frz = toPy d
  | .non => rfl
  | .bl b => rfl
  | .int i => rfl
  | .str x => rfl
  | .nd cn ds => by
    cases cn with
    | tup =>
      show (toPyL (frzL ds)).map PyData.tuple = (toPyL ds).map PyData.tuple
      rw [toPyL_frz ds]
    | lst o =>
      show (toPyL (frzL ds)).map PyData.list = (toPyL ds).map PyData.list
      rw [toPyL_frz ds]
    | dic o ks => rfl
    | dit o ks => rfl
    | scr => rfl
theorem toPyL_frz : ∀ ds : List D, toPyL (frzL ds) = toPyL ds
  | [] => rfl
  | d :: ds => by
    show toPyL (d.frz :: frzL ds) = toPyL (d :: ds)
    unfold toPyL
    rw [toPy_frz d, toPyL_frz ds]
end
/-! ### sorted -/
open PySem.W (AllAlike Sortable dataLe dataLt EachIs AlikeAll minD maxD)
def rSortD (K : PySem.W.Frag) : List V → Hp → VK → Prop := fun vs H Q => ∃ (a : Addr) (ps : List (V × D)), vs = [.ref a] ∧ SqL K H a (ps.map (·.1)) ∧ DpAll K H (ps.map (·.1)) (ps.map fun p => pyOf p.2) ∧ AllAlike (ps.map fun p => pyOf p.2) ∧ Sortable (ps.map fun p => pyOf p.2) ∧
  (∀ p ∈ ps, (pyOf p.2).depth ≤ 60) ∧ ∀ p, H p = none → Q (.ref p) (upd H p (.lst ((ps.mergeSort (dataLe false fun p => pyOf p.2)).map (·.1))))
theorem each_vals {ps : List (V × D)} : ∀ {us : List Value}, Vals (ps.map (·.1)) us → EachIs (fun v (p : V × D) => RelV p.1 v) us ps := by
  induction ps with
  | nil => intro us h; cases h; exact .nil
  | cons p ps ih => intro us h; cases h with
    | cons r t => exact .cons r (ih t)
theorem vals_each {ps : List (V × D)} : ∀ {us : List Value}, EachIs (fun v (p : V × D) => RelV p.1 v) us ps → Vals (ps.map (·.1)) us := by
  induction ps with
  | nil => intro us h; cases h; exact .nil
  | cons p ps ih => intro us h; cases h with
    | cons r t => exact .cons r (ih t)
theorem each_reads {K : PySem.W.Frag} {h : Heap} {ps : List (V × D)} : ∀ {us : List Value} {as : List Addr}, ReadsAll h us (ps.map fun p => pyOf p.2) as → EachIs (fun v (p : V × D) => ∃ as, Reads h v (pyOf p.2) as) us ps := by
  induction ps with
  | nil => intro us as h; cases h; exact .nil
  | cons p ps ih => intro us as h; cases h with
    | cons r t => exact .cons ⟨_, r⟩ (ih t)
section
variable {X : Cx}
theorem cr_sortedD (hu : X.A.units + 64 < cLine) : CallR X (.builtin "sorted") (rSortD X.K) := by
  intro pins s σ H vs us Q I r h
  obtain ⟨a, ps, rfl, hs, hd, ha, hk, hdep, q⟩ := h
  obtain ⟨its, rv, hl, hz⟩ := I.list hs
  rw [Vals.ref1 r]
  obtain ⟨as, rr⟩ := Dp.readsAll I _ _ _ hd rv
  have hL : ps.length ≤ sizeLine := by simpa using hz
  refine PySem.W.sorted_data (R := fun v (p : V × D) => RelV p.1 v) (enc := fun p => pyOf p.2) (bs := ps) hl.isList (each_vals rv) (each_reads (K := X.K) rr) ha hk hL (fun b hb => by have := hdep b hb; omega) fun out h1 h2 => ?_
  obtain ⟨ep, he'⟩ := PyProof.Rows.sortedAll_at s.heap its out.toArray
  have hv := vals_each h2
  exact ⟨.ref _, upd H (s.heap.objs.size + 1) (.lst ((ps.mergeSort (dataLe false fun p => pyOf p.2)).map (·.1))), I.laid (t' := s.toks) (fun _ _ => PyProof.Rows.sortedAll_old) (Nat.le_succ _) ⟨by rw [List.length_map, List.length_mergeSort]; exact hL, out, ep, hv, he'⟩, rfl, q _ (I.hok.fresh (Nat.le_succ _))⟩
open Classical in
/-- sorted(x), x a list of alike data -/
noncomputable def fSorted : List D → Option D
  | [.nd (.lst _) ds] => if (toPyL ds).isSome = true ∧ AllAlike (ds.map pyOf) ∧ Sortable (ds.map pyOf) ∧ (∀ d ∈ ds, (pyOf d).depth ≤ 60) then some (.nd (.lst true) ((ds.map D.frz).mergeSort (dataLe false pyOf))) else none
  | _ => none
theorem ownL_zip {K : PySem.W.Frag} {G H : Hp} : ∀ {ps : List (V × D)}, (∀ p ∈ ps, Own K G H p.1 p.2 []) → OwnL K G H (ps.map (·.1)) (ps.map (·.2)) []
  | [], _ => .nil
  | p :: ps, h => .cons (f := []) (g := []) (h p List.mem_cons_self) (ownL_zip fun q hq => h q (List.mem_cons_of_mem _ hq))
theorem ownL_each {K : PySem.W.Frag} {G H : Hp} : ∀ {vs : List V} {ds : List D} {f : List Addr}, OwnL K G H vs ds f → f = [] → ∀ p ∈ vs.zip ds, Own K G H p.1 p.2 []
  | _, _, _, .nil, _, p, hp => by simp at hp
  | _, _, _, .cons (f := f) (g := g) x t, e, p, hp => by
    obtain ⟨e1, e2⟩ := List.append_eq_nil_iff.mp e
    subst e1 e2
    rw [List.zip_cons_cons] at hp
    rcases List.mem_cons.mp hp with rfl | hp
    · exact x
    · exact ownL_each t rfl p hp
theorem pyOf_frz (d : D) : pyOf d.frz = pyOf d := by unfold pyOf; rw [toPy_frz]
theorem c_sorted (hu : X.A.units + 64 < cLine) : CallR X (.builtin "sorted") (rCall X.K fSorted) := callR_imp (cr_sortedD hu) fun xs H Q ⟨c, σ, ρ, τ, ds, dz, l, S, e, q⟩ => by
  unfold fSorted at e
  split at e
  · rename_i o es
    split at e
    case isFalse => cases e
    rename_i hc
    cases e
    obtain ⟨hc1, hc2, hc3, hc4⟩ := hc
    obtain ⟨x, rfl⟩ := one_of l
    obtain ⟨b, vs, rfl, hl, hf, S2⟩ := (show Sta X.K c H σ ρ ((x, .nd (.lst o) es) :: τ) from S).items
    have hlf : vs.length = (es.map D.frz).length := by simp [hl]
    have m1 : (vs.zip (es.map D.frz)).map (·.1) = vs := List.map_fst_zip (by omega)
    have m2 : (vs.zip (es.map D.frz)).map (·.2) = es.map D.frz := List.map_snd_zip (by omega)
    have m3 : (vs.zip (es.map D.frz)).map (fun p => pyOf p.2) = es.map pyOf := by
      have : (vs.zip (es.map D.frz)).map (fun p => pyOf p.2) = ((vs.zip (es.map D.frz)).map (·.2)).map pyOf := by rw [List.map_map]; rfl
      rw [this, m2, List.map_map]
      exact List.map_congr_left fun d _ => pyOf_frz d
    obtain ⟨ys, hy⟩ := Option.isSome_iff_exists.mp hc1
    have S2' := S2
    obtain ⟨G, f1, f2, sub, tmp, own, nd, g0, k0, n0, gn⟩ := S2'
    obtain ⟨e1, e2, rfl, h1, h2⟩ := OwnT.zip hlf tmp
    have ee : e1 = [] := by
      have : es.map D.frz = frzL es := (frzL_map es).symm
      rw [this] at h1
      exact ownL_frz_nil es h1
    subst ee
    have hdp : DpAll X.K H vs (es.map pyOf) := by
      have t : toPyL (es.map D.frz) = some ys := by rw [← frzL_map, toPyL_frz]; exact hy
      have := h1.dp sub t
      rw [toPyL_pyOf hy] at this
      exact this
    refine ⟨b, vs.zip (es.map D.frz), rfl, by rw [m1]; exact .inl (sq_l hf), by rw [m1, m3]; exact hdp, by rw [m3]; exact hc2, by rw [m3]; exact hc3, fun p hp => ?_, fun p hp => ?_⟩
    · have : p.2 ∈ es.map D.frz := by rw [← m2]; exact List.mem_map_of_mem hp
      obtain ⟨d, hd, e⟩ := List.mem_map.mp this
      rw [← e, pyOf_frz]
      exact hc4 d hd
    · have ho : ∀ p ∈ (vs.zip (es.map D.frz)).mergeSort (dataLe false fun p => pyOf p.2), Own X.K G H p.1 p.2 [] := fun p hp => ownL_each h1 rfl p (List.mem_mergeSort.mp hp)
      have hL := ownL_zip ho
      have hs : ((vs.zip (es.map D.frz)).mergeSort (dataLe false fun p => pyOf p.2)).map (·.2) = (es.map D.frz).mergeSort (dataLe false pyOf) := by
        rw [List.map_mergeSort (s := dataLe false pyOf)]
        · rw [m2]
        · intro a _ b _; rfl
      rw [hs] at hL
      have hll : (((vs.zip (es.map D.frz)).mergeSort (dataLe false fun p => pyOf p.2)).map (·.1)).length = ((es.map D.frz).mergeSort (dataLe false pyOf)).length := hL.length
      have S3 : Sta X.K c H σ ρ ((((vs.zip (es.map D.frz)).mergeSort (dataLe false fun p => pyOf p.2)).map (·.1)).zip ((es.map D.frz).mergeSort (dataLe false pyOf)) ++ τ) :=
        ⟨G, [] ++ e2, f2, sub, OwnT.unzip hL h2, own, nd, g0, k0, n0, gn⟩
      exact q _ _ (same_upd hp) (Sta.newO hll S3 hp ⟨rfl, upd_same⟩)
  · cases e
/-! ### min, max of a list -/
def rMinD (K : PySem.W.Frag) (lo : Bool) : List V → Hp → VK → Prop := fun vs H Q => ∃ (a : Addr) (xs : List V) (y : PyData) (ys : List PyData), vs = [.ref a] ∧ (SqL K H a xs ∨ SqT K H a xs) ∧ DpAll K H xs (y :: ys) ∧ AlikeAll (y :: ys) ∧ PyData.depthAll (y :: ys) ≤ 60 ∧
  ∀ (i : Nat) (v : V), xs[i]? = some v → (y :: ys)[i]? = some (if lo then minD y ys else maxD y ys) → Q v H
theorem vals_at : ∀ {xs : List V} {us : List Value} {i : Nat} {u : Value}, Vals xs us → us[i]? = some u → ∃ v, xs[i]? = some v ∧ RelV v u
  | _, _, _, _, .nil, e => by simp at e
  | _, _, 0, _, .cons r _, e => by simp at e; subst e; exact ⟨_, rfl, r⟩
  | _, _, i + 1, _, .cons _ t, e => by
    obtain ⟨v, h1, h2⟩ := vals_at t (i := i) (by simpa using e)
    exact ⟨v, by simpa using h1, h2⟩
theorem fold_mem {α : Type} (f : α → α → Bool) : ∀ (xs : List α) (x : α), xs.foldl (fun a y => if f y a then y else a) x ∈ x :: xs
  | [], x => by simp
  | y :: xs, x => by
    rw [List.foldl_cons]
    have := fold_mem f xs (if f y x then y else x)
    rcases List.mem_cons.mp this with h | h
    · rw [h]; split <;> simp
    · exact List.mem_cons_of_mem _ (List.mem_cons_of_mem _ h)
theorem minD_in (y : PyData) (ys : List PyData) : minD y ys ∈ y :: ys := fold_mem (fun a b => dataLt a b) ys y
theorem maxD_in (y : PyData) (ys : List PyData) : maxD y ys ∈ y :: ys := fold_mem (fun a b => dataLt b a) ys y
theorem same_reads {h h' : Heap} {us : List Value} {zs : List PyData} {as bs : List Addr} {i : Nat} {u : Value} {m : PyData} (rr : ReadsAll h us zs as) (k : ∀ b o, h.get? b = some o → h'.get? b = some o) (e : us[i]? = some u) (rm : Reads h' u m bs) (ha : AlikeAll zs) (hm : m ∈ zs) : zs[i]? = some m := by
  obtain ⟨cs, r1, hlt, hmem, _⟩ := PySem.W.readsAll_at rr i u e
  have r2 := PySem.W.reads_keeps k r1
  have := PySem.W.alike_unique _ _ _ _ _ (ha.1 _ hmem _ hm) r2 rm
  rw [← this]
  rw [List.getElem?_eq_getElem hlt]
  simp [List.getD, hlt]
theorem cr_minD (lo : Bool) (hcm : X.calm = true) (hu : X.A.units + 64 < cLine) : CallR X (.builtin (if lo then "min" else "max")) (rMinD X.K lo) := by
  intro pins s σ H vs us Q I r h
  obtain ⟨a, xs, y, ys, rfl, hs, hd, ha, hdep, q⟩ := h
  rw [Vals.ref1 r]
  have main : ∀ (its : List Value), Vals xs its → ∀ (i : Nat) (u : Value) (h' : Heap) (tk : Tok) (bs : List Addr), its.toArray[i]? = some u → Reads h' u (if lo then minD y ys else maxD y ys) bs → (∀ b o, s.heap.get? b = some o → h'.get? b = some o) → L2.EP X pins σ Q u { s with heap := h', toks := tk } := by
    intro its rv i u h' tk bs hi hr hk
    obtain ⟨as, rr⟩ := Dp.readsAll I _ _ _ hd rv
    have hi' : its[i]? = some u := by simpa using hi
    obtain ⟨v, h1, h2⟩ := vals_at rv hi'
    refine ⟨v, H, I.kept hk, h2, q i v h1 (same_reads rr hk hi' hr ha ?_)⟩
    cases lo with
    | true => exact minD_in y ys
    | false => exact maxD_in y ys
  rcases hs with hs | hs
  · obtain ⟨its, rv, hl, hz⟩ := I.list hs
    obtain ⟨as, rr⟩ := Dp.readsAll I _ _ _ hd rv
    cases lo with
    | true => exact PySem.W.min_list_data (I.ok.hd hcm) hl.isList (by simpa using rr) ha (by omega) fun i v h' tk bs h1 h2 h3 => main its rv i v h' tk bs h1 h2 h3
    | false => exact PySem.W.max_list_data (I.ok.hd hcm) hl.isList (by simpa using rr) ha (by omega) fun i v h' tk bs h1 h2 h3 => main its rv i v h' tk bs h1 h2 h3
  · obtain ⟨its, rv, hl, hz⟩ := I.tuple hs
    obtain ⟨as, rr⟩ := Dp.readsAll I _ _ _ hd rv
    have hl' : s.heap.IsTuple a its.toArray := hl
    cases lo with
    | true => exact PySem.W.min_tuple_data (I.ok.hd hcm) hl' (by simpa using rr) ha (by omega) fun i v h' tk bs h1 h2 h3 => main its rv i v h' tk bs h1 h2 h3
    | false => exact PySem.W.max_tuple_data (I.ok.hd hcm) hl' (by simpa using rr) ha (by omega) fun i v h' tk bs h1 h2 h3 => main its rv i v h' tk bs h1 h2 h3
open Classical in
noncomputable def fMin1 (lo : Bool) : List D → Option D
  | [.nd cn ds] => if cn = .tup ∨ (∃ o, cn = .lst o) then (match toPyL ds with
    | some (y :: ys) => if AlikeAll (y :: ys) ∧ PyData.depthAll (y :: ys) ≤ 60 then some (ofPy (if lo then minD y ys else maxD y ys)) else none
    | _ => none) else none
  | _ => none
theorem c_min1 (lo : Bool) (hcm : X.calm = true) (hu : X.A.units + 64 < cLine) : CallR X (.builtin (if lo then "min" else "max")) (rCall X.K (fMin1 lo)) := callR_imp (cr_minD lo hcm hu) fun xs H Q ⟨c, σ, ρ, τ, ds, dz, l, S, e, q⟩ => by
  unfold fMin1 at e
  split at e
  case h_2 => cases e
  rename_i cn es
  split at e
  case isFalse => cases e
  rename_i hcn
  split at e
  case h_2 => cases e
  rename_i y ys hy
  split at e
  case isFalse => cases e
  rename_i hc
  cases e
  obtain ⟨x, rfl⟩ := one_of l
  have S0 : Sta X.K c H σ ρ ((x, .nd cn es) :: τ) := S
  obtain ⟨b, vs, rfl, hl, hf, S2⟩ := S0.items
  have hlf : vs.length = (es.map D.frz).length := by simp [hl]
  obtain ⟨G, f1, f2, sub, tmp, own, nd, g0, k0, n0, gn⟩ := S2
  obtain ⟨e1, e2, rfl, h1, h2⟩ := OwnT.zip hlf tmp
  have ef : es.map D.frz = frzL es := (frzL_map es).symm
  have ee : e1 = [] := by
    rw [ef] at h1
    exact ownL_frz_nil es h1
  subst ee
  have t : toPyL (es.map D.frz) = some (y :: ys) := by rw [ef, toPyL_frz]; exact hy
  refine ⟨b, vs, y, ys, rfl, ?_, h1.dp sub t, hc.1, hc.2, fun i v hi hm => ?_⟩
  · rcases hcn with rfl | ⟨o, rfl⟩
    · exact .inr (.inl (.inl (sq_t hf)))
    · exact .inl (.inl (sq_l hf))
  · have hlt : i < (es.map D.frz).length := by rw [← hlf]; exact (List.getElem?_eq_some_iff.mp hi).1
    have hd : (es.map D.frz)[i]? = some (es.map D.frz)[i] := List.getElem?_eq_getElem hlt
    obtain ⟨w, hw1, hw2⟩ := h1.getF hd
    rw [hi] at hw1; cases hw1
    obtain ⟨z, hz1, hz2⟩ := toPyL_at t hd
    rw [hm] at hz1; cases hz1
    have hz3 := ofPy_toPy _ _ hz2
    have hfz : ((es.map D.frz)[i]).frz = (es.map D.frz)[i] := by simp [frz_frz]
    rw [hfz] at hz3
    rw [hz3] at q
    exact q v H (same_refl H) ⟨G, [] ++ e2, f2, sub, .cons hw2 h2, own, nd, g0, k0, n0, gn⟩
/-! sum -/
def intsOf : List D → Option (List Int)
  | [] => some []
  | .int i :: ds => (intsOf ds).map (i :: ·)
  | _ => none
theorem ints_vals {K : PySem.W.Frag} {G H : Hp} : ∀ {ds : List D} {vs : List V} {bs : List Int} {f : List Addr}, OwnL K G H vs ds f → intsOf ds = some bs → vs = bs.map V.int
  | [], _, _, _, .nil, e => by cases e; rfl
  | d :: ds, _, bs, _, .cons x t, e => by
    cases d with
    | int b =>
      have e : (intsOf ds).map (b :: ·) = some bs := e
      cases q : intsOf ds with
      | none => rw [q] at e; cases e
      | some r =>
        rw [q] at e; cases e
        rw [ints_vals t q]
        cases x; rfl
    | _ => cases e
def fSum : List D → Option D
  | [.nd (.lst _) ds] => (intsOf ds).map fun bs => .int bs.sum
  | _ => none
theorem c_sum (hcm : X.calm = true) : CallR X (.builtin "sum") (rCall X.K fSum) := callR_imp (cr_sum hcm) (rCall_sc fun xs ds dz H Q hx e k => by
  obtain ⟨G, f, s, o⟩ := hx
  unfold fSum at e
  split at e
  · rename_i oo es
    obtain ⟨x, g, rfl, o1⟩ := ownL1 o
    obtain ⟨a, vs, g2, rfl, hr, ol⟩ := lst_of s o1
    cases q : intsOf es with
    | none => rw [q] at e; cases e
    | some bs =>
      rw [q] at e; cases e
      have := ints_vals ol q
      subst this
      exact ⟨a, bs, rfl, .inl hr, k _ fun _ _ => .int _⟩
  · cases e)
/-! join -/
def strsOf : List D → Option (List Str)
  | [] => some []
  | .str i :: ds => (strsOf ds).map (i :: ·)
  | _ => none
theorem strs_vals {K : PySem.W.Frag} {G H : Hp} : ∀ {ds : List D} {vs : List V} {bs : List Str} {f : List Addr}, OwnL K G H vs ds f → strsOf ds = some bs → vs = bs.map V.str
  | [], _, _, _, .nil, e => by cases e; rfl
  | d :: ds, _, bs, _, .cons x t, e => by
    cases d with
    | str b =>
      have e : (strsOf ds).map (b :: ·) = some bs := e
      cases q : strsOf ds with
      | none => rw [q] at e; cases e
      | some r =>
        rw [q] at e; cases e
        rw [strs_vals t q]
        cases x; rfl
    | _ => cases e
end
end DL
/-! DLu: min, max of two; join; list(range); remove; raise. -/
namespace DL
open PySem PySem.Spec L2
/-! ### min, max of two texts -/
section
variable {prog : Program} {w : World} {A : Around} {E : Value → Shared → Prop} {s : Shared}
theorem strs2_at {x y : Str} {t u : Tok} {i : Nat} {v : Value} (h : (#[Value.str x t, Value.str y u] : Array Value)[i]? = some v) : ∃ tk, v = .str ([x, y].getD i x) tk := by
  match i, h with
  | 0, h => simp at h; subst h; exact ⟨t, rfl⟩
  | 1, h => simp at h; subst h; exact ⟨u, rfl⟩
  | i + 2, h => simp at h
theorem rcLt_str (x y : Str) (t u : Tok) (s : Shared) (prog : Program) (w : World) (A : Around) (Q : Value → Shared → Prop) (E : Value → Shared → Prop) (hu : A.units + 64 < cLine) (h : Q (.bool (decide (x.cps.toList < y.cps.toList))) s) : wpAny (model prog w) A (richCompare .Lt (.str x t) (.str y u)) Q E s := by
  have := PySem.W.rcLt_alike (.str x) (.str y) A s (.str x t) (.str y u) [] [] (.str x t) (.str y u) (by simp only [PySem.W.alike]) (fun e => by cases e) (by simp [PyData.depth]; omega)
  rw [PySem.W.dataLt_str] at this
  exact this prog w E Q h
theorem rcGt_str (x y : Str) (t u : Tok) (s : Shared) (prog : Program) (w : World) (A : Around) (Q : Value → Shared → Prop) (E : Value → Shared → Prop) (hu : A.units + 64 < cLine) (h : Q (.bool (decide (y.cps.toList < x.cps.toList))) s) : wpAny (model prog w) A (richCompare .Gt (.str x t) (.str y u)) Q E s := by
  have := PySem.W.rcGt_alike (.str x) (.str y) A s (.str x t) (.str y u) [] [] (.str x t) (.str y u) (by simp only [PySem.W.alike]) (fun e => by cases e) (by simp [PyData.depth]; omega)
  rw [PySem.W.dataLt_str] at this
  exact this prog w E Q h
theorem two_strs (lo : Bool) {x y : Str} {t u : Tok} {Q : Value → Shared → Prop} (hh : A.handled = none) (hu : A.units + 65 < cLine)
    (h : ∀ h' tk, (∀ c o, s.heap.get? c = some o → h'.get? c = some o) → Q (if (if lo then decide (y.cps.toList < x.cps.toList) else decide (x.cps.toList < y.cps.toList)) = true then .str y u else .str x t) { s with heap := h', toks := tk }) :
    wpAny (model prog w) A (call (.builtin (if lo then "min" else "max")) [.str x t, .str y u]) Q E s := by
  have hT : (s.heap.push { cls := .type "tuple", data := .seq #[.str x t, .str y u] }).IsTuple s.heap.objs.size #[.str x t, .str y u] := ⟨_, Heap.get?_push_size _ rfl, rfl, 0, rfl⟩
  have hsz : (s.heap.push { cls := .type "tuple", data := .seq #[.str x t, .str y u] }).objs.size = s.heap.objs.size + 1 := Heap.size_push ..
  have bt : Nat → Nat → Bool := fun i j => if lo then decide (([x, y].getD i x).cps.toList < ([x, y].getD j x).cps.toList) else decide (([x, y].getD j x).cps.toList < ([x, y].getD i x).cps.toList)
  have fin : ∀ v h' tk, (#[Value.str x t, Value.str y u] : Array Value)[argBest (fun i j => if lo then decide (([x, y].getD i x).cps.toList < ([x, y].getD j x).cps.toList) else decide (([x, y].getD j x).cps.toList < ([x, y].getD i x).cps.toList)) 1]? = some v →
      (∀ c o, c ∉ [(s.heap.push { cls := .type "tuple", data := .seq #[.str x t, .str y u] }).objs.size] → ((s.heap.push { cls := .type "tuple", data := .seq #[.str x t, .str y u] }).push { cls := .type "tuple_iterator", data := .fields #[.ref s.heap.objs.size, .int 0 0] }).get? c = some o → h'.get? c = some o) → Q v { s with heap := h', toks := tk } := by
    intro v h' tk hP hk
    have hold : ∀ c o, s.heap.get? c = some o → h'.get? c = some o := fun c o e => by
      refine hk c o (fun hm => ?_) (Heap.get?_push_of_some _ (Heap.get?_push_of_some _ e))
      rcases List.mem_cons.mp hm with e1 | hm
      · have := Heap.lt_size e; rw [e1, hsz] at this; exact Nat.lt_irrefl _ (Nat.lt_of_succ_lt this)
      · cases hm
    have := h h' tk hold
    have hv : v = if (if lo then decide (y.cps.toList < x.cps.toList) else decide (x.cps.toList < y.cps.toList)) = true then Value.str y u else Value.str x t := by
      cases lo with
      | true =>
        by_cases hb : y.cps.toList < x.cps.toList
        · simp [argBest, hb] at hP ⊢; exact hP.symm
        · simp [argBest, hb] at hP ⊢; exact hP.symm
      | false =>
        by_cases hb : x.cps.toList < y.cps.toList
        · simp [argBest, hb] at hP ⊢; exact hP.symm
        · simp [argBest, hb] at hP ⊢; exact hP.symm
    rw [hv]; exact this
  have hfp : ∀ c ∈ [(s.heap.push { cls := .type "tuple", data := .seq #[.str x t, .str y u] }).objs.size, s.heap.objs.size], c < ((s.heap.push { cls := .type "tuple", data := .seq #[.str x t, .str y u] }).push { cls := .type "tuple_iterator", data := .fields #[.ref s.heap.objs.size, .int 0 0] }).objs.size := fun c hc => by
    rw [Heap.size_push, hsz]
    rcases List.mem_cons.mp hc with rfl | hc
    · rw [hsz]; exact Nat.lt_succ_self _
    · rcases List.mem_cons.mp hc with rfl | hc
      · exact Nat.lt_succ_of_lt (Nat.lt_succ_self _)
      · cases hc
  cases lo with
  | true =>
    refine call_min_two (wpAny_pyIter_tuple hT ?_)
    refine ⟨_, [_, s.heap.objs.size], [_], _, _, _, _, rfl, Walks.tuple (A := A.in1) hh _ s.heap.objs.size (by rw [hsz]; exact Nat.ne_of_lt (Nat.lt_succ_self _)) #[.str x t, .str y u],
      ⟨⟨_, Heap.get?_push_size _ rfl, rfl, rfl⟩, hT.push _⟩, hfp, by simp, fun i j vi vj s' Q' E' hi hj hq => ?_, fun v h' tk hP hk => fin v h' tk hP hk⟩
    obtain ⟨t1, rfl⟩ := strs2_at hi
    obtain ⟨t2, rfl⟩ := strs2_at hj
    exact rcLt_str _ _ t1 t2 s' prog w A.in1 Q' E' (by show A.units + 1 + 64 < cLine; omega) hq
  | false =>
    refine call_max_two (wpAny_pyIter_tuple hT ?_)
    refine ⟨_, [_, s.heap.objs.size], [_], _, _, _, _, rfl, Walks.tuple (A := A.in1) hh _ s.heap.objs.size (by rw [hsz]; exact Nat.ne_of_lt (Nat.lt_succ_self _)) #[.str x t, .str y u],
      ⟨⟨_, Heap.get?_push_size _ rfl, rfl, rfl⟩, hT.push _⟩, hfp, by simp, fun i j vi vj s' Q' E' hi hj hq => ?_, fun v h' tk hP hk => fin v h' tk hP hk⟩
    obtain ⟨t1, rfl⟩ := strs2_at hi
    obtain ⟨t2, rfl⟩ := strs2_at hj
    exact rcGt_str _ _ t1 t2 s' prog w A.in1 Q' E' (by show A.units + 1 + 64 < cLine; omega) hq
end
def strLt (x y : Str) : Bool := decide (x.cps.toList < y.cps.toList)
def fMin2 : List D → Option D
  | [.int i, .int j] => some (.int (if j < i then j else i))
  | [.str x, .str y] => some (.str (if strLt y x = true then y else x))
  | _ => none
def fMax2 : List D → Option D
  | [.int i, .int j] => some (.int (if j > i then j else i))
  | [.str x, .str y] => some (.str (if strLt x y = true then y else x))
  | _ => none
section
variable {X : Cx}
theorem call_str2 (lo : Bool) (hc : X.calm = true) (hu : X.A.units + 65 < cLine) : CallR X (.builtin (if lo then "min" else "max")) (fun xs H Q => ∃ x y, xs = [.str x, .str y] ∧ Q (.str (if (if lo then strLt y x else strLt x y) = true then y else x)) H) := by
  intro pins s σ H xs us Q I r h
  obtain ⟨i, j, rfl, q⟩ := h
  obtain ⟨u, w', rfl, ⟨t, rfl⟩, ⟨t', rfl⟩⟩ := vals2 r
  refine two_strs lo (I.ok.hd hc) hu fun h' tk k => ⟨_, H, I.kept k, ?_, q⟩
  show RelV (.str (if (if lo then strLt j i else strLt i j) = true then j else i)) _
  unfold strLt
  by_cases hj : (if lo then decide (j.cps.toList < i.cps.toList) else decide (i.cps.toList < j.cps.toList)) = true
  · rw [if_pos hj, if_pos hj]; exact ⟨_, rfl⟩
  · rw [if_neg hj, if_neg hj]; exact ⟨_, rfl⟩
theorem c_min2 (hc : X.calm = true) (hu : X.A.units + 65 < cLine) : CallR X (.builtin "min") (rCall X.K fMin2) := callR_imp (callR_or (call_min2 hc) (call_str2 true hc hu)) (rCall_sc fun xs ds dz H Q hx e k => by
  obtain ⟨G, f, s, o⟩ := hx
  unfold fMin2 at e
  split at e
  · obtain ⟨x, y, g, g', rfl, o1, o2⟩ := ownL2 o
    cases o1; cases o2; cases e
    exact .inl ⟨_, _, rfl, k _ fun _ _ => .int _⟩
  · obtain ⟨x, y, g, g', rfl, o1, o2⟩ := ownL2 o
    cases o1; cases o2; cases e
    exact .inr ⟨_, _, rfl, k _ fun _ _ => .str _⟩
  · cases e)
theorem c_max2 (hc : X.calm = true) (hu : X.A.units + 65 < cLine) : CallR X (.builtin "max") (rCall X.K fMax2) := callR_imp (callR_or (call_max2 hc) (call_str2 false hc hu)) (rCall_sc fun xs ds dz H Q hx e k => by
  obtain ⟨G, f, s, o⟩ := hx
  unfold fMax2 at e
  split at e
  · obtain ⟨x, y, g, g', rfl, o1, o2⟩ := ownL2 o
    cases o1; cases o2; cases e
    exact .inl ⟨_, _, rfl, k _ fun _ _ => .int _⟩
  · obtain ⟨x, y, g, g', rfl, o1, o2⟩ := ownL2 o
    cases o1; cases o2; cases e
    exact .inr ⟨_, _, rfl, k _ fun _ _ => .str _⟩
  · cases e)
/-! ### methods of a text -/
abbrev FS := Str → List D → Option D
def rMS (K : PySem.W.Frag) (fo : FS) : V → List V → Hp → VK → Prop := fun x xs H Q => ∃ c σ ρ τ z ds dz, x = .str z ∧ xs.length = ds.length ∧ Sta K c H σ ρ (xs.zip ds ++ τ) ∧ fo z ds = some dz ∧ ∀ v H', Same H H' → Sta K c H' σ ρ ((v, dz) :: τ) → Q v H'
def mMS (fo : FS) (mo : M D) (ma : M (List D)) : M D := bnd mo fun d => bnd ma fun as => match d with
  | .str z => lft (fo z as)
  | _ => fun _ => .stuck
variable {c : C0} {W : WW} {p : Bool}
theorem ee_mtS {o e : Expr} {es : List Expr} {name : Str} {apos cpos : Pos} {id : String} {fo : FS} {mo : M D} {ma : M (List D)} (pa : PlainAttrs "str") (slot : Slot "str" name id) (hty : typeOf (.builtin id) = pure (.type "method_descriptor")) (hm : MtR X id (rMS X.K fo)) (ho : EE X c W p o mo) (ha : EA X c W p (e :: es) ma)
    (hbase : attributeBase o name X.env (eval o X.env) = eval o X.env := by rfl)
    (hfew : ((backTo cpos (starEach (e :: es) X.env)).all (fun x => !x.1) && (backToKw cpos (keywordEach [] X.env)).all (fun x => x.1.isSome)
      && decide ((e :: es).length + ([] : List Keyword).length + (if ([] : List Keyword).isEmpty then 0 else 1) < 30)) = true := by rfl)
    (hline : (apos.endLine == cpos.line) = true := by rfl) (hs : starEach (e :: es) X.env = (false, eval e X.env) :: starEach es X.env := by rfl) (hplain : (backTo cpos (starEach es X.env)).any (·.1) = false := by rfl)
    (hstr : ∀ ρ d ρ', mo ρ = .ok d ρ' → ∃ z, d = .str z) :
    EE X c W p (.Call (.Attribute o name apos) (e :: es) [] cpos) (mMS fo mo ma) := pe_mono (pe_bm pa slot hty hm ho ha hbase hfew hline hs hplain) fun σ H Q ⟨ρ, τ, S, q⟩ => by
  refine ⟨ρ, τ, S, ?_⟩
  unfold mMS bnd at q
  cases em : mo ρ with
  | ok d ρ1 =>
    rw [em] at q
    obtain ⟨z, rfl⟩ := hstr _ _ _ em
    intro v H1 s1 S1
    cases S1.isStr
    refine ⟨rfl, ?_⟩
    dsimp only at q
    refine rdA_of (k := fun as => lft (fo z as)) S1.drop (by unfold bnd; exact q) (fun _ _ h => h) (fun h => h) fun ds ρ2 vs H2 s2 l S2 q2 => ?_
    cases ef : fo z ds with
    | none => rw [ef] at q2; exact q2.elim
    | some dz =>
      rw [ef] at q2
      exact ⟨c, σ, ρ2, τ, z, ds, dz, rfl, l, S2, ef, fun v' H' s' S' => q2 v' H' (pp s1 (pp s2 fun _ => s')) S'⟩
  | err x ρ1 => rw [em] at q; exact q
  | stuck => rw [em] at q; exact q
theorem pur_str {x : Str} : ∀ ρ d ρ', (pur (D.str x) : M D) ρ = .ok d ρ' → ∃ z, d = .str z := fun ρ d ρ' h => by cases h; exact ⟨_, rfl⟩
def fJoin : FS := fun a as => match as with
  | [.nd cn ds] => if cn = .tup ∨ cn = .lst true ∨ cn = .lst false then (match strsOf ds with
    | some ys => if (ys.map (·.length)).sum + ys.length * a.length ≤ 16777216 then some (.str (Txt.join a ys)) else none
    | none => none) else none
  | _ => none
theorem m_join : MtR X "str.join" (rMS X.K fJoin) := mtR_imp mt_join fun x xs H Q ⟨c, σ, ρ, τ, z, ds, dz, ex, l, S, ef, q⟩ => by
  subst ex
  unfold fJoin at ef
  split at ef
  · rename_i cn es
    split at ef
    case isFalse => cases ef
    rename_i hcn
    split at ef
    · rename_i ys hy
      split at ef
      case isFalse => cases ef
      rename_i hz
      cases ef
      obtain ⟨y, rfl⟩ := one_of l
      have S0 : Sta X.K c H σ ρ ((y, .nd cn es) :: τ) := S
      obtain ⟨b, vs, rfl, hl, hf, S2⟩ := S0.items
      obtain ⟨G, f, sub, ol⟩ := Sta.args (by simp [hl]) S2
      have hys : strsOf (es.map D.frz) = some ys := by
        have : ∀ (es : List D) (ys : List Str), strsOf es = some ys → strsOf (es.map D.frz) = some ys := by
          intro es
          induction es with
          | nil => intro ys h; exact h
          | cons d es ih =>
            intro ys h
            cases d with
            | str b =>
              have h : (strsOf es).map (b :: ·) = some ys := h
              cases q : strsOf es with
              | none => rw [q] at h; cases h
              | some r =>
                rw [q] at h
                show (strsOf (es.map D.frz)).map (b :: ·) = some ys
                rw [ih r q]; exact h
            | _ => cases h
        exact this es ys hy
      have ev := strs_vals ol hys
      refine ⟨z, b, ys, rfl, rfl, ?_, hz, q _ H (same_refl H) (S0.drop.str _)⟩
      rw [← ev]
      rcases hcn with rfl | rfl | rfl
      · exact .inr (.inl (.inl (sq_t hf)))
      · exact .inl (.inl (sq_l hf))
      · exact .inl (.inl (sq_l hf))
    · cases ef
  · cases ef
/-! ### list(range(..)) -/
def mLstRg (m : M (List D)) : M D := bnd m fun ds => if ds.length ≤ 16777216 then pur (.nd (.lst true) ds) else fun _ => .stuck
theorem rg_zip (a b : Int) : (rgV a b).length = (rangeD a b).length := by rw [rgV_length]; simp [rangeD]
theorem sta_rg {K : PySem.W.Frag} {H : Hp} {σ : L2.St} {ρ : Env} {τ : List (V × D)} (S : Sta K c H σ ρ τ) (a b : Int) : Sta K c H σ ρ ((rgV a b).zip (rangeD a b) ++ τ) := by
  unfold rgV rangeD
  generalize (List.range (b - a).toNat) = l
  induction l with
  | nil => exact S
  | cons k l ih =>
    rw [List.map_cons, List.map_cons, List.zip_cons_cons, List.cons_append]
    exact ih.int _
theorem ee_listRg1 {pos pos' p1 p2 : Pos} {a : Expr} {m : M D} (hc : X.calm = true) (hg : Gl X "list") (hm : X.mg "list" = none) (hg' : Gl X "range") (hm' : X.mg "range" = none) (ha : EE X c W p a m)
    (h1 : starEach [.Call (.Name "range" p1) [a] [] p2] X.env = (false, eval (.Call (.Name "range" p1) [a] [] p2) X.env) :: starEach [] X.env := by rfl) (h2 : starEach [a] X.env = (false, eval a X.env) :: starEach [] X.env := by rfl) :
    EE X c W p (.Call (.Name "list" pos') [.Call (.Name "range" p1) [a] [] p2] [] pos) (mLstRg (mRange1 m)) := pe_mono (pe_listRg hc hg hm (prg_1 hg' hm' ha h2) h1) fun σ H Q ⟨ρ, τ, S, q⟩ => by
  unfold mLstRg mRange1 at q
  refine ⟨ρ, τ, S, ?_⟩
  unfold bnd at q
  cases em : m ρ with
  | ok d ρ1 =>
    rw [em] at q
    intro v H1 s1 S1
    cases d with
    | int j =>
      cases S1.isInt
      dsimp only at q
      by_cases hj : smallI j = true
      · rw [if_pos hj] at q
        have hj' : -(2 ^ 62) ≤ j ∧ j < 2 ^ 62 := by unfold smallI at hj; exact of_decide_eq_true hj
        dsimp only [pur] at q
        by_cases hl : (rangeD 0 j).length ≤ 16777216
        · rw [if_pos hl] at q
          have hl' : (j - 0).toNat ≤ 16777216 := by simpa [rangeD] using hl
          refine ⟨j, rfl, ⟨by omega, by omega, by omega, by omega, by omega⟩, fun a0 ha0 => ?_⟩
          exact q _ _ (pp s1 fun _ => same_upd ha0) (Sta.newO (rg_zip 0 j) (sta_rg S1.drop 0 j) ha0 ⟨rfl, upd_same⟩)
        · rw [if_neg hl] at q; exact q.elim
      · rw [if_neg hj] at q; exact q.elim
    | _ => exact q.elim
  | err x ρ1 => rw [em] at q; exact q
  | stuck => rw [em] at q; exact q
theorem ee_listRg2 {pos pos' p1 p2 : Pos} {a b : Expr} {m n : M D} (hc : X.calm = true) (hg : Gl X "list") (hm : X.mg "list" = none) (hg' : Gl X "range") (hm' : X.mg "range" = none) (ha : EE X c W p a m) (hb : EE X c W p b n)
    (h1 : starEach [.Call (.Name "range" p1) [a, b] [] p2] X.env = (false, eval (.Call (.Name "range" p1) [a, b] [] p2) X.env) :: starEach [] X.env := by rfl) (h2 : starEach [a, b] X.env = (false, eval a X.env) :: starEach [b] X.env := by rfl) (h3 : starEach [b] X.env = (false, eval b X.env) :: starEach [] X.env := by rfl) (h4 : (backTo p2 (starEach [b] X.env)).any (·.1) = false := by rfl) :
    EE X c W p (.Call (.Name "list" pos') [.Call (.Name "range" p1) [a, b] [] p2] [] pos) (mLstRg (mRange2 m n)) := pe_mono (pe_listRg hc hg hm (prg_2 hg' hm' ha hb h2 h3 h4) h1) fun σ H Q ⟨ρ, τ, S, q⟩ => by
  unfold mLstRg mRange2 at q
  refine ⟨ρ, τ, S, ?_⟩
  unfold bnd at q
  cases em : m ρ with
  | ok d ρ1 =>
    rw [em] at q
    intro v H1 s1 S1
    dsimp only at q
    refine ⟨ρ1, _, S1, ?_⟩
    cases en : n ρ1 with
    | ok e ρ2 =>
      rw [en] at q
      intro v2 H2 s2 S2
      cases d with
      | int i =>
        cases e with
        | int j =>
          dsimp only at q
          by_cases hj : (smallI i && smallI j) = true
          · rw [if_pos hj] at q
            obtain ⟨k1, k2⟩ := Bool.and_eq_true_iff.mp hj
            have hi' : -(2 ^ 62) ≤ i ∧ i < 2 ^ 62 := by unfold smallI at k1; exact of_decide_eq_true k1
            have hj' : -(2 ^ 62) ≤ j ∧ j < 2 ^ 62 := by unfold smallI at k2; exact of_decide_eq_true k2
            dsimp only [pur] at q
            by_cases hl : (rangeD i j).length ≤ 16777216
            · rw [if_pos hl] at q
              have hl' : (j - i).toNat ≤ 16777216 := by simpa [rangeD] using hl
              cases S2.isInt
              cases S2.drop.isInt
              refine ⟨i, j, rfl, rfl, ⟨by omega, by omega, by omega, by omega, by omega⟩, fun a0 ha0 => ?_⟩
              exact q _ _ (pp s1 (pp s2 fun _ => same_upd ha0)) (Sta.newO (rg_zip i j) (sta_rg S2.drop.drop i j) ha0 ⟨rfl, upd_same⟩)
            · rw [if_neg hl] at q; exact q.elim
          · rw [if_neg hj] at q; exact q.elim
        | _ => exact q.elim
      | _ => exact q.elim
    | err x ρ2 => rw [en] at q; exact fun H' S' => q H' S'.drop
    | stuck => rw [en] at q; exact q
  | err x ρ1 => rw [em] at q; exact q
  | stuck => rw [em] at q; exact q
/-! ### remove -/
def rRemD (K : PySem.W.Frag) : V → List V → Hp → VK → Prop := fun x xs H Q => ∃ (l : Addr) (vs : List V) (y : V) (zs : List PyData) (d : PyData) (j : Nat), x = .ref l ∧ xs = [y] ∧ H l = some (.lst vs) ∧ DpAll K H vs zs ∧ Dp K H y d ∧ PyData.plainAll zs = true ∧ d.plain = true ∧ PyData.depthAll zs ≤ 60 ∧ PySem.SeqAt.dataPlace zs d = some j ∧ Q .non (upd H l (.lst (vs.eraseIdx j)))
theorem mt_removeD (hu : X.A.units + 65 < cLine) : MtR X "list.remove" (rRemD X.K) := by
  intro pins s σ H x xs v us Q I rx rxs h
  obtain ⟨l, vs, y, zs, d, j, rfl, rfl, hH, hz, hd, hp1, hp2, hdep, hj, q⟩ := h
  cases rx
  obtain ⟨u, rfl, ru⟩ := rxs.one
  obtain ⟨z, its, n, r, hl, e⟩ := I.lstM hH
  obtain ⟨as, rr⟩ := Dp.readsAll I _ _ _ hz r
  obtain ⟨bs, rd⟩ := Dp.reads I _ _ _ hd ru
  have hil : s.heap.IsList l its.toArray := ⟨_, e, rfl, n, rfl⟩
  refine PySem.SeqAt.remove_list_data (vs := its.toArray) hil (by simpa using rr) rd hp1 hp2 (by have := Nat.min_le_left (PyData.depthAll zs) d.depth; omega) hj (by rw [List.size_toArray]; omega) ?_
  have rr := r.eraseIdx j
  refine ⟨.non, _, I.lset (its' := its.eraseIdx j) (t' := s.toks) hH e ?_ rr ?_, rfl, q⟩
  · show its.toArray.eraseIdxIfInBounds j = (its.eraseIdx j).toArray
    rw [List.eraseIdxIfInBounds_toArray]
  · have := len_erase vs j
    omega
open Classical in
noncomputable def foRemove : FM := fun cn ds as => match cn, as with
  | .lst true, [d] => (match toPyL ds, toPy d with
    | some zs, some y => if PyData.plainAll zs = true ∧ y.plain = true ∧ PyData.depthAll zs ≤ 60 then (PySem.SeqAt.dataPlace zs y).map fun j => (.non, .lst true, ds.eraseIdx j) else none
    | _, _ => none)
  | _, _ => none
theorem m_remove (hu : X.A.units + 65 < cLine) : MtR X "list.remove" (rMt X.K foRemove) := mtR_imp (mt_removeD hu) fun x xs H Q ⟨c, σ, ρ, τ, i, π, cn, ds, as, z, cn', ds', u, l, S, ha, hc, e1, e2, ef, q⟩ => by
  unfold foRemove at ef
  split at ef
  · rename_i d
    split at ef
    · rename_i zs y hz hy
      split at ef
      case isFalse => cases ef
      rename_i hcond
      cases hj : PySem.SeqAt.dataPlace zs y with
      | none => rw [hj] at ef; cases ef
      | some j =>
        rw [hj] at ef; cases ef
        obtain ⟨w, rfl⟩ := one_of l
        have S' : Sta X.K c H σ ρ ((w, d) :: τ) := S
        obtain ⟨G1, f1, sub1, o1⟩ := S'.hd
        have hdp := o1.dp sub1 hy
        obtain ⟨d0, h1, h2, h3⟩ := atP_some ha
        obtain ⟨G2, f2, sub2, o2⟩ := S'.view ha e1 e2
        obtain ⟨u', a, vs, k1, k2, k3, k4, go⟩ := Sta.mut (T := []) S'.drop h1 h2 hc
        rw [e1] at k1; cases k1
        have := e2.inj k2
        subst this
        have hdl : DpAll X.K H vs zs := by
          cases o2 with
          | fz zz _ => rw [zz.isO] at hc; cases hc
          | @ow a' _ vs' _ f' zz gn ll =>
            have e3 : vs' = vs := zz.inj k3
            subst e3
            exact ll.dp sub2 hz
        have hjl : j < zs.length := by
          have := List.findIdx?_eq_some_iff_findIdx_eq.mp hj
          exact this.1
        have hzl : zs.length = vs.length := by
          have := toPyL_pyOf hz
          rw [this, List.length_map, ← k4]
        have ev : vs[j]? = some (vs[j]'(by omega)) := List.getElem?_eq_getElem _
        have ed : ds[j]? = some (ds[j]'(by omega)) := List.getElem?_eq_getElem _
        refine ⟨a, vs, w, zs, y, j, rfl, rfl, k3.2, hdl, hdp, hcond.1, hcond.2.1, hcond.2.2, hj, q _ _ ?_⟩
        rw [h3]
        have := go (.lst true) (vs.eraseIdx j) (ds.eraseIdx j) [(vs[j]'(by omega), ds[j]'(by omega))] (.lst (vs.eraseIdx j)) (by simp [List.length_eraseIdx, k4]) (by
          rw [List.append_nil, zip_erase]
          exact perm_erase _ _ _ (zip_get ev ed)) ⟨rfl, upd_same⟩
        exact (Sta.drop this).non
    · cases ef
  · cases ef
end
/-! ### raise -/
section
variable {X : Cx} {c : C0} {W : WW} {P : List Nat}
def mRaise (x : Str) : M Fl := fun ρ => .err ⟨x, []⟩ ρ
/-- what is known of an own class of error -/
structure ExM (K : PySem.W.Frag) (mg : Str → Option Value) (cv : CV) (x : Str) : Prop where
  ex : ∃ C : Addr, cv x = .ref C ∧ mg x = some (.ref C) ∧ PySem.W.excIn K C He.veBase "ValueError.__new__" = true ∧ PySem.W.keepIn K (.ref C) = true ∧ PySem.W.subIn K (.ref C) (.type "BaseException") = some true ∧ PySem.W.typeIn K (.ref C) = some (.type "type")
theorem ss_raise {cv : CV} {x m : Str} {j : Nat} {p p2 pos pos' : Pos} (hc : X.calm = true) (tk : Takes X (wx cv W)) (k : ExM X.K X.mg cv x) (hg : Gl X x) (hdb : (x == ("__debug__" : Str)) = false := by decide) : SS X c W P (.Raise (some (.Call (.Name x p) [.Constant (.str m) j p2] [] pos)) none pos') (mRaise x) := by
  obtain ⟨C, e1, e2, e3, e4, e5, e6⟩ := k.ex
  exact ps_mono (ps_raise hc tk (pmk_own F.excBase_ValueError e3 e2 e4 (raises_own e5 e6) hg hdb)) fun Dn σ H ⟨ρ, τ, S, q⟩ => ⟨⟨x, []⟩, e1.symm, rfl, q σ H (Pin.refl _ _) S⟩
end
end DL
/-! DLp: dicts walked: locked while the loop runs. -/
namespace DL
open PySem PySem.Spec L2
theorem upd_back {H : Hp} {a : Addr} {x y : HO} (h : H a = some x) : upd (upd H a y) a x = H := by
  funext b
  by_cases hb : b = a
  · rw [hb, upd_same, h]
  · rw [upd_ne hb, upd_ne hb]
/-- the two things read alike -/
structure Alk (x y : HO) : Prop where
  rd : ∀ w, x = w ∨ (∃ o, x = .frz o w) → (∃ xs, w = .lst xs) ∨ (∃ k, w = .dK k) ∨ (∃ k, w = .dT k) → y = w ∨ ∃ o, y = .frz o w
  tup : ∀ vs, x ≠ .tup vs
section
variable {K : PySem.W.Frag} {G H : Hp} {a : Addr} {x y : HO}
theorem Alk.get (h : Alk x y) (hG : G a = some x) {b : Addr} {w : HO} (hw : (∃ xs, w = .lst xs) ∨ (∃ k, w = .dK k) ∨ (∃ k, w = .dT k)) (r : Rd G b w) : Rd (upd G a y) b w := by
  by_cases hb : b = a
  · subst hb
    have : x = w ∨ ∃ o, x = .frz o w := by
      rcases r with r | ⟨o, r⟩
      · rw [hG] at r; exact .inl (Option.some.inj r)
      · rw [hG] at r; exact .inr ⟨o, Option.some.inj r⟩
    rcases h.rd w this hw with e | ⟨o, e⟩
    · exact .inl (by rw [upd_same, e])
    · exact .inr ⟨o, by rw [upd_same, e]⟩
  · unfold Rd
    rw [upd_ne hb]; exact r
theorem Alk.fz (h : Alk x y) (hG : G a = some x) {b : Addr} {vs : List V} {cn : Con} (r : cn.Fz K G b vs) : cn.Fz K (upd G a y) b vs := by
  cases cn with
  | tup =>
    have r : G b = some (.tup vs) := r
    show upd G a y b = _
    rw [upd_ne (fun e => by rw [e, hG] at r; exact h.tup vs (Option.some.inj r))]; exact r
  | lst o => exact ⟨r.1, h.get hG (.inl ⟨_, rfl⟩) r.2⟩
  | dic o ks => exact ⟨r.1, r.2.1, h.get hG (.inr (.inl ⟨_, rfl⟩)) r.2.2⟩
  | dit o ks => exact ⟨r.1, r.2.1, h.get hG (.inr (.inr ⟨_, rfl⟩)) r.2.2⟩
  | scr =>
    rcases r with r | r
    · exact .inl (h.get hG (.inl ⟨_, rfl⟩) r)
    · exact .inr r
mutual
theorem Own.sw (h : Alk x y) (hG : G a = some x) : ∀ {v : V} {d : D} {f : List Addr}, Own K G H v d f → Own K (upd G a y) (upd H a y) v d f
  | _, _, _, .non => .non
  | _, _, _, .bl b => .bl b
  | _, _, _, .int i => .int i
  | _, _, _, .str x => .str x
  | _, _, _, .fz z t => .fz (h.fz hG z) (t.sw h hG)
  | _, _, _, .ow (a := b) z g t => by
    have hb : b ≠ a := fun e => by rw [e, hG] at g; cases g
    exact .ow (z.mono fun o e => by rw [upd_ne hb]; exact e) (by rw [upd_ne hb]; exact g) (t.sw h hG)
theorem OwnL.sw (h : Alk x y) (hG : G a = some x) : ∀ {v : List V} {d : List D} {f : List Addr}, OwnL K G H v d f → OwnL K (upd G a y) (upd H a y) v d f
  | _, _, _, .nil => .nil
  | _, _, _, .cons z t => .cons (z.sw h hG) (t.sw h hG)
end
theorem OwnS.sw (h : Alk x y) (hG : G a = some x) : ∀ {σ : L2.St} {ρ : Env} {f : List Addr}, OwnS K G H σ ρ f → OwnS K (upd G a y) (upd H a y) σ ρ f
  | _, _, _, .nil => .nil
  | _, _, _, .no t => .no (t.sw h hG)
  | _, _, _, .yes z t => .yes (z.sw h hG) (t.sw h hG)
theorem OwnT.sw (h : Alk x y) (hG : G a = some x) : ∀ {τ : List (V × D)} {f : List Addr}, OwnT K G H τ f → OwnT K (upd G a y) (upd H a y) τ f
  | _, _, .nil => .nil
  | _, _, .cons z t => .cons (z.sw h hG) (t.sw h hG)
end
def cLk (c : C0) (G : Hp) (a : Addr) (y : HO) : C0 := ⟨upd G a y, fun b => if b = a then (c.H b).map (fun _ => y) else c.H b, c.f⟩
section
variable {K : PySem.W.Frag} {c : C0} {G G0 H : Hp} {σ : L2.St} {ρ : Env} {τ : List (V × D)} {f1 f2 : List Addr} {a : Addr} {x y : HO}
theorem Sta1.lk (h : Alk x y) (S : Sta1 K c G H σ ρ τ f1 f2) (hG : G a = some x) : Sta1 K (cLk c G a y) (upd G a y) (upd H a y) σ ρ τ f1 f2 := by
  obtain ⟨sub, tmp, own, nd, g0, k0, n0, gn⟩ := S
  refine ⟨fun b o e => ?_, tmp.sw h hG, own.sw h hG, nd, same_refl _, fun b o e nb => ?_, fun b hb => ?_, fun b o e => .inl e⟩
  · by_cases hb : b = a
    · rw [hb, upd_same] at e ⊢; exact e
    · rw [upd_ne hb] at e ⊢; exact sub b o e
  · have e : (if b = a then (c.H b).map (fun _ => y) else c.H b) = some o := e
    by_cases hb : b = a
    · rw [if_pos hb] at e
      rw [hb, upd_same]
      cases q : c.H b with
      | none => rw [q] at e; cases e
      | some o' => rw [q] at e; exact e
    · rw [if_neg hb] at e
      rw [upd_ne hb]; exact k0 b o e nb
  · rcases n0 b hb with z | z
    · exact .inl z
    · right
      show (if b = a then (c.H b).map (fun _ => y) else c.H b) = none
      rw [z]; split <;> rfl
theorem Sta1.ulk (h : Alk y x) (S : Sta1 K (cLk c G0 a y) G H σ ρ τ f1 f2) (hx : G0 a = some x) (hg : Same c.G G0) (hn : ∀ b o, G0 b = some o → c.G b = some o ∨ b ∈ c.f ∨ c.H b = none) (hC : ∀ o, c.H a = some o → a ∉ c.f → o = x) : H a = some y ∧ Sta1 K c (upd G a x) (upd H a x) σ ρ τ f1 f2 := by
  obtain ⟨sub, tmp, own, nd, g0, k0, n0, gn⟩ := S
  have hG : G a = some y := g0 a y (by show upd G0 a y a = _; rw [upd_same])
  refine ⟨sub a y hG, fun b o e => ?_, tmp.sw h hG, own.sw h hG, nd, fun b o e => ?_, fun b o e nb => ?_, fun b hb => ?_, fun b o e => ?_⟩
  · by_cases hb : b = a
    · rw [hb, upd_same] at e ⊢; exact e
    · rw [upd_ne hb] at e ⊢; exact sub b o e
  · have e0 := hg b o e
    by_cases hb : b = a
    · rw [hb] at e0
      rw [hb, upd_same, ← hx, e0]
    · rw [upd_ne hb]
      exact g0 b o (by show upd G0 a y b = _; rw [upd_ne hb]; exact e0)
  · by_cases hb : b = a
    · rw [hb] at e nb
      rw [hb, upd_same, hC o e nb]
    · rw [upd_ne hb]
      exact k0 b o (by show (if b = a then _ else c.H b) = _; rw [if_neg hb]; exact e) nb
  · rcases n0 b hb with z | z
    · exact .inl z
    · right
      have z : (if b = a then (c.H b).map (fun _ => y) else c.H b) = none := z
      by_cases hb : b = a
      · rw [if_pos hb] at z
        cases q : c.H b with
        | none => rfl
        | some o => rw [q] at z; cases z
      · rw [if_neg hb] at z; exact z
  · by_cases hb : b = a
    · rw [hb, upd_same] at e
      rw [hb]
      exact hn a o (by rw [hx, e])
    · rw [upd_ne hb] at e
      have q : upd G0 a y b = some o ∨ b ∈ c.f ∨ (if b = a then (c.H b).map (fun _ => y) else c.H b) = none := gn b o e
      rw [upd_ne hb, if_neg hb] at q
      rcases q with q | q | q
      · exact hn b o q
      · exact .inr (.inl q)
      · exact .inr (.inr q)
/-- a frozen dict is locked, and told again as it was -/
theorem Sta.lock {ks : List Key} {ds : List D} (S : Sta K c H σ ρ ((.ref a, .nd (.dic false ks) (ds.map D.frz)) :: τ)) : ∃ vs x G, ks.length = vs.length ∧ vs.length = ds.length ∧ H a = some x ∧ (x = .dK (ks.zip vs) ∨ ∃ od, x = .frz od (.dK (ks.zip vs))) ∧
    ∀ od, (x = .dK (ks.zip vs) ∨ x = .frz od (.dK (ks.zip vs))) → Sta K (cLk c G a (.frz od (.dK (ks.zip vs)))) (upd H a (.frz od (.dK (ks.zip vs)))) σ ρ ((.ref a, .nd (.dic false ks) (ds.map D.frz)) :: τ) ∧
      (∀ (i : Nat) (d : D), ds[i]? = some d → ∃ v, vs[i]? = some v ∧ ∀ H' σ' ρ' τ', Sta K (cLk c G a (.frz od (.dK (ks.zip vs)))) H' σ' ρ' τ' → Sta K (cLk c G a (.frz od (.dK (ks.zip vs)))) H' σ' ρ' ((v, d.frz) :: τ')) ∧
      ∀ H' σ' ρ' τ', Sta K (cLk c G a (.frz od (.dK (ks.zip vs)))) H' σ' ρ' τ' → H' a = some (.frz od (.dK (ks.zip vs))) ∧ Sta K c (upd H' a x) σ' ρ' τ' := by
  obtain ⟨G, f1, f2, S1⟩ := S
  have tmp := S1.tmp
  cases tmp with
  | @cons _ _ ff _ _ z t =>
    cases z with
    | ow z _ _ => exact nomatch z.1
    | @fz _ _ vs _ _ z l =>
      obtain ⟨_, hl, r⟩ := z
      have hx : ∃ x, G a = some x ∧ (x = .dK (ks.zip vs) ∨ ∃ od, x = .frz od (.dK (ks.zip vs))) := by
        rcases r with r | ⟨o, r⟩
        · exact ⟨_, r, .inl rfl⟩
        · exact ⟨_, r, .inr ⟨o, rfl⟩⟩
      obtain ⟨x, hG, hx⟩ := hx
      have hvl : vs.length = ds.length := by have := l.length; simpa using this
      have hff : ff = [] := by
        rw [← frzL_map] at l
        exact ownL_frz_nil ds l
      refine ⟨vs, x, G, hl, hvl, S1.sub a x hG, hx, fun od ho => ?_⟩
      have a1 : Alk x (.frz od (.dK (ks.zip vs))) := by
        rcases ho with rfl | rfl
        · refine ⟨fun w hw _ => ?_, fun vs e => nomatch e⟩
          rcases hw with e | ⟨o, e⟩
          · exact .inr ⟨od, by rw [← e]⟩
          · cases e
        · exact ⟨fun w hw _ => hw, fun vs e => nomatch e⟩
      have a2 : Alk (.frz od (.dK (ks.zip vs))) x := by
        rcases ho with rfl | rfl
        · refine ⟨fun w hw hk => ?_, fun vs e => nomatch e⟩
          rcases hw with e | ⟨o, e⟩
          · rcases hk with ⟨_, h⟩ | ⟨_, h⟩ | ⟨_, h⟩ <;> rw [h] at e <;> cases e
          · injection e with _ e; exact .inl e
        · exact ⟨fun w hw _ => hw, fun vs e => nomatch e⟩
      refine ⟨⟨_, _, _, S1.lk a1 hG⟩, fun i d hd => ?_, ?_⟩
      · subst hff
        obtain ⟨v, h1, h2⟩ := l.getF (i := i) (d := d.frz) (by rw [List.getElem?_map, hd]; rfl)
        refine ⟨v, h1, fun H' σ' ρ' τ' S2 => ?_⟩
        have h3 := h2.sw (y := .frz od (.dK (ks.zip vs))) a1 hG
        obtain ⟨G', g1, g2, S3⟩ := S2
        exact ⟨G', [] ++ g1, g2, S3.sub, .cons (h3.mono S3.g0 (fun a ha => nomatch ha) fun a ha => nomatch ha) S3.tmp, S3.own, S3.nd, S3.g0, S3.k0, S3.n0, S3.gn⟩
      rintro H' σ' ρ' τ' ⟨G', g1, g2, S2⟩
      have hC : ∀ o, c.H a = some o → a ∉ c.f → o = x := fun o e nb => by
        have h1 := S1.k0 a o e nb
        rw [S1.sub a x hG] at h1; exact (Option.some.inj h1).symm
      obtain ⟨q1, q2⟩ := S2.ulk a2 hG S1.g0 S1.gn hC
      exact ⟨q1, _, g1, g2, q2⟩
theorem cLk_at {H' : Hp} (S : Sta K (cLk c G a y) H' σ ρ τ) : H' a = some y := by
  obtain ⟨G1, f1, f2, S1⟩ := S
  exact S1.sub a y (S1.g0 a y (by show upd G a y a = _; rw [upd_same]))
end
/-! ### the lock of a family -/
section
variable {X : Cx}
theorem ps_lockF {st : Stmt} {t : Addr → HO → TS} (h : ∀ a y, PS X st (t a y)) : PS X st (fun D σ H => ∃ a u, H a = some u ∧ Mut (some u) ∧ ∀ od, t a (.frz od u) ⟨fun σ' H' => H' a = some (.frz od u) ∧ D.nx σ' (upd H' a u), fun v H' => H' a = some (.frz od u) ∧ D.rt v (upd H' a u), fun σ' H' => H' a = some (.frz od u) ∧ D.bk σ' (upd H' a u), fun σ' H' => H' a = some (.frz od u) ∧ D.ct σ' (upd H' a u)⟩ σ (upd H a (.frz od u))) := by
  refine ⟨fun pins s σ H D I hw => ?_⟩
  obtain ⟨d, u, hd, mu, hw⟩ := hw
  obtain ⟨od, I1⟩ := I.lock hd mu
  refine thn ((h d _).run pins s σ _ _ I1 (hw od)) fun f s1 q => ?_
  cases f with
  | next => obtain ⟨σ', H', I2, e, q⟩ := q; exact ⟨σ', _, I2.unlock e (I.nofrz hd mu), q⟩
  | brk => obtain ⟨σ', H', I2, e, q⟩ := q; exact ⟨σ', _, I2.unlock e (I.nofrz hd mu), q⟩
  | cont => obtain ⟨σ', H', I2, e, q⟩ := q; exact ⟨σ', _, I2.unlock e (I.nofrz hd mu), q⟩
  | ret v => obtain ⟨x, σ', H', I2, r, e, q⟩ := q; exact ⟨x, σ', _, I2.unlock e (I.nofrz hd mu), r, q⟩
theorem ps_or {st : Stmt} {t t' : TS} (h : PS X st t) (k : PS X st t') : PS X st (fun D σ H => t D σ H ∨ t' D σ H) := ⟨fun pins s σ H D I q => q.elim (h.run pins s σ H D I) (k.run pins s σ H D I)⟩
theorem ps_ex {ι : Type} {st : Stmt} {t : ι → TS} (h : ∀ i, PS X st (t i)) : PS X st (fun D σ H => ∃ i, t i D σ H) := ⟨fun pins s σ H D I ⟨i, q⟩ => (h i).run pins s σ H D I q⟩
theorem pe_lockF {e : Expr} {t : Addr → HO → TE} (h : ∀ a y, PE X e (t a y)) : PE X e (fun σ H Q => ∃ a u, H a = some u ∧ Mut (some u) ∧ ∀ od, t a (.frz od u) σ (upd H a (.frz od u)) fun v H' => H' a = some (.frz od u) ∧ Q v (upd H' a u)) := by
  refine ⟨fun pins s σ H Q I hw => ?_⟩
  obtain ⟨d, u, hd, mu, hw⟩ := hw
  obtain ⟨od, I1⟩ := I.lock hd mu
  refine thn ((h d _).run pins s σ _ _ I1 (hw od)) fun v s1 ⟨x, H1, I2, r, e2, q⟩ => ?_
  exact ⟨x, _, I2.unlock e2 (I.nofrz hd mu), r, q⟩
theorem pe_or {e : Expr} {t t' : TE} (h : PE X e t) (k : PE X e t') : PE X e (fun σ H Q => t σ H Q ∨ t' σ H Q) := ⟨fun pins s σ H Q I q => q.elim (h.run pins s σ H Q I) (k.run pins s σ H Q I)⟩
theorem pe_ex {ι : Type} {e : Expr} {t : ι → TE} (h : ∀ i, PE X e (t i)) : PE X e (fun σ H Q => ∃ i, t i σ H Q) := ⟨fun pins s σ H Q I ⟨i, q⟩ => (h i).run pins s σ H Q I q⟩
end
/-! ### walking -/
def keyD : Key → D
  | .inl i => .int i
  | .inr x => .str x
inductive Wk3 where
  | ks | vs | is
def dkItems : Wk3 → List Key → List D → List D
  | .ks, ks, _ => ks.map keyD
  | .vs, _, ds => ds.map D.frz
  | .is, ks, ds => (ks.zip ds).map fun p => .nd .tup [keyD p.1, p.2.frz]
def ItK : Wk3 → Addr → Obj → List (Key × V) → It
  | .ks => Itk
  | .vs => Itd
  | .is => Iti
def iD (κ : Wk3) (td : TE) : TI := fun σ H R => td σ H fun x H1 => ∃ d o kvs, x = .ref d ∧ H1 d = some (.frz o (.dK kvs)) ∧ R (ItK κ d o kvs) H1
section
variable {X : Cx} {c : C0} {W : WW} {P : List Nat} {pos : Pos}
theorem iD_keys {tg e : Expr} {td : TE} (he : PE X e td) (hm : ∀ σ H Q Q', (∀ v H, Q v H → Q' v H) → td σ H Q → td σ H Q') : PI X tg e (iD .ks td) := pi_mono (pi_keys he) fun σ H R h => hm _ _ _ _ (fun v H1 ⟨d, o, kvs, e, h1, h2⟩ => ⟨d, o, e, .inl ⟨kvs, h1, h2⟩⟩) h
theorem tVar_mono {i : Nat} : ∀ (σ : L2.St) (H : Hp) (Q Q' : VK), (∀ v H, Q v H → Q' v H) → tVar i σ H Q → tVar i σ H Q' := fun σ H Q Q' k ⟨v, h1, h2⟩ => ⟨v, h1, k _ _ h2⟩
theorem sta_key {K : PySem.W.Frag} {H : Hp} {σ : L2.St} {ρ : Env} {τ : List (V × D)} (S : Sta K c H σ ρ τ) (k : Key) : Sta K c H σ ρ ((kV k, keyD k) :: τ) := by
  cases k with
  | inl i => exact S.int i
  | inr x => exact S.str x
theorem jw_dk {K : PySem.W.Frag} (κ : Wk3) {G : Hp} {a : Addr} {od : Obj} {ks : List Key} {vs : List V} {ds : List D} (hl : ks.length = vs.length) (hvl : vs.length = ds.length)
    (hch : ∀ (i : Nat) (d : D), ds[i]? = some d → ∃ v, vs[i]? = some v ∧ ∀ H' σ' ρ' τ', Sta K (cLk c G a (.frz od (.dK (ks.zip vs)))) H' σ' ρ' τ' → Sta K (cLk c G a (.frz od (.dK (ks.zip vs)))) H' σ' ρ' ((v, d.frz) :: τ')) :
    JW K (cLk c G a (.frz od (.dK (ks.zip vs)))) (ItK κ a od (ks.zip vs)) [] (dkItems κ ks ds) := by
  intro H σ ρ τ S
  have S : Sta K (cLk c G a (.frz od (.dK (ks.zip vs)))) H σ ρ τ := S
  have hH := cLk_at S
  have hz : (ks.zip vs).length = ks.length := by rw [List.length_zip]; omega
  have hdl : (dkItems κ ks ds).length = ks.length := by
    cases κ with
    | ks => simp [dkItems]
    | vs => simp [dkItems]; omega
    | is => simp [dkItems]; omega
  have kv : ∀ (i : Nat) (k : Key) (v : V), (ks.zip vs)[i]? = some (k, v) → ks[i]? = some k ∧ vs[i]? = some v := fun i k v e => List.getElem?_zip_eq_some.mp e
  have dv : ∀ (i : Nat) (v : V), vs[i]? = some v → ∃ d, ds[i]? = some d := fun i v e => by
    have := (List.getElem?_eq_some_iff.mp e).1
    exact ⟨ds[i], by simp [show i < ds.length by omega]⟩
  cases κ with
  | ks =>
    refine ⟨fun i hi => ⟨hH, by rw [hz]; omega⟩, ⟨hH, by rw [hz, hdl]; exact Nat.le_refl _⟩, fun i x H' d ed y => ?_⟩
    obtain ⟨rfl, k, v, e1, rfl⟩ := y
    obtain ⟨e2, e3⟩ := kv i k v e1
    have : d = keyD k := by
      have ed : (ks.map keyD)[i]? = some d := ed
      rw [List.getElem?_map, e2] at ed
      exact (Option.some.inj ed).symm
    rw [this]
    exact sta_key S k
  | vs =>
    refine ⟨fun i hi => ⟨hH, by rw [hz]; omega⟩, ⟨hH, by rw [hz, hdl]; exact Nat.le_refl _⟩, fun i x H' d ed y => ?_⟩
    obtain ⟨rfl, k, e1⟩ := y
    obtain ⟨e2, e3⟩ := kv i k x e1
    obtain ⟨d0, e4⟩ := dv i x e3
    have : d = d0.frz := by
      have ed : (ds.map D.frz)[i]? = some d := ed
      rw [List.getElem?_map, e4] at ed
      exact (Option.some.inj ed).symm
    obtain ⟨v, e5, e6⟩ := hch i d0 e4
    rw [e3] at e5
    cases e5
    rw [this]
    exact e6 _ _ _ _ S
  | is =>
    refine ⟨fun i hi => ⟨hH, by rw [hz]; omega⟩, ⟨hH, by rw [hz, hdl]; exact Nat.le_refl _⟩, fun i x H' d ed y => ?_⟩
    obtain ⟨T, k, w, e1, rfl, hT, rfl⟩ := y
    obtain ⟨e2, e3⟩ := kv i k w e1
    obtain ⟨d0, e4⟩ := dv i w e3
    have : d = .nd .tup [keyD k, d0.frz] := by
      have ed : ((ks.zip ds).map fun p => D.nd .tup [keyD p.1, p.2.frz])[i]? = some d := ed
      rw [List.getElem?_map, show (ks.zip ds)[i]? = some (k, d0) from List.getElem?_zip_eq_some.mpr ⟨e2, e4⟩] at ed
      exact (Option.some.inj ed).symm
    obtain ⟨v, e5, e6⟩ := hch i d0 e4
    rw [e3] at e5
    cases e5
    rw [this]
    exact Sta.newT (vs := [kV k, w]) (ds := [keyD k, d0.frz]) rfl (sta_key (e6 _ _ _ _ S) k) hT
theorem for_go {K : PySem.W.Frag} {c : C0} {t : D → M Unit} {mb : M Fl} {Dn : Ends} {σ0 : L2.St} {H1 : Hp} {ρ1 : Env} {τ τ' : List (V × D)} {ds : List D} {J : It} (S1 : Sta K c H1 σ0 ρ1 (τ' ++ τ)) (jw : JW K c J τ' ds) (q0 : wS K c W P Dn σ0 τ (mLoop t mb ds ρ1)) :
    ∃ N : Nat → Nat → L2.St → Hp → Prop, (∃ m, N 0 m σ0 H1) ∧ ∀ i m σ H, N i m σ H →
      (J.stop i H ∧ Dn.nx σ H) ∨ (J.go i H ∧ ∃ N' : L2.St → Hp → Prop, (∀ σ' H', N' σ' H' → ∃ m', m' < m ∧ N (i + 1) m' σ' H') ∧ ∀ x H', J.yld i H x H' → rdG K c W P t x σ H' fun σ2 H2 => rdS K c W P mb { Dn with nx := N', ct := N', bk := Dn.nx } σ2 H2) := by
  refine ⟨fun i m σ H => m = ds.length - i ∧ i ≤ ds.length ∧ ∃ ρ, Sta K c H σ ρ (τ' ++ τ) ∧ wS K c W P Dn σ (τ' ++ τ) (mLoop t mb (ds.drop i) ρ), ⟨ds.length, by simp, Nat.zero_le _, ρ1, S1, by rw [List.drop_zero]; exact wS_more q0⟩, ?_⟩
  rintro i m σ H ⟨rfl, hi, ρ, S, q⟩
  obtain ⟨j1, j2, j3⟩ := jw H σ ρ τ S
  by_cases hlt : i < ds.length
  · right
    have ed : ds[i]? = some ds[i] := by simp [hlt]
    rw [List.drop_eq_getElem_cons hlt] at q
    refine ⟨j1 i hlt, fun σ' H' => ∃ ρ', Sta K c H' σ' ρ' (τ' ++ τ) ∧ wS K c W P Dn σ' (τ' ++ τ) (mLoop t mb (ds.drop (i + 1)) ρ'), fun σ' H' ⟨ρ', S', q'⟩ => ⟨ds.length - (i + 1), by omega, rfl, hlt, ρ', S', q'⟩, fun x H' y => ?_⟩
    have S2 := j3 i x H' _ ed y
    refine ⟨_, ρ, τ' ++ τ, S2, ?_⟩
    unfold mLoop at q
    split at q
    · rename_i a ρ2 e2
      rw [e2]
      refine fun σ2 H2 p2 S3 => ⟨ρ2, τ' ++ τ, S3, ?_⟩
      split at q
      · rename_i ρ3 e3
        rw [e3]
        exact fun σ3 H3 p3 S4 => ⟨ρ3, S4, wS_pin (p2.trans p3) q⟩
      · rename_i ρ3 e3
        rw [e3]
        exact fun σ3 H3 p3 S4 => ⟨ρ3, S4, wS_pin (p2.trans p3) q⟩
      · rename_i ρ3 e3
        rw [e3]
        exact fun σ3 H3 p3 S4 => q σ3 H3 (p2.trans p3) S4
      · rename_i r n1 n2 n3
        cases e3 : mb ρ2 with
        | ok f ρ3 =>
          rw [e3] at q
          cases f with
          | nx => exact (n1 ρ3 e3).elim
          | ct => exact (n2 ρ3 e3).elim
          | bk => exact (n3 ρ3 e3).elim
          | rt d => exact fun v σ3 H3 p3 S4 => q v σ3 H3 (p2.trans p3) S4
        | err x ρ3 => rw [e3] at q; exact fun σ3 H3 p3 S4 => q σ3 H3 (p2.trans p3) S4
        | stuck => rw [e3] at q; exact q
    · rename_i x ρ2 e2
      rw [e2]
      exact fun σ2 H2 p2 S3 => q σ2 H2 p2 S3
    · exact q.elim
  · left
    have e : i = ds.length := by omega
    subst e
    rw [List.drop_length] at q
    exact ⟨j2, q σ H (Pin.refl _ _) S⟩
/-- the slot's dict, frozen -/
def mDk {α : Type} (i : Nat) (k : List Key → List D → M α) : M α := fun ρ => match ρ[i]? with
  | some (some (.nd (.dic o ks) ds)) => k ks ds (ρ.set i (some (D.nd (.dic o ks) ds).frz))
  | _ => .stuck
def noErr {α : Type} (m : M α) : M α := fun ρ => match m ρ with
  | .err _ _ => .stuck
  | r => r
def mForK (κ : Wk3) (i : Nat) (tg : D → M Unit) (body : M Fl) : M Fl := mDk i fun ks ds => noErr (mLoop tg body (dkItems κ ks ds))
def mLcK (κ : Wk3) (i : Nat) (tg : D → M Unit) (tt : M Bool) (te : M D) (vs : List Nat) : M D := mDk i fun ks ds => mLc (pur (dkItems κ ks ds)) tg tt te vs
theorem sta_dk {K : PySem.W.Frag} {c : C0} {σ : L2.St} {H : Hp} {ρ : Env} {τ : List (V × D)} {i : Nat} {o : Bool} {ks : List Key} {ds : List D} (S : Sta K c H σ ρ τ) (e : ρ[i]? = some (some (.nd (.dic o ks) ds))) :
    ∃ a, σ[i]? = some (some (.ref a)) ∧ Sta K c H σ (ρ.set i none) ((.ref a, .nd (.dic false ks) (ds.map D.frz)) :: τ) := by
  obtain ⟨v, h1, S1⟩ := S.out e
  have S2 := S1.frz
  rw [frz_nd] at S2
  obtain ⟨b, vs, rfl, _⟩ := S2.items
  exact ⟨b, h1, S2⟩
theorem ss_forK {tg iter : Expr} {body : List Stmt} {κ : Wk3} {i : Nat} {t : D → M Unit} {mb : M Fl} (hp : PassesOwn (model X.prog X.w) X.A X.env X.xe) (hc : X.calm = true) (hi : PI X tg iter (iD κ (tVar i))) (hg : ∀ c, EG X c W P tg t) (hb : ∀ c, SL X c W P body mb)
    (hs : ∀ x, foldedSetIterable iter X.env x = pure x := by intro _; rfl) : SS X c W P (.For tg iter body [] pos) (mForK κ i t mb) :=
  ps_mono (ps_or (ps_ex fun q : Hp × Addr × HO => ps_for hp hc hi (hg (cLk c q.1 q.2.1 q.2.2)) (hb (cLk c q.1 q.2.1 q.2.2)) hs) (ps_ex fun G : Hp => ps_lockF fun a y => ps_for hp hc hi (hg (cLk c G a y)) (hb (cLk c G a y)) hs)) fun Dn σ0 H0 ⟨ρ0, τ, S0, q0⟩ => by
  unfold mForK mDk at q0
  split at q0
  · rename_i o ks ds ei
    dsimp only at q0
    obtain ⟨a, hσ, S1⟩ := sta_dk S0 ei
    obtain ⟨vs, x, G, hl, hvl, hx, hxx, key⟩ := S1.lock
    have hi2 : (ρ0.set i none)[i]? = some none := by simp [(List.getElem?_eq_some_iff.mp ei).1]
    have ee : (ρ0.set i none).set i (some (.nd (.dic false ks) (ds.map D.frz))) = ρ0.set i (some (D.nd (.dic o ks) ds).frz) := by rw [List.set_set, frz_nd]; rfl
    have go : ∀ (od : Obj) (Dn' : Ends), (x = .dK (ks.zip vs) ∨ x = .frz od (.dK (ks.zip vs))) →
        (∀ σ' H', H' a = some (.frz od (.dK (ks.zip vs))) → Dn.nx σ' (upd H' a x) → Dn'.nx σ' H') → (∀ v H', H' a = some (.frz od (.dK (ks.zip vs))) → Dn.rt v (upd H' a x) → Dn'.rt v H') →
        (∀ σ' H', H' a = some (.frz od (.dK (ks.zip vs))) → Dn.bk σ' (upd H' a x) → Dn'.bk σ' H') → (∀ σ' H', H' a = some (.frz od (.dK (ks.zip vs))) → Dn.ct σ' (upd H' a x) → Dn'.ct σ' H') →
        tFor (iD κ (tVar i)) (rdG X.K (cLk c G a (.frz od (.dK (ks.zip vs)))) W P t) (rdS X.K (cLk c G a (.frz od (.dK (ks.zip vs)))) W P mb) Dn' σ0 (upd H0 a (.frz od (.dK (ks.zip vs)))) := by
      intro od Dn' ho k1 k2 k3 k4
      obtain ⟨S2, hch, back⟩ := key od ho
      have S3 := S2.back hi2 hσ
      rw [ee] at S3
      refine ⟨.ref a, hσ, a, od, ks.zip vs, rfl, upd_same, ?_⟩
      refine for_go (τ := τ) (τ' := []) S3 (jw_dk κ hl hvl hch) ?_
      unfold noErr at q0
      cases er : mLoop t mb (dkItems κ ks ds) (ρ0.set i (some (D.nd (.dic o ks) ds).frz)) with
      | ok f ρ' =>
        rw [er] at q0
        cases f with
        | nx => exact fun σ' H' pin S' => k1 _ _ (back _ _ _ _ S').1 (q0 _ _ pin (back _ _ _ _ S').2)
        | rt d => exact fun v σ' H' pin S' => k2 _ _ (back _ _ _ _ S').1 (q0 _ _ _ pin (back _ _ _ _ S').2)
        | bk => exact fun σ' H' pin S' => k3 _ _ (back _ _ _ _ S').1 (q0 _ _ pin (back _ _ _ _ S').2)
        | ct => exact fun σ' H' pin S' => k4 _ _ (back _ _ _ _ S').1 (q0 _ _ pin (back _ _ _ _ S').2)
      | err e ρ' => rw [er] at q0; exact q0.elim
      | stuck => rw [er] at q0; exact q0.elim
    rcases hxx with rfl | ⟨od, rfl⟩
    · exact .inr ⟨G, a, .dK (ks.zip vs), hx, trivial, fun od => go od _ (.inl rfl) (fun _ _ h1 h2 => ⟨h1, h2⟩) (fun _ _ h1 h2 => ⟨h1, h2⟩) (fun _ _ h1 h2 => ⟨h1, h2⟩) fun _ _ h1 h2 => ⟨h1, h2⟩⟩
    · have hs : ∀ H' : Hp, H' a = some (.frz od (.dK (ks.zip vs))) → upd H' a (.frz od (.dK (ks.zip vs))) = H' := fun H' h => by
        funext b
        by_cases hb : b = a
        · rw [hb, upd_same, h]
        · rw [upd_ne hb]
      have := go od Dn (.inr rfl) (fun _ _ h1 h2 => by rw [hs _ h1] at h2; exact h2) (fun _ _ h1 h2 => by rw [hs _ h1] at h2; exact h2) (fun _ _ h1 h2 => by rw [hs _ h1] at h2; exact h2) (fun _ _ h1 h2 => by rw [hs _ h1] at h2; exact h2)
      rw [hs H0 hx] at this
      exact .inl ⟨(G, a, .frz od (.dK (ks.zip vs))), this⟩
  · exact q0.elim
theorem ee_lcK {elt tg iter : Expr} {ifs : List Expr} {scope : Scope} {own : List (Str × Nat)} {κ : Wk3} {i : Nat} {t : D → M Unit} {mt : M Bool} {me : M D} (n : Nat) (hn : X.N.length = n) (nd : (own.map (·.2)).Nodup) (hc : X.calm = true) (hN : X.N.Nodup) (hi : PI X tg iter (iD κ (tVar i))) (ok : BlkOk X.N X.env.scope scope own)
    (hg : ∀ (c : C0) (s : Shared) (H : Hp) (C : Addr) (cl : List (Str × Addr)) (fp : List Addr), EG (X.blk s H scope (compEnvC scope cl C X.env) fp) c W0 (cpl n (own.map (·.2))) tg t) (ht : ∀ (c : C0) (s : Shared) (H : Hp) (C : Addr) (cl : List (Str × Addr)) (fp : List Addr), EPs (X.blk s H scope (compEnvC scope cl C X.env) fp) c W0 ifs mt)
    (he : ∀ (c : C0) (s : Shared) (H : Hp) (C : Addr) (cl : List (Str × Addr)) (fp : List Addr), EE (X.blk s H scope (compEnvC scope cl C X.env) fp) c W0 false elt me) (hs : ∀ x, foldedSetIterable iter X.env x = pure x := by intro _; rfl) :
    EE X c W false (.ListComp elt [⟨tg, iter, ifs, 0⟩] scope pos) (mLcK κ i t mt me (own.map (·.2))) := by
  have base : ∀ c', PE X (.ListComp elt [⟨tg, iter, ifs, 0⟩] scope pos) (tLc (iD κ (tVar i)) (rdG X.K c' W0 (cpl n (own.map fun (q : Str × Nat) => q.2)) t) (rdT X.K c' W0 false mt) (rdE X.K c' W0 false me) (own.map fun (q : Str × Nat) => q.2)) := fun c' =>
    pe_lc (wi := iD κ (tVar i)) (g := rdG X.K c' W0 (cpl n (own.map fun (q : Str × Nat) => q.2)) t) (tt := rdT X.K c' W0 false mt) (te := rdE X.K c' W0 false me) hc hN hi ok (hg c') (ht c') (he c') hs
  refine ⟨fun pins s σ0 H0 Q I h => (pe_or (pe_ex fun q : Hp × Addr × HO => base (cLk c q.1 q.2.1 q.2.2)) (pe_ex fun G : Hp => pe_lockF fun a y => base (cLk c G a y))).run pins s σ0 H0 Q I ?_⟩
  obtain ⟨ρ0, τ, S0, q0⟩ := h
  unfold mLcK mDk at q0
  split at q0
  · rename_i o ks ds ei
    dsimp only at q0
    obtain ⟨a, hσ, S1⟩ := sta_dk S0 ei
    obtain ⟨vs, x, G, hl, hvl, hx, hxx, key⟩ := S1.lock
    have hi2 : (ρ0.set i none)[i]? = some none := by simp [(List.getElem?_eq_some_iff.mp ei).1]
    have ee : (ρ0.set i none).set i (some (.nd (.dic false ks) (ds.map D.frz))) = ρ0.set i (some (D.nd (.dic o ks) ds).frz) := by rw [List.set_set, frz_nd]; rfl
    have go : ∀ (od : Obj) (Q' : VK), (x = .dK (ks.zip vs) ∨ x = .frz od (.dK (ks.zip vs))) → (∀ v H', H' a = some (.frz od (.dK (ks.zip vs))) → Q v (upd H' a x) → Q' v H') →
        tLc (iD κ (tVar i)) (rdG X.K (cLk c G a (.frz od (.dK (ks.zip vs)))) W0 (cpl n (own.map fun (q : Str × Nat) => q.2)) t) (rdT X.K (cLk c G a (.frz od (.dK (ks.zip vs)))) W0 false mt) (rdE X.K (cLk c G a (.frz od (.dK (ks.zip vs)))) W0 false me) (own.map fun (q : Str × Nat) => q.2) σ0 (upd H0 a (.frz od (.dK (ks.zip vs)))) Q' := by
      intro od Q' ho k1
      obtain ⟨S2, hch, back⟩ := key od ho
      have S3 := S2.back hi2 hσ
      rw [ee] at S3
      have h2 := rd_lc (W := W) (Q := Q') nd (I.len.trans hn) (show rdE X.K (cLk c G a (.frz od (.dK (ks.zip vs)))) W false (mLc (pur (dkItems κ ks ds)) t mt me (own.map fun (q : Str × Nat) => q.2)) σ0 (upd H0 a (.frz od (.dK (ks.zip vs)))) Q' from ⟨_, τ, S3, by
        cases er : mLc (pur (dkItems κ ks ds)) t mt me (own.map fun (q : Str × Nat) => q.2) (ρ0.set i (some (D.nd (.dic o ks) ds).frz)) with
        | ok d ρ' =>
          rw [er] at q0
          exact fun v H' _ S' => k1 _ _ (back _ _ _ _ S').1 (q0 v _ (fun h => nomatch h) (back _ _ _ _ S').2)
        | err e ρ' =>
          exfalso
          unfold mLc bnd pur at er
          dsimp only at er
          split at er
          · split at er
            · cases er
            · cases er
          · cases er
        | stuck => rw [er] at q0; exact q0.elim⟩)
      obtain ⟨ρ', τ', S4, w⟩ := h2
      exact ⟨.ref a, hσ, a, od, ks.zip vs, rfl, upd_same, w (ItK κ a od (ks.zip vs)) [] _ S4 (jw_dk κ hl hvl hch)⟩
    rcases hxx with rfl | ⟨od, rfl⟩
    · exact .inr ⟨G, a, .dK (ks.zip vs), hx, trivial, fun od => go od _ (.inl rfl) (fun _ _ h1 h2 => ⟨h1, h2⟩)⟩
    · have hs : ∀ H' : Hp, H' a = some (.frz od (.dK (ks.zip vs))) → upd H' a (.frz od (.dK (ks.zip vs))) = H' := fun H' h => by
        funext b
        by_cases hb : b = a
        · rw [hb, upd_same, h]
        · rw [upd_ne hb]
      have := go od Q (.inr rfl) (fun _ _ h1 h2 => by rw [hs _ h1] at h2; exact h2)
      rw [hs H0 hx] at this
      exact .inl ⟨(G, a, .frz od (.dK (ks.zip vs))), this⟩
  · exact q0.elim
theorem iD_items {elts : List Expr} {kk : Nat} {tpos apos cpos : Pos} {e : Expr} {td : TE} (he : PE X e td) (hbase : attributeBase e "items" X.env (eval e X.env) = eval e X.env := by rfl) (hline : (apos.endLine == cpos.line) = true := by rfl) :
    PI X (.Tuple elts kk tpos) (.Call (.Attribute e "items" apos) [] [] cpos) (iD .is td) := pi_items he hbase hline
theorem iD_vals {tg : Expr} {apos cpos : Pos} {e : Expr} {td : TE} (he : PE X e td) (hbase : attributeBase e "values" X.env (eval e X.env) = eval e X.env := by rfl) (hline : (apos.endLine == cpos.line) = true := by rfl) :
    PI X tg (.Call (.Attribute e "values" apos) [] [] cpos) (iD .vs td) := pi_values he hbase hline
end
end DL
/-! DLw: what a mirror does, by its weakest precondition. -/
namespace DL
open PySem PySem.Spec L2

abbrev XE := Exc → Env → Prop
def Wp {α : Type} (m : M α) (ρ : Env) (P : α → Env → Prop) (E : XE) : Prop := match m ρ with
  | .ok a ρ' => P a ρ'
  | .err e ρ' => E e ρ'
  | .stuck => False
def NoE : XE := fun _ _ => False
def FOk (F : List D → R (List D) D) (ds : List D) (P : D → List D → Prop) (E : Exc → List D → Prop) : Prop := match F ds with
  | .ok d ds' => P d ds'
  | .err e ds' => E e ds'
  | .stuck => False
def NoF : Exc → List D → Prop := fun _ _ => False
section
variable {α β : Type} {ρ ρ1 : Env} {E : XE}
theorem Wp.imp {m : M α} {P P' : α → Env → Prop} {E' : XE} (h : Wp m ρ P E) (k : ∀ a ρ, P a ρ → P' a ρ) (ke : ∀ e ρ, E e ρ → E' e ρ) : Wp m ρ P' E' := by
  unfold Wp at *
  split at h
  · exact k _ _ h
  · exact ke _ _ h
  · exact h
theorem Wp.mono {m : M α} {P P' : α → Env → Prop} (h : Wp m ρ P E) (k : ∀ a ρ, P a ρ → P' a ρ) : Wp m ρ P' E := h.imp k fun _ _ h => h
theorem Wp.ok {m : M α} {P : α → Env → Prop} (h : Wp m ρ P NoE) : ∃ a ρ', m ρ = .ok a ρ' ∧ P a ρ' := by
  unfold Wp at h
  split at h
  · exact ⟨_, _, ‹_›, h⟩
  · exact h.elim
  · exact h.elim
theorem FOk.imp {F : List D → R (List D) D} {ds : List D} {P P' : D → List D → Prop} {E E' : Exc → List D → Prop} (h : FOk F ds P E) (k : ∀ d ds', P d ds' → P' d ds') (ke : ∀ e ds', E e ds' → E' e ds') : FOk F ds P' E' := by
  unfold FOk at *
  split at h
  · exact k _ _ h
  · exact ke _ _ h
  · exact h
theorem FOk.ok {F : List D → R (List D) D} {ds : List D} {P : D → List D → Prop} (h : FOk F ds P NoF) : ∃ d ds', F ds = .ok d ds' ∧ P d ds' := by
  unfold FOk at h
  split at h
  · exact ⟨_, _, ‹_›, h⟩
  · exact h.elim
  · exact h.elim
theorem fok_of {F : List D → R (List D) D} {ds ds' : List D} {d : D} {P : D → List D → Prop} {E : Exc → List D → Prop} (e : F ds = .ok d ds') (h : P d ds') : FOk F ds P E := by
  unfold FOk; rw [e]; exact h

/-! ### rules -/
theorem w_pur {a : α} {P : α → Env → Prop} (h : P a ρ) : Wp (pur a) ρ P E := h
theorem w_bnd {m : M α} {k : α → M β} {P : β → Env → Prop} (h : Wp m ρ (fun a ρ1 => Wp (k a) ρ1 P E) E) : Wp (bnd m k) ρ P E := by
  unfold Wp bnd at *
  cases e : m ρ with
  | ok a ρ1 => rw [e] at h; exact h
  | err x ρ1 => rw [e] at h; exact h
  | stuck => rw [e] at h; exact h
theorem w_lft {o : Option α} {a : α} {P : α → Env → Prop} (e : o = some a) (h : P a ρ) : Wp (lft o) ρ P E := by subst e; exact h
theorem w_var {i : Nat} {d : D} {P : D → Env → Prop} (e : ρ[i]? = some (some d)) (hf : d.frz = d) (h : P d ρ) : Wp (mVar i) ρ P E := by
  unfold Wp mVar
  rw [e]
  dsimp only
  rw [hf]
  have : ρ.set i (some d) = ρ := by
    obtain ⟨hi, hd⟩ := List.getElem?_eq_some_iff.mp e
    rw [← hd]
    exact List.set_getElem_self hi
  rw [this]; exact h
theorem w_varF {i : Nat} {d : D} {P : D → Env → Prop} (e : ρ[i]? = some (some d)) (h : P d.frz (ρ.set i (some d.frz))) : Wp (mVar i) ρ P E := by
  unfold Wp mVar
  rw [e]; exact h
theorem w_mov {i : Nat} {d : D} {P : D → Env → Prop} (e : ρ[i]? = some (some d)) (h : P d (ρ.set i none)) : Wp (mMov i) ρ P E := by
  unfold Wp mMov
  rw [e]; exact h
theorem w_lk {i : Nat} {d : D} {P : D → Env → Prop} (e : ρ[i]? = some (some d)) (h : P d ρ) : Wp (mLk i) ρ P E := by
  unfold Wp mLk
  rw [e]; exact h
theorem w_pv {i : Nat} {d : D} {P : Pl → Env → Prop} (e : ρ[i]? = some (some d)) (h : P (.at i []) ρ) : Wp (mPv i) ρ P E := by
  unfold Wp mPv
  rw [e]; exact h
theorem w_vl {m : M D} {P : Pl → Env → Prop} (h : Wp m ρ (fun d ρ1 => P (.vl d) ρ1) E) : Wp (mVl m) ρ P E := w_bnd h
theorem w_m2 {fo : D → D → Option D} {ma mb : M D} {P : D → Env → Prop} (h : Wp ma ρ (fun x ρ1 => Wp mb ρ1 (fun y ρ2 => Wp (lft (fo x y)) ρ2 P E) E) E) : Wp (m2 fo ma mb) ρ P E :=
  w_bnd (h.mono fun _ _ h => w_bnd h)
theorem w_un {fo : D → Option D} {ma : M D} {P : D → Env → Prop} (h : Wp ma ρ (fun x ρ1 => Wp (lft (fo x)) ρ1 P E) E) : Wp (mUn fo ma) ρ P E := w_bnd h
theorem w_v1 {fo : D → Option D} {ma : M D} {P : D → Env → Prop} (h : Wp ma ρ (fun x ρ1 => Wp (lft (fo x)) ρ1 P E) E) : Wp (mV1 fo ma) ρ P E := w_bnd h
theorem atP_nil {i : Nat} {d : D} (e : ρ[i]? = some (some d)) : atP ρ i [] = some d := by
  unfold atP; rw [e]; exact at_nil d
theorem w_plv {d : D} {P : D → Env → Prop} (h : P d ρ) : Wp (plD (.vl d)) ρ P E := h
theorem w_pl0 {i : Nat} {d : D} {P : D → Env → Prop} (e : ρ[i]? = some (some d)) (h : P d ρ) : Wp (plD (.at i [])) ρ P E := by
  unfold Wp plD
  dsimp only
  rw [atP_nil e]; exact h
theorem w_pla {i : Nat} {π : List Nat} {d : D} {P : D → Env → Prop} (e : atP ρ i π = some d) (h : P d ρ) : Wp (plD (.at i π)) ρ P E := by
  unfold Wp plD
  dsimp only
  rw [e]; exact h
theorem w_P2 {fo : D → D → Option D} {ma mb : M Pl} {P : D → Env → Prop} (h : Wp ma ρ (fun a ρ1 => Wp mb ρ1 (fun b ρ2 => Wp (plD a) ρ2 (fun x ρ3 => Wp (plD b) ρ3 (fun y ρ4 => Wp (lft (fo x y)) ρ4 P E) E) E) E) E) : Wp (mP2 fo ma mb) ρ P E :=
  w_bnd (h.mono fun _ _ h => w_bnd (h.mono fun _ _ h => w_bnd (h.mono fun _ _ h => w_bnd h)))
theorem w_B {m : M D} {P : Bool → Env → Prop} (h : Wp m ρ (fun d ρ1 => Wp (toB d) ρ1 P E) E) : Wp (mB m) ρ P E := w_bnd h
theorem w_toB {b : Bool} {P : Bool → Env → Prop} (h : P b ρ) : Wp (toB (.bl b)) ρ P E := h
theorem w_not {m : M Bool} {P : Bool → Env → Prop} (h : Wp m ρ (fun b ρ1 => P (!b) ρ1) E) : Wp (mNot m) ρ P E := w_bnd h
theorem w_andT {a b : M Bool} {P : Bool → Env → Prop} (h : Wp a ρ (fun x ρ1 => (x = true → Wp b ρ1 P E) ∧ (x = false → P false ρ1)) E) : Wp (mAndT a b) ρ P E :=
  w_bnd (h.mono fun x ρ1 h => match x, h with
    | false, h => h.2 rfl
    | true, h => h.1 rfl)
theorem w_orT {a b : M Bool} {P : Bool → Env → Prop} (h : Wp a ρ (fun x ρ1 => (x = true → P true ρ1) ∧ (x = false → Wp b ρ1 P E)) E) : Wp (mOrT a b) ρ P E :=
  w_bnd (h.mono fun x ρ1 h => match x, h with
    | false, h => h.2 rfl
    | true, h => h.1 rfl)
theorem w_andV {a b : M D} {P : D → Env → Prop} (h : Wp a ρ (fun d ρ1 => Wp (toB d) ρ1 (fun x ρ1 => (x = true → Wp b ρ1 P E) ∧ (x = false → P (.bl false) ρ1)) E) E) : Wp (mAndV a b) ρ P E :=
  w_bnd (h.mono fun d ρ1 h => w_bnd (h.mono fun x ρ1 h => match x, h with
    | false, h => h.2 rfl
    | true, h => h.1 rfl))
theorem w_orV {a b : M D} {P : D → Env → Prop} (h : Wp a ρ (fun d ρ1 => Wp (toB d) ρ1 (fun x ρ1 => (x = true → P (.bl true) ρ1) ∧ (x = false → Wp b ρ1 P E)) E) E) : Wp (mOrV a b) ρ P E :=
  w_bnd (h.mono fun d ρ1 h => w_bnd (h.mono fun x ρ1 h => match x, h with
    | false, h => h.2 rfl
    | true, h => h.1 rfl))
theorem w_notV {a : M D} {P : D → Env → Prop} (h : Wp a ρ (fun d ρ1 => Wp (toB d) ρ1 (fun x ρ1 => P (.bl (!x)) ρ1) E) E) : Wp (mNotV a) ρ P E :=
  w_bnd (h.mono fun d ρ1 h => w_bnd h)
theorem w_chain {fo fo' : D → D → Option D} {ma mb mc : M D} {P : D → Env → Prop} (h : Wp ma ρ (fun x ρ1 => Wp mb ρ1 (fun y ρ2 => Wp (lft (fo x y.frz)) ρ2 (fun z ρ3 => Wp (toB z) ρ3 (fun k ρ3 => (k = true → Wp mc ρ3 (fun w ρ4 => Wp (lft (fo' y.frz w)) ρ4 P E) E) ∧ (k = false → P (.bl false) ρ3)) E) E) E) E) : Wp (mChain fo fo' ma mb mc) ρ P E :=
  w_bnd (h.mono fun _ _ h => w_bnd (h.mono fun _ _ h => w_bnd (h.mono fun _ _ h => w_bnd (h.mono fun k _ h => match k, h with
    | false, h => h.2 rfl
    | true, h => w_bnd (h.1 rfl)))))
theorem w_ifE {t : M Bool} {a b : M D} {P : D → Env → Prop} (h : Wp t ρ (fun x ρ1 => (x = true → Wp a ρ1 P E) ∧ (x = false → Wp b ρ1 P E)) E) : Wp (mIfE t a b) ρ P E :=
  w_bnd (h.mono fun x ρ1 h => match x, h with
    | false, h => h.2 rfl
    | true, h => h.1 rfl)
theorem w_isi {T : String} {m : M D} {P : D → Env → Prop} (h : Wp m ρ (fun d ρ1 => Wp (lft ((tyN d).bind fun n => (kitB n T).map .bl)) ρ1 P E) E) : Wp (mIsi T m) ρ P E := w_bnd h
theorem w_isi2 {T U : String} {m : M D} {P : D → Env → Prop} (h : Wp m ρ (fun d ρ1 => Wp (lft ((tyN d).bind fun n => (kitAnyB n [T, U]).map .bl)) ρ1 P E) E) : Wp (mIsi2 T U m) ρ P E := w_bnd h
theorem w_C {m : M D} {r : M (List D)} {P : List D → Env → Prop} (h : Wp m ρ (fun d ρ1 => Wp r ρ1 (fun ds ρ2 => P (d :: ds) ρ2) E) E) : Wp (mC m r) ρ P E := w_bnd (h.mono fun _ _ h => w_bnd h)
theorem w_lst {ma : M (List D)} {P : D → Env → Prop} (h : Wp ma ρ (fun ds ρ1 => ds.length ≤ sizeLine ∧ P (.nd (.lst true) ds) ρ1) E) : Wp (mLst ma) ρ P E := w_bnd (h.mono fun ds ρ1 h => by rw [if_pos h.1]; exact h.2)
theorem w_tup {ma : M (List D)} {P : D → Env → Prop} (h : Wp ma ρ (fun ds ρ1 => ds.length ≤ sizeLine ∧ P (.nd .tup ds) ρ1) E) : Wp (mTup ma) ρ P E := w_bnd (h.mono fun ds ρ1 h => by rw [if_pos h.1]; exact h.2)
theorem w_dic {m : M (List Key × List D)} {P : D → Env → Prop} (h : Wp m ρ (fun r ρ1 => (r.1.Nodup ∧ r.1.length ≤ 15) ∧ P (.nd (.dic true r.1) r.2) ρ1) E) : Wp (mDic m) ρ P E := w_bnd (h.mono fun ds ρ1 h => by rw [if_pos h.1]; exact h.2)
theorem w_pr {mk mv : M D} {mr : M (List Key × List D)} {P : List Key × List D → Env → Prop} (h : Wp mk ρ (fun k ρ1 => Wp (toK k) ρ1 (fun k ρ1 => Wp mv ρ1 (fun v ρ2 => Wp mr ρ2 (fun r ρ3 => P (k :: r.1, v :: r.2) ρ3) E) E) E) E) : Wp (mPr mk mv mr) ρ P E :=
  w_bnd (h.mono fun _ _ h => w_bnd (h.mono fun _ _ h => w_bnd (h.mono fun _ _ h => w_bnd h)))
theorem w_toK {d : D} {k : Key} {P : Key → Env → Prop} (e : keyOf d = some k) (h : P k ρ) : Wp (toK d) ρ P E := by
  unfold Wp toK
  rw [e]; exact h
theorem w_CB {fo : List D → Option D} {ma : M (List D)} {P : D → Env → Prop} (h : Wp ma ρ (fun ds ρ1 => Wp (lft (fo ds)) ρ1 P E) E) : Wp (mCB fo ma) ρ P E := w_bnd h
theorem w_part {m : M D} {P : Option Int → Env → Prop} (h : Wp m ρ (fun d ρ1 => ∃ i, d = .int i ∧ P (some i) ρ1) E) : Wp (mPart m) ρ P E := w_bnd (h.mono fun d ρ1 ⟨i, e, h⟩ => by subst e; exact h)
theorem w_slice {m : M D} {l h' : M (Option Int)} {P : D → Env → Prop} (h : Wp m ρ (fun d ρ1 => Wp l ρ1 (fun a ρ2 => Wp h' ρ2 (fun b ρ3 => Wp (lft (fSl d a b)) ρ3 P E) E) E) E) : Wp (mSlice m l h') ρ P E :=
  w_bnd (h.mono fun _ _ h => w_bnd (h.mono fun _ _ h => w_bnd h))
/-! statements -/
def Kq (b : M Fl) (P : Fl → Env → Prop) (E : XE) : Fl → Env → Prop := fun f ρ1 => match f with
  | .nx => Wp b ρ1 P E
  | f => P f ρ1
theorem w_seq {a b : M Fl} {P : Fl → Env → Prop} (h : Wp a ρ (Kq b P E) E) : Wp (mSeq a b) ρ P E := by
  unfold Wp mSeq at *
  cases e : a ρ with
  | ok f ρ1 =>
    rw [e] at h
    cases f with
    | nx => exact h
    | rt d => exact h
    | bk => exact h
    | ct => exact h
  | err x ρ1 => rw [e] at h; exact h
  | stuck => rw [e] at h; exact h
theorem w_exp {m : M D} {P : Fl → Env → Prop} (h : Wp m ρ (fun _ ρ1 => P .nx ρ1) E) : Wp (mExp m) ρ P E := w_bnd h
theorem w_ret {m : M D} {P : Fl → Env → Prop} (h : Wp m ρ (fun d ρ1 => P (.rt d) ρ1) E) : Wp (mRet m) ρ P E := w_bnd h
theorem w_if {t : M Bool} {a b : M Fl} {P : Fl → Env → Prop} (h : Wp t ρ (fun x ρ1 => (x = true → Wp a ρ1 P E) ∧ (x = false → Wp b ρ1 P E)) E) : Wp (mIf t a b) ρ P E :=
  w_bnd (h.mono fun x ρ1 h => match x, h with
    | false, h => h.2 rfl
    | true, h => h.1 rfl)
theorem w_asg {tg : D → M Unit} {m : M D} {P : Fl → Env → Prop} (h : Wp m ρ (fun d ρ1 => Wp (tg d) ρ1 (fun _ ρ2 => P .nx ρ2) E) E) : Wp (mAsg tg m) ρ P E := w_bnd (h.mono fun _ _ h => w_bnd h)
theorem w_tgN {i : Nat} {d : D} {P : Unit → Env → Prop} (hi : i < ρ.length) (h : P () (ρ.set i (some d))) : Wp (tgN i d) ρ P E := by
  unfold Wp tgN
  rw [if_pos hi]; exact h
theorem w_tgs0 {P : Unit → Env → Prop} (h : P () ρ) : Wp (tgs0 []) ρ P E := h
theorem w_tgsC {t : D → M Unit} {u : List D → M Unit} {d : D} {r : List D} {P : Unit → Env → Prop} (h : Wp (t d) ρ (fun _ ρ1 => Wp (u r) ρ1 P E) E) : Wp (tgsC t u (d :: r)) ρ P E := w_bnd h
theorem w_tgT {n : Nat} {t : List D → M Unit} {ds : List D} {P : Unit → Env → Prop} (hl : ds.length = n) (h : Wp (t (ds.map D.frz)) ρ P E) : Wp (tgT n t (.nd .tup ds)) ρ P E := by
  unfold Wp tgT
  dsimp only
  rw [if_pos hl]; exact h
/-! loops -/
def Lq (I : Env → Prop) (P : Fl → Env → Prop) : Fl → Env → Prop := fun f ρ => match f with
  | .nx => I ρ
  | .ct => I ρ
  | .bk => P .nx ρ
  | .rt d => P (.rt d) ρ
theorem w_loop {tg : D → M Unit} {body : M Fl} {ds : List D} {P : Fl → Env → Prop} (I : Nat → Env → Prop) (h0 : I 0 ρ)
    (hs : ∀ k d, ds[k]? = some d → ∀ ρ, I k ρ → Wp (tg d) ρ (fun _ ρ1 => Wp body ρ1 (Lq (I (k + 1)) P) E) E) (he : ∀ ρ, I ds.length ρ → P .nx ρ) : Wp (mLoop tg body ds) ρ P E := by
  have main : ∀ (l : List D) (k : Nat) (ρ : Env), k ≤ ds.length → ds.drop k = l → I k ρ → Wp (mLoop tg body l) ρ P E := by
    intro l
    induction l with
    | nil =>
      intro k ρ hk e h
      have hk2 : k = ds.length := by
        have := congrArg List.length e
        simp at this; omega
      subst hk2
      exact he ρ h
    | cons d l ih =>
      intro k ρ hk e h
      have hlt : k < ds.length := by
        have := congrArg List.length e
        simp at this; omega
      have ed : ds[k]? = some d := by
        have : (ds.drop k)[0]? = some d := by rw [e]; rfl
        rw [List.getElem?_drop] at this
        simpa using this
      have el : ds.drop (k + 1) = l := by
        rw [← List.drop_drop, e]; rfl
      have h1 := hs k d ed ρ h
      unfold Wp mLoop
      unfold Wp at h1
      split at h1
      · rename_i u ρ1 e1
        rw [e1]
        dsimp only
        split at h1
        · rename_i f ρ2 e2
          rw [e2]
          cases f with
          | nx => exact ih (k + 1) ρ2 hlt el h1
          | ct => exact ih (k + 1) ρ2 hlt el h1
          | bk => exact h1
          | rt d => exact h1
        · rename_i x ρ2 e2
          rw [e2]; exact h1
        · exact h1.elim
      · rename_i x ρ1 e1
        rw [e1]; exact h1
      · exact h1.elim
  exact main ds 0 ρ (Nat.zero_le _) rfl h0
theorem w_for {mi : M (List D)} {tg : D → M Unit} {body : M Fl} {P : Fl → Env → Prop} (h : Wp mi ρ (fun ds ρ1 => Wp (mLoop tg body ds) ρ1 P E) E) : Wp (mFor mi tg body) ρ P E := w_bnd h
theorem w_range1 {m : M D} {P : List D → Env → Prop} (h : Wp m ρ (fun d ρ1 => ∃ j, d = .int j ∧ smallI j = true ∧ P (rangeD 0 j) ρ1) E) : Wp (mRange1 m) ρ P E := w_bnd (h.mono fun d ρ1 ⟨j, e, hj, h⟩ => by
  subst e
  dsimp only
  rw [if_pos hj]; exact h)
theorem w_range2 {m n : M D} {P : List D → Env → Prop} (h : Wp m ρ (fun d ρ1 => Wp n ρ1 (fun e ρ2 => ∃ i j, d = .int i ∧ e = .int j ∧ smallI i = true ∧ smallI j = true ∧ P (rangeD i j) ρ2) E) E) : Wp (mRange2 m n) ρ P E := w_bnd (h.mono fun d ρ1 h => w_bnd (h.mono fun e ρ2 ⟨i, j, e1, e2, hi, hj, h2⟩ => by
  subst e1 e2
  dsimp only
  rw [if_pos (by rw [hi, hj]; rfl)]; exact h2))
theorem range_get {i j : Int} {k : Nat} {d : D} (h : (rangeD i j)[k]? = some d) : d = .int (i + k) ∧ i + (k : Int) < j := by
  unfold rangeD at h
  rw [List.getElem?_map] at h
  cases q : (List.range (j - i).toNat)[k]? with
  | none => rw [q] at h; cases h
  | some n =>
    rw [q] at h
    have hk := (List.getElem?_eq_some_iff.mp q).1
    rw [List.getElem?_range (by simpa using hk)] at q
    cases q
    simp at hk
    exact ⟨(Option.some.inj h).symm, by omega⟩
theorem range_len (i j : Int) : (rangeD i j).length = (j - i).toNat := by simp [rangeD]
theorem w_it {m : M D} {P : List D → Env → Prop} (h : Wp m ρ (fun d ρ1 => ∃ ds, itemsD d = some ds ∧ P ds ρ1) E) : Wp (mIt m) ρ P E := w_bnd (h.mono fun d ρ1 ⟨ds, e, h⟩ => w_lft e h)
/-- while, by a measure -/
theorem w_while {t : M Bool} {body : M Fl} {P : Fl → Env → Prop} (I : Nat → Env → Prop)
    (hs : ∀ n ρ, I n ρ → Wp t ρ (fun b ρ1 => (b = true → ∃ n', n = n' + 1 ∧ Wp body ρ1 (Lq (fun ρ2 => ∃ n2, n2 ≤ n' ∧ I n2 ρ2) P) E) ∧ (b = false → P .nx ρ1)) E) : ∀ {N n : Nat} {ρ : Env}, n < N → I n ρ → Wp (mWhile t body N) ρ P E := by
  intro N
  induction N with
  | zero => intro n ρ h; omega
  | succ N ih =>
    intro n ρ hn h
    unfold mWhile
    refine w_bnd ((hs n ρ h).mono fun b ρ1 hb => ?_)
    cases b with
    | false => exact hb.2 rfl
    | true =>
      obtain ⟨n', e, h1⟩ := hb.1 rfl
      rw [if_pos rfl]
      unfold Wp at h1 ⊢
      dsimp only
      split at h1
      · rename_i f ρ2 e2
        rw [e2]
        cases f with
        | nx =>
          obtain ⟨n2, hle, h2⟩ := h1
          exact ih (n := n2) (by omega) h2
        | ct =>
          obtain ⟨n2, hle, h2⟩ := h1
          exact ih (n := n2) (by omega) h2
        | bk => exact h1
        | rt d => exact h1
      · rename_i x ρ2 e2
        rw [e2]; exact h1
      · exact h1.elim
/-! comprehensions -/
theorem w_comp {tg : D → M Unit} {tt : M Bool} {te : M D} {vs : List Nat} {ds acc0 : List D} {P : List D → Env → Prop} (I : Nat → List D → Env → Prop) (h0 : I 0 acc0 ρ)
    (hs : ∀ k d, ds[k]? = some d → ∀ acc ρ, I k acc ρ → Wp (tg d) (wipeE ρ vs) (fun _ ρ1 => ρ1.length = ρ.length ∧ Wp tt ρ1 (fun b ρ2 => (b = true → Wp te ρ2 (fun y ρ3 => acc.length < sizeLine ∧ I (k + 1) (acc ++ [y]) ρ3) NoE) ∧ (b = false → I (k + 1) acc ρ2)) NoE) NoE)
    (he : ∀ acc ρ, I ds.length acc ρ → P acc ρ) : Wp (mComp tg tt te vs ds acc0) ρ P E := by
  have main : ∀ (l : List D) (k : Nat) (acc : List D) (ρ : Env), k ≤ ds.length → ds.drop k = l → I k acc ρ → Wp (mComp tg tt te vs l acc) ρ P E := by
    intro l
    induction l with
    | nil =>
      intro k acc ρ hk e h
      have hk2 : k = ds.length := by
        have := congrArg List.length e
        simp at this; omega
      subst hk2
      exact he acc ρ h
    | cons d l ih =>
      intro k acc ρ hk e h
      have hlt : k < ds.length := by
        have := congrArg List.length e
        simp at this; omega
      have ed : ds[k]? = some d := by
        have : (ds.drop k)[0]? = some d := by rw [e]; rfl
        rw [List.getElem?_drop] at this
        simpa using this
      have el : ds.drop (k + 1) = l := by
        rw [← List.drop_drop, e]; rfl
      have h1 := hs k d ed acc ρ h
      unfold Wp mComp
      unfold Wp at h1
      split at h1
      · rename_i u ρ1 e1
        rw [e1]
        dsimp only
        obtain ⟨hl, h1⟩ := h1
        rw [if_pos hl]
        split at h1
        · rename_i b ρ2 e2
          rw [e2]
          cases b with
          | false => exact ih (k + 1) acc ρ2 hlt el (h1.2 rfl)
          | true =>
            have h3 := h1.1 rfl
            dsimp only
            split at h3
            · rename_i y ρ3 e3
              rw [e3]
              dsimp only
              rw [if_pos h3.1]
              exact ih (k + 1) _ ρ3 hlt el h3.2
            · exact h3.elim
            · exact h3.elim
        · exact h1.elim
        · exact h1.elim
      · exact h1.elim
      · exact h1.elim
  exact main ds 0 acc0 ρ (Nat.zero_le _) rfl h0
theorem w_lc {mi : M (List D)} {tg : D → M Unit} {tt : M Bool} {te : M D} {vs : List Nat} {P : D → Env → Prop} (h : Wp mi ρ (fun ds ρ1 => Wp (mComp tg tt te vs ds []) (wipeE ρ1 vs) (fun acc ρ2 => ρ2.length = ρ1.length ∧ P (.nd (.lst true) acc) (restE ρ1 vs (wipeE ρ2 vs))) NoE) E) : Wp (mLc mi tg tt te vs) ρ P E := by
  refine w_bnd (h.mono fun ds ρ1 h => ?_)
  unfold Wp at h ⊢
  dsimp only
  split at h
  · rename_i acc ρ2 e
    rw [e]
    dsimp only
    rw [if_pos h.1]; exact h.2
  · exact h.elim
  · exact h.elim
theorem w_lcT {i : Nat} {tg : D → M Unit} {tt : M Bool} {te : M D} {vs : List Nat} {o : Bool} {ds : List D} {P : D → Env → Prop} (e : ρ[i]? = some (some (.nd (.lst o) ds)))
    (h : Wp (mComp tg tt te vs (ds.map D.frz) []) (wipeE (ρ.set i none) vs) (fun acc ρ2 => ρ2.length = ρ.length ∧ P (.nd (.lst true) acc) ((restE (ρ.set i none) vs (wipeE ρ2 vs)).set i (some (.nd (.lst o) (ds.map D.frz))))) NoE) : Wp (mLcT i tg tt te vs) ρ P E := by
  unfold Wp mLcT at *
  rw [e]
  dsimp only
  split at h
  · rename_i acc ρ2 e
    rw [e]
    dsimp only
    rw [if_pos h.1]; exact h.2
  · exact h.elim
  · exact h.elim
/-- a comprehension over what is handed in, one value an item, nothing else changed -/
theorem w_comp_map {tg : D → M Unit} {te : M D} {vs : List Nat} {ds : List D} {ρw : Env} {P : List D → Env → Prop} (f : D → D) (h0 : wipeE ρ vs = ρw) (hl0 : ρw.length = ρ.length) (hlen : ds.length ≤ sizeLine)
    (hs : ∀ d ∈ ds, Wp (tg d) ρw (fun _ ρ1 => ρ1.length = ρw.length ∧ Wp te ρ1 (fun y ρ3 => y = f d ∧ wipeE ρ3 vs = ρw) NoE) NoE)
    (he : ∀ ρ', wipeE ρ' vs = ρw → P (ds.map f) ρ') : Wp (mComp tg mYes te vs ds []) ρ P E := by
  refine w_comp (I := fun k acc ρ' => acc = (ds.take k).map f ∧ k ≤ ds.length ∧ wipeE ρ' vs = ρw) ⟨rfl, Nat.zero_le _, h0⟩ ?_ ?_
  · rintro k d ed acc ρ' ⟨rfl, hk, hw⟩
    rw [hw]
    have hlt := (List.getElem?_eq_some_iff.mp ed).1
    refine (hs d (List.mem_of_getElem? ed)).mono fun _ ρ1 ⟨h1, h2⟩ => ⟨?_, ?_⟩
    · rw [h1, ← hw, wipeE_length]
    · refine w_pur ⟨fun _ => h2.mono fun y ρ3 ⟨ey, h3⟩ => ⟨by simp; omega, ?_, hlt, h3⟩, fun h => nomatch h⟩
      rw [List.take_add_one, ed, List.map_append, ey]; rfl
  · rintro acc ρ' ⟨rfl, _, hw⟩
    rw [List.take_length]; exact he ρ' hw
/-- with a test -/
theorem w_comp_filter {tg : D → M Unit} {tt : M Bool} {te : M D} {vs : List Nat} {ds : List D} {ρw : Env} {P : List D → Env → Prop} (g : D → Bool) (f : D → D) (h0 : wipeE ρ vs = ρw) (hlen : ds.length ≤ sizeLine)
    (hs : ∀ d ∈ ds, Wp (tg d) ρw (fun _ ρ1 => ρ1.length = ρw.length ∧ Wp tt ρ1 (fun b ρ2 => b = g d ∧ (b = true → Wp te ρ2 (fun y ρ3 => y = f d ∧ wipeE ρ3 vs = ρw) NoE) ∧ (b = false → wipeE ρ2 vs = ρw)) NoE) NoE)
    (he : ∀ ρ', wipeE ρ' vs = ρw → P ((ds.filter g).map f) ρ') : Wp (mComp tg tt te vs ds []) ρ P E := by
  refine w_comp (I := fun k acc ρ' => acc = ((ds.take k).filter g).map f ∧ k ≤ ds.length ∧ wipeE ρ' vs = ρw) ⟨rfl, Nat.zero_le _, h0⟩ ?_ ?_
  · rintro k d ed acc ρ' ⟨rfl, hk, hw⟩
    rw [hw]
    have hlt := (List.getElem?_eq_some_iff.mp ed).1
    refine (hs d (List.mem_of_getElem? ed)).mono fun _ ρ1 ⟨h1, h2⟩ => ⟨by rw [h1, ← hw, wipeE_length], ?_⟩
    have et : ds.take (k + 1) = ds.take k ++ [d] := by rw [List.take_add_one, ed]; rfl
    refine h2.mono fun b ρ2 ⟨eb, ht, hf⟩ => ⟨fun hb => (ht hb).mono fun y ρ3 ⟨ey, h3⟩ => ⟨?_, ?_, hlt, h3⟩, fun hb => ⟨?_, hlt, hf hb⟩⟩
    · have := List.length_filter_le g (ds.take k)
      simp only [List.length_map]
      simp at this; omega
    · rw [et, List.filter_append, List.map_append, ey]
      have : g d = true := by rw [← eb]; exact hb
      simp [this]
    · rw [et, List.filter_append]
      have : g d = false := by rw [← eb]; exact hb
      simp [this]
  · rintro acc ρ' ⟨rfl, _, hw⟩
    rw [List.take_length]; exact he ρ' hw
/-! defs -/
def Rq (P : List Bool) (ds : List D) (ρ : Env) (Q : List D → Prop) : Prop := match pull (exArgs 0 P ds) ρ with
  | some (ds', _) => Q ds'
  | none => False
theorem fok_mk {n : Nat} {P : List Bool} {m : M Fl} {ds : List D} {Q : D → List D → Prop} {E : Exc → List D → Prop} (ρ0 : Env) (h0 : ds.map some ++ List.replicate (n - ds.length) none = ρ0)
    (h : Wp m ρ0 (fun fl ρ => match fl with
      | .rt d => Rq P ds ρ (Q d)
      | .nx => Rq P ds ρ (Q .non)
      | _ => False) (fun e ρ => Rq P ds ρ (E e))) : FOk (mkF n P m) ds Q E := by
  unfold FOk mkF
  rw [h0]
  unfold Wp at h
  split at h
  · rename_i fl ρ e
    rw [e]
    cases fl with
    | nx =>
      unfold Rq at h
      dsimp only at h ⊢
      split at h
      · rename_i e2; first | exact h | (rw [e2]; exact h)
      · exact h.elim
    | rt d =>
      unfold Rq at h
      dsimp only at h ⊢
      split at h
      · rename_i e2; first | exact h | (rw [e2]; exact h)
      · exact h.elim
    | bk => exact h.elim
    | ct => exact h.elim
  · rename_i x ρ e
    rw [e]
    unfold Rq at h
    dsimp only at h ⊢
    split at h
    · rename_i e2; first | exact h | (rw [e2]; exact h)
    · exact h.elim
  · exact h.elim
/-- a call -/
theorem w_call {P : List Bool} {F : List D → R (List D) D} {ma : M (List Arg)} {Q : D → Env → Prop} (h : Wp ma ρ (fun as ρ1 => argB as = P ∧ ∃ ds ρ2, pull as ρ1 = some (ds, ρ2) ∧ FOk F ds (fun d ds' => Q d (pushb as ds' ρ2)) fun e ds' => E e (pushb as ds' ρ2)) E) : Wp (mCall P F ma) ρ Q E := by
  refine w_bnd (h.mono fun as ρ1 ⟨hb, ds, ρ2, hp, hf⟩ => ?_)
  unfold Wp
  dsimp only
  rw [if_pos hb, hp]
  dsimp only
  unfold FOk at hf
  split at hf
  · rename_i e; first | exact hf | (rw [e]; exact hf)
  · rename_i e; first | exact hf | (rw [e]; exact hf)
  · exact hf.elim
theorem w_tm {m : M D} {r : M (List Arg)} {P : List Arg → Env → Prop} (h : Wp m ρ (fun d ρ1 => Wp r ρ1 (fun as ρ2 => P (.tm d :: as) ρ2) E) E) : Wp (mTm m r) ρ P E := w_bnd (h.mono fun _ _ h => w_bnd h)
theorem w_sl {i : Nat} {d : D} {r : M (List Arg)} {P : List Arg → Env → Prop} (e : ρ[i]? = some (some d)) (h : Wp r ρ (fun as ρ2 => P (.sl i :: as) ρ2) E) : Wp (mSl i r) ρ P E := by
  unfold Wp mSl
  rw [e]
  exact w_bnd h
end
theorem noErr_wp {α : Type} {m : M α} {ρ : Env} {P : α → Env → Prop} {E : XE} (h : Wp m ρ P NoE) : Wp (noErr m) ρ P E := by
  obtain ⟨a, ρ', e, h⟩ := h.ok
  unfold Wp noErr
  rw [e]; exact h
theorem w_dk {α : Type} {ρ : Env} {E : XE} {i : Nat} {o : Bool} {ks : List Key} {ds : List D} {k : List Key → List D → M α} {P : α → Env → Prop} (e : ρ[i]? = some (some (.nd (.dic o ks) ds))) (h : Wp (k ks ds) (ρ.set i (some (.nd (.dic false ks) (ds.map D.frz)))) P E) : Wp (mDk i k) ρ P E := by
  unfold Wp mDk
  rw [e]
  dsimp only
  rw [frz_nd]; exact h
theorem w_forK {ρ : Env} {E : XE} {κ : Wk3} {i : Nat} {tg : D → M Unit} {body : M Fl} {o : Bool} {ks : List Key} {ds : List D} {P : Fl → Env → Prop} (e : ρ[i]? = some (some (.nd (.dic o ks) ds))) (h : Wp (mLoop tg body (dkItems κ ks ds)) (ρ.set i (some (.nd (.dic false ks) (ds.map D.frz)))) P NoE) : Wp (mForK κ i tg body) ρ P E := w_dk e (noErr_wp h)
theorem w_lcK {ρ : Env} {E : XE} {κ : Wk3} {i : Nat} {tg : D → M Unit} {tt : M Bool} {te : M D} {vs : List Nat} {o : Bool} {ks : List Key} {ds : List D} {P : D → Env → Prop} (e : ρ[i]? = some (some (.nd (.dic o ks) ds))) (h : Wp (mLc (pur (dkItems κ ks ds)) tg tt te vs) (ρ.set i (some (.nd (.dic false ks) (ds.map D.frz)))) P E) : Wp (mLcK κ i tg tt te vs) ρ P E := w_dk e h
end DL
/-! DLx: rules at places, arithmetic, the pen that a law draws from. -/
namespace DL
open PySem PySem.Spec L2
section
variable {α β : Type} {ρ ρ1 : Env} {E : XE}
theorem w_kq {b : M Fl} {P : Fl → Env → Prop} (h : Wp b ρ P E) : Kq b P E .nx ρ := h
theorem w_tgN' {i : Nat} {d : D} {P : Unit → Env → Prop} (hi : Nat.blt i ρ.length = true) (h : P () (ρ.set i (some d))) : Wp (tgN i d) ρ P E := w_tgN (Nat.le_of_ble_eq_true hi) h
/-! places -/
def pixA (pl : Pl) (k : D) : M Pl := match pl with
  | .vl d => lft ((fIx d k).map .vl)
  | .at i π => fun ρ => match atP ρ i π with
    | some (.nd cn ds) => if cn.isO = true then (match ixOf cn ds.length k with
        | some j => .ok (.at i (π ++ [j])) ρ
        | none => .stuck)
      else (match fIx (.nd cn ds) k with
        | some e => .ok (.vl e) (putP ρ i π (D.nd cn ds).frz)
        | none => .stuck)
    | some d => (match fIx d k with
        | some e => .ok (.vl e) ρ
        | none => .stuck)
    | none => .stuck
theorem w_pix {mo : M Pl} {mk : M D} {P : Pl → Env → Prop} (h : Wp mo ρ (fun pl ρ1 => Wp mk ρ1 (fun k ρ2 => Wp (pixA pl k) ρ2 P E) E) E) : Wp (mPix mo mk) ρ P E :=
  w_bnd (h.mono fun _ _ h => w_bnd (h.mono fun _ _ h => h))
theorem put_self : ∀ (π : List Nat) (d e : D), d.at π = some e → d.put π e = d
  | [], d, e, h => by rw [at_nil] at h; cases h; rw [put_nil]
  | j :: π, .nd cn xs, e, h => by
    rw [at_cons] at h
    by_cases hc : cn.isO = true
    · rw [if_pos hc] at h
      rw [put_cons]
      cases ex : xs[j]? with
      | none => rfl
      | some x =>
        rw [ex] at h
        dsimp only
        have h : x.at π = some e := h
        rw [put_self π x e h]
        obtain ⟨hj, hx⟩ := List.getElem?_eq_some_iff.mp ex
        rw [← hx, List.set_getElem_self]
    · rw [if_neg hc] at h; cases h
  | j :: π, .non, e, h => by rw [D.at] at h; cases h; exact fun _ _ h => nomatch h
  | j :: π, .bl _, e, h => by rw [D.at] at h; cases h; exact fun _ _ h => nomatch h
  | j :: π, .int _, e, h => by rw [D.at] at h; cases h; exact fun _ _ h => nomatch h
  | j :: π, .str _, e, h => by rw [D.at] at h; cases h; exact fun _ _ h => nomatch h
theorem putP_self {i : Nat} {π : List Nat} {e : D} (h : atP ρ i π = some e) : putP ρ i π e = ρ := by
  obtain ⟨d, h1, h2, h3⟩ := atP_some h
  rw [h3, put_self π d e h2]
  obtain ⟨hi, hd⟩ := List.getElem?_eq_some_iff.mp h1
  rw [← hd]
  exact List.set_getElem_self hi
theorem w_pixO {i j : Nat} {π : List Nat} {cn : Con} {ds : List D} {k : D} {P : Pl → Env → Prop} (e : atP ρ i π = some (.nd cn ds)) (hc : cn.isO = true) (hj : ixOf cn ds.length k = some j) (h : P (.at i (π ++ [j])) ρ) : Wp (pixA (.at i π) k) ρ P E := by
  unfold Wp pixA
  dsimp only
  rw [e]
  dsimp only
  rw [if_pos hc, hj]; exact h
theorem w_pixF {i : Nat} {π : List Nat} {cn : Con} {ds : List D} {k x : D} {P : Pl → Env → Prop} (e : atP ρ i π = some (.nd cn ds)) (hc : cn.isO = false) (hf : (D.nd cn ds).frz = .nd cn ds) (hx : fIx (.nd cn ds) k = some x) (h : P (.vl x) ρ) : Wp (pixA (.at i π) k) ρ P E := by
  unfold Wp pixA
  dsimp only
  rw [e]
  dsimp only
  rw [if_neg (by rw [hc]; decide), hx]
  dsimp only
  rw [hf, putP_self e]; exact h
theorem w_pixS {i : Nat} {π : List Nat} {z : Str} {k x : D} {P : Pl → Env → Prop} (e : atP ρ i π = some (.str z)) (hx : fIx (.str z) k = some x) (h : P (.vl x) ρ) : Wp (pixA (.at i π) k) ρ P E := by
  unfold Wp pixA
  dsimp only
  rw [e]
  dsimp only
  rw [hx]
  exact h
theorem w_pixV {d k x : D} {P : Pl → Env → Prop} (hx : fIx d k = some x) (h : P (.vl x) ρ) : Wp (pixA (.vl d) k) ρ P E := by
  unfold pixA
  exact w_lft (by rw [hx]; rfl) h
def rdPl (pl : Pl) : M D := match pl with
  | .vl d => pur d
  | .at i π => fun ρ => match atP ρ i π with
    | some e => .ok e.frz (putP ρ i π e.frz)
    | none => .stuck
theorem w_rd {m : M Pl} {P : D → Env → Prop} (h : Wp m ρ (fun pl ρ1 => Wp (rdPl pl) ρ1 P E) E) : Wp (mRd m) ρ P E := w_bnd h
theorem w_rdV {d : D} {P : D → Env → Prop} (h : P d ρ) : Wp (rdPl (.vl d)) ρ P E := h
theorem w_rdO {i : Nat} {π : List Nat} {e : D} {P : D → Env → Prop} (h1 : atP ρ i π = some e) (hf : e.frz = e) (h : P e ρ) : Wp (rdPl (.at i π)) ρ P E := by
  unfold Wp rdPl
  dsimp only
  rw [h1]
  dsimp only
  rw [hf, putP_self h1]; exact h
theorem w_rdF {i : Nat} {π : List Nat} {e : D} {P : D → Env → Prop} (h1 : atP ρ i π = some e) (h : P e.frz (putP ρ i π e.frz)) : Wp (rdPl (.at i π)) ρ P E := by
  unfold Wp rdPl
  dsimp only
  rw [h1]; exact h
theorem w_vw {m : M Pl} {P : D → Env → Prop} (h : Wp m ρ (fun pl ρ1 => Wp (plD pl) ρ1 P E) E) : Wp (mVw m) ρ P E := w_bnd (h.mono fun pl ρ1 h => by cases pl <;> exact h)
theorem atP_1 {i j : Nat} {cn : Con} {ds : List D} {d : D} (e : ρ[i]? = some (some (.nd cn ds))) (hc : cn.isO = true) (hj : ds[j]? = some d) : atP ρ i [j] = some d := by
  unfold atP
  rw [e]
  dsimp only
  rw [at_cons, if_pos hc, hj]
  exact at_nil d
theorem w_pl1 {i j : Nat} {cn : Con} {ds : List D} {d : D} {P : D → Env → Prop} (e : ρ[i]? = some (some (.nd cn ds))) (hc : cn.isO = true) (hj : ds[j]? = some d) (h : P d ρ) : Wp (plD (.at i [j])) ρ P E := w_pla (atP_1 e hc hj) h
theorem w_pixs {i : Nat} {mk : M D} {d : D} {P : Pl → Env → Prop} (e : ρ[i]? = some (some d)) (h : Wp mk ρ (fun k ρ1 => Wp (pixA (.at i []) k) ρ1 P E) E) : Wp (mPixs i mk) ρ P E := by
  unfold Wp mPixs
  rw [e]
  exact w_bnd (h.mono fun k ρ1 h => by
    unfold pixK
    exact h)
/-- a subscript of a slot's value -/
def ixE (d k : D) : Option D := match d with
  | .nd cn ds => (ixOf cn ds.length k).bind fun j => ds[j]?
  | .str z => fIx (.str z) k
  | _ => none
theorem w_ix0 {i : Nat} {d k x : D} {P : D → Env → Prop} (e : ρ[i]? = some (some d)) (hx : ixE d k = some x) (hf : x.frz = x) (hd : (∃ cn ds, d = .nd cn ds ∧ cn.isO = true) ∨ d.frz = d) (h : P x ρ) : Wp (pixA (.at i []) k) ρ (fun pl ρ1 => Wp (rdPl pl) ρ1 P E) E := by
  have ea := atP_nil e
  cases d with
  | nd cn ds =>
    have hx : ((ixOf cn ds.length k).bind fun j => ds[j]?) = some x := hx
    cases ej : ixOf cn ds.length k with
    | none => rw [ej] at hx; cases hx
    | some j =>
      rw [ej] at hx
      have hx : ds[j]? = some x := hx
      by_cases hc : cn.isO = true
      · exact w_pixO ea hc ej (w_rdO (atP_1 e hc hx) hf h)
      · refine w_pixF (x := x) ea (by simpa using hc) ?_ ?_ (w_rdV h)
        · rcases hd with ⟨cn', ds', e', hc'⟩ | hd
          · cases e'; exact (hc hc').elim
          · exact hd
        · unfold fIx
          dsimp only
          rw [ej]
          show ds[j]?.map D.frz = _
          rw [hx]
          show some x.frz = _
          rw [hf]
  | str z => exact w_pixS ea hx (w_rdV h)
  | non => cases hx
  | bl _ => cases hx
  | int _ => cases hx
theorem w_rix {i : Nat} {d : D} {mk : M D} {P : D → Env → Prop} (e : ρ[i]? = some (some d)) (h : Wp mk ρ (fun k ρ1 => Wp (pixA (.at i []) k) ρ1 (fun pl ρ1 => Wp (rdPl pl) ρ1 P E) E) E) : Wp (mRd (mPix (mPv i) mk)) ρ P E := w_rd (w_pix (w_pv e h))
theorem w_rixs {i : Nat} {d : D} {mk : M D} {P : D → Env → Prop} (e : ρ[i]? = some (some d)) (h : Wp mk ρ (fun k ρ1 => Wp (pixA (.at i []) k) ρ1 (fun pl ρ1 => Wp (rdPl pl) ρ1 P E) E) E) : Wp (mRd (mPixs i mk)) ρ P E := w_rd (w_pixs e h)
/-- place[key] = value, the place a slot -/
theorem w_tgS {i : Nat} {mk : M D} {d0 d : D} {P : Unit → Env → Prop} (e : ρ[i]? = some (some d0)) (h : Wp mk ρ (fun k ρ1 => ∃ cn ds cn' ds', ρ1[i]? = some (some (.nd cn ds)) ∧ stD cn ds k d = some (cn', ds') ∧ P () (ρ1.set i (some (.nd cn' ds')))) E) : Wp (tgSub (mPv i) mk d) ρ P E := by
  refine w_bnd (w_pv e (w_bnd (h.mono fun k ρ1 ⟨cn, ds, cn', ds', e1, e2, h⟩ => ?_)))
  unfold Wp
  dsimp only
  have ea := atP_nil e1
  rw [ea]
  dsimp only
  rw [e2]
  dsimp only
  obtain ⟨d1, h1, h2, h3⟩ := atP_some ea
  rw [h3, put_nil]; exact h
/-! arithmetic -/
theorem w_add {i j : Int} {P : D → Env → Prop} (h : P (.int (i + j)) ρ) : Wp (lft (fAdd (.int i) (.int j))) ρ P E := h
theorem w_sub {i j : Int} {P : D → Env → Prop} (h : P (.int (i - j)) ρ) : Wp (lft (fSub (.int i) (.int j))) ρ P E := h
theorem w_mulR {i j : Int} {P : D → Env → Prop} (hj : -(2 ^ 64) < j ∧ j < 2 ^ 64) (h : P (.int (i * j)) ρ) : Wp (lft (fMul (.int i) (.int j))) ρ P E := w_lft (if_pos (by unfold cMul; rw [decide_eq_true hj, Bool.or_true])) h
theorem w_mulL {i j : Int} {P : D → Env → Prop} (hj : -(2 ^ 64) < i ∧ i < 2 ^ 64) (h : P (.int (i * j)) ρ) : Wp (lft (fMul (.int i) (.int j))) ρ P E := w_lft (if_pos (by unfold cMul; rw [decide_eq_true hj, Bool.true_or])) h
theorem w_div {i j : Int} {P : D → Env → Prop} (hj : 0 < j ∧ j < 1073741824) (h : P (.int (i / j)) ρ) : Wp (lft (fDiv (.int i) (.int j))) ρ P E := w_lft (if_pos (decide_eq_true hj)) h
theorem w_mod {i j : Int} {P : D → Env → Prop} (hj : 0 < j) (h : P (.int (i % j)) ρ) : Wp (lft (fMod (.int i) (.int j))) ρ P E := w_lft (if_pos (decide_eq_true hj)) h
theorem w_pow {i j : Int} {P : D → Env → Prop} (hj : 0 ≤ j ∧ j ≤ 1000000 ∧ i.natAbs < 2 ^ 64) (h : P (.int (i ^ j.toNat)) ρ) : Wp (lft (fPow (.int i) (.int j))) ρ P E := w_lft (if_pos (decide_eq_true hj)) h
theorem w_lt {i j : Int} {P : D → Env → Prop} (h : P (.bl (decide (i < j))) ρ) : Wp (lft (fLt (.int i) (.int j))) ρ P E := h
theorem w_le {i j : Int} {P : D → Env → Prop} (h : P (.bl (decide (i ≤ j))) ρ) : Wp (lft (fLe (.int i) (.int j))) ρ P E := h
theorem w_gt {i j : Int} {P : D → Env → Prop} (h : P (.bl (decide (j < i))) ρ) : Wp (lft (fGt (.int i) (.int j))) ρ P E := h
theorem w_ge {i j : Int} {P : D → Env → Prop} (h : P (.bl (decide (j ≤ i))) ρ) : Wp (lft (fGe (.int i) (.int j))) ρ P E := h
theorem eq_int (i j : Int) : fEq (.int i) (.int j) = some (.bl (decide (i = j))) := by
  have : eqD (.int i) (.int j) = some (decide (i = j)) := by
    unfold eqD
    show (if (SeqAt.shaped (.int i) && SeqAt.shaped (.int j)) = true then some (PyData.eqv (.int i) (.int j)) else none) = _
    rw [if_pos (by rfl)]
    congr 1
  unfold fEq
  rw [this]; rfl
theorem ne_int (i j : Int) : fNe (.int i) (.int j) = some (.bl (!decide (i = j))) := by
  have : eqD (.int i) (.int j) = some (decide (i = j)) := by
    unfold eqD
    show (if (SeqAt.shaped (.int i) && SeqAt.shaped (.int j)) = true then some (PyData.eqv (.int i) (.int j)) else none) = _
    rw [if_pos (by rfl)]
    congr 1
  unfold fNe
  rw [this]; rfl
theorem w_eq {i j : Int} {P : D → Env → Prop} (h : P (.bl (decide (i = j))) ρ) : Wp (lft (fEq (.int i) (.int j))) ρ P E := w_lft (eq_int i j) h
theorem w_ne {i j : Int} {P : D → Env → Prop} (h : P (.bl (!decide (i = j))) ρ) : Wp (lft (fNe (.int i) (.int j))) ρ P E := w_lft (ne_int i j) h
theorem w_len {cn : Con} {ds : List D} {P : D → Env → Prop} (h : P (.int ds.length) ρ) : Wp (lft (fLenV (.nd cn ds))) ρ P E := h
theorem w_lenS {z : Str} {P : D → Env → Prop} (hz : z.length ≤ sizeLine) (h : P (.int z.length) ρ) : Wp (lft (fLenV (.str z))) ρ P E := w_lft (show fLenV (.str z) = _ from if_pos hz) h
theorem w_abs {i : Int} {P : D → Env → Prop} (h : P (.int (if i < 0 then -i else i)) ρ) : Wp (lft (fAbs [.int i])) ρ P E := h
theorem w_neg {i : Int} {P : D → Env → Prop} (h : P (.int (-i)) ρ) : Wp (lft (fNeg (.int i))) ρ P E := h
theorem w_is {d : D} {P : D → Env → Prop} (h : P (.bl (isNon d)) ρ) : Wp (lft (fIs d .non)) ρ P E := h
theorem w_isNot {d : D} {P : D → Env → Prop} (h : P (.bl (!isNon d)) ρ) : Wp (lft (fIsNot d .non)) ρ P E := h
theorem w_call' {P : List Bool} {F : List D → R (List D) D} {ma : M (List Arg)} {Q : D → Env → Prop} (h : Wp ma ρ (fun as ρ1 => argB as = P ∧ ∃ ds ρ2, pull as ρ1 = some (ds, ρ2) ∧ FOk F ds (fun d ds' => Q d (pushb as ds' ρ2)) fun e ds' => E e (pushb as ds' ρ2)) E) : Wp (mCall P F ma) ρ Q E := w_call h
end
theorem w_rt {P : Fl → Env → Prop} {b : M Fl} {d : D} {ρ : Env} {E : XE} (h : P (.rt d) ρ) : Kq b P E (.rt d) ρ := h
theorem dec_t {p : Prop} [Decidable p] (h : decide p = true) : p := of_decide_eq_true h
theorem dec_f {p : Prop} [Decidable p] (h : decide p = false) : ¬ p := of_decide_eq_false h
theorem len_line (k : Nat) (h : k ≤ 1000) : k ≤ sizeLine := by rw [sizeLine_eq]; omega
theorem w_ln {k : Nat} {A : Prop} (hk : Nat.ble k 1000 = true) (h : A) : k ≤ sizeLine ∧ A := ⟨len_line k (Nat.le_of_ble_eq_true hk), h⟩
theorem w_tt {A B : Prop} (h : A) : (true = true → A) ∧ (true = false → B) := ⟨fun _ => h, fun h => nomatch h⟩
theorem w_ff {A B : Prop} (h : B) : (false = true → A) ∧ (false = false → B) := ⟨fun h => (nomatch h), fun _ => h⟩
theorem w_by {p : Prop} [Decidable p] {A B : Prop} (h1 : p → A) (h2 : ¬ p → B) : (decide p = true → A) ∧ (decide p = false → B) := ⟨fun h => h1 (of_decide_eq_true h), fun h => h2 (of_decide_eq_false h)⟩
theorem w_byN {p : Prop} [Decidable p] {A B : Prop} (h1 : ¬ p → A) (h2 : p → B) : ((!decide p) = true → A) ∧ ((!decide p) = false → B) := ⟨fun h => h1 (by simpa using h), fun h => h2 (by simpa using h)⟩
theorem ixN_nat {n k : Nat} (h : k < n) : ixN n (k : Int) = some k := by
  unfold ixN
  rw [if_pos (by omega), if_pos (by omega)]; simp
theorem ixE_lst {o : Bool} {ds : List D} {k : Nat} {d : D} (h : ds[k]? = some d) : ixE (.nd (.lst o) ds) (.int k) = some d := by
  have hk := (List.getElem?_eq_some_iff.mp h).1
  show (ixN ds.length (k : Int)).bind _ = _
  rw [ixN_nat hk]; exact h
theorem ixE_tup {ds : List D} {k : Nat} {d : D} (h : ds[k]? = some d) : ixE (.nd .tup ds) (.int k) = some d := by
  have hk := (List.getElem?_eq_some_iff.mp h).1
  show (ixN ds.length (k : Int)).bind _ = _
  rw [ixN_nat hk]; exact h
theorem ixE_scr {ds : List D} {k : Nat} {d : D} (h : ds[k]? = some d) : ixE (.nd .scr ds) (.int k) = some d := by
  have hk := (List.getElem?_eq_some_iff.mp h).1
  show (ixN ds.length (k : Int)).bind _ = _
  rw [ixN_nat hk]; exact h
theorem w_pow6 {P : D → Env → Prop} {ρ : Env} {E : XE} (h : P (.int 1000000) ρ) : Wp (lft (fPow (.int 10) (.int 6))) ρ P E := w_pow (by decide) (by rw [show (10 : Int) ^ (6 : Int).toNat = 1000000 by decide]; exact h)
theorem w_pow9 {P : D → Env → Prop} {ρ : Env} {E : XE} (h : P (.int 1000000000) ρ) : Wp (lft (fPow (.int 10) (.int 9))) ρ P E := w_pow (by decide) (by rw [show (10 : Int) ^ (9 : Int).toNat = 1000000000 by decide]; exact h)
theorem w_pow13 {P : D → Env → Prop} {ρ : Env} {E : XE} (h : P (.int 10000000000000) ρ) : Wp (lft (fPow (.int 10) (.int 13))) ρ P E := w_pow (by decide) (by rw [show (10 : Int) ^ (13 : Int).toNat = 10000000000000 by decide]; exact h)
theorem w_pow17 {P : D → Env → Prop} {ρ : Env} {E : XE} (h : P (.int 100000000000000000) ρ) : Wp (lft (fPow (.int 10) (.int 17))) ρ P E := w_pow (by decide) (by rw [show (10 : Int) ^ (17 : Int).toNat = 100000000000000000 by decide]; exact h)
theorem w_pow18 {P : D → Env → Prop} {ρ : Env} {E : XE} (h : P (.int 1000000000000000000) ρ) : Wp (lft (fPow (.int 10) (.int 18))) ρ P E := w_pow (by decide) (by rw [show (10 : Int) ^ (18 : Int).toNat = 1000000000000000000 by decide]; exact h)
theorem w_pow20 {P : D → Env → Prop} {ρ : Env} {E : XE} (h : P (.int 100000000000000000000) ρ) : Wp (lft (fPow (.int 10) (.int 20))) ρ P E := w_pow (by decide) (by rw [show (10 : Int) ^ (20 : Int).toNat = 100000000000000000000 by decide]; exact h)
theorem w_pow25 {P : D → Env → Prop} {ρ : Env} {E : XE} (h : P (.int 10000000000000000000000000) ρ) : Wp (lft (fPow (.int 10) (.int 25))) ρ P E := w_pow (by decide) (by rw [show (10 : Int) ^ (25 : Int).toNat = 10000000000000000000000000 by decide]; exact h)
theorem w_pow27 {P : D → Env → Prop} {ρ : Env} {E : XE} (h : P (.int 1000000000000000000000000000) ρ) : Wp (lft (fPow (.int 10) (.int 27))) ρ P E := w_pow (by decide) (by rw [show (10 : Int) ^ (27 : Int).toNat = 1000000000000000000000000000 by decide]; exact h)
theorem w_pow28 {P : D → Env → Prop} {ρ : Env} {E : XE} (h : P (.int 10000000000000000000000000000) ρ) : Wp (lft (fPow (.int 10) (.int 28))) ρ P E := w_pow (by decide) (by rw [show (10 : Int) ^ (28 : Int).toNat = 10000000000000000000000000000 by decide]; exact h)
theorem w_pow29 {P : D → Env → Prop} {ρ : Env} {E : XE} (h : P (.int 100000000000000000000000000000) ρ) : Wp (lft (fPow (.int 10) (.int 29))) ρ P E := w_pow (by decide) (by rw [show (10 : Int) ^ (29 : Int).toNat = 100000000000000000000000000000 by decide]; exact h)
theorem w_pow30 {P : D → Env → Prop} {ρ : Env} {E : XE} (h : P (.int 1000000000000000000000000000000) ρ) : Wp (lft (fPow (.int 10) (.int 30))) ρ P E := w_pow (by decide) (by rw [show (10 : Int) ^ (30 : Int).toNat = 1000000000000000000000000000000 by decide]; exact h)
/-! the pen -/
structure Pen where
  sc : List Int
  at_ : Nat
  left : Nat
abbrev penK : List Key := [.inr "script", .inr "at", .inr "left"]
def Pen.d (p : Pen) : D := .nd (.dic true penK) [.nd .scr (p.sc.map .int), .int p.at_, .int p.left]
theorem pk_script : findK penK (.inr "script") = some 0 := by decide +kernel
theorem pk_at : findK penK (.inr "at") = some 1 := by decide +kernel
theorem pk_left : findK penK (.inr "left") = some 2 := by decide +kernel
theorem pk_nd : penK.Nodup := by decide +kernel
theorem scr_frz (ns : List Int) : (D.nd .scr (ns.map .int)).frz = .nd .scr (ns.map .int) := by
  rw [frz_nd]; simp [Con.frz, Function.comp_def]
section
variable {ρ : Env} {E : XE} {i : Nat} {p : Pen}
theorem w_penG {P : Pl → Env → Prop} {k : D} {j : Nat} (e : ρ[i]? = some (some p.d)) (hj : ixOf (.dic true penK) 3 k = some j) (h : P (.at i [j]) ρ) : Wp (mPix (mPv i) (pur k)) ρ P E :=
  w_pix (w_pv e (w_pur (w_pixO (atP_nil e) rfl hj h)))
theorem ix_left : ixOf (.dic true penK) 3 (.str "left") = some 2 := pk_left
theorem ix_at : ixOf (.dic true penK) 3 (.str "at") = some 1 := pk_at
theorem ix_script : ixOf (.dic true penK) 3 (.str "script") = some 0 := pk_script
theorem w_penL {P : D → Env → Prop} (e : ρ[i]? = some (some p.d)) (h : P (.int p.left) ρ) : Wp (mRd (mPix (mPv i) (pur (.str "left")))) ρ P E :=
  w_rd (w_penG e ix_left (w_rdO (atP_1 (j := 2) e rfl rfl) rfl h))
theorem w_penA {P : D → Env → Prop} (e : ρ[i]? = some (some p.d)) (h : P (.int p.at_) ρ) : Wp (mRd (mPix (mPv i) (pur (.str "at")))) ρ P E :=
  w_rd (w_penG e ix_at (w_rdO (atP_1 (j := 1) e rfl rfl) rfl h))
theorem w_penS {P : D → Env → Prop} (e : ρ[i]? = some (some p.d)) (h : P (.nd .scr (p.sc.map .int)) ρ) : Wp (mRd (mPix (mPv i) (pur (.str "script")))) ρ P E :=
  w_rd (w_penG e ix_script (w_rdO (atP_1 (j := 0) e rfl rfl) (scr_frz _) h))
theorem st_left {v : D} : stD (.dic true penK) [.nd .scr (p.sc.map .int), .int p.at_, .int p.left] (.str "left") v = some (.dic true penK, [.nd .scr (p.sc.map .int), .int p.at_, v]) := by
  show stK (.dic true) penK _ (.inr "left") v = _
  unfold stK
  rw [if_pos ⟨by show 3 < sizeLine; rw [sizeLine_eq]; omega, rfl⟩, pk_left]
  dsimp only
  rw [if_pos pk_nd]; rfl
theorem st_at {v : D} : stD (.dic true penK) [.nd .scr (p.sc.map .int), .int p.at_, .int p.left] (.str "at") v = some (.dic true penK, [.nd .scr (p.sc.map .int), v, .int p.left]) := by
  show stK (.dic true) penK _ (.inr "at") v = _
  unfold stK
  rw [if_pos ⟨by show 3 < sizeLine; rw [sizeLine_eq]; omega, rfl⟩, pk_at]
  dsimp only
  rw [if_pos pk_nd]; rfl
theorem w_penTL {P : Unit → Env → Prop} {n : Int} {m : Nat} (e : ρ[i]? = some (some p.d)) (hn : n = m) (h : P () (ρ.set i (some (Pen.d { p with left := m })))) : Wp (tgSub (mPv i) (pur (.str "left")) (.int n)) ρ P E := by
  subst hn
  exact w_tgS e (w_pur ⟨_, _, _, _, e, st_left, h⟩)
theorem w_penTA {P : Unit → Env → Prop} {n : Int} {m : Nat} (e : ρ[i]? = some (some p.d)) (hn : n = m) (h : P () (ρ.set i (some (Pen.d { p with at_ := m })))) : Wp (tgSub (mPv i) (pur (.str "at")) (.int n)) ρ P E := by
  subst hn
  exact w_tgS e (w_pur ⟨_, _, _, _, e, st_at, h⟩)
end
end DL
/-! DLs: texts. -/
namespace DL
open PySem PySem.Spec L2
/-- a short text of plain signs -/
def SOk (n : Nat) (x : Str) : Prop := x.length ≤ n ∧ ∀ c ∈ x.cps.toList, c < 128
theorem SOk.mono {n m : Nat} {x : Str} (h : SOk n x) (k : n ≤ m) : SOk m x := ⟨Nat.le_trans h.1 k, h.2⟩
theorem len_app (x y : Str) : (x ++ y).length = x.length + y.length := by
  show (x.cps ++ y.cps).size = _
  rw [Array.size_append]; rfl
theorem cps_app (x y : Str) : (x ++ y).cps.toList = x.cps.toList ++ y.cps.toList := by
  show (x.cps ++ y.cps).toList = _
  exact Array.toList_append
theorem len_cps (x : Str) : x.length = x.cps.toList.length := by simp [Str.length]
theorem SOk.app {n m : Nat} {x y : Str} (h : SOk n x) (k : SOk m y) : SOk (n + m) (x ++ y) := ⟨by rw [len_app]; have := h.1; have := k.1; omega, fun c hc => by
  rw [cps_app] at hc
  rcases List.mem_append.mp hc with hc | hc
  · exact h.2 c hc
  · exact k.2 c hc⟩
theorem SOk.cut {n : Nat} {x : Str} (h : SOk n x) (a b : Option Int) : SOk n (cutS x a b) := by
  have hs : ∀ c ∈ (cutS x a b).cps.toList, c ∈ x.cps.toList := fun c hc => by
    unfold cutS at hc
    simp only [List.toList_toArray] at hc
    exact List.mem_of_mem_drop (List.mem_of_mem_take hc)
  refine ⟨?_, fun c hc => h.2 c (hs c hc)⟩
  rw [len_cps]
  unfold cutS
  simp only [List.length_take, List.length_drop]
  have := h.1
  rw [len_cps] at this
  omega
theorem SOk.one {c : Nat} (h : c < 128) : SOk 1 ⟨#[c]⟩ := ⟨Nat.le_refl _, fun d hd => by simp at hd; omega⟩
theorem SOk.ok {n : Nat} {x : Str} (h : SOk n x) : PySem.PyData.strOk x = true := by
  unfold PySem.PyData.strOk
  rw [Array.all_eq_true']
  intro c hc
  have := h.2 c (by simpa using hc)
  simp; omega
theorem fIx_str {z : Str} {r : Int} (hz : z.length ≤ 1000) (h0 : 0 ≤ r) (h1 : r < z.length) : ∃ c, fIx (.str z) (.int r) = some (.str ⟨#[c]⟩) ∧ z.cps.toList[r.toNat]? = some c := by
  have hl : r.toNat < z.cps.toList.length := by rw [← len_cps]; omega
  refine ⟨z.cps.toList[r.toNat], ?_, by simp [hl]⟩
  show (if z.length ≤ sizeLine then (atI z.cps.toList r).map fun x => D.str ⟨#[x]⟩ else none) = _
  rw [if_pos (len_line _ hz)]
  have : atI z.cps.toList r = some z.cps.toList[r.toNat] := by
    unfold atI ixN
    rw [if_pos h0, if_pos (by rw [← len_cps]; exact h1)]
    simp [hl]
  rw [this]; rfl
section
variable {ρ : Env} {E : XE} {P : D → Env → Prop}
theorem w_addS {x y : Str} (hl : x.length + y.length ≤ 1000) (h : P (.str (x ++ y)) ρ) : Wp (lft (fAdd (.str x) (.str y))) ρ P E := w_lft (if_pos (len_line _ hl)) h
theorem w_slS {x : Str} {a b : Option Int} (hl : x.length ≤ 1000) (h : P (.str (cutS x a b)) ρ) : Wp (lft (fSl (.str x) a b)) ρ P E := w_lft (if_pos (len_line _ hl)) h
theorem w_lenS' {z : Str} (hz : z.length ≤ 1000) (h : P (.int z.length) ρ) : Wp (lft (fLenV (.str z))) ρ P E := w_lenS (len_line _ hz) h
theorem w_partS {m : M D} {P : Option Int → Env → Prop} (h : Wp m ρ (fun d ρ1 => ∃ i, d = .int i ∧ P (some i) ρ1) E) : Wp (mPart m) ρ P E := w_part h
theorem w_int1 {K : Int → Prop} {i : Int} (h : K i) : ∃ j, D.int i = .int j ∧ K j := ⟨i, rfl, h⟩
theorem w_ixS {z : Str} {r : Int} (hz : z.length ≤ 1000) (h0 : 0 ≤ r) (h1 : r < z.length) (h : ∀ c, z.cps.toList[r.toNat]? = some c → P (.str ⟨#[c]⟩) ρ) : Wp (lft (fIx (.str z) (.int r))) ρ P E := by
  obtain ⟨c, e, hc⟩ := fIx_str hz h0 h1
  exact w_lft e (h c hc)
end
section
variable {ρ : Env}
theorem w_rgE {j : Int} {K : Int → Prop} (hs : -4611686018427387904 ≤ j ∧ j < 4611686018427387904) (h : K j) : ∃ k, D.int j = .int k ∧ smallI k = true ∧ K k := ⟨j, rfl, (by unfold smallI; exact decide_eq_true (by omega)), h⟩
theorem w_rgE2 {i j : Int} {K : Int → Int → Prop} (h1 : -4611686018427387904 ≤ i ∧ i < 4611686018427387904) (h2 : -4611686018427387904 ≤ j ∧ j < 4611686018427387904) (h : K i j) : ∃ k l, D.int i = .int k ∧ D.int j = .int l ∧ smallI k = true ∧ smallI l = true ∧ K k l := ⟨i, j, rfl, rfl, (by unfold smallI; exact decide_eq_true (by omega)), (by unfold smallI; exact decide_eq_true (by omega)), h⟩
end
theorem kit_NoneType_bool : kitB "NoneType" "bool" = some false := by decide +kernel
theorem kit_NoneType_int : kitB "NoneType" "int" = some false := by decide +kernel
theorem kit_NoneType_str : kitB "NoneType" "str" = some false := by decide +kernel
theorem kit_NoneType_tuple : kitB "NoneType" "tuple" = some false := by decide +kernel
theorem kit_NoneType_list : kitB "NoneType" "list" = some false := by decide +kernel
theorem kit_NoneType_dict : kitB "NoneType" "dict" = some false := by decide +kernel
theorem kit_bool_bool : kitB "bool" "bool" = some true := by decide +kernel
theorem kit_bool_int : kitB "bool" "int" = some true := by decide +kernel
theorem kit_bool_str : kitB "bool" "str" = some false := by decide +kernel
theorem kit_bool_tuple : kitB "bool" "tuple" = some false := by decide +kernel
theorem kit_bool_list : kitB "bool" "list" = some false := by decide +kernel
theorem kit_bool_dict : kitB "bool" "dict" = some false := by decide +kernel
theorem kit_int_bool : kitB "int" "bool" = some false := by decide +kernel
theorem kit_int_int : kitB "int" "int" = some true := by decide +kernel
theorem kit_int_str : kitB "int" "str" = some false := by decide +kernel
theorem kit_int_tuple : kitB "int" "tuple" = some false := by decide +kernel
theorem kit_int_list : kitB "int" "list" = some false := by decide +kernel
theorem kit_int_dict : kitB "int" "dict" = some false := by decide +kernel
theorem kit_str_bool : kitB "str" "bool" = some false := by decide +kernel
theorem kit_str_int : kitB "str" "int" = some false := by decide +kernel
theorem kit_str_str : kitB "str" "str" = some true := by decide +kernel
theorem kit_str_tuple : kitB "str" "tuple" = some false := by decide +kernel
theorem kit_str_list : kitB "str" "list" = some false := by decide +kernel
theorem kit_str_dict : kitB "str" "dict" = some false := by decide +kernel
theorem kit_tuple_bool : kitB "tuple" "bool" = some false := by decide +kernel
theorem kit_tuple_int : kitB "tuple" "int" = some false := by decide +kernel
theorem kit_tuple_str : kitB "tuple" "str" = some false := by decide +kernel
theorem kit_tuple_tuple : kitB "tuple" "tuple" = some true := by decide +kernel
theorem kit_tuple_list : kitB "tuple" "list" = some false := by decide +kernel
theorem kit_tuple_dict : kitB "tuple" "dict" = some false := by decide +kernel
theorem kit_list_bool : kitB "list" "bool" = some false := by decide +kernel
theorem kit_list_int : kitB "list" "int" = some false := by decide +kernel
theorem kit_list_str : kitB "list" "str" = some false := by decide +kernel
theorem kit_list_tuple : kitB "list" "tuple" = some false := by decide +kernel
theorem kit_list_list : kitB "list" "list" = some true := by decide +kernel
theorem kit_list_dict : kitB "list" "dict" = some false := by decide +kernel
theorem kit_dict_bool : kitB "dict" "bool" = some false := by decide +kernel
theorem kit_dict_int : kitB "dict" "int" = some false := by decide +kernel
theorem kit_dict_str : kitB "dict" "str" = some false := by decide +kernel
theorem kit_dict_tuple : kitB "dict" "tuple" = some false := by decide +kernel
theorem kit_dict_list : kitB "dict" "list" = some false := by decide +kernel
theorem kit_dict_dict : kitB "dict" "dict" = some true := by decide +kernel
section
variable {ρ : Env} {E : XE} {P : D → Env → Prop}
theorem w_isiK {d : D} {n T : String} {b : Bool} (hn : tyN d = some n) (hk : kitB n T = some b) (h : P (.bl b) ρ) : Wp (lft ((tyN d).bind fun n => (kitB n T).map .bl)) ρ P E := w_lft (by rw [hn, Option.bind_some, hk]; rfl) h
theorem w_isiK2 {d : D} {n T U : String} {b c : Bool} (hn : tyN d = some n) (hk : kitB n T = some b) (hk2 : kitB n U = some c) (h : P (.bl (b || c)) ρ) : Wp (lft ((tyN d).bind fun n => (kitAnyB n [T, U]).map .bl)) ρ P E := w_lft (by
  rw [hn, Option.bind_some]
  unfold kitAnyB
  rw [hk]
  cases b with
  | true => rfl
  | false =>
    unfold kitAnyB
    dsimp only
    rw [hk2]
    cases c with
    | true => rfl
    | false => rfl) h
theorem w_nt {A B : Prop} (h : B) : ((!true) = true → A) ∧ ((!true) = false → B) := w_ff h
theorem w_nf {A B : Prop} (h : A) : ((!false) = true → A) ∧ ((!false) = false → B) := w_tt h
/-- truths gone through -/
theorem bls_map {α : Type} (g : α → Bool) : ∀ l : List α, blsOf (l.map fun x => D.bl (g x)) = some (l.map g)
  | [] => rfl
  | a :: l => by
    show (blsOf (l.map fun x => D.bl (g x))).map (g a :: ·) = _
    rw [bls_map g l]; rfl
theorem w_all {α : Type} {g : α → Bool} {o : Bool} {l : List α} {ds : List D} (e : ds = l.map fun x => D.bl (g x)) (h : P (.bl (l.all g)) ρ) : Wp (lft (fAll [.nd (.lst o) ds])) ρ P E := w_lft (by
  subst e
  show (blsOf _).map _ = _
  rw [bls_map]
  show some (D.bl ((l.map g).all id)) = _
  rw [List.all_map]; rfl) h
theorem w_any {α : Type} {g : α → Bool} {o : Bool} {l : List α} {ds : List D} (e : ds = l.map fun x => D.bl (g x)) (h : P (.bl (l.any g)) ρ) : Wp (lft (fAny [.nd (.lst o) ds])) ρ P E := w_lft (by
  subst e
  show (blsOf _).map _ = _
  rw [bls_map]
  show some (D.bl ((l.map g).any id)) = _
  rw [List.any_map]; rfl) h
theorem in_one (c : Nat) (z : Str) : fIn (.str ⟨#[c]⟩) (.str z) = some (.bl (decide (c ∈ z.cps.toList))) := by
  show some (D.bl (!(Builtin.Str.occurrences z ⟨#[c]⟩ 0 z.length 1).isEmpty)) = _
  rw [PySem.StrLaws.found_one]
end
theorem letters_mem (c : Nat) : c ∈ ("abcdefghijklmnopqrstuvwxyz" : Str).cps.toList ↔ 97 ≤ c ∧ c ≤ 122 := by
  rw [show ("abcdefghijklmnopqrstuvwxyz" : Str).cps.toList = List.range' 97 26 by decide +kernel, List.mem_range'_1]
  omega
/-- is it a name? -/
def isNameS (x : Str) : Bool := decide (1 ≤ x.length ∧ x.length ≤ 6) && x.cps.toList.all fun c => decide (97 ≤ c ∧ c ≤ 122)
def isNameB : D → Bool
  | .str x => isNameS x
  | _ => false
theorem map_frz {α : Type} {f : α → D} (h : ∀ a, (f a).frz = f a) (l : List α) : (l.map f).map D.frz = l.map f := by
  rw [List.map_map]
  exact List.map_congr_left fun a _ => h a
/-! a pen's draw -/
def TakeOk (F : List D → R (List D) D) : Prop := ∀ (p : Pen) (many : Int), 0 < many → many < 1073741824 → FOk F [p.d, .int many] (fun d ds' => ∃ (r : Int) (p' : Pen), d = .int r ∧ ds' = [p'.d, .int many] ∧ 0 ≤ r ∧ r < many) NoF
section
variable {ρ : Env} {E : XE} {P : D → Env → Prop}
theorem w_take {F : List D → R (List D) D} (hF : TakeOk F) {i : Nat} {m : M D} {p : Pen} (e : ρ[i]? = some (some p.d)) (h : Wp m ρ (fun d ρ1 => ρ1[i]? = some (some p.d) ∧ ∃ many, d = .int many ∧ (0 < many ∧ many < 1073741824) ∧ ∀ r p', 0 ≤ r → r < many → P (.int r) (ρ1.set i (some (Pen.d p')))) E) :
    Wp (mCall [true, false] F (mSl i (mTm m (pur [])))) ρ P E := by
  refine w_call (w_sl e (w_tm (h.mono fun d ρ1 h => ?_)))
  obtain ⟨e1, many, rfl, ⟨h0, h1⟩, k⟩ := h
  refine w_pur ⟨rfl, ?_⟩
  have hp : pull [.sl i, .tm (.int many)] ρ1 = some ([p.d, .int many], ρ1.set i none) := by
    unfold pull
    rw [e1]; rfl
  refine ⟨_, _, hp, (hF p many h0 h1).imp ?_ fun _ _ h => h.elim⟩
  rintro d ds' ⟨r, p', rfl, rfl, h2, h3⟩
  have hb : pushb [.sl i, .tm (.int many)] [p'.d, .int many] (ρ1.set i none) = ρ1.set i (some p'.d) := by
    show (ρ1.set i none).set i (some p'.d) = _
    rw [List.set_set]
  rw [hb]
  exact k r p' h2 h3
theorem w_tkE {A : Prop} {many : Int} {K : Int → Pen → Prop} (e : A) (hm : 0 < many ∧ many < 1073741824) (h : ∀ r p', 0 ≤ r → r < many → K r p') :
    A ∧ ∃ many', D.int many = .int many' ∧ (0 < many' ∧ many' < 1073741824) ∧ ∀ r p', 0 ≤ r → r < many' → K r p' := ⟨e, many, rfl, hm, h⟩
end
end DL
/-! DLq: equality. -/
namespace DL
open PySem PySem.Spec L2
structure PyD (n : Nat) (d : D) (y : PyData) : Prop where
  py : toPy d = some y
  lay : y.canLay0 = true
  dep : y.depth ≤ n
structure PyDL (n : Nat) (ds : List D) (ys : List PyData) : Prop where
  py : toPyL ds = some ys
  lay : PyData.canLayAll0 ys = true
  dep : PyData.depthAll ys ≤ n
theorem PyD.mono {n m : Nat} {d : D} {y : PyData} (h : PyD n d y) (k : n ≤ m) : PyD m d y := ⟨h.py, h.lay, Nat.le_trans h.dep k⟩
theorem PyD.non {n : Nat} : PyD n .non .none := ⟨rfl, by simp only [PyData.canLay0], by simp [PyData.depth]⟩
theorem PyD.bl {n : Nat} {b : Bool} : PyD n (.bl b) (.bool b) := ⟨rfl, by simp only [PyData.canLay0], by simp [PyData.depth]⟩
theorem PyD.int {n : Nat} {i : Int} : PyD n (.int i) (.int i) := ⟨rfl, by simp only [PyData.canLay0], by simp [PyData.depth]⟩
theorem PyD.str {n : Nat} {x : Str} (h : PySem.PyData.strOk x = true) : PyD n (.str x) (.str x) := ⟨rfl, by simpa [PyData.canLay0] using h, by simp [PyData.depth]⟩
theorem PyD.lst {n : Nat} {o : Bool} {ds : List D} {ys : List PyData} (h : PyDL n ds ys) : PyD (n + 1) (.nd (.lst o) ds) (.list ys) :=
  ⟨by show (toPyL ds).map _ = _; rw [h.py]; rfl, by simpa [PyData.canLay0] using h.lay, by have := h.dep; simp [PyData.depth]; omega⟩
theorem PyD.tup {n : Nat} {ds : List D} {ys : List PyData} (h : PyDL n ds ys) : PyD (n + 1) (.nd .tup ds) (.tuple ys) :=
  ⟨by show (toPyL ds).map _ = _; rw [h.py]; rfl, by simpa [PyData.canLay0] using h.lay, by have := h.dep; simp [PyData.depth]; omega⟩
theorem PyDL.nil {n : Nat} : PyDL n [] [] := ⟨by unfold toPyL; rfl, by simp [PyData.canLayAll0], by simp [PyData.depthAll]⟩
theorem PyDL.cons {n : Nat} {d : D} {y : PyData} {ds : List D} {ys : List PyData} (h : PyD n d y) (t : PyDL n ds ys) : PyDL n (d :: ds) (y :: ys) :=
  ⟨by unfold toPyL; rw [h.py, t.py], by simp [PyData.canLayAll0, h.lay, t.lay], by have := h.dep; have := t.dep; simp [PyData.depthAll]; omega⟩
theorem PyDL.map {α : Type} {n : Nat} {f : α → D} {g : α → PyData} : ∀ {l : List α}, (∀ a ∈ l, PyD n (f a) (g a)) → PyDL n (l.map f) (l.map g)
  | [], _ => .nil
  | a :: l, h => .cons (h a List.mem_cons_self) (PyDL.map fun b hb => h b (List.mem_cons_of_mem _ hb))
theorem PyD.shaped {n : Nat} {d : D} {y : PyData} (h : PyD n d y) (hn : n ≤ 64) : SeqAt.shaped y = true := by
  unfold SeqAt.shaped
  rw [h.lay, decide_eq_true (Nat.le_trans h.dep hn)]; rfl
theorem eqD_py {n m : Nat} {a b : D} {x y : PyData} (ha : PyD n a x) (hb : PyD m b y) (hn : n ≤ 64) (hm : m ≤ 64) : eqD a b = some (PyData.eqv x y) := by
  unfold eqD
  rw [ha.py, hb.py]
  dsimp only
  rw [ha.shaped hn, hb.shaped hm]; rfl
theorem fEq_py {n m : Nat} {a b : D} {x y : PyData} (ha : PyD n a x) (hb : PyD m b y) (hn : n ≤ 64) (hm : m ≤ 64) : fEq a b = some (.bl (PyData.eqv x y)) := by
  unfold fEq; rw [eqD_py ha hb hn hm]; rfl
theorem fNe_py {n m : Nat} {a b : D} {x y : PyData} (ha : PyD n a x) (hb : PyD m b y) (hn : n ≤ 64) (hm : m ≤ 64) : fNe a b = some (.bl (!PyData.eqv x y)) := by
  unfold fNe; rw [eqD_py ha hb hn hm]; rfl
theorem eqv_self {n : Nat} {d : D} {y : PyData} (h : PyD n d y) : PyData.eqv y y = true := PySem.SeqAt.eqv_refl y h.lay
theorem eqv_nil (ys : List PyData) : PyData.eqv (.list ys) (.list []) = ys.isEmpty := by
  cases ys <;> simp [PyData.eqv, PyData.eqvAll]
theorem eqv_int (i j : Int) : PyData.eqv (.int i) (.int j) = decide (i = j) := by simp only [PyData.eqv]; rfl
theorem eqv_str (x y : Str) : PyData.eqv (.str x) (.str y) = decide (x = y) := by simp only [PyData.eqv]; rfl
theorem eqv_bool (x y : Bool) : PyData.eqv (.bool x) (.bool y) = decide (x = y) := by simp only [PyData.eqv]; cases x <;> cases y <;> rfl
theorem eqvAll_map {α : Type} [DecidableEq α] {f : α → PyData} (hf : ∀ a b, PyData.eqv (f a) (f b) = decide (a = b)) : ∀ l m : List α, PyData.eqvAll (l.map f) (m.map f) = decide (l = m)
  | [], [] => by simp [PyData.eqvAll]
  | [], b :: m => by simp [PyData.eqvAll]
  | a :: l, [] => by simp [PyData.eqvAll]
  | a :: l, b :: m => by
    simp only [List.map_cons, PyData.eqvAll, hf, eqvAll_map hf l m, List.cons.injEq]
    by_cases h1 : a = b <;> by_cases h2 : l = m <;> simp [h1, h2]
theorem eqv_list {α : Type} [DecidableEq α] {f : α → PyData} (hf : ∀ a b, PyData.eqv (f a) (f b) = decide (a = b)) (l m : List α) : PyData.eqv (.list (l.map f)) (.list (m.map f)) = decide (l = m) := by
  simp only [PyData.eqv]; exact eqvAll_map hf l m
theorem eqv_tuple {α : Type} [DecidableEq α] {f : α → PyData} (hf : ∀ a b, PyData.eqv (f a) (f b) = decide (a = b)) (l m : List α) : PyData.eqv (.tuple (l.map f)) (.tuple (m.map f)) = decide (l = m) := by
  simp only [PyData.eqv]; exact eqvAll_map hf l m
section
variable {ρ : Env} {E : XE} {P : D → Env → Prop}
theorem w_eqP {n m : Nat} {a b : D} {x y : PyData} (ha : PyD n a x) (hb : PyD m b y) (hn : n ≤ 64) (hm : m ≤ 64) (h : P (.bl (PyData.eqv x y)) ρ) : Wp (lft (fEq a b)) ρ P E := w_lft (fEq_py ha hb hn hm) h
theorem w_neP {n m : Nat} {a b : D} {x y : PyData} (ha : PyD n a x) (hb : PyD m b y) (hn : n ≤ 64) (hm : m ≤ 64) (h : P (.bl (!PyData.eqv x y)) ρ) : Wp (lft (fNe a b)) ρ P E := w_lft (fNe_py ha hb hn hm) h
end
/-! one sign beside another -/
theorem cps_lt (a b : Nat) : decide ((#[a] : Array Nat).toList < (#[b] : Array Nat).toList) = decide (a < b) := by
  rw [decide_eq_decide]
  constructor
  · intro hh
    rcases List.cons_lt_cons_iff.mp hh with h1 | h1
    · exact h1
    · exact absurd h1.2 (List.not_lt_nil _)
  · exact fun h => List.cons_lt_cons_iff.mpr (.inl h)
theorem fLe_one (a b : Nat) : fLe (.str ⟨#[a]⟩) (.str ⟨#[b]⟩) = some (.bl (decide (a ≤ b))) := by
  show some (D.bl (!decide ((#[b] : Array Nat).toList < (#[a] : Array Nat).toList))) = _
  rw [cps_lt]
  by_cases h : a ≤ b
  · rw [decide_eq_true h, decide_eq_false (by omega)]; rfl
  · rw [decide_eq_false h, decide_eq_true (by omega)]; rfl
theorem one_a : ("a" : Str) = ⟨#[97]⟩ := by decide +kernel
theorem one_z : ("z" : Str) = ⟨#[122]⟩ := by decide +kernel
/-! in, of lists and tuples -/
theorem inSeq_py {n m : Nat} {x : D} {a : PyData} {ds : List D} {ys : List PyData} {t : Bool} (hx : PyD n x a) (hd : PyDL m ds ys) (hn : n ≤ 64) (hm : m ≤ 63) : inSeq x ds t = some (ys.any fun z => PyData.eqv z a) := by
  unfold inSeq
  rw [hx.py, hd.py]
  dsimp only
  have h2 : SeqAt.shaped (if t = true then PyData.tuple ys else PyData.list ys) = true := by
    cases t with
    | true => exact (PyD.tup hd).shaped (by omega)
    | false => exact (PyD.lst (o := true) hd).shaped (by omega)
  rw [hx.shaped hn, h2]; rfl
theorem fIn_lst {n m : Nat} {x : D} {a : PyData} {o : Bool} {ds : List D} {ys : List PyData} (hx : PyD n x a) (hd : PyDL m ds ys) (hn : n ≤ 64) (hm : m ≤ 63) : fIn x (.nd (.lst o) ds) = some (.bl (ys.any fun z => PyData.eqv z a)) := by
  show (inSeq x ds false).map _ = _
  rw [inSeq_py hx hd hn hm]; rfl
theorem fIn_tup {n m : Nat} {x : D} {a : PyData} {ds : List D} {ys : List PyData} (hx : PyD n x a) (hd : PyDL m ds ys) (hn : n ≤ 64) (hm : m ≤ 63) : fIn x (.nd .tup ds) = some (.bl (ys.any fun z => PyData.eqv z a)) := by
  show (inSeq x ds true).map _ = _
  rw [inSeq_py hx hd hn hm]; rfl
theorem fNotIn_lst {n m : Nat} {x : D} {a : PyData} {o : Bool} {ds : List D} {ys : List PyData} (hx : PyD n x a) (hd : PyDL m ds ys) (hn : n ≤ 64) (hm : m ≤ 63) : fNotIn x (.nd (.lst o) ds) = some (.bl (!ys.any fun z => PyData.eqv z a)) := by
  show (inSeq x ds false).map _ = _
  rw [inSeq_py hx hd hn hm]; rfl
theorem fNotIn_tup {n m : Nat} {x : D} {a : PyData} {ds : List D} {ys : List PyData} (hx : PyD n x a) (hd : PyDL m ds ys) (hn : n ≤ 64) (hm : m ≤ 63) : fNotIn x (.nd .tup ds) = some (.bl (!ys.any fun z => PyData.eqv z a)) := by
  show (inSeq x ds true).map _ = _
  rw [inSeq_py hx hd hn hm]; rfl
theorem any_map {α : Type} [DecidableEq α] {f : α → PyData} (hf : ∀ a b, PyData.eqv (f a) (f b) = decide (a = b)) (l : List α) (a : α) : ((l.map f).any fun z => PyData.eqv z (f a)) = decide (a ∈ l) := by
  rw [List.any_map, Bool.eq_iff_iff, List.any_eq_true, decide_eq_true_eq]
  constructor
  · rintro ⟨b, hb, h⟩
    have : b = a := by simpa [hf] using h
    exact this ▸ hb
  · exact fun h => ⟨a, h, by simp [hf]⟩
end DL
/-! DLy: data of a Lean type. -/
namespace DL
open PySem PySem.Spec L2
open PySem.W (AllAlike Sortable dataLe dataLt AlikeAll minD maxD alike alikeAll Datum DatumOrd Tup T3 T4 minOf maxOf)
/-- a name: one to six small letters -/
def Nm : Type := { x : Str // isNameS x = true }
instance : DecidableEq Nm := fun a b => decidable_of_iff (a.1 = b.1) ⟨Subtype.ext, fun h => h ▸ rfl⟩
theorem Nm.sok (a : Nm) : SOk 6 a.1 := by
  have h := a.2
  unfold isNameS at h
  obtain ⟨h1, h2⟩ := Bool.and_eq_true_iff.mp h
  have h1 := of_decide_eq_true h1
  refine ⟨h1.2, fun c hc => ?_⟩
  have := List.all_eq_true.mp h2 c hc
  have := of_decide_eq_true this
  omega
theorem Nm.pos (a : Nm) : 1 ≤ a.1.length := by
  have h := a.2
  unfold isNameS at h
  exact (of_decide_eq_true (Bool.and_eq_true_iff.mp h).1).1
theorem Nm.let (a : Nm) : ∀ c ∈ a.1.cps.toList, 97 ≤ c ∧ c ≤ 122 := fun c hc => by
  have h := a.2
  unfold isNameS at h
  exact of_decide_eq_true (List.all_eq_true.mp (Bool.and_eq_true_iff.mp h).2 c hc)
instance : DatumOrd Nm where
  toD a := .str a.1
  plain _ := rfl
  eqv a b := by
    rw [eqv_str, decide_eq_decide]
    exact ⟨Subtype.ext, fun h => h ▸ rfl⟩
  depth := 0
  depth_le _ := Nat.le_refl _
  lt a b := DatumOrd.lt a.1 b.1
  alike a b := DatumOrd.alike a.1 b.1
  notNone a := fun e => by cases e
  lt_eq a b := DatumOrd.lt_eq a.1 b.1
class Dt (α : Type) [DecidableEq α] extends DatumOrd α where
  d : α → D
  py : ∀ a, toPy (d a) = some (toD a)
  lay : ∀ a, (toD a).canLay0 = true
  fz : ∀ a, (d a).frz = d a
instance : Dt Int where
  d := .int
  py _ := rfl
  lay _ := by show (PyData.int _).canLay0 = true; simp only [PyData.canLay0]
  fz _ := rfl
instance : Dt Bool where
  d := .bl
  py _ := rfl
  lay _ := by show (PyData.bool _).canLay0 = true; simp only [PyData.canLay0]
  fz _ := rfl
instance : Dt Nm where
  d a := .str a.1
  py _ := rfl
  lay a := by show (PyData.str a.1).canLay0 = true; simpa [PyData.canLay0] using a.sok.ok
  fz _ := rfl
section
variable {α β γ δ : Type} [DecidableEq α] [Dt α] [DecidableEq β] [Dt β] [DecidableEq γ] [Dt γ] [DecidableEq δ] [Dt δ]
theorem Dt.pyd (a : α) : PyD (Datum.depth α) (Dt.d a) (Datum.toD a) := ⟨Dt.py a, Dt.lay a, Datum.depth_le a⟩
theorem Dt.pydl (l : List α) : PyDL (Datum.depth α) (l.map Dt.d) (l.map Datum.toD) := .map fun a _ => Dt.pyd a
theorem Dt.mfz (l : List α) : (l.map Dt.d).map D.frz = l.map (Dt.d : α → D) := map_frz Dt.fz l
instance : Dt (α × β) where
  d p := .nd .tup [Dt.d p.1, Dt.d p.2]
  py p := by
    show (toPyL [Dt.d p.1, Dt.d p.2]).map PyData.tuple = _
    unfold toPyL toPyL toPyL
    rw [Dt.py, Dt.py]; rfl
  lay p := by show (PyData.tuple [Datum.toD p.1, Datum.toD p.2]).canLay0 = true; simp [PyData.canLay0, PyData.canLayAll0, Dt.lay]
  fz p := by rw [frz_nd]; simp [Con.frz, Dt.fz]
instance : Dt (T3 α β γ) where
  d p := .nd .tup [Dt.d p.a, Dt.d p.b, Dt.d p.c]
  py p := by
    show (toPyL [Dt.d p.a, Dt.d p.b, Dt.d p.c]).map PyData.tuple = _
    unfold toPyL toPyL toPyL toPyL
    rw [Dt.py, Dt.py, Dt.py]; rfl
  lay p := by show (PyData.tuple [Datum.toD p.a, Datum.toD p.b, Datum.toD p.c]).canLay0 = true; simp [PyData.canLay0, PyData.canLayAll0, Dt.lay]
  fz p := by rw [frz_nd]; simp [Con.frz, Dt.fz]
instance : Dt (T4 α β γ δ) where
  d p := .nd .tup [Dt.d p.a, Dt.d p.b, Dt.d p.c, Dt.d p.d]
  py p := by
    show (toPyL [Dt.d p.a, Dt.d p.b, Dt.d p.c, Dt.d p.d]).map PyData.tuple = _
    unfold toPyL toPyL toPyL toPyL toPyL
    rw [Dt.py, Dt.py, Dt.py, Dt.py]; rfl
  lay p := by show (PyData.tuple [Datum.toD p.a, Datum.toD p.b, Datum.toD p.c, Datum.toD p.d]).canLay0 = true; simp [PyData.canLay0, PyData.canLayAll0, Dt.lay]
  fz p := by rw [frz_nd]; simp [Con.frz, Dt.fz]
instance : Dt (List α) where
  d l := .nd (.lst false) (l.map Dt.d)
  py l := by
    show (toPyL (l.map Dt.d)).map PyData.list = _
    rw [(Dt.pydl l).py]; rfl
  lay l := by show (PyData.list (l.map Datum.toD)).canLay0 = true; simpa [PyData.canLay0] using (Dt.pydl l).lay
  fz l := by rw [frz_nd, Dt.mfz]; rfl
instance : Dt (Tup α) where
  d l := .nd .tup (l.items.map Dt.d)
  py l := by
    show (toPyL (l.items.map Dt.d)).map PyData.tuple = _
    rw [(Dt.pydl l.items).py]; rfl
  lay l := by show (PyData.tuple (l.items.map Datum.toD)).canLay0 = true; simpa [PyData.canLay0] using (Dt.pydl l.items).lay
  fz l := by rw [frz_nd, Dt.mfz]; rfl
end
section
variable {α : Type} [DecidableEq α] [Dt α]
theorem frz_lst (o : Bool) (l : List α) : (D.nd (.lst o) (l.map Dt.d)).frz = .nd (.lst false) (l.map Dt.d) := by rw [frz_nd, Dt.mfz]; rfl
theorem frz_lstF (l : List α) : (D.nd (.lst false) (l.map Dt.d)).frz = .nd (.lst false) (l.map Dt.d) := frz_lst false l
theorem frz_tupD (l : List α) : (D.nd .tup (l.map Dt.d)).frz = .nd .tup (l.map Dt.d) := by rw [frz_nd, Dt.mfz]; rfl
end
/-- what can be sorted -/
class Sb (α : Type) [DecidableEq α] [Dt α] : Prop where
  sb : (∀ a : α, ∃ x r, Datum.toD a = .tuple (x :: r)) ∨ ∀ a : α, Datum.toD a ≠ .none ∧ ∀ xs, Datum.toD a ≠ .tuple xs
instance : Sb Int := ⟨.inr fun a => ⟨(fun e => by cases e), (fun xs e => by cases e)⟩⟩
instance : Sb Nm := ⟨.inr fun a => ⟨(fun e => by cases e), (fun xs e => by cases e)⟩⟩
section
variable {α β γ δ : Type} [DecidableEq α] [Dt α] [DecidableEq β] [Dt β] [DecidableEq γ] [Dt γ] [DecidableEq δ] [Dt δ]
instance : Sb (α × β) := ⟨.inl fun a => ⟨_, _, rfl⟩⟩
instance : Sb (T3 α β γ) := ⟨.inl fun a => ⟨_, _, rfl⟩⟩
instance : Sb (T4 α β γ δ) := ⟨.inl fun a => ⟨_, _, rfl⟩⟩
instance : Sb (List α) := ⟨.inr fun a => ⟨(fun e => by cases e), (fun xs e => by cases e)⟩⟩
theorem sortable_all [Sb α] (l : List α) : Sortable (l.map Datum.toD) := by
  rcases (Sb.sb : _ ∨ ∀ a : α, _) with h | h
  · exact Sortable.tuples h
  · exact Sortable.others h
def srt (l : List α) : List α := l.mergeSort fun a b => !DatumOrd.lt b a
end
section
variable {ρ : Env} {E : XE} {P : D → Env → Prop} {α : Type} [DecidableEq α] [Dt α]
theorem w_eqT {a b : α} (h : P (.bl (decide (a = b))) ρ) (hn : Datum.depth α ≤ 60 := by decide) : Wp (lft (fEq (Dt.d a) (Dt.d b))) ρ P E :=
  w_eqP (Dt.pyd a) (Dt.pyd b) (by omega) (by omega) (by rw [Datum.eqv]; exact h)
theorem w_neT {a b : α} (h : P (.bl (!decide (a = b))) ρ) (hn : Datum.depth α ≤ 60 := by decide) : Wp (lft (fNe (Dt.d a) (Dt.d b))) ρ P E :=
  w_neP (Dt.pyd a) (Dt.pyd b) (by omega) (by omega) (by rw [Datum.eqv]; exact h)
theorem w_eqL {o o' : Bool} {l m : List α} (h : P (.bl (decide (l = m))) ρ) (hn : Datum.depth α ≤ 60 := by decide) : Wp (lft (fEq (.nd (.lst o) (l.map Dt.d)) (.nd (.lst o') (m.map Dt.d)))) ρ P E :=
  w_eqP (.lst (Dt.pydl l)) (.lst (Dt.pydl m)) (by omega) (by omega) (by rw [eqv_list Datum.eqv]; exact h)
theorem w_neL {o o' : Bool} {l m : List α} (h : P (.bl (!decide (l = m))) ρ) (hn : Datum.depth α ≤ 60 := by decide) : Wp (lft (fNe (.nd (.lst o) (l.map Dt.d)) (.nd (.lst o') (m.map Dt.d)))) ρ P E :=
  w_neP (.lst (Dt.pydl l)) (.lst (Dt.pydl m)) (by omega) (by omega) (by rw [eqv_list Datum.eqv]; exact h)
theorem w_eqU {l m : List α} (h : P (.bl (decide (l = m))) ρ) (hn : Datum.depth α ≤ 60 := by decide) : Wp (lft (fEq (.nd .tup (l.map Dt.d)) (.nd .tup (m.map Dt.d)))) ρ P E :=
  w_eqP (.tup (Dt.pydl l)) (.tup (Dt.pydl m)) (by omega) (by omega) (by rw [eqv_tuple Datum.eqv]; exact h)
theorem w_neU {l m : List α} (h : P (.bl (!decide (l = m))) ρ) (hn : Datum.depth α ≤ 60 := by decide) : Wp (lft (fNe (.nd .tup (l.map Dt.d)) (.nd .tup (m.map Dt.d)))) ρ P E :=
  w_neP (.tup (Dt.pydl l)) (.tup (Dt.pydl m)) (by omega) (by omega) (by rw [eqv_tuple Datum.eqv]; exact h)
theorem isE {l : List α} : decide (l = []) = l.isEmpty := by cases l <;> simp
theorem w_eqNil {o o' : Bool} {l : List α} (h : P (.bl (decide (l = []))) ρ) (hn : Datum.depth α ≤ 60 := by decide) : Wp (lft (fEq (.nd (.lst o) (l.map Dt.d)) (.nd (.lst o') []))) ρ P E := w_eqL (m := []) h hn
theorem w_neNil {o o' : Bool} {l : List α} (h : P (.bl (!decide (l = []))) ρ) (hn : Datum.depth α ≤ 60 := by decide) : Wp (lft (fNe (.nd (.lst o) (l.map Dt.d)) (.nd (.lst o') []))) ρ P E := w_neL (m := []) h hn
theorem w_inL {a : α} {o : Bool} {l : List α} (h : P (.bl (decide (a ∈ l))) ρ) (hn : Datum.depth α ≤ 60 := by decide) : Wp (lft (fIn (Dt.d a) (.nd (.lst o) (l.map Dt.d)))) ρ P E :=
  w_lft (fIn_lst (Dt.pyd a) (Dt.pydl l) (by omega) (by omega)) (by rw [any_map Datum.eqv]; exact h)
theorem w_inU {a : α} {l : List α} (h : P (.bl (decide (a ∈ l))) ρ) (hn : Datum.depth α ≤ 60 := by decide) : Wp (lft (fIn (Dt.d a) (.nd .tup (l.map Dt.d)))) ρ P E :=
  w_lft (fIn_tup (Dt.pyd a) (Dt.pydl l) (by omega) (by omega)) (by rw [any_map Datum.eqv]; exact h)
theorem w_ninL {a : α} {o : Bool} {l : List α} (h : P (.bl (!decide (a ∈ l))) ρ) (hn : Datum.depth α ≤ 60 := by decide) : Wp (lft (fNotIn (Dt.d a) (.nd (.lst o) (l.map Dt.d)))) ρ P E :=
  w_lft (fNotIn_lst (Dt.pyd a) (Dt.pydl l) (by omega) (by omega)) (by rw [any_map Datum.eqv]; exact h)
theorem w_ninU {a : α} {l : List α} (h : P (.bl (!decide (a ∈ l))) ρ) (hn : Datum.depth α ≤ 60 := by decide) : Wp (lft (fNotIn (Dt.d a) (.nd .tup (l.map Dt.d)))) ρ P E :=
  w_lft (fNotIn_tup (Dt.pyd a) (Dt.pydl l) (by omega) (by omega)) (by rw [any_map Datum.eqv]; exact h)
theorem pyOf_d (a : α) : pyOf (Dt.d a) = Datum.toD a := by unfold pyOf; rw [Dt.py]; rfl
theorem pyOf_map (l : List α) : (l.map Dt.d).map pyOf = l.map Datum.toD := by
  rw [List.map_map]
  exact List.map_congr_left fun a _ => pyOf_d a
theorem fSorted_eq {o : Bool} {l : List α} (hs : Sortable (l.map Datum.toD)) (hn : Datum.depth α ≤ 60) : fSorted [.nd (.lst o) (l.map Dt.d)] = some (.nd (.lst true) ((srt l).map Dt.d)) := by
  unfold fSorted
  have h1 : (toPyL (l.map Dt.d)).isSome = true ∧ AllAlike ((l.map Dt.d).map pyOf) ∧ Sortable ((l.map Dt.d).map pyOf) ∧ (∀ d ∈ l.map Dt.d, (pyOf d).depth ≤ 60) := by
    rw [pyOf_map, (Dt.pydl l).py]
    refine ⟨rfl, AllAlike.of (enc := Datum.toD) fun a b => DatumOrd.alike a b, hs, fun d hd => ?_⟩
    obtain ⟨a, _, rfl⟩ := List.mem_map.mp hd
    rw [pyOf_d]
    exact Nat.le_trans (Datum.depth_le a) hn
  dsimp only
  rw [if_pos h1, Dt.mfz]
  congr 2
  unfold srt
  symm
  refine List.map_mergeSort fun a _ b _ => ?_
  show (!DatumOrd.lt b a) = !dataLt (pyOf (Dt.d b)) (pyOf (Dt.d a))
  rw [pyOf_d, pyOf_d, DatumOrd.lt_eq]
theorem w_sort [Sb α] {o : Bool} {l : List α} (h : P (.nd (.lst true) ((srt l).map Dt.d)) ρ) (hn : Datum.depth α ≤ 60 := by decide) : Wp (lft (fSorted [.nd (.lst o) (l.map Dt.d)])) ρ P E := w_lft (fSorted_eq (sortable_all l) hn) h
theorem w_list {o : Bool} {l : List α} (h : P (.nd (.lst true) (l.map Dt.d)) ρ) : Wp (lft (fList [.nd (.lst o) (l.map Dt.d)])) ρ P E := w_lft (show fList [.nd (.lst o) (l.map Dt.d)] = some (.nd (.lst true) ((l.map Dt.d).map D.frz)) from rfl) (by rw [Dt.mfz]; exact h)
theorem w_listU {l : List α} (h : P (.nd (.lst true) (l.map Dt.d)) ρ) : Wp (lft (fList [.nd .tup (l.map Dt.d)])) ρ P E := w_lft (show fList [.nd .tup (l.map Dt.d)] = some (.nd (.lst true) ((l.map Dt.d).map D.frz)) from rfl) (by rw [Dt.mfz]; exact h)
theorem w_tuple {o : Bool} {l : List α} (h : P (.nd .tup (l.map Dt.d)) ρ) : Wp (lft (fTuple [.nd (.lst o) (l.map Dt.d)])) ρ P E := w_lft (show fTuple [.nd (.lst o) (l.map Dt.d)] = some (.nd .tup ((l.map Dt.d).map D.frz)) from rfl) (by rw [Dt.mfz]; exact h)
theorem w_tupleU {l : List α} (h : P (.nd .tup (l.map Dt.d)) ρ) : Wp (lft (fTuple [.nd .tup (l.map Dt.d)])) ρ P E := w_lft (show fTuple [.nd .tup (l.map Dt.d)] = some (.nd .tup ((l.map Dt.d).map D.frz)) from rfl) (by rw [Dt.mfz]; exact h)
theorem fMin1_eq {cn : Con} {a : α} {l : List α} (hc : cn = .tup ∨ ∃ o, cn = .lst o) (lo : Bool) (hn : Datum.depth α ≤ 60) : fMin1 lo [.nd cn ((a :: l).map Dt.d)] = some (Dt.d (if lo then minOf a l else maxOf a l)) := by
  unfold fMin1
  dsimp only
  rw [if_pos hc]
  have e : toPyL ((a :: l).map Dt.d) = some (Datum.toD a :: l.map Datum.toD) := (Dt.pydl (a :: l)).py
  rw [e]
  dsimp only
  rw [if_pos ⟨PySem.W.alikeAll_datum (a :: l), Nat.le_trans (PySem.W.depthAll_map (a :: l)) hn⟩, PySem.W.minD_map, PySem.W.maxD_map]
  have : ∀ b : α, ofPy (Datum.toD b) = Dt.d b := fun b => by rw [ofPy_toPy _ _ (Dt.py b), Dt.fz]
  cases lo with
  | true => exact congrArg some (this (minOf a l))
  | false => exact congrArg some (this (maxOf a l))
theorem w_min1L {a : α} {l m : List α} {o lo : Bool} (e : m = a :: l) (h : P (Dt.d (if lo then minOf a l else maxOf a l)) ρ) (hn : Datum.depth α ≤ 60 := by decide) : Wp (lft (fMin1 lo [.nd (.lst o) (m.map Dt.d)])) ρ P E := by
  subst e
  exact w_lft (fMin1_eq (.inr ⟨o, rfl⟩) lo hn) h
theorem w_min1U {a : α} {l m : List α} {lo : Bool} (e : m = a :: l) (h : P (Dt.d (if lo then minOf a l else maxOf a l)) ρ) (hn : Datum.depth α ≤ 60 := by decide) : Wp (lft (fMin1 lo [.nd .tup (m.map Dt.d)])) ρ P E := by
  subst e
  exact w_lft (fMin1_eq (.inl rfl) lo hn) h
theorem w_varL {o : Bool} {ds : List D} {i : Nat} (e : ρ[i]? = some (some (.nd (.lst o) ds))) (hf : ds.map D.frz = ds) (h : P (.nd (.lst false) ds) (ρ.set i (some (.nd (.lst false) ds)))) : Wp (mVar i) ρ P E :=
  w_varF e (by rw [frz_nd, hf]; exact h)
end
end DL
/-! DLz: names, pens, cuts. -/
namespace DL
open PySem PySem.Spec L2
open PySem.W (Datum DatumOrd Tup T3 T4 minOf maxOf)
section
variable {ρ : Env} {E : XE}
theorem w_seqC {a b : M Fl} {P : Fl → Env → Prop} (Q : Env → Prop) (h : Wp a ρ (fun f ρ1 => f = .nx ∧ Q ρ1) E) (k : ∀ ρ1, Q ρ1 → Wp b ρ1 P E) : Wp (mSeq a b) ρ P E :=
  w_seq (h.mono fun f ρ1 ⟨e, q⟩ => by subst e; exact k ρ1 q)
theorem w_seqA {tg : D → M Unit} {m : M D} {b : M Fl} {P : Fl → Env → Prop} (h : Wp (mAsg tg m) ρ (Kq b P E) E) : Wp (mSeq (mAsg tg m) b) ρ P E := w_seq h
theorem w_seqE {m : M D} {b : M Fl} {P : Fl → Env → Prop} (h : Wp (mExp m) ρ (Kq b P E) E) : Wp (mSeq (mExp m) b) ρ P E := w_seq h
theorem w_seqR {m : M D} {b : M Fl} {P : Fl → Env → Prop} (h : Wp (mRet m) ρ (Kq b P E) E) : Wp (mSeq (mRet m) b) ρ P E := w_seq h
theorem w_seqF {mi : M (List D)} {tg : D → M Unit} {body : M Fl} {b : M Fl} {P : Fl → Env → Prop} (h : Wp (mFor mi tg body) ρ (Kq b P E) E) : Wp (mSeq (mFor mi tg body) b) ρ P E := w_seq h
theorem w_seqW {t : M Bool} {body : M Fl} {N : Nat} {b : M Fl} {P : Fl → Env → Prop} (h : Wp (mWhile t body N) ρ (Kq b P E) E) : Wp (mSeq (mWhile t body N) b) ρ P E := w_seq h
theorem putP_nil {i : Nat} {d e : D} (h : ρ[i]? = some (some d)) : putP ρ i [] e = ρ.set i (some e) := by
  obtain ⟨d1, h1, h2, h3⟩ := atP_some (atP_nil h)
  rw [h3, put_nil]
theorem w_app {i : Nat} {ma : M (List D)} {ds0 : List D} {P : D → Env → Prop} (e0 : ρ[i]? = some (some (.nd (.lst true) ds0)))
    (h : Wp ma ρ (fun as ρ1 => ∃ ds d, ρ1[i]? = some (some (.nd (.lst true) ds)) ∧ as = [d] ∧ ds.length < 1000 ∧ P .non (ρ1.set i (some (.nd (.lst true) (ds ++ [d]))))) E) : Wp (mMt0 i "list" foAppend ma) ρ P E := by
  unfold Wp mMt0
  rw [atP_nil e0]
  dsimp only
  rw [if_pos ⟨rfl, rfl⟩]
  refine w_bnd (h.mono ?_)
  rintro as ρ1 ⟨ds, d, e1, rfl, hl, hp⟩
  unfold Wp
  dsimp only
  rw [atP_nil e1]
  dsimp only
  have hc : (Con.lst true).isO = true := rfl
  have hfo : foAppend (.lst true) ds [d] = some (.non, .lst true, ds ++ [d]) := if_pos (by rw [sizeLine_eq]; omega)
  rw [if_pos hc, hfo]
  dsimp only
  rw [putP_nil e1]; exact hp
theorem app_map {α : Type} [DecidableEq α] [Dt α] (l : List α) (a : α) : l.map Dt.d ++ [Dt.d a] = (l ++ [a]).map Dt.d := by rw [List.map_append]; rfl
/-! a pen handed on -/
def PenOk (F : List D → R (List D) D) (ds : List D) (Q : D → Prop) : Prop := ∀ p : Pen, FOk F (p.d :: ds) (fun d ds' => Q d ∧ ∃ p' : Pen, ds' = p'.d :: ds) NoF
theorem w_penC0 {F : List D → R (List D) D} {Q : D → Prop} (hF : PenOk F [] Q) {i : Nat} {p : Pen} {P : D → Env → Prop} (e : ρ[i]? = some (some p.d)) (h : ∀ d p', Q d → P d (ρ.set i (some (Pen.d p')))) : Wp (mCall [true] F (mSl i (pur []))) ρ P E := by
  refine w_call (w_sl e (w_pur ⟨rfl, ?_⟩))
  have hp : pull [.sl i] ρ = some ([p.d], ρ.set i none) := by
    unfold pull
    rw [e]; rfl
  refine ⟨_, _, hp, (hF p).imp ?_ fun _ _ h => False.elim h⟩
  rintro d ds' ⟨q, p', rfl⟩
  have hb : pushb [.sl i] [p'.d] (ρ.set i none) = ρ.set i (some p'.d) := by
    show (ρ.set i none).set i (some p'.d) = _
    rw [List.set_set]
  rw [hb]
  exact h d p' q
theorem w_penC1 {F : List D → R (List D) D} {i : Nat} {m : M D} {p : Pen} {P : D → Env → Prop} (e : ρ[i]? = some (some p.d)) (h : Wp m ρ (fun d ρ1 => ρ1[i]? = some (some p.d) ∧ ∃ c Q, d.frz = c ∧ PenOk F [c] Q ∧ ∀ a p', Q a → P a (ρ1.set i (some (Pen.d p')))) E) :
    Wp (mCall [true, false] F (mSl i (mTm m (pur [])))) ρ P E := by
  refine w_call (w_sl e (w_tm (h.mono fun d ρ1 h => ?_)))
  obtain ⟨e1, c, Q, rfl, hF, k⟩ := h
  refine w_pur ⟨rfl, ?_⟩
  have hp : pull [.sl i, .tm d] ρ1 = some ([p.d, d.frz], ρ1.set i none) := by
    unfold pull
    rw [e1]; rfl
  refine ⟨_, _, hp, (hF p).imp ?_ fun _ _ h => False.elim h⟩
  rintro a ds' ⟨q, p', rfl⟩
  have hb : pushb [.sl i, .tm d] [p'.d, d.frz] (ρ1.set i none) = ρ1.set i (some p'.d) := by
    show (ρ1.set i none).set i (some p'.d) = _
    rw [List.set_set]
  rw [hb]
  exact k a p' q
theorem w_penC2 {F : List D → R (List D) D} {i : Nat} {m m2 : M D} {p : Pen} {P : D → Env → Prop} (e : ρ[i]? = some (some p.d)) (h : Wp m ρ (fun d ρ0 => Wp m2 ρ0 (fun d2 ρ1 => ρ1[i]? = some (some p.d) ∧ ∃ c c2 Q, d.frz = c ∧ d2.frz = c2 ∧ PenOk F [c, c2] Q ∧ ∀ a p', Q a → P a (ρ1.set i (some (Pen.d p')))) E) E) :
    Wp (mCall [true, false, false] F (mSl i (mTm m (mTm m2 (pur []))))) ρ P E := by
  refine w_call (w_sl e (w_tm (h.mono fun d ρ0 h => w_tm (h.mono fun d2 ρ1 h => ?_))))
  obtain ⟨e1, c, c2, Q, rfl, rfl, hF, k⟩ := h
  refine w_pur ⟨rfl, ?_⟩
  have hp : pull [.sl i, .tm d, .tm d2] ρ1 = some ([p.d, d.frz, d2.frz], ρ1.set i none) := by
    unfold pull
    rw [e1]; rfl
  refine ⟨_, _, hp, (hF p).imp ?_ fun _ _ h => False.elim h⟩
  rintro a ds' ⟨q, p', rfl⟩
  have hb : pushb [.sl i, .tm d, .tm d2] [p'.d, d.frz, d2.frz] (ρ1.set i none) = ρ1.set i (some p'.d) := by
    show (ρ1.set i none).set i (some p'.d) = _
    rw [List.set_set]
  rw [hb]
  exact k a p' q
/-! a pure def called -/
def FnOk1 (F : List D → R (List D) D) (ds : List D) (Q : D → Prop) : Prop := FOk F ds (fun d ds' => Q d ∧ ds' = ds) NoF
theorem w_fn1 {F : List D → R (List D) D} {m : M D} {P : D → Env → Prop} (h : Wp m ρ (fun d ρ1 => ∃ c Q, d.frz = c ∧ FnOk1 F [c] Q ∧ ∀ a, Q a → P a ρ1) E) : Wp (mCall [false] F (mTm m (pur []))) ρ P E := by
  refine w_call (w_tm (h.mono ?_))
  rintro d ρ1 ⟨c, Q, rfl, hF, k⟩
  refine w_pur ⟨rfl, [d.frz], ρ1, rfl, FOk.imp hF ?_ fun _ _ h => False.elim h⟩
  rintro a ds' ⟨q, rfl⟩
  exact k a q
theorem w_fn2 {F : List D → R (List D) D} {m m2 : M D} {P : D → Env → Prop} (h : Wp m ρ (fun d ρ0 => Wp m2 ρ0 (fun d2 ρ1 => ∃ c c2 Q, d.frz = c ∧ d2.frz = c2 ∧ FnOk1 F [c, c2] Q ∧ ∀ a, Q a → P a ρ1) E) E) : Wp (mCall [false, false] F (mTm m (mTm m2 (pur [])))) ρ P E := by
  refine w_call (w_tm (h.mono fun d ρ0 h => w_tm (h.mono ?_)))
  rintro d2 ρ1 ⟨c, c2, Q, rfl, rfl, hF, k⟩
  refine w_pur ⟨rfl, [d.frz, d2.frz], ρ1, rfl, FOk.imp hF ?_ fun _ _ h => False.elim h⟩
  rintro a ds' ⟨q, rfl⟩
  exact k a q
theorem w_fn3 {F : List D → R (List D) D} {m m2 m3 : M D} {P : D → Env → Prop} (h : Wp m ρ (fun d ρ0 => Wp m2 ρ0 (fun d2 ρ00 => Wp m3 ρ00 (fun d3 ρ1 => ∃ c c2 c3 Q, d.frz = c ∧ d2.frz = c2 ∧ d3.frz = c3 ∧ FnOk1 F [c, c2, c3] Q ∧ ∀ a, Q a → P a ρ1) E) E) E) : Wp (mCall [false, false, false] F (mTm m (mTm m2 (mTm m3 (pur []))))) ρ P E := by
  refine w_call (w_tm (h.mono fun d ρ0 h => w_tm (h.mono fun d2 ρ1 h => w_tm (h.mono ?_))))
  rintro d3 ρ1 ⟨c, c2, c3, Q, rfl, rfl, rfl, hF, k⟩
  refine w_pur ⟨rfl, [d.frz, d2.frz, d3.frz], ρ1, rfl, FOk.imp hF ?_ fun _ _ h => False.elim h⟩
  rintro a ds' ⟨q, rfl⟩
  exact k a q
end
/-! letters and names -/
def LS (n : Nat) (x : Str) : Prop := x.length ≤ n ∧ ∀ c ∈ x.cps.toList, 97 ≤ c ∧ c ≤ 122
theorem LS.mono {n m : Nat} {x : Str} (h : LS n x) (k : n ≤ m) : LS m x := ⟨Nat.le_trans h.1 k, h.2⟩
theorem LS.app {n m : Nat} {x y : Str} (h : LS n x) (k : LS m y) : LS (n + m) (x ++ y) := ⟨by rw [len_app]; have := h.1; have := k.1; omega, fun c hc => by
  rw [cps_app] at hc
  rcases List.mem_append.mp hc with hc | hc
  · exact h.2 c hc
  · exact k.2 c hc⟩
theorem LS.one {c : Nat} (h : c < 26) : LS 1 ⟨#[97 + c]⟩ := ⟨Nat.le_refl _, fun d hd => by simp at hd; omega⟩
theorem LS.nil : LS 0 "" := ⟨by decide +kernel, by decide +kernel⟩
theorem Nm.ls (a : Nm) : LS 6 a.1 := ⟨a.sok.1, a.let⟩
def LS.nm {x : Str} (h : LS 6 x) (h1 : 1 ≤ x.length) : Nm := ⟨x, by
  unfold isNameS
  rw [decide_eq_true ⟨h1, h.1⟩, List.all_eq_true.mpr fun c hc => decide_eq_true (h.2 c hc)]; rfl⟩
theorem LS.cut {n : Nat} {x : Str} (h : LS n x) (a b : Option Int) : LS n (cutS x a b) := by
  have hs : ∀ c ∈ (cutS x a b).cps.toList, c ∈ x.cps.toList := fun c hc => by
    unfold cutS at hc
    simp only [List.toList_toArray] at hc
    exact List.mem_of_mem_drop (List.mem_of_mem_take hc)
  refine ⟨?_, fun c hc => h.2 c (hs c hc)⟩
  rw [len_cps]
  unfold cutS
  simp only [List.length_take, List.length_drop]
  have := h.1
  rw [len_cps] at this
  omega
theorem cut_len5 {x : Str} (h : LS 6 x) : LS 5 (cutS x none (some 5)) := by
  refine ⟨?_, (h.cut _ _).2⟩
  rw [len_cps]
  unfold cutS
  simp only [List.length_take, List.length_drop]
  have := h.1
  rw [len_cps] at this
  rw [len_cps]
  have h0 : HT.sIx x.cps.toList.length 0 none = 0 := rfl
  have h5 : HT.sIx x.cps.toList.length x.cps.toList.length (some 5) ≤ 5 := by
    unfold HT.sIx; dsimp only; simp; omega
  rw [h0]; omega
def cand (s : Nat) : Nm := LS.nm (x := ⟨#[97 + s / 26 % 26, 97 + s % 26]⟩) ⟨by show 2 ≤ 6; omega, fun c hc => by simp at hc; omega⟩ (by show 1 ≤ 2; omega)
theorem cand_inj {s t : Nat} (hs : s < 676) (ht : t < 676) (h : cand s = cand t) : s = t := by
  have h := congrArg Subtype.val h
  have h : (⟨#[97 + s / 26 % 26, 97 + s % 26]⟩ : Str) = ⟨#[97 + t / 26 % 26, 97 + t % 26]⟩ := h
  injection h with h
  simp at h
  omega
theorem nodup_len {α : Type} [DecidableEq α] : ∀ {l m : List α}, l.Nodup → (∀ a ∈ l, a ∈ m) → l.length ≤ m.length
  | [], m, _, _ => Nat.zero_le _
  | a :: l, m, h, hs => by
    obtain ⟨h1, h2⟩ := List.nodup_cons.mp h
    have := nodup_len (m := m.erase a) h2 fun b hb => (List.mem_erase_of_ne (by rintro rfl; exact h1 hb)).mpr (hs b (List.mem_cons_of_mem _ hb))
    have ha := hs a List.mem_cons_self
    rw [List.length_erase_of_mem ha] at this
    have := List.length_pos_of_mem ha
    rw [List.length_cons]; omega
theorem cands_few {s : Nat} {l : List Nm} (hs : s ≤ 676) (h : ∀ j, j < s → cand j ∈ l) : s ≤ l.length := by
  have := nodup_len (l := (List.range s).map cand) (m := l) ?_ ?_
  · simpa using this
  · rw [List.nodup_iff_pairwise_ne, List.pairwise_map]
    refine List.Pairwise.imp_of_mem ?_ (List.nodup_range (n := s))
    intro a b ha hb hab e
    have ha := List.mem_range.mp ha
    have hb := List.mem_range.mp hb
    exact hab (cand_inj (by omega) (by omega) e)
  · intro a ha
    obtain ⟨j, hj, rfl⟩ := List.mem_map.mp ha
    exact h j (List.mem_range.mp hj)
theorem ix_letter {r : Int} (h0 : 0 ≤ r) (h1 : r < 26) : ixE (.str "abcdefghijklmnopqrstuvwxyz") (.int r) = some (.str ⟨#[97 + r.toNat]⟩) := by
  have hl : ("abcdefghijklmnopqrstuvwxyz" : Str).length = 26 := by decide +kernel
  obtain ⟨c, e, hc⟩ := fIx_str (z := "abcdefghijklmnopqrstuvwxyz") (r := r) (by decide +kernel) h0 (by omega)
  rw [show ("abcdefghijklmnopqrstuvwxyz" : Str).cps.toList = List.range' 97 26 by decide +kernel, List.getElem?_range' (by omega)] at hc
  have : 97 + 1 * r.toNat = c := Option.some.inj hc
  rw [show 97 + r.toNat = c by omega]; exact e
theorem ixE_last {o : Bool} {ds : List D} {d : D} (h : ds.getLast? = some d) : ixE (.nd (.lst o) ds) (.int (-1)) = some d := by
  have hne : ds ≠ [] := by rintro rfl; cases h
  have hp := List.length_pos_iff.mpr hne
  show (ixN ds.length (-1)).bind _ = _
  have : ixN ds.length (-1) = some (ds.length - 1) := by
    unfold ixN
    rw [if_neg (by omega), if_pos (by omega)]
    congr 1; omega
  rw [this, Option.bind_some, ← List.getLast?_eq_getElem?]; exact h
section
variable {ρ : Env} {E : XE}
theorem w_letter {i : Nat} {r : Int} {P : D → Env → Prop} (e : ρ[i]? = some (some (.str "abcdefghijklmnopqrstuvwxyz"))) (h0 : 0 ≤ r) (h1 : r < 26) (h : P (.str ⟨#[97 + r.toNat]⟩) ρ) : Wp (pixA (.at i []) (.int r)) ρ (fun pl ρ1 => Wp (rdPl pl) ρ1 P E) E :=
  w_ix0 e (ix_letter h0 h1) rfl (.inr rfl) h
theorem w_ixL {α : Type} [DecidableEq α] [Dt α] {i j : Nat} {o : Bool} {l : List α} {a : α} {P : D → Env → Prop} (e : ρ[i]? = some (some (.nd (.lst o) (l.map Dt.d)))) (hj : l[j]? = some a) (h : P (Dt.d a) ρ) : Wp (pixA (.at i []) (.int j)) ρ (fun pl ρ1 => Wp (rdPl pl) ρ1 P E) E :=
  w_ix0 e (ixE_lst (by rw [List.getElem?_map, hj]; rfl)) (Dt.fz a) (by cases o with
    | true => exact .inl ⟨_, _, rfl, rfl⟩
    | false => exact .inr (by rw [frz_nd, Dt.mfz]; rfl)) h
theorem w_ixU {α : Type} [DecidableEq α] [Dt α] {i j : Nat} {l : List α} {a : α} {P : D → Env → Prop} (e : ρ[i]? = some (some (.nd .tup (l.map Dt.d)))) (hj : l[j]? = some a) (h : P (Dt.d a) ρ) : Wp (pixA (.at i []) (.int j)) ρ (fun pl ρ1 => Wp (rdPl pl) ρ1 P E) E :=
  w_ix0 e (ixE_tup (by rw [List.getElem?_map, hj]; rfl)) (Dt.fz a) (.inr (by rw [frz_nd, Dt.mfz]; rfl)) h
theorem w_ixLast {α : Type} [DecidableEq α] [Dt α] {i : Nat} {o : Bool} {l : List α} {a : α} {P : D → Env → Prop} (e : ρ[i]? = some (some (.nd (.lst o) (l.map Dt.d)))) (hj : l.getLast? = some a) (h : P (Dt.d a) ρ) : Wp (pixA (.at i []) (.int (-1))) ρ (fun pl ρ1 => Wp (rdPl pl) ρ1 P E) E :=
  w_ix0 e (ixE_last (by rw [List.getLast?_map, hj]; rfl)) (Dt.fz a) (by cases o with
    | true => exact .inl ⟨_, _, rfl, rfl⟩
    | false => exact .inr (by rw [frz_nd, Dt.mfz]; rfl)) h
/-- a name in a list of names -/
theorem w_inN {a : Nm} {o : Bool} {l : List Nm} {P : D → Env → Prop} (h : P (.bl (decide (a ∈ l))) ρ) : Wp (lft (fIn (.str a.1) (.nd (.lst o) (l.map Dt.d)))) ρ P E := w_inL (a := a) h
theorem w_eqN {a b : Nm} {P : D → Env → Prop} (h : P (.bl (decide (a = b))) ρ) : Wp (lft (fEq (.str a.1) (.str b.1))) ρ P E := w_eqT (a := a) (b := b) h
theorem w_neN {a b : Nm} {P : D → Env → Prop} (h : P (.bl (!decide (a = b))) ρ) : Wp (lft (fNe (.str a.1) (.str b.1))) ρ P E := w_neT (a := a) (b := b) h
def minN (a b : Nm) : Nm := if DatumOrd.lt b a = true then b else a
def maxN (a b : Nm) : Nm := if DatumOrd.lt a b = true then b else a
theorem w_minN {a b : Nm} {P : D → Env → Prop} (h : P (.str (minN a b).1) ρ) : Wp (lft (fMin2 [.str a.1, .str b.1])) ρ P E := w_lft (show _ = some (D.str (minN a b).1) by
  show some (D.str (if strLt b.1 a.1 = true then b.1 else a.1)) = _
  unfold minN
  show _ = some (D.str (if strLt b.1 a.1 = true then b else a).1)
  split <;> rfl) h
theorem w_maxN {a b : Nm} {P : D → Env → Prop} (h : P (.str (maxN a b).1) ρ) : Wp (lft (fMax2 [.str a.1, .str b.1])) ρ P E := w_lft (show _ = some (D.str (maxN a b).1) by
  show some (D.str (if strLt a.1 b.1 = true then b.1 else a.1)) = _
  unfold maxN
  show _ = some (D.str (if strLt a.1 b.1 = true then b else a).1)
  split <;> rfl) h
end
end DL
/-! DLv: maps by the numbers of their places. -/
namespace DL
open PySem PySem.Spec L2
open PySem.W (Datum DatumOrd Tup T3 T4 minOf maxOf)
section
variable {ρ : Env} {E : XE} {α : Type} [DecidableEq α] [Dt α]
theorem w_yes {P : Bool → Env → Prop} (h : P true ρ) : Wp mYes ρ P E := h
theorem w_intB {b : Bool} {P : D → Env → Prop} (h : P (.int (if b then 1 else 0)) ρ) : Wp (lft (fInt [.bl b])) ρ P E := h
theorem w_intI {i : Int} {P : D → Env → Prop} (h : P (.int i) ρ) : Wp (lft (fInt [.int i])) ρ P E := h
theorem w_ix2 {o b : Bool} {x y : D} {P : D → Env → Prop} (h : P (if b then y else x).frz ρ) : Wp (lft (fIx (.nd (.lst o) [x, y]) (.int (if b then 1 else 0)))) ρ P E := by
  cases b <;> exact h
theorem w_lstRg {m : M (List D)} {P : D → Env → Prop} (h : Wp m ρ (fun ds ρ1 => ds.length ≤ 16777216 ∧ P (.nd (.lst true) ds) ρ1) E) : Wp (mLstRg m) ρ P E := w_bnd (h.mono fun ds ρ1 h => by rw [if_pos h.1]; exact h.2)
theorem w_catL {o o' : Bool} {l m : List α} {P : D → Env → Prop} (hl : l.length + m.length ≤ 1000) (h : P (.nd (.lst true) ((l ++ m).map Dt.d)) ρ) : Wp (lft (fAdd (.nd (.lst o) (l.map Dt.d)) (.nd (.lst o') (m.map Dt.d)))) ρ P E := w_lft (show fAdd _ _ = some (D.nd (.lst true) ((l ++ m).map Dt.d)) by
  show (if (l.map (Dt.d : α → D)).length + (m.map (Dt.d : α → D)).length ≤ sizeLine then some (D.nd (.lst true) ((l.map Dt.d ++ m.map Dt.d).map D.frz)) else none) = _
  rw [if_pos (by rw [List.length_map, List.length_map]; exact len_line _ hl), ← List.map_append, Dt.mfz]) h
theorem w_pixLF {i j : Nat} {l : List α} {a : α} {P : Pl → Env → Prop} (e : ρ[i]? = some (some (.nd (.lst false) (l.map Dt.d)))) (hj : l[j]? = some a) (h : P (.vl (Dt.d a)) ρ) : Wp (pixA (.at i []) (.int j)) ρ P E :=
  w_pixF (atP_nil e) rfl (frz_lstF l) (by
    have hk := (List.getElem?_eq_some_iff.mp hj).1
    show (ixN _ (j : Int)).bind _ = _
    rw [List.length_map, ixN_nat hk, Option.bind_some, List.getElem?_map, hj]
    show some (Dt.d a).frz = _
    rw [Dt.fz]) h
theorem w_pixUF {i j : Nat} {l : List α} {a : α} {P : Pl → Env → Prop} (e : ρ[i]? = some (some (.nd .tup (l.map Dt.d)))) (hj : l[j]? = some a) (h : P (.vl (Dt.d a)) ρ) : Wp (pixA (.at i []) (.int j)) ρ P E :=
  w_pixF (atP_nil e) rfl (frz_tupD l) (by
    have hk := (List.getElem?_eq_some_iff.mp hj).1
    show (ixN _ (j : Int)).bind _ = _
    rw [List.length_map, ixN_nat hk, Option.bind_some, List.getElem?_map, hj]
    show some (Dt.d a).frz = _
    rw [Dt.fz]) h
end
abbrev jsD (js : List Nat) : List D := js.map fun (j : Nat) => D.int (j : Int)
theorem range_jsD (k : Nat) : rangeD 0 (k : Int) = jsD (List.range k) := by
  unfold rangeD jsD
  rw [show ((k : Int) - 0).toNat = k by omega]
  exact List.map_congr_left fun n _ => by simp
theorem take_snoc {α : Type} {l : List α} {i : Nat} {a : α} (h : l[i]? = some a) : l.take (i + 1) = l.take i ++ [a] := by
  obtain ⟨hi, e⟩ := List.getElem?_eq_some_iff.mp h
  rw [List.take_succ_eq_append_getElem hi, e]
section
variable {α : Type} [DecidableEq α] [Dt α] {K : List D → Prop}
theorem w_itL {o : Bool} {l : List α} (h : K (l.map Dt.d)) : ∃ ds, itemsD (.nd (.lst o) (l.map Dt.d)) = some ds ∧ K ds := ⟨_, by show some ((l.map Dt.d).map D.frz) = _; rw [Dt.mfz], h⟩
theorem w_itU {l : List α} (h : K (l.map Dt.d)) : ∃ ds, itemsD (.nd .tup (l.map Dt.d)) = some ds ∧ K ds := ⟨_, by show some ((l.map Dt.d).map D.frz) = _; rw [Dt.mfz], h⟩
theorem w_itJ {o : Bool} {js : List Nat} (h : K (jsD js)) : ∃ ds, itemsD (.nd (.lst o) (jsD js)) = some ds ∧ K ds := ⟨_, by show some ((jsD js).map D.frz) = _; rw [map_frz (fun _ => rfl)], h⟩
theorem map_get {l : List α} {i : Nat} {d : D} (h : (l.map Dt.d)[i]? = some d) : ∃ a, l[i]? = some a ∧ d = Dt.d a := by
  rw [List.getElem?_map] at h
  cases e : l[i]? with
  | none => rw [e] at h; cases h
  | some a => rw [e] at h; exact ⟨a, rfl, (Option.some.inj h).symm⟩
end
abbrev Way := T3 Nm Nm Int
theorem in_way (a : Nm) (w : Way) : fIn (.str a.1) (Dt.d w) = some (.bl (decide (a = w.a ∨ a = w.b))) := by
  have := fIn_tup (Dt.pyd a) (m := 0) (ds := [Dt.d w.a, Dt.d w.b, Dt.d w.c]) (ys := [Datum.toD w.a, Datum.toD w.b, Datum.toD w.c]) (.cons (Dt.pyd w.a) (.cons (Dt.pyd w.b) (.cons (Dt.pyd w.c) .nil))) (by decide) (by omega)
  refine this.trans ?_
  have e3 : PyData.eqv (Datum.toD w.c) (Datum.toD a) = false := by
    show PyData.eqv (.int w.c) (.str a.1) = false
    simp [PyData.eqv]
  simp only [List.any_cons, List.any_nil, Datum.eqv, e3, Bool.or_false]
  congr 2
  rw [← Bool.decide_or]
  exact decide_eq_decide.mpr ⟨fun h => h.imp Eq.symm Eq.symm, fun h => h.imp Eq.symm Eq.symm⟩
theorem w_inWay {ρ : Env} {E : XE} {P : D → Env → Prop} {a : Nm} {w : Way} (h : P (.bl (decide (a = w.a ∨ a = w.b))) ρ) : Wp (lft (fIn (.str a.1) (Dt.d w))) ρ P E := w_lft (in_way a w) h
/-! places by number -/
abbrev Ix := T3 Nat Nat Int
def gN (l : List Nm) (i : Nat) : Nm := l.getD i (cand 0)
theorem gN_get {l : List Nm} {i : Nat} (h : i < l.length) : l[i]? = some (gN l i) := by
  unfold gN
  rw [List.getD_eq_getElem?_getD]
  simp [h]
theorem gN_inj {l : List Nm} (hn : l.Nodup) {i j : Nat} (hi : i < l.length) (hj : j < l.length) (h : gN l i = gN l j) : i = j := by
  have e1 := gN_get hi
  have e2 := gN_get hj
  rw [h, ← e2] at e1
  rw [List.getElem?_eq_getElem hi, List.getElem?_eq_getElem hj] at e1
  exact (List.getElem_inj hn).mp (Option.some.inj e1)
theorem gN_mem {l : List Nm} {i : Nat} (h : i < l.length) : gN l i ∈ l := List.mem_of_getElem? (gN_get h)
theorem mem_gN {l : List Nm} {a : Nm} (h : a ∈ l) : ∃ i, i < l.length ∧ gN l i = a := by
  obtain ⟨i, hi, e⟩ := List.mem_iff_getElem.mp h
  refine ⟨i, hi, ?_⟩
  have := gN_get hi
  rw [List.getElem?_eq_getElem hi, e] at this
  exact (Option.some.inj this).symm
def wyOf (l : List Nm) (e : Ix) : Way := ⟨gN l e.a, gN l e.b, e.c⟩
def samePr (e f : Ix) : Prop := (e.a = f.a ∧ e.b = f.b) ∨ (e.a = f.b ∧ e.b = f.a)
structure IxOk (n : Nat) (es : List Ix) : Prop where
  ends : ∀ e ∈ es, e.a < n ∧ e.b < n ∧ e.a ≠ e.b ∧ 1 ≤ e.c
  uniq : es.Pairwise fun e f => ¬ samePr e f
  conn : ∀ S : Nat → Prop, (∀ e ∈ es, S e.a ↔ S e.b) → ∀ i, i < n → (S 0 ↔ S i)
theorem IxOk.one : IxOk 1 [] := ⟨(fun e h => by cases h), .nil, fun S _ i hi => by rw [show i = 0 by omega]⟩
theorem pw_snoc {α : Type} {R : α → α → Prop} {l : List α} {a : α} (h : l.Pairwise R) (k : ∀ b ∈ l, R b a) : (l ++ [a]).Pairwise R :=
  List.pairwise_append.mpr ⟨h, List.pairwise_singleton _ _, fun b hb c hc => by rw [List.mem_singleton.mp hc]; exact k b hb⟩
theorem IxOk.step {k : Nat} {es new : List Ix} {js : List Nat} (h : IxOk k es) (hk : 1 ≤ k) (hjs : js.Nodup) (hlt : ∀ j ∈ js, j < k) (hne : js ≠ []) (hm : new.map (·.a) = js) (hb : ∀ e ∈ new, e.b = k ∧ 1 ≤ e.c) : IxOk (k + 1) (es ++ new) := by
  have hna : ∀ e ∈ new, e.a < k := fun e he => hlt _ (hm ▸ List.mem_map_of_mem he)
  refine ⟨fun e he => ?_, List.pairwise_append.mpr ⟨h.uniq, ?_, fun e he f hf hs => ?_⟩, fun S hS i hi => ?_⟩
  · rcases List.mem_append.mp he with he | he
    · have := h.ends e he; exact ⟨by omega, by omega, this.2.2.1, this.2.2.2⟩
    · have h1 := hna e he
      have h2 := hb e he
      exact ⟨by omega, by omega, by omega, h2.2⟩
  · subst hm
    refine List.Pairwise.imp_of_mem ?_ (List.pairwise_map.mp hjs)
    intro e f he hf hab hs
    have h1 := hna e he
    have h2 := hb f hf
    rcases hs with hs | hs
    · exact hab hs.1
    · omega
  · have h1 := h.ends e he
    have h2 := hb f hf
    rcases hs with hs | hs <;> omega
  · have h1 := h.conn S (fun e he => hS e (List.mem_append_left _ he))
    by_cases hik : i < k
    · exact h1 i hik
    · have : i = k := by omega
      subst this
      cases new with
      | nil => exact (hne hm.symm).elim
      | cons e new =>
        have h2 := hS e (List.mem_append_right _ List.mem_cons_self)
        rw [(hb e List.mem_cons_self).1] at h2
        exact (h1 _ (hna e List.mem_cons_self)).trans h2
theorem IxOk.more {n : Nat} {es : List Ix} {e : Ix} (h : IxOk n es) (he : e.a < n ∧ e.b < n ∧ e.a ≠ e.b ∧ 1 ≤ e.c) (hno : ∀ f ∈ es, ¬ samePr f e) : IxOk n (es ++ [e]) :=
  ⟨(fun f hf => by
    rcases List.mem_append.mp hf with hf | hf
    · exact h.ends f hf
    · rw [List.mem_singleton.mp hf]; exact he), pw_snoc h.uniq hno, fun S hS => h.conn S fun f hf => hS f (List.mem_append_left _ hf)⟩
/-- a star -/
theorem IxOk.star {n m : Nat} {es : List Ix} (hm : m < n) (ha : ∀ e ∈ es, e.a = m ∧ 1 ≤ e.c) (hb : es.map (·.b) = (List.range n).filter (fun k => decide (k ≠ m))) : IxOk n es := by
  have hb' : ∀ e ∈ es, e.b < n ∧ e.b ≠ m := fun e he => by
    have : e.b ∈ es.map (·.b) := List.mem_map_of_mem he
    rw [hb, List.mem_filter, List.mem_range] at this
    exact ⟨this.1, of_decide_eq_true this.2⟩
  refine ⟨fun e he => ?_, ?_, fun S hS i hi => ?_⟩
  · have h1 := ha e he
    have h2 := hb' e he
    exact ⟨by omega, h2.1, by omega, h1.2⟩
  · have : (es.map (·.b)).Nodup := by rw [hb]; exact List.Pairwise.filter _ List.nodup_range
    refine List.Pairwise.imp_of_mem ?_ (List.pairwise_map.mp this)
    intro e f he hf hab hs
    have h1 := ha e he
    have h2 := hb' f hf
    have h3 := ha f hf
    rcases hs with hs | hs
    · exact hab hs.2
    · omega
  · have key : ∀ i, i < n → (S m ↔ S i) := fun i hi => by
      by_cases h : i = m
      · rw [h]
      · have : i ∈ es.map (·.b) := by rw [hb, List.mem_filter, List.mem_range]; exact ⟨hi, decide_eq_true h⟩
        obtain ⟨e, he, e1⟩ := List.mem_map.mp this
        have := hS e he
        rw [(ha e he).1, e1] at this
        exact this
    exact (key 0 (by omega)).symm.trans (key i hi)
/-- a ring -/
theorem IxOk.ring {n : Nat} {es : List Ix} (hn : 2 < n) (hl : es.length = n) (he : ∀ k e, es[k]? = some e → e.b = k ∧ e.a = (if k = 0 then n - 1 else k - 1) ∧ 1 ≤ e.c) : IxOk n es := by
  have hk : ∀ e ∈ es, ∃ k, k < n ∧ e.b = k ∧ e.a = (if k = 0 then n - 1 else k - 1) ∧ 1 ≤ e.c := fun e h => by
    obtain ⟨k, hk, e1⟩ := List.mem_iff_getElem.mp h
    exact ⟨k, by omega, he k e (by rw [List.getElem?_eq_getElem hk, e1])⟩
  refine ⟨fun e h => ?_, ?_, fun S hS i hi => ?_⟩
  · obtain ⟨k, h1, h2, h3, h4⟩ := hk e h
    split at h3 <;> exact ⟨by omega, by omega, by omega, h4⟩
  · refine List.pairwise_iff_getElem.mpr fun i j hi hj hij hs => ?_
    have h1 := he i _ (List.getElem?_eq_getElem hi)
    have h2 := he j _ (List.getElem?_eq_getElem hj)
    rcases hs with hs | hs
    · omega
    · have h3 := h1.2.1
      have h4 := h2.2.1
      split at h3 <;> split at h4 <;> omega
  · induction i with
    | zero => exact Iff.rfl
    | succ i ih =>
      have hlt : i + 1 < es.length := by omega
      have h1 := he (i + 1) _ (List.getElem?_eq_getElem hlt)
      have h2 := hS _ (List.getElem_mem hlt)
      rw [h1.1, h1.2.1, if_neg (by omega)] at h2
      exact (ih (by omega)).trans h2
/-- the ways of a map, by the names of its places -/
def Web (l : List Nm) (ws : List Way) : Prop := ∃ es : List Ix, ws = es.map (wyOf l) ∧ IxOk l.length es ∧ es.length ≤ 900
end DL
/-! DLo: comprehensions of typed data, tuples of known items, dicts by names. -/
namespace DL
open PySem PySem.Spec L2
open PySem.W (Datum DatumOrd Tup T3 T4 minOf maxOf)
theorem wipeE_get (ρ : Env) (i : Nat) : ∀ vs : List Nat, (wipeE ρ vs)[i]? = if i ∈ vs then (ρ[i]?).map (fun _ => none) else ρ[i]?
  | [] => by simp [wipeE]
  | v :: vs => by
    show ((wipeE ρ vs).set v none)[i]? = _
    rw [List.getElem?_set, wipeE_get ρ i vs, wipeE_length]
    by_cases h : v = i
    · subst h
      rw [if_pos rfl, if_pos List.mem_cons_self]
      by_cases hl : v < ρ.length
      · rw [if_pos hl, List.getElem?_eq_getElem hl]; rfl
      · rw [if_neg hl, List.getElem?_eq_none (by omega)]; rfl
    · rw [if_neg h]
      by_cases h2 : i ∈ vs
      · rw [if_pos h2, if_pos (List.mem_cons_of_mem _ h2)]
      · rw [if_neg h2, if_neg (by simp [h2, Ne.symm h])]
theorem wipeE_idem (ρ : Env) (vs : List Nat) : wipeE (wipeE ρ vs) vs = wipeE ρ vs := by
  refine List.ext_getElem? fun i => ?_
  rw [wipeE_get, wipeE_get]
  split
  · cases ρ[i]? <;> rfl
  · rfl
section
variable {ρ : Env} {E : XE} {α β : Type} [DecidableEq α] [Dt α] [DecidableEq β] [Dt β]
def CM (tg : D → M Unit) (tt : M Bool) (te : M D) (vs : List Nat) (ds : List D) (ρ1 : Env) (P : D → Env → Prop) : Prop := Wp (mComp tg tt te vs ds []) (wipeE ρ1 vs) (fun acc ρ2 => ρ2.length = ρ1.length ∧ P (.nd (.lst true) acc) (restE ρ1 vs (wipeE ρ2 vs))) NoE
theorem w_lcC {mi : M (List D)} {tg : D → M Unit} {tt : M Bool} {te : M D} {vs : List Nat} {P : D → Env → Prop} (h : Wp mi ρ (fun ds ρ1 => CM tg tt te vs ds ρ1 P) E) : Wp (mLc mi tg tt te vs) ρ P E := w_lc h
theorem w_cmM {l : List α} {tg : D → M Unit} {te : M D} {vs : List Nat} {ρ1 : Env} {Q : D → Env → Prop} (ρw : Env) (f : α → β) (h0 : wipeE ρ1 vs = ρw) (hlen : l.length ≤ 1000)
    (hs : ∀ a ∈ l, Wp (tg (Dt.d a)) ρw (fun _ ρ2 => ρ2.length = ρw.length ∧ Wp te ρ2 (fun y ρ3 => y = Dt.d (f a) ∧ wipeE ρ3 vs = ρw) NoE) NoE)
    (he : Q (.nd (.lst true) ((l.map f).map Dt.d)) (restE ρ1 vs ρw)) : CM tg mYes te vs (l.map Dt.d) ρ1 Q := by
  unfold CM
  have hww : wipeE (wipeE ρ1 vs) vs = ρw := by rw [wipeE_idem, h0]
  refine w_comp (I := fun m acc ρ' => acc = ((l.take m).map f).map Dt.d ∧ wipeE ρ' vs = ρw) ⟨rfl, hww⟩ ?_ ?_
  · rintro k d ed acc ρ' ⟨rfl, hw⟩
    obtain ⟨a, ha, rfl⟩ := map_get ed
    rw [hw]
    have hll : ρw.length = ρ'.length := by rw [← hw, wipeE_length]
    refine (hs a (List.mem_of_getElem? ha)).mono ?_
    rintro _ ρ2 ⟨hl2, h2⟩
    refine ⟨by omega, w_yes ⟨fun _ => ?_, fun h => by cases h⟩⟩
    refine h2.mono ?_
    rintro y ρ3 ⟨rfl, h3⟩
    refine ⟨by rw [List.length_map, List.length_map, List.length_take, sizeLine_eq]; omega, ?_, h3⟩
    rw [take_snoc ha, List.map_append, List.map_append]; rfl
  · rintro acc ρ' ⟨rfl, hw⟩
    rw [List.length_map, List.take_length, hw]
    refine ⟨?_, he⟩
    have := congrArg List.length hw
    rw [wipeE_length] at this
    rw [this, ← h0, wipeE_length]
theorem w_cmF {l : List α} {tg : D → M Unit} {tt : M Bool} {te : M D} {vs : List Nat} {ρ1 : Env} {Q : D → Env → Prop} (ρw : Env) (p : α → Bool) (f : α → β) (h0 : wipeE ρ1 vs = ρw) (hlen : l.length ≤ 1000)
    (hs : ∀ a ∈ l, Wp (tg (Dt.d a)) ρw (fun _ ρ2 => ρ2.length = ρw.length ∧ Wp tt ρ2 (fun b ρ3 => b = p a ∧ (b = true → Wp te ρ3 (fun y ρ4 => y = Dt.d (f a) ∧ wipeE ρ4 vs = ρw) NoE) ∧ (b = false → wipeE ρ3 vs = ρw)) NoE) NoE)
    (he : Q (.nd (.lst true) (((l.filter p).map f).map Dt.d)) (restE ρ1 vs ρw)) : CM tg tt te vs (l.map Dt.d) ρ1 Q := by
  unfold CM
  have hww : wipeE (wipeE ρ1 vs) vs = ρw := by rw [wipeE_idem, h0]
  refine w_comp (I := fun m acc ρ' => acc = (((l.take m).filter p).map f).map Dt.d ∧ wipeE ρ' vs = ρw) ⟨rfl, hww⟩ ?_ ?_
  · rintro k d ed acc ρ' ⟨rfl, hw⟩
    obtain ⟨a, ha, rfl⟩ := map_get ed
    rw [hw]
    have hll : ρw.length = ρ'.length := by rw [← hw, wipeE_length]
    refine (hs a (List.mem_of_getElem? ha)).mono ?_
    rintro _ ρ2 ⟨hl2, h2⟩
    refine ⟨by omega, h2.mono ?_⟩
    rintro b ρ3 ⟨rfl, h3, h4⟩
    have hl : ((l.take k).filter p).length ≤ 1000 := by
      have := List.length_filter_le p (l.take k)
      rw [List.length_take] at this; omega
    refine ⟨fun hb => (h3 hb).mono ?_, fun hb => ⟨?_, h4 hb⟩⟩
    · rintro y ρ4 ⟨rfl, h5⟩
      refine ⟨by rw [List.length_map, List.length_map, sizeLine_eq]; omega, ?_, h5⟩
      rw [take_snoc ha, List.filter_append, List.filter_cons, hb, List.map_append, List.map_append]; rfl
    · rw [take_snoc ha, List.filter_append, List.filter_cons, hb]; simp
  · rintro acc ρ' ⟨rfl, hw⟩
    rw [List.length_map, List.take_length, hw]
    refine ⟨?_, he⟩
    have := congrArg List.length hw
    rw [wipeE_length] at this
    rw [this, ← h0, wipeE_length]
/-- an item of a tuple read -/
theorem w_rdT {i j : Nat} {ds : List D} {x : D} {P : D → Env → Prop} (e : ρ[i]? = some (some (.nd .tup ds))) (hj : ds[j]? = some x) (hf : ds.map D.frz = ds) (h : P x ρ) : Wp (pixA (.at i []) (.int j)) ρ (fun pl ρ1 => Wp (rdPl pl) ρ1 P E) E :=
  w_ix0 e (ixE_tup hj) (by
    have := congrArg (fun l => l[j]?) hf
    simp only [List.getElem?_map, hj] at this
    exact Option.some.inj this) (.inr (by rw [frz_nd, hf]; rfl)) h
theorem w_plT {i j : Nat} {ds : List D} {x : D} {P : Pl → Env → Prop} (e : ρ[i]? = some (some (.nd .tup ds))) (hj : ds[j]? = some x) (hf : ds.map D.frz = ds) (h : P (.vl x) ρ) : Wp (pixA (.at i []) (.int j)) ρ P E :=
  w_pixF (atP_nil e) rfl (by rw [frz_nd, hf]; rfl) (by
    have hk := (List.getElem?_eq_some_iff.mp hj).1
    show (ixN _ (j : Int)).bind _ = _
    rw [ixN_nat hk, Option.bind_some, ← List.getElem?_map, hf, hj]) h
/-! dicts by names -/
abbrev kN (a : Nm) : Key := .inr a.1
theorem findK_at : ∀ {l : List Nm} {j : Nat} {a : Nm}, l.Nodup → l[j]? = some a → findK (l.map kN) (.inr a.1) = some j
  | [], j, a, _, h => by simp at h
  | b :: l, 0, a, hn, h => by
    cases h
    unfold findK
    exact if_pos rfl
  | b :: l, j + 1, a, hn, h => by
    obtain ⟨h1, h2⟩ := List.nodup_cons.mp hn
    have h : l[j]? = some a := by simpa using h
    have hne : kN b ≠ .inr a.1 := fun e => by
      injection e with e
      exact h1 (Subtype.ext e ▸ List.mem_of_getElem? h)
    show (if kN b = .inr a.1 then some 0 else (findK (l.map kN) (.inr a.1)).map (· + 1)) = _
    rw [if_neg hne, findK_at h2 h]; rfl
theorem findK_not : ∀ {l : List Nm} {a : Nm}, a ∉ l → findK (l.map kN) (.inr a.1) = none
  | [], a, _ => rfl
  | b :: l, a, hn => by
    have hne : kN b ≠ .inr a.1 := fun e => by
      injection e with e
      exact hn (Subtype.ext e ▸ List.mem_cons_self)
    show (if kN b = .inr a.1 then some 0 else (findK (l.map kN) (.inr a.1)).map (· + 1)) = _
    rw [if_neg hne, findK_not fun h => hn (List.mem_cons_of_mem _ h)]; rfl
theorem kN_nodup {l : List Nm} (h : l.Nodup) : (l.map kN).Nodup := by
  rw [List.nodup_iff_pairwise_ne, List.pairwise_map]
  exact List.Pairwise.imp (fun hab e => hab (Subtype.ext (by injection e))) h
theorem kN_snoc (l : List Nm) (a : Nm) : l.map kN ++ [.inr a.1] = (l ++ [a]).map kN := by rw [List.map_append]; rfl
theorem st_new {l : List Nm} {ds : List D} {a : Nm} {v : D} (hl : ds.length = l.length) (h1 : l.length < 1000) (ha : a ∉ l) : stD (.dic true (l.map kN)) ds (.str a.1) v = some (.dic true ((l ++ [a]).map kN), ds ++ [v]) := by
  show stK (.dic true) (l.map kN) ds (.inr a.1) v = _
  unfold stK
  rw [if_pos ⟨by rw [sizeLine_eq]; omega, by rw [List.length_map]; omega⟩, findK_not ha]
  dsimp only
  rw [kN_snoc]
theorem st_old {l : List Nm} {ds : List D} {a : Nm} {v : D} {j : Nat} (hl : ds.length = l.length) (h1 : l.length < 1000) (hn : l.Nodup) (ha : l[j]? = some a) : stD (.dic true (l.map kN)) ds (.str a.1) v = some (.dic true (l.map kN), ds.set j v) := by
  show stK (.dic true) (l.map kN) ds (.inr a.1) v = _
  unfold stK
  rw [if_pos ⟨by rw [sizeLine_eq]; omega, by rw [List.length_map]; omega⟩, findK_at hn ha]
  dsimp only
  rw [if_pos (kN_nodup hn)]
theorem w_dicO {i j : Nat} {l : List Nm} {ds : List D} {a : Nm} {P : Pl → Env → Prop} (e : ρ[i]? = some (some (.nd (.dic true (l.map kN)) ds))) (hn : l.Nodup) (ha : l[j]? = some a) (h : P (.at i [j]) ρ) : Wp (pixA (.at i []) (.str a.1)) ρ P E :=
  w_pixO (atP_nil e) rfl (findK_at hn ha) h
theorem putP_1 {i j : Nat} {cn : Con} {ds : List D} {x y : D} (e : ρ[i]? = some (some (.nd cn ds))) (hj : ds[j]? = some x) : putP ρ i [j] y = ρ.set i (some (.nd cn (ds.set j y))) := by
  unfold putP
  rw [e]
  dsimp only
  rw [put_cons, hj]
  dsimp only
  rw [put_nil]
theorem w_appP {mo : M Pl} {ma : M (List D)} {P : D → Env → Prop} (h : Wp mo ρ (fun pl ρ1 => ∃ i π xs0, pl = .at i π ∧ atP ρ1 i π = some (.nd (.lst true) xs0) ∧ Wp ma ρ1 (fun as ρ2 => ∃ xs d, atP ρ2 i π = some (.nd (.lst true) xs) ∧ as = [d] ∧ xs.length < 100000 ∧ P .non (putP ρ2 i π (.nd (.lst true) (xs ++ [d])))) E) E) : Wp (mMtP "list" foAppend mo ma) ρ P E := by
  refine w_bnd (h.mono ?_)
  rintro pl ρ1 ⟨i, π, xs0, rfl, e0, h⟩
  unfold Wp
  dsimp only
  rw [e0]
  dsimp only
  rw [if_pos ⟨rfl, rfl⟩]
  refine w_bnd (h.mono ?_)
  rintro as ρ2 ⟨ds, d, e1, rfl, hl, hp⟩
  unfold Wp
  dsimp only
  rw [e1]
  dsimp only
  have hc : (Con.lst true).isO = true := rfl
  have hfo : foAppend (.lst true) ds [d] = some (.non, .lst true, ds ++ [d]) := if_pos (by rw [sizeLine_eq]; omega)
  rw [if_pos hc, hfo]
  exact hp
/-- the appending at a key of a dict of lists -/
theorem w_appD {i : Nat} {l : List Nm} {g : Nm → List D} {a : Nm} {mo : M Pl} {ma : M (List D)} {P : D → Env → Prop} (hn : l.Nodup) (ha : a ∈ l)
    (h : Wp mo ρ (fun pl ρ1 => (∀ j, l[j]? = some a → pl = .at i [j]) ∧ ρ1[i]? = some (some (.nd (.dic true (l.map kN)) (l.map fun x => .nd (.lst true) (g x)))) ∧ Wp ma ρ1 (fun as ρ2 => ∃ d, ρ2[i]? = some (some (.nd (.dic true (l.map kN)) (l.map fun x => .nd (.lst true) (g x)))) ∧ as = [d] ∧ (g a).length < 100000 ∧ P .non (ρ2.set i (some (.nd (.dic true (l.map kN)) (l.map fun x => .nd (.lst true) (if x = a then g x ++ [d] else g x)))))) E) E) : Wp (mMtP "list" foAppend mo ma) ρ P E := by
  obtain ⟨j, hj, ej⟩ := List.mem_iff_getElem.mp ha
  have hj' : l[j]? = some a := by rw [List.getElem?_eq_getElem hj, ej]
  have hat : ∀ g : Nm → List D, (l.map fun x => D.nd (.lst true) (g x))[j]? = some (.nd (.lst true) (g a)) := fun g => by rw [List.getElem?_map, hj']; rfl
  refine w_appP (h.mono ?_)
  rintro pl ρ1 ⟨h1, h2, h3⟩
  refine ⟨i, [j], g a, h1 j hj', atP_1 h2 rfl (hat g), h3.mono ?_⟩
  rintro as ρ2 ⟨d, h4, rfl, h5, h6⟩
  refine ⟨g a, d, atP_1 h4 rfl (hat g), rfl, h5, ?_⟩
  rw [putP_1 h4 (hat g)]
  have : (l.map fun x => D.nd (.lst true) (g x)).set j (.nd (.lst true) (g a ++ [d])) = l.map fun x => D.nd (.lst true) (if x = a then g x ++ [d] else g x) := by
    refine List.ext_getElem? fun k => ?_
    rw [List.getElem?_set, List.getElem?_map, List.getElem?_map, List.length_map]
    by_cases hk : j = k
    · subst hk
      rw [if_pos rfl, if_pos hj, hj']
      show _ = some (D.nd _ (if a = a then _ else _))
      rw [if_pos rfl]
    · rw [if_neg hk]
      cases e : l[k]? with
      | none => rfl
      | some b =>
        have hb : b ≠ a := by
          rintro rfl
          obtain ⟨hk1, e1⟩ := List.getElem?_eq_some_iff.mp e
          exact hk ((List.getElem_inj hn).mp (ej.trans e1.symm))
        show some _ = some (D.nd _ (if b = a then _ else _))
        rw [if_neg hb]
  rw [this]; exact h6
theorem w_appN {i : Nat} {l : List Nm} {g : Nm → List D} {a : Nm} {mk : M D} {ma : M (List D)} {P : D → Env → Prop} (e : ρ[i]? = some (some (.nd (.dic true (l.map kN)) (l.map fun x => .nd (.lst true) (g x))))) (hn : l.Nodup) (ha : a ∈ l)
    (h : Wp mk ρ (fun k ρ1 => k = .str a.1 ∧ ρ1[i]? = some (some (.nd (.dic true (l.map kN)) (l.map fun x => .nd (.lst true) (g x)))) ∧ Wp ma ρ1 (fun as ρ2 => ∃ d, ρ2[i]? = some (some (.nd (.dic true (l.map kN)) (l.map fun x => .nd (.lst true) (g x)))) ∧ as = [d] ∧ (g a).length < 100000 ∧ P .non (ρ2.set i (some (.nd (.dic true (l.map kN)) (l.map fun x => .nd (.lst true) (if x = a then g x ++ [d] else g x)))))) E) E) : Wp (mMtP "list" foAppend (mPix (mPv i) mk) ma) ρ P E := by
  obtain ⟨j, hj, ej⟩ := List.mem_iff_getElem.mp ha
  have hj' : l[j]? = some a := by rw [List.getElem?_eq_getElem hj, ej]
  refine w_appD (g := g) (i := i) (l := l) (a := a) hn ha ?_
  refine w_pix (w_pv e (h.mono ?_))
  rintro k ρ1 ⟨rfl, h2, h3⟩
  refine w_dicO h2 hn hj' ⟨fun j2 h4 => ?_, h2, h3⟩
  obtain ⟨h5, h6⟩ := List.getElem?_eq_some_iff.mp h4
  rw [(List.getElem_inj hn).mp (ej.trans h6.symm)]
/-- targets -/
theorem w_tgW {t : List D → M Unit} {w : T3 Nm Nm Int} {P : Unit → Env → Prop} (h : Wp (t [.str w.a.1, .str w.b.1, .int w.c]) ρ P E) : Wp (tgT 3 t (Dt.d w)) ρ P E :=
  w_tgT (ds := [.str w.a.1, .str w.b.1, .int w.c]) rfl h
theorem w_tgNI {t : List D → M Unit} {w : Nm × Int} {P : Unit → Env → Prop} (h : Wp (t [.str w.1.1, .int w.2]) ρ P E) : Wp (tgT 2 t (Dt.d w)) ρ P E :=
  w_tgT (ds := [.str w.1.1, .int w.2]) rfl h
theorem w_tgNN {t : List D → M Unit} {w : Nm × Nm} {P : Unit → Env → Prop} (h : Wp (t [.str w.1.1, .str w.2.1]) ρ P E) : Wp (tgT 2 t (Dt.d w)) ρ P E :=
  w_tgT (ds := [.str w.1.1, .str w.2.1]) rfl h
end
/-! the ways beside a place -/
def nbr (ws : List Way) (x : Nm) : List (Nm × Int) := ws.flatMap fun w => (if x = w.a then [(w.b, w.c)] else []) ++ (if x = w.b then [(w.a, w.c)] else [])
def deg (ws : List Way) (x : Nm) : Nat := (ws.filter fun w => decide (x = w.a ∨ x = w.b)).length
theorem nbr_snoc (ws : List Way) (w : Way) (x : Nm) : nbr (ws ++ [w]) x = nbr ws x ++ ((if x = w.a then [(w.b, w.c)] else []) ++ (if x = w.b then [(w.a, w.c)] else [])) := by
  unfold nbr
  rw [List.flatMap_append]; simp
theorem nbr_len (x : Nm) : ∀ {ws : List Way}, (∀ w ∈ ws, w.a ≠ w.b) → (nbr ws x).length = deg ws x
  | [], _ => rfl
  | w :: ws, h => by
    have ih := nbr_len x (ws := ws) fun v hv => h v (List.mem_cons_of_mem _ hv)
    have hw := h w List.mem_cons_self
    unfold nbr deg at *
    rw [List.flatMap_cons, List.length_append, ih, List.filter_cons]
    by_cases h1 : x = w.a
    · have h2 : x ≠ w.b := fun e => hw (h1 ▸ e)
      rw [if_pos h1, if_neg h2, decide_eq_true (.inl h1)]; simp; omega
    · by_cases h2 : x = w.b
      · rw [if_neg h1, if_pos h2, decide_eq_true (.inr h2)]; simp; omega
      · rw [if_neg h1, if_neg h2, decide_eq_false (by rintro (h | h); exact h1 h; exact h2 h)]; simp
theorem nbr_le (x : Nm) : ∀ ws : List Way, (nbr ws x).length ≤ 2 * ws.length
  | [] => by simp [nbr]
  | w :: ws => by
    have ih := nbr_le x ws
    unfold nbr at *
    rw [List.flatMap_cons, List.length_append, List.length_append, List.length_cons]
    split <;> split <;> simp only [List.length_cons, List.length_nil] <;> omega
theorem deg_perm {ws ws' : List Way} (h : ws.Perm ws') (x : Nm) : deg ws x = deg ws' x := (h.filter _).length_eq
def ordW (w : Way) : Way := ⟨minN w.a w.b, maxN w.a w.b, w.c⟩
theorem ordW_ends (w : Way) : (minN w.a w.b = w.a ∧ maxN w.a w.b = w.b) ∨ (minN w.a w.b = w.b ∧ maxN w.a w.b = w.a) := by
  unfold minN maxN
  by_cases h1 : DatumOrd.lt w.b w.a = true <;> by_cases h2 : DatumOrd.lt w.a w.b = true
  · exfalso
    have h1 : decide (w.b.1.cps.toList < w.a.1.cps.toList) = true := h1
    have h2 : decide (w.a.1.cps.toList < w.b.1.cps.toList) = true := h2
    exact List.lt_irrefl _ (List.lt_trans (of_decide_eq_true h1) (of_decide_eq_true h2))
  · rw [if_pos h1, if_neg h2]; exact .inr ⟨rfl, rfl⟩
  · rw [if_neg h1, if_pos h2]; exact .inl ⟨rfl, rfl⟩
  · have h1 : ¬ decide (w.b.1.cps.toList < w.a.1.cps.toList) = true := h1
    have h2 : ¬ decide (w.a.1.cps.toList < w.b.1.cps.toList) = true := h2
    have e : w.a = w.b := by
      have h1 := of_decide_eq_false (by simpa using h1 : decide (w.b.1.cps.toList < w.a.1.cps.toList) = false)
      have h2 := of_decide_eq_false (by simpa using h2 : decide (w.a.1.cps.toList < w.b.1.cps.toList) = false)
      have := List.le_antisymm (List.not_lt.mp h1) (List.not_lt.mp h2)
      apply Subtype.ext
      have h3 : ∀ x y : Str, x.cps.toList = y.cps.toList → x = y := fun x y h => by
        cases x; cases y; congr 1; exact Array.toList_inj.mp h
      exact h3 _ _ this
    rw [e]; simp
theorem deg_ord (ws : List Way) (x : Nm) : deg (ws.map ordW) x = deg ws x := by
  unfold deg
  rw [List.filter_map, List.length_map]
  congr 1
  refine List.filter_congr fun w _ => ?_
  refine decide_eq_decide.mpr ?_
  show x = minN w.a w.b ∨ x = maxN w.a w.b ↔ _
  rcases ordW_ends w with ⟨h1, h2⟩ | ⟨h1, h2⟩ <;> rw [h1, h2]
  exact Or.comm
theorem srt_perm {α : Type} [DecidableEq α] [Dt α] (l : List α) : (srt l).Perm l := List.mergeSort_perm _ _
theorem srt_mem {α : Type} [DecidableEq α] [Dt α] {l : List α} {a : α} : a ∈ srt l ↔ a ∈ l := (srt_perm l).mem_iff
theorem srt_len {α : Type} [DecidableEq α] [Dt α] (l : List α) : (srt l).length = l.length := (srt_perm l).length_eq
theorem srt_nodup {α : Type} [DecidableEq α] [Dt α] {l : List α} (h : l.Nodup) : (srt l).Nodup := (srt_perm l).nodup_iff.mpr h
theorem maxOf_lt (c : Int) : ∀ (l : List Int) (a : Int), maxOf a l < c ↔ a < c ∧ ∀ b ∈ l, b < c
  | [], a => by simp [maxOf]
  | b :: l, a => by
    have ih := maxOf_lt c l (if DatumOrd.lt a b = true then b else a)
    show maxOf (if DatumOrd.lt a b = true then b else a) l < c ↔ _
    rw [ih]
    have e : DatumOrd.lt a b = decide (a < b) := rfl
    rw [e]
    by_cases h : a < b
    · rw [decide_eq_true h, if_pos rfl]; simp; omega
    · rw [decide_eq_false h, if_neg (by decide)]; simp; omega
theorem Web.len {l : List Nm} {ws : List Way} (h : Web l ws) : ws.length ≤ 900 := by
  obtain ⟨es, rfl, h1, h2⟩ := h
  rw [List.length_map]; exact h2
theorem Web.ends {l : List Nm} {ws : List Way} (h : Web l ws) (hn : l.Nodup) : ∀ w ∈ ws, w.a ∈ l ∧ w.b ∈ l ∧ w.a ≠ w.b ∧ 1 ≤ w.c := by
  obtain ⟨es, rfl, h1, h2⟩ := h
  intro w hw
  obtain ⟨e, he, rfl⟩ := List.mem_map.mp hw
  obtain ⟨a1, a2, a3, a4⟩ := h1.ends e he
  exact ⟨gN_mem a1, gN_mem a2, fun e => a3 (gN_inj hn a1 a2 e), a4⟩
theorem ends_ord {l : List Nm} {ws : List Way} (h : ∀ w ∈ ws, w.a ∈ l ∧ w.b ∈ l ∧ w.a ≠ w.b ∧ 1 ≤ w.c) : ∀ w ∈ srt (ws.map ordW), w.a ∈ srt l ∧ w.b ∈ srt l ∧ w.a ≠ w.b ∧ 1 ≤ w.c := by
  intro w hw
  obtain ⟨v, hv, rfl⟩ := List.mem_map.mp (srt_mem.mp hw)
  obtain ⟨a1, a2, a3, a4⟩ := h v hv
  rw [srt_mem, srt_mem]
  show minN v.a v.b ∈ l ∧ maxN v.a v.b ∈ l ∧ minN v.a v.b ≠ maxN v.a v.b ∧ _
  rcases ordW_ends v with ⟨h1, h2⟩ | ⟨h1, h2⟩ <;> rw [h1, h2]
  · exact ⟨a1, a2, a3, a4⟩
  · exact ⟨a2, a1, a3.symm, a4⟩
theorem w_bool {b c : Bool} {ρ : DL.Env} {E : DL.XE} {P : D → DL.Env → Prop} (h : P (.bl (!decide (b = c))) ρ) : Wp (lft (fNe (.bl b) (.bl c))) ρ P E := w_neT (a := b) (b := c) h
theorem w_ifK {ρ : Env} {E : XE} {t : M Bool} {a b : M Fl} {P : Fl → Env → Prop} (c : Bool) (ρ1 : Env) (h : Wp t ρ (fun x ρ2 => x = c ∧ ρ2 = ρ1) E) (h1 : c = true → Wp a ρ1 P E) (h2 : c = false → Wp b ρ1 P E) : Wp (mIf t a b) ρ P E :=
  w_if (h.mono fun x ρ2 ⟨e1, e2⟩ => by subst e1 e2; exact ⟨h1, h2⟩)
/-- and, or: the second one does nothing but be told -/
theorem w_andVP {ρ : Env} {E : XE} {a b : M D} {P : D → Env → Prop} (h : Wp a ρ (fun d ρ1 => ∃ x, d = .bl x ∧ Wp b ρ1 (fun e ρ2 => ∃ y, e = .bl y ∧ ρ2 = ρ1 ∧ P (.bl (x && y)) ρ1) NoE) E) : Wp (mAndV a b) ρ P E :=
  w_andV (h.mono fun d ρ1 ⟨x, e, h⟩ => by
    subst e
    refine w_toB ⟨fun hx => ?_, fun hx => ?_⟩
    · subst hx
      refine h.imp ?_ fun _ _ h => False.elim h
      rintro e ρ2 ⟨y, rfl, rfl, h⟩
      exact h
    · subst hx
      obtain ⟨e, ρ2, _, y, _, _, h⟩ := h.ok
      exact h)
theorem w_orVP {ρ : Env} {E : XE} {a b : M D} {P : D → Env → Prop} (h : Wp a ρ (fun d ρ1 => ∃ x, d = .bl x ∧ Wp b ρ1 (fun e ρ2 => ∃ y, e = .bl y ∧ ρ2 = ρ1 ∧ P (.bl (x || y)) ρ1) NoE) E) : Wp (mOrV a b) ρ P E :=
  w_orV (h.mono fun d ρ1 ⟨x, e, h⟩ => by
    subst e
    refine w_toB ⟨fun hx => ?_, fun hx => ?_⟩
    · subst hx
      obtain ⟨e, ρ2, _, y, _, _, h⟩ := h.ok
      exact h
    · subst hx
      refine h.imp ?_ fun _ _ h => False.elim h
      rintro e ρ2 ⟨y, rfl, rfl, h⟩
      exact h)
end DL
/-! DLr: order of names; trees. -/
namespace DL
open PySem PySem.Spec L2
open PySem.W (Datum DatumOrd Tup T3 T4 minOf maxOf)
/-! order -/
theorem cps_ext {x y : Str} (h : x.cps.toList = y.cps.toList) : x = y := by
  cases x; cases y; congr 1; exact Array.toList_inj.mp h
theorem ltN (a b : Nm) : (DatumOrd.lt a b = true) = (a.1.cps.toList < b.1.cps.toList) := by
  show (decide (a.1.cps.toList < b.1.cps.toList) = true) = _
  rw [decide_eq_true_eq]
def leN (a b : Nm) : Bool := !DatumOrd.lt b a
theorem leN_iff (a b : Nm) : leN a b = true ↔ a.1.cps.toList ≤ b.1.cps.toList := by
  unfold leN
  rw [Bool.not_eq_true', ← Bool.not_eq_true, ltN]
  exact List.not_lt
theorem leN_trans (a b c : Nm) (h : leN a b = true) (k : leN b c = true) : leN a c = true := (leN_iff _ _).mpr (List.le_trans ((leN_iff _ _).mp h) ((leN_iff _ _).mp k))
theorem leN_total (a b : Nm) : (leN a b || leN b a) = true := by
  rw [Bool.or_eq_true, leN_iff, leN_iff]
  exact List.le_total _ _
theorem leN_anti {a b : Nm} (h : leN a b = true) (k : leN b a = true) : a = b := Subtype.ext (cps_ext (List.le_antisymm ((leN_iff _ _).mp h) ((leN_iff _ _).mp k)))
theorem leN_refl (a : Nm) : leN a a = true := (leN_iff _ _).mpr (List.le_refl _)
theorem srtN_eq (l : List Nm) : srt l = l.mergeSort leN := rfl
theorem srtN_sorted (l : List Nm) : (srt l).Pairwise fun a b => leN a b = true := List.pairwise_mergeSort leN_trans leN_total l
theorem srtN_unique {l m : List Nm} (h : l.Perm m) (hl : l.Pairwise fun a b => leN a b = true) (hm : m.Pairwise fun a b => leN a b = true) : l = m :=
  List.Perm.eq_of_pairwise (le := fun a b => leN a b = true) (fun a b _ _ => leN_anti) hl hm h
theorem srtN_perm {l m : List Nm} (h : l.Perm m) : srt l = srt m := srtN_unique (((srt_perm l).trans h).trans (srt_perm m).symm) (srtN_sorted l) (srtN_sorted m)
theorem srtN_filter (p : Nm → Bool) {l m : List Nm} (h : l.Perm m) : srt (l.filter p) = (srt m).filter p :=
  srtN_unique (((srt_perm _).trans (h.filter p)).trans ((srt_perm m).symm.filter p)) (srtN_sorted _) ((srtN_sorted m).filter p)
theorem minOf_mem {α : Type} [DecidableEq α] [DatumOrd α] (a : α) (l : List α) : minOf a l ∈ a :: l := by
  unfold minOf
  exact fold_mem (fun x y => DatumOrd.lt x y) l a
theorem minN_le : ∀ (l : List Nm) (a : Nm), leN (minOf a l) a = true ∧ ∀ b ∈ l, leN (minOf a l) b = true
  | [], a => ⟨leN_refl a, fun b h => nomatch h⟩
  | b :: l, a => by
    have e : minOf a (b :: l) = minOf (if DatumOrd.lt b a = true then b else a) l := rfl
    obtain ⟨h1, h2⟩ := minN_le l (if DatumOrd.lt b a = true then b else a)
    rw [e]
    by_cases h : DatumOrd.lt b a = true
    · rw [if_pos h] at h1 h2 ⊢
      have hba : leN b a = true := (leN_iff _ _).mpr (List.le_of_lt (by rw [ltN] at h; exact h))
      refine ⟨leN_trans _ _ _ h1 hba, fun c hc => ?_⟩
      rcases List.mem_cons.mp hc with rfl | hc
      · exact h1
      · exact h2 c hc
    · rw [if_neg h] at h1 h2 ⊢
      have hab : leN a b = true := by unfold leN; simp [h]
      refine ⟨h1, fun c hc => ?_⟩
      rcases List.mem_cons.mp hc with rfl | hc
      · exact leN_trans _ _ _ h1 hab
      · exact h2 c hc
/-- the least name stands first -/
theorem srt_head (a : Nm) (l : List Nm) : (srt (a :: l))[0]? = some (minOf a l) := by
  cases e : srt (a :: l) with
  | nil =>
    have := srt_len (a :: l)
    rw [e] at this; simp at this
  | cons b m =>
    have hs := srtN_sorted (a :: l)
    rw [e] at hs
    obtain ⟨h1, _⟩ := List.pairwise_cons.mp hs
    have hb : b ∈ a :: l := srt_mem.mp (by rw [e]; exact List.mem_cons_self)
    have hm : minOf a l ∈ b :: m := by rw [← e]; exact srt_mem.mpr (minOf_mem a l)
    obtain ⟨k1, k2⟩ := minN_le l a
    have h3 : leN (minOf a l) b = true := by
      rcases List.mem_cons.mp hb with rfl | hb
      · exact k1
      · exact k2 b hb
    show some b = _
    rcases List.mem_cons.mp hm with h4 | h4
    · rw [h4]
    · rw [leN_anti (h1 _ h4) h3]
/-! ways between places -/
def Adj (ws : List Way) (x y : Nm) : Prop := ∃ w ∈ ws, (x = w.a ∧ y = w.b) ∨ (x = w.b ∧ y = w.a)
theorem Adj.symm {ws : List Way} {x y : Nm} (h : Adj ws x y) : Adj ws y x := by
  obtain ⟨w, hw, h⟩ := h
  exact ⟨w, hw, h.symm.imp (fun h => ⟨h.2, h.1⟩) fun h => ⟨h.2, h.1⟩⟩
theorem adj_nbr {ws : List Way} {x y : Nm} : Adj ws x y ↔ ∃ c, (y, c) ∈ nbr ws x := by
  unfold nbr Adj
  simp only [List.mem_flatMap, List.mem_append]
  constructor
  · rintro ⟨w, hw, ⟨rfl, rfl⟩ | ⟨rfl, rfl⟩⟩
    · exact ⟨w.c, w, hw, .inl (by rw [if_pos rfl]; exact List.mem_singleton.mpr rfl)⟩
    · exact ⟨w.c, w, hw, .inr (by rw [if_pos rfl]; exact List.mem_singleton.mpr rfl)⟩
  · rintro ⟨c, w, hw, h | h⟩
    · split at h
      · rename_i e
        have := List.mem_singleton.mp h
        injection this with h1 h2
        exact ⟨w, hw, .inl ⟨e, h1⟩⟩
      · cases h
    · split at h
      · rename_i e
        have := List.mem_singleton.mp h
        injection this with h1 h2
        exact ⟨w, hw, .inr ⟨e, h1⟩⟩
      · cases h
theorem adj_ord {ws : List Way} {x y : Nm} : Adj (srt (ws.map ordW)) x y ↔ Adj ws x y := by
  unfold Adj
  constructor
  · rintro ⟨w, hw, h⟩
    obtain ⟨v, hv, rfl⟩ := List.mem_map.mp (srt_mem.mp hw)
    refine ⟨v, hv, ?_⟩
    rcases ordW_ends v with ⟨h1, h2⟩ | ⟨h1, h2⟩
    · rcases h with ⟨h3, h4⟩ | ⟨h3, h4⟩
      · exact .inl ⟨h3.trans h1, h4.trans h2⟩
      · exact .inr ⟨h3.trans h2, h4.trans h1⟩
    · rcases h with ⟨h3, h4⟩ | ⟨h3, h4⟩
      · exact .inr ⟨h3.trans h1, h4.trans h2⟩
      · exact .inl ⟨h3.trans h2, h4.trans h1⟩
  · rintro ⟨v, hv, h⟩
    refine ⟨ordW v, srt_mem.mpr (List.mem_map_of_mem hv), ?_⟩
    show (x = minN v.a v.b ∧ y = maxN v.a v.b) ∨ (x = maxN v.a v.b ∧ y = minN v.a v.b)
    rcases ordW_ends v with ⟨h1, h2⟩ | ⟨h1, h2⟩ <;> rw [h1, h2]
    · exact h
    · exact h.symm
/-- all hangs together -/
def Con1 (V : List Nm) (ws : List Way) : Prop := ∀ S : Nm → Prop, (∀ x y, Adj ws x y → S x → S y) → ∀ x ∈ V, ∀ y ∈ V, S x → S y
theorem Web.con {l : List Nm} {ws : List Way} (h : Web l ws) : Con1 l ws := by
  obtain ⟨es, rfl, h1, h2⟩ := h
  intro S hS
  have k := h1.conn (fun i => S (gN l i)) fun e he => ⟨fun h => hS _ _ ⟨wyOf l e, List.mem_map_of_mem he, .inl ⟨rfl, rfl⟩⟩ h, fun h => hS _ _ ⟨wyOf l e, List.mem_map_of_mem he, .inr ⟨rfl, rfl⟩⟩ h⟩
  intro x hx y hy hsx
  obtain ⟨i, hi, rfl⟩ := mem_gN hx
  obtain ⟨j, hj, rfl⟩ := mem_gN hy
  exact (k j hj).mp ((k i hi).mpr hsx)
theorem Con1.ord {l : List Nm} {ws : List Way} (h : Con1 l ws) : Con1 (srt l) (srt (ws.map ordW)) := fun S hS x hx y hy => h S (fun a b hab => hS a b (adj_ord.mpr hab)) x (srt_mem.mp hx) y (srt_mem.mp hy)
/-- each place but the root has a place above it, nearer to the root -/
def PS (V : List Nm) (ws : List Way) (r : Nm) (p : Nm → Nm) (rk : Nm → Nat) : Prop := ∀ x ∈ V, x ≠ r → p x ∈ V ∧ Adj ws x (p x) ∧ rk (p x) < rk x
theorem PS.unique {V : List Nm} {ws : List Way} {r : Nm} {p q : Nm → Nm} {rk rk' : Nm → Nat} (hn : V.Nodup) (hr : r ∈ V) (hl : ws.length + 1 = V.length) (h : PS V ws r p rk) (k : PS V ws r q rk') : ∀ x ∈ V, x ≠ r → p x = q x := by
  -- a way for each place
  have hw : ∀ x, ∃ w : Way, x ∈ V → x ≠ r → w ∈ ws ∧ ((x = w.a ∧ p x = w.b) ∨ (x = w.b ∧ p x = w.a)) := fun x => by
    by_cases hx : x ∈ V ∧ x ≠ r
    · obtain ⟨_, ⟨w, h1, h2⟩, _⟩ := h x hx.1 hx.2
      exact ⟨w, fun _ _ => ⟨h1, h2⟩⟩
    · exact ⟨⟨x, x, 0⟩, fun h1 h2 => (hx ⟨h1, h2⟩).elim⟩
  obtain ⟨f, hf⟩ : ∃ f : Nm → Way, ∀ x, x ∈ V → x ≠ r → f x ∈ ws ∧ ((x = (f x).a ∧ p x = (f x).b) ∨ (x = (f x).b ∧ p x = (f x).a)) := ⟨fun x => Classical.choose (hw x), fun x => Classical.choose_spec (hw x)⟩
  have inj : ∀ x ∈ V, x ≠ r → ∀ y ∈ V, y ≠ r → f x = f y → x = y := fun x hx hxr y hy hyr e => by
    have h1 := (hf x hx hxr).2
    have h2 := (hf y hy hyr).2
    rw [← e] at h2
    have r1 := (h x hx hxr).2.2
    have r2 := (h y hy hyr).2.2
    rcases h1 with ⟨a1, a2⟩ | ⟨a1, a2⟩ <;> rcases h2 with ⟨b1, b2⟩ | ⟨b1, b2⟩
    · rw [a1, b1]
    · have e1 : p x = y := a2.trans b1.symm
      have e2 : p y = x := b2.trans a1.symm
      rw [e1] at r1; rw [e2] at r2; omega
    · have e1 : p x = y := a2.trans b1.symm
      have e2 : p y = x := b2.trans a1.symm
      rw [e1] at r1; rw [e2] at r2; omega
    · rw [a1, b1]
  have hV : ∀ x, x ∈ V.erase r ↔ x ≠ r ∧ x ∈ V := fun x => List.Nodup.mem_erase_iff hn
  have hLn : ((V.erase r).map f).Nodup := by
    rw [List.nodup_iff_pairwise_ne, List.pairwise_map]
    refine List.Pairwise.imp_of_mem ?_ (hn.erase r)
    intro a b ha hb hab e
    have ha := (hV a).mp ha
    have hb := (hV b).mp hb
    exact hab (inj a ha.2 ha.1 b hb.2 hb.1 e)
  have hLs : ∀ w ∈ (V.erase r).map f, w ∈ ws := fun w hw => by
    obtain ⟨x, hx, rfl⟩ := List.mem_map.mp hw
    have hx := (hV x).mp hx
    exact (hf x hx.2 hx.1).1
  have hLl : ((V.erase r).map f).length = ws.length := by
    rw [List.length_map, List.length_erase_of_mem hr]; omega
  have cover : ∀ w ∈ ws, ∃ y ∈ V, y ≠ r ∧ f y = w := fun w hw => by
    by_cases hm : w ∈ (V.erase r).map f
    · obtain ⟨x, hx, e⟩ := List.mem_map.mp hm
      have hx := (hV x).mp hx
      exact ⟨x, hx.2, hx.1, e⟩
    · exfalso
      have := nodup_len (m := ws.erase w) hLn fun v hv => (List.mem_erase_of_ne (by rintro rfl; exact hm hv)).mpr (hLs v hv)
      rw [List.length_erase_of_mem hw, hLl] at this
      have := List.length_pos_of_mem hw
      omega
  have main : ∀ n x, rk' x ≤ n → x ∈ V → x ≠ r → p x = q x := by
    intro n
    induction n with
    | zero =>
      intro x hn hx hxr
      have := (k x hx hxr).2.2
      omega
    | succ n ih =>
      intro x hn hx hxr
      obtain ⟨k1, ⟨w, hw, h1⟩, k3⟩ := k x hx hxr
      obtain ⟨y, hy, hyr, rfl⟩ := cover w hw
      have h2 := (hf y hy hyr).2
      by_cases hyx : y = x
      · subst hyx
        rcases h1 with ⟨a1, a2⟩ | ⟨a1, a2⟩ <;> rcases h2 with ⟨b1, b2⟩ | ⟨b1, b2⟩
        · rw [b2, a2]
        · exact (b2.trans a1.symm).trans (b1.trans a2.symm)
        · exact (b2.trans a1.symm).trans (b1.trans a2.symm)
        · rw [b2, a2]
      · have hy1 : y = q x ∧ p y = x := by
          rcases h1 with ⟨a1, a2⟩ | ⟨a1, a2⟩ <;> rcases h2 with ⟨b1, b2⟩ | ⟨b1, b2⟩
          · exact (hyx (b1.trans a1.symm)).elim
          · exact ⟨b1.trans a2.symm, b2.trans a1.symm⟩
          · exact ⟨b1.trans a2.symm, b2.trans a1.symm⟩
          · exact (hyx (b1.trans a1.symm)).elim
        obtain ⟨rfl, hp⟩ := hy1
        have e := ih (q x) (by omega) k1 hyr
        have := (k (q x) k1 hyr).2.2
        rw [← e, hp] at this
        omega
  exact fun x => main _ x (Nat.le_refl _)
/-- one place more -/
theorem PS.snoc {F : List Nm} {ws : List Way} {r here y : Nm} {p : Nm → Nm} (h : PS F ws r p fun x => F.idxOf x) (hh : here ∈ F) (hy : y ∉ F) (ha : Adj ws y here) : PS (F ++ [y]) ws r (fun x => if x = y then here else p x) fun x => (F ++ [y]).idxOf x := by
  have hi : ∀ x ∈ F, (F ++ [y]).idxOf x = F.idxOf x := fun x hx => by rw [List.idxOf_append, if_pos hx]
  have hiy : (F ++ [y]).idxOf y = F.length := by rw [List.idxOf_append, if_neg hy]; simp
  intro x hx hxr
  by_cases hxy : x = y
  · subst hxy
    show (if x = x then here else p x) ∈ _ ∧ Adj ws x (if x = x then here else p x) ∧ List.idxOf (if x = x then here else p x) (F ++ [x]) < _
    rw [if_pos rfl]
    refine ⟨List.mem_append_left _ hh, ha, ?_⟩
    show (F ++ [x]).idxOf here < (F ++ [x]).idxOf x
    rw [hi _ hh, hiy]
    exact List.idxOf_lt_length_of_mem hh
  · have hxF : x ∈ F := by
      rcases List.mem_append.mp hx with h | h
      · exact h
      · exact (hxy (List.mem_singleton.mp h)).elim
    obtain ⟨h1, h2, h3⟩ := h x hxF hxr
    show (if x = y then here else p x) ∈ _ ∧ Adj ws x (if x = y then here else p x) ∧ List.idxOf (if x = y then here else p x) (F ++ [y]) < List.idxOf x (F ++ [y])
    rw [if_neg hxy]
    refine ⟨List.mem_append_left _ h1, h2, ?_⟩
    rw [hi _ h1, hi _ hxF]; exact h3
/-! reading dicts by names -/
section
variable {ρ : Env} {E : XE} {α : Type} [DecidableEq α] [Dt α]
theorem map_set_at {l : List Nm} {f f' : Nm → D} {a : Nm} {j : Nat} {y : D} (hn : l.Nodup) (hj : l[j]? = some a) (h1 : f' a = y) (h2 : ∀ x ∈ l, x ≠ a → f' x = f x) : (l.map f).set j y = l.map f' := by
  obtain ⟨hj1, ej⟩ := List.getElem?_eq_some_iff.mp hj
  refine List.ext_getElem? fun k => ?_
  rw [List.getElem?_set, List.getElem?_map, List.getElem?_map, List.length_map]
  by_cases hk : j = k
  · subst hk
    rw [if_pos rfl, if_pos hj1, hj]
    show _ = some (f' a)
    rw [h1]
  · rw [if_neg hk]
    cases e : l[k]? with
    | none => rfl
    | some b =>
      have hb : b ≠ a := by
        rintro rfl
        obtain ⟨hk1, e1⟩ := List.getElem?_eq_some_iff.mp e
        exact hk ((List.getElem_inj hn).mp (ej.trans e1.symm))
      show some _ = some (f' b)
      rw [h2 b (List.mem_of_getElem? e) hb]
theorem w_rdD {i : Nat} {l : List Nm} {o : Nm → Bool} {g : Nm → List α} {a : Nm} {P : D → Env → Prop} (e : ρ[i]? = some (some (.nd (.dic true (l.map kN)) (l.map fun x => .nd (.lst (o x)) ((g x).map Dt.d))))) (hn : l.Nodup) (ha : a ∈ l)
    (h : P (.nd (.lst false) ((g a).map Dt.d)) (ρ.set i (some (.nd (.dic true (l.map kN)) (l.map fun x => .nd (.lst (if x = a then false else o x)) ((g x).map Dt.d)))))) : Wp (pixA (.at i []) (.str a.1)) ρ (fun pl ρ1 => Wp (rdPl pl) ρ1 P E) E := by
  obtain ⟨j, hj, ej⟩ := List.mem_iff_getElem.mp ha
  have hj' : l[j]? = some a := by rw [List.getElem?_eq_getElem hj, ej]
  have hat : (l.map fun x => D.nd (.lst (o x)) ((g x).map Dt.d))[j]? = some (.nd (.lst (o a)) ((g a).map Dt.d)) := by rw [List.getElem?_map, hj']; rfl
  refine w_dicO e hn hj' (w_rdF (atP_1 e rfl hat) ?_)
  rw [putP_1 e hat, frz_lst, map_set_at (f' := fun x => .nd (.lst (if x = a then false else o x)) ((g x).map Dt.d)) hn hj' (by rw [if_pos rfl]) fun x _ hx => by rw [if_neg hx]]
  exact h
theorem w_inD {a : Nm} {o : Bool} {l : List Nm} {ds : List D} {P : D → Env → Prop} (hl : ds.length = l.length) (h : P (.bl (decide (a ∈ l))) ρ) : Wp (lft (fIn (.str a.1) (.nd (.dic o (l.map kN)) ds))) ρ P E := w_lft (by
  show (if (l.map kN).length = ds.length then (some (Sum.inr a.1 : Key)).map fun k => (findK (l.map kN) k).isSome else none).map D.bl = _
  rw [if_pos (by rw [List.length_map]; omega)]
  show some (D.bl (findK (l.map kN) (.inr a.1)).isSome) = some (D.bl (decide (a ∈ l)))
  congr 2
  by_cases ha : a ∈ l
  · rw [decide_eq_true ha]
    cases q : findK (l.map kN) (.inr a.1) with
    | some j => rfl
    | none => exact (findK_none q (List.mem_map_of_mem (f := kN) ha)).elim
  · rw [decide_eq_false ha, findK_not ha]; rfl) h
theorem w_ninD {a : Nm} {o : Bool} {l : List Nm} {ds : List D} {P : D → Env → Prop} (hl : ds.length = l.length) (h : P (.bl (!decide (a ∈ l))) ρ) : Wp (lft (fNotIn (.str a.1) (.nd (.dic o (l.map kN)) ds))) ρ P E := w_lft (by
  show (if (l.map kN).length = ds.length then (some (Sum.inr a.1 : Key)).map fun k => (findK (l.map kN) k).isSome else none).map (fun b => D.bl (!b)) = _
  rw [if_pos (by rw [List.length_map]; omega)]
  show some (D.bl (!(findK (l.map kN) (.inr a.1)).isSome)) = some (D.bl (!decide (a ∈ l)))
  congr 3
  by_cases ha : a ∈ l
  · rw [decide_eq_true ha]
    cases q : findK (l.map kN) (.inr a.1) with
    | some j => rfl
    | none => exact (findK_none q (List.mem_map_of_mem (f := kN) ha)).elim
  · rw [decide_eq_false ha, findK_not ha]; rfl) h
theorem w_pop {i : Nat} {l : List α} {a : α} {P : D → Env → Prop} (e : ρ[i]? = some (some (.nd (.lst true) ((l ++ [a]).map Dt.d)))) (h : P (Dt.d a) (ρ.set i (some (.nd (.lst true) (l.map Dt.d))))) : Wp (mMt0 i "list" foPop (pur [])) ρ P E := by
  unfold Wp mMt0
  rw [atP_nil e]
  dsimp only
  rw [if_pos ⟨rfl, rfl⟩]
  unfold bnd pur
  dsimp only
  rw [atP_nil e]
  dsimp only
  have hc : (Con.lst true).isO = true := rfl
  have hfo : foPop (.lst true) ((l ++ [a]).map Dt.d) [] = some (Dt.d a, .lst true, l.map Dt.d) := by
    show (((l ++ [a]).map Dt.d)[((l ++ [a]).map Dt.d).length - 1]?).map _ = _
    rw [List.map_append]
    simp
  rw [if_pos hc, hfo]
  dsimp only
  rw [putP_nil e]; exact h
theorem w_clear {i : Nat} {ds : List D} {P : D → Env → Prop} (e : ρ[i]? = some (some (.nd (.lst true) ds))) (h : P .non (ρ.set i (some (.nd (.lst true) [])))) : Wp (mMt0 i "list" foClear (pur [])) ρ P E := by
  unfold Wp mMt0
  rw [atP_nil e]
  dsimp only
  rw [if_pos ⟨rfl, rfl⟩]
  unfold bnd pur
  dsimp only
  rw [atP_nil e]
  dsimp only
  have hc : (Con.lst true).isO = true := rfl
  have hfo : foClear (.lst true) ds [] = some (.non, .lst true, []) := rfl
  rw [if_pos hc, hfo]
  dsimp only
  rw [putP_nil e]; exact h
end
/-! what stands above each place -/
def upD (r : Nm) (p : Nm → Nm) (x : Nm) : D := if x = r then .non else .str (p x).1
def foundD (F : List Nm) (r : Nm) (p : Nm → Nm) : D := .nd (.dic true (F.map kN)) (F.map (upD r p))
theorem upD_frz (r : Nm) (p : Nm → Nm) (x : Nm) : (upD r p x).frz = upD r p x := by unfold upD; split <;> rfl
theorem upD_snoc {F : List Nm} {r y here : Nm} {p : Nm → Nm} (hy : y ∉ F) (hr : y ≠ r) : F.map (upD r p) ++ [Dt.d here] = (F ++ [y]).map (upD r fun x => if x = y then here else p x) := by
  rw [List.map_append]
  congr 1
  · refine List.map_congr_left fun x hx => ?_
    show (if x = r then D.non else D.str (p x).1) = if x = r then D.non else D.str (if x = y then here else p x : Nm).1
    rw [if_neg (show x ≠ y from fun e => hy (e ▸ hx))]
  · show [_] = [upD r _ y]
    show [D.str here.1] = [if y = r then D.non else D.str (if y = y then here else p y : Nm).1]
    rw [if_neg hr, if_pos rfl]
theorem fEq_up (r : Nm) (p : Nm → Nm) (x y : Nm) : fEq (upD r p x) (.str y.1) = some (.bl (decide (x ≠ r ∧ p x = y))) := by
  unfold upD
  by_cases h : x = r
  · rw [if_pos h, fEq_py (n := 0) (m := 0) .non (.str y.sok.ok) (by omega) (by omega)]
    rw [decide_eq_false (fun k => k.1 h)]
    simp [PyData.eqv]
  · rw [if_neg h, fEq_py (n := 0) (m := 0) (.str (p x).sok.ok) (.str y.sok.ok) (by omega) (by omega), eqv_str]
    congr 2
    exact decide_eq_decide.mpr ⟨fun e => ⟨h, Subtype.ext e⟩, fun e => by rw [e.2]⟩
theorem fNe_up (r : Nm) (p : Nm → Nm) (x : Nm) : fNe (upD r p x) (upD r p x) = some (.bl false) := by
  unfold upD
  by_cases h : x = r
  · rw [if_pos h, fNe_py (n := 0) (m := 0) .non .non (by omega) (by omega)]
    simp [PyData.eqv]
  · rw [if_neg h, fNe_py (n := 0) (m := 0) (.str (p x).sok.ok) (.str (p x).sok.ok) (by omega) (by omega), eqv_str]
    simp
/-! walks from the root -/
structure WOk (l : List Nm) (ws : List Way) (r : Nm) (K : List Nm) (q : Nm → Nm) (W : Nm → List Nm) : Prop where
  nd : K.Nodup
  sub : ∀ x ∈ K, x ∈ l
  rt : r ∈ K
  ps : PS K ws r q fun x => K.idxOf x
  w0 : W r = [r]
  w1 : ∀ x ∈ K, x ≠ r → W x = W (q x) ++ [x]
  len : ∀ x ∈ K, (W x).length ≤ K.length
theorem WOk.snoc {l : List Nm} {ws : List Way} {r : Nm} {K : List Nm} {q : Nm → Nm} {W : Nm → List Nm} (h : WOk l ws r K q W) {one y : Nm} (hh : one ∈ K) (hy : y ∉ K) (hyl : y ∈ l) (ha : Adj ws y one) : WOk l ws r (K ++ [y]) (fun x => if x = y then one else q x) (fun x => if x = y then W one ++ [y] else W x) := by
  have hne : ∀ x ∈ K, x ≠ y := fun x hx e => hy (e ▸ hx)
  have split : ∀ x ∈ K ++ [y], x ∈ K ∨ x = y := fun x hx => (List.mem_append.mp hx).imp id List.mem_singleton.mp
  refine ⟨List.nodup_append.mpr ⟨h.nd, by simp, fun a ha b hb e => hy (by rw [List.mem_singleton.mp hb] at e; exact e ▸ ha)⟩, fun x hx => ?_, List.mem_append_left _ h.rt, h.ps.snoc hh hy ha, ?_, fun x hx hxr => ?_, fun x hx => ?_⟩
  · rcases split x hx with h1 | rfl
    · exact h.sub x h1
    · exact hyl
  · show (if r = y then _ else W r) = _
    rw [if_neg (hne r h.rt), h.w0]
  · show (if x = y then W one ++ [y] else W x) = (if (if x = y then one else q x) = y then W one ++ [y] else W (if x = y then one else q x)) ++ [x]
    rcases split x hx with h1 | rfl
    · rw [if_neg (hne x h1), if_neg (hne x h1), if_neg (hne _ (h.ps x h1 hxr).1)]
      exact h.w1 x h1 hxr
    · rw [if_pos rfl, if_pos rfl, if_neg (hne one hh)]
  · show (if x = y then W one ++ [y] else W x).length ≤ _
    rw [List.length_append, List.length_singleton]
    rcases split x hx with h1 | rfl
    · rw [if_neg (hne x h1)]; have := h.len x h1; omega
    · rw [if_pos rfl, List.length_append, List.length_singleton]; have := h.len one hh; omega
theorem WOk.ends {l : List Nm} {ws : List Way} {r : Nm} {K : List Nm} {q : Nm → Nm} {W : Nm → List Nm} (h : WOk l ws r K q W) (x : Nm) (hx : x ∈ K) : ∃ L, W x = L ++ [x] := by
  by_cases hr : x = r
  · subst hr; exact ⟨[], h.w0⟩
  · exact ⟨_, h.w1 x hx hr⟩
def walkD (b : Bool) (K : List Nm) (W : Nm → List Nm) (o : Nm → Bool) : D := .nd (.dic b (K.map kN)) (K.map fun x => .nd (.lst (o x)) ((W x).map Dt.d))
theorem walk_snoc {K : List Nm} {W : Nm → List Nm} {o : Nm → Bool} {one y : Nm} (hy : y ∉ K) : (K.map fun x => D.nd (.lst (o x)) ((W x).map Dt.d)) ++ [D.nd (.lst true) ((W one ++ [y]).map Dt.d)] = (K ++ [y]).map fun x => D.nd (.lst (if x = y then true else o x)) ((if x = y then W one ++ [y] else W x).map Dt.d) := by
  refine Eq.trans ?_ List.map_append.symm
  congr 1
  · refine List.map_congr_left fun x hx => ?_
    have : x ≠ y := fun e => hy (e ▸ hx)
    rw [if_neg this, if_neg this]
  · show [_] = [D.nd (.lst (if y = y then true else o y)) ((if y = y then W one ++ [y] else W y).map Dt.d)]
    rw [if_pos rfl, if_pos rfl]
theorem walkD_frz (b : Bool) (K : List Nm) (W : Nm → List Nm) (o : Nm → Bool) : (walkD b K W o).frz = walkD false K W fun _ => false := by
  unfold walkD
  rw [frz_nd, List.map_map]
  show D.nd (.dic false _) _ = _
  congr 1
  exact List.map_congr_left fun x _ => frz_lst _ _
end DL
namespace Wk
open PySem PySem.Spec L2 DL
def FUEL : Nat := 1000000
def top (i : Nat) : Stmt := PySem.Challenge.pw_openhouses_k07_whole_up_and_down_a_tree.main.body.getD i (.Pass ⟨0, 0, 0, 0⟩)
noncomputable section
variable {prog : Program} {w : World} {K : PySem.W.Frag} {mg : Str → Option Value} {base : Heap} {cv : CV}
/-! _law_pen -/
abbrev s__law_pen : Stmt := top 8
abbrev N__law_pen : List Str := ["_law_script"]
def m__law_pen : M Fl := (mRet (mDic (mPr (pur (.str "script")) (mVar 0) (mPr (pur (.str "at")) (pur (.int 0)) (mPr (pur (.str "left")) (pur (.int 0)) (pur ([], [])))))))
def F__law_pen : List D → R (List D) D := mkF 1 [false] m__law_pen
theorem sc__law_pen : FnScope N__law_pen ["_law_script"] (defScope s__law_pen) := ⟨rfl, rfl, rfl, by decide +kernel, rfl, by decide +kernel, by decide +kernel⟩
theorem ok__law_pen {f : Addr} {fd : FuncData} (F : FunD K "_law_pen" "_law_pen" (defArgs s__law_pen) (defBody s__law_pen) (defScope s__law_pen) [] [] f fd) (gf : mg "_law_pen" = some (.ref f))  : Dk prog w K mg base cv 1 "_law_pen" ["_law_script"] [false] F__law_pen :=
  dk_of_fn (N := N__law_pen) F gf sc__law_pen rfl (fun _ _ _ _ _ _ us hl => match us, hl with | [_], _ => rfl) fun cdv A outer s H E c hr tk =>
  (sl_one (ss_ret (ee_dic (pr_cons ee_str (ee_var 0 (pv 0)) (pr_cons ee_str ee_int (pr_cons ee_str ee_int pr_nil))) rfl rfl (fun h => nomatch h) (by decide))))
/-! _law_take -/
abbrev s__law_take : Stmt := top 9
abbrev N__law_take : List Str := ["_law_pen_here", "_law_many", "_law_digit", "_law_script", "_law_at", "_law_cell", "_law_number"]
def m__law_take : M Fl := (mSeq (mIf (mB (mP2 fGt (mPix (mPv 0) (pur (.str "left"))) (mVl (pur (.int 0))))) (mSeq (mAsg (tgN 2) (m2 fMod (mRd (mPix (mPv 0) (pur (.str "left")))) (mVar 1)))
  (mSeq (mAsg (tgSub (mPv 0) (pur (.str "left"))) (m2 fDiv (mRd (mPix (mPv 0) (pur (.str "left")))) (mVar 1)))
  (mRet (mMov 2)))) (pur .nx))
  (mSeq (mAsg (tgN 3) (mRd (mPix (mPv 0) (pur (.str "script")))))
  (mSeq (mAsg (tgN 4) (mRd (mPix (mPv 0) (pur (.str "at")))))
  (mSeq (mAsg (tgSub (mPv 0) (pur (.str "at"))) (m2 fAdd (mVar 4) (pur (.int 1))))
  (mSeq (mAsg (tgN 5) (m2 fAdd (m2 fMul (pur (.int 7919)) (mVar 4)) (pur (.int 104729))))
  (mSeq (mIf (mB (mP2 fLt (mPv 4) (mVl (mV1 fLenV (mLk 3))))) (mSeq (mAsg (tgN 5) (mRd (mPix (mPv 3) (mVar 4))))
  (mIf (mB (mP2 fGe (mVl (mCB fAbs (mC (mVar 5) (pur [])))) (mVl (m2 fPow (pur (.int 10)) (pur (.int 18)))))) (mSeq (mAsg (tgSub (mPv 0) (pur (.str "left"))) (m2 fDiv (mCB fAbs (mC (mVar 5) (pur []))) (mVar 1)))
  (mRet (m2 fMod (mCB fAbs (mC (mVar 5) (pur []))) (mVar 1)))) (pur .nx))) (mIf (mB (mP2 fGt (mVl (mV1 fLenV (mLk 3))) (mVl (pur (.int 0))))) (mAsg (tgN 5) (m2 fAdd (m2 fMod (mRd (mPix (mPv 3) (m2 fMod (mVar 4) (mV1 fLenV (mLk 3))))) (m2 fPow (pur (.int 10)) (pur (.int 17)))) (m2 fMul (pur (.int 50021)) (mVar 4)))) (pur .nx)))
  (mSeq (mAsg (tgN 6) (m2 fMod (m2 fMul (m2 fAdd (m2 fAdd (m2 fMod (mVar 5) (pur (.int 2147483629))) (m2 fMul (pur (.int 40503)) (mVar 4))) (pur (.int 1))) (pur (.int 48271))) (pur (.int 2147483587))))
  (mSeq (mAsg (tgN 6) (m2 fMod (m2 fAdd (m2 fMul (mVar 6) (m2 fAdd (m2 fMod (mVar 6) (pur (.int 65521))) (pur (.int 69621)))) (pur (.int 12345))) (pur (.int 2147483563))))
  (mRet (m2 fMod (m2 fDiv (mVar 6) (pur (.int 64))) (mVar 1)))))))))))
def F__law_take : List D → R (List D) D := mkF 7 [true, false] m__law_take
theorem sc__law_take : FnScope N__law_take ["_law_pen_here", "_law_many"] (defScope s__law_take) := ⟨rfl, rfl, rfl, by decide +kernel, rfl, by decide +kernel, by decide +kernel⟩
theorem ok__law_take {f : Addr} {fd : FuncData} (F : FunD K "_law_take" "_law_take" (defArgs s__law_take) (defBody s__law_take) (defScope s__law_take) [] [] f fd) (gf : mg "_law_take" = some (.ref f)) (b_len : mg "len" = none) (b_abs : mg "abs" = none) : Dk prog w K mg base cv 1 "_law_take" ["_law_pen_here", "_law_many"] [true, false] F__law_take :=
  dk_of_fn (N := N__law_take) F gf sc__law_take rfl (fun _ _ _ _ _ _ us hl => match us, hl with | [_, _], _ => rfl) fun cdv A outer s H E c hr tk =>
  (sl_cons
    (ss_if (et_cmpP v_gt (ep_ix (hu1 hr) (ep_var 0 (pv 0)) ee_str (fun _ _ => rfl)) (ep_val ee_int) (nomark _)) (sl_cons
    (ss_set (by decide) sc__law_take.nd rfl (by first | exact .inl rfl | exact .inr rfl) (ee_op o_mod (ee_rd (ep_ix (hu1 hr) (ep_var 0 (pv 0)) ee_str (fun _ _ => rfl))) (ee_var 1 (pv 1))))
    (sl_cons
    (ss_asg (ee_op o_fdiv (ee_rd (ep_ix (hu1 hr) (ep_var 0 (pv 0)) ee_str (fun _ _ => rfl))) (ee_var 1 (pv 1))) (eg_sub (hu1 hr) (ep_var 0 (pv 0)) ee_str))
    (sl_one (ss_ret (ee_mov 2 (pv 2)))))) sl_nil)
    (sl_cons
    (ss_set (by decide) sc__law_take.nd rfl (by first | exact .inl rfl | exact .inr rfl) (ee_rd (ep_ix (hu1 hr) (ep_var 0 (pv 0)) ee_str (fun _ _ => rfl))))
    (sl_cons
    (ss_set (by decide) sc__law_take.nd rfl (by first | exact .inl rfl | exact .inr rfl) (ee_rd (ep_ix (hu1 hr) (ep_var 0 (pv 0)) ee_str (fun _ _ => rfl))))
    (sl_cons
    (ss_asg (ee_op o_add (ee_var 4 (pv 4)) ee_int) (eg_sub (hu1 hr) (ep_var 0 (pv 0)) ee_str))
    (sl_cons
    (ss_set (by decide) sc__law_take.nd rfl (by first | exact .inl rfl | exact .inr rfl) (ee_op o_add (ee_op o_mul ee_int (ee_var 4 (pv 4))) ee_int))
    (sl_cons
    (ss_if (et_cmpP v_lt (ep_var 4 (pv 4)) (ep_val (ee_lenV rfl b_len (by decide +kernel) (ev_var 3 (pv 3)))) (nomark _)) (sl_cons
    (ss_set (by decide) sc__law_take.nd rfl (by first | exact .inl rfl | exact .inr rfl) (ee_rd (ep_ix (hu1 hr) (ep_var 3 (pv 3)) (ee_var 4 (pv 4)) (fun _ _ => rfl))))
    (sl_one (ss_if (et_cmpP v_ge (ep_val (ee_callB (c_abs) rfl b_abs (by decide +kernel) (ea_cons (ee_var 5 (pv 5)) ea_nil))) (ep_val (ee_op o_pow ee_int ee_int)) (nomark _)) (sl_cons
    (ss_asg (ee_op o_fdiv (ee_callB (c_abs) rfl b_abs (by decide +kernel) (ea_cons (ee_var 5 (pv 5)) ea_nil)) (ee_var 1 (pv 1))) (eg_sub (hu1 hr) (ep_var 0 (pv 0)) ee_str))
    (sl_one (ss_ret (ee_op o_mod (ee_callB (c_abs) rfl b_abs (by decide +kernel) (ea_cons (ee_var 5 (pv 5)) ea_nil)) (ee_var 1 (pv 1)))))) sl_nil))) (sl_one (ss_if (et_cmpP v_gt (ep_val (ee_lenV rfl b_len (by decide +kernel) (ev_var 3 (pv 3)))) (ep_val ee_int) (nomark _)) (sl_one (ss_set (by decide) sc__law_take.nd rfl (by first | exact .inl rfl | exact .inr rfl) (ee_op o_add (ee_op o_mod (ee_rd (ep_ix (hu1 hr) (ep_var 3 (pv 3)) (ee_op o_mod (ee_var 4 (pv 4)) (ee_lenV rfl b_len (by decide +kernel) (ev_var 3 (pv 3)))) (fun _ _ => rfl))) (ee_op o_pow ee_int ee_int)) (ee_op o_mul ee_int (ee_var 4 (pv 4)))))) sl_nil)))
    (sl_cons
    (ss_set (by decide) sc__law_take.nd rfl (by first | exact .inl rfl | exact .inr rfl) (ee_op o_mod (ee_op o_mul (ee_op o_add (ee_op o_add (ee_op o_mod (ee_var 5 (pv 5)) ee_int) (ee_op o_mul ee_int (ee_var 4 (pv 4)))) ee_int) ee_int) ee_int))
    (sl_cons
    (ss_set (by decide) sc__law_take.nd rfl (by first | exact .inl rfl | exact .inr rfl) (ee_op o_mod (ee_op o_add (ee_op o_mul (ee_var 6 (pv 6)) (ee_op o_add (ee_op o_mod (ee_var 6 (pv 6)) ee_int) ee_int)) ee_int) ee_int))
    (sl_one (ss_ret (ee_op o_mod (ee_op o_fdiv (ee_var 6 (pv 6)) ee_int) (ee_var 1 (pv 1)))))))))))))
/-! _law_names -/
abbrev s__law_names : Stmt := top 10
abbrev N__law_names : List Str := ["_law_pen_here", "_law_many", "_law_letters", "_law_names_here", "_law_k", "_law_name", "_law_j", "_law_spare"]
def m__law_names : M Fl := (mSeq (mAsg (tgN 2) (pur (.str "abcdefghijklmnopqrstuvwxyz")))
  (mSeq (mAsg (tgN 3) (mLst (pur [])))
  (mSeq (mFor (mRange1 (mVar 1)) (tgN 4) (mSeq (mAsg (tgN 5) (pur (.str "")))
  (mSeq (mIf (mAndT (mB (mP2 fNe (mPv 3) (mVl (mLst (pur []))))) (mB (mP2 fEq (mVl (mCall [true, false] F__law_take (mSl 0 (mTm (pur (.int 4)) (pur []))))) (mVl (pur (.int 0)))))) (mAsg (tgN 5) (mSlice (mRd (mPix (mPv 3) (mUn fNeg (pur (.int 1))))) (pur none) (mPart (pur (.int 5))))) (pur .nx))
  (mSeq (mFor (mRange1 (m2 fAdd (pur (.int 1)) (mCall [true, false] F__law_take (mSl 0 (mTm (m2 fSub (pur (.int 6)) (mV1 fLenV (mLk 5))) (pur [])))))) (tgN 6) (mAsg (tgN 5) (m2 fAdd (mVar 5) (mRd (mPixs 2 (mCall [true, false] F__law_take (mSl 0 (mTm (pur (.int 26)) (pur [])))))))))
  (mSeq (mAsg (tgN 7) (pur (.int 0)))
  (mSeq (mWhile (mB (mP2 fIn (mPv 5) (mPv 3))) (mSeq (mAsg (tgN 5) (m2 fAdd (mRd (mPix (mPv 2) (m2 fMod (m2 fDiv (mVar 7) (pur (.int 26))) (pur (.int 26))))) (mRd (mPix (mPv 2) (m2 fMod (mVar 7) (pur (.int 26)))))))
  (mAsg (tgN 7) (m2 fAdd (mVar 7) (pur (.int 1))))) FUEL)
  (mExp (mMt0 3 "list" foAppend (mC (mVar 5) (pur []))))))))))
  (mRet (mMov 3)))))
def F__law_names : List D → R (List D) D := mkF 8 [true, false] m__law_names
theorem sc__law_names : FnScope N__law_names ["_law_pen_here", "_law_many"] (defScope s__law_names) := ⟨rfl, rfl, rfl, by decide +kernel, rfl, by decide +kernel, by decide +kernel⟩
theorem ok__law_names {f : Addr} {fd : FuncData} (F : FunD K "_law_names" "_law_names" (defArgs s__law_names) (defBody s__law_names) (defScope s__law_names) [] [] f fd) (gf : mg "_law_names" = some (.ref f)) (b_range : mg "range" = none) (b_len : mg "len" = none) (D__law_take : Dk prog w K mg base cv 1 "_law_take" ["_law_pen_here", "_law_many"] [true, false] F__law_take) : Dk prog w K mg base cv 2 "_law_names" ["_law_pen_here", "_law_many"] [true, false] F__law_names :=
  dk_of_fn (N := N__law_names) F gf sc__law_names rfl (fun _ _ _ _ _ _ us hl => match us, hl with | [_, _], _ => rfl) fun cdv A outer s H E c hr tk =>
  (sl_cons
    (ss_set (by decide) sc__law_names.nd rfl (by first | exact .inl rfl | exact .inr rfl) ee_str)
    (sl_cons
    (ss_set (by decide) sc__law_names.nd rfl (by first | exact .inl rfl | exact .inr rfl) (ee_lst ea_nil))
    (sl_cons
    (ss_for (passes_of rfl) rfl (ei_range1 rfl b_range (ee_var 1 (pv 1))) (eg_name (pg_name sc__law_names.nd rfl (by first | exact .inl rfl | exact .inr rfl)) (by decide)) (sl_cons
    (ss_set (by decide) sc__law_names.nd rfl (by first | exact .inl rfl | exact .inr rfl) ee_str)
    (sl_cons
    (ss_if (et_w (ew_and (et_cmpP (v_ne (hu64 hr)) (ep_var 3 (pv 3)) (ep_val (ee_lst ea_nil)) (nomark _)) (ew_and1 (et_cmpP (v_eq (hu64 hr)) (ep_val (ee_cd D__law_take hr (by decide) rfl tk (fun h => nomatch h) (er_sl 0 (pv 0) (er_tm ee_int er_nil)))) (ep_val ee_int) (nomark _))))) (sl_one (ss_set (by decide) sc__law_names.nd rfl (by first | exact .inl rfl | exact .inr rfl) (ee_slice (ee_rd (ep_ix (hu1 hr) (ep_var 3 (pv 3)) (ee_neg ee_int) (fun _ _ => rfl))) eo_none (eo_some ee_int)))) sl_nil)
    (sl_cons
    (ss_for (passes_of rfl) rfl (ei_range1 rfl b_range (ee_op o_add ee_int (ee_cd D__law_take hr (by decide) rfl tk (fun h => nomatch h) (er_sl 0 (pv 0) (er_tm (ee_op o_sub ee_int (ee_lenV rfl b_len (by decide +kernel) (ev_var 5 (pv 5)))) er_nil))))) (eg_name (pg_name sc__law_names.nd rfl (by first | exact .inl rfl | exact .inr rfl)) (by decide)) (sl_one (ss_set (by decide) sc__law_names.nd rfl (by first | exact .inl rfl | exact .inr rfl) (ee_op o_add (ee_var 5 (pv 5)) (ee_rd (ep_ixs 2 (hu1 hr) (pv 2) (ee_cd D__law_take hr (by decide) rfl tk (fun h => nomatch h) (er_sl 0 (pv 0) (er_tm ee_int er_nil))) (fun _ _ => rfl)))))))
    (sl_cons
    (ss_set (by decide) sc__law_names.nd rfl (by first | exact .inl rfl | exact .inr rfl) ee_int)
    (sl_cons
    (ss_while FUEL (passes_of rfl) (et_cmpP (v_in (hu65 hr)) (ep_var 5 (pv 5)) (ep_var 3 (pv 3)) rfl) (sl_cons
    (ss_set (by decide) sc__law_names.nd rfl (by first | exact .inl rfl | exact .inr rfl) (ee_op o_add (ee_rd (ep_ix (hu1 hr) (ep_var 2 (pv 2)) (ee_op o_mod (ee_op o_fdiv (ee_var 7 (pv 7)) ee_int) ee_int) (fun _ _ => rfl))) (ee_rd (ep_ix (hu1 hr) (ep_var 2 (pv 2)) (ee_op o_mod (ee_var 7 (pv 7)) ee_int) (fun _ _ => rfl)))))
    (sl_one (ss_set (by decide) sc__law_names.nd rfl (by first | exact .inl rfl | exact .inr rfl) (ee_op o_add (ee_var 7 (pv 7)) ee_int)))))
    (sl_one (ss_expr (ee_mt0 3 PySem.F.plainAttrs_list PySem.F.slot_list_append PySem.F.type_list_append m_append (pv 3) (ea_cons (ee_var 5 (pv 5)) ea_nil))))))))))
    (sl_one (ss_ret (ee_mov 3 (pv 3)))))))
/-! _law_length -/
abbrev s__law_length : Stmt := top 11
abbrev N__law_length : List Str := ["_law_pen_here", "_law_kind"]
def m__law_length : M Fl := (mSeq (mAsg (tgN 1) (mCall [true, false] F__law_take (mSl 0 (mTm (pur (.int 9)) (pur [])))))
  (mSeq (mIf (mB (mP2 fLt (mPv 1) (mVl (pur (.int 5))))) (mRet (m2 fAdd (pur (.int 1)) (mCall [true, false] F__law_take (mSl 0 (mTm (pur (.int 2)) (pur [])))))) (pur .nx))
  (mSeq (mIf (mB (mP2 fLt (mPv 1) (mVl (pur (.int 8))))) (mRet (m2 fAdd (pur (.int 1)) (mCall [true, false] F__law_take (mSl 0 (mTm (pur (.int 9)) (pur [])))))) (pur .nx))
  (mRet (m2 fSub (m2 fSub (m2 fPow (pur (.int 10)) (pur (.int 30))) (pur (.int 1))) (mCall [true, false] F__law_take (mSl 0 (mTm (pur (.int 3)) (pur [])))))))))
def F__law_length : List D → R (List D) D := mkF 2 [true] m__law_length
theorem sc__law_length : FnScope N__law_length ["_law_pen_here"] (defScope s__law_length) := ⟨rfl, rfl, rfl, by decide +kernel, rfl, by decide +kernel, by decide +kernel⟩
theorem ok__law_length {f : Addr} {fd : FuncData} (F : FunD K "_law_length" "_law_length" (defArgs s__law_length) (defBody s__law_length) (defScope s__law_length) [] [] f fd) (gf : mg "_law_length" = some (.ref f)) (D__law_take : Dk prog w K mg base cv 1 "_law_take" ["_law_pen_here", "_law_many"] [true, false] F__law_take) : Dk prog w K mg base cv 2 "_law_length" ["_law_pen_here"] [true] F__law_length :=
  dk_of_fn (N := N__law_length) F gf sc__law_length rfl (fun _ _ _ _ _ _ us hl => match us, hl with | [_], _ => rfl) fun cdv A outer s H E c hr tk =>
  (sl_cons
    (ss_set (by decide) sc__law_length.nd rfl (by first | exact .inl rfl | exact .inr rfl) (ee_cd D__law_take hr (by decide) rfl tk (fun h => nomatch h) (er_sl 0 (pv 0) (er_tm ee_int er_nil))))
    (sl_cons
    (ss_if (et_cmpP v_lt (ep_var 1 (pv 1)) (ep_val ee_int) (nomark _)) (sl_one (ss_ret (ee_op o_add ee_int (ee_cd D__law_take hr (by decide) rfl tk (fun h => nomatch h) (er_sl 0 (pv 0) (er_tm ee_int er_nil)))))) sl_nil)
    (sl_cons
    (ss_if (et_cmpP v_lt (ep_var 1 (pv 1)) (ep_val ee_int) (nomark _)) (sl_one (ss_ret (ee_op o_add ee_int (ee_cd D__law_take hr (by decide) rfl tk (fun h => nomatch h) (er_sl 0 (pv 0) (er_tm ee_int er_nil)))))) sl_nil)
    (sl_one (ss_ret (ee_op o_sub (ee_op o_sub (ee_op o_pow ee_int ee_int) ee_int) (ee_cd D__law_take hr (by decide) rfl tk (fun h => nomatch h) (er_sl 0 (pv 0) (er_tm ee_int er_nil)))))))))
/-! _law_tree -/
abbrev s__law_tree : Stmt := top 13
abbrev N__law_tree : List Str := ["_law_pen_here", "_law_names_here", "_law_shape", "_law_ways", "_law_k", "_law_j"]
def m__law_tree : M Fl := (mSeq (mAsg (tgN 2) (mCall [true, false] F__law_take (mSl 0 (mTm (pur (.int 3)) (pur [])))))
  (mSeq (mAsg (tgN 3) (mLst (pur [])))
  (mSeq (mFor (mRange2 (pur (.int 1)) (mV1 fLenV (mLk 1))) (tgN 4) (mSeq (mAsg (tgN 5) (m2 fIx (mLst (mC (m2 fSub (mVar 4) (pur (.int 1))) (mC (pur (.int 0)) (mC (mCall [true, false] F__law_take (mSl 0 (mTm (mVar 4) (pur [])))) (pur []))))) (mVar 2)))
  (mExp (mMt0 3 "list" foAppend (mC (mTup (mC (mRd (mPix (mPv 1) (mVar 5))) (mC (mRd (mPix (mPv 1) (mVar 4))) (mC (mCall [true] F__law_length (mSl 0 (pur []))) (pur []))))) (pur []))))))
  (mRet (mMov 3)))))
def F__law_tree : List D → R (List D) D := mkF 6 [true, false] m__law_tree
theorem sc__law_tree : FnScope N__law_tree ["_law_pen_here", "_law_names_here"] (defScope s__law_tree) := ⟨rfl, rfl, rfl, by decide +kernel, rfl, by decide +kernel, by decide +kernel⟩
theorem ok__law_tree {f : Addr} {fd : FuncData} (F : FunD K "_law_tree" "_law_tree" (defArgs s__law_tree) (defBody s__law_tree) (defScope s__law_tree) [] [] f fd) (gf : mg "_law_tree" = some (.ref f)) (b_range : mg "range" = none) (b_len : mg "len" = none) (D__law_length : Dk prog w K mg base cv 2 "_law_length" ["_law_pen_here"] [true] F__law_length) (D__law_take : Dk prog w K mg base cv 1 "_law_take" ["_law_pen_here", "_law_many"] [true, false] F__law_take) : Dk prog w K mg base cv 3 "_law_tree" ["_law_pen_here", "_law_names_here"] [true, false] F__law_tree :=
  dk_of_fn (N := N__law_tree) F gf sc__law_tree rfl (fun _ _ _ _ _ _ us hl => match us, hl with | [_, _], _ => rfl) fun cdv A outer s H E c hr tk =>
  (sl_cons
    (ss_set (by decide) sc__law_tree.nd rfl (by first | exact .inl rfl | exact .inr rfl) (ee_cd D__law_take hr (by decide) rfl tk (fun h => nomatch h) (er_sl 0 (pv 0) (er_tm ee_int er_nil))))
    (sl_cons
    (ss_set (by decide) sc__law_tree.nd rfl (by first | exact .inl rfl | exact .inr rfl) (ee_lst ea_nil))
    (sl_cons
    (ss_for (passes_of rfl) rfl (ei_range2 rfl b_range ee_int (ee_lenV rfl b_len (by decide +kernel) (ev_var 1 (pv 1)))) (eg_name (pg_name sc__law_tree.nd rfl (by first | exact .inl rfl | exact .inr rfl)) (by decide)) (sl_cons
    (ss_set (by decide) sc__law_tree.nd rfl (by first | exact .inl rfl | exact .inr rfl) (ee_ixv (hu1 hr) (ee_lst (ea_cons (ee_op o_sub (ee_var 4 (pv 4)) ee_int) (ea_cons ee_int (ea_cons (ee_cd D__law_take hr (by decide) rfl tk (fun h => nomatch h) (er_sl 0 (pv 0) (er_tm (ee_var 4 (pv 4)) er_nil))) ea_nil)))) (ee_var 2 (pv 2)) (fun _ _ => rfl)))
    (sl_one (ss_expr (ee_mt0 3 PySem.F.plainAttrs_list PySem.F.slot_list_append PySem.F.type_list_append m_append (pv 3) (ea_cons (ee_tup (ea_cons (ee_rd (ep_ix (hu1 hr) (ep_var 1 (pv 1)) (ee_var 5 (pv 5)) (fun _ _ => rfl))) (ea_cons (ee_rd (ep_ix (hu1 hr) (ep_var 1 (pv 1)) (ee_var 4 (pv 4)) (fun _ _ => rfl))) (ea_cons (ee_cd D__law_length hr (by decide) rfl tk (fun h => nomatch h) (er_sl 0 (pv 0) er_nil)) ea_nil)))) ea_nil))))))
    (sl_one (ss_ret (ee_mov 3 (pv 3)))))))
/-! _law_walks -/
abbrev s__law_walks : Stmt := top 14
abbrev N__law_walks : List Str := ["_law_names_here", "_law_ways", "_law_root", "_law_walks_here", "_law_turn", "_law_one", "_law_other", "_law_length_here"]
def m__law_walks : M Fl := (mSeq (mAsg (tgN 2) (mCB (fMin1 true) (mC (mVar 0) (pur []))))
  (mSeq (mAsg (tgN 3) (mDic (mPr (mVar 2) (mLst (mC (mVar 2) (pur []))) (pur ([], [])))))
  (mSeq (mFor (mRange1 (mV1 fLenV (mLk 0))) (tgN 4) (mFor (mIt (mVar 1)) (tgT 3 (tgsC (tgN 5) (tgsC (tgN 6) (tgsC (tgN 7) tgs0)))) (mSeq (mIf (mAndT (mB (mP2 fIn (mPv 5) (mPv 3))) (mB (mP2 fNotIn (mPv 6) (mPv 3)))) (mAsg (tgSub (mPv 3) (mVar 6)) (m2 fAdd (mRd (mPix (mPv 3) (mVar 5))) (mLst (mC (mVar 6) (pur []))))) (pur .nx))
  (mIf (mAndT (mB (mP2 fIn (mPv 6) (mPv 3))) (mB (mP2 fNotIn (mPv 5) (mPv 3)))) (mAsg (tgSub (mPv 3) (mVar 5)) (m2 fAdd (mRd (mPix (mPv 3) (mVar 6))) (mLst (mC (mVar 5) (pur []))))) (pur .nx)))))
  (mRet (mMov 3)))))
def F__law_walks : List D → R (List D) D := mkF 8 [false, false] m__law_walks
theorem sc__law_walks : FnScope N__law_walks ["_law_names_here", "_law_ways"] (defScope s__law_walks) := ⟨rfl, rfl, rfl, by decide +kernel, rfl, by decide +kernel, by decide +kernel⟩
theorem ok__law_walks {f : Addr} {fd : FuncData} (F : FunD K "_law_walks" "_law_walks" (defArgs s__law_walks) (defBody s__law_walks) (defScope s__law_walks) [] [] f fd) (gf : mg "_law_walks" = some (.ref f)) (b_range : mg "range" = none) (b_len : mg "len" = none) (b_min : mg "min" = none) : Dk prog w K mg base cv 1 "_law_walks" ["_law_names_here", "_law_ways"] [false, false] F__law_walks :=
  dk_of_fn (N := N__law_walks) F gf sc__law_walks rfl (fun _ _ _ _ _ _ us hl => match us, hl with | [_, _], _ => rfl) fun cdv A outer s H E c hr tk =>
  (sl_cons
    (ss_set (by decide) sc__law_walks.nd rfl (by first | exact .inl rfl | exact .inr rfl) (ee_callB (c_min1 true rfl (hu64 hr)) rfl b_min (by decide +kernel) (ea_cons (ee_var 0 (pv 0)) ea_nil)))
    (sl_cons
    (ss_set (by decide) sc__law_walks.nd rfl (by first | exact .inl rfl | exact .inr rfl) (ee_dic (pr_cons (ee_var 2 (pv 2)) (ee_lst (ea_cons (ee_var 2 (pv 2)) ea_nil)) pr_nil) rfl rfl (fun h => nomatch h) (by decide)))
    (sl_cons
    (ss_for (passes_of rfl) rfl (ei_range1 rfl b_range (ee_lenV rfl b_len (by decide +kernel) (ev_var 0 (pv 0)))) (eg_name (pg_name sc__law_walks.nd rfl (by first | exact .inl rfl | exact .inr rfl)) (by decide)) (sl_one (ss_for (passes_of rfl) rfl (ei_any (ee_var 1 (pv 1))) (eg_tup rfl (egs_cons (eg_name (pg_name sc__law_walks.nd rfl (by first | exact .inl rfl | exact .inr rfl)) (by decide)) (egs_cons (eg_name (pg_name sc__law_walks.nd rfl (by first | exact .inl rfl | exact .inr rfl)) (by decide)) (egs_cons (eg_name (pg_name sc__law_walks.nd rfl (by first | exact .inl rfl | exact .inr rfl)) (by decide)) egs_nil)))) (sl_cons
    (ss_if (et_w (ew_and (et_cmpP (v_in (hu65 hr)) (ep_var 5 (pv 5)) (ep_var 3 (pv 3)) rfl) (ew_and1 (et_cmpP (v_notIn (hu65 hr)) (ep_var 6 (pv 6)) (ep_var 3 (pv 3)) rfl)))) (sl_one (ss_asg (ee_op o_add (ee_rd (ep_ix (hu1 hr) (ep_var 3 (pv 3)) (ee_var 5 (pv 5)) (fun _ _ => rfl))) (ee_lst (ea_cons (ee_var 6 (pv 6)) ea_nil))) (eg_sub (hu1 hr) (ep_var 3 (pv 3)) (ee_var 6 (pv 6))))) sl_nil)
    (sl_one (ss_if (et_w (ew_and (et_cmpP (v_in (hu65 hr)) (ep_var 6 (pv 6)) (ep_var 3 (pv 3)) rfl) (ew_and1 (et_cmpP (v_notIn (hu65 hr)) (ep_var 5 (pv 5)) (ep_var 3 (pv 3)) rfl)))) (sl_one (ss_asg (ee_op o_add (ee_rd (ep_ix (hu1 hr) (ep_var 3 (pv 3)) (ee_var 6 (pv 6)) (fun _ _ => rfl))) (ee_lst (ea_cons (ee_var 5 (pv 5)) ea_nil))) (eg_sub (hu1 hr) (ep_var 3 (pv 3)) (ee_var 5 (pv 5))))) sl_nil))))))
    (sl_one (ss_ret (ee_mov 3 (pv 3)))))))
/-! near_by -/
abbrev s_near_by : Stmt := top 1
abbrev N_near_by : List Str := ["web", "near", "place", "one", "other", "length"]
def m_near_by : M Fl := (mSeq (mAsg (tgN 1) (pur (.nd (.dic true []) [])))
  (mSeq (mFor (mIt (mRd (mPix (mPv 0) (pur (.int 0))))) (tgN 2) (mAsg (tgSub (mPv 1) (mVar 2)) (mLst (pur []))))
  (mSeq (mFor (mIt (mRd (mPix (mPv 0) (pur (.int 1))))) (tgT 3 (tgsC (tgN 3) (tgsC (tgN 4) (tgsC (tgN 5) tgs0)))) (mSeq (mExp (mMtP "list" foAppend (mPix (mPv 1) (mVar 3)) (mC (mTup (mC (mVar 4) (mC (mVar 5) (pur [])))) (pur []))))
  (mExp (mMtP "list" foAppend (mPix (mPv 1) (mVar 4)) (mC (mTup (mC (mVar 3) (mC (mVar 5) (pur [])))) (pur []))))))
  (mRet (mMov 1)))))
def F_near_by : List D → R (List D) D := mkF 6 [false] m_near_by
theorem sc_near_by : FnScope N_near_by ["web"] (defScope s_near_by) := ⟨rfl, rfl, rfl, by decide +kernel, rfl, by decide +kernel, by decide +kernel⟩
theorem ok_near_by {f : Addr} {fd : FuncData} (F : FunD K "near_by" "near_by" (defArgs s_near_by) (defBody s_near_by) (defScope s_near_by) [] [] f fd) (gf : mg "near_by" = some (.ref f))  : Dk prog w K mg base cv 1 "near_by" ["web"] [false] F_near_by :=
  dk_of_fn (N := N_near_by) F gf sc_near_by rfl (fun _ _ _ _ _ _ us hl => match us, hl with | [_], _ => rfl) fun cdv A outer s H E c hr tk =>
  (sl_cons
    (ss_set (by decide) sc_near_by.nd rfl (by first | exact .inl rfl | exact .inr rfl) ee_dic0)
    (sl_cons
    (ss_for (passes_of rfl) rfl (ei_any (ee_rd (ep_ix (hu1 hr) (ep_var 0 (pv 0)) ee_int (fun _ _ => rfl)))) (eg_name (pg_name sc_near_by.nd rfl (by first | exact .inl rfl | exact .inr rfl)) (by decide)) (sl_one (ss_asg (ee_lst ea_nil) (eg_sub (hu1 hr) (ep_var 1 (pv 1)) (ee_var 2 (pv 2))))))
    (sl_cons
    (ss_for (passes_of rfl) rfl (ei_any (ee_rd (ep_ix (hu1 hr) (ep_var 0 (pv 0)) ee_int (fun _ _ => rfl)))) (eg_tup rfl (egs_cons (eg_name (pg_name sc_near_by.nd rfl (by first | exact .inl rfl | exact .inr rfl)) (by decide)) (egs_cons (eg_name (pg_name sc_near_by.nd rfl (by first | exact .inl rfl | exact .inr rfl)) (by decide)) (egs_cons (eg_name (pg_name sc_near_by.nd rfl (by first | exact .inl rfl | exact .inr rfl)) (by decide)) egs_nil)))) (sl_cons
    (ss_expr (ee_mtP PySem.F.plainAttrs_list PySem.F.slot_list_append PySem.F.type_list_append m_append (ep_ix (hu1 hr) (ep_var 1 (pv 1)) (ee_var 3 (pv 3)) (fun _ _ => rfl)) (ea_cons (ee_tup (ea_cons (ee_var 4 (pv 4)) (ea_cons (ee_var 5 (pv 5)) ea_nil))) ea_nil)))
    (sl_one (ss_expr (ee_mtP PySem.F.plainAttrs_list PySem.F.slot_list_append PySem.F.type_list_append m_append (ep_ix (hu1 hr) (ep_var 1 (pv 1)) (ee_var 4 (pv 4)) (fun _ _ => rfl)) (ea_cons (ee_tup (ea_cons (ee_var 3 (pv 3)) (ea_cons (ee_var 5 (pv 5)) ea_nil))) ea_nil))))))
    (sl_one (ss_ret (ee_mov 1 (pv 1)))))))
/-! parents -/
abbrev s_parents : Stmt := top 3
abbrev N_parents : List Str := ["web", "near", "found", "waiting", "here", "there", "length"]
def m_parents : M Fl := (mSeq (mAsg (tgN 1) (mCall [false] F_near_by (mTm (mVar 0) (pur []))))
  (mSeq (mAsg (tgN 2) (mDic (mPr (mRd (mPix (mPix (mPv 0) (pur (.int 0))) (pur (.int 0)))) (pur .non) (pur ([], [])))))
  (mSeq (mAsg (tgN 3) (mLst (mC (mRd (mPix (mPix (mPv 0) (pur (.int 0))) (pur (.int 0)))) (pur []))))
  (mSeq (mWhile (mB (mP2 fNe (mPv 3) (mVl (mLst (pur []))))) (mSeq (mAsg (tgN 4) (mMt0 3 "list" foPop (pur [])))
  (mFor (mIt (mRd (mPix (mPv 1) (mVar 4)))) (tgT 2 (tgsC (tgN 5) (tgsC (tgN 6) tgs0))) (mIf (mB (mP2 fNotIn (mPv 5) (mPv 2))) (mSeq (mAsg (tgSub (mPv 2) (mVar 5)) (mVar 4))
  (mExp (mMt0 3 "list" foAppend (mC (mVar 5) (pur []))))) (pur .nx)))) FUEL)
  (mRet (mMov 2))))))
def F_parents : List D → R (List D) D := mkF 7 [false] m_parents
theorem sc_parents : FnScope N_parents ["web"] (defScope s_parents) := ⟨rfl, rfl, rfl, by decide +kernel, rfl, by decide +kernel, by decide +kernel⟩
theorem ok_parents {f : Addr} {fd : FuncData} (F : FunD K "parents" "parents" (defArgs s_parents) (defBody s_parents) (defScope s_parents) [] [] f fd) (gf : mg "parents" = some (.ref f)) (D_near_by : Dk prog w K mg base cv 1 "near_by" ["web"] [false] F_near_by) : Dk prog w K mg base cv 2 "parents" ["web"] [false] F_parents :=
  dk_of_fn (N := N_parents) F gf sc_parents rfl (fun _ _ _ _ _ _ us hl => match us, hl with | [_], _ => rfl) fun cdv A outer s H E c hr tk =>
  (sl_cons
    (ss_set (by decide) sc_parents.nd rfl (by first | exact .inl rfl | exact .inr rfl) (ee_cd D_near_by hr (by decide) rfl tk (fun _ => rfl) (er_tm (ee_var 0 (pv 0)) er_nil)))
    (sl_cons
    (ss_set (by decide) sc_parents.nd rfl (by first | exact .inl rfl | exact .inr rfl) (ee_dic (pr_cons (ee_rd (ep_ix (hu1 hr) (ep_ix (hu1 hr) (ep_var 0 (pv 0)) ee_int (fun _ _ => rfl)) ee_int (fun _ _ => rfl))) ee_non pr_nil) rfl rfl (fun h => nomatch h) (by decide)))
    (sl_cons
    (ss_set (by decide) sc_parents.nd rfl (by first | exact .inl rfl | exact .inr rfl) (ee_lst (ea_cons (ee_rd (ep_ix (hu1 hr) (ep_ix (hu1 hr) (ep_var 0 (pv 0)) ee_int (fun _ _ => rfl)) ee_int (fun _ _ => rfl))) ea_nil)))
    (sl_cons
    (ss_while FUEL (passes_of rfl) (et_cmpP (v_ne (hu64 hr)) (ep_var 3 (pv 3)) (ep_val (ee_lst ea_nil)) (nomark _)) (sl_cons
    (ss_set (by decide) sc_parents.nd rfl (by first | exact .inl rfl | exact .inr rfl) (ee_mt00 3 PySem.F.plainAttrs_list PySem.F.slot_list_pop PySem.F.type_list_pop m_pop (pv 3)))
    (sl_one (ss_for (passes_of rfl) rfl (ei_any (ee_rd (ep_ix (hu1 hr) (ep_var 1 (pv 1)) (ee_var 4 (pv 4)) (fun _ _ => rfl)))) (eg_tup rfl (egs_cons (eg_name (pg_name sc_parents.nd rfl (by first | exact .inl rfl | exact .inr rfl)) (by decide)) (egs_cons (eg_name (pg_name sc_parents.nd rfl (by first | exact .inl rfl | exact .inr rfl)) (by decide)) egs_nil))) (sl_one (ss_if (et_cmpP (v_notIn (hu65 hr)) (ep_var 5 (pv 5)) (ep_var 2 (pv 2)) rfl) (sl_cons
    (ss_asg (ee_var 4 (pv 4)) (eg_sub (hu1 hr) (ep_var 2 (pv 2)) (ee_var 5 (pv 5))))
    (sl_one (ss_expr (ee_mt0 3 PySem.F.plainAttrs_list PySem.F.slot_list_append PySem.F.type_list_append m_append (pv 3) (ea_cons (ee_var 5 (pv 5)) ea_nil))))) sl_nil))))))
    (sl_one (ss_ret (ee_mov 2 (pv 2))))))))
/-! parent -/
abbrev s_parent : Stmt := top 4
abbrev N_parent : List Str := ["web", "place"]
def m_parent : M Fl := (mRet (m2 fIx (mCall [false] F_parents (mTm (mVar 0) (pur []))) (mVar 1)))
def F_parent : List D → R (List D) D := mkF 2 [false, false] m_parent
theorem sc_parent : FnScope N_parent ["web", "place"] (defScope s_parent) := ⟨rfl, rfl, rfl, by decide +kernel, rfl, by decide +kernel, by decide +kernel⟩
theorem ok_parent {f : Addr} {fd : FuncData} (F : FunD K "parent" "parent" (defArgs s_parent) (defBody s_parent) (defScope s_parent) [] [] f fd) (gf : mg "parent" = some (.ref f)) (D_parents : Dk prog w K mg base cv 2 "parents" ["web"] [false] F_parents) : Dk prog w K mg base cv 3 "parent" ["web", "place"] [false, false] F_parent :=
  dk_of_fn (N := N_parent) F gf sc_parent rfl (fun _ _ _ _ _ _ us hl => match us, hl with | [_, _], _ => rfl) fun cdv A outer s H E c hr tk =>
  (sl_one (ss_ret (ee_ixv (hu1 hr) (ee_cd D_parents hr (by decide) rfl tk (fun _ => rfl) (er_tm (ee_var 0 (pv 0)) er_nil)) (ee_var 1 (pv 1)) (fun _ _ => rfl))))
/-! children -/
abbrev s_children : Stmt := top 5
abbrev N_children : List Str := ["web", "place", "known", "one"]
def m_children : M Fl := (mSeq (mAsg (tgN 2) (mCall [false] F_parents (mTm (mVar 0) (pur []))))
  (mRet (mLc (mIt (mRd (mPix (mPv 0) (pur (.int 0))))) (tgN 3) (mB (mP2 fEq (mPix (mPv 2) (mVar 3)) (mPv 1))) (mVar 3) [3])))
def F_children : List D → R (List D) D := mkF 4 [false, false] m_children
theorem sc_children : FnScope N_children ["web", "place"] (defScope s_children) := ⟨rfl, rfl, rfl, by decide +kernel, rfl, by decide +kernel, by decide +kernel⟩
theorem ok_children {f : Addr} {fd : FuncData} (F : FunD K "children" "children" (defArgs s_children) (defBody s_children) (defScope s_children) [] [] f fd) (gf : mg "children" = some (.ref f)) (D_parents : Dk prog w K mg base cv 2 "parents" ["web"] [false] F_parents) : Dk prog w K mg base cv 3 "children" ["web", "place"] [false, false] F_children :=
  dk_of_fn (N := N_children) F gf sc_children rfl (fun _ _ _ _ _ _ us hl => match us, hl with | [_, _], _ => rfl) fun cdv A outer s H E c hr tk =>
  (sl_cons
    (ss_set (by decide) sc_children.nd rfl (by first | exact .inl rfl | exact .inr rfl) (ee_cd D_parents hr (by decide) rfl tk (fun _ => rfl) (er_tm (ee_var 0 (pv 0)) er_nil)))
    (sl_one (ss_ret (ee_lc (own := [("one", 3)]) 4 rfl (by decide) rfl sc_children.nd (ei_any (ee_rd (ep_ix (hu1 hr) (ep_var 0 (pv 0)) ee_int (fun _ _ => rfl)))) (blkOk_by (N := N_children) (sc := defScope s_children) (by decide +kernel)) (fun _ _ _ _ _ => (eg_name (pg_name sc_children.nd rfl (by first | exact .inl rfl | exact .inr rfl)) (by decide))) (fun _ _ _ _ _ => (eps_one (et_cmpP (v_eq (hu64 hr)) (ep_ix (hu1 hr) (ep_var 2 (pv 2)) (ee_var 3 (pv 3)) (fun _ _ => rfl)) (ep_var 1 (pv 1)) (nomark _)))) (fun _ _ _ _ _ => (ee_var 3 (pv 3)))))))
/-! below -/
abbrev s_below : Stmt := top 6
abbrev N_below : List Str := ["web", "place", "known", "found", "one", "step"]
def m_below : M Fl := (mSeq (mAsg (tgN 2) (mCall [false] F_parents (mTm (mVar 0) (pur []))))
  (mSeq (mAsg (tgN 3) (mLst (pur [])))
  (mSeq (mFor (mIt (mRd (mPix (mPv 0) (pur (.int 0))))) (tgN 4) (mSeq (mAsg (tgN 5) (mVar 4))
  (mSeq (mWhile (mAndT (mB (mP2 fIsNot (mPv 5) (mVl (pur .non)))) (mB (mP2 fNe (mPv 5) (mPv 1)))) (mAsg (tgN 5) (mRd (mPix (mPv 2) (mVar 5)))) FUEL)
  (mIf (mB (mP2 fEq (mPv 5) (mPv 1))) (mExp (mMt0 3 "list" foAppend (mC (mVar 4) (pur [])))) (pur .nx)))))
  (mRet (mMov 3)))))
def F_below : List D → R (List D) D := mkF 6 [false, false] m_below
theorem sc_below : FnScope N_below ["web", "place"] (defScope s_below) := ⟨rfl, rfl, rfl, by decide +kernel, rfl, by decide +kernel, by decide +kernel⟩
theorem ok_below {f : Addr} {fd : FuncData} (F : FunD K "below" "below" (defArgs s_below) (defBody s_below) (defScope s_below) [] [] f fd) (gf : mg "below" = some (.ref f)) (D_parents : Dk prog w K mg base cv 2 "parents" ["web"] [false] F_parents) : Dk prog w K mg base cv 3 "below" ["web", "place"] [false, false] F_below :=
  dk_of_fn (N := N_below) F gf sc_below rfl (fun _ _ _ _ _ _ us hl => match us, hl with | [_, _], _ => rfl) fun cdv A outer s H E c hr tk =>
  (sl_cons
    (ss_set (by decide) sc_below.nd rfl (by first | exact .inl rfl | exact .inr rfl) (ee_cd D_parents hr (by decide) rfl tk (fun _ => rfl) (er_tm (ee_var 0 (pv 0)) er_nil)))
    (sl_cons
    (ss_set (by decide) sc_below.nd rfl (by first | exact .inl rfl | exact .inr rfl) (ee_lst ea_nil))
    (sl_cons
    (ss_for (passes_of rfl) rfl (ei_any (ee_rd (ep_ix (hu1 hr) (ep_var 0 (pv 0)) ee_int (fun _ _ => rfl)))) (eg_name (pg_name sc_below.nd rfl (by first | exact .inl rfl | exact .inr rfl)) (by decide)) (sl_cons
    (ss_set (by decide) sc_below.nd rfl (by first | exact .inl rfl | exact .inr rfl) (ee_var 4 (pv 4)))
    (sl_cons
    (ss_while FUEL (passes_of rfl) (et_w (ew_and (et_cmpP v_isNot (ep_var 5 (pv 5)) (ep_val ee_non) (nomark _)) (ew_and1 (et_cmpP (v_ne (hu64 hr)) (ep_var 5 (pv 5)) (ep_var 1 (pv 1)) (nomark _))))) (sl_one (ss_set (by decide) sc_below.nd rfl (by first | exact .inl rfl | exact .inr rfl) (ee_rd (ep_ix (hu1 hr) (ep_var 2 (pv 2)) (ee_var 5 (pv 5)) (fun _ _ => rfl))))))
    (sl_one (ss_if (et_cmpP (v_eq (hu64 hr)) (ep_var 5 (pv 5)) (ep_var 1 (pv 1)) (nomark _)) (sl_one (ss_expr (ee_mt0 3 PySem.F.plainAttrs_list PySem.F.slot_list_append PySem.F.type_list_append m_append (pv 3) (ea_cons (ee_var 4 (pv 4)) ea_nil)))) sl_nil)))))
    (sl_one (ss_ret (ee_mov 3 (pv 3)))))))
/-! _law_right -/
abbrev s__law_right : Stmt := top 15
abbrev N__law_right : List Str := ["_law_chart", "_law_walks_here", "_law_place", "_law_above", "_law_next_ones", "_law_under", "_law_told", "_law_again", "_law_mine", "_law_whole", "_law_name"]
def m__law_right : M Fl := (mSeq (mAsg (tgN 3) (m2 fIx (m2 fAdd (mLst (mC (pur .non) (pur []))) (mRd (mPix (mPv 1) (mVar 2)))) (mUn fNeg (pur (.int 2)))))
  (mSeq (mAsg (tgN 4) (mCB fSorted (mC (mLcK .ks 1 (tgN 10) (mAndT (mB (mP2 fGt (mVl (mV1 fLenV (mVw (mPix (mPv 1) (mVar 10))))) (mVl (pur (.int 1))))) (mB (mP2 fEq (mPix (mPix (mPv 1) (mVar 10)) (mUn fNeg (pur (.int 2)))) (mPv 2)))) (mVar 10) [10]) (pur []))))
  (mSeq (mAsg (tgN 5) (mCB fSorted (mC (mLcK .ks 1 (tgN 10) (mB (mP2 fIn (mPv 2) (mPix (mPv 1) (mVar 10)))) (mVar 10) [10]) (pur []))))
  (mSeq (mAsg (tgN 6) (mCall [false, false] F_parent (mTm (mVar 0) (mTm (mVar 2) (pur [])))))
  (mSeq (mIf (mOrT (mAndT (mB (mP2 fIsNot (mPv 6) (mVl (pur .non)))) (mNot (mB (mIsi "str" (mLk 6))))) (mB (mP2 fNe (mPv 6) (mPv 3)))) (mRet (pur (.bl false))) (pur .nx))
  (mSeq (mFor (mRange1 (pur (.int 2))) (tgN 7) (mSeq (mAsg (tgN 8) (mCall [false, false] F_children (mTm (mVar 0) (mTm (mVar 2) (pur [])))))
  (mSeq (mAsg (tgN 9) (mCall [false, false] F_below (mTm (mVar 0) (mTm (mVar 2) (pur [])))))
  (mSeq (mIf (mOrT (mNot (mB (mIsi "list" (mLk 8)))) (mOrT (mNot (mB (mIsi "list" (mLk 9)))) (mOrT (mB (mP2 fNe (mPv 8) (mPv 4))) (mB (mP2 fNe (mPv 9) (mPv 5)))))) (mRet (pur (.bl false))) (pur .nx))
  (mSeq (mExp (mMt0 8 "list" foAppend (mC (mVar 2) (pur []))))
  (mExp (mMt0 9 "list" foClear (pur []))))))))
  (mRet (pur (.bl true)))))))))
def F__law_right : List D → R (List D) D := mkF 11 [false, false, false] m__law_right
theorem sc__law_right : FnScope N__law_right ["_law_chart", "_law_walks_here", "_law_place"] (defScope s__law_right) := ⟨rfl, rfl, rfl, by decide +kernel, rfl, by decide +kernel, by decide +kernel⟩
theorem ok__law_right {f : Addr} {fd : FuncData} (F : FunD K "_law_right" "_law_right" (defArgs s__law_right) (defBody s__law_right) (defScope s__law_right) [] [] f fd) (gf : mg "_law_right" = some (.ref f)) (b_range : mg "range" = none) (b_isinstance : mg "isinstance" = none) (b_list : mg "list" = none) (b_str : mg "str" = none) (b_sorted : mg "sorted" = none) (b_len : mg "len" = none) (D_below : Dk prog w K mg base cv 3 "below" ["web", "place"] [false, false] F_below) (D_children : Dk prog w K mg base cv 3 "children" ["web", "place"] [false, false] F_children) (D_parent : Dk prog w K mg base cv 3 "parent" ["web", "place"] [false, false] F_parent) : Dk prog w K mg base cv 4 "_law_right" ["_law_chart", "_law_walks_here", "_law_place"] [false, false, false] F__law_right :=
  dk_of_fn (N := N__law_right) F gf sc__law_right rfl (fun _ _ _ _ _ _ us hl => match us, hl with | [_, _, _], _ => rfl) fun cdv A outer s H E c hr tk =>
  (sl_cons
    (ss_set (by decide) sc__law_right.nd rfl (by first | exact .inl rfl | exact .inr rfl) (ee_ixv (hu1 hr) (ee_op o_add (ee_lst (ea_cons ee_non ea_nil)) (ee_rd (ep_ix (hu1 hr) (ep_var 1 (pv 1)) (ee_var 2 (pv 2)) (fun _ _ => rfl)))) (ee_neg ee_int) (fun _ _ => rfl)))
    (sl_cons
    (ss_set (by decide) sc__law_right.nd rfl (by first | exact .inl rfl | exact .inr rfl) (ee_callB (c_sorted (hu64 hr)) rfl b_sorted (by decide +kernel) (ea_cons (ee_lcK (own := [("_law_name", 10)]) 11 rfl (by decide) rfl sc__law_right.nd (iD_keys (pv 1) tVar_mono) (blkOk_by (N := N__law_right) (sc := defScope s__law_right) (by decide +kernel)) (fun _ _ _ _ _ _ => (eg_name (pg_name sc__law_right.nd rfl (by first | exact .inl rfl | exact .inr rfl)) (by decide))) (fun _ _ _ _ _ _ => (eps_one (et_w (ew_and (et_cmpP v_gt (ep_val (ee_lenV rfl b_len (by decide +kernel) (ev_p (ep_ix (hu1 hr) (ep_var 1 (pv 1)) (ee_var 10 (pv 10)) (fun _ _ => rfl))))) (ep_val ee_int) (nomark _)) (ew_and1 (et_cmpP (v_eq (hu64 hr)) (ep_ix (hu1 hr) (ep_ix (hu1 hr) (ep_var 1 (pv 1)) (ee_var 10 (pv 10)) (fun _ _ => rfl)) (ee_neg ee_int) (fun _ _ => rfl)) (ep_var 2 (pv 2)) (nomark _))))))) (fun _ _ _ _ _ _ => (ee_var 10 (pv 10)))) ea_nil)))
    (sl_cons
    (ss_set (by decide) sc__law_right.nd rfl (by first | exact .inl rfl | exact .inr rfl) (ee_callB (c_sorted (hu64 hr)) rfl b_sorted (by decide +kernel) (ea_cons (ee_lcK (own := [("_law_name", 10)]) 11 rfl (by decide) rfl sc__law_right.nd (iD_keys (pv 1) tVar_mono) (blkOk_by (N := N__law_right) (sc := defScope s__law_right) (by decide +kernel)) (fun _ _ _ _ _ _ => (eg_name (pg_name sc__law_right.nd rfl (by first | exact .inl rfl | exact .inr rfl)) (by decide))) (fun _ _ _ _ _ _ => (eps_one (et_cmpP (v_in (hu65 hr)) (ep_var 2 (pv 2)) (ep_ix (hu1 hr) (ep_var 1 (pv 1)) (ee_var 10 (pv 10)) (fun _ _ => rfl)) rfl))) (fun _ _ _ _ _ _ => (ee_var 10 (pv 10)))) ea_nil)))
    (sl_cons
    (ss_set (by decide) sc__law_right.nd rfl (by first | exact .inl rfl | exact .inr rfl) (ee_cd D_parent hr (by decide) rfl tk (fun _ => rfl) (er_tm (ee_var 0 (pv 0)) (er_tm (ee_var 2 (pv 2)) er_nil))))
    (sl_cons
    (ss_if (et_w (ew_or (et_w (ew_and (et_cmpP v_isNot (ep_var 6 (pv 6)) (ep_val ee_non) (nomark _)) (ew_and1 (et_not (et_val (ee_isiV (by rfl) b_isinstance (by decide +kernel) (by rfl) b_str (by decide +kernel) (ev_var 6 (pv 6)))))))) (ew_or1 (et_cmpP (v_ne (hu64 hr)) (ep_var 6 (pv 6)) (ep_var 3 (pv 3)) (nomark _))))) (sl_one (ss_ret ee_bl)) sl_nil)
    (sl_cons
    (ss_for (passes_of rfl) rfl (ei_range1 rfl b_range ee_int) (eg_name (pg_name sc__law_right.nd rfl (by first | exact .inl rfl | exact .inr rfl)) (by decide)) (sl_cons
    (ss_set (by decide) sc__law_right.nd rfl (by first | exact .inl rfl | exact .inr rfl) (ee_cd D_children hr (by decide) rfl tk (fun _ => rfl) (er_tm (ee_var 0 (pv 0)) (er_tm (ee_var 2 (pv 2)) er_nil))))
    (sl_cons
    (ss_set (by decide) sc__law_right.nd rfl (by first | exact .inl rfl | exact .inr rfl) (ee_cd D_below hr (by decide) rfl tk (fun _ => rfl) (er_tm (ee_var 0 (pv 0)) (er_tm (ee_var 2 (pv 2)) er_nil))))
    (sl_cons
    (ss_if (et_w (ew_or (et_not (et_val (ee_isiV (by rfl) b_isinstance (by decide +kernel) (by rfl) b_list (by decide +kernel) (ev_var 8 (pv 8))))) (ew_or (et_not (et_val (ee_isiV (by rfl) b_isinstance (by decide +kernel) (by rfl) b_list (by decide +kernel) (ev_var 9 (pv 9))))) (ew_or (et_cmpP (v_ne (hu64 hr)) (ep_var 8 (pv 8)) (ep_var 4 (pv 4)) (nomark _)) (ew_or1 (et_cmpP (v_ne (hu64 hr)) (ep_var 9 (pv 9)) (ep_var 5 (pv 5)) (nomark _))))))) (sl_one (ss_ret ee_bl)) sl_nil)
    (sl_cons
    (ss_expr (ee_mt0 8 PySem.F.plainAttrs_list PySem.F.slot_list_append PySem.F.type_list_append m_append (pv 8) (ea_cons (ee_var 2 (pv 2)) ea_nil)))
    (sl_one (ss_expr (ee_mt00 9 PySem.F.plainAttrs_list PySem.F.slot_list_clear PySem.F.type_list_clear m_clear (pv 9)))))))))
    (sl_one (ss_ret ee_bl))))))))
/-! _law_laid -/
abbrev s__law_laid : Stmt := top 12
abbrev N__law_laid : List Str := ["_law_names_here", "_law_ways", "_law_put", "_law_one", "_law_other", "_law_length_here"]
def m__law_laid : M Fl := (mSeq (mAsg (tgN 2) (mCB fSorted (mC (mLc (mIt (mVar 1)) (tgT 3 (tgsC (tgN 3) (tgsC (tgN 4) (tgsC (tgN 5) tgs0)))) mYes (mTup (mC (mCB fMin2 (mC (mVar 3) (mC (mVar 4) (pur [])))) (mC (mCB fMax2 (mC (mVar 3) (mC (mVar 4) (pur [])))) (mC (mVar 5) (pur []))))) [3, 4, 5]) (pur []))))
  (mRet (mTup (mC (mCB fTuple (mC (mCB fSorted (mC (mVar 0) (pur []))) (pur []))) (mC (mCB fTuple (mC (mVar 2) (pur []))) (pur []))))))
def F__law_laid : List D → R (List D) D := mkF 6 [false, false] m__law_laid
theorem sc__law_laid : FnScope N__law_laid ["_law_names_here", "_law_ways"] (defScope s__law_laid) := ⟨rfl, rfl, rfl, by decide +kernel, rfl, by decide +kernel, by decide +kernel⟩
theorem ok__law_laid {f : Addr} {fd : FuncData} (F : FunD K "_law_laid" "_law_laid" (defArgs s__law_laid) (defBody s__law_laid) (defScope s__law_laid) [] [] f fd) (gf : mg "_law_laid" = some (.ref f)) (b_tuple : mg "tuple" = none) (b_sorted : mg "sorted" = none) (b_max : mg "max" = none) (b_min : mg "min" = none) : Dk prog w K mg base cv 1 "_law_laid" ["_law_names_here", "_law_ways"] [false, false] F__law_laid :=
  dk_of_fn (N := N__law_laid) F gf sc__law_laid rfl (fun _ _ _ _ _ _ us hl => match us, hl with | [_, _], _ => rfl) fun cdv A outer s H E c hr tk =>
  (sl_cons
    (ss_set (by decide) sc__law_laid.nd rfl (by first | exact .inl rfl | exact .inr rfl) (ee_callB (c_sorted (hu64 hr)) rfl b_sorted (by decide +kernel) (ea_cons (ee_lc (own := [("_law_one", 3), ("_law_other", 4), ("_law_length_here", 5)]) 6 rfl (by decide) rfl sc__law_laid.nd (ei_any (ee_var 1 (pv 1))) (blkOk_by (N := N__law_laid) (sc := defScope s__law_laid) (by decide +kernel)) (fun _ _ _ _ _ => (eg_tup rfl (egs_cons (eg_name (pg_name sc__law_laid.nd rfl (by first | exact .inl rfl | exact .inr rfl)) (by decide)) (egs_cons (eg_name (pg_name sc__law_laid.nd rfl (by first | exact .inl rfl | exact .inr rfl)) (by decide)) (egs_cons (eg_name (pg_name sc__law_laid.nd rfl (by first | exact .inl rfl | exact .inr rfl)) (by decide)) egs_nil))))) (fun _ _ _ _ _ => eps_nil) (fun _ _ _ _ _ => (ee_tup (ea_cons (ee_callB (c_min2 rfl (hu65 hr)) rfl b_min (by decide +kernel) (ea_cons (ee_var 3 (pv 3)) (ea_cons (ee_var 4 (pv 4)) ea_nil))) (ea_cons (ee_callB (c_max2 rfl (hu65 hr)) rfl b_max (by decide +kernel) (ea_cons (ee_var 3 (pv 3)) (ea_cons (ee_var 4 (pv 4)) ea_nil))) (ea_cons (ee_var 5 (pv 5)) ea_nil)))))) ea_nil)))
    (sl_one (ss_ret (ee_tup (ea_cons (ee_callTy (c_tuple) rfl b_tuple (by decide +kernel) (ea_cons (ee_callB (c_sorted (hu64 hr)) rfl b_sorted (by decide +kernel) (ea_cons (ee_var 0 (pv 0)) ea_nil)) ea_nil)) (ea_cons (ee_callTy (c_tuple) rfl b_tuple (by decide +kernel) (ea_cons (ee_var 2 (pv 2)) ea_nil)) ea_nil))))))
/-! law -/
abbrev s_law : Stmt := top 16
abbrev N_law : List Str := ["_law_script", "_law_pen_here", "_law_turn", "_law_many", "_law_names_here", "_law_ways", "_law_walks_here", "_law_place"]
def m_law : M Fl := (mSeq (mAsg (tgN 1) (mCall [false] F__law_pen (mTm (mVar 0) (pur []))))
  (mSeq (mFor (mRange1 (pur (.int 3))) (tgN 2) (mSeq (mAsg (tgN 3) (m2 fAdd (pur (.int 1)) (mCall [true, false] F__law_take (mSl 1 (mTm (pur (.int 9)) (pur []))))))
  (mSeq (mIf (mB (mP2 fEq (mVl (mCall [true, false] F__law_take (mSl 1 (mTm (pur (.int 20)) (pur []))))) (mVl (pur (.int 0))))) (mAsg (tgN 3) (pur (.int 30))) (pur .nx))
  (mSeq (mAsg (tgN 4) (mCall [true, false] F__law_names (mSl 1 (mTm (mVar 3) (pur [])))))
  (mSeq (mAsg (tgN 5) (mCall [true, false] F__law_tree (mSl 1 (mTm (mVar 4) (pur [])))))
  (mSeq (mAsg (tgN 6) (mCall [false, false] F__law_walks (mTm (mVar 4) (mTm (mVar 5) (pur [])))))
  (mFor (mIt (mVar 4)) (tgN 7) (mIf (mNot (mB (mCall [false, false, false] F__law_right (mTm (mCall [false, false] F__law_laid (mTm (mVar 4) (mTm (mVar 5) (pur [])))) (mTm (mVar 6) (mTm (mVar 7) (pur []))))))) (mRet (pur (.bl false))) (pur .nx)))))))))
  (mRet (pur (.bl true)))))
def F_law : List D → R (List D) D := mkF 8 [false] m_law
theorem sc_law : FnScope N_law ["_law_script"] (defScope s_law) := ⟨rfl, rfl, rfl, by decide +kernel, rfl, by decide +kernel, by decide +kernel⟩
theorem ok_law {f : Addr} {fd : FuncData} (F : FunD K "law" "law" (defArgs s_law) (defBody s_law) (defScope s_law) [] [] f fd) (b_range : mg "range" = none) (D__law_laid : Dk prog w K mg base cv 1 "_law_laid" ["_law_names_here", "_law_ways"] [false, false] F__law_laid) (D__law_right : Dk prog w K mg base cv 4 "_law_right" ["_law_chart", "_law_walks_here", "_law_place"] [false, false, false] F__law_right) (D__law_walks : Dk prog w K mg base cv 1 "_law_walks" ["_law_names_here", "_law_ways"] [false, false] F__law_walks) (D__law_tree : Dk prog w K mg base cv 3 "_law_tree" ["_law_pen_here", "_law_names_here"] [true, false] F__law_tree) (D__law_names : Dk prog w K mg base cv 2 "_law_names" ["_law_pen_here", "_law_many"] [true, false] F__law_names) (D__law_take : Dk prog w K mg base cv 1 "_law_take" ["_law_pen_here", "_law_many"] [true, false] F__law_take) (D__law_pen : Dk prog w K mg base cv 1 "_law_pen" ["_law_script"] [false] F__law_pen) : FnOk prog w K mg base (L2.CX prog w) 5 f fd ["_law_script"] (spM K cv [false] F_law) :=
  fn_ok (N := N_law) F sc_law rfl fun cdv A outer s H E c hr tk =>
  (sl_cons
    (ss_set (by decide) sc_law.nd rfl (by first | exact .inl rfl | exact .inr rfl) (ee_cd D__law_pen hr (by decide) rfl tk (fun _ => rfl) (er_tm (ee_var 0 (pv 0)) er_nil)))
    (sl_cons
    (ss_for (passes_of rfl) rfl (ei_range1 rfl b_range ee_int) (eg_name (pg_name sc_law.nd rfl (by first | exact .inl rfl | exact .inr rfl)) (by decide)) (sl_cons
    (ss_set (by decide) sc_law.nd rfl (by first | exact .inl rfl | exact .inr rfl) (ee_op o_add ee_int (ee_cd D__law_take hr (by decide) rfl tk (fun h => nomatch h) (er_sl 1 (pv 1) (er_tm ee_int er_nil)))))
    (sl_cons
    (ss_if (et_cmpP (v_eq (hu64 hr)) (ep_val (ee_cd D__law_take hr (by decide) rfl tk (fun h => nomatch h) (er_sl 1 (pv 1) (er_tm ee_int er_nil)))) (ep_val ee_int) (nomark _)) (sl_one (ss_set (by decide) sc_law.nd rfl (by first | exact .inl rfl | exact .inr rfl) ee_int)) sl_nil)
    (sl_cons
    (ss_set (by decide) sc_law.nd rfl (by first | exact .inl rfl | exact .inr rfl) (ee_cd D__law_names hr (by decide) rfl tk (fun h => nomatch h) (er_sl 1 (pv 1) (er_tm (ee_var 3 (pv 3)) er_nil))))
    (sl_cons
    (ss_set (by decide) sc_law.nd rfl (by first | exact .inl rfl | exact .inr rfl) (ee_cd D__law_tree hr (by decide) rfl tk (fun h => nomatch h) (er_sl 1 (pv 1) (er_tm (ee_var 4 (pv 4)) er_nil))))
    (sl_cons
    (ss_set (by decide) sc_law.nd rfl (by first | exact .inl rfl | exact .inr rfl) (ee_cd D__law_walks hr (by decide) rfl tk (fun _ => rfl) (er_tm (ee_var 4 (pv 4)) (er_tm (ee_var 5 (pv 5)) er_nil))))
    (sl_one (ss_for (passes_of rfl) rfl (ei_any (ee_var 4 (pv 4))) (eg_name (pg_name sc_law.nd rfl (by first | exact .inl rfl | exact .inr rfl)) (by decide)) (sl_one (ss_if (et_not (et_val (ee_cd D__law_right hr (by decide) rfl tk (fun _ => rfl) (er_tm (ee_cd D__law_laid hr (by decide) rfl tk (fun _ => rfl) (er_tm (ee_var 4 (pv 4)) (er_tm (ee_var 5 (pv 5)) er_nil))) (er_tm (ee_var 6 (pv 6)) (er_tm (ee_var 7 (pv 7)) er_nil)))))) (sl_one (ss_ret ee_bl)) sl_nil))))))))))
    (sl_one (ss_ret ee_bl))))
end
def d__law_pen : He.DefD := ⟨("_law_pen", none), "_law_pen", "_law_pen", defArgs s__law_pen, defBody s__law_pen, defScope s__law_pen, [], []⟩
def d__law_take : He.DefD := ⟨("_law_take", none), "_law_take", "_law_take", defArgs s__law_take, defBody s__law_take, defScope s__law_take, [], []⟩
def d__law_names : He.DefD := ⟨("_law_names", none), "_law_names", "_law_names", defArgs s__law_names, defBody s__law_names, defScope s__law_names, [], []⟩
def d__law_length : He.DefD := ⟨("_law_length", none), "_law_length", "_law_length", defArgs s__law_length, defBody s__law_length, defScope s__law_length, [], []⟩
def d__law_tree : He.DefD := ⟨("_law_tree", none), "_law_tree", "_law_tree", defArgs s__law_tree, defBody s__law_tree, defScope s__law_tree, [], []⟩
def d__law_walks : He.DefD := ⟨("_law_walks", none), "_law_walks", "_law_walks", defArgs s__law_walks, defBody s__law_walks, defScope s__law_walks, [], []⟩
def d_near_by : He.DefD := ⟨("near_by", none), "near_by", "near_by", defArgs s_near_by, defBody s_near_by, defScope s_near_by, [], []⟩
def d_parents : He.DefD := ⟨("parents", none), "parents", "parents", defArgs s_parents, defBody s_parents, defScope s_parents, [], []⟩
def d_parent : He.DefD := ⟨("parent", none), "parent", "parent", defArgs s_parent, defBody s_parent, defScope s_parent, [], []⟩
def d_children : He.DefD := ⟨("children", none), "children", "children", defArgs s_children, defBody s_children, defScope s_children, [], []⟩
def d_below : He.DefD := ⟨("below", none), "below", "below", defArgs s_below, defBody s_below, defScope s_below, [], []⟩
def d__law_right : He.DefD := ⟨("_law_right", none), "_law_right", "_law_right", defArgs s__law_right, defBody s__law_right, defScope s__law_right, [], []⟩
def d__law_laid : He.DefD := ⟨("_law_laid", none), "_law_laid", "_law_laid", defArgs s__law_laid, defBody s__law_laid, defScope s__law_laid, [], []⟩
def d_law : He.DefD := ⟨("law", none), "law", "law", defArgs s_law, defBody s_law, defScope s_law, [], []⟩
def fn : List He.DefD := [d__law_pen, d__law_take, d__law_names, d__law_length, d__law_tree, d__law_walks, d_near_by, d_parents, d_parent, d_children, d_below, d__law_right, d__law_laid, d_law]
def fa : List He.Fa := [.glo "_law_pen", .glo "_law_take", .glo "_law_names", .glo "_law_length", .glo "_law_tree", .glo "_law_walks", .glo "near_by", .glo "parents", .glo "parent", .glo "children", .glo "below", .glo "_law_right", .glo "_law_laid", .glo "law", .free "len", .free "abs", .free "range", .free "min", .free "isinstance", .free "list", .free "str", .free "sorted", .free "tuple", .free "max"]
abbrev Rw : PySem.W.OpenRow := PySem.W.OpenLaw.row PySem.Challenge.rw_openhouses_k07_whole_up_and_down_a_tree
abbrev hk : PySem.W.Hook := He.hookD 4 fa fn
def ob (s : PySem.W.SharedT) : He.AlD := He.obsDG 4 fa fn (HandSHeadRun.getT s)
theorem ob_eq (s : PySem.W.SharedT) : ob s = hk.obs s.abs := He.obsDG_eq (HandSHeadRun.getT_eq s)
def loose : List Str := ["near_by", "parents", "parent", "children", "below", "_law_pen", "_law_take", "_law_names", "_law_length", "_law_laid", "_law_tree", "_law_walks", "_law_right"]
theorem run (w : World) : HandSHeadRun.RunEq Rw (PySem.W.view Rw.prog [16]) hk ob 20000 loose w := by
  intro os
  kernel_rfl
def cvK (K : PySem.W.Frag) : CV := fun x => .ref (He.ga K x)
theorem facts {prog : Program} {w : World} {K : PySem.W.Frag} {h : Heap} {mg : Str → Option Value} {f : Addr} (X : K.In h) (G : h.Ns mainGlobals mg) (hfa : mg ("law" : Str) = some (.ref f)) (c : He.SaysD fa fn K) :
    ∃ fd : FuncData, (∀ (s : Shared) (v : Value), BindsTo s fd ⟨[v], []⟩ [("_law_script", v)]) ∧ ∀ base : Heap, K.In base → base.Ns mainGlobals mg → FnOk prog w K mg base (L2.CX prog w) 5 f fd ["_law_script"] (spM K (cvK K) [false] F_law) := by
  obtain ⟨fd__law_pen, FD__law_pen⟩ := c.def_ 0 (d := d__law_pen) rfl
  have G__law_pen := He.glo_ok X G (c.fact 0 (f := .glo "_law_pen") rfl)
  obtain ⟨fd__law_take, FD__law_take⟩ := c.def_ 1 (d := d__law_take) rfl
  have G__law_take := He.glo_ok X G (c.fact 1 (f := .glo "_law_take") rfl)
  obtain ⟨fd__law_names, FD__law_names⟩ := c.def_ 2 (d := d__law_names) rfl
  have G__law_names := He.glo_ok X G (c.fact 2 (f := .glo "_law_names") rfl)
  obtain ⟨fd__law_length, FD__law_length⟩ := c.def_ 3 (d := d__law_length) rfl
  have G__law_length := He.glo_ok X G (c.fact 3 (f := .glo "_law_length") rfl)
  obtain ⟨fd__law_tree, FD__law_tree⟩ := c.def_ 4 (d := d__law_tree) rfl
  have G__law_tree := He.glo_ok X G (c.fact 4 (f := .glo "_law_tree") rfl)
  obtain ⟨fd__law_walks, FD__law_walks⟩ := c.def_ 5 (d := d__law_walks) rfl
  have G__law_walks := He.glo_ok X G (c.fact 5 (f := .glo "_law_walks") rfl)
  obtain ⟨fd_near_by, FD_near_by⟩ := c.def_ 6 (d := d_near_by) rfl
  have G_near_by := He.glo_ok X G (c.fact 6 (f := .glo "near_by") rfl)
  obtain ⟨fd_parents, FD_parents⟩ := c.def_ 7 (d := d_parents) rfl
  have G_parents := He.glo_ok X G (c.fact 7 (f := .glo "parents") rfl)
  obtain ⟨fd_parent, FD_parent⟩ := c.def_ 8 (d := d_parent) rfl
  have G_parent := He.glo_ok X G (c.fact 8 (f := .glo "parent") rfl)
  obtain ⟨fd_children, FD_children⟩ := c.def_ 9 (d := d_children) rfl
  have G_children := He.glo_ok X G (c.fact 9 (f := .glo "children") rfl)
  obtain ⟨fd_below, FD_below⟩ := c.def_ 10 (d := d_below) rfl
  have G_below := He.glo_ok X G (c.fact 10 (f := .glo "below") rfl)
  obtain ⟨fd__law_right, FD__law_right⟩ := c.def_ 11 (d := d__law_right) rfl
  have G__law_right := He.glo_ok X G (c.fact 11 (f := .glo "_law_right") rfl)
  obtain ⟨fd__law_laid, FD__law_laid⟩ := c.def_ 12 (d := d__law_laid) rfl
  have G__law_laid := He.glo_ok X G (c.fact 12 (f := .glo "_law_laid") rfl)
  obtain ⟨fd_law, FD_law⟩ := c.def_ 13 (d := d_law) rfl
  have B_len := He.free_ok X G (c.fact 14 (f := .free "len") rfl)
  have B_abs := He.free_ok X G (c.fact 15 (f := .free "abs") rfl)
  have B_range := He.free_ok X G (c.fact 16 (f := .free "range") rfl)
  have B_min := He.free_ok X G (c.fact 17 (f := .free "min") rfl)
  have B_isinstance := He.free_ok X G (c.fact 18 (f := .free "isinstance") rfl)
  have B_list := He.free_ok X G (c.fact 19 (f := .free "list") rfl)
  have B_str := He.free_ok X G (c.fact 20 (f := .free "str") rfl)
  have B_sorted := He.free_ok X G (c.fact 21 (f := .free "sorted") rfl)
  have B_tuple := He.free_ok X G (c.fact 22 (f := .free "tuple") rfl)
  have B_max := He.free_ok X G (c.fact 23 (f := .free "max") rfl)
  have e := hfa.symm.trans (He.glo_ok X G (c.fact 13 (f := .glo "law") rfl))
  cases e
  have b := FunD.bindsA (ps := ["_law_script"]) FD_law fun _ _ _ _ _ _ us hl => match us, hl with | [_], _ => rfl
  refine ⟨fd_law, fun s v => b s [v] rfl, fun base _ _ => ?_⟩
  have E__law_pen : Dk prog w K mg base (cvK K) 1 "_law_pen" ["_law_script"] [false] F__law_pen := ok__law_pen FD__law_pen G__law_pen 
  have E__law_take : Dk prog w K mg base (cvK K) 1 "_law_take" ["_law_pen_here", "_law_many"] [true, false] F__law_take := ok__law_take FD__law_take G__law_take B_len B_abs
  have E__law_names : Dk prog w K mg base (cvK K) 2 "_law_names" ["_law_pen_here", "_law_many"] [true, false] F__law_names := ok__law_names FD__law_names G__law_names B_range B_len E__law_take
  have E__law_length : Dk prog w K mg base (cvK K) 2 "_law_length" ["_law_pen_here"] [true] F__law_length := ok__law_length FD__law_length G__law_length E__law_take
  have E__law_tree : Dk prog w K mg base (cvK K) 3 "_law_tree" ["_law_pen_here", "_law_names_here"] [true, false] F__law_tree := ok__law_tree FD__law_tree G__law_tree B_range B_len E__law_length E__law_take
  have E__law_walks : Dk prog w K mg base (cvK K) 1 "_law_walks" ["_law_names_here", "_law_ways"] [false, false] F__law_walks := ok__law_walks FD__law_walks G__law_walks B_range B_len B_min
  have E_near_by : Dk prog w K mg base (cvK K) 1 "near_by" ["web"] [false] F_near_by := ok_near_by FD_near_by G_near_by 
  have E_parents : Dk prog w K mg base (cvK K) 2 "parents" ["web"] [false] F_parents := ok_parents FD_parents G_parents E_near_by
  have E_parent : Dk prog w K mg base (cvK K) 3 "parent" ["web", "place"] [false, false] F_parent := ok_parent FD_parent G_parent E_parents
  have E_children : Dk prog w K mg base (cvK K) 3 "children" ["web", "place"] [false, false] F_children := ok_children FD_children G_children E_parents
  have E_below : Dk prog w K mg base (cvK K) 3 "below" ["web", "place"] [false, false] F_below := ok_below FD_below G_below E_parents
  have E__law_right : Dk prog w K mg base (cvK K) 4 "_law_right" ["_law_chart", "_law_walks_here", "_law_place"] [false, false, false] F__law_right := ok__law_right FD__law_right G__law_right B_range B_isinstance B_list B_str B_sorted B_len E_below E_children E_parent
  have E__law_laid : Dk prog w K mg base (cvK K) 1 "_law_laid" ["_law_names_here", "_law_ways"] [false, false] F__law_laid := ok__law_laid FD__law_laid G__law_laid B_tuple B_sorted B_max B_min
  exact ok_law FD_law B_range E__law_laid E__law_right E__law_walks E__law_tree E__law_names E__law_take E__law_pen
end Wk
namespace Wk
open PySem PySem.Spec L2 DL
open PySem.W (Tup T3 T4 minOf maxOf Datum DatumOrd)
local macro_rules | `(tactic| walk_at "di") => `(tactic| (
  repeat (first
  | with_reducible refine w_seqA ?_
  | with_reducible refine w_seqE ?_
  | with_reducible refine w_seqR ?_
  | with_reducible refine w_kq ?_
  | with_reducible refine w_asg ?_
  | with_reducible refine w_if ?_
  | with_reducible refine w_B ?_
  | with_reducible refine w_P2 ?_
  | with_reducible refine w_vl ?_
  | with_reducible refine w_m2 ?_
  | with_reducible refine w_pur ?_
  | with_reducible refine w_plv ?_
  | with_reducible refine w_var (by with_unfolding_all exact rfl) (by first | with_unfolding_all exact rfl | assumption | exact frz_lstF _ | exact frz_tupD _ | exact Dt.fz _) ?_
  | with_reducible refine w_varL (by with_unfolding_all exact rfl) (by first | exact Dt.mfz _ | with_unfolding_all exact rfl) ?_
  | with_reducible refine w_app (by with_unfolding_all exact rfl) ?_
  | with_reducible refine w_inN ?_
  | with_reducible refine w_eqN ?_
  | with_reducible refine w_neN ?_
  | with_reducible refine w_minN ?_
  | with_reducible refine w_maxN ?_
  | with_reducible refine w_lcC ?_
  | with_reducible refine w_intB ?_
  | with_reducible refine w_ix2 ?_
  | with_reducible refine w_lstRg ?_
  | with_reducible refine w_yes ?_
  | with_reducible refine w_tgW ?_
  | with_reducible refine w_tgNI ?_
  | with_reducible refine w_tgNN ?_
  | with_reducible refine w_pv (by with_unfolding_all exact rfl) ?_
  | with_reducible refine w_tgN' (by with_unfolding_all exact rfl) ?_
  | with_reducible refine w_lk (by with_unfolding_all exact rfl) ?_
  | with_reducible refine w_toB ?_
  | with_reducible refine w_not ?_
  | with_reducible refine w_andT ?_
  | with_reducible refine w_orT ?_
  | with_reducible refine w_C ?_
  | with_reducible refine w_CB ?_
  | with_reducible refine w_v1 ?_
  | with_reducible refine w_exp ?_
  | with_reducible refine w_ret ?_
  | with_reducible refine w_rt ?_
  | with_reducible refine w_tt ?_
  | with_reducible refine w_ff ?_
  | with_reducible refine w_nt ?_
  | with_reducible refine w_nf ?_
  | with_reducible refine w_add ?_
  | with_reducible refine w_sub ?_
  | with_reducible refine w_lt ?_
  | with_reducible refine w_le ?_
  | with_reducible refine w_gt ?_
  | with_reducible refine w_ge ?_
  | with_reducible refine w_eq ?_
  | with_reducible refine w_ne ?_
  | with_reducible refine w_len ?_
  | with_reducible refine w_abs ?_
  | with_reducible refine w_neg ?_
  | with_reducible refine w_is ?_
  | with_reducible refine w_isNot ?_
  | with_reducible refine w_tm ?_
  | with_reducible refine w_tgs0 ?_
  | with_reducible refine w_tgsC ?_
  | with_reducible refine w_andV ?_
  | with_reducible refine w_orV ?_
  | with_reducible refine w_notV ?_
  | with_reducible refine w_chain ?_
  | with_reducible refine w_ifE ?_
  | with_reducible refine w_isi ?_
  | with_reducible refine w_isi2 ?_
  | with_reducible refine w_dic ?_
  | with_reducible refine w_pr ?_
  | with_reducible refine w_un ?_
  | with_reducible refine w_slice ?_
  | with_reducible refine w_for ?_
  | with_reducible refine w_lst ?_
  | with_reducible refine w_tup ?_
  | with_reducible refine w_mov (by with_unfolding_all exact rfl) ?_
  | with_reducible refine w_penL (by with_unfolding_all exact rfl) ?_
  | with_reducible refine w_penA (by with_unfolding_all exact rfl) ?_
  | with_reducible refine w_penS (by with_unfolding_all exact rfl) ?_
  | with_reducible refine w_pl0 (by with_unfolding_all exact rfl) ?_
  | with_reducible refine w_sl (by with_unfolding_all exact rfl) ?_
  | with_reducible refine w_tgT (by with_unfolding_all exact rfl) ?_
  | with_reducible refine w_toK (by with_unfolding_all exact rfl) ?_
  | with_reducible refine w_rix (by with_unfolding_all exact rfl) ?_
  | with_reducible refine w_rixs (by with_unfolding_all exact rfl) ?_
  | with_reducible refine w_penG (by with_unfolding_all exact rfl) ix_left ?_
  | with_reducible refine w_penG (by with_unfolding_all exact rfl) ix_at ?_
  | with_reducible refine w_penG (by with_unfolding_all exact rfl) ix_script ?_
  | with_reducible refine w_pl1 (by with_unfolding_all exact rfl) (by with_unfolding_all exact rfl) (by with_unfolding_all exact rfl) ?_
  | with_reducible refine w_mod (by omega) ?_
  | with_reducible refine w_div (by omega) ?_
  | with_reducible refine w_mulR (by omega) ?_
  | with_reducible refine w_mulL (by omega) ?_
  | with_reducible refine w_pow6 ?_
  | with_reducible refine w_pow9 ?_
  | with_reducible refine w_pow13 ?_
  | with_reducible refine w_pow17 ?_
  | with_reducible refine w_pow18 ?_
  | with_reducible refine w_pow20 ?_
  | with_reducible refine w_pow25 ?_
  | with_reducible refine w_pow27 ?_
  | with_reducible refine w_pow28 ?_
  | with_reducible refine w_pow29 ?_
  | with_reducible refine w_pow30 ?_
  | with_reducible refine w_ln (by with_unfolding_all exact rfl) ?_
  | with_reducible refine w_range1 ?_
  | with_reducible refine w_range2 ?_
  | with_reducible refine w_part ?_
  | with_reducible refine w_it ?_
  | with_reducible refine w_rgE (by omega) ?_
  | with_reducible refine w_rgE2 (by omega) (by omega) ?_
  | with_reducible refine w_take takeOk (by with_unfolding_all exact rfl) ?_
  | with_reducible refine w_isiK (by with_unfolding_all exact rfl) (by first | exact kit_NoneType_bool | exact kit_NoneType_int | exact kit_NoneType_str | exact kit_NoneType_tuple | exact kit_NoneType_list | exact kit_NoneType_dict | exact kit_bool_bool | exact kit_bool_int | exact kit_bool_str | exact kit_bool_tuple | exact kit_bool_list | exact kit_bool_dict | exact kit_int_bool | exact kit_int_int | exact kit_int_str | exact kit_int_tuple | exact kit_int_list | exact kit_int_dict | exact kit_str_bool | exact kit_str_int | exact kit_str_str | exact kit_str_tuple | exact kit_str_list | exact kit_str_dict | exact kit_tuple_bool | exact kit_tuple_int | exact kit_tuple_str | exact kit_tuple_tuple | exact kit_tuple_list | exact kit_tuple_dict | exact kit_list_bool | exact kit_list_int | exact kit_list_str | exact kit_list_tuple | exact kit_list_list | exact kit_list_dict | exact kit_dict_bool | exact kit_dict_int | exact kit_dict_str | exact kit_dict_tuple | exact kit_dict_list | exact kit_dict_dict) ?_
  | with_reducible refine w_isiK2 (by with_unfolding_all exact rfl) (by first | exact kit_NoneType_bool | exact kit_NoneType_int | exact kit_NoneType_str | exact kit_NoneType_tuple | exact kit_NoneType_list | exact kit_NoneType_dict | exact kit_bool_bool | exact kit_bool_int | exact kit_bool_str | exact kit_bool_tuple | exact kit_bool_list | exact kit_bool_dict | exact kit_int_bool | exact kit_int_int | exact kit_int_str | exact kit_int_tuple | exact kit_int_list | exact kit_int_dict | exact kit_str_bool | exact kit_str_int | exact kit_str_str | exact kit_str_tuple | exact kit_str_list | exact kit_str_dict | exact kit_tuple_bool | exact kit_tuple_int | exact kit_tuple_str | exact kit_tuple_tuple | exact kit_tuple_list | exact kit_tuple_dict | exact kit_list_bool | exact kit_list_int | exact kit_list_str | exact kit_list_tuple | exact kit_list_list | exact kit_list_dict | exact kit_dict_bool | exact kit_dict_int | exact kit_dict_str | exact kit_dict_tuple | exact kit_dict_list | exact kit_dict_dict) (by first | exact kit_NoneType_bool | exact kit_NoneType_int | exact kit_NoneType_str | exact kit_NoneType_tuple | exact kit_NoneType_list | exact kit_NoneType_dict | exact kit_bool_bool | exact kit_bool_int | exact kit_bool_str | exact kit_bool_tuple | exact kit_bool_list | exact kit_bool_dict | exact kit_int_bool | exact kit_int_int | exact kit_int_str | exact kit_int_tuple | exact kit_int_list | exact kit_int_dict | exact kit_str_bool | exact kit_str_int | exact kit_str_str | exact kit_str_tuple | exact kit_str_list | exact kit_str_dict | exact kit_tuple_bool | exact kit_tuple_int | exact kit_tuple_str | exact kit_tuple_tuple | exact kit_tuple_list | exact kit_tuple_dict | exact kit_list_bool | exact kit_list_int | exact kit_list_str | exact kit_list_tuple | exact kit_list_list | exact kit_list_dict | exact kit_dict_bool | exact kit_dict_int | exact kit_dict_str | exact kit_dict_tuple | exact kit_dict_list | exact kit_dict_dict) ?_
  | with_reducible refine w_int1 ?_
  | with_reducible refine w_fn1 ?_
  | with_reducible refine w_fn2 ?_
  | with_reducible refine w_fn3 ?_
  | with_reducible refine w_penC1 (by with_unfolding_all exact rfl) ?_
  | with_reducible refine w_penC2 (by with_unfolding_all exact rfl) ?_)
  have dl_z := True.intro
  clear dl_z))
local macro_rules | `(tactic| walk_at "dl") => `(tactic| repeat (first
  | with_reducible refine w_seq ?_
  | with_reducible refine w_kq ?_
  | with_reducible refine w_asg ?_
  | with_reducible refine w_if ?_
  | with_reducible refine w_B ?_
  | with_reducible refine w_P2 ?_
  | with_reducible refine w_vl ?_
  | with_reducible refine w_m2 ?_
  | with_reducible refine w_pur ?_
  | with_reducible refine w_plv ?_
  | with_reducible refine w_var (by with_unfolding_all exact rfl) (by first | with_unfolding_all exact rfl | assumption | exact frz_lstF _ | exact frz_tupD _ | exact Dt.fz _) ?_
  | with_reducible refine w_varL (by with_unfolding_all exact rfl) (by first | exact Dt.mfz _ | with_unfolding_all exact rfl) ?_
  | with_reducible refine w_app (by with_unfolding_all exact rfl) ?_
  | with_reducible refine w_inN ?_
  | with_reducible refine w_eqN ?_
  | with_reducible refine w_neN ?_
  | with_reducible refine w_minN ?_
  | with_reducible refine w_maxN ?_
  | with_reducible refine w_lcC ?_
  | with_reducible refine w_intB ?_
  | with_reducible refine w_ix2 ?_
  | with_reducible refine w_lstRg ?_
  | with_reducible refine w_yes ?_
  | with_reducible refine w_tgW ?_
  | with_reducible refine w_tgNI ?_
  | with_reducible refine w_tgNN ?_
  | with_reducible refine w_pv (by with_unfolding_all exact rfl) ?_
  | with_reducible refine w_tgN' (by with_unfolding_all exact rfl) ?_
  | with_reducible refine w_lk (by with_unfolding_all exact rfl) ?_
  | with_reducible refine w_toB ?_
  | with_reducible refine w_not ?_
  | with_reducible refine w_andT ?_
  | with_reducible refine w_orT ?_
  | with_reducible refine w_C ?_
  | with_reducible refine w_CB ?_
  | with_reducible refine w_v1 ?_
  | with_reducible refine w_exp ?_
  | with_reducible refine w_ret ?_
  | with_reducible refine w_rt ?_
  | with_reducible refine w_tt ?_
  | with_reducible refine w_ff ?_
  | with_reducible refine w_nt ?_
  | with_reducible refine w_nf ?_
  | with_reducible refine w_add ?_
  | with_reducible refine w_sub ?_
  | with_reducible refine w_lt ?_
  | with_reducible refine w_le ?_
  | with_reducible refine w_gt ?_
  | with_reducible refine w_ge ?_
  | with_reducible refine w_eq ?_
  | with_reducible refine w_ne ?_
  | with_reducible refine w_len ?_
  | with_reducible refine w_abs ?_
  | with_reducible refine w_neg ?_
  | with_reducible refine w_is ?_
  | with_reducible refine w_isNot ?_
  | with_reducible refine w_tm ?_
  | with_reducible refine w_tgs0 ?_
  | with_reducible refine w_tgsC ?_
  | with_reducible refine w_andV ?_
  | with_reducible refine w_orV ?_
  | with_reducible refine w_notV ?_
  | with_reducible refine w_chain ?_
  | with_reducible refine w_ifE ?_
  | with_reducible refine w_isi ?_
  | with_reducible refine w_isi2 ?_
  | with_reducible refine w_dic ?_
  | with_reducible refine w_pr ?_
  | with_reducible refine w_un ?_
  | with_reducible refine w_slice ?_
  | with_reducible refine w_for ?_
  | with_reducible refine w_lst ?_
  | with_reducible refine w_tup ?_
  | with_reducible refine w_mov (by with_unfolding_all exact rfl) ?_
  | with_reducible refine w_penL (by with_unfolding_all exact rfl) ?_
  | with_reducible refine w_penA (by with_unfolding_all exact rfl) ?_
  | with_reducible refine w_penS (by with_unfolding_all exact rfl) ?_
  | with_reducible refine w_pl0 (by with_unfolding_all exact rfl) ?_
  | with_reducible refine w_sl (by with_unfolding_all exact rfl) ?_
  | with_reducible refine w_tgT (by with_unfolding_all exact rfl) ?_
  | with_reducible refine w_toK (by with_unfolding_all exact rfl) ?_
  | with_reducible refine w_rix (by with_unfolding_all exact rfl) ?_
  | with_reducible refine w_rixs (by with_unfolding_all exact rfl) ?_
  | with_reducible refine w_penG (by with_unfolding_all exact rfl) ix_left ?_
  | with_reducible refine w_penG (by with_unfolding_all exact rfl) ix_at ?_
  | with_reducible refine w_penG (by with_unfolding_all exact rfl) ix_script ?_
  | with_reducible refine w_pl1 (by with_unfolding_all exact rfl) (by with_unfolding_all exact rfl) (by with_unfolding_all exact rfl) ?_
  | with_reducible refine w_mod (by omega) ?_
  | with_reducible refine w_div (by omega) ?_
  | with_reducible refine w_mulR (by omega) ?_
  | with_reducible refine w_mulL (by omega) ?_
  | with_reducible refine w_pow6 ?_
  | with_reducible refine w_pow9 ?_
  | with_reducible refine w_pow13 ?_
  | with_reducible refine w_pow17 ?_
  | with_reducible refine w_pow18 ?_
  | with_reducible refine w_pow20 ?_
  | with_reducible refine w_pow25 ?_
  | with_reducible refine w_pow27 ?_
  | with_reducible refine w_pow28 ?_
  | with_reducible refine w_pow29 ?_
  | with_reducible refine w_pow30 ?_
  | with_reducible refine w_ln (by with_unfolding_all exact rfl) ?_
  | with_reducible refine w_range1 ?_
  | with_reducible refine w_range2 ?_
  | with_reducible refine w_part ?_
  | with_reducible refine w_it ?_
  | with_reducible refine w_rgE (by omega) ?_
  | with_reducible refine w_rgE2 (by omega) (by omega) ?_
  | with_reducible refine w_take takeOk (by with_unfolding_all exact rfl) ?_
  | with_reducible refine w_isiK (by with_unfolding_all exact rfl) (by first | exact kit_NoneType_bool | exact kit_NoneType_int | exact kit_NoneType_str | exact kit_NoneType_tuple | exact kit_NoneType_list | exact kit_NoneType_dict | exact kit_bool_bool | exact kit_bool_int | exact kit_bool_str | exact kit_bool_tuple | exact kit_bool_list | exact kit_bool_dict | exact kit_int_bool | exact kit_int_int | exact kit_int_str | exact kit_int_tuple | exact kit_int_list | exact kit_int_dict | exact kit_str_bool | exact kit_str_int | exact kit_str_str | exact kit_str_tuple | exact kit_str_list | exact kit_str_dict | exact kit_tuple_bool | exact kit_tuple_int | exact kit_tuple_str | exact kit_tuple_tuple | exact kit_tuple_list | exact kit_tuple_dict | exact kit_list_bool | exact kit_list_int | exact kit_list_str | exact kit_list_tuple | exact kit_list_list | exact kit_list_dict | exact kit_dict_bool | exact kit_dict_int | exact kit_dict_str | exact kit_dict_tuple | exact kit_dict_list | exact kit_dict_dict) ?_
  | with_reducible refine w_isiK2 (by with_unfolding_all exact rfl) (by first | exact kit_NoneType_bool | exact kit_NoneType_int | exact kit_NoneType_str | exact kit_NoneType_tuple | exact kit_NoneType_list | exact kit_NoneType_dict | exact kit_bool_bool | exact kit_bool_int | exact kit_bool_str | exact kit_bool_tuple | exact kit_bool_list | exact kit_bool_dict | exact kit_int_bool | exact kit_int_int | exact kit_int_str | exact kit_int_tuple | exact kit_int_list | exact kit_int_dict | exact kit_str_bool | exact kit_str_int | exact kit_str_str | exact kit_str_tuple | exact kit_str_list | exact kit_str_dict | exact kit_tuple_bool | exact kit_tuple_int | exact kit_tuple_str | exact kit_tuple_tuple | exact kit_tuple_list | exact kit_tuple_dict | exact kit_list_bool | exact kit_list_int | exact kit_list_str | exact kit_list_tuple | exact kit_list_list | exact kit_list_dict | exact kit_dict_bool | exact kit_dict_int | exact kit_dict_str | exact kit_dict_tuple | exact kit_dict_list | exact kit_dict_dict) (by first | exact kit_NoneType_bool | exact kit_NoneType_int | exact kit_NoneType_str | exact kit_NoneType_tuple | exact kit_NoneType_list | exact kit_NoneType_dict | exact kit_bool_bool | exact kit_bool_int | exact kit_bool_str | exact kit_bool_tuple | exact kit_bool_list | exact kit_bool_dict | exact kit_int_bool | exact kit_int_int | exact kit_int_str | exact kit_int_tuple | exact kit_int_list | exact kit_int_dict | exact kit_str_bool | exact kit_str_int | exact kit_str_str | exact kit_str_tuple | exact kit_str_list | exact kit_str_dict | exact kit_tuple_bool | exact kit_tuple_int | exact kit_tuple_str | exact kit_tuple_tuple | exact kit_tuple_list | exact kit_tuple_dict | exact kit_list_bool | exact kit_list_int | exact kit_list_str | exact kit_list_tuple | exact kit_list_list | exact kit_list_dict | exact kit_dict_bool | exact kit_dict_int | exact kit_dict_str | exact kit_dict_tuple | exact kit_dict_list | exact kit_dict_dict) ?_
  | with_reducible refine w_int1 ?_
  | with_reducible refine w_fn1 ?_
  | with_reducible refine w_fn2 ?_
  | with_reducible refine w_fn3 ?_
  | with_reducible refine w_penC1 (by with_unfolding_all exact rfl) ?_
  | with_reducible refine w_penC2 (by with_unfolding_all exact rfl) ?_))
theorem take_spec (p : Pen) (many : Int) (h0 : 0 < many) (h1 : many < 1073741824) : FOk F__law_take [p.d, .int many] (fun d ds' => ∃ (r : Int) (p' : Pen), d = .int r ∧ ds' = [p'.d, .int many] ∧ 0 ≤ r ∧ r < many) NoF := by
  refine fok_mk [some p.d, some (.int many), none, none, none, none, none] rfl ?_
  unfold m__law_take
  have hm : ∀ x : Int, 0 ≤ x % many ∧ x % many < many := fun x => ⟨Int.emod_nonneg _ (by omega), Int.emod_lt_of_pos _ h0⟩
  walk_at "dl"
  refine w_by (fun hc => ?_) (fun hc => ?_)
  · walk_at "dl"
    refine w_penTL (m := p.left / many.toNat) rfl ?_ ?_
    · have : many = (many.toNat : Int) := by omega
      rw [this]; simp
    walk_at "dl"
    exact ⟨_, _, rfl, rfl, hm _⟩
  · walk_at "dl"
    refine w_penTA (m := p.at_ + 1) rfl rfl ?_
    walk_at "dl"
    refine w_by (fun hc => ?_) (fun hc => ?_)
    · walk_at "dl"
      have hlt : p.at_ < p.sc.length := by simpa using hc
      refine w_ix0 (x := .int p.sc[p.at_]) rfl (ixE_scr (by simp [hlt])) rfl (.inr (scr_frz _)) ?_
      walk_at "dl"
      refine w_by (fun hc => ?_) (fun hc => ?_)
      · walk_at "dl"
        refine w_penTL (m := (p.sc[p.at_]).natAbs / many.toNat) rfl ?_ ?_
        · have e1 : (if p.sc[p.at_] < 0 then -p.sc[p.at_] else p.sc[p.at_]) = ((p.sc[p.at_]).natAbs : Int) := by split <;> omega
          have e2 : many = (many.toNat : Int) := by omega
          rw [e1]
          generalize (p.sc[p.at_]).natAbs = q
          generalize many.toNat = m at e2 ⊢
          subst e2; simp
        walk_at "dl"
        exact ⟨_, _, rfl, rfl, hm _⟩
      · walk_at "dl"
        exact ⟨_, _, rfl, rfl, hm _⟩
    · walk_at "dl"
      refine w_by (fun hc => ?_) (fun hc => ?_)
      · walk_at "dl"
        have hlt : p.at_ % p.sc.length < p.sc.length := Nat.mod_lt _ (by simp at hc; omega)
        refine w_ix0 (x := .int (p.sc[p.at_ % p.sc.length])) rfl ?_ rfl (.inr (scr_frz _)) ?_
        · have := ixE_scr (ds := p.sc.map .int) (k := p.at_ % p.sc.length) (d := .int (p.sc[p.at_ % p.sc.length])) (by simp [hlt])
          simpa using this
        walk_at "dl"
        exact ⟨_, _, rfl, rfl, hm _⟩
      · generalize (7919 * (p.at_ : Int) + 104729) = cell
        walk_at "dl"
        exact ⟨_, _, rfl, rfl, hm _⟩
theorem takeOk : TakeOk F__law_take := fun p many h0 h1 => take_spec p many h0 h1
local macro_rules | `(tactic| walk_at "di") => `(tactic| (
  repeat (first
  | with_reducible refine w_seqA ?_
  | with_reducible refine w_seqE ?_
  | with_reducible refine w_seqR ?_
  | with_reducible refine w_kq ?_
  | with_reducible refine w_asg ?_
  | with_reducible refine w_if ?_
  | with_reducible refine w_B ?_
  | with_reducible refine w_P2 ?_
  | with_reducible refine w_vl ?_
  | with_reducible refine w_m2 ?_
  | with_reducible refine w_pur ?_
  | with_reducible refine w_plv ?_
  | with_reducible refine w_var (by with_unfolding_all exact rfl) (by first | with_unfolding_all exact rfl | assumption | exact frz_lstF _ | exact frz_tupD _ | exact Dt.fz _) ?_
  | with_reducible refine w_varL (by with_unfolding_all exact rfl) (by first | exact Dt.mfz _ | with_unfolding_all exact rfl) ?_
  | with_reducible refine w_app (by with_unfolding_all exact rfl) ?_
  | with_reducible refine w_inN ?_
  | with_reducible refine w_eqN ?_
  | with_reducible refine w_neN ?_
  | with_reducible refine w_minN ?_
  | with_reducible refine w_maxN ?_
  | with_reducible refine w_lcC ?_
  | with_reducible refine w_intB ?_
  | with_reducible refine w_ix2 ?_
  | with_reducible refine w_lstRg ?_
  | with_reducible refine w_yes ?_
  | with_reducible refine w_tgW ?_
  | with_reducible refine w_tgNI ?_
  | with_reducible refine w_tgNN ?_
  | with_reducible refine w_pv (by with_unfolding_all exact rfl) ?_
  | with_reducible refine w_tgN' (by with_unfolding_all exact rfl) ?_
  | with_reducible refine w_lk (by with_unfolding_all exact rfl) ?_
  | with_reducible refine w_toB ?_
  | with_reducible refine w_not ?_
  | with_reducible refine w_andT ?_
  | with_reducible refine w_orT ?_
  | with_reducible refine w_C ?_
  | with_reducible refine w_CB ?_
  | with_reducible refine w_v1 ?_
  | with_reducible refine w_exp ?_
  | with_reducible refine w_ret ?_
  | with_reducible refine w_rt ?_
  | with_reducible refine w_tt ?_
  | with_reducible refine w_ff ?_
  | with_reducible refine w_nt ?_
  | with_reducible refine w_nf ?_
  | with_reducible refine w_add ?_
  | with_reducible refine w_sub ?_
  | with_reducible refine w_lt ?_
  | with_reducible refine w_le ?_
  | with_reducible refine w_gt ?_
  | with_reducible refine w_ge ?_
  | with_reducible refine w_eq ?_
  | with_reducible refine w_ne ?_
  | with_reducible refine w_len ?_
  | with_reducible refine w_abs ?_
  | with_reducible refine w_neg ?_
  | with_reducible refine w_is ?_
  | with_reducible refine w_isNot ?_
  | with_reducible refine w_tm ?_
  | with_reducible refine w_tgs0 ?_
  | with_reducible refine w_tgsC ?_
  | with_reducible refine w_andV ?_
  | with_reducible refine w_orV ?_
  | with_reducible refine w_notV ?_
  | with_reducible refine w_chain ?_
  | with_reducible refine w_ifE ?_
  | with_reducible refine w_isi ?_
  | with_reducible refine w_isi2 ?_
  | with_reducible refine w_dic ?_
  | with_reducible refine w_pr ?_
  | with_reducible refine w_un ?_
  | with_reducible refine w_slice ?_
  | with_reducible refine w_for ?_
  | with_reducible refine w_lst ?_
  | with_reducible refine w_tup ?_
  | with_reducible refine w_mov (by with_unfolding_all exact rfl) ?_
  | with_reducible refine w_penL (by with_unfolding_all exact rfl) ?_
  | with_reducible refine w_penA (by with_unfolding_all exact rfl) ?_
  | with_reducible refine w_penS (by with_unfolding_all exact rfl) ?_
  | with_reducible refine w_pl0 (by with_unfolding_all exact rfl) ?_
  | with_reducible refine w_sl (by with_unfolding_all exact rfl) ?_
  | with_reducible refine w_tgT (by with_unfolding_all exact rfl) ?_
  | with_reducible refine w_toK (by with_unfolding_all exact rfl) ?_
  | with_reducible refine w_rix (by with_unfolding_all exact rfl) ?_
  | with_reducible refine w_rixs (by with_unfolding_all exact rfl) ?_
  | with_reducible refine w_penG (by with_unfolding_all exact rfl) ix_left ?_
  | with_reducible refine w_penG (by with_unfolding_all exact rfl) ix_at ?_
  | with_reducible refine w_penG (by with_unfolding_all exact rfl) ix_script ?_
  | with_reducible refine w_pl1 (by with_unfolding_all exact rfl) (by with_unfolding_all exact rfl) (by with_unfolding_all exact rfl) ?_
  | with_reducible refine w_mod (by omega) ?_
  | with_reducible refine w_div (by omega) ?_
  | with_reducible refine w_mulR (by omega) ?_
  | with_reducible refine w_mulL (by omega) ?_
  | with_reducible refine w_pow6 ?_
  | with_reducible refine w_pow9 ?_
  | with_reducible refine w_pow13 ?_
  | with_reducible refine w_pow17 ?_
  | with_reducible refine w_pow18 ?_
  | with_reducible refine w_pow20 ?_
  | with_reducible refine w_pow25 ?_
  | with_reducible refine w_pow27 ?_
  | with_reducible refine w_pow28 ?_
  | with_reducible refine w_pow29 ?_
  | with_reducible refine w_pow30 ?_
  | with_reducible refine w_ln (by with_unfolding_all exact rfl) ?_
  | with_reducible refine w_range1 ?_
  | with_reducible refine w_range2 ?_
  | with_reducible refine w_part ?_
  | with_reducible refine w_it ?_
  | with_reducible refine w_rgE (by omega) ?_
  | with_reducible refine w_rgE2 (by omega) (by omega) ?_
  | with_reducible refine w_take takeOk (by with_unfolding_all exact rfl) ?_
  | with_reducible refine w_isiK (by with_unfolding_all exact rfl) (by first | exact kit_NoneType_bool | exact kit_NoneType_int | exact kit_NoneType_str | exact kit_NoneType_tuple | exact kit_NoneType_list | exact kit_NoneType_dict | exact kit_bool_bool | exact kit_bool_int | exact kit_bool_str | exact kit_bool_tuple | exact kit_bool_list | exact kit_bool_dict | exact kit_int_bool | exact kit_int_int | exact kit_int_str | exact kit_int_tuple | exact kit_int_list | exact kit_int_dict | exact kit_str_bool | exact kit_str_int | exact kit_str_str | exact kit_str_tuple | exact kit_str_list | exact kit_str_dict | exact kit_tuple_bool | exact kit_tuple_int | exact kit_tuple_str | exact kit_tuple_tuple | exact kit_tuple_list | exact kit_tuple_dict | exact kit_list_bool | exact kit_list_int | exact kit_list_str | exact kit_list_tuple | exact kit_list_list | exact kit_list_dict | exact kit_dict_bool | exact kit_dict_int | exact kit_dict_str | exact kit_dict_tuple | exact kit_dict_list | exact kit_dict_dict) ?_
  | with_reducible refine w_isiK2 (by with_unfolding_all exact rfl) (by first | exact kit_NoneType_bool | exact kit_NoneType_int | exact kit_NoneType_str | exact kit_NoneType_tuple | exact kit_NoneType_list | exact kit_NoneType_dict | exact kit_bool_bool | exact kit_bool_int | exact kit_bool_str | exact kit_bool_tuple | exact kit_bool_list | exact kit_bool_dict | exact kit_int_bool | exact kit_int_int | exact kit_int_str | exact kit_int_tuple | exact kit_int_list | exact kit_int_dict | exact kit_str_bool | exact kit_str_int | exact kit_str_str | exact kit_str_tuple | exact kit_str_list | exact kit_str_dict | exact kit_tuple_bool | exact kit_tuple_int | exact kit_tuple_str | exact kit_tuple_tuple | exact kit_tuple_list | exact kit_tuple_dict | exact kit_list_bool | exact kit_list_int | exact kit_list_str | exact kit_list_tuple | exact kit_list_list | exact kit_list_dict | exact kit_dict_bool | exact kit_dict_int | exact kit_dict_str | exact kit_dict_tuple | exact kit_dict_list | exact kit_dict_dict) (by first | exact kit_NoneType_bool | exact kit_NoneType_int | exact kit_NoneType_str | exact kit_NoneType_tuple | exact kit_NoneType_list | exact kit_NoneType_dict | exact kit_bool_bool | exact kit_bool_int | exact kit_bool_str | exact kit_bool_tuple | exact kit_bool_list | exact kit_bool_dict | exact kit_int_bool | exact kit_int_int | exact kit_int_str | exact kit_int_tuple | exact kit_int_list | exact kit_int_dict | exact kit_str_bool | exact kit_str_int | exact kit_str_str | exact kit_str_tuple | exact kit_str_list | exact kit_str_dict | exact kit_tuple_bool | exact kit_tuple_int | exact kit_tuple_str | exact kit_tuple_tuple | exact kit_tuple_list | exact kit_tuple_dict | exact kit_list_bool | exact kit_list_int | exact kit_list_str | exact kit_list_tuple | exact kit_list_list | exact kit_list_dict | exact kit_dict_bool | exact kit_dict_int | exact kit_dict_str | exact kit_dict_tuple | exact kit_dict_list | exact kit_dict_dict) ?_
  | with_reducible refine w_int1 ?_
  | with_reducible refine w_fn1 ?_
  | with_reducible refine w_fn2 ?_
  | with_reducible refine w_fn3 ?_
  | with_reducible refine w_penC1 (by with_unfolding_all exact rfl) ?_
  | with_reducible refine w_penC2 (by with_unfolding_all exact rfl) ?_)
  have dl_z := True.intro
  clear dl_z))
local macro_rules | `(tactic| walk_at "dl") => `(tactic| repeat (first
  | with_reducible refine w_seq ?_
  | with_reducible refine w_kq ?_
  | with_reducible refine w_asg ?_
  | with_reducible refine w_if ?_
  | with_reducible refine w_B ?_
  | with_reducible refine w_P2 ?_
  | with_reducible refine w_vl ?_
  | with_reducible refine w_m2 ?_
  | with_reducible refine w_pur ?_
  | with_reducible refine w_plv ?_
  | with_reducible refine w_var (by with_unfolding_all exact rfl) (by first | with_unfolding_all exact rfl | assumption | exact frz_lstF _ | exact frz_tupD _ | exact Dt.fz _) ?_
  | with_reducible refine w_varL (by with_unfolding_all exact rfl) (by first | exact Dt.mfz _ | with_unfolding_all exact rfl) ?_
  | with_reducible refine w_app (by with_unfolding_all exact rfl) ?_
  | with_reducible refine w_inN ?_
  | with_reducible refine w_eqN ?_
  | with_reducible refine w_neN ?_
  | with_reducible refine w_minN ?_
  | with_reducible refine w_maxN ?_
  | with_reducible refine w_lcC ?_
  | with_reducible refine w_intB ?_
  | with_reducible refine w_ix2 ?_
  | with_reducible refine w_lstRg ?_
  | with_reducible refine w_yes ?_
  | with_reducible refine w_tgW ?_
  | with_reducible refine w_tgNI ?_
  | with_reducible refine w_tgNN ?_
  | with_reducible refine w_pv (by with_unfolding_all exact rfl) ?_
  | with_reducible refine w_tgN' (by with_unfolding_all exact rfl) ?_
  | with_reducible refine w_lk (by with_unfolding_all exact rfl) ?_
  | with_reducible refine w_toB ?_
  | with_reducible refine w_not ?_
  | with_reducible refine w_andT ?_
  | with_reducible refine w_orT ?_
  | with_reducible refine w_C ?_
  | with_reducible refine w_CB ?_
  | with_reducible refine w_v1 ?_
  | with_reducible refine w_exp ?_
  | with_reducible refine w_ret ?_
  | with_reducible refine w_rt ?_
  | with_reducible refine w_tt ?_
  | with_reducible refine w_ff ?_
  | with_reducible refine w_nt ?_
  | with_reducible refine w_nf ?_
  | with_reducible refine w_add ?_
  | with_reducible refine w_sub ?_
  | with_reducible refine w_lt ?_
  | with_reducible refine w_le ?_
  | with_reducible refine w_gt ?_
  | with_reducible refine w_ge ?_
  | with_reducible refine w_eq ?_
  | with_reducible refine w_ne ?_
  | with_reducible refine w_len ?_
  | with_reducible refine w_abs ?_
  | with_reducible refine w_neg ?_
  | with_reducible refine w_is ?_
  | with_reducible refine w_isNot ?_
  | with_reducible refine w_tm ?_
  | with_reducible refine w_tgs0 ?_
  | with_reducible refine w_tgsC ?_
  | with_reducible refine w_andV ?_
  | with_reducible refine w_orV ?_
  | with_reducible refine w_notV ?_
  | with_reducible refine w_chain ?_
  | with_reducible refine w_ifE ?_
  | with_reducible refine w_isi ?_
  | with_reducible refine w_isi2 ?_
  | with_reducible refine w_dic ?_
  | with_reducible refine w_pr ?_
  | with_reducible refine w_un ?_
  | with_reducible refine w_slice ?_
  | with_reducible refine w_for ?_
  | with_reducible refine w_lst ?_
  | with_reducible refine w_tup ?_
  | with_reducible refine w_mov (by with_unfolding_all exact rfl) ?_
  | with_reducible refine w_penL (by with_unfolding_all exact rfl) ?_
  | with_reducible refine w_penA (by with_unfolding_all exact rfl) ?_
  | with_reducible refine w_penS (by with_unfolding_all exact rfl) ?_
  | with_reducible refine w_pl0 (by with_unfolding_all exact rfl) ?_
  | with_reducible refine w_sl (by with_unfolding_all exact rfl) ?_
  | with_reducible refine w_tgT (by with_unfolding_all exact rfl) ?_
  | with_reducible refine w_toK (by with_unfolding_all exact rfl) ?_
  | with_reducible refine w_rix (by with_unfolding_all exact rfl) ?_
  | with_reducible refine w_rixs (by with_unfolding_all exact rfl) ?_
  | with_reducible refine w_penG (by with_unfolding_all exact rfl) ix_left ?_
  | with_reducible refine w_penG (by with_unfolding_all exact rfl) ix_at ?_
  | with_reducible refine w_penG (by with_unfolding_all exact rfl) ix_script ?_
  | with_reducible refine w_pl1 (by with_unfolding_all exact rfl) (by with_unfolding_all exact rfl) (by with_unfolding_all exact rfl) ?_
  | with_reducible refine w_mod (by omega) ?_
  | with_reducible refine w_div (by omega) ?_
  | with_reducible refine w_mulR (by omega) ?_
  | with_reducible refine w_mulL (by omega) ?_
  | with_reducible refine w_pow6 ?_
  | with_reducible refine w_pow9 ?_
  | with_reducible refine w_pow13 ?_
  | with_reducible refine w_pow17 ?_
  | with_reducible refine w_pow18 ?_
  | with_reducible refine w_pow20 ?_
  | with_reducible refine w_pow25 ?_
  | with_reducible refine w_pow27 ?_
  | with_reducible refine w_pow28 ?_
  | with_reducible refine w_pow29 ?_
  | with_reducible refine w_pow30 ?_
  | with_reducible refine w_ln (by with_unfolding_all exact rfl) ?_
  | with_reducible refine w_range1 ?_
  | with_reducible refine w_range2 ?_
  | with_reducible refine w_part ?_
  | with_reducible refine w_it ?_
  | with_reducible refine w_rgE (by omega) ?_
  | with_reducible refine w_rgE2 (by omega) (by omega) ?_
  | with_reducible refine w_take takeOk (by with_unfolding_all exact rfl) ?_
  | with_reducible refine w_isiK (by with_unfolding_all exact rfl) (by first | exact kit_NoneType_bool | exact kit_NoneType_int | exact kit_NoneType_str | exact kit_NoneType_tuple | exact kit_NoneType_list | exact kit_NoneType_dict | exact kit_bool_bool | exact kit_bool_int | exact kit_bool_str | exact kit_bool_tuple | exact kit_bool_list | exact kit_bool_dict | exact kit_int_bool | exact kit_int_int | exact kit_int_str | exact kit_int_tuple | exact kit_int_list | exact kit_int_dict | exact kit_str_bool | exact kit_str_int | exact kit_str_str | exact kit_str_tuple | exact kit_str_list | exact kit_str_dict | exact kit_tuple_bool | exact kit_tuple_int | exact kit_tuple_str | exact kit_tuple_tuple | exact kit_tuple_list | exact kit_tuple_dict | exact kit_list_bool | exact kit_list_int | exact kit_list_str | exact kit_list_tuple | exact kit_list_list | exact kit_list_dict | exact kit_dict_bool | exact kit_dict_int | exact kit_dict_str | exact kit_dict_tuple | exact kit_dict_list | exact kit_dict_dict) ?_
  | with_reducible refine w_isiK2 (by with_unfolding_all exact rfl) (by first | exact kit_NoneType_bool | exact kit_NoneType_int | exact kit_NoneType_str | exact kit_NoneType_tuple | exact kit_NoneType_list | exact kit_NoneType_dict | exact kit_bool_bool | exact kit_bool_int | exact kit_bool_str | exact kit_bool_tuple | exact kit_bool_list | exact kit_bool_dict | exact kit_int_bool | exact kit_int_int | exact kit_int_str | exact kit_int_tuple | exact kit_int_list | exact kit_int_dict | exact kit_str_bool | exact kit_str_int | exact kit_str_str | exact kit_str_tuple | exact kit_str_list | exact kit_str_dict | exact kit_tuple_bool | exact kit_tuple_int | exact kit_tuple_str | exact kit_tuple_tuple | exact kit_tuple_list | exact kit_tuple_dict | exact kit_list_bool | exact kit_list_int | exact kit_list_str | exact kit_list_tuple | exact kit_list_list | exact kit_list_dict | exact kit_dict_bool | exact kit_dict_int | exact kit_dict_str | exact kit_dict_tuple | exact kit_dict_list | exact kit_dict_dict) (by first | exact kit_NoneType_bool | exact kit_NoneType_int | exact kit_NoneType_str | exact kit_NoneType_tuple | exact kit_NoneType_list | exact kit_NoneType_dict | exact kit_bool_bool | exact kit_bool_int | exact kit_bool_str | exact kit_bool_tuple | exact kit_bool_list | exact kit_bool_dict | exact kit_int_bool | exact kit_int_int | exact kit_int_str | exact kit_int_tuple | exact kit_int_list | exact kit_int_dict | exact kit_str_bool | exact kit_str_int | exact kit_str_str | exact kit_str_tuple | exact kit_str_list | exact kit_str_dict | exact kit_tuple_bool | exact kit_tuple_int | exact kit_tuple_str | exact kit_tuple_tuple | exact kit_tuple_list | exact kit_tuple_dict | exact kit_list_bool | exact kit_list_int | exact kit_list_str | exact kit_list_tuple | exact kit_list_list | exact kit_list_dict | exact kit_dict_bool | exact kit_dict_int | exact kit_dict_str | exact kit_dict_tuple | exact kit_dict_list | exact kit_dict_dict) ?_
  | with_reducible refine w_int1 ?_
  | with_reducible refine w_fn1 ?_
  | with_reducible refine w_fn2 ?_
  | with_reducible refine w_fn3 ?_
  | with_reducible refine w_penC1 (by with_unfolding_all exact rfl) ?_
  | with_reducible refine w_penC2 (by with_unfolding_all exact rfl) ?_))
theorem length_spec : PenOk F__law_length [] (fun d => ∃ i : Int, d = .int i ∧ 1 ≤ i) := fun p => by
  refine fok_mk [some p.d, none] rfl ?_
  unfold m__law_length
  walk_at "dl"
  refine w_tkE rfl ?_ fun r p1 h0 h1 => ?_
  · omega
  walk_at "dl"
  refine w_by (fun hc => ?_) (fun hc => ?_)
  · walk_at "dl"
    refine w_tkE rfl ?_ fun r p1 h0 h1 => ?_
    · omega
    walk_at "dl"
    exact ⟨⟨_, rfl, by omega⟩, _, rfl⟩
  · walk_at "dl"
    refine w_by (fun hc => ?_) (fun hc => ?_)
    · walk_at "dl"
      refine w_tkE rfl ?_ fun r p1 h0 h1 => ?_
      · omega
      walk_at "dl"
      exact ⟨⟨_, rfl, by omega⟩, _, rfl⟩
    · walk_at "dl"
      refine w_tkE rfl ?_ fun r p1 h0 h1 => ?_
      · omega
      walk_at "dl"
      exact ⟨⟨_, rfl, by omega⟩, _, rfl⟩
theorem names_spec (many : Int) (hm0 : 1 ≤ many) (hm1 : many ≤ 30) : PenOk F__law_names [.int many] (fun d => ∃ l : List Nm, d = .nd (.lst true) (l.map Dt.d) ∧ (l.length : Int) = many ∧ l.Nodup) := fun p => by
  refine fok_mk [some p.d, some (.int many), none, none, none, none, none, none] rfl ?_
  unfold m__law_names
  walk_at "di"
  refine w_seq ?_
  walk_at "di"
  refine w_loop (I := fun k ρ => (k : Int) ≤ many ∧ ∃ (p : Pen) (l : List Nm) (o1 o2 o3 o4 : Option D), ρ = [some p.d, some (.int many), some (.str "abcdefghijklmnopqrstuvwxyz"), some (.nd (.lst true) (l.map Dt.d)), o1, o2, o3, o4] ∧ l.length = k ∧ l.Nodup) ⟨by omega, p, [], none, none, none, none, rfl, rfl, List.nodup_nil⟩ ?_ ?_
  · rintro k d hd ρ ⟨hk, p, l, o1, o2, o3, o4, rfl, hl, hn⟩
    obtain ⟨rfl, hkr⟩ := range_get hd
    walk_at "di"
    refine w_seqC (fun ρ => ∃ (p : Pen) (x : Str) (o1 o3 o4 : Option D), ρ = [some p.d, some (.int many), some (.str "abcdefghijklmnopqrstuvwxyz"), some (.nd (.lst true) (l.map Dt.d)), o1, some (.str x), o3, o4] ∧ LS 5 x) ?_ ?_
    · walk_at "di"
      refine w_neNil ?_
      walk_at "di"
      refine w_byN (fun hc => ?_) (fun hc => ?_)
      · walk_at "di"
        refine w_tkE rfl ?_ fun r p1 h0 h1 => ?_
        · omega
        walk_at "di"
        refine w_by (fun hc2 => ?_) (fun hc2 => ?_)
        · walk_at "di"
          obtain ⟨a, ha⟩ : ∃ a, l.getLast? = some a := by
            cases l with
            | nil => exact (hc rfl).elim
            | cons b l => exact ⟨_, List.getLast?_eq_some_getLast (by simp)⟩
          refine w_ixLast rfl ha ?_
          walk_at "di"
          refine w_slS (by show a.1.length ≤ 1000; have := a.sok.1; omega) ?_
          walk_at "di"
          exact ⟨rfl, _, _, _, _, _, rfl, cut_len5 a.ls⟩
        · walk_at "di"
          exact ⟨rfl, _, _, _, _, _, rfl, LS.nil.mono (by omega)⟩
      · walk_at "di"
        exact ⟨rfl, _, _, _, _, _, rfl, LS.nil.mono (by omega)⟩
    · rintro ρ ⟨p, x, o1, o3, o4, rfl, hx⟩
      walk_at "di"
      refine w_seqC (fun ρ => ∃ (p : Pen) (a : Nm) (o1 o3 o4 : Option D), ρ = [some p.d, some (.int many), some (.str "abcdefghijklmnopqrstuvwxyz"), some (.nd (.lst true) (l.map Dt.d)), o1, some (.str a.1), o3, o4]) ?_ ?_
      · walk_at "di"
        refine w_lenS' (by have := hx.1; omega) ?_
        walk_at "di"
        refine w_tkE rfl ?_ fun r p1 h0 h1 => ?_
        · have := hx.1; omega
        walk_at "di"
        refine w_loop (I := fun k ρ => (k : Int) ≤ 1 + r ∧ ∃ (p : Pen) (y : Str) (o1 o3 o4 : Option D), ρ = [some p.d, some (.int many), some (.str "abcdefghijklmnopqrstuvwxyz"), some (.nd (.lst true) (l.map Dt.d)), o1, some (.str y), o3, o4] ∧ LS 6 y ∧ y.length = x.length + k) ⟨by omega, _, _, _, _, _, rfl, hx.mono (by omega), rfl⟩ ?_ ?_
        · rintro j d hd ρ ⟨hj, p, y, o1, o3, o4, rfl, hy, hyl⟩
          obtain ⟨rfl, hjr⟩ := range_get hd
          walk_at "di"
          refine w_tkE rfl ?_ fun s p1 h2 h3 => ?_
          · omega
          refine w_letter rfl h2 h3 ?_
          walk_at "di"
          refine w_addS (by have := hy.1; show y.length + 1 ≤ 1000; omega) ?_
          walk_at "di"
          have hl1 : (y ++ (⟨#[97 + s.toNat]⟩ : Str)).length = y.length + 1 := len_app _ _
          exact ⟨by omega, _, _, _, _, _, rfl, ⟨by omega, (hy.app (LS.one (c := s.toNat) (by omega))).2⟩, by omega⟩
        · rintro ρ ⟨hj, p, y, o1, o3, o4, rfl, hy, hyl⟩
          rw [range_len] at hyl
          exact ⟨rfl, p, hy.nm (by omega), _, _, _, rfl⟩
      · rintro ρ ⟨p, a, o1, o3, o4, rfl⟩
        walk_at "di"
        refine w_seqC (fun ρ => ∃ (p : Pen) (a : Nm) (o1 o3 o4 : Option D), ρ = [some p.d, some (.int many), some (.str "abcdefghijklmnopqrstuvwxyz"), some (.nd (.lst true) (l.map Dt.d)), o1, some (.str a.1), o3, o4] ∧ a ∉ l) ?_ ?_
        · refine w_while (n := 100) (I := fun n ρ => ∃ (p : Pen) (a : Nm) (o1 o3 : Option D) (s : Nat), ρ = [some p.d, some (.int many), some (.str "abcdefghijklmnopqrstuvwxyz"), some (.nd (.lst true) (l.map Dt.d)), o1, some (.str a.1), o3, some (.int s)] ∧ n + s = 100 ∧ (0 < s → a = cand (s - 1)) ∧ ∀ j, j + 1 < s → cand j ∈ l) ?_ (by unfold FUEL; omega) ⟨p, a, _, _, 0, rfl, rfl, by omega, by omega⟩
          rintro n ρ ⟨p, a, o1, o3, s, rfl, hs, ha, hj⟩
          walk_at "di"
          refine w_by (fun hc => ?_) (fun hc => ?_)
          · have hs1 : ∀ j, j < s → cand j ∈ l := fun j hjs => by
              by_cases h : j + 1 = s
              · have := ha (by omega)
                rw [show j = s - 1 by omega, ← this]; exact hc
              · exact hj j (by omega)
            have hfew := cands_few (by omega) hs1
            refine ⟨n - 1, by omega, ?_⟩
            walk_at "di"
            refine w_letter rfl (by omega) (by omega) ?_
            walk_at "di"
            refine w_letter rfl (by omega) (by omega) ?_
            refine w_addS (by show 1 + 1 ≤ 1000; omega) ?_
            walk_at "di"
            refine ⟨n - 1, by omega, p, cand s, o1, o3, s + 1, ?_, by omega, fun _ => rfl, fun j h => hs1 j (by omega)⟩
            have e1 : ((s : Int) / 26 % 26).toNat = s / 26 % 26 := by omega
            have e2 : ((s : Int) % 26).toNat = s % 26 := by omega
            rw [e1, e2]; rfl
          · exact ⟨rfl, _, _, _, _, _, rfl, hc⟩
        · rintro ρ ⟨p, a, o1, o3, o4, rfl, ha⟩
          walk_at "di"
          refine ⟨_, _, rfl, rfl, by rw [List.length_map]; omega, ?_⟩
          walk_at "di"
          rw [show l.map Dt.d ++ [D.str a.1] = (l ++ [a]).map Dt.d from app_map l a]
          refine ⟨by omega, _, l ++ [a], _, _, _, _, rfl, by simp [hl], ?_⟩
          · refine List.nodup_append.mpr ⟨hn, List.nodup_cons.mpr ⟨by simp, List.nodup_nil⟩, ?_⟩
            intro b hb c hc e
            rw [List.mem_singleton] at hc
            exact ha (hc ▸ e ▸ hb)
  · rintro ρ ⟨hk, p, l, o1, o2, o3, o4, rfl, hl, hn⟩
    rw [range_len] at hl hk
    walk_at "di"
    exact ⟨⟨l, rfl, by omega, hn⟩, _, rfl⟩
theorem tree_spec {l : List Nm} (hn : l.Nodup) (hl1 : 1 ≤ l.length) (h30 : l.length ≤ 30) : PenOk F__law_tree [.nd (.lst false) (l.map Dt.d)] (fun d => ∃ ws : List Way, d = .nd (.lst true) (ws.map Dt.d) ∧ Web l ws ∧ ws.length + 1 = l.length) := fun p => by
  refine fok_mk [some p.d, some (.nd (.lst false) (l.map Dt.d)), none, none, none, none] rfl ?_
  unfold m__law_tree
  walk_at "di"
  refine w_tkE rfl ?_ fun shape p1 hs0 hs1 => ?_
  · omega
  walk_at "di"
  refine w_seq ?_
  walk_at "di"
  rw [List.length_map]
  refine w_rgE2 (by omega) (by omega) ?_
  refine w_loop (I := fun k ρ => k + 1 ≤ l.length ∧ ∃ (p : Pen) (es : List Ix) (o1 o2 : Option D), ρ = [some p.d, some (.nd (.lst false) (l.map Dt.d)), some (.int shape), some (.nd (.lst true) ((es.map (wyOf l)).map Dt.d)), o1, o2] ∧ IxOk (k + 1) es ∧ es.length = k) ⟨by omega, _, [], _, _, rfl, .one, rfl⟩ ?_ ?_
  · rintro k d hd ρ ⟨hk, p, es, o1, o2, rfl, hes, hel⟩
    obtain ⟨rfl, hkr⟩ := range_get hd
    have ek : (1 : Int) + (k : Int) = ((k + 1 : Nat) : Int) := by omega
    rw [ek]
    walk_at "di"
    refine w_tkE rfl ?_ fun r p1 h2 h3 => ?_
    · omega
    walk_at "di"
    have hix : ∃ j : Nat, j < k + 1 ∧ fIx (.nd (.lst true) [.int (((k + 1 : Nat) : Int) - 1), .int 0, .int r]) (.int shape) = some (.int (j : Int)) := by
      have : shape = 0 ∨ shape = 1 ∨ shape = 2 := by omega
      rcases this with rfl | rfl | rfl
      · exact ⟨k, by omega, by rw [show ((k + 1 : Nat) : Int) - 1 = (k : Int) by omega]; rfl⟩
      · exact ⟨0, by omega, rfl⟩
      · exact ⟨r.toNat, by omega, by rw [show ((r.toNat : Nat) : Int) = r by omega]; rfl⟩
    obtain ⟨j, hj, ej⟩ := hix
    refine w_lft ej ?_
    walk_at "di"
    refine w_ixL rfl (gN_get (l := l) (i := j) (by omega)) ?_
    walk_at "di"
    refine w_ixL rfl (gN_get (l := l) (i := k + 1) (by omega)) ?_
    walk_at "di"
    refine w_penC0 length_spec rfl ?_
    rintro d p' ⟨c, rfl, hc⟩
    walk_at "di"
    refine ⟨_, _, rfl, rfl, by rw [List.length_map, List.length_map]; omega, ?_⟩
    walk_at "di"
    rw [show (es.map (wyOf l)).map Dt.d ++ [D.nd .tup [Dt.d (gN l j), Dt.d (gN l (k + 1)), D.int c]] = ((es ++ [(⟨j, k + 1, c⟩ : Ix)]).map (wyOf l)).map Dt.d by rw [List.map_append, List.map_append]; rfl]
    exact ⟨by omega, _, es ++ [⟨j, k + 1, c⟩], _, _, rfl, hes.step (js := [j]) (by omega) (by simp) (by simp; omega) (by simp) rfl (by simp; exact hc), by rw [List.length_append, hel]; rfl⟩
  · rintro ρ ⟨hk, p, es, o1, o2, rfl, hes, hel⟩
    rw [range_len] at hk hes hel
    rw [show ((l.length : Int) - 1).toNat + 1 = l.length by omega] at hes
    walk_at "di"
    exact ⟨⟨_, rfl, ⟨es, rfl, hes, by omega⟩, by rw [List.length_map]; omega⟩, p, by show [_, D.frz _] = _; rw [frz_lstF]⟩
abbrev webD (pl : List Nm) (ws : List Way) : D := .nd .tup [.nd .tup (pl.map Dt.d), .nd .tup (ws.map Dt.d)]
theorem webD_fz (pl : List Nm) (ws : List Way) : [D.nd .tup (pl.map Dt.d), .nd .tup (ws.map Dt.d)].map D.frz = [D.nd .tup (pl.map Dt.d), .nd .tup (ws.map Dt.d)] := by
  simp only [List.map_cons, List.map_nil, frz_tupD]
theorem webD_frz (pl : List Nm) (ws : List Way) : (webD pl ws).frz = webD pl ws := by rw [frz_nd, webD_fz]; rfl
theorem laid_spec {l : List Nm} {ws : List Way} (hw : ws.length ≤ 900) : FnOk1 F__law_laid [.nd (.lst false) (l.map Dt.d), .nd (.lst false) (ws.map Dt.d)] (fun d => d = webD (srt l) (srt (ws.map ordW))) := by
  refine fok_mk [some (.nd (.lst false) (l.map Dt.d)), some (.nd (.lst false) (ws.map Dt.d)), none, none, none, none] rfl ?_
  unfold m__law_laid
  walk_at "di"
  refine w_itL ?_
  refine w_cmM (l := ws) [some (.nd (.lst false) (l.map Dt.d)), some (.nd (.lst false) (ws.map Dt.d)), none, none, none, none] ordW rfl (by omega) ?_ ?_
  · intro w hw
    walk_at "di"
    refine ⟨rfl, ?_⟩
    walk_at "di"
    exact ⟨rfl, rfl⟩
  walk_at "di"
  refine w_sort ?_
  walk_at "di"
  refine w_sort ?_
  walk_at "di"
  refine w_tuple ?_
  walk_at "di"
  refine w_tuple ?_
  walk_at "di"
  exact ⟨rfl, by show [D.frz _, D.frz _] = _; rw [frz_lstF, frz_lstF]⟩
theorem pen_spec (ns : List Int) : FnOk1 F__law_pen [.nd .scr (ns.map .int)] (fun d => ∃ p : Pen, d = p.d) := by
  refine fok_mk [some (.nd .scr (ns.map .int))] rfl ?_
  unfold m__law_pen
  have hf := scr_frz ns
  walk_at "di"
  refine ⟨⟨pk_nd, Nat.le_of_ble_eq_true rfl⟩, ?_⟩
  walk_at "di"
  refine ⟨⟨⟨ns, 0, 0⟩, rfl⟩, ?_⟩
  show [_] = _
  rw [hf]

end Wk
namespace Wk
open PySem PySem.Spec L2 DL
open PySem.W (Tup T3 T4 minOf maxOf Datum DatumOrd)
local macro_rules | `(tactic| walk_at "di") => `(tactic| (
  repeat (first
  | with_reducible refine w_seqA ?_
  | with_reducible refine w_seqE ?_
  | with_reducible refine w_seqR ?_
  | with_reducible refine w_kq ?_
  | with_reducible refine w_asg ?_
  | with_reducible refine w_if ?_
  | with_reducible refine w_B ?_
  | with_reducible refine w_P2 ?_
  | with_reducible refine w_vl ?_
  | with_reducible refine w_m2 ?_
  | with_reducible refine w_pur ?_
  | with_reducible refine w_plv ?_
  | with_reducible refine w_var (by with_unfolding_all exact rfl) (by first | with_unfolding_all exact rfl | assumption | exact frz_lstF _ | exact frz_tupD _ | exact Dt.fz _) ?_
  | with_reducible refine w_varL (by with_unfolding_all exact rfl) (by first | exact Dt.mfz _ | with_unfolding_all exact rfl) ?_
  | with_reducible refine w_app (by with_unfolding_all exact rfl) ?_
  | with_reducible refine w_inN ?_
  | with_reducible refine w_eqN ?_
  | with_reducible refine w_neN ?_
  | with_reducible refine w_minN ?_
  | with_reducible refine w_maxN ?_
  | with_reducible refine w_lcC ?_
  | with_reducible refine w_intB ?_
  | with_reducible refine w_ix2 ?_
  | with_reducible refine w_lstRg ?_
  | with_reducible refine w_yes ?_
  | with_reducible refine w_tgW ?_
  | with_reducible refine w_tgNI ?_
  | with_reducible refine w_tgNN ?_
  | with_reducible refine w_pv (by with_unfolding_all exact rfl) ?_
  | with_reducible refine w_tgN' (by with_unfolding_all exact rfl) ?_
  | with_reducible refine w_lk (by with_unfolding_all exact rfl) ?_
  | with_reducible refine w_toB ?_
  | with_reducible refine w_not ?_
  | with_reducible refine w_andT ?_
  | with_reducible refine w_orT ?_
  | with_reducible refine w_C ?_
  | with_reducible refine w_CB ?_
  | with_reducible refine w_v1 ?_
  | with_reducible refine w_exp ?_
  | with_reducible refine w_ret ?_
  | with_reducible refine w_rt ?_
  | with_reducible refine w_tt ?_
  | with_reducible refine w_ff ?_
  | with_reducible refine w_nt ?_
  | with_reducible refine w_nf ?_
  | with_reducible refine w_add ?_
  | with_reducible refine w_sub ?_
  | with_reducible refine w_lt ?_
  | with_reducible refine w_le ?_
  | with_reducible refine w_gt ?_
  | with_reducible refine w_ge ?_
  | with_reducible refine w_eq ?_
  | with_reducible refine w_ne ?_
  | with_reducible refine w_len ?_
  | with_reducible refine w_abs ?_
  | with_reducible refine w_neg ?_
  | with_reducible refine w_is ?_
  | with_reducible refine w_isNot ?_
  | with_reducible refine w_tm ?_
  | with_reducible refine w_tgs0 ?_
  | with_reducible refine w_tgsC ?_
  | with_reducible refine w_andV ?_
  | with_reducible refine w_orV ?_
  | with_reducible refine w_notV ?_
  | with_reducible refine w_chain ?_
  | with_reducible refine w_ifE ?_
  | with_reducible refine w_isi ?_
  | with_reducible refine w_isi2 ?_
  | with_reducible refine w_dic ?_
  | with_reducible refine w_pr ?_
  | with_reducible refine w_un ?_
  | with_reducible refine w_slice ?_
  | with_reducible refine w_for ?_
  | with_reducible refine w_lst ?_
  | with_reducible refine w_tup ?_
  | with_reducible refine w_mov (by with_unfolding_all exact rfl) ?_
  | with_reducible refine w_penL (by with_unfolding_all exact rfl) ?_
  | with_reducible refine w_penA (by with_unfolding_all exact rfl) ?_
  | with_reducible refine w_penS (by with_unfolding_all exact rfl) ?_
  | with_reducible refine w_pl0 (by with_unfolding_all exact rfl) ?_
  | with_reducible refine w_sl (by with_unfolding_all exact rfl) ?_
  | with_reducible refine w_tgT (by with_unfolding_all exact rfl) ?_
  | with_reducible refine w_toK (by with_unfolding_all exact rfl) ?_
  | with_reducible refine w_rix (by with_unfolding_all exact rfl) ?_
  | with_reducible refine w_rixs (by with_unfolding_all exact rfl) ?_
  | with_reducible refine w_penG (by with_unfolding_all exact rfl) ix_left ?_
  | with_reducible refine w_penG (by with_unfolding_all exact rfl) ix_at ?_
  | with_reducible refine w_penG (by with_unfolding_all exact rfl) ix_script ?_
  | with_reducible refine w_pl1 (by with_unfolding_all exact rfl) (by with_unfolding_all exact rfl) (by with_unfolding_all exact rfl) ?_
  | with_reducible refine w_mod (by omega) ?_
  | with_reducible refine w_div (by omega) ?_
  | with_reducible refine w_mulR (by omega) ?_
  | with_reducible refine w_mulL (by omega) ?_
  | with_reducible refine w_pow6 ?_
  | with_reducible refine w_pow9 ?_
  | with_reducible refine w_pow13 ?_
  | with_reducible refine w_pow17 ?_
  | with_reducible refine w_pow18 ?_
  | with_reducible refine w_pow20 ?_
  | with_reducible refine w_pow25 ?_
  | with_reducible refine w_pow27 ?_
  | with_reducible refine w_pow28 ?_
  | with_reducible refine w_pow29 ?_
  | with_reducible refine w_pow30 ?_
  | with_reducible refine w_ln (by with_unfolding_all exact rfl) ?_
  | with_reducible refine w_range1 ?_
  | with_reducible refine w_range2 ?_
  | with_reducible refine w_part ?_
  | with_reducible refine w_it ?_
  | with_reducible refine w_rgE (by omega) ?_
  | with_reducible refine w_rgE2 (by omega) (by omega) ?_
  | with_reducible refine w_take takeOk (by with_unfolding_all exact rfl) ?_
  | with_reducible refine w_isiK (by with_unfolding_all exact rfl) (by first | exact kit_NoneType_bool | exact kit_NoneType_int | exact kit_NoneType_str | exact kit_NoneType_tuple | exact kit_NoneType_list | exact kit_NoneType_dict | exact kit_bool_bool | exact kit_bool_int | exact kit_bool_str | exact kit_bool_tuple | exact kit_bool_list | exact kit_bool_dict | exact kit_int_bool | exact kit_int_int | exact kit_int_str | exact kit_int_tuple | exact kit_int_list | exact kit_int_dict | exact kit_str_bool | exact kit_str_int | exact kit_str_str | exact kit_str_tuple | exact kit_str_list | exact kit_str_dict | exact kit_tuple_bool | exact kit_tuple_int | exact kit_tuple_str | exact kit_tuple_tuple | exact kit_tuple_list | exact kit_tuple_dict | exact kit_list_bool | exact kit_list_int | exact kit_list_str | exact kit_list_tuple | exact kit_list_list | exact kit_list_dict | exact kit_dict_bool | exact kit_dict_int | exact kit_dict_str | exact kit_dict_tuple | exact kit_dict_list | exact kit_dict_dict) ?_
  | with_reducible refine w_isiK2 (by with_unfolding_all exact rfl) (by first | exact kit_NoneType_bool | exact kit_NoneType_int | exact kit_NoneType_str | exact kit_NoneType_tuple | exact kit_NoneType_list | exact kit_NoneType_dict | exact kit_bool_bool | exact kit_bool_int | exact kit_bool_str | exact kit_bool_tuple | exact kit_bool_list | exact kit_bool_dict | exact kit_int_bool | exact kit_int_int | exact kit_int_str | exact kit_int_tuple | exact kit_int_list | exact kit_int_dict | exact kit_str_bool | exact kit_str_int | exact kit_str_str | exact kit_str_tuple | exact kit_str_list | exact kit_str_dict | exact kit_tuple_bool | exact kit_tuple_int | exact kit_tuple_str | exact kit_tuple_tuple | exact kit_tuple_list | exact kit_tuple_dict | exact kit_list_bool | exact kit_list_int | exact kit_list_str | exact kit_list_tuple | exact kit_list_list | exact kit_list_dict | exact kit_dict_bool | exact kit_dict_int | exact kit_dict_str | exact kit_dict_tuple | exact kit_dict_list | exact kit_dict_dict) (by first | exact kit_NoneType_bool | exact kit_NoneType_int | exact kit_NoneType_str | exact kit_NoneType_tuple | exact kit_NoneType_list | exact kit_NoneType_dict | exact kit_bool_bool | exact kit_bool_int | exact kit_bool_str | exact kit_bool_tuple | exact kit_bool_list | exact kit_bool_dict | exact kit_int_bool | exact kit_int_int | exact kit_int_str | exact kit_int_tuple | exact kit_int_list | exact kit_int_dict | exact kit_str_bool | exact kit_str_int | exact kit_str_str | exact kit_str_tuple | exact kit_str_list | exact kit_str_dict | exact kit_tuple_bool | exact kit_tuple_int | exact kit_tuple_str | exact kit_tuple_tuple | exact kit_tuple_list | exact kit_tuple_dict | exact kit_list_bool | exact kit_list_int | exact kit_list_str | exact kit_list_tuple | exact kit_list_list | exact kit_list_dict | exact kit_dict_bool | exact kit_dict_int | exact kit_dict_str | exact kit_dict_tuple | exact kit_dict_list | exact kit_dict_dict) ?_
  | with_reducible refine w_int1 ?_
  | with_reducible refine w_fn1 ?_
  | with_reducible refine w_fn2 ?_
  | with_reducible refine w_fn3 ?_
  | with_reducible refine w_penC1 (by with_unfolding_all exact rfl) ?_
  | with_reducible refine w_penC2 (by with_unfolding_all exact rfl) ?_)
  have dl_z := True.intro
  clear dl_z))
local macro_rules | `(tactic| walk_at "dl") => `(tactic| repeat (first
  | with_reducible refine w_seq ?_
  | with_reducible refine w_kq ?_
  | with_reducible refine w_asg ?_
  | with_reducible refine w_if ?_
  | with_reducible refine w_B ?_
  | with_reducible refine w_P2 ?_
  | with_reducible refine w_vl ?_
  | with_reducible refine w_m2 ?_
  | with_reducible refine w_pur ?_
  | with_reducible refine w_plv ?_
  | with_reducible refine w_var (by with_unfolding_all exact rfl) (by first | with_unfolding_all exact rfl | assumption | exact frz_lstF _ | exact frz_tupD _ | exact Dt.fz _) ?_
  | with_reducible refine w_varL (by with_unfolding_all exact rfl) (by first | exact Dt.mfz _ | with_unfolding_all exact rfl) ?_
  | with_reducible refine w_app (by with_unfolding_all exact rfl) ?_
  | with_reducible refine w_inN ?_
  | with_reducible refine w_eqN ?_
  | with_reducible refine w_neN ?_
  | with_reducible refine w_minN ?_
  | with_reducible refine w_maxN ?_
  | with_reducible refine w_lcC ?_
  | with_reducible refine w_intB ?_
  | with_reducible refine w_ix2 ?_
  | with_reducible refine w_lstRg ?_
  | with_reducible refine w_yes ?_
  | with_reducible refine w_tgW ?_
  | with_reducible refine w_tgNI ?_
  | with_reducible refine w_tgNN ?_
  | with_reducible refine w_pv (by with_unfolding_all exact rfl) ?_
  | with_reducible refine w_tgN' (by with_unfolding_all exact rfl) ?_
  | with_reducible refine w_lk (by with_unfolding_all exact rfl) ?_
  | with_reducible refine w_toB ?_
  | with_reducible refine w_not ?_
  | with_reducible refine w_andT ?_
  | with_reducible refine w_orT ?_
  | with_reducible refine w_C ?_
  | with_reducible refine w_CB ?_
  | with_reducible refine w_v1 ?_
  | with_reducible refine w_exp ?_
  | with_reducible refine w_ret ?_
  | with_reducible refine w_rt ?_
  | with_reducible refine w_tt ?_
  | with_reducible refine w_ff ?_
  | with_reducible refine w_nt ?_
  | with_reducible refine w_nf ?_
  | with_reducible refine w_add ?_
  | with_reducible refine w_sub ?_
  | with_reducible refine w_lt ?_
  | with_reducible refine w_le ?_
  | with_reducible refine w_gt ?_
  | with_reducible refine w_ge ?_
  | with_reducible refine w_eq ?_
  | with_reducible refine w_ne ?_
  | with_reducible refine w_len ?_
  | with_reducible refine w_abs ?_
  | with_reducible refine w_neg ?_
  | with_reducible refine w_is ?_
  | with_reducible refine w_isNot ?_
  | with_reducible refine w_tm ?_
  | with_reducible refine w_tgs0 ?_
  | with_reducible refine w_tgsC ?_
  | with_reducible refine w_andV ?_
  | with_reducible refine w_orV ?_
  | with_reducible refine w_notV ?_
  | with_reducible refine w_chain ?_
  | with_reducible refine w_ifE ?_
  | with_reducible refine w_isi ?_
  | with_reducible refine w_isi2 ?_
  | with_reducible refine w_dic ?_
  | with_reducible refine w_pr ?_
  | with_reducible refine w_un ?_
  | with_reducible refine w_slice ?_
  | with_reducible refine w_for ?_
  | with_reducible refine w_lst ?_
  | with_reducible refine w_tup ?_
  | with_reducible refine w_mov (by with_unfolding_all exact rfl) ?_
  | with_reducible refine w_penL (by with_unfolding_all exact rfl) ?_
  | with_reducible refine w_penA (by with_unfolding_all exact rfl) ?_
  | with_reducible refine w_penS (by with_unfolding_all exact rfl) ?_
  | with_reducible refine w_pl0 (by with_unfolding_all exact rfl) ?_
  | with_reducible refine w_sl (by with_unfolding_all exact rfl) ?_
  | with_reducible refine w_tgT (by with_unfolding_all exact rfl) ?_
  | with_reducible refine w_toK (by with_unfolding_all exact rfl) ?_
  | with_reducible refine w_rix (by with_unfolding_all exact rfl) ?_
  | with_reducible refine w_rixs (by with_unfolding_all exact rfl) ?_
  | with_reducible refine w_penG (by with_unfolding_all exact rfl) ix_left ?_
  | with_reducible refine w_penG (by with_unfolding_all exact rfl) ix_at ?_
  | with_reducible refine w_penG (by with_unfolding_all exact rfl) ix_script ?_
  | with_reducible refine w_pl1 (by with_unfolding_all exact rfl) (by with_unfolding_all exact rfl) (by with_unfolding_all exact rfl) ?_
  | with_reducible refine w_mod (by omega) ?_
  | with_reducible refine w_div (by omega) ?_
  | with_reducible refine w_mulR (by omega) ?_
  | with_reducible refine w_mulL (by omega) ?_
  | with_reducible refine w_pow6 ?_
  | with_reducible refine w_pow9 ?_
  | with_reducible refine w_pow13 ?_
  | with_reducible refine w_pow17 ?_
  | with_reducible refine w_pow18 ?_
  | with_reducible refine w_pow20 ?_
  | with_reducible refine w_pow25 ?_
  | with_reducible refine w_pow27 ?_
  | with_reducible refine w_pow28 ?_
  | with_reducible refine w_pow29 ?_
  | with_reducible refine w_pow30 ?_
  | with_reducible refine w_ln (by with_unfolding_all exact rfl) ?_
  | with_reducible refine w_range1 ?_
  | with_reducible refine w_range2 ?_
  | with_reducible refine w_part ?_
  | with_reducible refine w_it ?_
  | with_reducible refine w_rgE (by omega) ?_
  | with_reducible refine w_rgE2 (by omega) (by omega) ?_
  | with_reducible refine w_take takeOk (by with_unfolding_all exact rfl) ?_
  | with_reducible refine w_isiK (by with_unfolding_all exact rfl) (by first | exact kit_NoneType_bool | exact kit_NoneType_int | exact kit_NoneType_str | exact kit_NoneType_tuple | exact kit_NoneType_list | exact kit_NoneType_dict | exact kit_bool_bool | exact kit_bool_int | exact kit_bool_str | exact kit_bool_tuple | exact kit_bool_list | exact kit_bool_dict | exact kit_int_bool | exact kit_int_int | exact kit_int_str | exact kit_int_tuple | exact kit_int_list | exact kit_int_dict | exact kit_str_bool | exact kit_str_int | exact kit_str_str | exact kit_str_tuple | exact kit_str_list | exact kit_str_dict | exact kit_tuple_bool | exact kit_tuple_int | exact kit_tuple_str | exact kit_tuple_tuple | exact kit_tuple_list | exact kit_tuple_dict | exact kit_list_bool | exact kit_list_int | exact kit_list_str | exact kit_list_tuple | exact kit_list_list | exact kit_list_dict | exact kit_dict_bool | exact kit_dict_int | exact kit_dict_str | exact kit_dict_tuple | exact kit_dict_list | exact kit_dict_dict) ?_
  | with_reducible refine w_isiK2 (by with_unfolding_all exact rfl) (by first | exact kit_NoneType_bool | exact kit_NoneType_int | exact kit_NoneType_str | exact kit_NoneType_tuple | exact kit_NoneType_list | exact kit_NoneType_dict | exact kit_bool_bool | exact kit_bool_int | exact kit_bool_str | exact kit_bool_tuple | exact kit_bool_list | exact kit_bool_dict | exact kit_int_bool | exact kit_int_int | exact kit_int_str | exact kit_int_tuple | exact kit_int_list | exact kit_int_dict | exact kit_str_bool | exact kit_str_int | exact kit_str_str | exact kit_str_tuple | exact kit_str_list | exact kit_str_dict | exact kit_tuple_bool | exact kit_tuple_int | exact kit_tuple_str | exact kit_tuple_tuple | exact kit_tuple_list | exact kit_tuple_dict | exact kit_list_bool | exact kit_list_int | exact kit_list_str | exact kit_list_tuple | exact kit_list_list | exact kit_list_dict | exact kit_dict_bool | exact kit_dict_int | exact kit_dict_str | exact kit_dict_tuple | exact kit_dict_list | exact kit_dict_dict) (by first | exact kit_NoneType_bool | exact kit_NoneType_int | exact kit_NoneType_str | exact kit_NoneType_tuple | exact kit_NoneType_list | exact kit_NoneType_dict | exact kit_bool_bool | exact kit_bool_int | exact kit_bool_str | exact kit_bool_tuple | exact kit_bool_list | exact kit_bool_dict | exact kit_int_bool | exact kit_int_int | exact kit_int_str | exact kit_int_tuple | exact kit_int_list | exact kit_int_dict | exact kit_str_bool | exact kit_str_int | exact kit_str_str | exact kit_str_tuple | exact kit_str_list | exact kit_str_dict | exact kit_tuple_bool | exact kit_tuple_int | exact kit_tuple_str | exact kit_tuple_tuple | exact kit_tuple_list | exact kit_tuple_dict | exact kit_list_bool | exact kit_list_int | exact kit_list_str | exact kit_list_tuple | exact kit_list_list | exact kit_list_dict | exact kit_dict_bool | exact kit_dict_int | exact kit_dict_str | exact kit_dict_tuple | exact kit_dict_list | exact kit_dict_dict) ?_
  | with_reducible refine w_int1 ?_
  | with_reducible refine w_fn1 ?_
  | with_reducible refine w_fn2 ?_
  | with_reducible refine w_fn3 ?_
  | with_reducible refine w_penC1 (by with_unfolding_all exact rfl) ?_
  | with_reducible refine w_penC2 (by with_unfolding_all exact rfl) ?_))
abbrev nearD (pl : List Nm) (ws : List Way) : D := .nd (.dic true (pl.map kN)) (pl.map fun x => .nd (.lst true) ((nbr ws x).map Dt.d))
theorem near_spec {pl : List Nm} {ws : List Way} (hn : pl.Nodup) (hp : pl.length ≤ 900) (hl : ws.length ≤ 900) (hw : ∀ w ∈ ws, w.a ∈ pl ∧ w.b ∈ pl ∧ w.a ≠ w.b) : FnOk1 F_near_by [webD pl ws] (fun d => d = nearD pl ws) := by
  refine fok_mk [some (webD pl ws), none, none, none, none, none] rfl ?_
  unfold m_near_by
  walk_at "di"
  refine w_seqC (fun ρ => ∃ o2 : Option D, ρ = [some (webD pl ws), some (nearD pl []), o2, none, none, none]) ?_ ?_
  · walk_at "di"
    refine w_rdT (j := 0) rfl rfl (webD_fz pl ws) ?_
    refine w_itU ?_
    refine w_loop (I := fun k ρ => ∃ o2 : Option D, ρ = [some (webD pl ws), some (.nd (.dic true ((pl.take k).map kN)) ((pl.take k).map fun x => .nd (.lst true) [])), o2, none, none, none]) ⟨_, rfl⟩ ?_ ?_
    · rintro k d hd ρ ⟨o2, rfl⟩
      obtain ⟨a, ha, rfl⟩ := map_get hd
      have hk : k < pl.length := (List.getElem?_eq_some_iff.mp ha).1
      walk_at "di"
      refine w_tgS rfl ?_
      walk_at "di"
      have hna : a ∉ pl.take k := fun h => by
        obtain ⟨i, hi, e⟩ := List.mem_iff_getElem.mp h
        rw [List.getElem_take] at e
        rw [List.length_take] at hi
        obtain ⟨hk2, e2⟩ := List.getElem?_eq_some_iff.mp ha
        have := (List.getElem_inj hn).mp (e.trans e2.symm)
        omega
      refine ⟨_, _, _, _, rfl, st_new (by rw [List.length_map]) (by rw [List.length_take]; omega) hna, ?_⟩
      rw [show (pl.take k).map (fun x => D.nd (.lst true) []) ++ [D.nd (.lst true) []] = (pl.take k ++ [a]).map (fun x => D.nd (.lst true) []) by rw [List.map_append]; rfl, ← take_snoc ha]
      exact ⟨_, rfl⟩
    · rintro ρ ⟨o2, rfl⟩
      rw [List.length_map, List.take_length]
      exact ⟨rfl, _, rfl⟩
  rintro ρ ⟨o2, rfl⟩
  refine w_seqC (fun ρ => ∃ o2 o3 o4 o5 : Option D, ρ = [some (webD pl ws), some (nearD pl ws), o2, o3, o4, o5]) ?_ ?_
  · walk_at "di"
    refine w_rdT (j := 1) rfl rfl (webD_fz pl ws) ?_
    refine w_itU ?_
    refine w_loop (I := fun k ρ => ∃ o2 o3 o4 o5 : Option D, ρ = [some (webD pl ws), some (nearD pl (ws.take k)), o2, o3, o4, o5]) ⟨_, _, _, _, rfl⟩ ?_ ?_
    · rintro k d hd ρ ⟨o2, o3, o4, o5, rfl⟩
      obtain ⟨w, ha, rfl⟩ := map_get hd
      have hwm := hw w (List.mem_of_getElem? ha)
      have hlen : ∀ x, (nbr (ws.take k) x).length ≤ 1800 := fun x => by
        have := nbr_le x (ws.take k)
        rw [List.length_take] at this; omega
      walk_at "di"
      refine w_appN (g := fun x => (nbr (ws.take k) x).map Dt.d) (a := w.a) rfl hn hwm.1 ?_
      walk_at "di"
      refine ⟨rfl, rfl, ?_⟩
      walk_at "di"
      refine ⟨_, rfl, rfl, by rw [List.length_map]; have := hlen w.a; omega, ?_⟩
      walk_at "di"
      refine w_appN (g := fun x => if x = w.a then (nbr (ws.take k) x).map Dt.d ++ [D.nd .tup [.str w.b.1, .int w.c]] else (nbr (ws.take k) x).map Dt.d) (a := w.b) rfl hn hwm.2.1 ?_
      walk_at "di"
      refine ⟨rfl, rfl, ?_⟩
      walk_at "di"
      refine ⟨_, rfl, rfl, ?_, ?_⟩
      · split
        · rw [List.length_append, List.length_map]; have := hlen w.b; simp; omega
        · rw [List.length_map]; have := hlen w.b; omega
      have e : (pl.map fun x => D.nd (.lst true) (if x = w.b then (if x = w.a then (nbr (ws.take k) x).map Dt.d ++ [D.nd .tup [.str w.b.1, .int w.c]] else (nbr (ws.take k) x).map Dt.d) ++ [D.nd .tup [.str w.a.1, .int w.c]] else (if x = w.a then (nbr (ws.take k) x).map Dt.d ++ [D.nd .tup [.str w.b.1, .int w.c]] else (nbr (ws.take k) x).map Dt.d))) = pl.map fun x => D.nd (.lst true) ((nbr (ws.take (k + 1)) x).map Dt.d) := by
        refine List.map_congr_left fun x _ => ?_
        rw [take_snoc ha, nbr_snoc, List.map_append]
        by_cases h1 : x = w.a
        · have h2 : x ≠ w.b := fun e => hwm.2.2 (h1 ▸ e)
          rw [if_neg h2, if_pos h1, if_pos h1, if_neg h2]; rfl
        · by_cases h2 : x = w.b
          · rw [if_pos h2, if_neg h1, if_neg h1, if_pos h2]; rfl
          · rw [if_neg h2, if_neg h1, if_neg h1, if_neg h2]; simp
      exact ⟨o2, some (.str w.a.1), some (.str w.b.1), some (.int w.c), congrArg (fun z => [some (webD pl ws), some (D.nd (.dic true (pl.map kN)) z), o2, some (.str w.a.1), some (.str w.b.1), some (.int w.c)]) e⟩
    · rintro ρ ⟨o2, o3, o4, o5, rfl⟩
      rw [List.length_map, List.take_length]
      exact ⟨rfl, _, _, _, _, rfl⟩
  rintro ρ ⟨o2, o3, o4, o5, rfl⟩
  walk_at "di"
  exact ⟨rfl, by show [D.frz _] = _; rw [webD_frz]⟩
abbrev nearO (o : Nm → Bool) (pl : List Nm) (ws : List Way) : D := .nd (.dic true (pl.map kN)) (pl.map fun x => .nd (.lst (o x)) ((nbr ws x).map Dt.d))
theorem parents_spec {pl : List Nm} {ws : List Way} {r : Nm} {q : Nm → Nm} {rk : Nm → Nat} (hn : pl.Nodup) (hp : pl.length ≤ 900) (hl : ws.length ≤ 900) (hends : ∀ w ∈ ws, w.a ∈ pl ∧ w.b ∈ pl ∧ w.a ≠ w.b) (h0 : pl[0]? = some r) (hc : Con1 pl ws) (ht : ws.length + 1 = pl.length) (hq : PS pl ws r q rk) :
    FnOk1 F_parents [webD pl ws] (fun d => ∃ F, d = foundD F r q ∧ F.Perm pl) := by
  have hr : r ∈ pl := List.mem_of_getElem? h0
  have hadj : ∀ x y, Adj ws x y → y ∈ pl := fun x y ⟨w, hw, h⟩ => by
    rcases h with ⟨_, rfl⟩ | ⟨_, rfl⟩
    · exact (hends w hw).2.1
    · exact (hends w hw).1
  refine fok_mk [some (webD pl ws), none, none, none, none, none, none] rfl ?_
  unfold m_parents
  have hfz := webD_frz pl ws
  have hx0 : fIx (.nd .tup (pl.map Dt.d)) (.int 0) = some (Dt.d r) := by
    have hk := (List.getElem?_eq_some_iff.mp h0).1
    show (ixN _ (0 : Int)).bind _ = _
    have := ixN_nat (n := (pl.map (Dt.d : Nm → D)).length) (k := 0) (by rw [List.length_map]; exact hk)
    rw [show ((0 : Nat) : Int) = 0 by rfl] at this
    rw [this, Option.bind_some, List.getElem?_map, h0]; rfl
  walk_at "di"
  refine ⟨_, _, hfz, near_spec hn hp hl hends, ?_⟩
  rintro _ rfl
  walk_at "di"
  refine w_rd (w_pix (w_pix (w_pv rfl (w_pur (w_plT (j := 0) rfl rfl (webD_fz pl ws) (w_pur (w_pixV hx0 (w_rdV ?_))))))))
  walk_at "di"
  refine ⟨⟨by simp, by simp⟩, ?_⟩
  walk_at "di"
  refine w_rd (w_pix (w_pix (w_pv rfl (w_pur (w_plT (j := 0) rfl rfl (webD_fz pl ws) (w_pur (w_pixV hx0 (w_rdV ?_))))))))
  walk_at "di"
  have e0 : D.nd (.dic true [.inr r.1]) [.non] = foundD [r] r q := by
    show _ = D.nd (.dic true [.inr r.1]) [upD r q r]
    unfold upD
    rw [if_pos rfl]
  rw [show D.nd (.dic true [Sum.inr r.1]) [D.non] = foundD [r] r q from e0]
  refine w_seqC (fun ρ => ∃ (F : List Nm) (p : Nm → Nm) (o : Nm → Bool) (o3 o4 o5 o6 : Option D), ρ = [some (webD pl ws), some (nearO o pl ws), some (foundD F r p), o3, o4, o5, o6] ∧ F.Nodup ∧ (∀ x ∈ F, x ∈ pl) ∧ r ∈ F ∧ PS F ws r p (fun x => F.idxOf x) ∧ ∀ x ∈ F, ∀ y, Adj ws x y → y ∈ F) ?_ ?_
  · refine w_while (n := pl.length) (I := fun n ρ => ∃ (F : List Nm) (p : Nm → Nm) (o : Nm → Bool) (wt : List Nm) (o4 o5 o6 : Option D), ρ = [some (webD pl ws), some (nearO o pl ws), some (foundD F r p), some (.nd (.lst true) (wt.map Dt.d)), o4, o5, o6] ∧ F.Nodup ∧ (∀ x ∈ F, x ∈ pl) ∧ r ∈ F ∧ PS F ws r p (fun x => F.idxOf x) ∧ (∀ x ∈ wt, x ∈ F) ∧ (∀ x ∈ F, x ∉ wt → ∀ y, Adj ws x y → y ∈ F) ∧ n + F.length = pl.length + wt.length ∧ n ≤ pl.length) ?_ (by unfold FUEL; omega)
      ⟨[r], q, fun _ => true, [r], _, _, _, rfl, by simp, by simp; exact hr, by simp, fun x hx hxr => (hxr (List.mem_singleton.mp hx)).elim, by simp, fun x hx hnx => (hnx hx).elim, by simp, Nat.le_refl _⟩
    rintro n ρ ⟨F, p, o, wt, o4, o5, o6, rfl, hF, hFp, hrF, hps, hwt, hcl, hm, hnl⟩
    have hFl := nodup_len hF hFp
    walk_at "di"
    refine w_neNil ?_
    walk_at "di"
    refine w_byN (fun hc => ?_) (fun hc => ?_)
    · obtain ⟨w0, here, rfl⟩ : ∃ w0 here, wt = w0 ++ [here] := by
        rcases List.eq_nil_or_concat wt with h | ⟨w0, here, h⟩
        · exact (hc h).elim
        · exact ⟨w0, here, by rw [h, List.concat_eq_append]⟩
      have hhF : here ∈ F := hwt here (by simp)
      rw [List.length_append, List.length_singleton] at hm
      refine ⟨n - 1, by omega, ?_⟩
      refine w_seqA (w_asg (w_pop rfl ?_))
      walk_at "di"
      refine w_rdD (o := o) (g := nbr ws) rfl hn (hFp here hhF) ?_
      walk_at "di"
      refine w_itL ?_
      refine w_loop (I := fun m ρ => ∃ (F : List Nm) (p : Nm → Nm) (wt : List Nm) (o5 o6 : Option D), ρ = [some (webD pl ws), some (nearO (fun x => if x = here then false else o x) pl ws), some (foundD F r p), some (.nd (.lst true) (wt.map Dt.d)), some (Dt.d here), o5, o6] ∧ F.Nodup ∧ (∀ x ∈ F, x ∈ pl) ∧ r ∈ F ∧ here ∈ F ∧ PS F ws r p (fun x => F.idxOf x) ∧ (∀ x ∈ wt, x ∈ F) ∧ (∀ x ∈ F, x ∉ wt → x ≠ here → ∀ y, Adj ws x y → y ∈ F) ∧ (∀ e ∈ (nbr ws here).take m, e.1 ∈ F) ∧ (n - 1) + F.length = pl.length + wt.length) ?_ ?_ ?_
      · refine ⟨F, p, w0, o5, o6, rfl, hF, hFp, hrF, hhF, hps, fun x hx => hwt x (by simp [hx]), fun x hx hnx hne => hcl x hx (by simp [hnx, hne]), by simp, by omega⟩
      · rintro m d hd ρ ⟨F, p, wt, o5, o6, rfl, hF, hFp, hrF, hhF, hps, hwt, hcl, hdn, hm⟩
        obtain ⟨⟨y, c⟩, hy, rfl⟩ := map_get hd
        have hadjy : Adj ws here y := adj_nbr.mpr ⟨c, List.mem_of_getElem? hy⟩
        walk_at "di"
        refine w_ninD (by rw [List.length_map]) ?_
        walk_at "di"
        refine w_byN (fun hc => ?_) (fun hc => ?_)
        · have hyr : y ≠ r := fun e => hc (e ▸ hrF)
          have hFl := nodup_len hF hFp
          walk_at "di"
          refine w_tgS rfl ?_
          walk_at "di"
          refine ⟨_, _, _, _, rfl, st_new (by rw [List.length_map]) (by omega) hc, ?_⟩
          rw [upD_snoc hc hyr]
          walk_at "di"
          refine ⟨_, _, rfl, rfl, by rw [List.length_map]; have := hm; have := hFl; omega, ?_⟩
          walk_at "di"
          rw [show wt.map Dt.d ++ [D.str y.1] = (wt ++ [y]).map Dt.d from app_map wt y]
          refine ⟨F ++ [y], fun x => if x = y then here else p x, wt ++ [y], _, _, rfl, ?_, ?_, List.mem_append_left _ hrF, List.mem_append_left _ hhF, hps.snoc hhF hc hadjy.symm, ?_, ?_, ?_, ?_⟩
          · exact List.nodup_append.mpr ⟨hF, by simp, fun a ha b hb e => hc (by rw [List.mem_singleton.mp hb] at e; exact e ▸ ha)⟩
          · intro x hx
            rcases List.mem_append.mp hx with h | h
            · exact hFp x h
            · rw [List.mem_singleton.mp h]; exact hadj _ _ hadjy
          · intro x hx
            rcases List.mem_append.mp hx with h | h
            · exact List.mem_append_left _ (hwt x h)
            · exact List.mem_append_right _ h
          · intro x hx hnx hne z hz
            have hxF : x ∈ F := by
              rcases List.mem_append.mp hx with h | h
              · exact h
              · exact (hnx (List.mem_append_right _ h)).elim
            exact List.mem_append_left _ (hcl x hxF (fun h => hnx (List.mem_append_left _ h)) hne z hz)
          · intro e he
            rw [take_snoc hy] at he
            rcases List.mem_append.mp he with h | h
            · exact List.mem_append_left _ (hdn e h)
            · rw [List.mem_singleton.mp h]; simp
          · simp; omega
        · walk_at "di"
          refine ⟨F, p, wt, _, _, rfl, hF, hFp, hrF, hhF, hps, hwt, hcl, ?_, hm⟩
          intro e he
          rw [take_snoc hy] at he
          rcases List.mem_append.mp he with h | h
          · exact hdn e h
          · rw [List.mem_singleton.mp h]; exact hc
      · rintro ρ ⟨F, p, wt, o5, o6, rfl, hF, hFp, hrF, hhF, hps, hwt, hcl, hdn, hm⟩
        rw [List.length_map, List.take_length] at hdn
        refine ⟨n - 1, Nat.le_refl _, F, p, _, wt, _, _, _, rfl, hF, hFp, hrF, hps, hwt, fun x hx hnx y hy => ?_, hm, by omega⟩
        by_cases hxh : x = here
        · subst hxh
          obtain ⟨c, hc⟩ := adj_nbr.mp hy
          exact hdn _ hc
        · exact hcl x hx hnx hxh y hy
    · subst hc
      exact ⟨rfl, F, p, o, _, _, _, _, rfl, hF, hFp, hrF, hps, fun x hx => hcl x hx (by simp)⟩
  rintro ρ ⟨F, p, o, o3, o4, o5, o6, rfl, hF, hFp, hrF, hps, hcl⟩
  walk_at "di"
  have hall : ∀ x ∈ pl, x ∈ F := fun x hx => hc (fun y => y ∈ F) (fun a b hab ha => hcl a ha b hab) r hr x hx hrF
  have hperm : F.Perm pl := (List.perm_ext_iff_of_nodup hF hn).mpr fun x => ⟨hFp x, hall x⟩
  have hpq : ∀ x ∈ F, x ≠ r → p x = q x := by
    have h1 : PS pl ws r p fun x => F.idxOf x := fun x hx hxr => by
      obtain ⟨a1, a2, a3⟩ := hps x (hall x hx) hxr
      exact ⟨hFp _ a1, a2, a3⟩
    exact fun x hx => h1.unique hn hr ht hq x (hFp x hx)
  refine ⟨⟨F, ?_, hperm⟩, by show [D.frz _] = _; rw [webD_frz]⟩
  unfold foundD
  congr 1
  refine List.map_congr_left fun x hx => ?_
  unfold upD
  by_cases h : x = r
  · rw [if_pos h, if_pos h]
  · rw [if_neg h, if_neg h, hpq x hx h]

end Wk
namespace Wk
open PySem PySem.Spec L2 DL
open PySem.W (Tup T3 T4 minOf maxOf Datum DatumOrd)
local macro_rules | `(tactic| walk_at "di") => `(tactic| (
  repeat (first
  | with_reducible refine w_seqA ?_
  | with_reducible refine w_seqE ?_
  | with_reducible refine w_seqR ?_
  | with_reducible refine w_kq ?_
  | with_reducible refine w_asg ?_
  | with_reducible refine w_if ?_
  | with_reducible refine w_B ?_
  | with_reducible refine w_P2 ?_
  | with_reducible refine w_vl ?_
  | with_reducible refine w_m2 ?_
  | with_reducible refine w_pur ?_
  | with_reducible refine w_plv ?_
  | with_reducible refine w_var (by with_unfolding_all exact rfl) (by first | with_unfolding_all exact rfl | assumption | exact frz_lstF _ | exact frz_tupD _ | exact Dt.fz _) ?_
  | with_reducible refine w_varL (by with_unfolding_all exact rfl) (by first | exact Dt.mfz _ | with_unfolding_all exact rfl) ?_
  | with_reducible refine w_app (by with_unfolding_all exact rfl) ?_
  | with_reducible refine w_inN ?_
  | with_reducible refine w_eqN ?_
  | with_reducible refine w_neN ?_
  | with_reducible refine w_minN ?_
  | with_reducible refine w_maxN ?_
  | with_reducible refine w_lcC ?_
  | with_reducible refine w_intB ?_
  | with_reducible refine w_ix2 ?_
  | with_reducible refine w_lstRg ?_
  | with_reducible refine w_yes ?_
  | with_reducible refine w_tgW ?_
  | with_reducible refine w_tgNI ?_
  | with_reducible refine w_tgNN ?_
  | with_reducible refine w_pv (by with_unfolding_all exact rfl) ?_
  | with_reducible refine w_tgN' (by with_unfolding_all exact rfl) ?_
  | with_reducible refine w_lk (by with_unfolding_all exact rfl) ?_
  | with_reducible refine w_toB ?_
  | with_reducible refine w_not ?_
  | with_reducible refine w_andT ?_
  | with_reducible refine w_orT ?_
  | with_reducible refine w_C ?_
  | with_reducible refine w_CB ?_
  | with_reducible refine w_v1 ?_
  | with_reducible refine w_exp ?_
  | with_reducible refine w_ret ?_
  | with_reducible refine w_rt ?_
  | with_reducible refine w_tt ?_
  | with_reducible refine w_ff ?_
  | with_reducible refine w_nt ?_
  | with_reducible refine w_nf ?_
  | with_reducible refine w_add ?_
  | with_reducible refine w_sub ?_
  | with_reducible refine w_lt ?_
  | with_reducible refine w_le ?_
  | with_reducible refine w_gt ?_
  | with_reducible refine w_ge ?_
  | with_reducible refine w_eq ?_
  | with_reducible refine w_ne ?_
  | with_reducible refine w_len ?_
  | with_reducible refine w_abs ?_
  | with_reducible refine w_neg ?_
  | with_reducible refine w_is ?_
  | with_reducible refine w_isNot ?_
  | with_reducible refine w_tm ?_
  | with_reducible refine w_tgs0 ?_
  | with_reducible refine w_tgsC ?_
  | with_reducible refine w_andV ?_
  | with_reducible refine w_orV ?_
  | with_reducible refine w_notV ?_
  | with_reducible refine w_chain ?_
  | with_reducible refine w_ifE ?_
  | with_reducible refine w_isi ?_
  | with_reducible refine w_isi2 ?_
  | with_reducible refine w_dic ?_
  | with_reducible refine w_pr ?_
  | with_reducible refine w_un ?_
  | with_reducible refine w_slice ?_
  | with_reducible refine w_for ?_
  | with_reducible refine w_lst ?_
  | with_reducible refine w_tup ?_
  | with_reducible refine w_mov (by with_unfolding_all exact rfl) ?_
  | with_reducible refine w_penL (by with_unfolding_all exact rfl) ?_
  | with_reducible refine w_penA (by with_unfolding_all exact rfl) ?_
  | with_reducible refine w_penS (by with_unfolding_all exact rfl) ?_
  | with_reducible refine w_pl0 (by with_unfolding_all exact rfl) ?_
  | with_reducible refine w_sl (by with_unfolding_all exact rfl) ?_
  | with_reducible refine w_tgT (by with_unfolding_all exact rfl) ?_
  | with_reducible refine w_toK (by with_unfolding_all exact rfl) ?_
  | with_reducible refine w_rix (by with_unfolding_all exact rfl) ?_
  | with_reducible refine w_rixs (by with_unfolding_all exact rfl) ?_
  | with_reducible refine w_penG (by with_unfolding_all exact rfl) ix_left ?_
  | with_reducible refine w_penG (by with_unfolding_all exact rfl) ix_at ?_
  | with_reducible refine w_penG (by with_unfolding_all exact rfl) ix_script ?_
  | with_reducible refine w_pl1 (by with_unfolding_all exact rfl) (by with_unfolding_all exact rfl) (by with_unfolding_all exact rfl) ?_
  | with_reducible refine w_mod (by omega) ?_
  | with_reducible refine w_div (by omega) ?_
  | with_reducible refine w_mulR (by omega) ?_
  | with_reducible refine w_mulL (by omega) ?_
  | with_reducible refine w_pow6 ?_
  | with_reducible refine w_pow9 ?_
  | with_reducible refine w_pow13 ?_
  | with_reducible refine w_pow17 ?_
  | with_reducible refine w_pow18 ?_
  | with_reducible refine w_pow20 ?_
  | with_reducible refine w_pow25 ?_
  | with_reducible refine w_pow27 ?_
  | with_reducible refine w_pow28 ?_
  | with_reducible refine w_pow29 ?_
  | with_reducible refine w_pow30 ?_
  | with_reducible refine w_ln (by with_unfolding_all exact rfl) ?_
  | with_reducible refine w_range1 ?_
  | with_reducible refine w_range2 ?_
  | with_reducible refine w_part ?_
  | with_reducible refine w_it ?_
  | with_reducible refine w_rgE (by omega) ?_
  | with_reducible refine w_rgE2 (by omega) (by omega) ?_
  | with_reducible refine w_take takeOk (by with_unfolding_all exact rfl) ?_
  | with_reducible refine w_isiK (by with_unfolding_all exact rfl) (by first | exact kit_NoneType_bool | exact kit_NoneType_int | exact kit_NoneType_str | exact kit_NoneType_tuple | exact kit_NoneType_list | exact kit_NoneType_dict | exact kit_bool_bool | exact kit_bool_int | exact kit_bool_str | exact kit_bool_tuple | exact kit_bool_list | exact kit_bool_dict | exact kit_int_bool | exact kit_int_int | exact kit_int_str | exact kit_int_tuple | exact kit_int_list | exact kit_int_dict | exact kit_str_bool | exact kit_str_int | exact kit_str_str | exact kit_str_tuple | exact kit_str_list | exact kit_str_dict | exact kit_tuple_bool | exact kit_tuple_int | exact kit_tuple_str | exact kit_tuple_tuple | exact kit_tuple_list | exact kit_tuple_dict | exact kit_list_bool | exact kit_list_int | exact kit_list_str | exact kit_list_tuple | exact kit_list_list | exact kit_list_dict | exact kit_dict_bool | exact kit_dict_int | exact kit_dict_str | exact kit_dict_tuple | exact kit_dict_list | exact kit_dict_dict) ?_
  | with_reducible refine w_isiK2 (by with_unfolding_all exact rfl) (by first | exact kit_NoneType_bool | exact kit_NoneType_int | exact kit_NoneType_str | exact kit_NoneType_tuple | exact kit_NoneType_list | exact kit_NoneType_dict | exact kit_bool_bool | exact kit_bool_int | exact kit_bool_str | exact kit_bool_tuple | exact kit_bool_list | exact kit_bool_dict | exact kit_int_bool | exact kit_int_int | exact kit_int_str | exact kit_int_tuple | exact kit_int_list | exact kit_int_dict | exact kit_str_bool | exact kit_str_int | exact kit_str_str | exact kit_str_tuple | exact kit_str_list | exact kit_str_dict | exact kit_tuple_bool | exact kit_tuple_int | exact kit_tuple_str | exact kit_tuple_tuple | exact kit_tuple_list | exact kit_tuple_dict | exact kit_list_bool | exact kit_list_int | exact kit_list_str | exact kit_list_tuple | exact kit_list_list | exact kit_list_dict | exact kit_dict_bool | exact kit_dict_int | exact kit_dict_str | exact kit_dict_tuple | exact kit_dict_list | exact kit_dict_dict) (by first | exact kit_NoneType_bool | exact kit_NoneType_int | exact kit_NoneType_str | exact kit_NoneType_tuple | exact kit_NoneType_list | exact kit_NoneType_dict | exact kit_bool_bool | exact kit_bool_int | exact kit_bool_str | exact kit_bool_tuple | exact kit_bool_list | exact kit_bool_dict | exact kit_int_bool | exact kit_int_int | exact kit_int_str | exact kit_int_tuple | exact kit_int_list | exact kit_int_dict | exact kit_str_bool | exact kit_str_int | exact kit_str_str | exact kit_str_tuple | exact kit_str_list | exact kit_str_dict | exact kit_tuple_bool | exact kit_tuple_int | exact kit_tuple_str | exact kit_tuple_tuple | exact kit_tuple_list | exact kit_tuple_dict | exact kit_list_bool | exact kit_list_int | exact kit_list_str | exact kit_list_tuple | exact kit_list_list | exact kit_list_dict | exact kit_dict_bool | exact kit_dict_int | exact kit_dict_str | exact kit_dict_tuple | exact kit_dict_list | exact kit_dict_dict) ?_
  | with_reducible refine w_int1 ?_
  | with_reducible refine w_fn1 ?_
  | with_reducible refine w_fn2 ?_
  | with_reducible refine w_fn3 ?_
  | with_reducible refine w_penC1 (by with_unfolding_all exact rfl) ?_
  | with_reducible refine w_penC2 (by with_unfolding_all exact rfl) ?_)
  have dl_z := True.intro
  clear dl_z))
local macro_rules | `(tactic| walk_at "dl") => `(tactic| repeat (first
  | with_reducible refine w_seq ?_
  | with_reducible refine w_kq ?_
  | with_reducible refine w_asg ?_
  | with_reducible refine w_if ?_
  | with_reducible refine w_B ?_
  | with_reducible refine w_P2 ?_
  | with_reducible refine w_vl ?_
  | with_reducible refine w_m2 ?_
  | with_reducible refine w_pur ?_
  | with_reducible refine w_plv ?_
  | with_reducible refine w_var (by with_unfolding_all exact rfl) (by first | with_unfolding_all exact rfl | assumption | exact frz_lstF _ | exact frz_tupD _ | exact Dt.fz _) ?_
  | with_reducible refine w_varL (by with_unfolding_all exact rfl) (by first | exact Dt.mfz _ | with_unfolding_all exact rfl) ?_
  | with_reducible refine w_app (by with_unfolding_all exact rfl) ?_
  | with_reducible refine w_inN ?_
  | with_reducible refine w_eqN ?_
  | with_reducible refine w_neN ?_
  | with_reducible refine w_minN ?_
  | with_reducible refine w_maxN ?_
  | with_reducible refine w_lcC ?_
  | with_reducible refine w_intB ?_
  | with_reducible refine w_ix2 ?_
  | with_reducible refine w_lstRg ?_
  | with_reducible refine w_yes ?_
  | with_reducible refine w_tgW ?_
  | with_reducible refine w_tgNI ?_
  | with_reducible refine w_tgNN ?_
  | with_reducible refine w_pv (by with_unfolding_all exact rfl) ?_
  | with_reducible refine w_tgN' (by with_unfolding_all exact rfl) ?_
  | with_reducible refine w_lk (by with_unfolding_all exact rfl) ?_
  | with_reducible refine w_toB ?_
  | with_reducible refine w_not ?_
  | with_reducible refine w_andT ?_
  | with_reducible refine w_orT ?_
  | with_reducible refine w_C ?_
  | with_reducible refine w_CB ?_
  | with_reducible refine w_v1 ?_
  | with_reducible refine w_exp ?_
  | with_reducible refine w_ret ?_
  | with_reducible refine w_rt ?_
  | with_reducible refine w_tt ?_
  | with_reducible refine w_ff ?_
  | with_reducible refine w_nt ?_
  | with_reducible refine w_nf ?_
  | with_reducible refine w_add ?_
  | with_reducible refine w_sub ?_
  | with_reducible refine w_lt ?_
  | with_reducible refine w_le ?_
  | with_reducible refine w_gt ?_
  | with_reducible refine w_ge ?_
  | with_reducible refine w_eq ?_
  | with_reducible refine w_ne ?_
  | with_reducible refine w_len ?_
  | with_reducible refine w_abs ?_
  | with_reducible refine w_neg ?_
  | with_reducible refine w_is ?_
  | with_reducible refine w_isNot ?_
  | with_reducible refine w_tm ?_
  | with_reducible refine w_tgs0 ?_
  | with_reducible refine w_tgsC ?_
  | with_reducible refine w_andV ?_
  | with_reducible refine w_orV ?_
  | with_reducible refine w_notV ?_
  | with_reducible refine w_chain ?_
  | with_reducible refine w_ifE ?_
  | with_reducible refine w_isi ?_
  | with_reducible refine w_isi2 ?_
  | with_reducible refine w_dic ?_
  | with_reducible refine w_pr ?_
  | with_reducible refine w_un ?_
  | with_reducible refine w_slice ?_
  | with_reducible refine w_for ?_
  | with_reducible refine w_lst ?_
  | with_reducible refine w_tup ?_
  | with_reducible refine w_mov (by with_unfolding_all exact rfl) ?_
  | with_reducible refine w_penL (by with_unfolding_all exact rfl) ?_
  | with_reducible refine w_penA (by with_unfolding_all exact rfl) ?_
  | with_reducible refine w_penS (by with_unfolding_all exact rfl) ?_
  | with_reducible refine w_pl0 (by with_unfolding_all exact rfl) ?_
  | with_reducible refine w_sl (by with_unfolding_all exact rfl) ?_
  | with_reducible refine w_tgT (by with_unfolding_all exact rfl) ?_
  | with_reducible refine w_toK (by with_unfolding_all exact rfl) ?_
  | with_reducible refine w_rix (by with_unfolding_all exact rfl) ?_
  | with_reducible refine w_rixs (by with_unfolding_all exact rfl) ?_
  | with_reducible refine w_penG (by with_unfolding_all exact rfl) ix_left ?_
  | with_reducible refine w_penG (by with_unfolding_all exact rfl) ix_at ?_
  | with_reducible refine w_penG (by with_unfolding_all exact rfl) ix_script ?_
  | with_reducible refine w_pl1 (by with_unfolding_all exact rfl) (by with_unfolding_all exact rfl) (by with_unfolding_all exact rfl) ?_
  | with_reducible refine w_mod (by omega) ?_
  | with_reducible refine w_div (by omega) ?_
  | with_reducible refine w_mulR (by omega) ?_
  | with_reducible refine w_mulL (by omega) ?_
  | with_reducible refine w_pow6 ?_
  | with_reducible refine w_pow9 ?_
  | with_reducible refine w_pow13 ?_
  | with_reducible refine w_pow17 ?_
  | with_reducible refine w_pow18 ?_
  | with_reducible refine w_pow20 ?_
  | with_reducible refine w_pow25 ?_
  | with_reducible refine w_pow27 ?_
  | with_reducible refine w_pow28 ?_
  | with_reducible refine w_pow29 ?_
  | with_reducible refine w_pow30 ?_
  | with_reducible refine w_ln (by with_unfolding_all exact rfl) ?_
  | with_reducible refine w_range1 ?_
  | with_reducible refine w_range2 ?_
  | with_reducible refine w_part ?_
  | with_reducible refine w_it ?_
  | with_reducible refine w_rgE (by omega) ?_
  | with_reducible refine w_rgE2 (by omega) (by omega) ?_
  | with_reducible refine w_take takeOk (by with_unfolding_all exact rfl) ?_
  | with_reducible refine w_isiK (by with_unfolding_all exact rfl) (by first | exact kit_NoneType_bool | exact kit_NoneType_int | exact kit_NoneType_str | exact kit_NoneType_tuple | exact kit_NoneType_list | exact kit_NoneType_dict | exact kit_bool_bool | exact kit_bool_int | exact kit_bool_str | exact kit_bool_tuple | exact kit_bool_list | exact kit_bool_dict | exact kit_int_bool | exact kit_int_int | exact kit_int_str | exact kit_int_tuple | exact kit_int_list | exact kit_int_dict | exact kit_str_bool | exact kit_str_int | exact kit_str_str | exact kit_str_tuple | exact kit_str_list | exact kit_str_dict | exact kit_tuple_bool | exact kit_tuple_int | exact kit_tuple_str | exact kit_tuple_tuple | exact kit_tuple_list | exact kit_tuple_dict | exact kit_list_bool | exact kit_list_int | exact kit_list_str | exact kit_list_tuple | exact kit_list_list | exact kit_list_dict | exact kit_dict_bool | exact kit_dict_int | exact kit_dict_str | exact kit_dict_tuple | exact kit_dict_list | exact kit_dict_dict) ?_
  | with_reducible refine w_isiK2 (by with_unfolding_all exact rfl) (by first | exact kit_NoneType_bool | exact kit_NoneType_int | exact kit_NoneType_str | exact kit_NoneType_tuple | exact kit_NoneType_list | exact kit_NoneType_dict | exact kit_bool_bool | exact kit_bool_int | exact kit_bool_str | exact kit_bool_tuple | exact kit_bool_list | exact kit_bool_dict | exact kit_int_bool | exact kit_int_int | exact kit_int_str | exact kit_int_tuple | exact kit_int_list | exact kit_int_dict | exact kit_str_bool | exact kit_str_int | exact kit_str_str | exact kit_str_tuple | exact kit_str_list | exact kit_str_dict | exact kit_tuple_bool | exact kit_tuple_int | exact kit_tuple_str | exact kit_tuple_tuple | exact kit_tuple_list | exact kit_tuple_dict | exact kit_list_bool | exact kit_list_int | exact kit_list_str | exact kit_list_tuple | exact kit_list_list | exact kit_list_dict | exact kit_dict_bool | exact kit_dict_int | exact kit_dict_str | exact kit_dict_tuple | exact kit_dict_list | exact kit_dict_dict) (by first | exact kit_NoneType_bool | exact kit_NoneType_int | exact kit_NoneType_str | exact kit_NoneType_tuple | exact kit_NoneType_list | exact kit_NoneType_dict | exact kit_bool_bool | exact kit_bool_int | exact kit_bool_str | exact kit_bool_tuple | exact kit_bool_list | exact kit_bool_dict | exact kit_int_bool | exact kit_int_int | exact kit_int_str | exact kit_int_tuple | exact kit_int_list | exact kit_int_dict | exact kit_str_bool | exact kit_str_int | exact kit_str_str | exact kit_str_tuple | exact kit_str_list | exact kit_str_dict | exact kit_tuple_bool | exact kit_tuple_int | exact kit_tuple_str | exact kit_tuple_tuple | exact kit_tuple_list | exact kit_tuple_dict | exact kit_list_bool | exact kit_list_int | exact kit_list_str | exact kit_list_tuple | exact kit_list_list | exact kit_list_dict | exact kit_dict_bool | exact kit_dict_int | exact kit_dict_str | exact kit_dict_tuple | exact kit_dict_list | exact kit_dict_dict) ?_
  | with_reducible refine w_int1 ?_
  | with_reducible refine w_fn1 ?_
  | with_reducible refine w_fn2 ?_
  | with_reducible refine w_fn3 ?_
  | with_reducible refine w_penC1 (by with_unfolding_all exact rfl) ?_
  | with_reducible refine w_penC2 (by with_unfolding_all exact rfl) ?_))
def DnK (l : List Nm) (ws : List Way) (t m : Nat) (K : List Nm) : Prop := t + 2 ≤ K.length ∨ (t + 1 ≤ K.length ∧ ∀ w ∈ ws.take m, (w.a ∈ K ↔ w.b ∈ K)) ∨ ∀ x ∈ l, x ∈ K
def envW (l : List Nm) (ws : List Way) (r : Nm) (K : List Nm) (W : Nm → List Nm) (o : Nm → Bool) (o4 o5 o6 o7 : Option D) : DL.Env := [some (.nd (.lst false) (l.map Dt.d)), some (.nd (.lst false) (ws.map Dt.d)), some (.str r.1), some (walkD true K W o), o4, o5, o6, o7]
theorem step56 {l : List Nm} {ws : List Way} {r a b : Nm} {K : List Nm} {q : Nm → Nm} {W : Nm → List Nm} {o : Nm → Bool} {o4 o7 : Option D} {P : Fl → DL.Env → Prop} {E : DL.XE} (hl : l.length ≤ 30) (h : WOk l ws r K q W) (hb : b ∈ l) (hab : Adj ws b a)
    (k1 : a ∈ K → b ∉ K → ∀ q' W' o', WOk l ws r (K ++ [b]) q' W' → P .nx (envW l ws r (K ++ [b]) W' o' o4 (some (.str a.1)) (some (.str b.1)) o7)) (k2 : ¬ (a ∈ K ∧ b ∉ K) → P .nx (envW l ws r K W o o4 (some (.str a.1)) (some (.str b.1)) o7)) :
    Wp (mIf (mAndT (mB (mP2 fIn (mPv 5) (mPv 3))) (mB (mP2 fNotIn (mPv 6) (mPv 3)))) (mAsg (tgSub (mPv 3) (mVar 6)) (m2 fAdd (mRd (mPix (mPv 3) (mVar 5))) (mLst (mC (mVar 6) (pur []))))) (pur .nx)) (envW l ws r K W o o4 (some (.str a.1)) (some (.str b.1)) o7) P E := by
  unfold envW walkD
  walk_at "di"
  refine w_inD (by rw [List.length_map]) ?_
  walk_at "di"
  have hKl := nodup_len h.nd h.sub
  refine w_by (fun ha => ?_) (fun ha => ?_)
  · walk_at "di"
    refine w_ninD (by rw [List.length_map]) ?_
    walk_at "di"
    refine w_byN (fun hb2 => ?_) (fun hb2 => ?_)
    · walk_at "di"
      refine w_rdD (o := o) (g := W) rfl h.nd ha ?_
      walk_at "di"
      have hwl := h.len a ha
      refine w_catL (m := [b]) (by simp; omega) ?_
      refine w_tgS rfl ?_
      walk_at "di"
      refine ⟨_, _, _, _, rfl, st_new (by rw [List.length_map]) (by omega) hb2, ?_⟩
      rw [walk_snoc hb2]
      exact k1 ha hb2 _ _ _ (h.snoc ha hb2 hb hab)
    · walk_at "di"
      exact k2 fun k => k.2 hb2
  · walk_at "di"
    exact k2 fun k => ha k.1
theorem step65 {l : List Nm} {ws : List Way} {r a b : Nm} {K : List Nm} {q : Nm → Nm} {W : Nm → List Nm} {o : Nm → Bool} {o4 o7 : Option D} {P : Fl → DL.Env → Prop} {E : DL.XE} (hl : l.length ≤ 30) (h : WOk l ws r K q W) (hb : a ∈ l) (hab : Adj ws a b)
    (k1 : b ∈ K → a ∉ K → ∀ q' W' o', WOk l ws r (K ++ [a]) q' W' → P .nx (envW l ws r (K ++ [a]) W' o' o4 (some (.str a.1)) (some (.str b.1)) o7)) (k2 : ¬ (b ∈ K ∧ a ∉ K) → P .nx (envW l ws r K W o o4 (some (.str a.1)) (some (.str b.1)) o7)) :
    Wp (mIf (mAndT (mB (mP2 fIn (mPv 6) (mPv 3))) (mB (mP2 fNotIn (mPv 5) (mPv 3)))) (mAsg (tgSub (mPv 3) (mVar 5)) (m2 fAdd (mRd (mPix (mPv 3) (mVar 6))) (mLst (mC (mVar 5) (pur []))))) (pur .nx)) (envW l ws r K W o o4 (some (.str a.1)) (some (.str b.1)) o7) P E := by
  unfold envW walkD
  walk_at "di"
  refine w_inD (by rw [List.length_map]) ?_
  walk_at "di"
  have hKl := nodup_len h.nd h.sub
  refine w_by (fun ha => ?_) (fun ha => ?_)
  · walk_at "di"
    refine w_ninD (by rw [List.length_map]) ?_
    walk_at "di"
    refine w_byN (fun hb2 => ?_) (fun hb2 => ?_)
    · walk_at "di"
      refine w_rdD (o := o) (g := W) rfl h.nd ha ?_
      walk_at "di"
      have hwl := h.len b ha
      refine w_catL (m := [a]) (by simp; omega) ?_
      refine w_tgS rfl ?_
      walk_at "di"
      refine ⟨_, _, _, _, rfl, st_new (by rw [List.length_map]) (by omega) hb2, ?_⟩
      rw [walk_snoc hb2]
      exact k1 ha hb2 _ _ _ (h.snoc ha hb2 hb hab)
    · walk_at "di"
      exact k2 fun k => k.2 hb2
  · walk_at "di"
    exact k2 fun k => ha k.1
theorem walks_spec {a0 : Nm} {l0 : List Nm} {ws : List Way} (hn : (a0 :: l0).Nodup) (h30 : (a0 :: l0).length ≤ 30) (hw : ws.length ≤ 900) (hends : ∀ w ∈ ws, w.a ∈ a0 :: l0 ∧ w.b ∈ a0 :: l0 ∧ w.a ≠ w.b) (hc : Con1 (a0 :: l0) ws) :
    FnOk1 F__law_walks [.nd (.lst false) ((a0 :: l0).map Dt.d), .nd (.lst false) (ws.map Dt.d)] (fun d => ∃ K q W o, d = walkD true K W o ∧ K.Perm (a0 :: l0) ∧ WOk (a0 :: l0) ws (minOf a0 l0) K q W) := by
  have hr : minOf a0 l0 ∈ a0 :: l0 := minOf_mem a0 l0
  generalize hrd : minOf a0 l0 = r at hr ⊢
  generalize hld : a0 :: l0 = l at hn h30 hends hc hr ⊢
  refine fok_mk [some (.nd (.lst false) (l.map Dt.d)), some (.nd (.lst false) (ws.map Dt.d)), none, none, none, none, none, none] rfl ?_
  unfold m__law_walks
  walk_at "di"
  refine w_min1L (lo := true) (a := a0) (l := l0) hld.symm ?_
  rw [show (Dt.d (if (true : Bool) = true then minOf a0 l0 else maxOf a0 l0) : D) = .str r.1 by rw [if_pos rfl, hrd]; rfl]
  walk_at "di"
  refine ⟨⟨by simp, by simp⟩, ?_⟩
  walk_at "di"
  refine w_seq ?_
  walk_at "di"
  rw [List.length_map]
  refine ⟨by unfold smallI; exact decide_eq_true (by omega), ?_⟩
  refine w_loop (I := fun t ρ => ∃ K q W o o4 o5 o6 o7, ρ = envW l ws r K W o o4 o5 o6 o7 ∧ WOk l ws r K q W ∧ (t + 1 ≤ K.length ∨ ∀ x ∈ l, x ∈ K)) ?_ ?_ ?_
  · refine ⟨[r], id, fun _ => [r], fun _ => true, none, none, none, none, rfl, ⟨by simp, by simp; exact hr, by simp, fun x hx hxr => (hxr (List.mem_singleton.mp hx)).elim, rfl, fun x hx hxr => (hxr (List.mem_singleton.mp hx)).elim, by simp⟩, .inl (by simp)⟩
  · rintro t d hd ρ ⟨K, q, W, o, o4, o5, o6, o7, rfl, hK, hdn⟩
    refine w_tgN' rfl ?_
    show Wp _ (envW l ws r K W o (some d) o5 o6 o7) _ _
    unfold envW
    walk_at "di"
    refine w_itL ?_
    refine w_loop (I := fun m ρ => ∃ K q W o o4 o5 o6 o7, ρ = envW l ws r K W o o4 o5 o6 o7 ∧ WOk l ws r K q W ∧ DnK l ws t m K) ⟨K, q, W, o, _, _, _, _, rfl, hK, ?_⟩ ?_ ?_
    · rcases hdn with h | h
      · exact .inr (.inl ⟨h, by simp⟩)
      · exact .inr (.inr h)
    · rintro m d hd ρ ⟨K, q, W, o, o4, o5, o6, o7, rfl, hK, hdn⟩
      obtain ⟨w, hwm, rfl⟩ := map_get hd
      have hww : w ∈ ws := List.mem_of_getElem? hwm
      have he := hends w hww
      refine w_tgW ?_
      refine w_tgsC (w_tgN' rfl (w_tgsC (w_tgN' rfl (w_tgsC (w_tgN' rfl (w_tgs0 ?_))))))
      show Wp _ (envW l ws r K W o o4 (some (.str w.a.1)) (some (.str w.b.1)) (some (.int w.c))) _ _
      have big : ∀ K' : List Nm, (DnK l ws t m K') → ∀ y, y ∈ l → y ∉ K' → DnK l ws t (m + 1) (K' ++ [y]) := fun K' h y hyl hy => by
        rcases h with h | h | h
        · exact .inl (by rw [List.length_append]; omega)
        · exact .inl (by rw [List.length_append, List.length_singleton]; omega)
        · exact (hy (h y hyl)).elim
      refine w_seq (step56 h30 hK he.2.1 ⟨w, hww, .inr ⟨rfl, rfl⟩⟩ (fun ha hb q' W' o' h1 => w_kq ?_) fun h2 => w_kq ?_)
      · have hd1 := big K hdn w.b he.2.1 hb
        refine step65 h30 h1 he.1 ⟨w, hww, .inl ⟨rfl, rfl⟩⟩ (fun k1 k2 => (k2 (List.mem_append_left _ ha)).elim) fun _ => ?_
        exact ⟨_, _, _, _, _, _, _, _, rfl, h1, hd1⟩
      · refine step65 h30 hK he.1 ⟨w, hww, .inl ⟨rfl, rfl⟩⟩ (fun k1 k2 q' W' o' h1 => ?_) fun h3 => ?_
        · exact ⟨_, _, _, _, _, _, _, _, rfl, h1, big K hdn w.a he.1 k2⟩
        · refine ⟨_, _, _, _, _, _, _, _, rfl, hK, ?_⟩
          rcases hdn with h | h | h
          · exact .inl h
          · refine .inr (.inl ⟨h.1, fun v hv => ?_⟩)
            rw [take_snoc hwm] at hv
            rcases List.mem_append.mp hv with hv | hv
            · exact h.2 v hv
            · rw [List.mem_singleton.mp hv]
              exact ⟨fun k => Classical.byContradiction fun k' => h2 ⟨k, k'⟩, fun k => Classical.byContradiction fun k' => h3 ⟨k, k'⟩⟩
          · exact .inr (.inr h)
    · rintro ρ ⟨K, q, W, o, o4, o5, o6, o7, rfl, hK, hdn⟩
      rw [List.length_map] at hdn
      unfold DnK at hdn
      rw [List.take_length] at hdn
      refine ⟨K, q, W, o, _, _, _, _, rfl, hK, ?_⟩
      rcases hdn with h | h | h
      · exact .inl h
      · refine .inr fun x hx => hc (fun y => y ∈ K) (fun y z ⟨w, hw, hyz⟩ hy => ?_) r hr x hx hK.rt
        rcases hyz with ⟨rfl, rfl⟩ | ⟨rfl, rfl⟩
        · exact (h.2 w hw).mp hy
        · exact (h.2 w hw).mpr hy
      · exact .inr h
  · rintro ρ ⟨K, q, W, o, o4, o5, o6, o7, rfl, hK, hdn⟩
    rw [range_len] at hdn
    have hKl := nodup_len hK.nd hK.sub
    have hall : ∀ x ∈ l, x ∈ K := by
      rcases hdn with h | h
      · omega
      · exact h
    unfold envW
    walk_at "di"
    exact ⟨⟨K, q, W, o, rfl, (List.perm_ext_iff_of_nodup hK.nd hn).mpr fun x => ⟨hK.sub x, hall x⟩, hK⟩, by show [D.frz _, D.frz _] = _; rw [frz_lstF, frz_lstF]⟩

end Wk
namespace Wk
open PySem PySem.Spec L2 DL
open PySem.W (Tup T3 T4 minOf maxOf Datum DatumOrd)
local macro_rules | `(tactic| walk_at "di") => `(tactic| (
  repeat (first
  | with_reducible refine w_seqA ?_
  | with_reducible refine w_seqE ?_
  | with_reducible refine w_seqR ?_
  | with_reducible refine w_kq ?_
  | with_reducible refine w_asg ?_
  | with_reducible refine w_if ?_
  | with_reducible refine w_B ?_
  | with_reducible refine w_P2 ?_
  | with_reducible refine w_vl ?_
  | with_reducible refine w_m2 ?_
  | with_reducible refine w_pur ?_
  | with_reducible refine w_plv ?_
  | with_reducible refine w_var (by with_unfolding_all exact rfl) (by first | with_unfolding_all exact rfl | assumption | exact frz_lstF _ | exact frz_tupD _ | exact Dt.fz _) ?_
  | with_reducible refine w_varL (by with_unfolding_all exact rfl) (by first | exact Dt.mfz _ | with_unfolding_all exact rfl) ?_
  | with_reducible refine w_app (by with_unfolding_all exact rfl) ?_
  | with_reducible refine w_inN ?_
  | with_reducible refine w_eqN ?_
  | with_reducible refine w_neN ?_
  | with_reducible refine w_minN ?_
  | with_reducible refine w_maxN ?_
  | with_reducible refine w_lcC ?_
  | with_reducible refine w_intB ?_
  | with_reducible refine w_ix2 ?_
  | with_reducible refine w_lstRg ?_
  | with_reducible refine w_yes ?_
  | with_reducible refine w_tgW ?_
  | with_reducible refine w_tgNI ?_
  | with_reducible refine w_tgNN ?_
  | with_reducible refine w_pv (by with_unfolding_all exact rfl) ?_
  | with_reducible refine w_tgN' (by with_unfolding_all exact rfl) ?_
  | with_reducible refine w_lk (by with_unfolding_all exact rfl) ?_
  | with_reducible refine w_toB ?_
  | with_reducible refine w_not ?_
  | with_reducible refine w_andT ?_
  | with_reducible refine w_orT ?_
  | with_reducible refine w_C ?_
  | with_reducible refine w_CB ?_
  | with_reducible refine w_v1 ?_
  | with_reducible refine w_exp ?_
  | with_reducible refine w_ret ?_
  | with_reducible refine w_rt ?_
  | with_reducible refine w_tt ?_
  | with_reducible refine w_ff ?_
  | with_reducible refine w_nt ?_
  | with_reducible refine w_nf ?_
  | with_reducible refine w_add ?_
  | with_reducible refine w_sub ?_
  | with_reducible refine w_lt ?_
  | with_reducible refine w_le ?_
  | with_reducible refine w_gt ?_
  | with_reducible refine w_ge ?_
  | with_reducible refine w_eq ?_
  | with_reducible refine w_ne ?_
  | with_reducible refine w_len ?_
  | with_reducible refine w_abs ?_
  | with_reducible refine w_neg ?_
  | with_reducible refine w_is ?_
  | with_reducible refine w_isNot ?_
  | with_reducible refine w_tm ?_
  | with_reducible refine w_tgs0 ?_
  | with_reducible refine w_tgsC ?_
  | with_reducible refine w_andV ?_
  | with_reducible refine w_orV ?_
  | with_reducible refine w_notV ?_
  | with_reducible refine w_chain ?_
  | with_reducible refine w_ifE ?_
  | with_reducible refine w_isi ?_
  | with_reducible refine w_isi2 ?_
  | with_reducible refine w_dic ?_
  | with_reducible refine w_pr ?_
  | with_reducible refine w_un ?_
  | with_reducible refine w_slice ?_
  | with_reducible refine w_for ?_
  | with_reducible refine w_lst ?_
  | with_reducible refine w_tup ?_
  | with_reducible refine w_mov (by with_unfolding_all exact rfl) ?_
  | with_reducible refine w_penL (by with_unfolding_all exact rfl) ?_
  | with_reducible refine w_penA (by with_unfolding_all exact rfl) ?_
  | with_reducible refine w_penS (by with_unfolding_all exact rfl) ?_
  | with_reducible refine w_pl0 (by with_unfolding_all exact rfl) ?_
  | with_reducible refine w_sl (by with_unfolding_all exact rfl) ?_
  | with_reducible refine w_tgT (by with_unfolding_all exact rfl) ?_
  | with_reducible refine w_toK (by with_unfolding_all exact rfl) ?_
  | with_reducible refine w_rix (by with_unfolding_all exact rfl) ?_
  | with_reducible refine w_rixs (by with_unfolding_all exact rfl) ?_
  | with_reducible refine w_penG (by with_unfolding_all exact rfl) ix_left ?_
  | with_reducible refine w_penG (by with_unfolding_all exact rfl) ix_at ?_
  | with_reducible refine w_penG (by with_unfolding_all exact rfl) ix_script ?_
  | with_reducible refine w_pl1 (by with_unfolding_all exact rfl) (by with_unfolding_all exact rfl) (by with_unfolding_all exact rfl) ?_
  | with_reducible refine w_mod (by omega) ?_
  | with_reducible refine w_div (by omega) ?_
  | with_reducible refine w_mulR (by omega) ?_
  | with_reducible refine w_mulL (by omega) ?_
  | with_reducible refine w_pow6 ?_
  | with_reducible refine w_pow9 ?_
  | with_reducible refine w_pow13 ?_
  | with_reducible refine w_pow17 ?_
  | with_reducible refine w_pow18 ?_
  | with_reducible refine w_pow20 ?_
  | with_reducible refine w_pow25 ?_
  | with_reducible refine w_pow27 ?_
  | with_reducible refine w_pow28 ?_
  | with_reducible refine w_pow29 ?_
  | with_reducible refine w_pow30 ?_
  | with_reducible refine w_ln (by with_unfolding_all exact rfl) ?_
  | with_reducible refine w_range1 ?_
  | with_reducible refine w_range2 ?_
  | with_reducible refine w_part ?_
  | with_reducible refine w_it ?_
  | with_reducible refine w_rgE (by omega) ?_
  | with_reducible refine w_rgE2 (by omega) (by omega) ?_
  | with_reducible refine w_take takeOk (by with_unfolding_all exact rfl) ?_
  | with_reducible refine w_isiK (by with_unfolding_all exact rfl) (by first | exact kit_NoneType_bool | exact kit_NoneType_int | exact kit_NoneType_str | exact kit_NoneType_tuple | exact kit_NoneType_list | exact kit_NoneType_dict | exact kit_bool_bool | exact kit_bool_int | exact kit_bool_str | exact kit_bool_tuple | exact kit_bool_list | exact kit_bool_dict | exact kit_int_bool | exact kit_int_int | exact kit_int_str | exact kit_int_tuple | exact kit_int_list | exact kit_int_dict | exact kit_str_bool | exact kit_str_int | exact kit_str_str | exact kit_str_tuple | exact kit_str_list | exact kit_str_dict | exact kit_tuple_bool | exact kit_tuple_int | exact kit_tuple_str | exact kit_tuple_tuple | exact kit_tuple_list | exact kit_tuple_dict | exact kit_list_bool | exact kit_list_int | exact kit_list_str | exact kit_list_tuple | exact kit_list_list | exact kit_list_dict | exact kit_dict_bool | exact kit_dict_int | exact kit_dict_str | exact kit_dict_tuple | exact kit_dict_list | exact kit_dict_dict) ?_
  | with_reducible refine w_isiK2 (by with_unfolding_all exact rfl) (by first | exact kit_NoneType_bool | exact kit_NoneType_int | exact kit_NoneType_str | exact kit_NoneType_tuple | exact kit_NoneType_list | exact kit_NoneType_dict | exact kit_bool_bool | exact kit_bool_int | exact kit_bool_str | exact kit_bool_tuple | exact kit_bool_list | exact kit_bool_dict | exact kit_int_bool | exact kit_int_int | exact kit_int_str | exact kit_int_tuple | exact kit_int_list | exact kit_int_dict | exact kit_str_bool | exact kit_str_int | exact kit_str_str | exact kit_str_tuple | exact kit_str_list | exact kit_str_dict | exact kit_tuple_bool | exact kit_tuple_int | exact kit_tuple_str | exact kit_tuple_tuple | exact kit_tuple_list | exact kit_tuple_dict | exact kit_list_bool | exact kit_list_int | exact kit_list_str | exact kit_list_tuple | exact kit_list_list | exact kit_list_dict | exact kit_dict_bool | exact kit_dict_int | exact kit_dict_str | exact kit_dict_tuple | exact kit_dict_list | exact kit_dict_dict) (by first | exact kit_NoneType_bool | exact kit_NoneType_int | exact kit_NoneType_str | exact kit_NoneType_tuple | exact kit_NoneType_list | exact kit_NoneType_dict | exact kit_bool_bool | exact kit_bool_int | exact kit_bool_str | exact kit_bool_tuple | exact kit_bool_list | exact kit_bool_dict | exact kit_int_bool | exact kit_int_int | exact kit_int_str | exact kit_int_tuple | exact kit_int_list | exact kit_int_dict | exact kit_str_bool | exact kit_str_int | exact kit_str_str | exact kit_str_tuple | exact kit_str_list | exact kit_str_dict | exact kit_tuple_bool | exact kit_tuple_int | exact kit_tuple_str | exact kit_tuple_tuple | exact kit_tuple_list | exact kit_tuple_dict | exact kit_list_bool | exact kit_list_int | exact kit_list_str | exact kit_list_tuple | exact kit_list_list | exact kit_list_dict | exact kit_dict_bool | exact kit_dict_int | exact kit_dict_str | exact kit_dict_tuple | exact kit_dict_list | exact kit_dict_dict) ?_
  | with_reducible refine w_int1 ?_
  | with_reducible refine w_fn1 ?_
  | with_reducible refine w_fn2 ?_
  | with_reducible refine w_fn3 ?_
  | with_reducible refine w_penC1 (by with_unfolding_all exact rfl) ?_
  | with_reducible refine w_penC2 (by with_unfolding_all exact rfl) ?_)
  have dl_z := True.intro
  clear dl_z))
local macro_rules | `(tactic| walk_at "dl") => `(tactic| repeat (first
  | with_reducible refine w_seq ?_
  | with_reducible refine w_kq ?_
  | with_reducible refine w_asg ?_
  | with_reducible refine w_if ?_
  | with_reducible refine w_B ?_
  | with_reducible refine w_P2 ?_
  | with_reducible refine w_vl ?_
  | with_reducible refine w_m2 ?_
  | with_reducible refine w_pur ?_
  | with_reducible refine w_plv ?_
  | with_reducible refine w_var (by with_unfolding_all exact rfl) (by first | with_unfolding_all exact rfl | assumption | exact frz_lstF _ | exact frz_tupD _ | exact Dt.fz _) ?_
  | with_reducible refine w_varL (by with_unfolding_all exact rfl) (by first | exact Dt.mfz _ | with_unfolding_all exact rfl) ?_
  | with_reducible refine w_app (by with_unfolding_all exact rfl) ?_
  | with_reducible refine w_inN ?_
  | with_reducible refine w_eqN ?_
  | with_reducible refine w_neN ?_
  | with_reducible refine w_minN ?_
  | with_reducible refine w_maxN ?_
  | with_reducible refine w_lcC ?_
  | with_reducible refine w_intB ?_
  | with_reducible refine w_ix2 ?_
  | with_reducible refine w_lstRg ?_
  | with_reducible refine w_yes ?_
  | with_reducible refine w_tgW ?_
  | with_reducible refine w_tgNI ?_
  | with_reducible refine w_tgNN ?_
  | with_reducible refine w_pv (by with_unfolding_all exact rfl) ?_
  | with_reducible refine w_tgN' (by with_unfolding_all exact rfl) ?_
  | with_reducible refine w_lk (by with_unfolding_all exact rfl) ?_
  | with_reducible refine w_toB ?_
  | with_reducible refine w_not ?_
  | with_reducible refine w_andT ?_
  | with_reducible refine w_orT ?_
  | with_reducible refine w_C ?_
  | with_reducible refine w_CB ?_
  | with_reducible refine w_v1 ?_
  | with_reducible refine w_exp ?_
  | with_reducible refine w_ret ?_
  | with_reducible refine w_rt ?_
  | with_reducible refine w_tt ?_
  | with_reducible refine w_ff ?_
  | with_reducible refine w_nt ?_
  | with_reducible refine w_nf ?_
  | with_reducible refine w_add ?_
  | with_reducible refine w_sub ?_
  | with_reducible refine w_lt ?_
  | with_reducible refine w_le ?_
  | with_reducible refine w_gt ?_
  | with_reducible refine w_ge ?_
  | with_reducible refine w_eq ?_
  | with_reducible refine w_ne ?_
  | with_reducible refine w_len ?_
  | with_reducible refine w_abs ?_
  | with_reducible refine w_neg ?_
  | with_reducible refine w_is ?_
  | with_reducible refine w_isNot ?_
  | with_reducible refine w_tm ?_
  | with_reducible refine w_tgs0 ?_
  | with_reducible refine w_tgsC ?_
  | with_reducible refine w_andV ?_
  | with_reducible refine w_orV ?_
  | with_reducible refine w_notV ?_
  | with_reducible refine w_chain ?_
  | with_reducible refine w_ifE ?_
  | with_reducible refine w_isi ?_
  | with_reducible refine w_isi2 ?_
  | with_reducible refine w_dic ?_
  | with_reducible refine w_pr ?_
  | with_reducible refine w_un ?_
  | with_reducible refine w_slice ?_
  | with_reducible refine w_for ?_
  | with_reducible refine w_lst ?_
  | with_reducible refine w_tup ?_
  | with_reducible refine w_mov (by with_unfolding_all exact rfl) ?_
  | with_reducible refine w_penL (by with_unfolding_all exact rfl) ?_
  | with_reducible refine w_penA (by with_unfolding_all exact rfl) ?_
  | with_reducible refine w_penS (by with_unfolding_all exact rfl) ?_
  | with_reducible refine w_pl0 (by with_unfolding_all exact rfl) ?_
  | with_reducible refine w_sl (by with_unfolding_all exact rfl) ?_
  | with_reducible refine w_tgT (by with_unfolding_all exact rfl) ?_
  | with_reducible refine w_toK (by with_unfolding_all exact rfl) ?_
  | with_reducible refine w_rix (by with_unfolding_all exact rfl) ?_
  | with_reducible refine w_rixs (by with_unfolding_all exact rfl) ?_
  | with_reducible refine w_penG (by with_unfolding_all exact rfl) ix_left ?_
  | with_reducible refine w_penG (by with_unfolding_all exact rfl) ix_at ?_
  | with_reducible refine w_penG (by with_unfolding_all exact rfl) ix_script ?_
  | with_reducible refine w_pl1 (by with_unfolding_all exact rfl) (by with_unfolding_all exact rfl) (by with_unfolding_all exact rfl) ?_
  | with_reducible refine w_mod (by omega) ?_
  | with_reducible refine w_div (by omega) ?_
  | with_reducible refine w_mulR (by omega) ?_
  | with_reducible refine w_mulL (by omega) ?_
  | with_reducible refine w_pow6 ?_
  | with_reducible refine w_pow9 ?_
  | with_reducible refine w_pow13 ?_
  | with_reducible refine w_pow17 ?_
  | with_reducible refine w_pow18 ?_
  | with_reducible refine w_pow20 ?_
  | with_reducible refine w_pow25 ?_
  | with_reducible refine w_pow27 ?_
  | with_reducible refine w_pow28 ?_
  | with_reducible refine w_pow29 ?_
  | with_reducible refine w_pow30 ?_
  | with_reducible refine w_ln (by with_unfolding_all exact rfl) ?_
  | with_reducible refine w_range1 ?_
  | with_reducible refine w_range2 ?_
  | with_reducible refine w_part ?_
  | with_reducible refine w_it ?_
  | with_reducible refine w_rgE (by omega) ?_
  | with_reducible refine w_rgE2 (by omega) (by omega) ?_
  | with_reducible refine w_take takeOk (by with_unfolding_all exact rfl) ?_
  | with_reducible refine w_isiK (by with_unfolding_all exact rfl) (by first | exact kit_NoneType_bool | exact kit_NoneType_int | exact kit_NoneType_str | exact kit_NoneType_tuple | exact kit_NoneType_list | exact kit_NoneType_dict | exact kit_bool_bool | exact kit_bool_int | exact kit_bool_str | exact kit_bool_tuple | exact kit_bool_list | exact kit_bool_dict | exact kit_int_bool | exact kit_int_int | exact kit_int_str | exact kit_int_tuple | exact kit_int_list | exact kit_int_dict | exact kit_str_bool | exact kit_str_int | exact kit_str_str | exact kit_str_tuple | exact kit_str_list | exact kit_str_dict | exact kit_tuple_bool | exact kit_tuple_int | exact kit_tuple_str | exact kit_tuple_tuple | exact kit_tuple_list | exact kit_tuple_dict | exact kit_list_bool | exact kit_list_int | exact kit_list_str | exact kit_list_tuple | exact kit_list_list | exact kit_list_dict | exact kit_dict_bool | exact kit_dict_int | exact kit_dict_str | exact kit_dict_tuple | exact kit_dict_list | exact kit_dict_dict) ?_
  | with_reducible refine w_isiK2 (by with_unfolding_all exact rfl) (by first | exact kit_NoneType_bool | exact kit_NoneType_int | exact kit_NoneType_str | exact kit_NoneType_tuple | exact kit_NoneType_list | exact kit_NoneType_dict | exact kit_bool_bool | exact kit_bool_int | exact kit_bool_str | exact kit_bool_tuple | exact kit_bool_list | exact kit_bool_dict | exact kit_int_bool | exact kit_int_int | exact kit_int_str | exact kit_int_tuple | exact kit_int_list | exact kit_int_dict | exact kit_str_bool | exact kit_str_int | exact kit_str_str | exact kit_str_tuple | exact kit_str_list | exact kit_str_dict | exact kit_tuple_bool | exact kit_tuple_int | exact kit_tuple_str | exact kit_tuple_tuple | exact kit_tuple_list | exact kit_tuple_dict | exact kit_list_bool | exact kit_list_int | exact kit_list_str | exact kit_list_tuple | exact kit_list_list | exact kit_list_dict | exact kit_dict_bool | exact kit_dict_int | exact kit_dict_str | exact kit_dict_tuple | exact kit_dict_list | exact kit_dict_dict) (by first | exact kit_NoneType_bool | exact kit_NoneType_int | exact kit_NoneType_str | exact kit_NoneType_tuple | exact kit_NoneType_list | exact kit_NoneType_dict | exact kit_bool_bool | exact kit_bool_int | exact kit_bool_str | exact kit_bool_tuple | exact kit_bool_list | exact kit_bool_dict | exact kit_int_bool | exact kit_int_int | exact kit_int_str | exact kit_int_tuple | exact kit_int_list | exact kit_int_dict | exact kit_str_bool | exact kit_str_int | exact kit_str_str | exact kit_str_tuple | exact kit_str_list | exact kit_str_dict | exact kit_tuple_bool | exact kit_tuple_int | exact kit_tuple_str | exact kit_tuple_tuple | exact kit_tuple_list | exact kit_tuple_dict | exact kit_list_bool | exact kit_list_int | exact kit_list_str | exact kit_list_tuple | exact kit_list_list | exact kit_list_dict | exact kit_dict_bool | exact kit_dict_int | exact kit_dict_str | exact kit_dict_tuple | exact kit_dict_list | exact kit_dict_dict) ?_
  | with_reducible refine w_int1 ?_
  | with_reducible refine w_fn1 ?_
  | with_reducible refine w_fn2 ?_
  | with_reducible refine w_fn3 ?_
  | with_reducible refine w_penC1 (by with_unfolding_all exact rfl) ?_
  | with_reducible refine w_penC2 (by with_unfolding_all exact rfl) ?_))
theorem fIx_found {F : List Nm} {r x : Nm} {q : Nm → Nm} (hF : F.Nodup) (hx : x ∈ F) : fIx (foundD F r q) (.str x.1) = some (upD r q x) := by
  obtain ⟨j, hj, ej⟩ := List.mem_iff_getElem.mp hx
  have hj' : F[j]? = some x := by rw [List.getElem?_eq_getElem hj, ej]
  show (findK (F.map kN) (.inr x.1)).bind _ = _
  rw [findK_at hF hj', Option.bind_some, List.getElem?_map, hj']
  show some (upD r q x).frz = _
  rw [upD_frz]
section
variable {ρ : DL.Env} {E : DL.XE} {F : List Nm} {r : Nm} {q : Nm → Nm}
theorem w_plF {i : Nat} {x : Nm} {P : D → DL.Env → Prop} (e : ρ[i]? = some (some (foundD F r q))) (hF : F.Nodup) (hx : x ∈ F) (h : P (upD r q x) ρ) : Wp (pixA (.at i []) (.str x.1)) ρ (fun pl ρ1 => Wp (plD pl) ρ1 P E) E := by
  obtain ⟨j, hj, ej⟩ := List.mem_iff_getElem.mp hx
  have hj' : F[j]? = some x := by rw [List.getElem?_eq_getElem hj, ej]
  exact w_dicO e hF hj' (w_pl1 (d := upD r q x) e rfl (by rw [List.getElem?_map, hj']; rfl) h)
theorem w_rdF2 {i : Nat} {x : Nm} {P : D → DL.Env → Prop} (e : ρ[i]? = some (some (foundD F r q))) (hF : F.Nodup) (hx : x ∈ F) (h : P (upD r q x) ρ) : Wp (pixA (.at i []) (.str x.1)) ρ (fun pl ρ1 => Wp (rdPl pl) ρ1 P E) E := by
  obtain ⟨j, hj, ej⟩ := List.mem_iff_getElem.mp hx
  have hj' : F[j]? = some x := by rw [List.getElem?_eq_getElem hj, ej]
  exact w_dicO e hF hj' (w_rdO (e := upD r q x) (atP_1 e rfl (by rw [List.getElem?_map, hj']; rfl)) (upD_frz _ _ _) h)
end
/-- a tree as all the defs take it -/
structure TreeOk (pl : List Nm) (ws : List Way) (r : Nm) (q : Nm → Nm) (rk : Nm → Nat) : Prop where
  nd : pl.Nodup
  lp : pl.length ≤ 900
  lw : ws.length ≤ 900
  ends : ∀ w ∈ ws, w.a ∈ pl ∧ w.b ∈ pl ∧ w.a ≠ w.b
  h0 : pl[0]? = some r
  con : Con1 pl ws
  few : ws.length + 1 = pl.length
  ps : PS pl ws r q rk
  rkl : ∀ x, rk x ≤ 5000
section
variable {pl : List Nm} {ws : List Way} {r x : Nm} {q : Nm → Nm} {rk : Nm → Nat}
theorem TreeOk.par (h : TreeOk pl ws r q rk) : FnOk1 F_parents [webD pl ws] (fun d => ∃ F, d = foundD F r q ∧ F.Perm pl) := parents_spec h.nd h.lp h.lw h.ends h.h0 h.con h.few h.ps
theorem parent_spec (h : TreeOk pl ws r q rk) (hx : x ∈ pl) : FnOk1 F_parent [webD pl ws, .str x.1] (fun d => d = upD r q x) := by
  refine fok_mk [some (webD pl ws), some (.str x.1)] rfl ?_
  unfold m_parent
  have hfz := webD_frz pl ws
  walk_at "di"
  refine ⟨_, _, hfz, h.par, ?_⟩
  rintro _ ⟨F, rfl, hF⟩
  walk_at "di"
  refine w_lft (fIx_found (hF.nodup_iff.mpr h.nd) (hF.mem_iff.mpr hx)) ?_
  exact ⟨rfl, by show [D.frz _, D.frz _] = _; rw [webD_frz]; rfl⟩
theorem children_spec (h : TreeOk pl ws r q rk) (hx : x ∈ pl) : FnOk1 F_children [webD pl ws, .str x.1] (fun d => d = .nd (.lst true) ((pl.filter fun one => decide (one ≠ r ∧ q one = x)).map Dt.d)) := by
  refine fok_mk [some (webD pl ws), some (.str x.1), none, none] rfl ?_
  unfold m_children
  have hfz := webD_frz pl ws
  walk_at "di"
  refine ⟨_, _, hfz, h.par, ?_⟩
  rintro _ ⟨F, rfl, hF⟩
  walk_at "di"
  refine w_rdT (j := 0) rfl rfl (webD_fz pl ws) ?_
  refine w_itU ?_
  have := h.lp
  refine w_cmF (l := pl) [some (webD pl ws), some (.str x.1), some (foundD F r q), none] (fun one => decide (one ≠ r ∧ q one = x)) id rfl (by omega) ?_ ?_
  · intro a ha
    walk_at "di"
    refine ⟨rfl, ?_⟩
    walk_at "di"
    refine w_pix (w_pv rfl ?_)
    walk_at "di"
    obtain ⟨j, hj, ej⟩ := List.mem_iff_getElem.mp (hF.mem_iff.mpr ha)
    have hj' : F[j]? = some a := by rw [List.getElem?_eq_getElem hj, ej]
    refine w_dicO (l := F) (a := a) rfl (hF.nodup_iff.mpr h.nd) hj' ?_
    walk_at "di"
    refine w_pl1 (d := upD r q a) rfl rfl (by rw [List.getElem?_map, hj']; rfl) ?_
    walk_at "di"
    refine w_lft (fEq_up r q a x) ?_
    walk_at "di"
    refine ⟨rfl, fun _ => ?_, fun _ => rfl⟩
    walk_at "di"
    exact ⟨rfl, rfl⟩
  rw [List.map_id]
  exact ⟨rfl, by show [D.frz _, D.frz _] = _; rw [webD_frz]; rfl⟩
def stepD : Option Nm → D
  | none => .non
  | some s => .str s.1
theorem below_spec (h : TreeOk pl ws r q rk) (hx : x ∈ pl) {W : Nm → List Nm} (hW0 : W r = [r]) (hW1 : ∀ y ∈ pl, y ≠ r → W y = W (q y) ++ [y]) : FnOk1 F_below [webD pl ws, .str x.1] (fun d => d = .nd (.lst true) ((pl.filter fun one => decide (x ∈ W one)).map Dt.d)) := by
  refine fok_mk [some (webD pl ws), some (.str x.1), none, none, none, none] rfl ?_
  unfold m_below
  have hfz := webD_frz pl ws
  have hlp := h.lp
  walk_at "di"
  refine ⟨_, _, hfz, h.par, ?_⟩
  rintro _ ⟨F, rfl, hF⟩
  have hFn := hF.nodup_iff.mpr h.nd
  walk_at "di"
  refine w_seq ?_
  walk_at "di"
  refine w_rdT (j := 0) rfl rfl (webD_fz pl ws) ?_
  refine w_itU ?_
  refine w_loop (I := fun k ρ => ∃ o4 o5 : Option D, ρ = [some (webD pl ws), some (.str x.1), some (foundD F r q), some (.nd (.lst true) (((pl.take k).filter fun one => decide (x ∈ W one)).map Dt.d)), o4, o5]) ⟨_, _, rfl⟩ ?_ ?_
  · rintro k d hd ρ ⟨o4, o5, rfl⟩
    obtain ⟨one, hone, rfl⟩ := map_get hd
    have hop : one ∈ pl := List.mem_of_getElem? hone
    walk_at "di"
    refine w_seqC (fun ρ => ∃ st : Option Nm, ρ = [some (webD pl ws), some (.str x.1), some (foundD F r q), some (.nd (.lst true) (((pl.take k).filter fun one => decide (x ∈ W one)).map Dt.d)), some (Dt.d one), some (stepD st)] ∧ (x ∈ W one ↔ st = some x)) ?_ ?_
    · refine w_while (n := rk one + 1) (I := fun n ρ => ∃ st : Option Nm, ρ = [some (webD pl ws), some (.str x.1), some (foundD F r q), some (.nd (.lst true) (((pl.take k).filter fun one => decide (x ∈ W one)).map Dt.d)), some (Dt.d one), some (stepD st)] ∧ (∀ s, st = some s → s ∈ pl) ∧ (x ∈ W one ↔ ∃ s, st = some s ∧ x ∈ W s) ∧ n = (match st with
        | none => 0
        | some s => rk s + 1)) ?_ (by unfold FUEL; have := h.rkl one; omega) ⟨some one, rfl, fun s hs => by cases hs; exact hop, ⟨fun h => ⟨one, rfl, h⟩, fun ⟨s, h1, h2⟩ => by cases h1; exact h2⟩, rfl⟩
      rintro n ρ ⟨st, rfl, hst, hin, hn⟩
      have hend : ∀ s ∈ pl, ∃ L, W s = L ++ [s] := fun s hs => by
        by_cases hr : s = r
        · subst hr; exact ⟨[], hW0⟩
        · exact ⟨_, hW1 s hs hr⟩
      cases st with
      | none =>
        rw [show stepD none = D.non from rfl]
        walk_at "di"
        refine ⟨(fun h => nomatch h), fun _ => ?_⟩
        refine w_ff ?_
        refine ⟨rfl, none, rfl, hin.trans ⟨(fun ⟨s, h1, _⟩ => nomatch h1), (fun h => nomatch h)⟩⟩
      | some s =>
        have hs := hst s rfl
        rw [show stepD (some s) = D.str s.1 from rfl]
        walk_at "di"
        refine ⟨fun _ => ?_, (fun h => nomatch h)⟩
        walk_at "di"
        refine w_byN (fun hc => ?_) (fun hc => ?_)
        · refine ⟨rk s, hn, ?_⟩
          walk_at "di"
          refine w_rdF2 rfl hFn (hF.mem_iff.mpr hs) ?_
          walk_at "di"
          by_cases hr : s = r
          · subst hr
            rw [show upD s q s = stepD none by unfold upD; rw [if_pos rfl]; rfl]
            refine ⟨0, by omega, none, rfl, (fun s hs => nomatch hs), hin.trans ⟨fun ⟨s', h1, h2⟩ => ?_, (fun ⟨s', h1, _⟩ => nomatch h1)⟩, rfl⟩
            · cases h1
              rw [hW0] at h2
              exact (hc (List.mem_singleton.mp h2).symm).elim
          · obtain ⟨a1, a2, a3⟩ := h.ps s hs hr
            rw [show upD r q s = stepD (some (q s)) by unfold upD; rw [if_neg hr]; rfl]
            refine ⟨rk (q s) + 1, by omega, some (q s), rfl, (fun s' hs' => by cases hs'; exact a1), hin.trans ⟨fun ⟨s', h1, h2⟩ => ?_, fun ⟨s', h1, h2⟩ => ?_⟩, rfl⟩
            · cases h1
              rw [hW1 s hs hr] at h2
              rcases List.mem_append.mp h2 with h2 | h2
              · exact ⟨_, rfl, h2⟩
              · exact (hc (List.mem_singleton.mp h2).symm).elim
            · cases h1
              exact ⟨s, rfl, by rw [hW1 s hs hr]; exact List.mem_append_left _ h2⟩
        · refine ⟨rfl, some s, rfl, hin.trans ⟨fun _ => by rw [hc], fun _ => ⟨s, rfl, ?_⟩⟩⟩
          obtain ⟨L, hL⟩ := hend s hs
          rw [hL, hc]; simp
    rintro ρ ⟨st, rfl, hin⟩
    walk_at "di"
    have heq : fEq (stepD st) (.str x.1) = some (.bl (decide (st = some x))) := by
      cases st with
      | none =>
        show fEq .non (.str x.1) = _
        rw [fEq_py (n := 0) (m := 0) .non (.str x.sok.ok) (by omega) (by omega)]
        simp [PyData.eqv]
      | some s =>
        show fEq (.str s.1) (.str x.1) = _
        rw [fEq_py (n := 0) (m := 0) (.str s.sok.ok) (.str x.sok.ok) (by omega) (by omega), eqv_str]
        congr 2
        exact decide_eq_decide.mpr ⟨fun e => by rw [Subtype.ext e], fun e => by cases e; rfl⟩
    refine w_lft heq ?_
    walk_at "di"
    refine w_by (fun hc => ?_) (fun hc => ?_)
    · walk_at "di"
      refine ⟨_, _, rfl, rfl, by rw [List.length_map]; have := List.length_filter_le (fun one => decide (x ∈ W one)) (pl.take k); rw [List.length_take] at this; omega, ?_⟩
      walk_at "di"
      rw [app_map, show (pl.take k).filter (fun one => decide (x ∈ W one)) ++ [one] = (pl.take (k + 1)).filter fun one => decide (x ∈ W one) by rw [take_snoc hone, List.filter_append, List.filter_cons, decide_eq_true (hin.mpr hc)]; rfl]
      exact ⟨_, _, rfl⟩
    · walk_at "di"
      rw [show (pl.take k).filter (fun one => decide (x ∈ W one)) = (pl.take (k + 1)).filter fun one => decide (x ∈ W one) by rw [take_snoc hone, List.filter_append, List.filter_cons, decide_eq_false (fun k => hc (hin.mp k))]; simp]
      exact ⟨_, _, rfl⟩
  · rintro ρ ⟨o4, o5, rfl⟩
    rw [List.length_map, List.take_length]
    walk_at "di"
    exact ⟨rfl, by show [D.frz _, D.frz _] = _; rw [webD_frz]; rfl⟩
end

end Wk
namespace Wk
open PySem PySem.Spec L2 DL
open PySem.W (Tup T3 T4 minOf maxOf Datum DatumOrd)
local macro_rules | `(tactic| walk_at "di") => `(tactic| (
  repeat (first
  | with_reducible refine w_seqA ?_
  | with_reducible refine w_seqE ?_
  | with_reducible refine w_seqR ?_
  | with_reducible refine w_kq ?_
  | with_reducible refine w_asg ?_
  | with_reducible refine w_if ?_
  | with_reducible refine w_B ?_
  | with_reducible refine w_P2 ?_
  | with_reducible refine w_vl ?_
  | with_reducible refine w_m2 ?_
  | with_reducible refine w_pur ?_
  | with_reducible refine w_plv ?_
  | with_reducible refine w_var (by with_unfolding_all exact rfl) (by first | with_unfolding_all exact rfl | assumption | exact frz_lstF _ | exact frz_tupD _ | exact Dt.fz _) ?_
  | with_reducible refine w_varL (by with_unfolding_all exact rfl) (by first | exact Dt.mfz _ | with_unfolding_all exact rfl) ?_
  | with_reducible refine w_app (by with_unfolding_all exact rfl) ?_
  | with_reducible refine w_inN ?_
  | with_reducible refine w_eqN ?_
  | with_reducible refine w_neN ?_
  | with_reducible refine w_minN ?_
  | with_reducible refine w_maxN ?_
  | with_reducible refine w_lcC ?_
  | with_reducible refine w_intB ?_
  | with_reducible refine w_ix2 ?_
  | with_reducible refine w_lstRg ?_
  | with_reducible refine w_yes ?_
  | with_reducible refine w_tgW ?_
  | with_reducible refine w_tgNI ?_
  | with_reducible refine w_tgNN ?_
  | with_reducible refine w_pv (by with_unfolding_all exact rfl) ?_
  | with_reducible refine w_tgN' (by with_unfolding_all exact rfl) ?_
  | with_reducible refine w_lk (by with_unfolding_all exact rfl) ?_
  | with_reducible refine w_toB ?_
  | with_reducible refine w_not ?_
  | with_reducible refine w_andT ?_
  | with_reducible refine w_orT ?_
  | with_reducible refine w_C ?_
  | with_reducible refine w_CB ?_
  | with_reducible refine w_v1 ?_
  | with_reducible refine w_exp ?_
  | with_reducible refine w_ret ?_
  | with_reducible refine w_rt ?_
  | with_reducible refine w_tt ?_
  | with_reducible refine w_ff ?_
  | with_reducible refine w_nt ?_
  | with_reducible refine w_nf ?_
  | with_reducible refine w_add ?_
  | with_reducible refine w_sub ?_
  | with_reducible refine w_lt ?_
  | with_reducible refine w_le ?_
  | with_reducible refine w_gt ?_
  | with_reducible refine w_ge ?_
  | with_reducible refine w_eq ?_
  | with_reducible refine w_ne ?_
  | with_reducible refine w_len ?_
  | with_reducible refine w_abs ?_
  | with_reducible refine w_neg ?_
  | with_reducible refine w_is ?_
  | with_reducible refine w_isNot ?_
  | with_reducible refine w_tm ?_
  | with_reducible refine w_tgs0 ?_
  | with_reducible refine w_tgsC ?_
  | with_reducible refine w_andV ?_
  | with_reducible refine w_orV ?_
  | with_reducible refine w_notV ?_
  | with_reducible refine w_chain ?_
  | with_reducible refine w_ifE ?_
  | with_reducible refine w_isi ?_
  | with_reducible refine w_isi2 ?_
  | with_reducible refine w_dic ?_
  | with_reducible refine w_pr ?_
  | with_reducible refine w_un ?_
  | with_reducible refine w_slice ?_
  | with_reducible refine w_for ?_
  | with_reducible refine w_lst ?_
  | with_reducible refine w_tup ?_
  | with_reducible refine w_mov (by with_unfolding_all exact rfl) ?_
  | with_reducible refine w_penL (by with_unfolding_all exact rfl) ?_
  | with_reducible refine w_penA (by with_unfolding_all exact rfl) ?_
  | with_reducible refine w_penS (by with_unfolding_all exact rfl) ?_
  | with_reducible refine w_pl0 (by with_unfolding_all exact rfl) ?_
  | with_reducible refine w_sl (by with_unfolding_all exact rfl) ?_
  | with_reducible refine w_tgT (by with_unfolding_all exact rfl) ?_
  | with_reducible refine w_toK (by with_unfolding_all exact rfl) ?_
  | with_reducible refine w_rix (by with_unfolding_all exact rfl) ?_
  | with_reducible refine w_rixs (by with_unfolding_all exact rfl) ?_
  | with_reducible refine w_penG (by with_unfolding_all exact rfl) ix_left ?_
  | with_reducible refine w_penG (by with_unfolding_all exact rfl) ix_at ?_
  | with_reducible refine w_penG (by with_unfolding_all exact rfl) ix_script ?_
  | with_reducible refine w_pl1 (by with_unfolding_all exact rfl) (by with_unfolding_all exact rfl) (by with_unfolding_all exact rfl) ?_
  | with_reducible refine w_mod (by omega) ?_
  | with_reducible refine w_div (by omega) ?_
  | with_reducible refine w_mulR (by omega) ?_
  | with_reducible refine w_mulL (by omega) ?_
  | with_reducible refine w_pow6 ?_
  | with_reducible refine w_pow9 ?_
  | with_reducible refine w_pow13 ?_
  | with_reducible refine w_pow17 ?_
  | with_reducible refine w_pow18 ?_
  | with_reducible refine w_pow20 ?_
  | with_reducible refine w_pow25 ?_
  | with_reducible refine w_pow27 ?_
  | with_reducible refine w_pow28 ?_
  | with_reducible refine w_pow29 ?_
  | with_reducible refine w_pow30 ?_
  | with_reducible refine w_ln (by with_unfolding_all exact rfl) ?_
  | with_reducible refine w_range1 ?_
  | with_reducible refine w_range2 ?_
  | with_reducible refine w_part ?_
  | with_reducible refine w_it ?_
  | with_reducible refine w_rgE (by omega) ?_
  | with_reducible refine w_rgE2 (by omega) (by omega) ?_
  | with_reducible refine w_take takeOk (by with_unfolding_all exact rfl) ?_
  | with_reducible refine w_isiK (by with_unfolding_all exact rfl) (by first | exact kit_NoneType_bool | exact kit_NoneType_int | exact kit_NoneType_str | exact kit_NoneType_tuple | exact kit_NoneType_list | exact kit_NoneType_dict | exact kit_bool_bool | exact kit_bool_int | exact kit_bool_str | exact kit_bool_tuple | exact kit_bool_list | exact kit_bool_dict | exact kit_int_bool | exact kit_int_int | exact kit_int_str | exact kit_int_tuple | exact kit_int_list | exact kit_int_dict | exact kit_str_bool | exact kit_str_int | exact kit_str_str | exact kit_str_tuple | exact kit_str_list | exact kit_str_dict | exact kit_tuple_bool | exact kit_tuple_int | exact kit_tuple_str | exact kit_tuple_tuple | exact kit_tuple_list | exact kit_tuple_dict | exact kit_list_bool | exact kit_list_int | exact kit_list_str | exact kit_list_tuple | exact kit_list_list | exact kit_list_dict | exact kit_dict_bool | exact kit_dict_int | exact kit_dict_str | exact kit_dict_tuple | exact kit_dict_list | exact kit_dict_dict) ?_
  | with_reducible refine w_isiK2 (by with_unfolding_all exact rfl) (by first | exact kit_NoneType_bool | exact kit_NoneType_int | exact kit_NoneType_str | exact kit_NoneType_tuple | exact kit_NoneType_list | exact kit_NoneType_dict | exact kit_bool_bool | exact kit_bool_int | exact kit_bool_str | exact kit_bool_tuple | exact kit_bool_list | exact kit_bool_dict | exact kit_int_bool | exact kit_int_int | exact kit_int_str | exact kit_int_tuple | exact kit_int_list | exact kit_int_dict | exact kit_str_bool | exact kit_str_int | exact kit_str_str | exact kit_str_tuple | exact kit_str_list | exact kit_str_dict | exact kit_tuple_bool | exact kit_tuple_int | exact kit_tuple_str | exact kit_tuple_tuple | exact kit_tuple_list | exact kit_tuple_dict | exact kit_list_bool | exact kit_list_int | exact kit_list_str | exact kit_list_tuple | exact kit_list_list | exact kit_list_dict | exact kit_dict_bool | exact kit_dict_int | exact kit_dict_str | exact kit_dict_tuple | exact kit_dict_list | exact kit_dict_dict) (by first | exact kit_NoneType_bool | exact kit_NoneType_int | exact kit_NoneType_str | exact kit_NoneType_tuple | exact kit_NoneType_list | exact kit_NoneType_dict | exact kit_bool_bool | exact kit_bool_int | exact kit_bool_str | exact kit_bool_tuple | exact kit_bool_list | exact kit_bool_dict | exact kit_int_bool | exact kit_int_int | exact kit_int_str | exact kit_int_tuple | exact kit_int_list | exact kit_int_dict | exact kit_str_bool | exact kit_str_int | exact kit_str_str | exact kit_str_tuple | exact kit_str_list | exact kit_str_dict | exact kit_tuple_bool | exact kit_tuple_int | exact kit_tuple_str | exact kit_tuple_tuple | exact kit_tuple_list | exact kit_tuple_dict | exact kit_list_bool | exact kit_list_int | exact kit_list_str | exact kit_list_tuple | exact kit_list_list | exact kit_list_dict | exact kit_dict_bool | exact kit_dict_int | exact kit_dict_str | exact kit_dict_tuple | exact kit_dict_list | exact kit_dict_dict) ?_
  | with_reducible refine w_int1 ?_
  | with_reducible refine w_fn1 ?_
  | with_reducible refine w_fn2 ?_
  | with_reducible refine w_fn3 ?_
  | with_reducible refine w_penC1 (by with_unfolding_all exact rfl) ?_
  | with_reducible refine w_penC2 (by with_unfolding_all exact rfl) ?_)
  have dl_z := True.intro
  clear dl_z))
local macro_rules | `(tactic| walk_at "dl") => `(tactic| repeat (first
  | with_reducible refine w_seq ?_
  | with_reducible refine w_kq ?_
  | with_reducible refine w_asg ?_
  | with_reducible refine w_if ?_
  | with_reducible refine w_B ?_
  | with_reducible refine w_P2 ?_
  | with_reducible refine w_vl ?_
  | with_reducible refine w_m2 ?_
  | with_reducible refine w_pur ?_
  | with_reducible refine w_plv ?_
  | with_reducible refine w_var (by with_unfolding_all exact rfl) (by first | with_unfolding_all exact rfl | assumption | exact frz_lstF _ | exact frz_tupD _ | exact Dt.fz _) ?_
  | with_reducible refine w_varL (by with_unfolding_all exact rfl) (by first | exact Dt.mfz _ | with_unfolding_all exact rfl) ?_
  | with_reducible refine w_app (by with_unfolding_all exact rfl) ?_
  | with_reducible refine w_inN ?_
  | with_reducible refine w_eqN ?_
  | with_reducible refine w_neN ?_
  | with_reducible refine w_minN ?_
  | with_reducible refine w_maxN ?_
  | with_reducible refine w_lcC ?_
  | with_reducible refine w_intB ?_
  | with_reducible refine w_ix2 ?_
  | with_reducible refine w_lstRg ?_
  | with_reducible refine w_yes ?_
  | with_reducible refine w_tgW ?_
  | with_reducible refine w_tgNI ?_
  | with_reducible refine w_tgNN ?_
  | with_reducible refine w_pv (by with_unfolding_all exact rfl) ?_
  | with_reducible refine w_tgN' (by with_unfolding_all exact rfl) ?_
  | with_reducible refine w_lk (by with_unfolding_all exact rfl) ?_
  | with_reducible refine w_toB ?_
  | with_reducible refine w_not ?_
  | with_reducible refine w_andT ?_
  | with_reducible refine w_orT ?_
  | with_reducible refine w_C ?_
  | with_reducible refine w_CB ?_
  | with_reducible refine w_v1 ?_
  | with_reducible refine w_exp ?_
  | with_reducible refine w_ret ?_
  | with_reducible refine w_rt ?_
  | with_reducible refine w_tt ?_
  | with_reducible refine w_ff ?_
  | with_reducible refine w_nt ?_
  | with_reducible refine w_nf ?_
  | with_reducible refine w_add ?_
  | with_reducible refine w_sub ?_
  | with_reducible refine w_lt ?_
  | with_reducible refine w_le ?_
  | with_reducible refine w_gt ?_
  | with_reducible refine w_ge ?_
  | with_reducible refine w_eq ?_
  | with_reducible refine w_ne ?_
  | with_reducible refine w_len ?_
  | with_reducible refine w_abs ?_
  | with_reducible refine w_neg ?_
  | with_reducible refine w_is ?_
  | with_reducible refine w_isNot ?_
  | with_reducible refine w_tm ?_
  | with_reducible refine w_tgs0 ?_
  | with_reducible refine w_tgsC ?_
  | with_reducible refine w_andV ?_
  | with_reducible refine w_orV ?_
  | with_reducible refine w_notV ?_
  | with_reducible refine w_chain ?_
  | with_reducible refine w_ifE ?_
  | with_reducible refine w_isi ?_
  | with_reducible refine w_isi2 ?_
  | with_reducible refine w_dic ?_
  | with_reducible refine w_pr ?_
  | with_reducible refine w_un ?_
  | with_reducible refine w_slice ?_
  | with_reducible refine w_for ?_
  | with_reducible refine w_lst ?_
  | with_reducible refine w_tup ?_
  | with_reducible refine w_mov (by with_unfolding_all exact rfl) ?_
  | with_reducible refine w_penL (by with_unfolding_all exact rfl) ?_
  | with_reducible refine w_penA (by with_unfolding_all exact rfl) ?_
  | with_reducible refine w_penS (by with_unfolding_all exact rfl) ?_
  | with_reducible refine w_pl0 (by with_unfolding_all exact rfl) ?_
  | with_reducible refine w_sl (by with_unfolding_all exact rfl) ?_
  | with_reducible refine w_tgT (by with_unfolding_all exact rfl) ?_
  | with_reducible refine w_toK (by with_unfolding_all exact rfl) ?_
  | with_reducible refine w_rix (by with_unfolding_all exact rfl) ?_
  | with_reducible refine w_rixs (by with_unfolding_all exact rfl) ?_
  | with_reducible refine w_penG (by with_unfolding_all exact rfl) ix_left ?_
  | with_reducible refine w_penG (by with_unfolding_all exact rfl) ix_at ?_
  | with_reducible refine w_penG (by with_unfolding_all exact rfl) ix_script ?_
  | with_reducible refine w_pl1 (by with_unfolding_all exact rfl) (by with_unfolding_all exact rfl) (by with_unfolding_all exact rfl) ?_
  | with_reducible refine w_mod (by omega) ?_
  | with_reducible refine w_div (by omega) ?_
  | with_reducible refine w_mulR (by omega) ?_
  | with_reducible refine w_mulL (by omega) ?_
  | with_reducible refine w_pow6 ?_
  | with_reducible refine w_pow9 ?_
  | with_reducible refine w_pow13 ?_
  | with_reducible refine w_pow17 ?_
  | with_reducible refine w_pow18 ?_
  | with_reducible refine w_pow20 ?_
  | with_reducible refine w_pow25 ?_
  | with_reducible refine w_pow27 ?_
  | with_reducible refine w_pow28 ?_
  | with_reducible refine w_pow29 ?_
  | with_reducible refine w_pow30 ?_
  | with_reducible refine w_ln (by with_unfolding_all exact rfl) ?_
  | with_reducible refine w_range1 ?_
  | with_reducible refine w_range2 ?_
  | with_reducible refine w_part ?_
  | with_reducible refine w_it ?_
  | with_reducible refine w_rgE (by omega) ?_
  | with_reducible refine w_rgE2 (by omega) (by omega) ?_
  | with_reducible refine w_take takeOk (by with_unfolding_all exact rfl) ?_
  | with_reducible refine w_isiK (by with_unfolding_all exact rfl) (by first | exact kit_NoneType_bool | exact kit_NoneType_int | exact kit_NoneType_str | exact kit_NoneType_tuple | exact kit_NoneType_list | exact kit_NoneType_dict | exact kit_bool_bool | exact kit_bool_int | exact kit_bool_str | exact kit_bool_tuple | exact kit_bool_list | exact kit_bool_dict | exact kit_int_bool | exact kit_int_int | exact kit_int_str | exact kit_int_tuple | exact kit_int_list | exact kit_int_dict | exact kit_str_bool | exact kit_str_int | exact kit_str_str | exact kit_str_tuple | exact kit_str_list | exact kit_str_dict | exact kit_tuple_bool | exact kit_tuple_int | exact kit_tuple_str | exact kit_tuple_tuple | exact kit_tuple_list | exact kit_tuple_dict | exact kit_list_bool | exact kit_list_int | exact kit_list_str | exact kit_list_tuple | exact kit_list_list | exact kit_list_dict | exact kit_dict_bool | exact kit_dict_int | exact kit_dict_str | exact kit_dict_tuple | exact kit_dict_list | exact kit_dict_dict) ?_
  | with_reducible refine w_isiK2 (by with_unfolding_all exact rfl) (by first | exact kit_NoneType_bool | exact kit_NoneType_int | exact kit_NoneType_str | exact kit_NoneType_tuple | exact kit_NoneType_list | exact kit_NoneType_dict | exact kit_bool_bool | exact kit_bool_int | exact kit_bool_str | exact kit_bool_tuple | exact kit_bool_list | exact kit_bool_dict | exact kit_int_bool | exact kit_int_int | exact kit_int_str | exact kit_int_tuple | exact kit_int_list | exact kit_int_dict | exact kit_str_bool | exact kit_str_int | exact kit_str_str | exact kit_str_tuple | exact kit_str_list | exact kit_str_dict | exact kit_tuple_bool | exact kit_tuple_int | exact kit_tuple_str | exact kit_tuple_tuple | exact kit_tuple_list | exact kit_tuple_dict | exact kit_list_bool | exact kit_list_int | exact kit_list_str | exact kit_list_tuple | exact kit_list_list | exact kit_list_dict | exact kit_dict_bool | exact kit_dict_int | exact kit_dict_str | exact kit_dict_tuple | exact kit_dict_list | exact kit_dict_dict) (by first | exact kit_NoneType_bool | exact kit_NoneType_int | exact kit_NoneType_str | exact kit_NoneType_tuple | exact kit_NoneType_list | exact kit_NoneType_dict | exact kit_bool_bool | exact kit_bool_int | exact kit_bool_str | exact kit_bool_tuple | exact kit_bool_list | exact kit_bool_dict | exact kit_int_bool | exact kit_int_int | exact kit_int_str | exact kit_int_tuple | exact kit_int_list | exact kit_int_dict | exact kit_str_bool | exact kit_str_int | exact kit_str_str | exact kit_str_tuple | exact kit_str_list | exact kit_str_dict | exact kit_tuple_bool | exact kit_tuple_int | exact kit_tuple_str | exact kit_tuple_tuple | exact kit_tuple_list | exact kit_tuple_dict | exact kit_list_bool | exact kit_list_int | exact kit_list_str | exact kit_list_tuple | exact kit_list_list | exact kit_list_dict | exact kit_dict_bool | exact kit_dict_int | exact kit_dict_str | exact kit_dict_tuple | exact kit_dict_list | exact kit_dict_dict) ?_
  | with_reducible refine w_int1 ?_
  | with_reducible refine w_fn1 ?_
  | with_reducible refine w_fn2 ?_
  | with_reducible refine w_fn3 ?_
  | with_reducible refine w_penC1 (by with_unfolding_all exact rfl) ?_
  | with_reducible refine w_penC2 (by with_unfolding_all exact rfl) ?_))
theorem fIx_walk {K : List Nm} {W : Nm → List Nm} {x : Nm} (hK : K.Nodup) (hx : x ∈ K) : fIx (walkD false K W fun _ => false) (.str x.1) = some (.nd (.lst false) ((W x).map Dt.d)) := by
  obtain ⟨j, hj, ej⟩ := List.mem_iff_getElem.mp hx
  have hj' : K[j]? = some x := by rw [List.getElem?_eq_getElem hj, ej]
  show (findK (K.map kN) (.inr x.1)).bind _ = _
  rw [findK_at hK hj', Option.bind_some, List.getElem?_map, hj']
  show some (D.nd (.lst false) ((W x).map Dt.d)).frz = _
  rw [frz_lstF]
theorem walkF_map (K : List Nm) (W : Nm → List Nm) : (K.map fun x => D.nd (.lst false) ((W x).map Dt.d)).map D.frz = K.map fun x => D.nd (.lst false) ((W x).map Dt.d) := by
  rw [List.map_map]
  exact List.map_congr_left fun x _ => frz_lstF _
theorem fIx_m2 {o : Bool} {A : List D} {u v : D} : fIx (.nd (.lst o) (A ++ [u, v])) (.int (-2)) = some u.frz := by
  show (ixN (A ++ [u, v]).length (-2)).bind _ = _
  have : ixN (A ++ [u, v]).length (-2) = some A.length := by
    unfold ixN
    rw [if_neg (by omega), List.length_append, if_pos (by simp; omega)]
    congr 1
    simp; omega
  rw [this, Option.bind_some]
  simp
section
variable {ρ : DL.Env} {E : DL.XE} {K : List Nm} {W : Nm → List Nm}
theorem w_fdV {i : Nat} {x : Nm} {P : Pl → DL.Env → Prop} (e : ρ[i]? = some (some (walkD false K W fun _ => false))) (hK : K.Nodup) (hx : x ∈ K) (h : P (.vl (.nd (.lst false) ((W x).map Dt.d))) ρ) : Wp (pixA (.at i []) (.str x.1)) ρ P E :=
  w_pixF (atP_nil e) rfl (walkD_frz _ _ _ _) (fIx_walk hK hx) h
end
theorem fAdd_non {L : List Nm} (hl : L.length ≤ 900) : fAdd (.nd (.lst true) [.non]) (.nd (.lst false) (L.map Dt.d)) = some (.nd (.lst true) (.non :: L.map Dt.d)) := by
  show (if [D.non].length + (L.map (Dt.d : Nm → D)).length ≤ sizeLine then some (D.nd (.lst true) (([D.non] ++ L.map Dt.d).map D.frz)) else none) = _
  rw [if_pos (by rw [List.length_map]; exact len_line _ (by simp; omega)), List.map_append, Dt.mfz]; rfl
theorem right_spec {pl K : List Nm} {ws : List Way} {r x : Nm} {q : Nm → Nm} {rk : Nm → Nat} {W : Nm → List Nm} (h : TreeOk pl ws r q rk) (hK : K.Perm pl) (hs : ∀ p : Nm → Bool, srt (K.filter p) = pl.filter p) (hx : x ∈ pl) (hW0 : W r = [r]) (hW1 : ∀ y ∈ pl, y ≠ r → W y = W (q y) ++ [y]) (hWl : ∀ y ∈ pl, (W y).length ≤ 900) :
    FnOk1 F__law_right [webD pl ws, walkD false K W fun _ => false, .str x.1] (fun d => d = .bl true) := by
  have hKn := hK.nodup_iff.mpr h.nd
  have hm : ∀ {y}, y ∈ K ↔ y ∈ pl := fun {y} => hK.mem_iff
  have hend : ∀ s ∈ pl, ∃ L, W s = L ++ [s] := fun s hs => by
    by_cases hr : s = r
    · subst hr; exact ⟨[], hW0⟩
    · exact ⟨_, hW1 s hs hr⟩
  have two : ∀ y ∈ pl, y ≠ r → ∃ L, W y = L ++ [q y, y] := fun y hy hr => by
    obtain ⟨L, hL⟩ := hend (q y) (h.ps y hy hr).1
    exact ⟨L, by rw [hW1 y hy hr, hL]; simp⟩
  have hKl : K.length ≤ 900 := by rw [hK.length_eq]; exact h.lp
  have hfz := webD_frz pl ws
  refine fok_mk [some (webD pl ws), some (walkD false K W fun _ => false), some (.str x.1), none, none, none, none, none, none, none, none] rfl ?_
  unfold m__law_right
  walk_at "di"
  refine w_fdV rfl hKn (hm.mpr hx) ?_
  refine w_rdV ?_
  refine w_lft (fAdd_non (hWl x hx)) ?_
  walk_at "di"
  have hab : fIx (.nd (.lst true) (.non :: (W x).map Dt.d)) (.int (-2)) = some (upD r q x) := by
    unfold upD
    by_cases hr : x = r
    · rw [if_pos hr, hr, hW0]
      exact fIx_m2 (A := [])
    · obtain ⟨L, hL⟩ := two x hx hr
      rw [if_neg hr, hL, List.map_append]
      exact fIx_m2 (A := .non :: L.map Dt.d)
  refine w_lft hab ?_
  have hun : fNe (upD r q x) (upD r q x) = some (.bl false) := fNe_up r q x
  have huz := upD_frz r q x
  have huc : upD r q x = .non ∨ ∃ y : Nm, upD r q x = .str y.1 := by
    unfold upD
    by_cases hr : x = r
    · rw [if_pos hr]; exact .inl rfl
    · rw [if_neg hr]; exact .inr ⟨_, rfl⟩
  have hpar := parent_spec h hx
  generalize upD r q x = u at hun huz huc hpar ⊢
  walk_at "di"
  refine w_lcK rfl ?_
  rw [walkF_map]
  walk_at "di"
  rw [show dkItems .ks (K.map kN) (K.map fun x => D.nd (.lst false) ((W x).map Dt.d)) = K.map Dt.d by show (K.map kN).map keyD = _; rw [List.map_map]; rfl]
  refine w_cmF (l := K) [some (webD pl ws), some (walkD false K W fun _ => false), some (.str x.1), some u, none, none, none, none, none, none, none] (fun a => decide (a ≠ r ∧ q a = x)) id rfl (by omega) ?_ ?_
  · intro a ha
    have hap := hm.mp ha
    walk_at "di"
    refine ⟨rfl, ?_⟩
    walk_at "di"
    refine w_vw (w_pix (w_pv rfl ?_))
    walk_at "di"
    refine w_fdV (x := a) rfl hKn ha ?_
    walk_at "di"
    rw [List.length_map]
    refine w_by (fun hc => ?_) (fun hc => ?_)
    · have har : a ≠ r := fun e => by rw [e, hW0] at hc; simp at hc
      obtain ⟨L, hL⟩ := two a hap har
      walk_at "di"
      refine w_pix (w_pix (w_pv rfl ?_))
      walk_at "di"
      refine w_fdV (x := a) rfl hKn ha ?_
      walk_at "di"
      refine w_pixV (x := .str (q a).1) (by rw [hL, List.map_append]; exact fIx_m2) ?_
      walk_at "di"
      refine ⟨decide_eq_decide.mpr ⟨fun e => ⟨har, e⟩, fun e => e.2⟩, fun _ => ?_, fun _ => rfl⟩
      walk_at "di"
      exact ⟨rfl, rfl⟩
    · have har : a = r := Classical.byContradiction fun har => by
        obtain ⟨L, hL⟩ := two a hap har
        rw [hL] at hc; simp at hc; omega
      refine ⟨(decide_eq_false fun k => k.1 har).symm, (fun h => nomatch h), fun _ => rfl⟩
  rw [List.map_id]
  refine w_sort ?_
  rw [hs]
  walk_at "di"
  refine w_lcK rfl ?_
  rw [walkF_map]
  walk_at "di"
  rw [show dkItems .ks (K.map kN) (K.map fun x => D.nd (.lst false) ((W x).map Dt.d)) = K.map Dt.d by show (K.map kN).map keyD = _; rw [List.map_map]; rfl]
  refine w_cmF (l := K) [some (webD pl ws), some (walkD false K W fun _ => false), some (.str x.1), some u, some (.nd (.lst true) ((pl.filter fun a => decide (a ≠ r ∧ q a = x)).map Dt.d)), none, none, none, none, none, none] (fun a => decide (x ∈ W a)) id rfl (by omega) ?_ ?_
  · intro a ha
    have hap := hm.mp ha
    walk_at "di"
    refine ⟨rfl, ?_⟩
    walk_at "di"
    refine w_pix (w_pv rfl ?_)
    walk_at "di"
    refine w_fdV (x := a) rfl hKn ha ?_
    walk_at "di"
    refine ⟨rfl, fun _ => ?_, fun _ => rfl⟩
    walk_at "di"
    exact ⟨rfl, rfl⟩
  rw [List.map_id]
  refine w_sort ?_
  rw [hs]
  walk_at "di"
  refine ⟨_, _, _, hfz, rfl, hpar, ?_⟩
  rintro a rfl
  walk_at "di"
  refine w_seq (w_ifK false [some (webD pl ws), some (walkD false K W fun _ => false), some (.str x.1), some a, some (.nd (.lst true) ((pl.filter fun a => decide (a ≠ r ∧ q a = x)).map Dt.d)), some (.nd (.lst true) ((pl.filter fun a => decide (x ∈ W a)).map Dt.d)), some a, none, none, none, none] ?_ (fun h => nomatch h) fun _ => ?_)
  · rcases huc with e | ⟨y, e⟩
    · subst e
      walk_at "di"
      refine ⟨(fun h => nomatch h), fun _ => ?_⟩
      refine w_ff ?_
      walk_at "di"
      refine w_lft hun ?_
      walk_at "di"
      exact ⟨rfl, rfl⟩
    · subst e
      walk_at "di"
      refine ⟨fun _ => ?_, (fun h => nomatch h)⟩
      walk_at "di"
      exact ⟨by simp, rfl⟩
  walk_at "di"
  refine w_seq ?_
  walk_at "di"
  have hlp := h.lp
  refine w_loop (I := fun _ ρ => ∃ o7 o8 o9 : Option D, ρ = [some (webD pl ws), some (walkD false K W fun _ => false), some (.str x.1), some a, some (.nd (.lst true) ((pl.filter fun a => decide (a ≠ r ∧ q a = x)).map Dt.d)), some (.nd (.lst true) ((pl.filter fun a => decide (x ∈ W a)).map Dt.d)), some a, o7, o8, o9, none]) ⟨_, _, _, rfl⟩ ?_ ?_
  · rintro j d hd ρ ⟨o7, o8, o9, rfl⟩
    walk_at "di"
    refine ⟨_, _, _, hfz, rfl, children_spec h hx, ?_⟩
    rintro _ rfl
    walk_at "di"
    refine ⟨_, _, _, hfz, rfl, below_spec h hx hW0 hW1, ?_⟩
    rintro _ rfl
    walk_at "di"
    refine w_seq ?_
    walk_at "di"
    refine w_neL ?_
    rw [decide_eq_true rfl]
    walk_at "di"
    refine w_neL ?_
    rw [decide_eq_true rfl]
    walk_at "di"
    refine ⟨_, _, rfl, rfl, by rw [List.length_map]; have := List.length_filter_le (fun a => decide (a ≠ r ∧ q a = x)) pl; omega, ?_⟩
    walk_at "di"
    refine w_clear rfl ?_
    exact ⟨_, _, _, rfl⟩
  · rintro ρ ⟨o7, o8, o9, rfl⟩
    walk_at "di"
    exact ⟨rfl, by show [D.frz _, D.frz _, D.frz _] = _; rw [webD_frz, walkD_frz]; rfl⟩

end Wk
namespace Wk
open PySem PySem.Spec L2 DL
open PySem.W (Tup T3 T4 minOf maxOf Datum DatumOrd)
local macro_rules | `(tactic| walk_at "di") => `(tactic| (
  repeat (first
  | with_reducible refine w_seqA ?_
  | with_reducible refine w_seqE ?_
  | with_reducible refine w_seqR ?_
  | with_reducible refine w_kq ?_
  | with_reducible refine w_asg ?_
  | with_reducible refine w_if ?_
  | with_reducible refine w_B ?_
  | with_reducible refine w_P2 ?_
  | with_reducible refine w_vl ?_
  | with_reducible refine w_m2 ?_
  | with_reducible refine w_pur ?_
  | with_reducible refine w_plv ?_
  | with_reducible refine w_var (by with_unfolding_all exact rfl) (by first | with_unfolding_all exact rfl | assumption | exact frz_lstF _ | exact frz_tupD _ | exact Dt.fz _) ?_
  | with_reducible refine w_varL (by with_unfolding_all exact rfl) (by first | exact Dt.mfz _ | with_unfolding_all exact rfl) ?_
  | with_reducible refine w_app (by with_unfolding_all exact rfl) ?_
  | with_reducible refine w_inN ?_
  | with_reducible refine w_eqN ?_
  | with_reducible refine w_neN ?_
  | with_reducible refine w_minN ?_
  | with_reducible refine w_maxN ?_
  | with_reducible refine w_lcC ?_
  | with_reducible refine w_intB ?_
  | with_reducible refine w_ix2 ?_
  | with_reducible refine w_lstRg ?_
  | with_reducible refine w_yes ?_
  | with_reducible refine w_tgW ?_
  | with_reducible refine w_tgNI ?_
  | with_reducible refine w_tgNN ?_
  | with_reducible refine w_pv (by with_unfolding_all exact rfl) ?_
  | with_reducible refine w_tgN' (by with_unfolding_all exact rfl) ?_
  | with_reducible refine w_lk (by with_unfolding_all exact rfl) ?_
  | with_reducible refine w_toB ?_
  | with_reducible refine w_not ?_
  | with_reducible refine w_andT ?_
  | with_reducible refine w_orT ?_
  | with_reducible refine w_C ?_
  | with_reducible refine w_CB ?_
  | with_reducible refine w_v1 ?_
  | with_reducible refine w_exp ?_
  | with_reducible refine w_ret ?_
  | with_reducible refine w_rt ?_
  | with_reducible refine w_tt ?_
  | with_reducible refine w_ff ?_
  | with_reducible refine w_nt ?_
  | with_reducible refine w_nf ?_
  | with_reducible refine w_add ?_
  | with_reducible refine w_sub ?_
  | with_reducible refine w_lt ?_
  | with_reducible refine w_le ?_
  | with_reducible refine w_gt ?_
  | with_reducible refine w_ge ?_
  | with_reducible refine w_eq ?_
  | with_reducible refine w_ne ?_
  | with_reducible refine w_len ?_
  | with_reducible refine w_abs ?_
  | with_reducible refine w_neg ?_
  | with_reducible refine w_is ?_
  | with_reducible refine w_isNot ?_
  | with_reducible refine w_tm ?_
  | with_reducible refine w_tgs0 ?_
  | with_reducible refine w_tgsC ?_
  | with_reducible refine w_andV ?_
  | with_reducible refine w_orV ?_
  | with_reducible refine w_notV ?_
  | with_reducible refine w_chain ?_
  | with_reducible refine w_ifE ?_
  | with_reducible refine w_isi ?_
  | with_reducible refine w_isi2 ?_
  | with_reducible refine w_dic ?_
  | with_reducible refine w_pr ?_
  | with_reducible refine w_un ?_
  | with_reducible refine w_slice ?_
  | with_reducible refine w_for ?_
  | with_reducible refine w_lst ?_
  | with_reducible refine w_tup ?_
  | with_reducible refine w_mov (by with_unfolding_all exact rfl) ?_
  | with_reducible refine w_penL (by with_unfolding_all exact rfl) ?_
  | with_reducible refine w_penA (by with_unfolding_all exact rfl) ?_
  | with_reducible refine w_penS (by with_unfolding_all exact rfl) ?_
  | with_reducible refine w_pl0 (by with_unfolding_all exact rfl) ?_
  | with_reducible refine w_sl (by with_unfolding_all exact rfl) ?_
  | with_reducible refine w_tgT (by with_unfolding_all exact rfl) ?_
  | with_reducible refine w_toK (by with_unfolding_all exact rfl) ?_
  | with_reducible refine w_rix (by with_unfolding_all exact rfl) ?_
  | with_reducible refine w_rixs (by with_unfolding_all exact rfl) ?_
  | with_reducible refine w_penG (by with_unfolding_all exact rfl) ix_left ?_
  | with_reducible refine w_penG (by with_unfolding_all exact rfl) ix_at ?_
  | with_reducible refine w_penG (by with_unfolding_all exact rfl) ix_script ?_
  | with_reducible refine w_pl1 (by with_unfolding_all exact rfl) (by with_unfolding_all exact rfl) (by with_unfolding_all exact rfl) ?_
  | with_reducible refine w_mod (by omega) ?_
  | with_reducible refine w_div (by omega) ?_
  | with_reducible refine w_mulR (by omega) ?_
  | with_reducible refine w_mulL (by omega) ?_
  | with_reducible refine w_pow6 ?_
  | with_reducible refine w_pow9 ?_
  | with_reducible refine w_pow13 ?_
  | with_reducible refine w_pow17 ?_
  | with_reducible refine w_pow18 ?_
  | with_reducible refine w_pow20 ?_
  | with_reducible refine w_pow25 ?_
  | with_reducible refine w_pow27 ?_
  | with_reducible refine w_pow28 ?_
  | with_reducible refine w_pow29 ?_
  | with_reducible refine w_pow30 ?_
  | with_reducible refine w_ln (by with_unfolding_all exact rfl) ?_
  | with_reducible refine w_range1 ?_
  | with_reducible refine w_range2 ?_
  | with_reducible refine w_part ?_
  | with_reducible refine w_it ?_
  | with_reducible refine w_rgE (by omega) ?_
  | with_reducible refine w_rgE2 (by omega) (by omega) ?_
  | with_reducible refine w_take takeOk (by with_unfolding_all exact rfl) ?_
  | with_reducible refine w_isiK (by with_unfolding_all exact rfl) (by first | exact kit_NoneType_bool | exact kit_NoneType_int | exact kit_NoneType_str | exact kit_NoneType_tuple | exact kit_NoneType_list | exact kit_NoneType_dict | exact kit_bool_bool | exact kit_bool_int | exact kit_bool_str | exact kit_bool_tuple | exact kit_bool_list | exact kit_bool_dict | exact kit_int_bool | exact kit_int_int | exact kit_int_str | exact kit_int_tuple | exact kit_int_list | exact kit_int_dict | exact kit_str_bool | exact kit_str_int | exact kit_str_str | exact kit_str_tuple | exact kit_str_list | exact kit_str_dict | exact kit_tuple_bool | exact kit_tuple_int | exact kit_tuple_str | exact kit_tuple_tuple | exact kit_tuple_list | exact kit_tuple_dict | exact kit_list_bool | exact kit_list_int | exact kit_list_str | exact kit_list_tuple | exact kit_list_list | exact kit_list_dict | exact kit_dict_bool | exact kit_dict_int | exact kit_dict_str | exact kit_dict_tuple | exact kit_dict_list | exact kit_dict_dict) ?_
  | with_reducible refine w_isiK2 (by with_unfolding_all exact rfl) (by first | exact kit_NoneType_bool | exact kit_NoneType_int | exact kit_NoneType_str | exact kit_NoneType_tuple | exact kit_NoneType_list | exact kit_NoneType_dict | exact kit_bool_bool | exact kit_bool_int | exact kit_bool_str | exact kit_bool_tuple | exact kit_bool_list | exact kit_bool_dict | exact kit_int_bool | exact kit_int_int | exact kit_int_str | exact kit_int_tuple | exact kit_int_list | exact kit_int_dict | exact kit_str_bool | exact kit_str_int | exact kit_str_str | exact kit_str_tuple | exact kit_str_list | exact kit_str_dict | exact kit_tuple_bool | exact kit_tuple_int | exact kit_tuple_str | exact kit_tuple_tuple | exact kit_tuple_list | exact kit_tuple_dict | exact kit_list_bool | exact kit_list_int | exact kit_list_str | exact kit_list_tuple | exact kit_list_list | exact kit_list_dict | exact kit_dict_bool | exact kit_dict_int | exact kit_dict_str | exact kit_dict_tuple | exact kit_dict_list | exact kit_dict_dict) (by first | exact kit_NoneType_bool | exact kit_NoneType_int | exact kit_NoneType_str | exact kit_NoneType_tuple | exact kit_NoneType_list | exact kit_NoneType_dict | exact kit_bool_bool | exact kit_bool_int | exact kit_bool_str | exact kit_bool_tuple | exact kit_bool_list | exact kit_bool_dict | exact kit_int_bool | exact kit_int_int | exact kit_int_str | exact kit_int_tuple | exact kit_int_list | exact kit_int_dict | exact kit_str_bool | exact kit_str_int | exact kit_str_str | exact kit_str_tuple | exact kit_str_list | exact kit_str_dict | exact kit_tuple_bool | exact kit_tuple_int | exact kit_tuple_str | exact kit_tuple_tuple | exact kit_tuple_list | exact kit_tuple_dict | exact kit_list_bool | exact kit_list_int | exact kit_list_str | exact kit_list_tuple | exact kit_list_list | exact kit_list_dict | exact kit_dict_bool | exact kit_dict_int | exact kit_dict_str | exact kit_dict_tuple | exact kit_dict_list | exact kit_dict_dict) ?_
  | with_reducible refine w_int1 ?_
  | with_reducible refine w_fn1 ?_
  | with_reducible refine w_fn2 ?_
  | with_reducible refine w_fn3 ?_
  | with_reducible refine w_penC1 (by with_unfolding_all exact rfl) ?_
  | with_reducible refine w_penC2 (by with_unfolding_all exact rfl) ?_)
  have dl_z := True.intro
  clear dl_z))
local macro_rules | `(tactic| walk_at "dl") => `(tactic| repeat (first
  | with_reducible refine w_seq ?_
  | with_reducible refine w_kq ?_
  | with_reducible refine w_asg ?_
  | with_reducible refine w_if ?_
  | with_reducible refine w_B ?_
  | with_reducible refine w_P2 ?_
  | with_reducible refine w_vl ?_
  | with_reducible refine w_m2 ?_
  | with_reducible refine w_pur ?_
  | with_reducible refine w_plv ?_
  | with_reducible refine w_var (by with_unfolding_all exact rfl) (by first | with_unfolding_all exact rfl | assumption | exact frz_lstF _ | exact frz_tupD _ | exact Dt.fz _) ?_
  | with_reducible refine w_varL (by with_unfolding_all exact rfl) (by first | exact Dt.mfz _ | with_unfolding_all exact rfl) ?_
  | with_reducible refine w_app (by with_unfolding_all exact rfl) ?_
  | with_reducible refine w_inN ?_
  | with_reducible refine w_eqN ?_
  | with_reducible refine w_neN ?_
  | with_reducible refine w_minN ?_
  | with_reducible refine w_maxN ?_
  | with_reducible refine w_lcC ?_
  | with_reducible refine w_intB ?_
  | with_reducible refine w_ix2 ?_
  | with_reducible refine w_lstRg ?_
  | with_reducible refine w_yes ?_
  | with_reducible refine w_tgW ?_
  | with_reducible refine w_tgNI ?_
  | with_reducible refine w_tgNN ?_
  | with_reducible refine w_pv (by with_unfolding_all exact rfl) ?_
  | with_reducible refine w_tgN' (by with_unfolding_all exact rfl) ?_
  | with_reducible refine w_lk (by with_unfolding_all exact rfl) ?_
  | with_reducible refine w_toB ?_
  | with_reducible refine w_not ?_
  | with_reducible refine w_andT ?_
  | with_reducible refine w_orT ?_
  | with_reducible refine w_C ?_
  | with_reducible refine w_CB ?_
  | with_reducible refine w_v1 ?_
  | with_reducible refine w_exp ?_
  | with_reducible refine w_ret ?_
  | with_reducible refine w_rt ?_
  | with_reducible refine w_tt ?_
  | with_reducible refine w_ff ?_
  | with_reducible refine w_nt ?_
  | with_reducible refine w_nf ?_
  | with_reducible refine w_add ?_
  | with_reducible refine w_sub ?_
  | with_reducible refine w_lt ?_
  | with_reducible refine w_le ?_
  | with_reducible refine w_gt ?_
  | with_reducible refine w_ge ?_
  | with_reducible refine w_eq ?_
  | with_reducible refine w_ne ?_
  | with_reducible refine w_len ?_
  | with_reducible refine w_abs ?_
  | with_reducible refine w_neg ?_
  | with_reducible refine w_is ?_
  | with_reducible refine w_isNot ?_
  | with_reducible refine w_tm ?_
  | with_reducible refine w_tgs0 ?_
  | with_reducible refine w_tgsC ?_
  | with_reducible refine w_andV ?_
  | with_reducible refine w_orV ?_
  | with_reducible refine w_notV ?_
  | with_reducible refine w_chain ?_
  | with_reducible refine w_ifE ?_
  | with_reducible refine w_isi ?_
  | with_reducible refine w_isi2 ?_
  | with_reducible refine w_dic ?_
  | with_reducible refine w_pr ?_
  | with_reducible refine w_un ?_
  | with_reducible refine w_slice ?_
  | with_reducible refine w_for ?_
  | with_reducible refine w_lst ?_
  | with_reducible refine w_tup ?_
  | with_reducible refine w_mov (by with_unfolding_all exact rfl) ?_
  | with_reducible refine w_penL (by with_unfolding_all exact rfl) ?_
  | with_reducible refine w_penA (by with_unfolding_all exact rfl) ?_
  | with_reducible refine w_penS (by with_unfolding_all exact rfl) ?_
  | with_reducible refine w_pl0 (by with_unfolding_all exact rfl) ?_
  | with_reducible refine w_sl (by with_unfolding_all exact rfl) ?_
  | with_reducible refine w_tgT (by with_unfolding_all exact rfl) ?_
  | with_reducible refine w_toK (by with_unfolding_all exact rfl) ?_
  | with_reducible refine w_rix (by with_unfolding_all exact rfl) ?_
  | with_reducible refine w_rixs (by with_unfolding_all exact rfl) ?_
  | with_reducible refine w_penG (by with_unfolding_all exact rfl) ix_left ?_
  | with_reducible refine w_penG (by with_unfolding_all exact rfl) ix_at ?_
  | with_reducible refine w_penG (by with_unfolding_all exact rfl) ix_script ?_
  | with_reducible refine w_pl1 (by with_unfolding_all exact rfl) (by with_unfolding_all exact rfl) (by with_unfolding_all exact rfl) ?_
  | with_reducible refine w_mod (by omega) ?_
  | with_reducible refine w_div (by omega) ?_
  | with_reducible refine w_mulR (by omega) ?_
  | with_reducible refine w_mulL (by omega) ?_
  | with_reducible refine w_pow6 ?_
  | with_reducible refine w_pow9 ?_
  | with_reducible refine w_pow13 ?_
  | with_reducible refine w_pow17 ?_
  | with_reducible refine w_pow18 ?_
  | with_reducible refine w_pow20 ?_
  | with_reducible refine w_pow25 ?_
  | with_reducible refine w_pow27 ?_
  | with_reducible refine w_pow28 ?_
  | with_reducible refine w_pow29 ?_
  | with_reducible refine w_pow30 ?_
  | with_reducible refine w_ln (by with_unfolding_all exact rfl) ?_
  | with_reducible refine w_range1 ?_
  | with_reducible refine w_range2 ?_
  | with_reducible refine w_part ?_
  | with_reducible refine w_it ?_
  | with_reducible refine w_rgE (by omega) ?_
  | with_reducible refine w_rgE2 (by omega) (by omega) ?_
  | with_reducible refine w_take takeOk (by with_unfolding_all exact rfl) ?_
  | with_reducible refine w_isiK (by with_unfolding_all exact rfl) (by first | exact kit_NoneType_bool | exact kit_NoneType_int | exact kit_NoneType_str | exact kit_NoneType_tuple | exact kit_NoneType_list | exact kit_NoneType_dict | exact kit_bool_bool | exact kit_bool_int | exact kit_bool_str | exact kit_bool_tuple | exact kit_bool_list | exact kit_bool_dict | exact kit_int_bool | exact kit_int_int | exact kit_int_str | exact kit_int_tuple | exact kit_int_list | exact kit_int_dict | exact kit_str_bool | exact kit_str_int | exact kit_str_str | exact kit_str_tuple | exact kit_str_list | exact kit_str_dict | exact kit_tuple_bool | exact kit_tuple_int | exact kit_tuple_str | exact kit_tuple_tuple | exact kit_tuple_list | exact kit_tuple_dict | exact kit_list_bool | exact kit_list_int | exact kit_list_str | exact kit_list_tuple | exact kit_list_list | exact kit_list_dict | exact kit_dict_bool | exact kit_dict_int | exact kit_dict_str | exact kit_dict_tuple | exact kit_dict_list | exact kit_dict_dict) ?_
  | with_reducible refine w_isiK2 (by with_unfolding_all exact rfl) (by first | exact kit_NoneType_bool | exact kit_NoneType_int | exact kit_NoneType_str | exact kit_NoneType_tuple | exact kit_NoneType_list | exact kit_NoneType_dict | exact kit_bool_bool | exact kit_bool_int | exact kit_bool_str | exact kit_bool_tuple | exact kit_bool_list | exact kit_bool_dict | exact kit_int_bool | exact kit_int_int | exact kit_int_str | exact kit_int_tuple | exact kit_int_list | exact kit_int_dict | exact kit_str_bool | exact kit_str_int | exact kit_str_str | exact kit_str_tuple | exact kit_str_list | exact kit_str_dict | exact kit_tuple_bool | exact kit_tuple_int | exact kit_tuple_str | exact kit_tuple_tuple | exact kit_tuple_list | exact kit_tuple_dict | exact kit_list_bool | exact kit_list_int | exact kit_list_str | exact kit_list_tuple | exact kit_list_list | exact kit_list_dict | exact kit_dict_bool | exact kit_dict_int | exact kit_dict_str | exact kit_dict_tuple | exact kit_dict_list | exact kit_dict_dict) (by first | exact kit_NoneType_bool | exact kit_NoneType_int | exact kit_NoneType_str | exact kit_NoneType_tuple | exact kit_NoneType_list | exact kit_NoneType_dict | exact kit_bool_bool | exact kit_bool_int | exact kit_bool_str | exact kit_bool_tuple | exact kit_bool_list | exact kit_bool_dict | exact kit_int_bool | exact kit_int_int | exact kit_int_str | exact kit_int_tuple | exact kit_int_list | exact kit_int_dict | exact kit_str_bool | exact kit_str_int | exact kit_str_str | exact kit_str_tuple | exact kit_str_list | exact kit_str_dict | exact kit_tuple_bool | exact kit_tuple_int | exact kit_tuple_str | exact kit_tuple_tuple | exact kit_tuple_list | exact kit_tuple_dict | exact kit_list_bool | exact kit_list_int | exact kit_list_str | exact kit_list_tuple | exact kit_list_list | exact kit_list_dict | exact kit_dict_bool | exact kit_dict_int | exact kit_dict_str | exact kit_dict_tuple | exact kit_dict_list | exact kit_dict_dict) ?_
  | with_reducible refine w_int1 ?_
  | with_reducible refine w_fn1 ?_
  | with_reducible refine w_fn2 ?_
  | with_reducible refine w_fn3 ?_
  | with_reducible refine w_penC1 (by with_unfolding_all exact rfl) ?_
  | with_reducible refine w_penC2 (by with_unfolding_all exact rfl) ?_))
theorem plain (ns : List Int) (hl : ns.length ≤ 63) : ∃ ds', F_law [.nd .scr (ns.map D.int)] = .ok (.bl true) ds' := by
  have h : FOk F_law [.nd .scr (ns.map D.int)] (fun d _ => d = .bl true) NoF := by
    have hf := scr_frz ns
    refine fok_mk [some (.nd .scr (ns.map .int)), none, none, none, none, none, none, none] rfl ?_
    unfold m_law
    walk_at "di"
    refine ⟨_, _, hf, pen_spec ns, ?_⟩
    rintro _ ⟨p, rfl⟩
    walk_at "di"
    refine w_seq ?_
    walk_at "di"
    refine w_loop (I := fun _ ρ => ∃ (p : Pen) (o2 o3 o4 o5 o6 o7 : Option D), ρ = [some (.nd .scr (ns.map .int)), some p.d, o2, o3, o4, o5, o6, o7]) ⟨p, _, _, _, _, _, _, rfl⟩ ?_ ?_
    · rintro k d hd ρ ⟨p, o2, o3, o4, o5, o6, o7, rfl⟩
      obtain ⟨rfl, hkr⟩ := range_get hd
      walk_at "di"
      refine w_tkE rfl ?_ fun r p1 h0 h1 => ?_
      · omega
      walk_at "di"
      refine w_seqC (fun ρ => ∃ (p : Pen) (many : Int) (o2 o4 o5 o6 o7 : Option D), ρ = [some (.nd .scr (ns.map .int)), some p.d, o2, some (.int many), o4, o5, o6, o7] ∧ 1 ≤ many ∧ many ≤ 30) ?_ ?_
      · walk_at "di"
        refine w_tkE rfl ?_ fun r p1 h2 h3 => ?_
        · omega
        walk_at "di"
        refine w_by (fun hc => ?_) (fun hc => ?_)
        · walk_at "di"
          exact ⟨rfl, _, _, _, _, _, _, _, rfl, by omega, by omega⟩
        · walk_at "di"
          exact ⟨rfl, _, _, _, _, _, _, _, rfl, by omega, by omega⟩
      rintro ρ ⟨p, many, o2, o4, o5, o6, o7, rfl, hm1, hm2⟩
      walk_at "di"
      refine ⟨rfl, _, _, rfl, names_spec many hm1 hm2, ?_⟩
      rintro _ p1 ⟨l, rfl, hll, hn⟩
      have hl1 : 1 ≤ l.length := by omega
      have hl30 : l.length ≤ 30 := by omega
      walk_at "di"
      refine ⟨rfl, _, _, frz_lstF l, tree_spec hn hl1 hl30, ?_⟩
      rintro _ p2 ⟨ws, rfl, hweb, hfew⟩
      have hwl := hweb.len
      have hends := hweb.ends hn
      obtain ⟨a0, l0, hl0⟩ : ∃ a0 l0, l = a0 :: l0 := by
        cases l with
        | nil => simp at hl1
        | cons x xs => exact ⟨x, xs, rfl⟩
      have hws := walks_spec (a0 := a0) (l0 := l0) (ws := ws) (hl0 ▸ hn) (hl0 ▸ hl30) hwl (fun w hw => by rw [← hl0]; have := hends w hw; exact ⟨this.1, this.2.1, this.2.2.1⟩) (hl0 ▸ hweb.con)
      rw [← hl0] at hws
      walk_at "di"
      refine ⟨_, _, _, frz_lstF l, frz_lstF ws, hws, ?_⟩
      rintro _ ⟨K, q, W, o, rfl, hK, hW⟩
      have hr : minOf a0 l0 ∈ l := hW.sub _ hW.rt
      have htree : TreeOk (srt l) (srt (ws.map ordW)) (minOf a0 l0) q (fun x => K.idxOf x) := by
        refine ⟨srt_nodup hn, by rw [srt_len]; omega, by rw [srt_len, List.length_map]; omega, fun w hw => ?_, ?_, hweb.con.ord, by rw [srt_len, srt_len, List.length_map]; exact hfew, fun x hx hxr => ?_, fun x => ?_⟩
        · have := ends_ord hends w hw
          exact ⟨this.1, this.2.1, this.2.2.1⟩
        · rw [hl0]; exact srt_head a0 l0
        · obtain ⟨a1, a2, a3⟩ := hW.ps x (hK.mem_iff.mpr (srt_mem.mp hx)) hxr
          exact ⟨srt_mem.mpr (hK.mem_iff.mp a1), adj_ord.mpr a2, a3⟩
        · have h1 := List.idxOf_le_length (a := x) (l := K)
          have h2 := hK.length_eq
          show K.idxOf x ≤ 5000
          omega
      walk_at "di"
      refine w_itL ?_
      refine w_loop (I := fun _ ρ => ∃ (b : Bool) (o : Nm → Bool) (o7 : Option D), ρ = [some (.nd .scr (ns.map .int)), some p2.d, o2, some (.int many), some (.nd (.lst false) (l.map Dt.d)), some (.nd (.lst false) (ws.map Dt.d)), some (walkD b K W o), o7]) ⟨_, _, _, rfl⟩ ?_ ?_
      · rintro j d hd ρ ⟨b, o, o7, rfl⟩
        obtain ⟨x, hx, rfl⟩ := map_get hd
        have hxl : x ∈ l := List.mem_of_getElem? hx
        walk_at "di"
        refine ⟨_, _, _, frz_lstF l, frz_lstF ws, laid_spec hwl, ?_⟩
        rintro _ rfl
        walk_at "di"
        refine w_varF rfl ?_
        rw [walkD_frz]
        walk_at "di"
        refine ⟨_, _, _, _, webD_frz _ _, walkD_frz _ _ _ _, rfl, right_spec htree (hK.trans (srt_perm l).symm) (fun p => srtN_filter p hK) (srt_mem.mpr hxl) hW.w0 (fun y hy hyr => hW.w1 y (hK.mem_iff.mpr (srt_mem.mp hy)) hyr) (fun y hy => by
          have h1 := hW.len y (hK.mem_iff.mpr (srt_mem.mp hy))
          have h2 := hK.length_eq
          omega), ?_⟩
        rintro _ rfl
        walk_at "di"
        exact ⟨_, _, _, rfl⟩
      · rintro ρ ⟨b, o, o7, rfl⟩
        exact ⟨_, _, _, _, _, _, _, rfl⟩
    · rintro ρ ⟨p, o2, o3, o4, o5, o6, o7, rfl⟩
      walk_at "di"
      rfl
  obtain ⟨d, ds', h1, h2⟩ := h.ok
  exact ⟨ds', by rw [h1, h2]⟩

end Wk
open PySem PySem.W PySem.Calls PyProof.Rows
set_option maxRecDepth 100000 in
set_option maxHeartbeats 8000000 in
theorem PySem.Challenge.cw_openhouses_k07_whole_up_and_down_a_tree_holds : PySem.Challenge.rw_openhouses_k07_whole_up_and_down_a_tree.Holds := by
  w_on; o_law
  refine HandSHeadRun.head_any (r := OpenLaw.row PySem.Challenge.rw_openhouses_k07_whole_up_and_down_a_tree) (q := view (OpenLaw.row PySem.Challenge.rw_openhouses_k07_whole_up_and_down_a_tree).prog [16]) (H := Wk.hk) (ob := Wk.ob) (M := 20000) (loose := Wk.loose) (d := HandSHeadRun.topDef (OpenLaw.row PySem.Challenge.rw_openhouses_k07_whole_up_and_down_a_tree).prog 16) (kwd := []) Wk.ob_eq
    (by kernel_rfl) (fun s => by kernel_rfl) Wk.run (by kernel_rfl) (by kernel_rfl) (by kernel_rfl) (by rfl) (by first | assumption | decide +kernel) (by decide +kernel) ⟨rfl, rfl, rfl, rfl, rfl, by decide +kernel⟩ ?hw ?hc
  case hw => w_witness2
  case hc =>
    refine DL.walk_ofEw (l := PySem.Challenge.rw_openhouses_k07_whole_up_and_down_a_tree) (n := 63) (k := 5) (x := "_law_script") (CX := fun w => L2.CX (PySem.Challenge.rw_openhouses_k07_whole_up_and_down_a_tree).prog w) rfl (by decide) (by kernel_rfl) ⟨rfl, by decide, by decide⟩ ?F (fun _ _ _ _ _ z => DL.no_exc z)
    intro w mg fa h Y G hmg0
    obtain ⟨K, KX, c⟩ := Y
    have hmg : mg ("law" : PySem.Str) = some (.ref fa) := by
      have e : (HandSHeadRun.topDef (OpenLaw.row PySem.Challenge.rw_openhouses_k07_whole_up_and_down_a_tree).prog 16).name = ("law" : PySem.Str) := by kernel_rfl
      rw [← e]
      exact hmg0
    obtain ⟨fd, hb, hF⟩ := Wk.facts (prog := (PySem.Challenge.rw_openhouses_k07_whole_up_and_down_a_tree).prog) (w := w) KX G hmg c
    exact ⟨K, fd, _, KX, hb, fun H a ns hl _ hS => DL.sp_law hS (Wk.plain ns hl), hF⟩
